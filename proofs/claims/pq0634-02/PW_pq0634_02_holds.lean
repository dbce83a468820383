import PyProof.Rows.All
import PyProof.ExcBaseAll.Exception
import PyProof.ExcInit
import PyProof.InstStoreFacts
import Wide.All
import OpenK.AllK
import Wide.FinOn
import PySem.Challenge.RW_pq0634_02
set_option Elab.async false
set_option linter.unusedVariables false
section
set_option linter.unusedVariables false
namespace Mine
theorem absF {P : Prop} (h : false = true) : P := absurd h Bool.false_ne_true
theorem hideG {P : Prop} (h : ∀ GG : Prop, (P → GG) → GG) : P := h P id
theorem absT {P : Prop} (h : true = false) : P := absurd h.symm Bool.false_ne_true
theorem absN {α : Type _} {a : α} {P : Prop} (h : none = some a) : P := by cases h
theorem absS {α : Type _} {a : α} {P : Prop} (h : some a = none) : P := by cases h
theorem someI {α : Type _} {a b : α} {G : Prop} (h : some a = some b) (k : a = b → G) : G := k (Option.some.inj h)
theorem iteS {β : Sort _} {c : Prop} {d : Decidable c} {x y z : β} {G : Prop} (h : @ite β c d x y = z) (k1 : c → x = z → G) (k2 : ¬c → y = z → G) : G := by
  cases d with
  | isTrue q => exact k1 q h
  | isFalse q => exact k2 q h
theorem optS {α : Type _} {β : Sort _} {o : Option α} {d z : β} {k : α → β} {G : Prop} (h : @Option.casesOn α (fun _ => β) o d k = z) (k1 : ∀ a, o = some a → k a = z → G) (k2 : o = none → d = z → G) : G := by
  cases o with
  | none => exact k2 rfl h
  | some a => exact k1 a rfl h
noncomputable def ifS {α β : Type} (d : β) (o : Option α) (k : α → β) : β := match o with | some a => k a | none => d
theorem ifSR {α β : Type} {G : Prop} {d r : β} {o : Option α} {k : α → β} (k1 : ∀ a, o = some a → k a = r → G) (k2 : o = none → d = r → G) (h : ifS d o k = r) : G := by
  cases o with
  | none => exact k2 rfl h
  | some a => exact k1 a rfl h
theorem boolS {β : Sort _} {b : Bool} {x y z : β} {G : Prop} (h : @Bool.casesOn (fun _ => β) b y x = z) (k1 : b = true → x = z → G) (k2 : b = false → y = z → G) : G := by
  cases b with
  | true => exact k1 rfl h
  | false => exact k2 rfl h
theorem x0_2  {p0 p1 : Prop} {G : Prop} (h : p0 ∧ p1) (k : p0 → p1 → G) : G := by
  obtain ⟨h0, h1⟩ := h
  exact k h0 h1
theorem x0_3  {p0 p1 p2 : Prop} {G : Prop} (h : p0 ∧ p1 ∧ p2) (k : p0 → p1 → p2 → G) : G := by
  obtain ⟨h0, h1, h2⟩ := h
  exact k h0 h1 h2
theorem x0_4  {p0 p1 p2 p3 : Prop} {G : Prop} (h : p0 ∧ p1 ∧ p2 ∧ p3) (k : p0 → p1 → p2 → p3 → G) : G := by
  obtain ⟨h0, h1, h2, h3⟩ := h
  exact k h0 h1 h2 h3
theorem x0_5  {p0 p1 p2 p3 p4 : Prop} {G : Prop} (h : p0 ∧ p1 ∧ p2 ∧ p3 ∧ p4) (k : p0 → p1 → p2 → p3 → p4 → G) : G := by
  obtain ⟨h0, h1, h2, h3, h4⟩ := h
  exact k h0 h1 h2 h3 h4
theorem x0_6  {p0 p1 p2 p3 p4 p5 : Prop} {G : Prop} (h : p0 ∧ p1 ∧ p2 ∧ p3 ∧ p4 ∧ p5) (k : p0 → p1 → p2 → p3 → p4 → p5 → G) : G := by
  obtain ⟨h0, h1, h2, h3, h4, h5⟩ := h
  exact k h0 h1 h2 h3 h4 h5
theorem x1_1 {α0 : Sort _} {p0 : α0 → Prop} {G : Prop} (h : ∃ a, p0 a) (k : ∀ a, p0 a → G) : G := by
  obtain ⟨a, h0⟩ := h
  exact k a h0
theorem x1_2 {α0 : Sort _} {p0 p1 : α0 → Prop} {G : Prop} (h : ∃ a, p0 a ∧ p1 a) (k : ∀ a, p0 a → p1 a → G) : G := by
  obtain ⟨a, h0, h1⟩ := h
  exact k a h0 h1
theorem x1_3 {α0 : Sort _} {p0 p1 p2 : α0 → Prop} {G : Prop} (h : ∃ a, p0 a ∧ p1 a ∧ p2 a) (k : ∀ a, p0 a → p1 a → p2 a → G) : G := by
  obtain ⟨a, h0, h1, h2⟩ := h
  exact k a h0 h1 h2
theorem x1_4 {α0 : Sort _} {p0 p1 p2 p3 : α0 → Prop} {G : Prop} (h : ∃ a, p0 a ∧ p1 a ∧ p2 a ∧ p3 a) (k : ∀ a, p0 a → p1 a → p2 a → p3 a → G) : G := by
  obtain ⟨a, h0, h1, h2, h3⟩ := h
  exact k a h0 h1 h2 h3
theorem x1_5 {α0 : Sort _} {p0 p1 p2 p3 p4 : α0 → Prop} {G : Prop} (h : ∃ a, p0 a ∧ p1 a ∧ p2 a ∧ p3 a ∧ p4 a) (k : ∀ a, p0 a → p1 a → p2 a → p3 a → p4 a → G) : G := by
  obtain ⟨a, h0, h1, h2, h3, h4⟩ := h
  exact k a h0 h1 h2 h3 h4
theorem x1_6 {α0 : Sort _} {p0 p1 p2 p3 p4 p5 : α0 → Prop} {G : Prop} (h : ∃ a, p0 a ∧ p1 a ∧ p2 a ∧ p3 a ∧ p4 a ∧ p5 a) (k : ∀ a, p0 a → p1 a → p2 a → p3 a → p4 a → p5 a → G) : G := by
  obtain ⟨a, h0, h1, h2, h3, h4, h5⟩ := h
  exact k a h0 h1 h2 h3 h4 h5
theorem x1_7 {α0 : Sort _} {p0 p1 p2 p3 p4 p5 p6 : α0 → Prop} {G : Prop} (h : ∃ a, p0 a ∧ p1 a ∧ p2 a ∧ p3 a ∧ p4 a ∧ p5 a ∧ p6 a) (k : ∀ a, p0 a → p1 a → p2 a → p3 a → p4 a → p5 a → p6 a → G) : G := by
  obtain ⟨a, h0, h1, h2, h3, h4, h5, h6⟩ := h
  exact k a h0 h1 h2 h3 h4 h5 h6
theorem x2_1 {α0 : Sort _} {α1 : Sort _} {p0 : α0 → α1 → Prop} {G : Prop} (h : ∃ a, ∃ b, p0 a b) (k : ∀ a b, p0 a b → G) : G := by
  obtain ⟨a, b, h0⟩ := h
  exact k a b h0
theorem x2_2 {α0 : Sort _} {α1 : Sort _} {p0 p1 : α0 → α1 → Prop} {G : Prop} (h : ∃ a, ∃ b, p0 a b ∧ p1 a b) (k : ∀ a b, p0 a b → p1 a b → G) : G := by
  obtain ⟨a, b, h0, h1⟩ := h
  exact k a b h0 h1
theorem x2_3 {α0 : Sort _} {α1 : Sort _} {p0 p1 p2 : α0 → α1 → Prop} {G : Prop} (h : ∃ a, ∃ b, p0 a b ∧ p1 a b ∧ p2 a b) (k : ∀ a b, p0 a b → p1 a b → p2 a b → G) : G := by
  obtain ⟨a, b, h0, h1, h2⟩ := h
  exact k a b h0 h1 h2
theorem x2_4 {α0 : Sort _} {α1 : Sort _} {p0 p1 p2 p3 : α0 → α1 → Prop} {G : Prop} (h : ∃ a, ∃ b, p0 a b ∧ p1 a b ∧ p2 a b ∧ p3 a b) (k : ∀ a b, p0 a b → p1 a b → p2 a b → p3 a b → G) : G := by
  obtain ⟨a, b, h0, h1, h2, h3⟩ := h
  exact k a b h0 h1 h2 h3
theorem x2_5 {α0 : Sort _} {α1 : Sort _} {p0 p1 p2 p3 p4 : α0 → α1 → Prop} {G : Prop} (h : ∃ a, ∃ b, p0 a b ∧ p1 a b ∧ p2 a b ∧ p3 a b ∧ p4 a b) (k : ∀ a b, p0 a b → p1 a b → p2 a b → p3 a b → p4 a b → G) : G := by
  obtain ⟨a, b, h0, h1, h2, h3, h4⟩ := h
  exact k a b h0 h1 h2 h3 h4
theorem x2_6 {α0 : Sort _} {α1 : Sort _} {p0 p1 p2 p3 p4 p5 : α0 → α1 → Prop} {G : Prop} (h : ∃ a, ∃ b, p0 a b ∧ p1 a b ∧ p2 a b ∧ p3 a b ∧ p4 a b ∧ p5 a b) (k : ∀ a b, p0 a b → p1 a b → p2 a b → p3 a b → p4 a b → p5 a b → G) : G := by
  obtain ⟨a, b, h0, h1, h2, h3, h4, h5⟩ := h
  exact k a b h0 h1 h2 h3 h4 h5
theorem x2_7 {α0 : Sort _} {α1 : Sort _} {p0 p1 p2 p3 p4 p5 p6 : α0 → α1 → Prop} {G : Prop} (h : ∃ a, ∃ b, p0 a b ∧ p1 a b ∧ p2 a b ∧ p3 a b ∧ p4 a b ∧ p5 a b ∧ p6 a b) (k : ∀ a b, p0 a b → p1 a b → p2 a b → p3 a b → p4 a b → p5 a b → p6 a b → G) : G := by
  obtain ⟨a, b, h0, h1, h2, h3, h4, h5, h6⟩ := h
  exact k a b h0 h1 h2 h3 h4 h5 h6
theorem x3_1 {α0 : Sort _} {α1 : Sort _} {α2 : Sort _} {p0 : α0 → α1 → α2 → Prop} {G : Prop} (h : ∃ a, ∃ b, ∃ c, p0 a b c) (k : ∀ a b c, p0 a b c → G) : G := by
  obtain ⟨a, b, c, h0⟩ := h
  exact k a b c h0
theorem x3_2 {α0 : Sort _} {α1 : Sort _} {α2 : Sort _} {p0 p1 : α0 → α1 → α2 → Prop} {G : Prop} (h : ∃ a, ∃ b, ∃ c, p0 a b c ∧ p1 a b c) (k : ∀ a b c, p0 a b c → p1 a b c → G) : G := by
  obtain ⟨a, b, c, h0, h1⟩ := h
  exact k a b c h0 h1
theorem x3_3 {α0 : Sort _} {α1 : Sort _} {α2 : Sort _} {p0 p1 p2 : α0 → α1 → α2 → Prop} {G : Prop} (h : ∃ a, ∃ b, ∃ c, p0 a b c ∧ p1 a b c ∧ p2 a b c) (k : ∀ a b c, p0 a b c → p1 a b c → p2 a b c → G) : G := by
  obtain ⟨a, b, c, h0, h1, h2⟩ := h
  exact k a b c h0 h1 h2
theorem x3_4 {α0 : Sort _} {α1 : Sort _} {α2 : Sort _} {p0 p1 p2 p3 : α0 → α1 → α2 → Prop} {G : Prop} (h : ∃ a, ∃ b, ∃ c, p0 a b c ∧ p1 a b c ∧ p2 a b c ∧ p3 a b c) (k : ∀ a b c, p0 a b c → p1 a b c → p2 a b c → p3 a b c → G) : G := by
  obtain ⟨a, b, c, h0, h1, h2, h3⟩ := h
  exact k a b c h0 h1 h2 h3
theorem x3_5 {α0 : Sort _} {α1 : Sort _} {α2 : Sort _} {p0 p1 p2 p3 p4 : α0 → α1 → α2 → Prop} {G : Prop} (h : ∃ a, ∃ b, ∃ c, p0 a b c ∧ p1 a b c ∧ p2 a b c ∧ p3 a b c ∧ p4 a b c) (k : ∀ a b c, p0 a b c → p1 a b c → p2 a b c → p3 a b c → p4 a b c → G) : G := by
  obtain ⟨a, b, c, h0, h1, h2, h3, h4⟩ := h
  exact k a b c h0 h1 h2 h3 h4
theorem x3_6 {α0 : Sort _} {α1 : Sort _} {α2 : Sort _} {p0 p1 p2 p3 p4 p5 : α0 → α1 → α2 → Prop} {G : Prop} (h : ∃ a, ∃ b, ∃ c, p0 a b c ∧ p1 a b c ∧ p2 a b c ∧ p3 a b c ∧ p4 a b c ∧ p5 a b c) (k : ∀ a b c, p0 a b c → p1 a b c → p2 a b c → p3 a b c → p4 a b c → p5 a b c → G) : G := by
  obtain ⟨a, b, c, h0, h1, h2, h3, h4, h5⟩ := h
  exact k a b c h0 h1 h2 h3 h4 h5
theorem x4_2 {α0 : Sort _} {α1 : Sort _} {α2 : Sort _} {α3 : Sort _} {p0 p1 : α0 → α1 → α2 → α3 → Prop} {G : Prop} (h : ∃ a, ∃ b, ∃ c, ∃ d, p0 a b c d ∧ p1 a b c d) (k : ∀ a b c d, p0 a b c d → p1 a b c d → G) : G := by
  obtain ⟨a, b, c, d, h0, h1⟩ := h
  exact k a b c d h0 h1
theorem x4_3 {α0 : Sort _} {α1 : Sort _} {α2 : Sort _} {α3 : Sort _} {p0 p1 p2 : α0 → α1 → α2 → α3 → Prop} {G : Prop} (h : ∃ a, ∃ b, ∃ c, ∃ d, p0 a b c d ∧ p1 a b c d ∧ p2 a b c d) (k : ∀ a b c d, p0 a b c d → p1 a b c d → p2 a b c d → G) : G := by
  obtain ⟨a, b, c, d, h0, h1, h2⟩ := h
  exact k a b c d h0 h1 h2
theorem x4_4 {α0 : Sort _} {α1 : Sort _} {α2 : Sort _} {α3 : Sort _} {p0 p1 p2 p3 : α0 → α1 → α2 → α3 → Prop} {G : Prop} (h : ∃ a, ∃ b, ∃ c, ∃ d, p0 a b c d ∧ p1 a b c d ∧ p2 a b c d ∧ p3 a b c d) (k : ∀ a b c d, p0 a b c d → p1 a b c d → p2 a b c d → p3 a b c d → G) : G := by
  obtain ⟨a, b, c, d, h0, h1, h2, h3⟩ := h
  exact k a b c d h0 h1 h2 h3
theorem x4_5 {α0 : Sort _} {α1 : Sort _} {α2 : Sort _} {α3 : Sort _} {p0 p1 p2 p3 p4 : α0 → α1 → α2 → α3 → Prop} {G : Prop} (h : ∃ a, ∃ b, ∃ c, ∃ d, p0 a b c d ∧ p1 a b c d ∧ p2 a b c d ∧ p3 a b c d ∧ p4 a b c d) (k : ∀ a b c d, p0 a b c d → p1 a b c d → p2 a b c d → p3 a b c d → p4 a b c d → G) : G := by
  obtain ⟨a, b, c, d, h0, h1, h2, h3, h4⟩ := h
  exact k a b c d h0 h1 h2 h3 h4
theorem x4_6 {α0 : Sort _} {α1 : Sort _} {α2 : Sort _} {α3 : Sort _} {p0 p1 p2 p3 p4 p5 : α0 → α1 → α2 → α3 → Prop} {G : Prop} (h : ∃ a, ∃ b, ∃ c, ∃ d, p0 a b c d ∧ p1 a b c d ∧ p2 a b c d ∧ p3 a b c d ∧ p4 a b c d ∧ p5 a b c d) (k : ∀ a b c d, p0 a b c d → p1 a b c d → p2 a b c d → p3 a b c d → p4 a b c d → p5 a b c d → G) : G := by
  obtain ⟨a, b, c, d, h0, h1, h2, h3, h4, h5⟩ := h
  exact k a b c d h0 h1 h2 h3 h4 h5
theorem x5_6 {α0 : Sort _} {α1 : Sort _} {α2 : Sort _} {α3 : Sort _} {α4 : Sort _} {p0 p1 p2 p3 p4 p5 : α0 → α1 → α2 → α3 → α4 → Prop} {G : Prop} (h : ∃ a, ∃ b, ∃ c, ∃ d, ∃ e, p0 a b c d e ∧ p1 a b c d e ∧ p2 a b c d e ∧ p3 a b c d e ∧ p4 a b c d e ∧ p5 a b c d e) (k : ∀ a b c d e, p0 a b c d e → p1 a b c d e → p2 a b c d e → p3 a b c d e → p4 a b c d e → p5 a b c d e → G) : G := by
  obtain ⟨a, b, c, d, e, h0, h1, h2, h3, h4, h5⟩ := h
  exact k a b c d e h0 h1 h2 h3 h4 h5
theorem x5_8 {α0 : Sort _} {α1 : Sort _} {α2 : Sort _} {α3 : Sort _} {α4 : Sort _} {p0 p1 p2 p3 p4 p5 p6 p7 : α0 → α1 → α2 → α3 → α4 → Prop} {G : Prop} (h : ∃ a, ∃ b, ∃ c, ∃ d, ∃ e, p0 a b c d e ∧ p1 a b c d e ∧ p2 a b c d e ∧ p3 a b c d e ∧ p4 a b c d e ∧ p5 a b c d e ∧ p6 a b c d e ∧ p7 a b c d e) (k : ∀ a b c d e, p0 a b c d e → p1 a b c d e → p2 a b c d e → p3 a b c d e → p4 a b c d e → p5 a b c d e → p6 a b c d e → p7 a b c d e → G) : G := by
  obtain ⟨a, b, c, d, e, h0, h1, h2, h3, h4, h5, h6, h7⟩ := h
  exact k a b c d e h0 h1 h2 h3 h4 h5 h6 h7
theorem x7_1 {α0 : Sort _} {α1 : Sort _} {α2 : Sort _} {α3 : Sort _} {α4 : Sort _} {α5 : Sort _} {α6 : Sort _} {p0 : α0 → α1 → α2 → α3 → α4 → α5 → α6 → Prop} {G : Prop} (h : ∃ a, ∃ b, ∃ c, ∃ d, ∃ e, ∃ f, ∃ g, p0 a b c d e f g) (k : ∀ a b c d e f g, p0 a b c d e f g → G) : G := by
  obtain ⟨a, b, c, d, e, f, g, h0⟩ := h
  exact k a b c d e f g h0
theorem band2 {a0 a1 : Bool} {G : Prop} (h : (a0 && a1) = true) (k : a0 = true → a1 = true → G) : G := by
  cases a0 with
  | false => exact absF h
  | true => exact k rfl h
theorem band3 {a0 a1 a2 : Bool} {G : Prop} (h : (a0 && a1 && a2) = true) (k : a0 = true → a1 = true → a2 = true → G) : G := by
  exact band2 h fun h x => band2 h fun h0 h1 => k h0 h1 x
theorem band4 {a0 a1 a2 a3 : Bool} {G : Prop} (h : (a0 && a1 && a2 && a3) = true) (k : a0 = true → a1 = true → a2 = true → a3 = true → G) : G := by
  exact band2 h fun h x => band3 h fun h0 h1 h2 => k h0 h1 h2 x
theorem band5 {a0 a1 a2 a3 a4 : Bool} {G : Prop} (h : (a0 && a1 && a2 && a3 && a4) = true) (k : a0 = true → a1 = true → a2 = true → a3 = true → a4 = true → G) : G := by
  exact band2 h fun h x => band4 h fun h0 h1 h2 h3 => k h0 h1 h2 h3 x
theorem band6 {a0 a1 a2 a3 a4 a5 : Bool} {G : Prop} (h : (a0 && a1 && a2 && a3 && a4 && a5) = true) (k : a0 = true → a1 = true → a2 = true → a3 = true → a4 = true → a5 = true → G) : G := by
  exact band2 h fun h x => band5 h fun h0 h1 h2 h3 h4 => k h0 h1 h2 h3 h4 x
theorem band7 {a0 a1 a2 a3 a4 a5 a6 : Bool} {G : Prop} (h : (a0 && a1 && a2 && a3 && a4 && a5 && a6) = true) (k : a0 = true → a1 = true → a2 = true → a3 = true → a4 = true → a5 = true → a6 = true → G) : G := by
  exact band2 h fun h x => band6 h fun h0 h1 h2 h3 h4 h5 => k h0 h1 h2 h3 h4 h5 x
theorem band8 {a0 a1 a2 a3 a4 a5 a6 a7 : Bool} {G : Prop} (h : (a0 && a1 && a2 && a3 && a4 && a5 && a6 && a7) = true) (k : a0 = true → a1 = true → a2 = true → a3 = true → a4 = true → a5 = true → a6 = true → a7 = true → G) : G := by
  exact band2 h fun h x => band7 h fun h0 h1 h2 h3 h4 h5 h6 => k h0 h1 h2 h3 h4 h5 h6 x
theorem band9 {a0 a1 a2 a3 a4 a5 a6 a7 a8 : Bool} {G : Prop} (h : (a0 && a1 && a2 && a3 && a4 && a5 && a6 && a7 && a8) = true) (k : a0 = true → a1 = true → a2 = true → a3 = true → a4 = true → a5 = true → a6 = true → a7 = true → a8 = true → G) : G := by
  exact band2 h fun h x => band8 h fun h0 h1 h2 h3 h4 h5 h6 h7 => k h0 h1 h2 h3 h4 h5 h6 h7 x
theorem band10 {a0 a1 a2 a3 a4 a5 a6 a7 a8 a9 : Bool} {G : Prop} (h : (a0 && a1 && a2 && a3 && a4 && a5 && a6 && a7 && a8 && a9) = true) (k : a0 = true → a1 = true → a2 = true → a3 = true → a4 = true → a5 = true → a6 = true → a7 = true → a8 = true → a9 = true → G) : G := by
  exact band2 h fun h x => band9 h fun h0 h1 h2 h3 h4 h5 h6 h7 h8 => k h0 h1 h2 h3 h4 h5 h6 h7 h8 x
theorem band11 {a0 a1 a2 a3 a4 a5 a6 a7 a8 a9 a10 : Bool} {G : Prop} (h : (a0 && a1 && a2 && a3 && a4 && a5 && a6 && a7 && a8 && a9 && a10) = true) (k : a0 = true → a1 = true → a2 = true → a3 = true → a4 = true → a5 = true → a6 = true → a7 = true → a8 = true → a9 = true → a10 = true → G) : G := by
  exact band2 h fun h x => band10 h fun h0 h1 h2 h3 h4 h5 h6 h7 h8 h9 => k h0 h1 h2 h3 h4 h5 h6 h7 h8 h9 x
theorem arM {a c d e : Nat} (h : e ≤ d) (h2 : a + 16 * d + 100 ≤ c) : a + 16 * e + 100 ≤ c := Nat.le_trans (Nat.add_le_add_right (Nat.add_le_add_left (Nat.mul_le_mul_left 16 h) a) 100) h2
theorem arN {a c d e : Nat} (h : e ≤ d) (h2 : a + d ≤ c) : a + e ≤ c := Nat.le_trans (Nat.add_le_add_left h a) h2
theorem arK {i e : Nat} (h : i ≤ e) : 24 * i + 25 ≤ 24 * e + 25 := Nat.add_le_add_right (Nat.mul_le_mul_left 24 h) 25
theorem ar0 {e i : Nat} (h0 : i < e) (h1 : e ≤ 18) : i ≤ 50 := Nat.le_trans (Nat.le_of_lt h0) (Nat.le_trans h1 (Nat.le_of_ble_eq_true rfl))
theorem ar1 {e i : Nat} (h0 : i < e) (h1 : e ≤ 18) : i + 1 ≤ 50 := Nat.le_trans h0 (Nat.le_trans h1 (Nat.le_of_ble_eq_true rfl))
theorem ar2 {e i u : Nat} (h0 : i < e) (h1 : u + 2 * e ≤ 700) : u + 2 * i ≤ 800 := Nat.le_trans (Nat.add_le_add_left (Nat.mul_le_mul_left 2 (Nat.le_of_lt h0)) u) (Nat.le_trans h1 (Nat.le_of_ble_eq_true rfl))
theorem ar3 {e i u : Nat} (h0 : i < e) (h1 : u + 2 * e ≤ 700) : u + 2 * i + 1 ≤ 800 := Nat.le_trans (Nat.succ_le_succ (Nat.add_le_add_left (Nat.mul_le_mul_left 2 (Nat.le_of_lt h0)) u)) (Nat.le_trans (Nat.succ_le_succ h1) (Nat.le_of_ble_eq_true rfl))
theorem ar4 {u y : Nat} (h0 : y ≤ 1005) : 1000 * u + y ≤ 1000 * (u + 1) + 5 := Nat.add_le_add_left h0 (1000 * u)
theorem ar5 {i u y : Nat} (h0 : y ≤ 1005) : 1000 * (u + 2 * i + 1) + y ≤ 1000 * (u + 2 * (i + 1)) + 5 := Nat.add_le_add_left h0 (1000 * (u + 2 * i + 1))
theorem ar6 {y : Nat} (h0 : y ≤ 1005) : 1000 * 0 + y ≤ 1000 * 1 + 5 := Nat.le_trans (Nat.le_of_eq (Nat.zero_add y)) h0
theorem ar7 {a c d e i : Nat} (h0 : i < e) (h1 : 24 * (e + 2) + 25 ≤ d) (h2 : a + 16 * d + 100 ≤ c) : a + 16 * (24 * (i + 1) + 25) + 100 ≤ c := arM (Nat.le_trans (arK (Nat.le_trans h0 (Nat.le_add_right e 2))) h1) h2
theorem ar8 {a c d e i : Nat} (h0 : i < e) (h1 : 24 * (e + 2) + 25 ≤ d) (h2 : a + 16 * d + 100 ≤ c) : a + 16 * (24 * (i + 1 + 1) + 25) + 100 ≤ c := arM (Nat.le_trans (arK (Nat.le_trans (Nat.succ_le_succ h0) (Nat.le_succ (e + 1)))) h1) h2
theorem ar9 {a c d e i : Nat} (h0 : i < e) (h1 : 24 * (e + 2) + 25 ≤ d) (h2 : a + d ≤ c) : a + (24 * (i + 1) + 25) ≤ c := arN (Nat.le_trans (arK (Nat.le_trans h0 (Nat.le_add_right e 2))) h1) h2
theorem ar10 {a c d e i : Nat} (h0 : i < e) (h1 : 24 * (e + 2) + 25 ≤ d) (h2 : a + d ≤ c) : a + (24 * (i + 1 + 1) + 25) ≤ c := arN (Nat.le_trans (arK (Nat.le_trans (Nat.succ_le_succ h0) (Nat.le_succ (e + 1)))) h1) h2
theorem ar11 {a c d : Nat} (h0 : 24 * 20 + 25 ≤ d) (h1 : a + 16 * d + 100 ≤ c) : a + 16 * (24 * (0 + 1) + 25) + 100 ≤ c := arM (e := 24 * (0 + 1) + 25) (Nat.le_trans (Nat.le_of_ble_eq_true rfl) h0) h1
theorem ar12 {a c d : Nat} (h0 : 24 * 20 + 25 ≤ d) (h1 : a + d ≤ c) : a + (24 * (0 + 1) + 25) ≤ c := arN (Nat.le_trans (Nat.le_of_ble_eq_true rfl) h0) h1
theorem ar13 {d : Nat} (h0 : 24 * 20 + 25 ≤ d) : 24 * (0 + 1) + 25 ≤ d := Nat.le_trans (Nat.le_of_ble_eq_true rfl) h0
theorem ar14 {a c d : Nat} (h0 : 24 * 20 + 25 ≤ d) (h1 : a + 16 * d + 100 ≤ c) : a + 16 * (20 + 1) + 100 ≤ c := arM (e := 20 + 1) (Nat.le_trans (Nat.le_of_ble_eq_true rfl) h0) h1
theorem ar15 {a c d : Nat} (h0 : 24 * 20 + 25 ≤ d) (h1 : a + d ≤ c) : a + (20 + 1) ≤ c := arN (Nat.le_trans (Nat.le_of_ble_eq_true rfl) h0) h1
theorem ar16 {x : Nat} (h0 : x ≤ 4096) : x ≤ 16777216 := Nat.le_trans h0 (Nat.le_of_ble_eq_true rfl)
theorem ar17 {x y : Nat} (h0 : x = y) (h1 : y ≤ 4096) : x ≤ 16777216 := Nat.le_trans (Nat.le_of_eq h0) (Nat.le_trans h1 (Nat.le_of_ble_eq_true rfl))
theorem ar18 {x : Nat} (h0 : x ≤ 64) : x ≤ 16777216 := Nat.le_trans h0 (Nat.le_of_ble_eq_true rfl)
theorem ar19 {a c d : Nat} (h0 : a + 16 * d + 100 ≤ c) : a + 64 < c := Nat.lt_of_lt_of_le (Nat.lt_of_lt_of_le (Nat.add_lt_add_left (Nat.le_of_ble_eq_true rfl) a) (Nat.add_le_add_right (Nat.le_add_right a (16 * d)) 100)) h0
theorem ar20 {a c n : Nat} (h0 : a + (n + 1) < c) : a + 1 + n < c := Nat.lt_of_le_of_lt (Nat.le_of_eq (Nat.add_right_comm a 1 n)) h0
theorem ar21 {a c : Nat} (h0 : a + 64 < c) : a + 40 < c := Nat.lt_of_le_of_lt (Nat.add_le_add_left (Nat.le_of_ble_eq_true rfl) a) h0
theorem ar23 {x y : Nat} (h0 : x ≤ 4096 * y) (h1 : y ≤ 4096) : x ≤ 16777216 := Nat.le_trans h0 (Nat.le_trans (Nat.mul_le_mul_left 4096 h1) (Nat.le_of_ble_eq_true rfl))
theorem ar24 {x y z : Nat} (h0 : x ≤ 4096 * y) (h1 : z ≤ 4096) : z + x ≤ 4096 * (y + 1) := Nat.le_trans (Nat.add_le_add h1 h0) (Nat.le_of_eq (Nat.add_comm 4096 (4096 * y)))
theorem ar25 {y : Int}  (h0 : 0 < y) : y ≠ 0 := (Int.ne_of_lt h0).symm
theorem ar26 {x y : Nat} (h0 : x = y) (h1 : y ≤ 4096) : (x : Int) < 2 ^ 63 := Int.lt_of_le_of_lt (Int.ofNat_le.mpr (Nat.le_trans (Nat.le_of_eq h0) h1)) (by decide)
theorem ar27 {y : Nat} (h0 : y ≤ 4096) : (y : Int) < 2 ^ 63 := Int.lt_of_le_of_lt (Int.ofNat_le.mpr h0) (by decide)
theorem ar28 {a b x y : Nat} (h0 : x = a) (h1 : y = b) (h2 : a + b ≤ 4096) : x + y ≤ 16777216 := by subst h0; subst h1; exact Nat.le_trans h2 (Nat.le_of_ble_eq_true rfl)
theorem ar30 {x y : Nat} (h0 : x ≤ 4096) (h1 : y ≤ 4096) : x + y ≤ 16777216 + 1 := Nat.le_trans (Nat.add_le_add h0 h1) (Nat.le_of_ble_eq_true rfl)
theorem ar31 {i : Int} {n : Nat} (h0 : n ≤ 4096) (h1 : i < 0) (h2 : 0 ≤ i + (n : Int) ∧ i + (n : Int) < (n : Int)) : -2 ^ 63 ≤ i := by omega
theorem ar32 {i : Int} {n : Nat} (h0 : n ≤ 4096) (h1 : i < 0) (h2 : 0 ≤ i + (n : Int) ∧ i + (n : Int) < (n : Int)) : i < 2 ^ 63 := Int.lt_trans h1 (by decide)
theorem ar33 {i : Int} {n : Nat} (h0 : 0 ≤ i + (n : Int) ∧ i + (n : Int) < (n : Int)) : -(n : Int) ≤ i := by omega
theorem ar34 {i : Int}  (h0 : ¬ i < 0) : -2 ^ 63 ≤ i := Int.le_trans (by decide) (Int.not_lt.mp h0)
theorem ar35 {i : Int} {n : Nat} (h0 : n ≤ 4096) (h1 : 0 ≤ i ∧ i < (n : Int)) : i < 2 ^ 63 := Int.lt_of_lt_of_le h1.2 (Int.le_trans (Int.ofNat_le.mpr h0) (by decide))
theorem ar36 {i : Int}  (h0 : ¬ i < 0) : 0 ≤ i := Int.not_lt.mp h0
theorem ar37 {i : Int}  (h0 : 0 ≤ i) (h1 : i.toNat = 0) : i = 0 := Int.le_antisymm (Int.toNat_eq_zero.mp h1) h0
theorem ar38 {i : Int}  (h0 : 0 ≤ i) : i = (i.toNat : Int) := (Int.toNat_of_nonneg h0).symm
theorem ar39 {n : Nat}  : ((n : Int)).toNat = n := rfl
theorem ar40 {n : Nat} (h0 : ¬ n = 0) : 1 ≤ n := Nat.pos_of_ne_zero h0
theorem ar41 {x : Nat} (h0 : x < 29) : x < 30 := Nat.lt_succ_of_lt h0
theorem ar42 {j x y : Nat} (h0 : x = y) (h1 : j < y) : j < x := Nat.lt_of_lt_of_eq h1 h0.symm
theorem ar43 {j x y : Nat} (h0 : x = y) (h1 : ¬ j < y) : x ≤ j := Nat.le_trans (Nat.le_of_eq h0) (Nat.not_lt.mp h1)
theorem ar44 {j x : Nat} (h0 : ¬ j < x) : x ≤ j := Nat.not_lt.mp h0
theorem ar45 {n : Nat}  : (0 : Int) < ((n + 1 : Nat) : Int) := by omega
theorem ar46 {n : Nat}  : ((n + 1 : Nat) : Int) - 1 = (n : Int) := Int.add_sub_cancel (n : Int) 1
theorem ar47 {a : Int}  (h0 : a.natAbs ≤ 1000000) : -2 ^ 62 ≤ a := by omega
theorem ar48 {a : Int}  (h0 : a.natAbs ≤ 1000000) : a < 2 ^ 62 := Int.lt_of_le_of_lt Int.le_natAbs (Int.lt_of_le_of_lt (Int.ofNat_le.mpr h0) (by decide))
theorem ar51 {j n : Nat} (h0 : (j : Int) < (n : Int)) : j < n := Int.ofNat_lt.mp h0
theorem ar52 {i : Int} {n : Nat} (h0 : i.toNat < n) (h1 : n ≤ 4000) : i < 2 ^ 63 := Int.lt_of_le_of_lt (Int.self_le_toNat i) (Int.lt_of_lt_of_le (Int.ofNat_lt.mpr h0) (Int.le_trans (Int.ofNat_le.mpr h1) (by decide)))
theorem ar53 {i : Int} {n x : Nat} (h0 : 0 ≤ i) (h1 : i.toNat < n) (h2 : x = n) : i < (x : Int) := Int.lt_of_le_of_lt (Int.self_le_toNat i) (Int.ofNat_lt.mpr (Nat.lt_of_lt_of_eq h1 h2.symm))
theorem ar56 {a d : Nat} (h0 : a + (d + 1) ≤ 900) : a < 1000 := Nat.lt_of_le_of_lt (Nat.le_trans (Nat.le_add_right a (d + 1)) h0) (Nat.le_of_ble_eq_true rfl)
theorem ar57 {a c d : Nat} (h0 : a + 16 * (d + 1) + 100 ≤ c) : a + 3 + 16 * d + 100 ≤ c := Nat.le_trans (Nat.add_le_add_right (Nat.le_trans (Nat.le_of_eq (Nat.add_right_comm a 3 (16 * d))) (Nat.add_le_add_left (n := 3) (m := 16) (Nat.le_of_ble_eq_true rfl) (a + 16 * d))) 100) h0
theorem ar58 {a c d : Nat} (h0 : a + (d + 1) ≤ c) : a + 1 + d ≤ c := Nat.le_trans (Nat.le_of_eq (Nat.add_right_comm a 1 d)) h0
theorem ar59 {a c d e : Nat} (h0 : e ≤ d) (h1 : a + 16 * d + 100 ≤ c) : a + 16 * e + 100 ≤ c := arM h0 h1
theorem ar60 {a c d e : Nat} (h0 : e ≤ d) (h1 : a + d ≤ c) : a + e ≤ c := arN h0 h1
theorem ar61 {b e : Nat}  : b ≤ b + (e + 1) := Nat.le_add_right b (e + 1)
theorem ar62 {x y : Nat} (h0 : x ≤ y) : x + 1 ≤ y + 1 := Nat.succ_le_succ h0
theorem ar63 {x : Nat} (h0 : 12 < x) : ¬ x ≤ 12 := Nat.not_le.mpr h0
theorem ar65 {n : Nat}  : 24 * (0 + 1) ≤ 24 * (n + 1) := Nat.mul_le_mul_left 24 (Nat.succ_le_succ (Nat.zero_le n))
theorem ar66 {n x : Nat} (h0 : x + n ≤ 12) : x ≤ 12 := Nat.le_trans (Nat.le_add_right x n) h0
theorem ar67 {n x : Nat} (h0 : 12 < x) : ¬ x + n ≤ 12 := fun h => Nat.not_le.mpr h0 (Nat.le_trans (Nat.le_add_right x n) h)
theorem ar68 {x : Nat} (h0 : ¬ x ≤ 12) : 12 + 1 ≤ x := Nat.not_le.mp h0
theorem ar69 {n : Nat}  : 24 * (n + 1) + 1 ≤ 24 * (n + 1) + 3 := Nat.le_add_right (24 * (n + 1) + 1) 2
theorem ar70 {n x : Nat}  : x + 1 + n ≤ 12 ↔ x + (n + 1) ≤ 12 := iff_of_eq (congrArg (· ≤ 12) (Nat.add_right_comm x 1 n))
theorem ar71 {i : Nat} (h0 : 3 ≤ i) : ¬ i = 0 := fun e => absurd (e ▸ h0 : 3 ≤ 0) (by decide)
theorem ar72 {i : Nat} (h0 : 3 ≤ i) : ¬ i = 1 := fun e => absurd (e ▸ h0 : 3 ≤ 1) (by decide)
theorem ar73 {i : Nat} (h0 : 3 ≤ i) : ¬ i = 2 := fun e => absurd (e ▸ h0 : 3 ≤ 2) (by decide)
theorem ar74 {i : Nat} (h0 : 5 ≤ i) : 3 ≤ i := Nat.le_trans (Nat.le_of_ble_eq_true rfl) h0
theorem ar75 {i : Nat} (h0 : 5 ≤ i) : ¬ i = 3 := fun e => absurd (e ▸ h0 : 5 ≤ 3) (by decide)
theorem ar76 {i : Nat} (h0 : 5 ≤ i) : ¬ i = 4 := fun e => absurd (e ▸ h0 : 5 ≤ 4) (by decide)
theorem ar77 {i : Nat} (h0 : 5 ≤ i) : ¬ i + 1 = 0 := fun e => absurd (e ▸ Nat.succ_le_succ h0 : 5 + 1 ≤ 0) (by decide)
theorem ar78 {i : Nat} (h0 : 5 ≤ i) : ¬ i + 1 = 1 := fun e => absurd (Nat.succ.inj e ▸ h0 : 5 ≤ 0) (by decide)
theorem ar79 {i : Nat} (h0 : 5 ≤ i) : ¬ i + 1 = 2 := fun e => absurd (e ▸ Nat.succ_le_succ h0 : 5 + 1 ≤ 2) (by decide)
theorem ar80 {i : Nat} (h0 : 5 ≤ i) : ¬ i + 1 = 3 := fun e => absurd (e ▸ Nat.succ_le_succ h0 : 5 + 1 ≤ 3) (by decide)
theorem ar81 {i : Nat} (h0 : 5 ≤ i) : ¬ i + 1 = 4 := fun e => absurd (e ▸ Nat.succ_le_succ h0 : 5 + 1 ≤ 4) (by decide)
theorem ar82 {b : Int} {u v x : Nat} (h0 : 1000 * u + x ≤ 1000 * v + 5) (h1 : b ≤ 1000 * (u : Int) + (x : Int)) : b ≤ 1000 * (v : Int) + ((5 : Nat) : Int) := Int.le_trans h1 (Int.ofNat_le.mpr h0)
theorem ar83 {n : Nat}  : 0 ≤ n := Nat.zero_le n
theorem ar84 {n : Nat}  : 0 + n = n := Nat.zero_add n
theorem ar85 {n : Nat} (h0 : 12 < n) : (12 : Int) < (n : Int) := Int.ofNat_lt.mpr h0
theorem ar86 {b : Int} {u x : Nat} (h0 : b ≤ 1000 * (u : Int) + (x : Int)) (h1 : u ≤ 800) (h2 : x ≤ 400) : b ≤ 900000 := Int.le_trans h0 ((Int.ofNat_le (m := 1000 * u + x) (n := 900000)).mpr (Nat.le_trans (Nat.add_le_add (Nat.mul_le_mul_left 1000 h1) h2) (Nat.le_of_ble_eq_true rfl)))
theorem ar88 {a b : Int} {u x : Nat} (h0 : a ≤ 1000 * (u : Int) + (x : Int)) (h1 : b ≤ a + 1) : b ≤ 1000 * (u : Int) + ((x + 1 : Nat) : Int) := Int.le_trans h1 (Int.add_le_add_right h0 1)
theorem ar89 {a b : Int}  (h0 : 0 ≤ a) (h1 : a < b) : a.toNat < b.toNat := (Int.toNat_lt_toNat (Int.lt_of_le_of_lt h0 h1)).mpr h1
theorem ar90 {n x : Nat} (h0 : n ≤ 50) (h1 : x ≤ 8 + 80 * n) : x ≤ 4096 := Nat.le_trans h1 (Nat.le_trans (Nat.add_le_add_left (Nat.mul_le_mul_left 80 h0) 8) (Nat.le_of_ble_eq_true rfl))
theorem ar91 {e i : Nat} (h0 : i + 0 = e) : i = e := h0
theorem ar92 {e i m : Nat} (h0 : e ≤ 50) (h1 : i + (m + 1) = e) : i ≤ 50 := Nat.le_trans (Nat.le_trans (Nat.le_add_right i (m + 1)) (Nat.le_of_eq h1)) h0
theorem ar93 {e i m : Nat} (h0 : i + (m + 1) = e) : i < e := Nat.lt_of_lt_of_eq (Nat.lt_add_of_pos_right (Nat.succ_pos m)) h0
theorem ar94 {e i m : Nat} (h0 : i + (m + 1) = e) : i + 1 + m = e := (Nat.add_right_comm i 1 m).trans h0
theorem ar95 {i : Nat}  : ((i + 1 : Nat) : Int) + 1 = (i : Int) + 1 + 1 := rfl
theorem ar96 {a i x y z : Nat} (h0 : x ≤ y + z) (h1 : y ≤ 80) (h2 : z ≤ 1 * a) (h3 : a ≤ 8 + 80 * i) : x ≤ 8 + 80 * (i + 1) := Nat.le_trans h0 (Nat.le_trans (Nat.add_le_add h1 (Nat.le_trans h2 (Nat.le_trans (Nat.le_of_eq (Nat.one_mul a)) h3))) (Nat.le_of_eq (Nat.add_comm 80 (8 + 80 * i))))
theorem ar98 {x : Nat} (h0 : x ≤ 300) : x ≤ 800 := Nat.le_trans h0 (Nat.le_of_ble_eq_true rfl)
theorem ar99 {x : Nat} (h0 : x ≤ 200) : x ≤ 800 := Nat.le_trans h0 (Nat.le_of_ble_eq_true rfl)
theorem ar100 {e x : Nat} (h0 : x ≤ e) (h1 : e ≤ 18) : x ≤ 50 := Nat.le_trans h0 (Nat.le_trans h1 (Nat.le_of_ble_eq_true rfl))
theorem ar101 {u x : Nat} (h0 : u ≤ x) : 1000 * u + 5 ≤ 1000 * x + 5 := Nat.add_le_add_right (Nat.mul_le_mul_left 1000 h0) 5
theorem ar102 {u : Nat} (h0 : u ≤ 200) : u + 1 ≤ 300 := Nat.le_trans (Nat.succ_le_succ h0) (Nat.le_of_ble_eq_true rfl)
theorem ar103 {u : Nat} (h0 : u ≤ 200) : u + 1 + 1 ≤ 300 := Nat.le_trans (Nat.succ_le_succ (Nat.succ_le_succ h0)) (Nat.le_of_ble_eq_true rfl)
theorem ar104 {e u : Nat} (h0 : e ≤ 13) : u + 1 + 1 + 2 * e ≤ u + 30 := Nat.le_trans (Nat.add_le_add_left (Nat.mul_le_mul_left 2 h0) (u + 1 + 1)) (Nat.add_le_add_left (n := 28) (m := 30) (Nat.le_of_ble_eq_true rfl) u)
theorem ar105 {n u : Nat} (h0 : u + 30 * (n + 1) ≤ 200) : u ≤ 200 := Nat.le_trans (Nat.le_add_right u (30 * (n + 1))) h0
theorem ar106 {n u : Nat} (h0 : u + 30 * (n + 1) ≤ 200) : u + 30 + 30 * n ≤ 200 := Nat.le_trans (Nat.le_of_eq (Nat.add_right_comm u 30 (30 * n))) h0
theorem ar107 {n u : Nat}  : u + 30 * (n + 1) = u + 30 + 30 * n := (Nat.add_right_comm u 30 (30 * n)).symm
theorem ar108 {e : Nat} (h0 : e ≤ 16) : 93 + 2 * e ≤ 200 := Nat.le_trans (Nat.add_le_add_left (Nat.mul_le_mul_left 2 h0) 93) (Nat.le_of_ble_eq_true rfl)
theorem ar109   : 200 ≤ 800 := (Nat.le_of_ble_eq_true rfl)
theorem ar110 {e : Nat} (h0 : e ≤ 13) : e ≤ 18 := Nat.le_trans h0 (Nat.le_of_ble_eq_true rfl)
theorem ar111 {e : Nat} (h0 : e ≤ 16) : e ≤ 18 := Nat.le_trans h0 (Nat.le_of_ble_eq_true rfl)
theorem ar112 {e u : Nat} (h0 : u ≤ 300) (h1 : e ≤ 13) : u + 2 * e ≤ 700 := Nat.le_trans (Nat.add_le_add h0 (Nat.mul_le_mul_left 2 h1)) (Nat.le_of_ble_eq_true rfl)
theorem ar113 {e u : Nat} (h0 : u ≤ 300) (h1 : e ≤ 16) : u + 2 * e ≤ 700 := Nat.le_trans (Nat.add_le_add h0 (Nat.mul_le_mul_left 2 h1)) (Nat.le_of_ble_eq_true rfl)
theorem ar114 {d e : Nat} (h0 : e ≤ 13) (h1 : 24 * 20 + 25 ≤ d) : 24 * (e + 2) + 25 ≤ d := Nat.le_trans (Nat.add_le_add_right (Nat.mul_le_mul_left 24 (Nat.add_le_add_right h0 2)) 25) (Nat.le_trans (Nat.le_of_ble_eq_true rfl) h1)
theorem ar115 {d e : Nat} (h0 : e ≤ 16) (h1 : 24 * 20 + 25 ≤ d) : 24 * (e + 2) + 25 ≤ d := Nat.le_trans (Nat.add_le_add_right (Nat.mul_le_mul_left 24 (Nat.add_le_add_right h0 2)) 25) (Nat.le_trans (Nat.le_of_ble_eq_true rfl) h1)
theorem ar116 {e i : Nat} (h0 : i < e) (h1 : e ≤ 13) : i < 13 := Nat.lt_of_lt_of_le h0 h1
theorem ar117 {e i : Nat} (h0 : i < e) (h1 : e ≤ 16) : i < 16 := Nat.lt_of_lt_of_le h0 h1
theorem ar118 {j n x : Nat} (h0 : x < n + 1 + j) : x < n + (j + 1) := Nat.lt_of_lt_of_eq h0 (Nat.add_right_comm n 1 j)
theorem ar119 {i x : Nat} (h0 : ¬ i < x) (h1 : i < x + 1) : i = x := Nat.le_antisymm (Nat.le_of_lt_succ h1) (Nat.not_lt.mp h0)
end Mine
end
section
local macro_rules
| `(tactic| obtain ⟨$ps:rcasesPatLo,*⟩ := $e:term) => do
  let ps := ps.getElems
  let k := ps.size
  if k < 2 then Lean.Macro.throwUnsupported
  let mk (lo : Lean.TSyntax `Lean.Parser.Tactic.rcasesPatLo) : Lean.MacroM (Lean.TSyntax `rintroPat) := do
    let p ← `(rcasesPat| ($lo:rcasesPatLo))
    `(rintroPat| $p:rcasesPat)
  let mut alts : Array (Lean.TSyntax `Lean.Parser.Tactic.tacticSeq) := #[]
  for i in [0:k-1] do
    let j := k - i
    let head := if i = 0 then ps else ps.extract 0 (j - 1)
    let rest := if i = 0 then #[] else ps.extract (j - 1) k
    let rs ← head.mapM mk
    for n0 in [0:j] do
      let n := j - 1 - n0
      if n > 7 then continue
      let m := j - n
      if m > 14 then continue
      let nm := Lean.mkIdent (Lean.Name.mkStr (Lean.Name.mkStr Lean.Name.anonymous "Mine") s!"x{n}_{m}")
      let cl ← if e.raw.isIdent then (let x : Lean.TSyntax `ident := ⟨e.raw⟩; `(tactic| try clear $x:ident)) else `(tactic| skip)
      if i = 0 then
        alts := alts.push (← `(Lean.Parser.Tactic.tacticSeq| refine $nm $e ?_; $cl; rintro $rs*))
      else
        alts := alts.push (← `(Lean.Parser.Tactic.tacticSeq| refine $nm $e ?_; $cl; rintro $rs* hrest; obtain ⟨$rest:rcasesPatLo,*⟩ := hrest))
  `(tactic| first $[| $alts]*)
| `(tactic| cases $h:ident) => `(tactic| first
  | with_reducible exact Mine.absF $h
  | with_reducible exact Mine.absT $h
  | with_reducible exact Mine.absN $h
  | with_reducible exact Mine.absS $h
  | (with_reducible refine Mine.someI $h ?_); clear $h; intro hx; subst hx
  | exact Mine.absF $h
  | exact Mine.absT $h
  | exact Mine.absN $h
  | exact Mine.absS $h
  | refine Mine.someI $h ?_; clear $h; intro hx; subst hx)
| `(tactic| split at $h:ident) => `(tactic| first
  | ((with_reducible refine Mine.iteS $h ?_ ?_) <;> clear $h <;> intro hc $h:ident)
  | (revert $h; refine Mine.ifSR (fun a hc $h:ident => ?_) (fun hc $h:ident => ?_) <;> try subst hc))
set_option genInjectivity false
set_option genSizeOf false
set_option genSizeOfSpec false
section
open PySem PySem.W PyProof.Rows
set_option maxRecDepth 100000
namespace Mine

/-! pure values -/
inductive PV where
  | none
  | bool (b : Bool)
  | int (i : Int)
  | str (r : List Nat)
  | tup (xs : List PV)
  | lst (i : Nat)
  | old (a : Nat)
  | dct (ks vs : List PV)
  | clos (ag : Arguments) (body : Expr) (sc : Scope) (x : Str) (p : PV)
  | hole (i : Nat)
deriving Inhabited

abbrev Sto := List (List PV)
abbrev KV := PV → Sto → Bool
abbrev KX := Sto → Bool
abbrev Orc := PV → List PV → Sto → KV → KX → Bool

/-! views -/
set_option tactic.hygienic false in
theorem fT : false ≠ true := Bool.false_ne_true
set_option tactic.hygienic false in
theorem nS {α : Type} {a : α} : none ≠ some a := fun h  => nomatch h
set_option tactic.hygienic false in
@[elab_as_elim] theorem ifE {α β : Type} {P : Option α → Prop} {d r : β} {o : Option α} {k : α → β} (h : ifS d o k = r) (hd : d ≠ r) (f : ∀ a, k a = r → P (some a)) : P o := by
  cases o with
  | none => exact absurd h hd
  | some a => exact f a h
set_option tactic.hygienic false in
theorem ifE' {α β : Type} {G : Prop} {d r : β} {o : Option α} {k : α → β} (h : ifS d o k = r) (hd : d ≠ r) (f : ∀ a, o = some a → k a = r → G) : G := by
  cases o with
  | none => exact absurd h hd
  | some a => exact f a rfl h
set_option tactic.hygienic false in
theorem ifB {β : Type} {G : Prop} {d r x : β} {c : Prop} [Decidable c] (h : (if c then x else d) = r) (hd : d ≠ r) (f : c → x = r → G) : G := by
  by_cases q : c
  · rw [if_pos q] at h; exact f q h
  · rw [if_neg q] at h; exact absurd h hd
noncomputable def oneK {α β : Type} (d : β) (l : List α) (k : α → β) : β := match l with
  | [] => d
  | a :: r => match r with | [] => k a | _ :: _ => d
set_option tactic.hygienic false in
@[elab_as_elim] theorem oneE {α β : Type} {P : List α → Prop} {d r : β} {l : List α} {k : α → β} (h : oneK d l k = r) (hd : d ≠ r) (f : ∀ a, k a = r → P [a]) : P l := by
  cases l with
  | nil => exact absurd h hd
  | cons a t => cases t with
    | nil => exact f a h
    | cons => exact absurd h hd
noncomputable def twoK {α β : Type} (d : β) (l : List α) (k : α → α → β) : β := match l with
  | [] => d
  | a :: r => oneK d r (k a)
set_option tactic.hygienic false in
@[elab_as_elim] theorem twoE {α β : Type} {P : List α → Prop} {d r : β} {l : List α} {k : α → α → β} (h : twoK d l k = r) (hd : d ≠ r) (f : ∀ a b, k a b = r → P [a, b]) : P l := by
  cases l with
  | nil => exact absurd h hd
  | cons a t => exact oneE (P := fun t  => P (a :: t)) h hd fun b h  => f a b h
noncomputable def consK {α β : Type} (d : β) (l : List α) (k : α → List α → β) : β := match l with
  | [] => d
  | a :: r => k a r
set_option tactic.hygienic false in
@[elab_as_elim] theorem consE {α β : Type} {P : List α → Prop} {d r : β} {l : List α} {k : α → List α → β} (h : consK d l k = r) (hd : d ≠ r) (f : ∀ a t, k a t = r → P (a :: t)) : P l := by
  cases l with
  | nil => exact absurd h hd
  | cons a t => exact f a t h
noncomputable def threeK {α β : Type} (d : β) (l : List α) (k : α → α → α → β) : β := consK d l fun a r => twoK d r (k a)
set_option tactic.hygienic false in
@[elab_as_elim] theorem threeE {α β : Type} {P : List α → Prop} {d r : β} {l : List α} {k : α → α → α → β} (h : threeK d l k = r) (hd : d ≠ r) (f : ∀ a b c, k a b c = r → P [a, b, c]) : P l :=
  consE h hd fun a zz h  => twoE (P := fun t  => P (a :: t)) h hd fun b c h  => f a b c h
noncomputable def nameK {β : Type} (d : β) (e : Expr) (k : Str → Pos → β) : β := @Expr.casesOn (fun _ => β) e (fun a0 a1 a2 => d) (fun a0 a1 a2 => d) (fun a0 a1 a2 a3 => d) (fun a0 a1 a2 => d) (fun a0 a1 a2 a3 => d) (fun a0 a1 a2 a3 => d) (fun a0 a1 a2 => d) (fun a0 a1 a2 => d) (fun a0 a1 a2 a3 => d) (fun a0 a1 a2 a3 => d) (fun a0 a1 a2 a3 a4 => d) (fun a0 a1 a2 a3 => d) (fun a0 a1 => d) (fun a0 a1 => d) (fun a0 a1 => d) (fun a0 a1 a2 a3 => d) (fun a0 a1 a2 a3 => d) (fun a0 a1 a2 a3 => d) (fun a0 a1 => d) (fun a0 a1 a2 => d) (fun a0 a1 a2 => d) (fun a0 a1 a2 => d) (fun a0 a1 => d) (fun x p => k x p) (fun a0 a1 => d) (fun a0 a1 a2 => d) (fun a0 a1 a2 a3 => d)
set_option tactic.hygienic false in
@[elab_as_elim] theorem nameE {P : Expr → Prop} {β : Type} {d r : β} {e : Expr} {k : Str → Pos → β} (h : nameK d e k = r) (hd : d ≠ r) (f : ∀ x p, k x p = r → P (.Name x p)) : P e := @Expr.casesOn (fun e  => nameK d e k = r → P e) e (fun a0 a1 a2 (h : d = r)  => absurd h hd) (fun a0 a1 a2 (h : d = r)  => absurd h hd) (fun a0 a1 a2 a3 (h : d = r)  => absurd h hd) (fun a0 a1 a2 (h : d = r)  => absurd h hd) (fun a0 a1 a2 a3 (h : d = r)  => absurd h hd) (fun a0 a1 a2 a3 (h : d = r)  => absurd h hd) (fun a0 a1 a2 (h : d = r)  => absurd h hd) (fun a0 a1 a2 (h : d = r)  => absurd h hd) (fun a0 a1 a2 a3 (h : d = r)  => absurd h hd) (fun a0 a1 a2 a3 (h : d = r)  => absurd h hd) (fun a0 a1 a2 a3 a4 (h : d = r)  => absurd h hd) (fun a0 a1 a2 a3 (h : d = r)  => absurd h hd) (fun a0 a1 (h : d = r)  => absurd h hd) (fun a0 a1 (h : d = r)  => absurd h hd) (fun a0 a1 (h : d = r)  => absurd h hd) (fun a0 a1 a2 a3 (h : d = r)  => absurd h hd) (fun a0 a1 a2 a3 (h : d = r)  => absurd h hd) (fun a0 a1 a2 a3 (h : d = r)  => absurd h hd) (fun a0 a1 (h : d = r)  => absurd h hd) (fun a0 a1 a2 (h : d = r)  => absurd h hd) (fun a0 a1 a2 (h : d = r)  => absurd h hd) (fun a0 a1 a2 (h : d = r)  => absurd h hd) (fun a0 a1 (h : d = r)  => absurd h hd) (fun x p (h : k x p = r)  => f x p h) (fun a0 a1 (h : d = r)  => absurd h hd) (fun a0 a1 a2 (h : d = r)  => absurd h hd) (fun a0 a1 a2 a3 (h : d = r)  => absurd h hd) h
noncomputable def call0K {β : Type} (d : β) (e : Expr) (k : Expr → List Expr → List Keyword → Pos → β) : β := @Expr.casesOn (fun _ => β) e (fun a0 a1 a2 => d) (fun a0 a1 a2 => d) (fun a0 a1 a2 a3 => d) (fun a0 a1 a2 => d) (fun a0 a1 a2 a3 => d) (fun a0 a1 a2 a3 => d) (fun a0 a1 a2 => d) (fun a0 a1 a2 => d) (fun a0 a1 a2 a3 => d) (fun a0 a1 a2 a3 => d) (fun a0 a1 a2 a3 a4 => d) (fun a0 a1 a2 a3 => d) (fun a0 a1 => d) (fun a0 a1 => d) (fun a0 a1 => d) (fun a0 a1 a2 a3 => d) (fun g as ks p => k g as ks p) (fun a0 a1 a2 a3 => d) (fun a0 a1 => d) (fun a0 a1 a2 => d) (fun a0 a1 a2 => d) (fun a0 a1 a2 => d) (fun a0 a1 => d) (fun a0 a1 => d) (fun a0 a1 => d) (fun a0 a1 a2 => d) (fun a0 a1 a2 a3 => d)
set_option tactic.hygienic false in
@[elab_as_elim] theorem call0E {P : Expr → Prop} {β : Type} {d r : β} {e : Expr} {k : Expr → List Expr → List Keyword → Pos → β} (h : call0K d e k = r) (hd : d ≠ r) (f : ∀ g as ks p, k g as ks p = r → P (.Call g as ks p)) : P e := @Expr.casesOn (fun e  => call0K d e k = r → P e) e (fun a0 a1 a2 (h : d = r)  => absurd h hd) (fun a0 a1 a2 (h : d = r)  => absurd h hd) (fun a0 a1 a2 a3 (h : d = r)  => absurd h hd) (fun a0 a1 a2 (h : d = r)  => absurd h hd) (fun a0 a1 a2 a3 (h : d = r)  => absurd h hd) (fun a0 a1 a2 a3 (h : d = r)  => absurd h hd) (fun a0 a1 a2 (h : d = r)  => absurd h hd) (fun a0 a1 a2 (h : d = r)  => absurd h hd) (fun a0 a1 a2 a3 (h : d = r)  => absurd h hd) (fun a0 a1 a2 a3 (h : d = r)  => absurd h hd) (fun a0 a1 a2 a3 a4 (h : d = r)  => absurd h hd) (fun a0 a1 a2 a3 (h : d = r)  => absurd h hd) (fun a0 a1 (h : d = r)  => absurd h hd) (fun a0 a1 (h : d = r)  => absurd h hd) (fun a0 a1 (h : d = r)  => absurd h hd) (fun a0 a1 a2 a3 (h : d = r)  => absurd h hd) (fun g as ks p (h : k g as ks p = r)  => f g as ks p h) (fun a0 a1 a2 a3 (h : d = r)  => absurd h hd) (fun a0 a1 (h : d = r)  => absurd h hd) (fun a0 a1 a2 (h : d = r)  => absurd h hd) (fun a0 a1 a2 (h : d = r)  => absurd h hd) (fun a0 a1 a2 (h : d = r)  => absurd h hd) (fun a0 a1 (h : d = r)  => absurd h hd) (fun a0 a1 (h : d = r)  => absurd h hd) (fun a0 a1 (h : d = r)  => absurd h hd) (fun a0 a1 a2 (h : d = r)  => absurd h hd) (fun a0 a1 a2 a3 (h : d = r)  => absurd h hd) h
noncomputable def binK {β : Type} (d : β) (e : Expr) (k : Expr → Operator → Expr → Pos → β) : β := @Expr.casesOn (fun _ => β) e (fun a0 a1 a2 => d) (fun a0 a1 a2 => d) (fun l op rr p => k l op rr p) (fun a0 a1 a2 => d) (fun a0 a1 a2 a3 => d) (fun a0 a1 a2 a3 => d) (fun a0 a1 a2 => d) (fun a0 a1 a2 => d) (fun a0 a1 a2 a3 => d) (fun a0 a1 a2 a3 => d) (fun a0 a1 a2 a3 a4 => d) (fun a0 a1 a2 a3 => d) (fun a0 a1 => d) (fun a0 a1 => d) (fun a0 a1 => d) (fun a0 a1 a2 a3 => d) (fun a0 a1 a2 a3 => d) (fun a0 a1 a2 a3 => d) (fun a0 a1 => d) (fun a0 a1 a2 => d) (fun a0 a1 a2 => d) (fun a0 a1 a2 => d) (fun a0 a1 => d) (fun a0 a1 => d) (fun a0 a1 => d) (fun a0 a1 a2 => d) (fun a0 a1 a2 a3 => d)
set_option tactic.hygienic false in
@[elab_as_elim] theorem binE {P : Expr → Prop} {β : Type} {d r : β} {e : Expr} {k : Expr → Operator → Expr → Pos → β} (h : binK d e k = r) (hd : d ≠ r) (f : ∀ l op rr p, k l op rr p = r → P (.BinOp l op rr p)) : P e := @Expr.casesOn (fun e  => binK d e k = r → P e) e (fun a0 a1 a2 (h : d = r)  => absurd h hd) (fun a0 a1 a2 (h : d = r)  => absurd h hd) (fun l op rr p (h : k l op rr p = r)  => f l op rr p h) (fun a0 a1 a2 (h : d = r)  => absurd h hd) (fun a0 a1 a2 a3 (h : d = r)  => absurd h hd) (fun a0 a1 a2 a3 (h : d = r)  => absurd h hd) (fun a0 a1 a2 (h : d = r)  => absurd h hd) (fun a0 a1 a2 (h : d = r)  => absurd h hd) (fun a0 a1 a2 a3 (h : d = r)  => absurd h hd) (fun a0 a1 a2 a3 (h : d = r)  => absurd h hd) (fun a0 a1 a2 a3 a4 (h : d = r)  => absurd h hd) (fun a0 a1 a2 a3 (h : d = r)  => absurd h hd) (fun a0 a1 (h : d = r)  => absurd h hd) (fun a0 a1 (h : d = r)  => absurd h hd) (fun a0 a1 (h : d = r)  => absurd h hd) (fun a0 a1 a2 a3 (h : d = r)  => absurd h hd) (fun a0 a1 a2 a3 (h : d = r)  => absurd h hd) (fun a0 a1 a2 a3 (h : d = r)  => absurd h hd) (fun a0 a1 (h : d = r)  => absurd h hd) (fun a0 a1 a2 (h : d = r)  => absurd h hd) (fun a0 a1 a2 (h : d = r)  => absurd h hd) (fun a0 a1 a2 (h : d = r)  => absurd h hd) (fun a0 a1 (h : d = r)  => absurd h hd) (fun a0 a1 (h : d = r)  => absurd h hd) (fun a0 a1 (h : d = r)  => absurd h hd) (fun a0 a1 a2 (h : d = r)  => absurd h hd) (fun a0 a1 a2 a3 (h : d = r)  => absurd h hd) h
noncomputable def constK {β : Type} (d : β) (e : Expr) (k : Const → Nat → Pos → β) : β := @Expr.casesOn (fun _ => β) e (fun a0 a1 a2 => d) (fun a0 a1 a2 => d) (fun a0 a1 a2 a3 => d) (fun a0 a1 a2 => d) (fun a0 a1 a2 a3 => d) (fun a0 a1 a2 a3 => d) (fun a0 a1 a2 => d) (fun a0 a1 a2 => d) (fun a0 a1 a2 a3 => d) (fun a0 a1 a2 a3 => d) (fun a0 a1 a2 a3 a4 => d) (fun a0 a1 a2 a3 => d) (fun a0 a1 => d) (fun a0 a1 => d) (fun a0 a1 => d) (fun a0 a1 a2 a3 => d) (fun a0 a1 a2 a3 => d) (fun a0 a1 a2 a3 => d) (fun a0 a1 => d) (fun c u p => k c u p) (fun a0 a1 a2 => d) (fun a0 a1 a2 => d) (fun a0 a1 => d) (fun a0 a1 => d) (fun a0 a1 => d) (fun a0 a1 a2 => d) (fun a0 a1 a2 a3 => d)
set_option tactic.hygienic false in
@[elab_as_elim] theorem constE {P : Expr → Prop} {β : Type} {d r : β} {e : Expr} {k : Const → Nat → Pos → β} (h : constK d e k = r) (hd : d ≠ r) (f : ∀ c u p, k c u p = r → P (.Constant c u p)) : P e := @Expr.casesOn (fun e  => constK d e k = r → P e) e (fun a0 a1 a2 (h : d = r)  => absurd h hd) (fun a0 a1 a2 (h : d = r)  => absurd h hd) (fun a0 a1 a2 a3 (h : d = r)  => absurd h hd) (fun a0 a1 a2 (h : d = r)  => absurd h hd) (fun a0 a1 a2 a3 (h : d = r)  => absurd h hd) (fun a0 a1 a2 a3 (h : d = r)  => absurd h hd) (fun a0 a1 a2 (h : d = r)  => absurd h hd) (fun a0 a1 a2 (h : d = r)  => absurd h hd) (fun a0 a1 a2 a3 (h : d = r)  => absurd h hd) (fun a0 a1 a2 a3 (h : d = r)  => absurd h hd) (fun a0 a1 a2 a3 a4 (h : d = r)  => absurd h hd) (fun a0 a1 a2 a3 (h : d = r)  => absurd h hd) (fun a0 a1 (h : d = r)  => absurd h hd) (fun a0 a1 (h : d = r)  => absurd h hd) (fun a0 a1 (h : d = r)  => absurd h hd) (fun a0 a1 a2 a3 (h : d = r)  => absurd h hd) (fun a0 a1 a2 a3 (h : d = r)  => absurd h hd) (fun a0 a1 a2 a3 (h : d = r)  => absurd h hd) (fun a0 a1 (h : d = r)  => absurd h hd) (fun c u p (h : k c u p = r)  => f c u p h) (fun a0 a1 a2 (h : d = r)  => absurd h hd) (fun a0 a1 a2 (h : d = r)  => absurd h hd) (fun a0 a1 (h : d = r)  => absurd h hd) (fun a0 a1 (h : d = r)  => absurd h hd) (fun a0 a1 (h : d = r)  => absurd h hd) (fun a0 a1 a2 (h : d = r)  => absurd h hd) (fun a0 a1 a2 a3 (h : d = r)  => absurd h hd) h
noncomputable def subK {β : Type} (d : β) (e : Expr) (k : Expr → Expr → Pos → β) : β := @Expr.casesOn (fun _ => β) e (fun a0 a1 a2 => d) (fun a0 a1 a2 => d) (fun a0 a1 a2 a3 => d) (fun a0 a1 a2 => d) (fun a0 a1 a2 a3 => d) (fun a0 a1 a2 a3 => d) (fun a0 a1 a2 => d) (fun a0 a1 a2 => d) (fun a0 a1 a2 a3 => d) (fun a0 a1 a2 a3 => d) (fun a0 a1 a2 a3 a4 => d) (fun a0 a1 a2 a3 => d) (fun a0 a1 => d) (fun a0 a1 => d) (fun a0 a1 => d) (fun a0 a1 a2 a3 => d) (fun a0 a1 a2 a3 => d) (fun a0 a1 a2 a3 => d) (fun a0 a1 => d) (fun a0 a1 a2 => d) (fun a0 a1 a2 => d) (fun o i p => k o i p) (fun a0 a1 => d) (fun a0 a1 => d) (fun a0 a1 => d) (fun a0 a1 a2 => d) (fun a0 a1 a2 a3 => d)
set_option tactic.hygienic false in
@[elab_as_elim] theorem subE {P : Expr → Prop} {β : Type} {d r : β} {e : Expr} {k : Expr → Expr → Pos → β} (h : subK d e k = r) (hd : d ≠ r) (f : ∀ o i p, k o i p = r → P (.Subscript o i p)) : P e := @Expr.casesOn (fun e  => subK d e k = r → P e) e (fun a0 a1 a2 (h : d = r)  => absurd h hd) (fun a0 a1 a2 (h : d = r)  => absurd h hd) (fun a0 a1 a2 a3 (h : d = r)  => absurd h hd) (fun a0 a1 a2 (h : d = r)  => absurd h hd) (fun a0 a1 a2 a3 (h : d = r)  => absurd h hd) (fun a0 a1 a2 a3 (h : d = r)  => absurd h hd) (fun a0 a1 a2 (h : d = r)  => absurd h hd) (fun a0 a1 a2 (h : d = r)  => absurd h hd) (fun a0 a1 a2 a3 (h : d = r)  => absurd h hd) (fun a0 a1 a2 a3 (h : d = r)  => absurd h hd) (fun a0 a1 a2 a3 a4 (h : d = r)  => absurd h hd) (fun a0 a1 a2 a3 (h : d = r)  => absurd h hd) (fun a0 a1 (h : d = r)  => absurd h hd) (fun a0 a1 (h : d = r)  => absurd h hd) (fun a0 a1 (h : d = r)  => absurd h hd) (fun a0 a1 a2 a3 (h : d = r)  => absurd h hd) (fun a0 a1 a2 a3 (h : d = r)  => absurd h hd) (fun a0 a1 a2 a3 (h : d = r)  => absurd h hd) (fun a0 a1 (h : d = r)  => absurd h hd) (fun a0 a1 a2 (h : d = r)  => absurd h hd) (fun a0 a1 a2 (h : d = r)  => absurd h hd) (fun o i p (h : k o i p = r)  => f o i p h) (fun a0 a1 (h : d = r)  => absurd h hd) (fun a0 a1 (h : d = r)  => absurd h hd) (fun a0 a1 (h : d = r)  => absurd h hd) (fun a0 a1 a2 (h : d = r)  => absurd h hd) (fun a0 a1 a2 a3 (h : d = r)  => absurd h hd) h
noncomputable def tupxK {β : Type} (d : β) (e : Expr) (k : List Expr → Nat → Pos → β) : β := @Expr.casesOn (fun _ => β) e (fun a0 a1 a2 => d) (fun a0 a1 a2 => d) (fun a0 a1 a2 a3 => d) (fun a0 a1 a2 => d) (fun a0 a1 a2 a3 => d) (fun a0 a1 a2 a3 => d) (fun a0 a1 a2 => d) (fun a0 a1 a2 => d) (fun a0 a1 a2 a3 => d) (fun a0 a1 a2 a3 => d) (fun a0 a1 a2 a3 a4 => d) (fun a0 a1 a2 a3 => d) (fun a0 a1 => d) (fun a0 a1 => d) (fun a0 a1 => d) (fun a0 a1 a2 a3 => d) (fun a0 a1 a2 a3 => d) (fun a0 a1 a2 a3 => d) (fun a0 a1 => d) (fun a0 a1 a2 => d) (fun a0 a1 a2 => d) (fun a0 a1 a2 => d) (fun a0 a1 => d) (fun a0 a1 => d) (fun a0 a1 => d) (fun ts u p => k ts u p) (fun a0 a1 a2 a3 => d)
set_option tactic.hygienic false in
@[elab_as_elim] theorem tupxE {P : Expr → Prop} {β : Type} {d r : β} {e : Expr} {k : List Expr → Nat → Pos → β} (h : tupxK d e k = r) (hd : d ≠ r) (f : ∀ ts u p, k ts u p = r → P (.Tuple ts u p)) : P e := @Expr.casesOn (fun e  => tupxK d e k = r → P e) e (fun a0 a1 a2 (h : d = r)  => absurd h hd) (fun a0 a1 a2 (h : d = r)  => absurd h hd) (fun a0 a1 a2 a3 (h : d = r)  => absurd h hd) (fun a0 a1 a2 (h : d = r)  => absurd h hd) (fun a0 a1 a2 a3 (h : d = r)  => absurd h hd) (fun a0 a1 a2 a3 (h : d = r)  => absurd h hd) (fun a0 a1 a2 (h : d = r)  => absurd h hd) (fun a0 a1 a2 (h : d = r)  => absurd h hd) (fun a0 a1 a2 a3 (h : d = r)  => absurd h hd) (fun a0 a1 a2 a3 (h : d = r)  => absurd h hd) (fun a0 a1 a2 a3 a4 (h : d = r)  => absurd h hd) (fun a0 a1 a2 a3 (h : d = r)  => absurd h hd) (fun a0 a1 (h : d = r)  => absurd h hd) (fun a0 a1 (h : d = r)  => absurd h hd) (fun a0 a1 (h : d = r)  => absurd h hd) (fun a0 a1 a2 a3 (h : d = r)  => absurd h hd) (fun a0 a1 a2 a3 (h : d = r)  => absurd h hd) (fun a0 a1 a2 a3 (h : d = r)  => absurd h hd) (fun a0 a1 (h : d = r)  => absurd h hd) (fun a0 a1 a2 (h : d = r)  => absurd h hd) (fun a0 a1 a2 (h : d = r)  => absurd h hd) (fun a0 a1 a2 (h : d = r)  => absurd h hd) (fun a0 a1 (h : d = r)  => absurd h hd) (fun a0 a1 (h : d = r)  => absurd h hd) (fun a0 a1 (h : d = r)  => absurd h hd) (fun ts u p (h : k ts u p = r)  => f ts u p h) (fun a0 a1 a2 a3 (h : d = r)  => absurd h hd) h
noncomputable def cintK {β : Type} (d : β) (e : Const) (k : Int → β) : β := @Const.casesOn (fun _ => β) e d (fun a0 => d) (fun i => k i) (fun a0 => d) (fun a0 a1 => d) (fun a0 => d) (fun a0 => d) d
set_option tactic.hygienic false in
@[elab_as_elim] theorem cintE {P : Const → Prop} {β : Type} {d r : β} {e : Const} {k : Int → β} (h : cintK d e k = r) (hd : d ≠ r) (f : ∀ i, k i = r → P (.int i)) : P e := @Const.casesOn (fun e  => cintK d e k = r → P e) e (fun (h : d = r)  => absurd h hd) (fun a0 (h : d = r)  => absurd h hd) (fun i (h : k i = r)  => f i h) (fun a0 (h : d = r)  => absurd h hd) (fun a0 a1 (h : d = r)  => absurd h hd) (fun a0 (h : d = r)  => absurd h hd) (fun a0 (h : d = r)  => absurd h hd) (fun (h : d = r)  => absurd h hd) h
noncomputable def pintK {β : Type} (d : β) (e : PV) (k : Int → β) : β := @PV.casesOn (fun _ => β) e d (fun a0 => d) (fun i => k i) (fun a0 => d) (fun a0 => d) (fun a0 => d) (fun a0 => d) (fun a0 a1 => d) (fun a0 a1 a2 a3 a4 => d) (fun a0 => d)
set_option tactic.hygienic false in
@[elab_as_elim] theorem pintE {P : PV → Prop} {β : Type} {d r : β} {e : PV} {k : Int → β} (h : pintK d e k = r) (hd : d ≠ r) (f : ∀ i, k i = r → P (.int i)) : P e := @PV.casesOn (fun e  => pintK d e k = r → P e) e (fun (h : d = r)  => absurd h hd) (fun a0 (h : d = r)  => absurd h hd) (fun i (h : k i = r)  => f i h) (fun a0 (h : d = r)  => absurd h hd) (fun a0 (h : d = r)  => absurd h hd) (fun a0 (h : d = r)  => absurd h hd) (fun a0 (h : d = r)  => absurd h hd) (fun a0 a1 (h : d = r)  => absurd h hd) (fun a0 a1 a2 a3 a4 (h : d = r)  => absurd h hd) (fun a0 (h : d = r)  => absurd h hd) h
noncomputable def pstrK {β : Type} (d : β) (e : PV) (k : List Nat → β) : β := @PV.casesOn (fun _ => β) e d (fun a0 => d) (fun a0 => d) (fun r0 => k r0) (fun a0 => d) (fun a0 => d) (fun a0 => d) (fun a0 a1 => d) (fun a0 a1 a2 a3 a4 => d) (fun a0 => d)
set_option tactic.hygienic false in
@[elab_as_elim] theorem pstrE {P : PV → Prop} {β : Type} {d r : β} {e : PV} {k : List Nat → β} (h : pstrK d e k = r) (hd : d ≠ r) (f : ∀ r0, k r0 = r → P (.str r0)) : P e := @PV.casesOn (fun e  => pstrK d e k = r → P e) e (fun (h : d = r)  => absurd h hd) (fun a0 (h : d = r)  => absurd h hd) (fun a0 (h : d = r)  => absurd h hd) (fun r0 (h : k r0 = r)  => f r0 h) (fun a0 (h : d = r)  => absurd h hd) (fun a0 (h : d = r)  => absurd h hd) (fun a0 (h : d = r)  => absurd h hd) (fun a0 a1 (h : d = r)  => absurd h hd) (fun a0 a1 a2 a3 a4 (h : d = r)  => absurd h hd) (fun a0 (h : d = r)  => absurd h hd) h
noncomputable def ptupK {β : Type} (d : β) (e : PV) (k : List PV → β) : β := @PV.casesOn (fun _ => β) e d (fun a0 => d) (fun a0 => d) (fun a0 => d) (fun xs => k xs) (fun a0 => d) (fun a0 => d) (fun a0 a1 => d) (fun a0 a1 a2 a3 a4 => d) (fun a0 => d)
set_option tactic.hygienic false in
@[elab_as_elim] theorem ptupE {P : PV → Prop} {β : Type} {d r : β} {e : PV} {k : List PV → β} (h : ptupK d e k = r) (hd : d ≠ r) (f : ∀ xs, k xs = r → P (.tup xs)) : P e := @PV.casesOn (fun e  => ptupK d e k = r → P e) e (fun (h : d = r)  => absurd h hd) (fun a0 (h : d = r)  => absurd h hd) (fun a0 (h : d = r)  => absurd h hd) (fun a0 (h : d = r)  => absurd h hd) (fun xs (h : k xs = r)  => f xs h) (fun a0 (h : d = r)  => absurd h hd) (fun a0 (h : d = r)  => absurd h hd) (fun a0 a1 (h : d = r)  => absurd h hd) (fun a0 a1 a2 a3 a4 (h : d = r)  => absurd h hd) (fun a0 (h : d = r)  => absurd h hd) h
noncomputable def plstK {β : Type} (d : β) (e : PV) (k : Nat → β) : β := @PV.casesOn (fun _ => β) e d (fun a0 => d) (fun a0 => d) (fun a0 => d) (fun a0 => d) (fun i => k i) (fun a0 => d) (fun a0 a1 => d) (fun a0 a1 a2 a3 a4 => d) (fun a0 => d)
set_option tactic.hygienic false in
@[elab_as_elim] theorem plstE {P : PV → Prop} {β : Type} {d r : β} {e : PV} {k : Nat → β} (h : plstK d e k = r) (hd : d ≠ r) (f : ∀ i, k i = r → P (.lst i)) : P e := @PV.casesOn (fun e  => plstK d e k = r → P e) e (fun (h : d = r)  => absurd h hd) (fun a0 (h : d = r)  => absurd h hd) (fun a0 (h : d = r)  => absurd h hd) (fun a0 (h : d = r)  => absurd h hd) (fun a0 (h : d = r)  => absurd h hd) (fun i (h : k i = r)  => f i h) (fun a0 (h : d = r)  => absurd h hd) (fun a0 a1 (h : d = r)  => absurd h hd) (fun a0 a1 a2 a3 a4 (h : d = r)  => absurd h hd) (fun a0 (h : d = r)  => absurd h hd) h
noncomputable def poldK {β : Type} (d : β) (e : PV) (k : Nat → β) : β := @PV.casesOn (fun _ => β) e d (fun a0 => d) (fun a0 => d) (fun a0 => d) (fun a0 => d) (fun a0 => d) (fun a => k a) (fun a0 a1 => d) (fun a0 a1 a2 a3 a4 => d) (fun a0 => d)
set_option tactic.hygienic false in
@[elab_as_elim] theorem poldE {P : PV → Prop} {β : Type} {d r : β} {e : PV} {k : Nat → β} (h : poldK d e k = r) (hd : d ≠ r) (f : ∀ a, k a = r → P (.old a)) : P e := @PV.casesOn (fun e  => poldK d e k = r → P e) e (fun (h : d = r)  => absurd h hd) (fun a0 (h : d = r)  => absurd h hd) (fun a0 (h : d = r)  => absurd h hd) (fun a0 (h : d = r)  => absurd h hd) (fun a0 (h : d = r)  => absurd h hd) (fun a0 (h : d = r)  => absurd h hd) (fun a (h : k a = r)  => f a h) (fun a0 a1 (h : d = r)  => absurd h hd) (fun a0 a1 a2 a3 a4 (h : d = r)  => absurd h hd) (fun a0 (h : d = r)  => absurd h hd) h
noncomputable def pholeK {β : Type} (d : β) (e : PV) (k : Nat → β) : β := @PV.casesOn (fun _ => β) e d (fun a0 => d) (fun a0 => d) (fun a0 => d) (fun a0 => d) (fun a0 => d) (fun a0 => d) (fun a0 a1 => d) (fun a0 a1 a2 a3 a4 => d) (fun i => k i)
set_option tactic.hygienic false in
@[elab_as_elim] theorem pholeE {P : PV → Prop} {β : Type} {d r : β} {e : PV} {k : Nat → β} (h : pholeK d e k = r) (hd : d ≠ r) (f : ∀ i, k i = r → P (.hole i)) : P e := @PV.casesOn (fun e  => pholeK d e k = r → P e) e (fun (h : d = r)  => absurd h hd) (fun a0 (h : d = r)  => absurd h hd) (fun a0 (h : d = r)  => absurd h hd) (fun a0 (h : d = r)  => absurd h hd) (fun a0 (h : d = r)  => absurd h hd) (fun a0 (h : d = r)  => absurd h hd) (fun a0 (h : d = r)  => absurd h hd) (fun a0 a1 (h : d = r)  => absurd h hd) (fun a0 a1 a2 a3 a4 (h : d = r)  => absurd h hd) (fun i (h : k i = r)  => f i h) h
noncomputable def pclosK {β : Type} (d : β) (e : PV) (k : Arguments → Expr → Scope → Str → PV → β) : β := @PV.casesOn (fun _ => β) e d (fun a0 => d) (fun a0 => d) (fun a0 => d) (fun a0 => d) (fun a0 => d) (fun a0 => d) (fun a0 a1 => d) (fun ag body sc x p => k ag body sc x p) (fun a0 => d)
set_option tactic.hygienic false in
@[elab_as_elim] theorem pclosE {P : PV → Prop} {β : Type} {d r : β} {e : PV} {k : Arguments → Expr → Scope → Str → PV → β} (h : pclosK d e k = r) (hd : d ≠ r) (f : ∀ ag body sc x p, k ag body sc x p = r → P (.clos ag body sc x p)) : P e := @PV.casesOn (fun e  => pclosK d e k = r → P e) e (fun (h : d = r)  => absurd h hd) (fun a0 (h : d = r)  => absurd h hd) (fun a0 (h : d = r)  => absurd h hd) (fun a0 (h : d = r)  => absurd h hd) (fun a0 (h : d = r)  => absurd h hd) (fun a0 (h : d = r)  => absurd h hd) (fun a0 (h : d = r)  => absurd h hd) (fun a0 a1 (h : d = r)  => absurd h hd) (fun ag body sc x p (h : k ag body sc x p = r)  => f ag body sc x p h) (fun a0 (h : d = r)  => absurd h hd) h
noncomputable def ptrueK {β : Type} (d : β) (e : PV) (k : β) : β := @PV.casesOn (fun _ => β) e d (fun b => @Bool.casesOn (fun _ => β) b d k) (fun a0 => d) (fun a0 => d) (fun a0 => d) (fun a0 => d) (fun a0 => d) (fun a0 a1 => d) (fun a0 a1 a2 a3 a4 => d) (fun a0 => d)
set_option tactic.hygienic false in
@[elab_as_elim] theorem ptrueE {P : PV → Prop} {β : Type} {d r : β} {e : PV} {k : β} (h : ptrueK d e k = r) (hd : d ≠ r) (f : k = r → P (.bool true)) : P e := @PV.casesOn (fun e  => ptrueK d e k = r → P e) e (fun (h : d = r)  => absurd h hd) (fun b  => @Bool.casesOn (fun b  => ptrueK d (.bool b) k = r → P (.bool b)) b (fun (h : d = r)  => absurd h hd) (fun (h : k = r)  => f h)) (fun a0 (h : d = r)  => absurd h hd) (fun a0 (h : d = r)  => absurd h hd) (fun a0 (h : d = r)  => absurd h hd) (fun a0 (h : d = r)  => absurd h hd) (fun a0 (h : d = r)  => absurd h hd) (fun a0 a1 (h : d = r)  => absurd h hd) (fun a0 a1 a2 a3 a4 (h : d = r)  => absurd h hd) (fun a0 (h : d = r)  => absurd h hd) h
noncomputable def nilP {β : Type} (d : β) (e : PV) (k : β) : β := @PV.casesOn (fun _ => β) e k (fun a0 => d) (fun a0 => d) (fun a0 => d) (fun a0 => d) (fun a0 => d) (fun a0 => d) (fun a0 a1 => d) (fun a0 a1 a2 a3 a4 => d) (fun a0 => d)
set_option tactic.hygienic false in
@[elab_as_elim] theorem nilPE {P : PV → Prop} {β : Type} {d r : β} {e : PV} {k : β} (h : nilP d e k = r) (hd : d ≠ r) (f : k = r → P .none) : P e := @PV.casesOn (fun e  => nilP d e k = r → P e) e (fun (h : k = r)  => f h) (fun a0 (h : d = r)  => absurd h hd) (fun a0 (h : d = r)  => absurd h hd) (fun a0 (h : d = r)  => absurd h hd) (fun a0 (h : d = r)  => absurd h hd) (fun a0 (h : d = r)  => absurd h hd) (fun a0 (h : d = r)  => absurd h hd) (fun a0 a1 (h : d = r)  => absurd h hd) (fun a0 a1 a2 a3 a4 (h : d = r)  => absurd h hd) (fun a0 (h : d = r)  => absurd h hd) h
noncomputable def nilK {α β : Type} (d : β) (l : List α) (k : β) : β := match l with
  | [] => k
  | _ :: _ => d
set_option tactic.hygienic false in
@[elab_as_elim] theorem nilE {α β : Type} {P : List α → Prop} {d r : β} {l : List α} {k : β} (h : nilK d l k = r) (hd : d ≠ r) (f : k = r → P []) : P l := by
  cases l with
  | nil => exact f h
  | cons => exact absurd h hd
noncomputable def intK {β : Type} (d : β) (e : Expr) (k : Int → Nat → Pos → β) : β := constK d e fun c u p => cintK d c fun i => k i u p
set_option tactic.hygienic false in
@[elab_as_elim] theorem intE {P : Expr → Prop} {β : Type} {d r : β} {e : Expr} {k : Int → Nat → Pos → β} (h : intK d e k = r) (hd : d ≠ r) (f : ∀ i u p, k i u p = r → P (.Constant (.int i) u p)) : P e :=
  constE h hd fun zz u p h  => cintE (P := fun c  => P (.Constant c u p)) h hd fun i h  => f i u p h
noncomputable def isAdd (o : Operator) : Bool := @Operator.casesOn (fun _ => Bool) o true false false false false false false false false false false false false
set_option tactic.hygienic false in
theorem isAdd_eq {o : Operator} (h : isAdd o = true) : o = .Add := by
  cases o with
  | Add => rfl
  | _ => exact absF h
/-! end of views -/

noncomputable def eqL : List Nat → List Nat → Bool
  | [], [] => true
  | a :: r, b :: s => Nat.beq a b && eqL r s
  | _, _ => false
noncomputable def eqS (a b : Str) : Bool := eqL a.cps.toList b.cps.toList
noncomputable def lk {α : Type} (x : Str) : List (Str × α) → Option α
  | [] => none
  | (y, v) :: r => if eqS x y then some v else lk x r
noncomputable def put {α : Type} (x : Str) (v : α) : List (Str × α) → List (Str × α)
  | [] => [(x, v)]
  | (y, u) :: r => if eqS x y then (x, v) :: r else (y, u) :: put x v r

structure Fr where
  scope : Scope
  vars : List (Str × PV)
  up : List (Str × PV)
  lam : Bool
  q : Bool
noncomputable def symB : Nat := 1114112
noncomputable def isLit (c : Nat) : Bool := Nat.blt c symB
noncomputable def litR (r : List Nat) : Bool := r.all isLit
noncomputable def codes (s : String) : List Nat := (Str.ofString s).cps.toList

noncomputable def ropeEq (a b : List Nat) : Option Bool :=
  if eqL a b then some true
  else if litR a && litR b then some false
  else if a.isEmpty || b.isEmpty then some false
  else none
noncomputable def pvEqs (eq : PV → PV → Option Bool) : List PV → List PV → Option Bool
  | [], [] => some true
  | [], _ :: _ => some false
  | _ :: _, [] => some false
  | a :: r, b :: s => match eq a b, pvEqs eq r s with
    | some x, some y => some (x && y)
    | _, _ => none
noncomputable def pvEqB (σ : Sto) (eq : PV → PV → Option Bool) (a b : PV) : Option Bool := @PV.casesOn (fun _ => Option Bool) a none (fun a0 => none) (fun x => pintK none b fun y => some (x == y)) (fun x => pstrK none b fun y => ropeEq x y) (fun xs => ptupK none b fun ys => pvEqs eq xs ys) (fun i => plstK none b fun j => ifS none σ[i]? fun xs => ifS none σ[j]? fun ys => pvEqs eq xs ys) (fun a0 => none) (fun a0 a1 => none) (fun a0 a1 a2 a3 a4 => none) (fun a0 => none)
noncomputable def pvEq (σ : Sto) : Nat → PV → PV → Option Bool
  | 0, _, _ => none
  | n + 1, a, b => pvEqB σ (pvEq σ n) a b

noncomputable def seqD (e : Data) : Option (Array Value × Nat) := @Data.casesOn (fun _ => Option (Array Value × Nat)) e none (fun a0 => none) (fun a n => some (a, n)) (fun a0 a1 => none) (fun a0 a1 a2 => none) (fun a0 a1 => none) (fun a0 => none) (fun a0 => none) (fun a0 => none) (fun a0 => none) none
set_option tactic.hygienic false in
theorem seqD_eq {e : Data} {z : (Array Value × Nat)} (h : seqD e = some z) : e = .seq z.1 z.2 := @Data.casesOn (fun e  => seqD e = some z → e = .seq z.1 z.2) e (fun (h : none = some z)  => absN h) (fun a0 (h : none = some z)  => absN h) (fun a n (h : some (a, n) = some z) => Option.some.inj h ▸ rfl) (fun a0 a1 (h : none = some z)  => absN h) (fun a0 a1 a2 (h : none = some z)  => absN h) (fun a0 a1 (h : none = some z)  => absN h) (fun a0 (h : none = some z)  => absN h) (fun a0 (h : none = some z)  => absN h) (fun a0 (h : none = some z)  => absN h) (fun a0 (h : none = some z)  => absN h) (fun (h : none = some z)  => absN h) h
noncomputable def fieldsD (e : Data) : Option (Array Value) := @Data.casesOn (fun _ => Option (Array Value)) e none (fun a0 => none) (fun a0 a1 => none) (fun a0 a1 => none) (fun a0 a1 a2 => none) (fun a0 a1 => none) (fun a0 => none) (fun a0 => none) (fun a0 => none) (fun a => some a) none
set_option tactic.hygienic false in
theorem fieldsD_eq {e : Data} {z : (Array Value)} (h : fieldsD e = some z) : e = .fields z := @Data.casesOn (fun e  => fieldsD e = some z → e = .fields z) e (fun (h : none = some z)  => absN h) (fun a0 (h : none = some z)  => absN h) (fun a0 a1 (h : none = some z)  => absN h) (fun a0 a1 (h : none = some z)  => absN h) (fun a0 a1 a2 (h : none = some z)  => absN h) (fun a0 a1 (h : none = some z)  => absN h) (fun a0 (h : none = some z)  => absN h) (fun a0 (h : none = some z)  => absN h) (fun a0 (h : none = some z)  => absN h) (fun a (h : some a = some z)  => Option.some.inj h ▸ rfl) (fun (h : none = some z)  => absN h) h
noncomputable def funD (e : Data) : Option FuncData := @Data.casesOn (fun _ => Option FuncData) e none (fun a0 => none) (fun a0 a1 => none) (fun a0 a1 => none) (fun a0 a1 a2 => none) (fun a0 a1 => none) (fun a0 => none) (fun a => some a) (fun a0 => none) (fun a0 => none) none
set_option tactic.hygienic false in
theorem funD_eq {e : Data} {z : FuncData} (h : funD e = some z) : e = .func z := @Data.casesOn (fun e  => funD e = some z → e = .func z) e (fun (h : none = some z)  => absN h) (fun a0 (h : none = some z)  => absN h) (fun a0 a1 (h : none = some z)  => absN h) (fun a0 a1 (h : none = some z)  => absN h) (fun a0 a1 a2 (h : none = some z)  => absN h) (fun a0 a1 (h : none = some z)  => absN h) (fun a0 (h : none = some z)  => absN h) (fun a (h : some a = some z)  => Option.some.inj h ▸ rfl) (fun a0 (h : none = some z)  => absN h) (fun a0 (h : none = some z)  => absN h) (fun (h : none = some z)  => absN h) h
noncomputable def fieldsV (o : Obj) : Option (Array Value) := fieldsD o.data
noncomputable def seqV (o : Obj) : Option (Array Value × Nat) := seqD o.data
noncomputable def funV (o : Obj) : Option FuncData := funD o.data
set_option tactic.hygienic false in
theorem seqV_eq {o : Obj} {z : Array Value × Nat} (h : seqV o = some z) : o.data = .seq z.1 z.2 := seqD_eq h
set_option tactic.hygienic false in
theorem fieldsV_eq {o : Obj} {vs : Array Value} (h : fieldsV o = some vs) : o.data = .fields vs := fieldsD_eq h
set_option tactic.hygienic false in
theorem funV_eq {o : Obj} {fd : FuncData} (h : funV o = some fd) : ∃ c z sl, o = ⟨c, z, .func fd, sl⟩ := ⟨o.cls, o.dict, o.slots, (funD_eq h : o.data = .func fd) ▸ rfl⟩
noncomputable def stmtsV (e : FuncBody) : Option (List Stmt) := @FuncBody.casesOn (fun _ => Option (List Stmt)) e (fun a => some a) (fun a0 => none)
set_option tactic.hygienic false in
theorem stmtsV_eq {e : FuncBody} {z : (List Stmt)} (h : stmtsV e = some z) : e = .stmts z := @FuncBody.casesOn (fun e  => stmtsV e = some z → e = .stmts z) e (fun a (h : some a = some z)  => Option.some.inj h ▸ rfl) (fun a0 (h : none = some z)  => absN h) h
noncomputable def refV (e : Value) : Option Addr := @Value.casesOn (fun _ => Option Addr) e none none none (fun a0 => none) (fun a0 a1 => none) (fun a0 a1 => none) (fun a0 a1 => none) (fun a0 a1 => none) (fun a0 => none) (fun a0 => none) (fun a => some a)
set_option tactic.hygienic false in
theorem refV_eq {e : Value} {z : Addr} (h : refV e = some z) : e = .ref z := @Value.casesOn (fun e  => refV e = some z → e = .ref z) e (fun (h : none = some z)  => absN h) (fun (h : none = some z)  => absN h) (fun (h : none = some z)  => absN h) (fun a0 (h : none = some z)  => absN h) (fun a0 a1 (h : none = some z)  => absN h) (fun a0 a1 (h : none = some z)  => absN h) (fun a0 a1 (h : none = some z)  => absN h) (fun a0 a1 (h : none = some z)  => absN h) (fun a0 (h : none = some z)  => absN h) (fun a0 (h : none = some z)  => absN h) (fun a (h : some a = some z)  => Option.some.inj h ▸ rfl) h
noncomputable def vstrV (e : Value) : Option (Str × Tok) := @Value.casesOn (fun _ => Option (Str × Tok)) e none none none (fun a0 => none) (fun a0 a1 => none) (fun a0 a1 => none) (fun a n => some (a, n)) (fun a0 a1 => none) (fun a0 => none) (fun a0 => none) (fun a0 => none)
set_option tactic.hygienic false in
theorem vstrV_eq {e : Value} {z : (Str × Tok)} (h : vstrV e = some z) : e = .str z.1 z.2 := @Value.casesOn (fun e  => vstrV e = some z → e = .str z.1 z.2) e (fun (h : none = some z)  => absN h) (fun (h : none = some z)  => absN h) (fun (h : none = some z)  => absN h) (fun a0 (h : none = some z)  => absN h) (fun a0 a1 (h : none = some z)  => absN h) (fun a0 a1 (h : none = some z)  => absN h) (fun a n (h : some (a, n) = some z) => Option.some.inj h ▸ rfl) (fun a0 a1 (h : none = some z)  => absN h) (fun a0 (h : none = some z)  => absN h) (fun a0 (h : none = some z)  => absN h) (fun a0 (h : none = some z)  => absN h) h
noncomputable def isFunK (k : ScopeKind) : Bool := @ScopeKind.casesOn (fun _ => Bool) k false true false false false false false
noncomputable def isFun (sc : Scope) : Bool := isFunK sc.kind
noncomputable def okL {α : Type} (xs : List α) : Bool := Nat.ble xs.length 4000
noncomputable def truthP (σ : Sto) (e : PV) : Option Bool := @PV.casesOn (fun _ => Option Bool) e none (fun b => some b) (fun a0 => none) (fun a0 => none) (fun a0 => none) (fun i => ifS none σ[i]? fun xs => if okL xs then some (!xs.isEmpty) else none) (fun a0 => none) (fun a0 a1 => none) (fun a0 a1 a2 a3 a4 => none) (fun a0 => none)

/-! the written part -/
noncomputable def dictD (e : Data) : Option (Array DictEntry × Nat) := @Data.casesOn (fun _ => Option (Array DictEntry × Nat)) e none (fun a0 => none) (fun a0 a1 => none) (fun a n => some (a, n)) (fun a0 a1 a2 => none) (fun a0 a1 => none) (fun a0 => none) (fun a0 => none) (fun a0 => none) (fun a0 => none) none
theorem dictD_eq {e : Data} {z : (Array DictEntry × Nat)} (h : dictD e = some z) : e = .dict z.1 z.2 := @Data.casesOn (fun e => dictD e = some z → e = .dict z.1 z.2) e (fun (h : none = some z) => absN h) (fun a0 (h : none = some z) => absN h) (fun a0 a1 (h : none = some z) => absN h) (fun a n (h : some (a, n) = some z) => Option.some.inj h ▸ rfl) (fun a0 a1 a2 (h : none = some z) => absN h) (fun a0 a1 (h : none = some z) => absN h) (fun a0 (h : none = some z) => absN h) (fun a0 (h : none = some z) => absN h) (fun a0 (h : none = some z) => absN h) (fun a0 (h : none = some z) => absN h) (fun (h : none = some z) => absN h) h
noncomputable def nsK (K : Frag) (x : Str) : Option Value := ifS none (K.lookup mainGlobals) fun o => ifS none (dictD o.data) fun es => (es.1.toList.find? fun e => match e.key with | .str s _ => eqS s x | _ => false).map (·.val)
noncomputable def ofVs (f : Value → Option PV) : List Value → Option (List PV)
  | [] => some []
  | v :: r => ifS none (f v) fun p => ifS none (ofVs f r) fun ps => some (p :: ps)
noncomputable def seqO (o : Obj) : Option (Array Value × Nat) := if o.dict.isNone && o.slots.toList.isEmpty then seqV o else none
theorem seqO_eq {o : Obj} {z : Array Value × Nat} (h : seqO o = some z) : o = { cls := o.cls, data := .seq z.1 z.2 } := by
  refine ifB h nS fun h1 h => band2 h1 fun h1 h2 => ?_
  obtain ⟨c, d, dt, ⟨sl⟩⟩ := o
  have h3 : dt = _ := seqV_eq h
  have h4 : sl = [] := List.isEmpty_iff.mp h2
  have h5 : d = none := Option.isNone_iff_eq_none.mp h1
  rw [h3, h4, h5]
noncomputable def ofV (K : Frag) : Nat → Value → Option PV
  | 0, _ => none
  | n + 1, v => @Value.casesOn (fun _ => Option PV) v (some .none) none none (fun b => some (.bool b)) (fun i a1 => some (.int i)) (fun a0 a1 => none) (fun s a1 => if litR s.cps.toList then some (.str s.cps.toList) else none) (fun a0 a1 => none) (fun a0 => none) (fun a0 => none) (fun a => ifS none (K.lookup a) fun o => @Option.casesOn _ (fun _ => Option PV) (seqO o) (some (.old a)) fun z => if o.cls == .type "tuple" then ifS none (ofVs (ofV K n) z.1.toList) fun ps => some (.tup ps) else none)

noncomputable def mkR (r : List Nat) (k : List Nat → Bool) : Bool := if okL r then k r else false
noncomputable def mkL {α : Type} (r : List α) (k : List α → Bool) : Bool := if okL r then k r else false

noncomputable def repR (r : List Nat) : Nat → List Nat
  | 0 => []
  | n + 1 => r ++ repR r n
noncomputable def repL {α : Type} (r : List α) : Nat → List α
  | 0 => []
  | n + 1 => r ++ repL r n

noncomputable def smallF (x : Int) : Bool := Nat.blt x.natAbs 18446744073709551616
noncomputable def posI (y : Int) : Bool := decide (0 < y)
noncomputable def smallP (y : Int) : Bool := posI y && Nat.blt y.natAbs 1073741824
noncomputable def nonNegM (y : Int) : Bool := decide (0 ≤ y) && decide (y ≤ 1000000)
noncomputable def arI (a b : PV) (k : Int → Int → Bool) : Bool := pintK false a fun x => pintK false b fun y => k x y
noncomputable def binP (op : Operator) (a b : PV) (σ : Sto) (k : KV) : Bool := @Operator.casesOn (fun _ => Bool) op ((match a with
    | .str x => pstrK false b fun y => mkR (x ++ y) fun r => k (.str r) σ
    | .int x => pintK false b fun y => k (.int (x + y)) σ
    | .lst i => plstK false b fun j => ifS false σ[i]? fun xs => ifS false σ[j]? fun ys => mkL (xs ++ ys) fun zs => k (.lst σ.length) (σ ++ [zs])
    | _ => false)) false (arI a b fun x y => if smallF x || smallF y then k (.int (x * y)) σ else false) false false (arI a b fun x y => if posI y then k (.int (x.fmod y)) σ else false) (arI a b fun x y => if smallF x && nonNegM y then k (.int (x ^ y.toNat)) σ else false) false false false false false (arI a b fun x y => if smallP y then k (.int (x.fdiv y)) σ else false)
noncomputable def inP (r : List Nat) : List PV → Option Bool
  | [] => some false
  | .str y :: rest => (match ropeEq y r, inP r rest with
    | some x, some z => some (x || z)
    | _, _ => none)
  | _ => none
structure Top where
  K : Frag
  D : List Nat
  sh : Nat
noncomputable def memN (a : Nat) (l : List Nat) : Bool := l.any (Nat.beq a)
noncomputable def dictOfK (T : Top) (a : Nat) : Option (List DictEntry) := if memN a T.D then (match T.K.lookup a with
  | some ⟨_, _, .dict es _, _⟩ => some es.toList
  | _ => none) else none
noncomputable def keyIs (p : PV) (k : Value) : Option Bool := match p, k with
  | .str r, .str s _ => if litR r then some (eqL r s.cps.toList) else none
  | .int i, .int j _ => some (i == j)
  | _, _ => none
noncomputable def findK (p : PV) : List DictEntry → Option (Option Value)
  | [] => some none
  | e :: r => match keyIs p e.key with
    | some true => some (some e.val)
    | some false => findK p r
    | none => none
noncomputable def findD (σ : Sto) (p : PV) : List PV → List PV → Option (Option PV)
  | [], vs => nilK none vs (some none)
  | k :: ks, vs => consK none vs fun v ws => ifS none (pvEq σ 4 k p) fun t => @Bool.casesOn (fun _ => Option (Option PV)) t (findD σ p ks ws) (some (some v))
noncomputable def hashable1 (e : PV) : Bool := @PV.casesOn (fun _ => Bool) e false (fun a0 => false) (fun a0 => true) (fun r => litR r) (fun a0 => false) (fun a0 => false) (fun a0 => false) (fun a0 a1 => false) (fun a0 a1 a2 a3 a4 => false) (fun a0 => false)
noncomputable def dictGet (T : Top) (σ : Sto) (d p : PV) : Option (Option PV) := if hashable1 p then (match d with
    | .old a => ifS none (dictOfK T a) fun es => ifS none (findK p es) fun z => (match z with
        | some v => ifS none (ofV T.K 8 v) fun q => some (some q)
        | none => some none)
    | .dct ks vs => findD σ p ks vs
    | _ => none) else none

noncomputable def ltP (a b : PV) (k : Int → Int → Bool) : Option Bool := pintK none a fun x => pintK none b fun y => some (k x y)
noncomputable def plainNo (e : PV) : Option Bool := @PV.casesOn (fun _ => Option Bool) e (some true) (fun a0 => some false) (fun a0 => some false) (fun a0 => some false) (fun a0 => some false) (fun a0 => some false) (fun a0 => some false) (fun a0 a1 => some false) (fun a0 a1 a2 a3 a4 => some false) (fun a0 => none)
noncomputable def isNo (b a : PV) (f : Bool → Bool) : Option Bool := nilP none b (ifS none (plainNo a) fun t => some (f t))
noncomputable def cmpP (T : Top) (op : CmpOp) (a b : PV) (σ : Sto) : Option Bool := @CmpOp.casesOn (fun _ => Option Bool) op (pvEq σ 40 a b) (ifS none (pvEq σ 40 a b) fun c => some (!c)) (ltP a b fun x y => decide (x < y)) (ltP a b fun x y => decide (x ≤ y)) (ltP a b fun x y => decide (y < x)) none (isNo b a fun t => t) (isNo b a fun t => !t) (pstrK none a fun r => (match b with
    | .tup xs => inP r xs
    | .lst i => ifS none σ[i]? fun xs => inP r xs
    | .old _ => ifS none (dictGet T σ b (.str r)) fun z => some z.isSome
    | _ => none)) (pstrK none a fun r => ptupK none b fun xs => ifS none (inP r xs) fun z => some (!z))
noncomputable def idxP (i : Int) (n : Nat) : Option Nat :=
  let j := if i < 0 then i + n else i
  if 0 ≤ j && j < n then some j.toNat else none
noncomputable def pickP (xs : List PV) (i : PV) : Option PV := pintK none i fun i => if okL xs then (ifS none (idxP i xs.length) fun j => xs[j]?) else none
noncomputable def keyP (T : Top) (σ : Sto) (o i : PV) : Option PV := pstrK none i fun r => ifS none (dictGet T σ o (.str r)) fun z => z
noncomputable def itemP (T : Top) (o i : PV) (σ : Sto) : Option PV := @PV.casesOn (fun _ => Option PV) o none (fun a0 => none) (fun a0 => none) (fun a0 => none) (fun xs => pickP xs i) (fun l => ifS none σ[l]? fun xs => pickP xs i) (fun a0 => keyP T σ o i) (fun a0 a1 => keyP T σ o i) (fun a0 a1 a2 a3 a4 => none) (fun a0 => none)
noncomputable def partP (e : PV) : Option (Option Int) := @PV.casesOn (fun _ => Option (Option Int)) e (some none) (fun a0 => none) (fun i => some (some i)) (fun a0 => none) (fun a0 => none) (fun a0 => none) (fun a0 => none) (fun a0 a1 => none) (fun a0 a1 a2 a3 a4 => none) (fun a0 => none)
noncomputable def strCut (r : List Nat) (l u : Option Int) : List Nat :=
  let is := Builtin.Str.strSliceIndices l u 1 r.length
  if is.length == r.length then r else is.filterMap (r[·]?)
noncomputable def sliceP (o lo hi st : PV) (σ : Sto) (k : KV) : Bool := nilP false st (match o with
    | .tup xs => pintK false lo fun a => nilP false hi (if okL xs && decide (0 ≤ a) && Nat.ble a.toNat xs.length then k (.tup (xs.drop a.toNat)) σ else false)
    | .str r => if litR r && okL r then ifS false (partP lo) fun l => ifS false (partP hi) fun h => mkR (strCut r l h) fun x => k (.str x) σ else false
    | _ => false)

/-! sources of a loop -/
inductive Src where
  | tup (xs : List PV)
  | lst (i j : Nat)
  | rng (a : Int) (n : Nat)
  | zip (xs ys : List PV)
noncomputable def Src.next (σ : Sto) : Src → Option (Option (PV × Src))
  | .tup [] => some none
  | .tup (x :: r) => some (some (x, .tup r))
  | .lst i j => ifS none σ[i]? fun xs => (match xs[j]? with | some x => some (some (x, .lst i (j + 1))) | none => some none)
  | .rng _ 0 => some none
  | .rng a (n + 1) => some (some (.int a, .rng (a + 1) n))
  | .zip (p :: xs) (q :: ys) => some (some (.tup [p, q], .zip xs ys))
  | .zip _ _ => some none
noncomputable def srcOf (σ : Sto) (e : PV) : Option Src := @PV.casesOn (fun _ => Option Src) e none (fun a0 => none) (fun a0 => none) (fun a0 => none) (fun xs => some (.tup xs)) (fun i => ifS none σ[i]? fun _ => some (.lst i 0)) (fun a0 => none) (fun a0 a1 => none) (fun a0 a1 a2 a3 a4 => none) (fun a0 => none)
noncomputable def isTupE (e : Expr) : Bool := @Expr.casesOn (fun _ => Bool) e (fun a0 a1 a2 => false) (fun a0 a1 a2 => false) (fun a0 a1 a2 a3 => false) (fun a0 a1 a2 => false) (fun a0 a1 a2 a3 => false) (fun a0 a1 a2 a3 => false) (fun a0 a1 a2 => false) (fun a0 a1 a2 => false) (fun a0 a1 a2 a3 => false) (fun a0 a1 a2 a3 => false) (fun a0 a1 a2 a3 a4 => false) (fun a0 a1 a2 a3 => false) (fun a0 a1 => false) (fun a0 a1 => false) (fun a0 a1 => false) (fun a0 a1 a2 a3 => false) (fun a0 a1 a2 a3 => false) (fun a0 a1 a2 a3 => false) (fun a0 a1 => false) (fun a0 a1 a2 => false) (fun a0 a1 a2 => false) (fun a0 a1 a2 => false) (fun a0 a1 => false) (fun a0 a1 => false) (fun a0 a1 => false) (fun a0 a1 a2 => true) (fun a0 a1 a2 a3 => false)
noncomputable def tgtOk (src : Src) (t : Expr) : Bool := match src with
  | .zip _ _ => isTupE t
  | .tup _ => true
  | .lst _ _ => true
  | .rng _ _ => true
inductive FlowP where
  | next | ret (p : PV)
abbrev KF := FlowP → Fr → Sto → Bool

noncomputable def noStar (e : Expr) : Bool := @Expr.casesOn (fun _ => Bool) e (fun a0 a1 a2 => true) (fun a0 a1 a2 => true) (fun a0 a1 a2 a3 => true) (fun a0 a1 a2 => true) (fun a0 a1 a2 a3 => true) (fun a0 a1 a2 a3 => true) (fun a0 a1 a2 => true) (fun a0 a1 a2 => true) (fun a0 a1 a2 a3 => true) (fun a0 a1 a2 a3 => true) (fun a0 a1 a2 a3 a4 => true) (fun a0 a1 a2 a3 => true) (fun a0 a1 => true) (fun a0 a1 => true) (fun a0 a1 => true) (fun a0 a1 a2 a3 => true) (fun a0 a1 a2 a3 => true) (fun a0 a1 a2 a3 => true) (fun a0 a1 => true) (fun a0 a1 a2 => true) (fun a0 a1 a2 => true) (fun a0 a1 a2 => true) (fun a0 a1 => false) (fun a0 a1 => true) (fun a0 a1 => true) (fun a0 a1 a2 => true) (fun a0 a1 a2 a3 => true)
structure Lvl where
  ev : Expr → Fr → Sto → KV → KX → Bool
  tr : Expr → Fr → Sto → (Bool → Sto → Bool) → KX → Bool
  ex : Stmt → Fr → Sto → KF → KX → Bool
noncomputable def lvl0 : Lvl := ⟨fun _ _ _ _ _ => false, fun _ _ _ _ _ => false, fun _ _ _ _ _ => false⟩

structure Cx where
  T : Top
  gf : Addr
  orc : Orc

noncomputable def globP (K : Frag) (x : Str) : Option PV := ifS none (nsK K x) fun v => ofV K 8 v
noncomputable def nameOk (x : Str) : Bool := !eqS x (Str.ofString "__debug__") && !eqS x (Str.ofString "__classdict__")
noncomputable def nameP (cx : Cx) (x : Str) (ρ : Fr) : Option PV := if nameOk x then ifS none (lk x ρ.scope.names) fun k => (match k with
  | .local => lk x ρ.vars
  | .cell => lk x ρ.vars
  | .free => lk x ρ.up
  | .globalImplicit => globP cx.T.K x
  | _ => none) else none
noncomputable def isGlobK (e : NameKind) : Bool := @NameKind.casesOn (fun _ => Bool) e false false false false true
noncomputable def isLocalK (e : NameKind) : Bool := @NameKind.casesOn (fun _ => Bool) e true false false false false
noncomputable def isGl (sc : Scope) (x : Str) : Bool := ifS false (lk x sc.names) isGlobK
noncomputable def isLc (sc : Scope) (x : Str) : Bool := ifS false (lk x sc.names) isLocalK
set_option tactic.hygienic false in
theorem isGlobK_eq {k : NameKind} (h : isGlobK k = true) : k = .globalImplicit := by
  cases k with
  | globalImplicit => rfl
  | _ => exact absF h
set_option tactic.hygienic false in
theorem isLocalK_eq {k : NameKind} (h : isLocalK k = true) : k = .local := by
  cases k with
  | «local» => rfl
  | _ => exact absF h
set_option tactic.hygienic false in
theorem isGl_eq {sc : Scope} {x : Str} (h : isGl sc x = true) : lk x sc.names = some .globalImplicit := ifE' h fT fun k e h  => by rw [e, isGlobK_eq h]
set_option tactic.hygienic false in
theorem isLc_eq {sc : Scope} {x : Str} (h : isLc sc x = true) : lk x sc.names = some .local := ifE' h fT fun k e h  => by rw [e, isLocalK_eq h]
set_option tactic.hygienic false in
theorem nameP_loc {cx : Cx} {x : Str} {ρ : Fr} (h : nameOk x = true) (e : lk x ρ.scope.names = some .local) : nameP cx x ρ = lk x ρ.vars := by
  unfold nameP
  rw [if_pos h, e]; rfl
set_option tactic.hygienic false in
theorem nameP_free {cx : Cx} {x : Str} {ρ : Fr} (h : nameOk x = true) (e : lk x ρ.scope.names = some .free) : nameP cx x ρ = lk x ρ.up := by
  unfold nameP
  rw [if_pos h, e]; rfl
set_option tactic.hygienic false in
theorem nameP_gl {cx : Cx} {x : Str} {ρ : Fr} (h : nameOk x = true) (e : lk x ρ.scope.names = some .globalImplicit) : nameP cx x ρ = globP cx.T.K x := by
  unfold nameP
  rw [if_pos h, e]; rfl
noncomputable def isBlt (cx : Cx) (x : Str) (ρ : Fr) (b : String) : Bool :=
  eqS x (Str.ofString b) && isGl ρ.scope x && (nsK cx.T.K x).isNone

noncomputable def evs (L : Lvl) : List Expr → Fr → Sto → (List PV → Sto → Bool) → KX → Bool
  | [], _, σ, k, _ => k [] σ
  | e :: r, ρ, σ, k, kx => if noStar e then L.ev e ρ σ (fun p σ => evs L r ρ σ (fun ps σ => k (p :: ps) σ) kx) kx else false
noncomputable def evOpt (L : Lvl) : Option Expr → Fr → Sto → KV → KX → Bool
  | none, _, σ, k, _ => k .none σ
  | some e, ρ, σ, k, kx => L.ev e ρ σ k kx

noncomputable def constP (e : Const) : Option PV := @Const.casesOn (fun _ => Option PV) e (some .none) (fun b => some (.bool b)) (fun i => some (.int i)) (fun a0 => none) (fun a0 a1 => none) (fun s => if litR s.cps.toList then some (.str s.cps.toList) else none) (fun a0 => none) none

noncomputable def evChain (cx : Cx) (L : Lvl) (ρ : Fr) (kx : KX) (a : PV) (ops : List CmpOp) (rs : List Expr) (σ : Sto) (k : Bool → Sto → Bool) : Bool := oneK false ops fun op => oneK false rs fun r =>
  L.ev r ρ σ (fun b σ => ifS false (cmpP cx.T op a b σ) fun c => k c σ) kx

noncomputable def andOr (op : BoolOp) (t a b : Bool) : Bool := @BoolOp.casesOn (fun _ => Bool) op (@Bool.casesOn (fun _ => Bool) t a b) (@Bool.casesOn (fun _ => Bool) t b a)
noncomputable def evBool (L : Lvl) (ρ : Fr) (kx : KX) (op : BoolOp) : List Expr → Sto → KV → Bool
  | [], _, _ => false
  | e :: r, σ, k => nilK (L.ev e ρ σ (fun p σ => ifS false (truthP σ p) fun t => andOr op t (k p σ) (evBool L ρ kx op r σ k)) kx) r (L.ev e ρ σ k kx)
noncomputable def evT (L : Lvl) (e : Expr) (ρ : Fr) (σ : Sto) (k : Bool → Sto → Bool) (kx : KX) : Bool :=
  L.ev e ρ σ (fun p σ => match truthP σ p with | some b => k b σ | none => false) kx

noncomputable def ass1 (x : Str) (p : PV) (ρ : Fr) : Option Fr := match lk x ρ.scope.names with
  | some .local => some { ρ with vars := put x p ρ.vars }
  | some .cell => if ρ.lam then none else some { ρ with vars := put x p ρ.vars }
  | _ => none
noncomputable def assL (f : Expr → PV → Fr → Option Fr) : List Expr → List PV → Fr → Option Fr
  | [], ps, ρ => nilK none ps (some ρ)
  | t :: ts, ps, ρ => consK none ps fun p qs => ifS none (f t p ρ) fun ρ => assL f ts qs ρ
noncomputable def assNB (f : Expr → PV → Fr → Option Fr) (t : Expr) (p : PV) (ρ : Fr) : Option Fr := @Expr.casesOn (fun _ => Option Fr) t (fun a0 a1 a2 => none) (fun a0 a1 a2 => none) (fun a0 a1 a2 a3 => none) (fun a0 a1 a2 => none) (fun a0 a1 a2 a3 => none) (fun a0 a1 a2 a3 => none) (fun a0 a1 a2 => none) (fun a0 a1 a2 => none) (fun a0 a1 a2 a3 => none) (fun a0 a1 a2 a3 => none) (fun a0 a1 a2 a3 a4 => none) (fun a0 a1 a2 a3 => none) (fun a0 a1 => none) (fun a0 a1 => none) (fun a0 a1 => none) (fun a0 a1 a2 a3 => none) (fun a0 a1 a2 a3 => none) (fun a0 a1 a2 a3 => none) (fun a0 a1 => none) (fun a0 a1 a2 => none) (fun a0 a1 a2 => none) (fun a0 a1 a2 => none) (fun a0 a1 => none) (fun x a1 => ass1 x p ρ) (fun a0 a1 => none) (fun ts a1 a2 => ptupK none p fun ps => if ts.all noStar then assL f ts ps ρ else none) (fun a0 a1 a2 a3 => none)
noncomputable def assN : Nat → Expr → PV → Fr → Option Fr
  | 0, _, _, _ => none
  | n + 1, t, p, ρ => assNB (assN n) t p ρ
noncomputable def assT (t : Expr) (p : PV) (ρ : Fr) (k : Fr → Bool) : Bool := match assN 3 t p ρ with
  | some ρ => k ρ
  | none => false

noncomputable def allTests (L : Lvl) (ρ : Fr) (kx : KX) : List Expr → Sto → (Bool → Sto → Bool) → Bool
  | [], σ, k => k true σ
  | e :: r, σ, k => L.tr e ρ σ (fun b σ => if b then allTests L ρ kx r σ k else k false σ) kx

noncomputable def compGo (L : Lvl) (elt target : Expr) (ifs : List Expr) (acc : Nat) (kx : KX) : Nat → Src → Fr → Sto → (Sto → Bool) → Bool
  | 0, _, _, _, _ => false
  | n + 1, s, ρ, σ, k => match s.next σ with
    | none => false
    | some none => k σ
    | some (some (p, s')) => assT target p ρ fun ρ => allTests L ρ kx ifs σ fun b σ =>
      if b then L.ev elt ρ σ (fun q σ => match σ[acc]? with
        | some xs => if okL xs then compGo L elt target ifs acc kx n s' ρ (σ.set acc (xs ++ [q])) k else false
        | none => false) kx
      else compGo L elt target ifs acc kx n s' ρ σ k

noncomputable def smallI (i : Int) : Bool := Nat.ble i.natAbs 1000000
noncomputable def evRng (k : Src → Sto → Bool) (ps : List PV) (σ : Sto) : Bool := match ps with
  | [] => false
  | p :: r => (match r with
    | [] => pintK false p fun n => if smallI n then k (.rng 0 n.toNat) σ else false
    | q :: r => nilK false r (pintK false p fun a => pintK false q fun b => if smallI a && smallI b then k (.rng a (b - a).toNat) σ else false))
noncomputable def callF (e : Expr) : Option (Str × List Expr) := call0K none e fun g as ks _ => nilK none ks (nameK none g fun f _ => some (f, as))
noncomputable def evSrc (cx : Cx) (L : Lvl) (e : Expr) (ρ : Fr) (σ : Sto) (k : Src → Sto → Bool) (kx : KX) : Bool := match callF e with
  | some c =>
    if isBlt cx c.1 ρ "range" then (if c.2.all noStar then evs L c.2 ρ σ (fun ps σ => evRng k ps σ) kx else false)
    else if isBlt cx c.1 ρ "zip" then (if c.2.all noStar then evs L c.2 ρ σ (fun ps σ => twoK false ps fun p q => ptupK false p fun xs => ptupK false q fun ys => k (.zip xs ys) σ) kx else false)
    else L.ev e ρ σ (fun p σ => ifS false (srcOf σ p) fun s => k s σ) kx
  | none => L.ev e ρ σ (fun p σ => ifS false (srcOf σ p) fun s => k s σ) kx

noncomputable def loopMax : Nat := 256

noncomputable def intText (i : Int) : List Nat := (Str.ofString (toString i)).cps.toList

noncomputable def joinR (sep : List Nat) : List PV → Option (List Nat)
  | [] => some []
  | p :: rest => pstrK none p fun r => nilK (ifS none (joinR sep rest) fun s => some (r ++ sep ++ s)) rest (some r)

noncomputable def joinG (sep : List Nat) (xs : List PV) : Option (List Nat) := if Nat.ble sep.length 64 then joinR sep xs else none
inductive MK where
  | append | extend | reverse | pop | join | get
noncomputable def mkName : MK → Str
  | .append => Str.ofString "append" | .extend => Str.ofString "extend" | .reverse => Str.ofString "reverse" | .pop => Str.ofString "pop" | .join => Str.ofString "join" | .get => Str.ofString "get"
noncomputable def methK (m : Str) : Option MK := [MK.append, .extend, .reverse, .pop, .join, .get].find? fun mk => eqS m (mkName mk)
noncomputable def listP (o : PV) (σ : Sto) (k : Nat → List PV → Bool) : Bool := plstK false o fun i => ifS false σ[i]? fun xs => if okL xs then k i xs else false
noncomputable def isDct (e : PV) : Bool := @PV.casesOn (fun _ => Bool) e false (fun a0 => false) (fun a0 => false) (fun a0 => false) (fun a0 => false) (fun a0 => false) (fun a0 => false) (fun a0 a1 => true) (fun a0 a1 a2 a3 a4 => false) (fun a0 => false)
noncomputable def methP (T : Top) (m : MK) (o : PV) (args : List PV) (σ : Sto) (k : KV) : Bool := match m with
  | .append => listP o σ fun i xs => oneK false args fun p => k .none (σ.set i (xs ++ [p]))
  | .extend => listP o σ fun i xs => oneK false args fun q => listP q σ fun j ys => if !Nat.beq i j then mkL (xs ++ ys) fun zs => k .none (σ.set i zs) else false
  | .reverse => listP o σ fun i xs => nilK false args (k .none (σ.set i xs.reverse))
  | .pop => listP o σ fun i xs => nilK false args (ifS false xs.getLast? fun p => k p (σ.set i xs.dropLast))
  | .join => pstrK false o fun r => oneK false args fun q => listP q σ fun _ xs => ifS false (joinG r xs) fun s => mkR s fun s => k (.str s) σ
  | .get => twoK false args fun a e => pstrK false a fun r => if isDct o then ifS false (dictGet T σ o (.str r)) fun z => (match z with | some v => k v σ | none => k e σ) else false
noncomputable def isLstIn (σ : Sto) (e : PV) : Bool := @PV.casesOn (fun _ => Bool) e false (fun a0 => false) (fun a0 => false) (fun a0 => false) (fun a0 => false) (fun i => Nat.blt i σ.length) (fun a0 => false) (fun a0 a1 => false) (fun a0 a1 a2 a3 a4 => false) (fun a0 => false)
noncomputable def isStrP (e : PV) : Bool := @PV.casesOn (fun _ => Bool) e false (fun a0 => false) (fun a0 => false) (fun a0 => true) (fun a0 => false) (fun a0 => false) (fun a0 => false) (fun a0 a1 => false) (fun a0 a1 a2 a3 a4 => false) (fun a0 => false)
noncomputable def recvOk (m : MK) (o : PV) (σ : Sto) : Bool := match m with
  | .join => isStrP o
  | .get => isDct o
  | _ => isLstIn σ o
noncomputable def notCall (e : Expr) : Bool := @Expr.casesOn (fun _ => Bool) e (fun a0 a1 a2 => true) (fun a0 a1 a2 => true) (fun a0 a1 a2 a3 => true) (fun a0 a1 a2 => true) (fun a0 a1 a2 a3 => true) (fun a0 a1 a2 a3 => true) (fun a0 a1 a2 => true) (fun a0 a1 a2 => true) (fun a0 a1 a2 a3 => true) (fun a0 a1 a2 a3 => true) (fun a0 a1 a2 a3 a4 => true) (fun a0 a1 a2 a3 => true) (fun a0 a1 => true) (fun a0 a1 => true) (fun a0 a1 => true) (fun a0 a1 a2 a3 => true) (fun a0 a1 a2 a3 => false) (fun a0 a1 a2 a3 => true) (fun a0 a1 => true) (fun a0 a1 a2 => true) (fun a0 a1 a2 => true) (fun a0 a1 a2 => true) (fun a0 a1 => true) (fun a0 a1 => true) (fun a0 a1 => true) (fun a0 a1 a2 => true) (fun a0 a1 a2 a3 => true)
noncomputable def methGood (o : Expr) (apos pos : Pos) (args : List Expr) : Bool := notCall o && args.all noStar && Nat.blt args.length 29 && (apos.endLine == pos.line)

noncomputable def lenP (σ : Sto) (e : PV) : Option Nat := @PV.casesOn (fun _ => Option Nat) e none (fun a0 => none) (fun a0 => none) (fun a0 => none) (fun xs => if okL xs then some xs.length else none) (fun i => ifS none σ[i]? fun xs => if okL xs then some xs.length else none) (fun a0 => none) (fun a0 a1 => none) (fun a0 a1 a2 a3 a4 => none) (fun a0 => none)

noncomputable def allP : List PV → Option Bool
  | [] => some true
  | .bool c :: r => (match allP r with | some b => some (c && b) | none => none)
  | _ => none
noncomputable def blLen (ps : List PV) (σ : Sto) (k : KV) : Bool := oneK false ps fun p => ifS false (lenP σ p) fun n => k (.int n) σ
noncomputable def blStr (ps : List PV) (σ : Sto) (k : KV) : Bool := oneK false ps fun p => pintK false p fun i => if Nat.blt i.natAbs 1000000 && litR (intText i) then k (.str (intText i)) σ else false
noncomputable def blAbs (ps : List PV) (σ : Sto) (k : KV) : Bool := oneK false ps fun p => pintK false p fun i => k (.int i.natAbs) σ
noncomputable def blAll (ps : List PV) (σ : Sto) (k : KV) : Bool := oneK false ps fun p => plstK false p fun i => ifS false σ[i]? fun xs => ifS false (allP xs) fun b => k (.bool b) σ
noncomputable def blList (ps : List PV) (σ : Sto) (k : KV) : Bool := oneK false ps fun p => ptupK false p fun xs => if okL xs then k (.lst σ.length) (σ ++ [xs]) else false
noncomputable def blInt (ps : List PV) (σ : Sto) (k : KV) : Bool := oneK false ps fun p => match p with
  | .int i => k (.int i) σ
  | .bool b => k (.int (if b then 1 else 0)) σ
  | _ => false
noncomputable def blDm (ps : List PV) (σ : Sto) (k : KV) : Bool := twoK false ps fun p q => arI p q fun a b => if smallP b then k (.tup [.int (a.fdiv b), .int (a.fmod b)]) σ else false
noncomputable def blts : List (String × (List PV → Sto → KV → Bool)) := [("len", blLen), ("str", blStr), ("abs", blAbs), ("all", blAll), ("list", blList), ("int", blInt), ("divmod", blDm)]
noncomputable def bltG (cx : Cx) (L : Lvl) (f : Str) (args : List Expr) (ρ : Fr) (σ : Sto) (k : KV) (kx : KX) : List (String × (List PV → Sto → KV → Bool)) → Bool
  | [] => false
  | b :: r => if isBlt cx f ρ b.1 then evs L args ρ σ (fun ps σ => b.2 ps σ k) kx else bltG cx L f args ρ σ k kx r
noncomputable def bltP (cx : Cx) (L : Lvl) (f : Str) (args : List Expr) (ρ : Fr) (σ : Sto) (k : KV) (kx : KX) : Bool := bltG cx L f args ρ σ k kx blts
noncomputable def revArg (cx : Cx) (ρ : Fr) (es : List Expr) : Option Expr := oneK none es fun e => call0K none e fun g as ks _ => nilK none ks (nameK none g fun f _ => oneK none as fun a =>
  if isBlt cx f ρ "reversed" && noStar a then some a else none)

noncomputable def litKey (e : PV) : Bool := @PV.casesOn (fun _ => Bool) e false (fun a0 => false) (fun a0 => false) (fun r => litR r) (fun a0 => false) (fun a0 => false) (fun a0 => false) (fun a0 a1 => false) (fun a0 a1 a2 a3 a4 => false) (fun a0 => false)
noncomputable def evDict (L : Lvl) : List (Option Expr) → List Expr → Fr → Sto → (List PV → List PV → Sto → Bool) → KX → Bool
  | [], [], _, σ, k, _ => k [] [] σ
  | some e :: ks, v :: vs, ρ, σ, k, kx => L.ev e ρ σ (fun p σ => if litKey p then L.ev v ρ σ (fun q σ => evDict L ks vs ρ σ (fun ps qs σ => k (p :: ps) (q :: qs) σ) kx) kx else false) kx
  | _, _, _, _, _, _ => false
noncomputable def distinctK (σ : Sto) : List PV → Bool
  | [] => true
  | p :: r => (r.all fun q => match pvEq σ 4 p q with | some false => true | _ => false) && distinctK σ r

noncomputable def isFreeK (e : NameKind) : Bool := @NameKind.casesOn (fun _ => Bool) e false false true false false
noncomputable def freeOne (sc : Scope) : Option Str := match sc.names.filter fun x => isFreeK x.2 with
  | [(x, _)] => some x
  | _ => none
noncomputable def noDef (a : Arguments) : Bool := a.posonlyargs.isEmpty && a.vararg.isNone && a.kwonlyargs.isEmpty && a.kw_defaults.isEmpty && a.kwarg.isNone && a.defaults.isEmpty
noncomputable def noCells (sc : Scope) : Bool := sc.names.all fun x => match x.2 with | .cell => false | _ => true
noncomputable def valUp (ρ : Fr) (x : Str) : Option PV := match lk x ρ.scope.names with
  | some .cell => lk x ρ.vars
  | some .free => lk x ρ.up
  | _ => none
noncomputable def upOf (ρ : Fr) : List (Str × NameKind) → Option (List (Str × PV))
  | [] => some []
  | x :: r => if isFreeK x.2 then (match valUp ρ x.1 with
      | some p => (match upOf ρ r with | some ps => some ((x.1, p) :: ps) | none => none)
      | none => none)
    else upOf ρ r
noncomputable def localsOk (sc : Scope) : Bool := sc.names.all fun x => match x.2 with
  | .local => (match lk x.1 sc.names with | some .local => true | _ => false)
  | _ => true
noncomputable def notSet (e : Expr) : Bool := @Expr.casesOn (fun _ => Bool) e (fun a0 a1 a2 => true) (fun a0 a1 a2 => true) (fun a0 a1 a2 a3 => true) (fun a0 a1 a2 => true) (fun a0 a1 a2 a3 => true) (fun a0 a1 a2 a3 => true) (fun a0 a1 a2 => true) (fun a0 a1 a2 => false) (fun a0 a1 a2 a3 => true) (fun a0 a1 a2 a3 => true) (fun a0 a1 a2 a3 a4 => true) (fun a0 a1 a2 a3 => true) (fun a0 a1 => true) (fun a0 a1 => true) (fun a0 a1 => true) (fun a0 a1 a2 a3 => true) (fun a0 a1 a2 a3 => true) (fun a0 a1 a2 a3 => true) (fun a0 a1 => true) (fun a0 a1 a2 => true) (fun a0 a1 a2 => true) (fun a0 a1 a2 => true) (fun a0 a1 => true) (fun a0 a1 => true) (fun a0 a1 => true) (fun a0 a1 a2 => true) (fun a0 a1 a2 a3 => true)
noncomputable def compOk (g : Comprehension) (sc : Scope) : Bool := g.is_async == 0 && notSet g.iter && isFun sc && noCells sc && localsOk sc
noncomputable def fnP (K : Frag) (e : PV) : Bool := @PV.casesOn (fun _ => Bool) e false (fun a0 => false) (fun a0 => false) (fun a0 => false) (fun a0 => false) (fun a0 => false) (fun a => (ifS false (K.lookup a) fun o => ifS false (funV o) fun _ => true)) (fun a0 a1 => false) (fun a0 a1 a2 a3 a4 => true) (fun a0 => false)
noncomputable def negI (e : Expr) (k : Int → Bool) : Bool := intK false e fun i _ _ => k i
noncomputable def asSlice (e : Expr) : Option (Option Expr × Option Expr × Option Expr × Pos) := @Expr.casesOn (fun _ => Option (Option Expr × Option Expr × Option Expr × Pos)) e (fun a0 a1 a2 => none) (fun a0 a1 a2 => none) (fun a0 a1 a2 a3 => none) (fun a0 a1 a2 => none) (fun a0 a1 a2 a3 => none) (fun a0 a1 a2 a3 => none) (fun a0 a1 a2 => none) (fun a0 a1 a2 => none) (fun a0 a1 a2 a3 => none) (fun a0 a1 a2 a3 => none) (fun a0 a1 a2 a3 a4 => none) (fun a0 a1 a2 a3 => none) (fun a0 a1 => none) (fun a0 a1 => none) (fun a0 a1 => none) (fun a0 a1 a2 a3 => none) (fun a0 a1 a2 a3 => none) (fun a0 a1 a2 a3 => none) (fun a0 a1 => none) (fun a0 a1 a2 => none) (fun a0 a1 a2 => none) (fun a0 a1 a2 => none) (fun a0 a1 => none) (fun a0 a1 => none) (fun a0 a1 => none) (fun a0 a1 a2 => none) (fun lo hi st p => some (lo, hi, st, p))
noncomputable def evSub (cx : Cx) (L : Lvl) (o i : Expr) (ρ : Fr) (σ : Sto) (k : KV) (kx : KX) : Bool := match asSlice i with
  | some z => L.ev o ρ σ (fun p σ => evOpt L z.1 ρ σ (fun l σ => evOpt L z.2.1 ρ σ (fun h σ => evOpt L z.2.2.1 ρ σ (fun s σ => sliceP p l h s σ k) kx) kx) kx) kx
  | none => L.ev o ρ σ (fun p σ => L.ev i ρ σ (fun q σ => ifS false (itemP cx.T p q σ) fun v => k v σ) kx) kx
noncomputable def evComp (cx : Cx) (L : Lvl) (elt : Expr) (g : Comprehension) (sc : Scope) (ρ : Fr) (σ : Sto) (k : KV) (kx : KX) : Bool :=
  if compOk g sc then ifS false (upOf ρ sc.names) fun up => evSrc cx L g.iter ρ σ (fun s σ => if tgtOk s g.target then
      compGo L elt g.target g.ifs σ.length kx loopMax s { scope := sc, vars := [], up := up, lam := ρ.lam, q := ρ.q } (σ ++ [[]]) fun σ' => k (.lst σ.length) σ' else false) kx else false
noncomputable def isCellK (sc : Scope) (x : Str) : Bool := ifS false (lk x sc.names) fun k => match k with | .cell => true | _ => false
noncomputable def evLam (ag : Arguments) (body : Expr) (sc : Scope) (ρ : Fr) (σ : Sto) (k : KV) : Bool := ifS false (freeOne sc) fun x =>
  if noCells sc && ρ.lam && ρ.q && noDef ag then (if isCellK ρ.scope x then ifS false (lk x ρ.vars) fun p => k (.clos ag body sc x p) σ else false) else false
noncomputable def isJoin : MK → Bool
  | .join => true
  | _ => false
noncomputable def evMeth (cx : Cx) (L : Lvl) (o : Expr) (m : Str) (apos : Pos) (args : List Expr) (pos : Pos) (ρ : Fr) (σ : Sto) (k : KV) (kx : KX) : Bool := if methGood o apos pos args then ifS false (methK m) fun mk =>
    (match revArg cx ρ args with
      | some a => if isJoin mk then L.ev o ρ σ (fun p σ => pstrK false p fun r =>
          L.ev a ρ σ (fun q σ => listP q σ fun _ xs => ifS false (joinG r xs.reverse) fun s => mkR s fun s => k (.str s) σ) kx) kx else false
      | none => L.ev o ρ σ (fun p σ => if recvOk mk p σ then evs L args ρ σ (fun ps σ => methP cx.T mk p ps σ k) kx else false) kx) else false
noncomputable def evNm (cx : Cx) (L : Lvl) (f : Str) (args : List Expr) (ρ : Fr) (σ : Sto) (k : KV) (kx : KX) : Bool := if args.all noStar then (match nameP cx f ρ with
    | some c => if fnP cx.T.K c then evs L args ρ σ (fun ps σ => cx.orc c ps σ k kx) kx else false
    | none => bltP cx L f args ρ σ k kx) else false
noncomputable def isUSub : UnaryOp → Bool
  | .USub => true
  | _ => false
noncomputable def evS (cx : Cx) (L : Lvl) (e : Expr) (ρ : Fr) (σ : Sto) (k : KV) (kx : KX) : Bool := @Expr.casesOn (fun _ => Bool) e (fun op es a2 => evBool L ρ kx op es σ k) (fun a0 a1 a2 => false) (fun l op r a3 => L.ev l ρ σ (fun a σ => L.ev r ρ σ (fun b σ => binP op a b σ k) kx) kx) (fun op e a2 => if isUSub op then negI e fun i => k (.int (-i)) σ else false) (fun ag body sc a3 => evLam ag body sc ρ σ k) (fun t a b a3 => L.tr t ρ σ (fun c σ => if c then L.ev a ρ σ k kx else L.ev b ρ σ k kx) kx) (fun ks vs a2 => if Nat.blt 0 ks.length && Nat.ble ks.length 15 && ks.all (·.isSome) && Nat.beq ks.length vs.length then evDict L ks vs ρ σ (fun ps qs σ => if distinctK σ ps then k (.dct ps qs) σ else false) kx else false) (fun a0 a1 a2 => false) (fun elt gs sc a3 => oneK false gs fun g => evComp cx L elt g sc ρ σ k kx) (fun a0 a1 a2 a3 => false) (fun a0 a1 a2 a3 a4 => false) (fun a0 a1 a2 a3 => false) (fun a0 a1 => false) (fun a0 a1 => false) (fun a0 a1 => false) (fun l ops rs a3 => if lastMarks ops rs || !Nat.beq ops.length rs.length then false else L.ev l ρ σ (fun a σ => evChain cx L ρ kx a ops rs σ fun b σ => k (.bool b) σ) kx) (fun f args kw pos => nilK false kw (@Expr.casesOn (fun _ => Bool) f (fun a0 a1 a2 => false) (fun a0 a1 a2 => false) (fun a0 a1 a2 a3 => false) (fun a0 a1 a2 => false) (fun a0 a1 a2 a3 => false) (fun a0 a1 a2 a3 => false) (fun a0 a1 a2 => false) (fun a0 a1 a2 => false) (fun a0 a1 a2 a3 => false) (fun a0 a1 a2 a3 => false) (fun a0 a1 a2 a3 a4 => false) (fun a0 a1 a2 a3 => false) (fun a0 a1 => false) (fun a0 a1 => false) (fun a0 a1 => false) (fun a0 a1 a2 a3 => false) (fun a0 a1 a2 a3 => false) (fun a0 a1 a2 a3 => false) (fun a0 a1 => false) (fun a0 a1 a2 => false) (fun o m apos => evMeth cx L o m apos args pos ρ σ k kx) (fun a0 a1 a2 => false) (fun a0 a1 => false) (fun f a1 => evNm cx L f args ρ σ k kx) (fun a0 a1 => false) (fun a0 a1 a2 => false) (fun a0 a1 a2 a3 => false))) (fun a0 a1 a2 a3 => false) (fun a0 a1 => false) (fun c a1 a2 => ifS false (constP c) fun p => k p σ) (fun a0 a1 a2 => false) (fun o i a2 => evSub cx L o i ρ σ k kx) (fun a0 a1 => false) (fun x a1 => ifS false (nameP cx x ρ) fun p => k p σ) (fun es a1 => evs L es ρ σ (fun ps σ => mkL ps fun ps => k (.lst σ.length) (σ ++ [ps])) kx) (fun es a1 a2 => evs L es ρ σ (fun ps σ => mkL ps fun ps => k (.tup ps) σ) kx) (fun a0 a1 a2 a3 => false)

noncomputable def allTr (L : Lvl) (ρ : Fr) (kx : KX) (op : BoolOp) : List Expr → Sto → (Bool → Sto → Bool) → Bool
  | [], σ, k => k (match op with | .And => true | .Or => false) σ
  | e :: r, σ, k => L.tr e ρ σ (fun b σ => match op, b with
    | .And, false => k false σ
    | .Or, true => k true σ
    | _, _ => allTr L ρ kx op r σ k) kx
noncomputable def isTr (e : Expr) : Bool := @Expr.casesOn (fun _ => Bool) e (fun a0 a1 a2 => true) (fun a0 a1 a2 => false) (fun a0 a1 a2 a3 => false) (fun op a1 a2 => (match op with | .Not => true | _ => false)) (fun a0 a1 a2 a3 => false) (fun a0 a1 a2 a3 => true) (fun a0 a1 a2 => false) (fun a0 a1 a2 => false) (fun a0 a1 a2 a3 => false) (fun a0 a1 a2 a3 => false) (fun a0 a1 a2 a3 a4 => false) (fun a0 a1 a2 a3 => false) (fun a0 a1 => false) (fun a0 a1 => false) (fun a0 a1 => false) (fun a0 a1 a2 a3 => true) (fun a0 a1 a2 a3 => false) (fun a0 a1 a2 a3 => false) (fun a0 a1 => false) (fun a0 a1 a2 => false) (fun a0 a1 a2 => false) (fun a0 a1 a2 => false) (fun a0 a1 => false) (fun a0 a1 => false) (fun a0 a1 => false) (fun a0 a1 a2 => false) (fun a0 a1 a2 a3 => false)
noncomputable def trS (cx : Cx) (L : Lvl) (e : Expr) (ρ : Fr) (σ : Sto) (k : Bool → Sto → Bool) (kx : KX) : Bool := if isTr e then (@Expr.casesOn (fun _ => Bool) e (fun op es a2 => allTr L ρ kx op es σ k) (fun a0 a1 a2 => false) (fun a0 a1 a2 a3 => false) (fun a0 e a2 => L.tr e ρ σ (fun b σ => k (!b) σ) kx) (fun a0 a1 a2 a3 => false) (fun a0 a1 a2 a3 => false) (fun a0 a1 a2 => false) (fun a0 a1 a2 => false) (fun a0 a1 a2 a3 => false) (fun a0 a1 a2 a3 => false) (fun a0 a1 a2 a3 a4 => false) (fun a0 a1 a2 a3 => false) (fun a0 a1 => false) (fun a0 a1 => false) (fun a0 a1 => false) (fun l ops rs a3 => if lastMarks ops rs || !Nat.beq ops.length rs.length then false else L.ev l ρ σ (fun a σ => evChain cx L ρ kx a ops rs σ k) kx) (fun a0 a1 a2 a3 => false) (fun a0 a1 a2 a3 => false) (fun a0 a1 => false) (fun a0 a1 a2 => false) (fun a0 a1 a2 => false) (fun a0 a1 a2 => false) (fun a0 a1 => false) (fun a0 a1 => false) (fun a0 a1 => false) (fun a0 a1 a2 => false) (fun a0 a1 a2 a3 => false))
  else evS cx L e ρ σ (fun p σ => ifS false (truthP σ p) fun b => k b σ) kx

noncomputable def execs (L : Lvl) : List Stmt → Fr → Sto → KF → KX → Bool
  | [], ρ, σ, k, _ => k .next ρ σ
  | st :: r, ρ, σ, k, kx => L.ex st ρ σ (fun fl ρ σ => match fl with | .next => execs L r ρ σ k kx | .ret p => k (.ret p) ρ σ) kx

noncomputable def forGo (L : Lvl) (target : Expr) (body : List Stmt) (kx : KX) : Nat → Src → Fr → Sto → KF → Bool
  | 0, _, _, _, _ => false
  | n + 1, s, ρ, σ, k => match s.next σ with
    | none => false
    | some none => k .next ρ σ
    | some (some (p, s')) => assT target p ρ fun ρ => execs L body ρ σ (fun fl ρ σ => match fl with
      | .next => forGo L target body kx n s' ρ σ k
      | .ret p => k (.ret p) ρ σ) kx
noncomputable def whileGo (L : Lvl) (test : Expr) (body : List Stmt) (kx : KX) : Nat → Fr → Sto → KF → Bool
  | 0, _, _, _ => false
  | n + 1, ρ, σ, k => L.tr test ρ σ (fun b σ => if b then execs L body ρ σ (fun fl ρ σ => match fl with
      | .next => whileGo L test body kx n ρ σ k
      | .ret p => k (.ret p) ρ σ) kx else k .next ρ σ) kx

noncomputable def isLocK : Option NameKind → Bool
  | some .local => true
  | _ => false
noncomputable def simpleT (ρ : Fr) (e : Expr) : Bool := @Expr.casesOn (fun _ => Bool) e (fun a0 a1 a2 => false) (fun a0 a1 a2 => false) (fun a0 a1 a2 a3 => false) (fun a0 a1 a2 => false) (fun a0 a1 a2 a3 => false) (fun a0 a1 a2 a3 => false) (fun a0 a1 a2 => false) (fun a0 a1 a2 => false) (fun a0 a1 a2 a3 => false) (fun a0 a1 a2 a3 => false) (fun a0 a1 a2 a3 a4 => false) (fun a0 a1 a2 a3 => false) (fun a0 a1 => false) (fun a0 a1 => false) (fun a0 a1 => false) (fun a0 a1 a2 a3 => false) (fun a0 a1 a2 a3 => false) (fun a0 a1 a2 a3 => false) (fun a0 a1 => false) (fun a0 a1 a2 => false) (fun a0 a1 a2 => false) (fun a0 a1 a2 => false) (fun a0 a1 => false) (fun x a1 => (match lk x ρ.scope.names with | some .local => true | some .cell => true | _ => false)) (fun a0 a1 => false) (fun a0 a1 a2 => false) (fun a0 a1 a2 a3 => false)
noncomputable def okTgt (e : Expr) : Bool := @Expr.casesOn (fun _ => Bool) e (fun a0 a1 a2 => false) (fun a0 a1 a2 => false) (fun a0 a1 a2 a3 => false) (fun a0 a1 a2 => false) (fun a0 a1 a2 a3 => false) (fun a0 a1 a2 a3 => false) (fun a0 a1 a2 => false) (fun a0 a1 a2 => false) (fun a0 a1 a2 a3 => false) (fun a0 a1 a2 a3 => false) (fun a0 a1 a2 a3 a4 => false) (fun a0 a1 a2 a3 => false) (fun a0 a1 => false) (fun a0 a1 => false) (fun a0 a1 => false) (fun a0 a1 a2 a3 => false) (fun a0 a1 a2 a3 => false) (fun a0 a1 a2 a3 => false) (fun a0 a1 => false) (fun a0 a1 a2 => false) (fun a0 a1 a2 => false) (fun a0 a1 a2 => false) (fun a0 a1 => false) (fun a0 a1 => true) (fun a0 a1 => false) (fun a0 a1 a2 => true) (fun a0 a1 a2 a3 => false)
noncomputable def isPair (t e : Expr) : Option (List Expr × List Expr) := tupxK none t fun ts _ _ => tupxK none e fun vs _ _ => some (ts, vs)
noncomputable def swapNames (ρ : Fr) (line : Nat) (ts : List Expr) : List Str := ts.filterMap fun e => nameK none e fun id pos => if isLocK (lk id ρ.scope.names) && pos.line == line then some id else none
noncomputable def swapP (ρ : Fr) (ts vs : List Expr) : Option (Option (List Str)) :=
  if !ts.all (simpleT ρ) then none
  else if !(ts.length == 2 || ts.length == 3) || vs.length != ts.length then some none
  else if !vs.all noStar then some none
  else if (swapNames ρ ((ts.head?.map (·.pos.line)).getD 0) ts).length != ts.length || (swapNames ρ ((ts.head?.map (·.pos.line)).getD 0) ts).eraseDups.length != (swapNames ρ ((ts.head?.map (·.pos.line)).getD 0) ts).length then some none
  else if vs.all (foldedForSure 8) then some none
  else if vs.all (constantsAlone 8) then none
  else some (some (swapNames ρ ((ts.head?.map (·.pos.line)).getD 0) ts))
noncomputable def assNames : List Str → List PV → Fr → Option Fr
  | [], [], ρ => some ρ
  | x :: xs, p :: ps, ρ => (match ass1 x p ρ with
    | some ρ => assNames xs ps ρ
    | none => none)
  | _, _, _ => none
noncomputable def notComp (e : Expr) : Bool := @Expr.casesOn (fun _ => Bool) e (fun a0 a1 a2 => true) (fun a0 a1 a2 => true) (fun a0 a1 a2 a3 => true) (fun a0 a1 a2 => true) (fun a0 a1 a2 a3 => true) (fun a0 a1 a2 a3 => true) (fun a0 a1 a2 => true) (fun a0 a1 a2 => true) (fun a0 a1 a2 a3 => false) (fun a0 a1 a2 a3 => false) (fun a0 a1 a2 a3 a4 => false) (fun a0 a1 a2 a3 => true) (fun a0 a1 => true) (fun a0 a1 => true) (fun a0 a1 => true) (fun a0 a1 a2 a3 => true) (fun a0 a1 a2 a3 => true) (fun a0 a1 a2 a3 => true) (fun a0 a1 => true) (fun a0 a1 a2 => true) (fun a0 a1 a2 => true) (fun a0 a1 a2 => true) (fun a0 a1 => true) (fun a0 a1 => true) (fun a0 a1 => true) (fun a0 a1 a2 => true) (fun a0 a1 a2 a3 => true)
noncomputable def isGf (cx : Cx) (f : Str) (ρ : Fr) : Bool := ifS false (lk f ρ.scope.names) fun k => isGlobK k && ifS false (nsK cx.T.K f) fun v => ifS false (refV v) fun c => c == cx.gf
set_option tactic.hygienic false in
theorem isGf_eq {cx : Cx} {f : Str} {ρ : Fr} (h : isGf cx f ρ = true) : lk f ρ.scope.names = some .globalImplicit ∧ nsK cx.T.K f = some (.ref cx.gf) := by
  unfold isGf at h
  refine ifE' h fT fun k hk h  => band2 h fun h1 h  => ifE' h fT fun v hv h  => ifE' h fT fun c hc h  => ?_
  rw [hk, hv, isGlobK_eq h1, refV_eq hc, eq_of_beq h]
  exact ⟨rfl, rfl⟩
noncomputable def itemT {β : Type} (d : β) (e : Expr) (k : Str → Int → β) : β := subK d e fun o i _ => nameK d o fun x _ => intK d i fun i _ _ => k x i
set_option tactic.hygienic false in
@[elab_as_elim] theorem itemE {P : Expr → Prop} {β : Type} {d r : β} {e : Expr} {k : Str → Int → β} (h : itemT d e k = r) (hd : d ≠ r) (f : ∀ x q i u q' p, k x i = r → P (.Subscript (.Name x q) (.Constant (.int i) u q') p)) : P e :=
  subE h hd fun o i p h  => nameE (P := fun o  => P (.Subscript o i p)) h hd fun x q h  => intE (P := fun i  => P (.Subscript (.Name x q) i p)) h hd fun i u q' h  => f x q i u q' p h
noncomputable def itemTgt (e : Expr) : Option (Str × Int × Option Expr) := if isTupE e then tupxK none e fun ts _ _ => twoK none ts fun a b => itemT none a fun x i => nameK none b fun y p => some (x, i, some (.Name y p))
  else itemT none e fun x i => some (x, i, none)
noncomputable def setP (cx : Cx) (x : Str) (i : Int) (p : PV) (ρ : Fr) (σ : Sto) (k : Sto → Bool) : Bool := ifS false (nameP cx x ρ) fun q => plstK false q fun l => ifS false σ[l]? fun xs =>
  if decide (0 ≤ i) && Nat.blt i.toNat xs.length && okL xs then k (σ.set l (xs.set i.toNat p)) else false
noncomputable def notComp2 (e : Expr) : Bool := @Expr.casesOn (fun _ => Bool) e (fun a0 a1 a2 => true) (fun a0 a1 a2 => true) (fun a0 a1 a2 a3 => true) (fun a0 a1 a2 => true) (fun a0 a1 a2 a3 => true) (fun a0 a1 a2 a3 => true) (fun a0 a1 a2 => true) (fun a0 a1 a2 => true) (fun a0 a1 a2 a3 => false) (fun a0 a1 a2 a3 => false) (fun a0 a1 a2 a3 a4 => false) (fun a0 a1 a2 a3 => true) (fun a0 a1 => true) (fun a0 a1 => true) (fun a0 a1 => true) (fun a0 a1 a2 a3 => true) (fun a0 a1 a2 a3 => true) (fun a0 a1 a2 a3 => true) (fun a0 a1 => true) (fun a0 a1 a2 => true) (fun a0 a1 a2 => true) (fun a0 a1 a2 => true) (fun a0 a1 => true) (fun a0 a1 => true) (fun a0 a1 => true) (fun a0 a1 a2 => false) (fun a0 a1 a2 a3 => true)
noncomputable def itemS (cx : Cx) (L : Lvl) (x : Str) (i : Int) (y : Option Expr) (e : Expr) (ρ : Fr) (σ : Sto) (k : KF) (kx : KX) : Bool := if notComp2 e then (match y with
  | none => L.ev e ρ σ (fun p σ => setP cx x i p ρ σ fun σ => k .next ρ σ) kx
  | some y => L.ev e ρ σ (fun p σ => ptupK false p fun ps => twoK false ps fun p1 p2 => setP cx x i p1 ρ σ fun σ => assT y p2 ρ fun ρ => k .next ρ σ) kx) else false
noncomputable def exAss (cx : Cx) (L : Lvl) (t e : Expr) (ρ : Fr) (σ : Sto) (k : KF) (kx : KX) : Bool := match isPair t e with
    | some tv => ifS false (swapP ρ tv.1 tv.2) fun z => (match z with
      | none => L.ev e ρ σ (fun p σ => assT t p ρ fun ρ => k .next ρ σ) kx
      | some names => L.ev e ρ σ (fun p σ => ptupK false p fun ps => if Nat.beq ps.length names.length then ifS false (assNames names.reverse ps.reverse ρ) fun ρ => k .next ρ σ else false) kx)
    | none => evS cx L e ρ σ (fun p σ => assT t p ρ fun ρ => k .next ρ σ) kx
noncomputable def exRaise (cx : Cx) (L : Lvl) (e : Expr) (ρ : Fr) (σ : Sto) (kx : KX) : Bool := call0K false e fun g as ks _ => nilK false ks (nameK false g fun f _ => oneK false as fun a =>
  if nameOk f && noStar a && isGf cx f ρ then L.ev a ρ σ (fun p σ => pstrK false p fun _ => kx σ) kx else false)
noncomputable def exS (cx : Cx) (L : Lvl) (st : Stmt) (ρ : Fr) (σ : Sto) (k : KF) (kx : KX) : Bool := @Stmt.casesOn (fun _ => Bool) st (fun a0 a1 a2 a3 a4 a5 a6 a7 a8 a9 => false) (fun a0 a1 a2 a3 a4 a5 a6 a7 a8 a9 => false) (fun a0 a1 a2 a3 a4 a5 a6 a7 a8 a9 a10 => false) (fun o a1 => ifS false o fun e => L.ev e ρ σ (fun p σ => k (.ret p) ρ σ) kx) (fun a0 a1 => false) (fun ts e a2 => oneK false ts fun t => (match itemTgt t with
    | some x => itemS cx L x.1 x.2.1 x.2.2 e ρ σ k kx
    | none => if okTgt t then exAss cx L t e ρ σ k kx else false)) (fun a0 a1 a2 a3 a4 a5 a6 => false) (fun a0 a1 a2 a3 => false) (fun a0 a1 a2 a3 a4 => false) (fun t it body orelse a4 => nilK false orelse (if notSet it then evSrc cx L it ρ σ (fun s σ => if tgtOk s t then forGo L t body kx loopMax s ρ σ k else false) kx else false)) (fun a0 a1 a2 a3 a4 => false) (fun t body orelse a3 => nilK false orelse (whileGo L t body kx loopMax ρ σ k)) (fun t a b a3 => L.tr t ρ σ (fun c σ => if c then execs L a ρ σ k kx else execs L b ρ σ k kx) kx) (fun a0 a1 a2 => false) (fun a0 a1 a2 => false) (fun a0 a1 a2 => false) (fun e c a2 => (match e with
    | some e => (match c with | none => exRaise cx L e ρ σ kx | some _ => false)
    | none => false)) (fun a0 a1 a2 a3 a4 => false) (fun a0 a1 a2 a3 a4 => false) (fun a0 a1 a2 => false) (fun a0 a1 => false) (fun a0 a1 a2 a3 => false) (fun a0 a1 => false) (fun a0 a1 => false) (fun e a1 => if notComp e then L.ev e ρ σ (fun _ σ => k .next ρ σ) kx else false) (fun a0 => false) (fun a0 => false) (fun a0 => false)

noncomputable def lvl (cx : Cx) : Nat → Lvl
  | 0 => lvl0
  | n + 1 => ⟨evS cx (lvl cx n), trS cx (lvl cx n), exS cx (lvl cx n)⟩

noncomputable def lvlMax : Nat := 60

noncomputable def bindP : List Str → List PV → Option (List (Str × PV))
  | [], [] => some []
  | x :: xs, p :: ps => (bindP xs ps).map fun r => (x, p) :: r
  | _, _ => none
noncomputable def lamOf (sc : Scope) (xs : List Str) : Bool := sc.names.all fun x => match x.2 with | .cell => xs.any (eqS x.1) | _ => true
noncomputable def plainPar (a : Arguments) : Bool := a.posonlyargs.isEmpty && a.vararg.isNone && a.kwonlyargs.isEmpty && a.kw_defaults.isEmpty && a.kwarg.isNone
set_option tactic.hygienic false in
theorem plainPar_eq {a : Arguments} (h : plainPar a = true) : a = ⟨[], a.args, none, [], [], none, a.defaults⟩ := by
  obtain ⟨po, as, va, ko, kd, kw, df⟩ := a
  refine band5 h ?_; clear h; intro h1 h2 h3 h4 h5
  obtain rfl := List.isEmpty_iff.mp h1
  obtain rfl := Option.isNone_iff_eq_none.mp h2
  obtain rfl := List.isEmpty_iff.mp h3
  obtain rfl := List.isEmpty_iff.mp h4
  obtain rfl := Option.isNone_iff_eq_none.mp h5
  rfl
noncomputable def distinctS : List Str → Bool
  | [] => true
  | x :: r => !r.any (eqS x) && distinctS r
noncomputable def codeOk (K : Frag) (fd : FuncData) : Bool := ifS false (refV fd.code) fun c => ifS false (K.lookup c) fun o => ifS false (fieldsV o) fun vs => ifS false vs[1]? fun v => ifS false (vstrV v) fun q => eqS q.1 fd.qualname
noncomputable def isParK (e : NameKind) : Bool := @NameKind.casesOn (fun _ => Bool) e true true false false false
noncomputable def parKind (sc : Scope) (x : Str) : Bool := ifS false (lk x sc.names) isParK
set_option tactic.hygienic false in
theorem parKind_eq {sc : Scope} {x : Str} (h : parKind sc x = true) : lk x sc.names = some .local ∨ lk x sc.names = some .cell := by
  refine ifE' h fT fun k e h  => ?_
  cases k with
  | «local» => exact .inl e
  | cell => exact .inr e
  | _ => exact absF h
set_option tactic.hygienic false in
theorem isFun_eq {sc : Scope} (h : isFun sc = true) : sc.kind = .function := by
  unfold isFun at h
  generalize sc.kind = k at h
  cases k with
  | function => rfl
  | _ => exact absF h
noncomputable def dfltOk (K : Frag) (fd : FuncData) : Bool := @Value.casesOn (fun _ => Bool) fd.defaults true false false (fun a0 => false) (fun a0 a1 => false) (fun a0 a1 => false) (fun a0 a1 => false) (fun a0 a1 => false) (fun a0 => false) (fun a0 => false) (fun t => ifS false (K.lookup t) fun o => ifS false (seqV o) fun _ => true)
noncomputable def fnOk (K : Frag) (fd : FuncData) : Bool := plainPar fd.params && distinctS (fd.params.args.map (·.arg)) && isFun fd.scope && !fd.scope.isCoroutine && !fd.scope.isGenerator && Nat.beq fd.globals mainGlobals && Nat.beq fd.builtins builtinsNs &&
  fd.closure.isEmpty && codeOk K fd && dfltOk K fd && (fd.params.args.map (·.arg)).all (parKind fd.scope)
noncomputable def callP (T : Top) (gf : Addr) (orc : Orc) (f : PV) (args : List PV) (σ : Sto) (k : KV) (kx : KX) : Bool := poldK false f fun a => ifS false (T.K.lookup a) fun o => ifS false (funV o) fun fd => if fnOk T.K fd then
    ifS false (stmtsV fd.body) fun body => ifS false (bindP (fd.params.args.map (·.arg)) args) fun bs =>
      execs (lvl ⟨T, gf, orc⟩ lvlMax) body { scope := fd.scope, vars := bs, up := [], lam := lamOf fd.scope (fd.params.args.map (·.arg)), q := Nat.beq a T.sh } σ (fun fl _ σ => match fl with
          | .next => k .none σ
          | .ret p => k p σ) kx
  else false
noncomputable def tower (T : Top) (gf : Addr) (sp : PV → List PV → Option (Sto → KV → KX → Bool)) : Nat → Orc
  | 0 => fun _ _ _ _ _ => false
  | d + 1 => fun f args σ k kx => match sp f args with
    | some t => t σ k kx
    | none => callP T gf (tower T gf sp d) f args σ k kx

end Mine
end
section
open PySem PySem.W PyProof.Rows PySem.Calls
set_option maxRecDepth 100000
namespace Mine

/-! the heap never shrinks, generators apart from their number stay: a fact of every run -/
set_option tactic.hygienic false in
theorem setGen_heap (s : Shared) (g : Nat) (x : GenState) : (s.setGen g x).heap = s.heap := rfl
set_option tactic.hygienic false in
theorem runs_size {M : Model} {Γ : PySem.Ctx} {p : Pos} {t : Sem Fin} {fs : List Frame} {s : Shared} {e : PySem.End} {s' : Shared} (r : Runs M Γ p t fs s e s') :
    s.heap.objs.size ≤ s'.heap.objs.size := by
  induction r with
  | update _ _ ih => exact Nat.le_trans (Nat.le_of_eq (Heap.size_after_update ..).symm) ih
  | alloc _ ih => exact Nat.le_trans (by rw [Heap.size_push]; exact Nat.le_succ _) ih
  | done => exact Nat.le_refl _
  | raise => exact Nat.le_refl _
  | yield => exact Nat.le_refl _
  | call _ _ ih1 ih2 => exact Nat.le_trans ih1 ih2
  | resumeFresh _ _ _ _ ih1 ih2 => exact Nat.le_trans ih1 ih2
  | resumeSuspended _ _ _ _ ih1 ih2 => exact Nat.le_trans ih1 ih2
  | segRet _ _ ih1 ih2 => exact Nat.le_trans ih1 ih2
  | segGen _ _ ih1 ih2 => exact Nat.le_trans ih1 ih2
  | segSuspGen _ _ _ _ ih1 ih2 => exact Nat.le_trans ih1 ih2
  | _ => assumption
set_option tactic.hygienic false in
theorem wakes_size {M : Model} {Γ : PySem.Ctx} {p : Pos} {g : Nat} {r : Resume} {s : Shared} {res : GenResult} {s' : Shared} (h : Wakes M Γ p g r s res s') : s.heap.objs.size ≤ s'.heap.objs.size := by
  unfold Wakes at h
  split at h
  · exact h.elim
  · split at h
    · obtain ⟨e, s1, h1, zz, zz, rfl⟩ := h; (have z := runs_size h1; exact z)
    · rw [h.2]; exact Nat.le_refl _
    · rw [h.2]; exact Nat.le_refl _
  · obtain ⟨e, s1, h1, zz, zz, rfl⟩ := h; (have z := runs_size h1; exact z)
  · rw [h.2]; exact Nat.le_refl _
  · rw [h.2]; exact Nat.le_refl _
set_option tactic.hygienic false in
theorem wp_sized {α : Type} {M : Model} {Γ : PySem.Ctx} : ∀ (t : Sem α) (Q : α → Pos → Shared → Prop) (E : Value → Pos → Shared → Prop) (p : Pos) (s : Shared), Sem.wp M Γ t Q E p s →
    Sem.wp M Γ t (fun a p s'  => Q a p s' ∧ s.heap.objs.size ≤ s'.heap.objs.size) (fun e p s'  => E e p s' ∧ s.heap.objs.size ≤ s'.heap.objs.size) p s := by
  intro t
  induction t with
  | pure a => intro Q E p s h; exact ⟨h, Nat.le_refl _⟩
  | raise e => intro Q E p s h; exact ⟨h, Nat.le_refl _⟩
  | unsupported w => intro Q E p s h; exact h
  | finish e => intro Q E p s h; exact h
  | rule t k ih => intro Q E p s h; exact ih () Q E p s h
  | «at» q k ih => intro Q E p s h; exact ih () Q E q s h
  | load a q k ih => intro Q E p s h; obtain ⟨o, ho, h⟩ := h; exact ⟨o, ho, ih o Q E p s h⟩
  | update a q f k ih =>
    intro Q E p s h
    refine ⟨h.1, ?_⟩
    have := ih () Q E p _ h.2
    rw [show (s.heap.update a f).objs.size = s.heap.objs.size from Heap.size_after_update ..] at this
    exact this
  | loadIfAlive a k ih => intro Q E p s h; exact ih _ Q E p s h
  | point l k ih => intro Q E p s h; exact ih () Q E p s h
  | register a k ih => intro Q E p s h; exact h
  | alloc o k ih =>
    intro Q E p s h
    refine Sem.wp_mono M Γ _ (fun a p' s' q  => ⟨q.1, Nat.le_trans ?_ q.2⟩) (fun a p' s' q  => ⟨q.1, Nat.le_trans ?_ q.2⟩) _ _ (ih _ Q E p _ h)
    all_goals (show _ ≤ (s.heap.push o).objs.size; rw [Heap.size_push]; exact Nat.le_succ _)
  | fresh k ih => intro Q E p s h; exact ih _ Q E p _ h
  | ask k ih => intro Q E p s h; exact ih _ Q E p s h
  | choose src n k ih => intro Q E p s h; exact ⟨h.1, ih _ Q E p _ h.2⟩
  | os q l k ih => intro Q E p s h; exact ih _ Q E p _ h
  | call c hd g l k ih =>
    intro Q E p s h
    obtain ⟨r, s', hr, h⟩ := h
    have z : s.heap.objs.size ≤ s'.heap.objs.size := runs_size hr
    exact ⟨r, s', hr, Sem.wp_mono M Γ _ (fun a p' s'' q  => ⟨q.1, Nat.le_trans z q.2⟩) (fun a p' s'' q  => ⟨q.1, Nat.le_trans z q.2⟩) _ _ (ih r Q E p s' h)⟩
  | handled own k ih => intro Q E p s h; exact ih _ Q E p s h
  | newGen c k ih => intro Q E p s h; exact ih _ Q E p _ h
  | genState g k ih => intro Q E p s h; obtain ⟨st, hs, h⟩ := h; exact ⟨st, hs, ih _ Q E p s h⟩
  | resume g r l k ih =>
    intro Q E p s h
    obtain ⟨res, s', hw, h⟩ := h
    have z := wakes_size hw
    exact ⟨res, s', hw, Sem.wp_mono M Γ _ (fun a p' s'' q  => ⟨q.1, Nat.le_trans z q.2⟩) (fun a p' s'' q  => ⟨q.1, Nat.le_trans z q.2⟩) _ _ (ih res Q E p s' h)⟩
  | yield v g l k ih => intro Q E p s h; exact h
  | stack k ih => intro Q E p s h; exact ih _ Q E p s h
  | fork c k ih => intro Q E p s h; exact h
  | thread k ih => intro Q E p s h; exact ih _ Q E p s h
  | await a t d l k ih => intro Q E p s h; exact h

set_option tactic.hygienic false in
theorem wpAny_sized {α : Type} {M : Model} {A : Around} {t : Sem α} {Q : α → Shared → Prop} {E : Value → Shared → Prop} {s : Shared} (h : wpAny M A t Q E s) :
    wpAny M A t (fun a s'  => Q a s' ∧ s.heap.objs.size ≤ s'.heap.objs.size) (fun e s'  => E e s' ∧ s.heap.objs.size ≤ s'.heap.objs.size) s :=
  fun Γ p hΓ  => wp_sized t _ _ p s (h Γ p hΓ)
end Mine
end
section
open PySem PySem.W PyProof.Rows PySem.Calls
set_option maxRecDepth 100000
namespace Mine
structure Fix where
  prog : Program
  w : World
  T : Top
  B : Heap
  P : Addr
  gf : Addr
  cc : Addr
  q : Str
  θ : Nat → List Nat
  η : Nat → (Addr → Option Obj) → Value → Prop

structure GW where
  Γ : Addr → Option Obj
  la : List Addr

noncomputable def den (θ : Nat → List Nat) (r : List Nat) : List Nat := r.flatMap fun c => if isLit c then [c] else θ (c - symB)
noncomputable def mkS (l : List Nat) : Str := ⟨l.toArray⟩

mutual
inductive RepV (X : Fix) (g : GW) : Value → PV → Prop
  | none : RepV X g .none .none
  | bool (b) : RepV X g (.bool b) (.bool b)
  | int (i t) : RepV X g (.int i t) (.int i)
  | str {r s} (t) : s = mkS (den X.θ r) → RepV X g (.str s t) (.str r)
  | tup {a vs n ps} : g.Γ a = some { cls := .type "tuple", data := .seq vs n } → RepL X g vs.toList ps → RepV X g (.ref a) (.tup ps)
  | lst {a i} : g.la[i]? = some a → RepV X g (.ref a) (.lst i)
  | old {a o} : X.T.K.lookup a = some o → RepV X g (.ref a) (.old a)
  | dct {a o} {kvs : List (Str × Value)} {ks vs} : g.Γ a = some o → o.IsDictOf (strKind X.prog X.w) kvs → (a == sysModules) = false → ks = kvs.map (fun kv => PV.str kv.1.cps.toList) →
      (∀ kv ∈ kvs, litR kv.1.cps.toList = true) → RepL X g (kvs.map (·.2)) vs → RepV X g (.ref a) (.dct ks vs)
  | dcti {a o} {kvs : List (Int × Value)} {ks vs} : g.Γ a = some o → o.IsDictOf (intKind X.prog X.w) kvs → (a == sysModules) = false → ks = kvs.map (fun kv => PV.int kv.1) →
      RepL X g (kvs.map (·.2)) vs → RepV X g (.ref a) (.dct ks vs)
  | clos {a oc od fd osl c co v ag body sc x p} : g.Γ a = some ⟨oc, od, .func fd, osl⟩ → fd.params = ag → fd.body = .expr body → fd.scope = sc → fd.closure = [(x, c)] → fd.globals = mainGlobals → fd.builtins = builtinsNs →
      fd.defaults = .none → fd.kwdefaults = .none → (∃ cd o vs t, fd.code = .ref cd ∧ g.Γ cd = some o ∧ o.data = .fields vs ∧ vs[1]? = some (.str fd.qualname t)) →
      g.Γ c = some co → co.data = .cell (some v) → RepV X g v p → RepV X g (.ref a) (.clos ag body sc x p)
  | hole {v Γ₀} (i) : X.η i Γ₀ v → (∀ a o, Γ₀ a = some o → g.Γ a = some o) → RepV X g v (.hole i)
inductive RepL (X : Fix) (g : GW) : List Value → List PV → Prop
  | nil : RepL X g [] []
  | cons {v vs p ps} : RepV X g v p → RepL X g vs ps → RepL X g (v :: vs) (p :: ps)
end

set_option tactic.hygienic false in
theorem RepV.iN {X : Fix} {g : GW} {v : Value} (r : RepV X g v .none) : v = .none := by cases r; rfl
set_option tactic.hygienic false in
theorem RepV.iB {X : Fix} {g : GW} {v : Value} {b : Bool} (r : RepV X g v (.bool b)) : v = .bool b := by cases r; rfl
set_option tactic.hygienic false in
theorem RepV.iI {X : Fix} {g : GW} {v : Value} {i : Int} (r : RepV X g v (.int i)) : ∃ t, v = .int i t := by cases r; exact ⟨_, rfl⟩
theorem RepV.iS {X : Fix} {g : GW} {v : Value} {c : List Nat} (r : RepV X g v (.str c)) : ∃ t, v = .str (mkS (den X.θ c)) t := by cases r; rename_i e; subst e; exact ⟨_, rfl⟩
theorem RepV.iT {X : Fix} {g : GW} {v : Value} {ps : List PV} (r : RepV X g v (.tup ps)) : ∃ a vs n, v = .ref a ∧ g.Γ a = some { cls := .type "tuple", data := .seq vs n } ∧ RepL X g vs.toList ps := by cases r; rename_i e q; exact ⟨_, _, _, rfl, e, q⟩
theorem RepV.iL {X : Fix} {g : GW} {v : Value} {i : Nat} (r : RepV X g v (.lst i)) : ∃ a, v = .ref a ∧ g.la[i]? = some a := by cases r; rename_i e; exact ⟨_, rfl, e⟩
theorem RepV.iO {X : Fix} {g : GW} {v : Value} {a : Nat} (r : RepV X g v (.old a)) : ∃ o, v = .ref a ∧ X.T.K.lookup a = some o := by cases r; rename_i o e; exact ⟨o, rfl, e⟩
set_option tactic.hygienic false in
theorem RepV.iH {X : Fix} {g : GW} {v : Value} {i : Nat} (r : RepV X g v (.hole i)) : ∃ Γ₀, X.η i Γ₀ v ∧ ∀ a o, Γ₀ a = some o → g.Γ a = some o := by cases r with | hole _ h e => exact ⟨_, h, e⟩
structure ClosR (X : Fix) (g : GW) (a : Addr) (oc : _) (od : _) (fd : FuncData) (osl : _) (c : Addr) (co : Obj) (u : Value) (ag : Arguments) (body : Expr) (sc : Scope) (x : Str) (p : PV) : Prop where
  e1 : g.Γ a = some ⟨oc, od, .func fd, osl⟩
  e2 : fd.params = ag
  e3 : fd.body = .expr body
  e4 : fd.scope = sc
  e5 : fd.closure = [(x, c)]
  e6 : fd.globals = mainGlobals
  e7 : fd.builtins = builtinsNs
  e8 : fd.defaults = .none
  e9 : fd.kwdefaults = .none
  e10 : ∃ cd o vs t, fd.code = .ref cd ∧ g.Γ cd = some o ∧ o.data = .fields vs ∧ vs[1]? = some (.str fd.qualname t)
  e11 : g.Γ c = some co
  e12 : co.data = .cell (some u)
  e13 : RepV X g u p
set_option tactic.hygienic false in
theorem RepV.iC {X : Fix} {g : GW} {v : Value} {ag : Arguments} {body : Expr} {sc : Scope} {x : Str} {p : PV} (r : RepV X g v (.clos ag body sc x p)) : ∃ a oc od fd osl c co u, v = .ref a ∧ ClosR X g a oc od fd osl c co u ag body sc x p := by
  cases r with
  | clos e1 e2 e3 e4 e5 e6 e7 e8 e9 e10 e11 e12 e13 => exact ⟨_, _, _, _, _, _, _, _, rfl, e1, e2, e3, e4, e5, e6, e7, e8, e9, e10, e11, e12, e13⟩
set_option tactic.hygienic false in
theorem RepL.i0 {X : Fix} {g : GW} {vs : List Value} (r : RepL X g vs []) : vs = [] := by cases r; rfl
theorem RepL.i1 {X : Fix} {g : GW} {vs : List Value} {p : PV} {ps : List PV} (r : RepL X g vs (p :: ps)) : ∃ v us, vs = v :: us ∧ RepV X g v p ∧ RepL X g us ps := by cases r; rename_i v us a b; exact ⟨v, us, rfl, a, b⟩
set_option tactic.hygienic false in
theorem RepL.two {X : Fix} {g : GW} {vs : List Value} {p q : PV} (r : RepL X g vs [p, q]) : ∃ v u, vs = [v, u] ∧ RepV X g v p ∧ RepV X g u q := by obtain ⟨v, us, rfl, a, b⟩ := r.i1; obtain ⟨u, us, rfl, b, c⟩ := b.i1; rw [c.i0]; exact ⟨v, u, rfl, a, b⟩
set_option tactic.hygienic false in
theorem RepV.reint {X X' : Fix} {g g' : GW} {v : Value} {j : Int} (r : RepV X g v (.int j)) : RepV X' g' v (.int j) := by obtain ⟨zz, rfl⟩ := r.iI; exact .int _ _
set_option tactic.hygienic false in
theorem RepL.three {X : Fix} {g : GW} {vs : List Value} {p q r : PV} (h : RepL X g vs [p, q, r]) : ∃ v u w, vs = [v, u, w] ∧ RepV X g v p ∧ RepV X g u q ∧ RepV X g w r := by obtain ⟨v, us, rfl, a, b⟩ := h.i1; obtain ⟨u, w, rfl, b, c⟩ := b.two; exact ⟨v, u, w, rfl, a, b, c⟩
set_option tactic.hygienic false in
theorem RepL.one {X : Fix} {g : GW} {vs : List Value} {p : PV} (r : RepL X g vs [p]) : ∃ v, vs = [v] ∧ RepV X g v p := by obtain ⟨v, us, rfl, a, b⟩ := r.i1; rw [b.i0]; exact ⟨v, rfl, a⟩

structure GExt (g g' : GW) : Prop where
  ext : ∀ a o, g.Γ a = some o → g'.Γ a = some o
  la : ∃ t, g'.la = g.la ++ t
set_option tactic.hygienic false in
theorem neW {g : GW} {a b P : Addr} (h1 : g.Γ a = none) (h2 : a ∉ g.la) (h3 : a ≠ P) (q : g.Γ b ≠ none ∨ b ∈ g.la ∨ b = P) : b ≠ a := by
  rintro rfl
  rcases q with q | q | q
  · exact q h1
  · exact h2 q
  · exact h3 q
set_option tactic.hygienic false in
theorem GExt.new {g : GW} {a : Addr} {ob : Obj} (f : g.Γ a = none) : GExt g ⟨fun b  => if b = a then some ob else g.Γ b, g.la⟩ := ⟨fun b o' e  => by
    show (if b = a then _ else g.Γ b) = some o'
    rw [if_neg (by rintro rfl; rw [f] at e; cases e)]; exact e, [], (List.append_nil _).symm⟩
set_option tactic.hygienic false in
theorem GExt.refl (g : GW) : GExt g g := ⟨fun zz zz e  => e, [], (List.append_nil _).symm⟩
set_option tactic.hygienic false in
theorem GExt.trans {a b c : GW} (x : GExt a b) (y : GExt b c) : GExt a c :=
  ⟨fun z o e  => y.ext z o (x.ext z o e), by obtain ⟨t, h⟩ := x.la; obtain ⟨u, h'⟩ := y.la; exact ⟨t ++ u, by rw [h', h, List.append_assoc]⟩⟩
set_option tactic.hygienic false in
theorem GExt.idx {g g' : GW} (x : GExt g g') {i : Nat} {a : Addr} (e : g.la[i]? = some a) : g'.la[i]? = some a := by
  obtain ⟨t, h⟩ := x.la
  rw [h, List.getElem?_append_left (List.getElem?_eq_some_iff.mp e).1]; exact e

set_option tactic.hygienic false in
theorem repV_mono {X : Fix} {g g' : GW} (x : GExt g g') {v : Value} {p : PV} (r : RepV X g v p) : RepV X g' v p := by
  refine @RepV.rec X g (fun v p zz  => RepV X g' v p) (fun v p zz  => RepL X g' v p) ?_ ?_ ?_ ?_ ?_ ?_ ?_ ?_ ?_ ?_ ?_ ?_ ?_ v p r
  · exact .none
  · exact .bool
  · exact .int
  · intro r s t e; exact .str t e
  · intro a vs n ps e zz ih; exact .tup (x.ext _ _ e) ih
  · intro a i e; exact .lst (x.idx e)
  · intro a o e; exact .old e
  · intro a o kvs ks vs e h1 h2 h3 h4 zz ih; exact .dct (x.ext _ _ e) h1 h2 h3 h4 ih
  · intro a o kvs ks vs e h1 h2 h3 zz ih; exact .dcti (x.ext _ _ e) h1 h2 h3 ih
  · intro a oc od fd osl c co v ag body sc y p e h1 h2 h3 h4 h5 h6 h7 h8 h9 h10 h11 zz ih
    obtain ⟨cd, o, vs, t, i1, i2, i3⟩ := h9
    exact .clos (x.ext _ _ e) h1 h2 h3 h4 h5 h6 h7 h8 ⟨cd, o, vs, t, i1, x.ext _ _ i2, i3⟩ (x.ext _ _ h10) h11 ih
  · intro v Γ₀ i e k; exact .hole i e fun a o q  => x.ext _ _ (k a o q)
  · exact .nil
  · intro v vs p ps zz zz i1 i2; exact .cons i1 i2
set_option tactic.hygienic false in
theorem repL_mono {X : Fix} {g g' : GW} (x : GExt g g') : ∀ {vs : List Value} {ps : List PV}, RepL X g vs ps → RepL X g' vs ps
  | _, _, .nil => .nil
  | _, _, .cons a b => .cons (repV_mono x a) (repL_mono x b)
set_option tactic.hygienic false in
theorem RepL.length {X : Fix} {g : GW} : ∀ {vs : List Value} {ps : List PV}, RepL X g vs ps → vs.length = ps.length
  | _, _, .nil => rfl
  | _, _, .cons _ b => by rw [List.length_cons, List.length_cons, b.length]
set_option tactic.hygienic false in
theorem RepL.get {X : Fix} {g : GW} : ∀ {vs : List Value} {ps : List PV} {i : Nat} {p : PV}, RepL X g vs ps → ps[i]? = some p → ∃ v, vs[i]? = some v ∧ RepV X g v p
  | _, _, 0, _, .cons a _, e => by cases e; exact ⟨_, rfl, a⟩
  | _, _, i + 1, _, .cons _ b, e => by simpa using b.get (i := i) (by simpa using e)
  | _, _, _, _, .nil, e => by simp at e
set_option tactic.hygienic false in
theorem RepL.none {X : Fix} {g : GW} {vs : List Value} {ps : List PV} {i : Nat} (r : RepL X g vs ps) (e : ps[i]? = Option.none) : vs[i]? = Option.none := by
  rw [List.getElem?_eq_none_iff] at e ⊢; rw [r.length]; exact e
set_option tactic.hygienic false in
theorem RepL.append {X : Fix} {g : GW} : ∀ {vs us : List Value} {ps qs : List PV}, RepL X g vs ps → RepL X g us qs → RepL X g (vs ++ us) (ps ++ qs)
  | _, _, _, _, .nil, h => h
  | _, _, _, _, .cons a b, h => .cons a (b.append h)
set_option tactic.hygienic false in
theorem RepL.drop {X : Fix} {g : GW} : ∀ (n : Nat) {vs : List Value} {ps : List PV}, RepL X g vs ps → RepL X g (vs.drop n) (ps.drop n)
  | 0, _, _, h => h
  | _ + 1, _, _, .nil => .nil
  | n + 1, _, _, .cons _ b => b.drop n
set_option tactic.hygienic false in
theorem RepL.take {X : Fix} {g : GW} : ∀ (n : Nat) {vs : List Value} {ps : List PV}, RepL X g vs ps → RepL X g (vs.take n) (ps.take n)
  | 0, _, _, _ => .nil
  | _ + 1, _, _, .nil => .nil
  | n + 1, _, _, .cons a b => .cons a (b.take n)
set_option tactic.hygienic false in
theorem RepL.reverse {X : Fix} {g : GW} : ∀ {vs : List Value} {ps : List PV}, RepL X g vs ps → RepL X g vs.reverse ps.reverse
  | _, _, .nil => .nil
  | _, _, .cons a b => by rw [List.reverse_cons, List.reverse_cons]; exact b.reverse.append (.cons a .nil)

/-! the heap as the pure store tells it -/
structure TabInv (X : Fix) (g : GW) (h : Heap) : Prop where
  tab : ∃ ps : Array Value, h.get? X.P = some (tabObj ps) ∧ TriplesOk ps.toList ∧
    ∀ pos c', codeAmong pos ps.toList = some c' → ∃ cd o vs t, c' = .ref cd ∧ g.Γ cd = some o ∧ o.data = .fields vs ∧ vs[1]? = some (.str X.q t)
structure HR (X : Fix) (g : GW) (σ : Sto) (h : Heap) : Prop where
  frz : ∀ a o, g.Γ a = some o → h.get? a = some o
  base : ∀ a o, X.B.get? a = some o → g.Γ a = some o
  len : g.la.length = σ.length
  lst : ∀ (i : Nat) (a : Addr) (xs : List PV), g.la[i]? = some a → σ[i]? = some xs → ∃ vs, h.PlainList a vs ∧ RepL X g vs.toList xs
  nod : g.la.Nodup
  laF : ∀ a ∈ g.la, g.Γ a = none ∧ a ≠ X.P
  tab : TabInv X g h
  noP : g.Γ X.P = none

structure Stp (X : Fix) (S : Addr → Prop) (FS : List Addr) (g : GW) (h : Heap) (g' : GW) (h' : Heap) : Prop where
  size : h.objs.size ≤ h'.objs.size
  ext : ∀ a o, g.Γ a = some o → g'.Γ a = some o
  new : ∀ a o, g'.Γ a = some o → g.Γ a = some o ∨ h.objs.size ≤ a
  la : ∃ t, g'.la = g.la ++ t ∧ ∀ a ∈ t, h.objs.size ≤ a
  keep : ∀ b o, h.get? b = some o → ¬ S b → b ∉ g.la → b ≠ X.P → ∃ o', h'.get? b = some o' ∧ (o' = o ∨ (b ∈ FS ∧ ∃ sl, o' = { o with slots := sl }))

set_option tactic.hygienic false in
theorem Stp.gext {X : Fix} {S FS g h g' h'} (x : Stp X S FS g h g' h') : GExt g g' := ⟨x.ext, let ⟨t, e, _⟩ := x.la; ⟨t, e⟩⟩
set_option tactic.hygienic false in
theorem Stp.refl {X : Fix} {S FS g h} : Stp X S FS g h g h :=
  ⟨Nat.le_refl _, fun zz zz e  => e, fun zz zz e  => .inl e, ⟨[], (List.append_nil _).symm, fun zz h  => nomatch h⟩, fun zz o e zz zz zz  => ⟨o, e, .inl rfl⟩⟩
set_option tactic.hygienic false in
theorem Stp.trans {X : Fix} {S FS g h g' h' g'' h''} (x : Stp X S FS g h g' h') (y : Stp X S FS g' h' g'' h'') : Stp X S FS g h g'' h'' := by
  refine ⟨Nat.le_trans x.size y.size, fun a o e  => y.ext a o (x.ext a o e), fun a o e  => ?_, ?_, fun b o e n1 n2 n3  => ?_⟩
  · rcases y.new a o e with e | e
    · exact x.new a o e
    · exact .inr (Nat.le_trans x.size e)
  · obtain ⟨t, e, ht⟩ := x.la
    obtain ⟨u, e', hu⟩ := y.la
    refine ⟨t ++ u, by rw [e', e, List.append_assoc], fun a ha  => ?_⟩
    rcases List.mem_append.mp ha with ha | ha
    · exact ht a ha
    · exact Nat.le_trans x.size (hu a ha)
  · obtain ⟨o', e', r⟩ := x.keep b o e n1 n2 n3
    have n2' : b ∉ g'.la := by
      obtain ⟨t, q, ht⟩ := x.la
      rw [q]; intro hm
      rcases List.mem_append.mp hm with hm | hm
      · exact n2 hm
      · exact absurd (Heap.lt_size e) (Nat.not_lt.mpr (ht b hm))
    obtain ⟨o'', e'', r'⟩ := y.keep b o' e' n1 n2' n3
    refine ⟨o'', e'', ?_⟩
    rcases r with rfl | ⟨hF, sl, rfl⟩
    · exact r'
    · rcases r' with rfl | ⟨zz, sl', rfl⟩
      · exact .inr ⟨hF, sl, rfl⟩
      · exact .inr ⟨hF, sl', rfl⟩
set_option tactic.hygienic false in
theorem Stp.trans' {X : Fix} {S S' FS g h g' h' g'' h''} (x : Stp X S FS g h g' h') (y : Stp X S' FS g' h' g'' h'') (hS : ∀ b, S' b → S b ∨ h.objs.size ≤ b) : Stp X S FS g h g'' h'' := by
  have x' : Stp X (fun b  => S b ∨ h.objs.size ≤ b) FS g h g' h' := ⟨x.size, x.ext, x.new, x.la, fun b o e n1 n2 n3  => x.keep b o e (fun q  => n1 (.inl q)) n2 n3⟩
  have y' : Stp X (fun b  => S b ∨ h.objs.size ≤ b) FS g' h' g'' h'' := ⟨y.size, y.ext, y.new, y.la, fun b o e n1 n2 n3  => y.keep b o e (fun q  => n1 (hS b q)) n2 n3⟩
  have z := x'.trans y'
  exact ⟨z.size, z.ext, z.new, z.la, fun b o e n1 n2 n3  => z.keep b o e (fun q  => by
    rcases q with q | q
    · exact n1 q
    · exact absurd (Heap.lt_size e) (Nat.not_lt.mpr q)) n2 n3⟩
set_option tactic.hygienic false in
theorem Stp.mono {X : Fix} {S S' FS FS' g h g' h'} (x : Stp X S FS g h g' h') (hS : ∀ b, S b → S' b) (hF : ∀ b ∈ FS, b ∈ FS') : Stp X S' FS' g h g' h' :=
  ⟨x.size, x.ext, x.new, x.la, fun b o e n1 n2 n3  => let ⟨o', e', r⟩ := x.keep b o e (fun q  => n1 (hS b q)) n2 n3; ⟨o', e', r.imp id fun ⟨a, b⟩ => ⟨hF _ a, b⟩⟩⟩
set_option tactic.hygienic false in
theorem Stp.heap {X : Fix} {S FS g h h'} (hs : h.objs.size ≤ h'.objs.size) (k : ∀ b o, h.get? b = some o → ¬ S b → b ∉ g.la → b ≠ X.P → h'.get? b = some o) : Stp X S FS g h g h' :=
  ⟨hs, fun zz zz e  => e, fun zz zz e  => .inl e, ⟨[], (List.append_nil _).symm, fun zz h  => nomatch h⟩, fun b o e n1 n2 n3  => ⟨o, k b o e n1 n2 n3, .inl rfl⟩⟩
set_option tactic.hygienic false in
theorem Stp.keepData {X : Fix} {S FS g h g' h'} (x : Stp X S FS g h g' h') {b : Addr} {o : Obj} (e : h.get? b = some o) (n1 : ¬ S b) (n2 : b ∉ g.la) (n3 : b ≠ X.P) :
    ∃ o', h'.get? b = some o' ∧ o'.data = o.data ∧ o'.cls = o.cls ∧ o'.dict = o.dict := by
  obtain ⟨o', e', r⟩ := x.keep b o e n1 n2 n3
  refine ⟨o', e', ?_⟩
  rcases r with rfl | ⟨zz, sl, rfl⟩ <;> exact ⟨rfl, rfl, rfl⟩

set_option tactic.hygienic false in
theorem HR.heap {X : Fix} {g σ h h'} (x : HR X g σ h) (k : ∀ b o, h.get? b = some o → (g.Γ b ≠ none ∨ b ∈ g.la ∨ b = X.P) → h'.get? b = some o) : HR X g σ h' := by
  refine ⟨fun a o e  => k a o (x.frz a o e) (.inl (by rw [e]; simp)), x.base, x.len, fun i a xs e1 e2  => ?_, x.nod, x.laF, ?_, x.noP⟩
  · obtain ⟨vs, ⟨n, ho⟩, q⟩ := x.lst i a xs e1 e2
    exact ⟨vs, ⟨n, k a _ ho (.inr (.inl (List.mem_of_getElem? e1)))⟩, q⟩
  · obtain ⟨ps, h1, r⟩ := x.tab.tab
    exact ⟨ps, k _ _ h1 (.inr (.inr rfl)), r⟩
set_option tactic.hygienic false in
theorem HR.freeze {X : Fix} {g σ h} (x : HR X g σ h) {a : Addr} {o : Obj} (ho : h.get? a = some o) (hl : a ∉ g.la) (hP : a ≠ X.P) (hn : g.Γ a = none) : HR X ⟨fun b  => if b = a then some o else g.Γ b, g.la⟩ σ h := by
  have ge : GExt g ⟨fun b  => if b = a then some o else g.Γ b, g.la⟩ := ⟨fun b o' e  => by
    show (if b = a then some o else g.Γ b) = some o'
    by_cases hb : b = a
    · subst hb; rw [hn] at e; cases e
    · rw [if_neg hb]; exact e, [], (List.append_nil _).symm⟩
  refine ⟨fun b o' e  => ?_, fun b o' e  => ge.ext _ _ (x.base b o' e), x.len, fun i b xs e1 e2  => ?_, x.nod, fun b hb  => ⟨?_, (x.laF b hb).2⟩, ?_, ?_⟩
  · have e' : (if b = a then some o else g.Γ b) = some o' := e
    by_cases hb : b = a
    · rw [if_pos hb] at e'; cases e'; rw [hb]; exact ho
    · rw [if_neg hb] at e'; exact x.frz b o' e'
  · obtain ⟨vs, l, q⟩ := x.lst i b xs e1 e2
    exact ⟨vs, l, repL_mono ge q⟩
  · show (if b = a then some o else g.Γ b) = none
    rw [if_neg (fun q  => hl (by rw [← q]; exact hb))]; exact (x.laF b hb).1
  · obtain ⟨ps, h1, h2, h3⟩ := x.tab.tab
    refine ⟨ps, h1, h2, fun pos c' e  => ?_⟩
    obtain ⟨cd, oc, vs, t, i1, i2, i3⟩ := h3 pos c' e
    exact ⟨cd, oc, vs, t, i1, ge.ext _ _ i2, i3⟩
  · show (if X.P = a then some o else g.Γ X.P) = none
    rw [if_neg (Ne.symm hP)]; exact x.noP
set_option tactic.hygienic false in
theorem Stp.freeze {X : Fix} {S FS g h g' h'} (x : Stp X S FS g h g' h') {a : Addr} {o : Obj} (ha : h.objs.size ≤ a) (hn : g'.Γ a = none) : Stp X S FS g h ⟨fun b  => if b = a then some o else g'.Γ b, g'.la⟩ h' := by
  refine ⟨x.size, fun b o' e  => ?_, fun b o' e  => ?_, x.la, x.keep⟩
  · have e1 := x.ext b o' e
    show (if b = a then some o else g'.Γ b) = some o'
    by_cases hb : b = a
    · subst hb; rw [hn] at e1; cases e1
    · rw [if_neg hb]; exact e1
  · have e' : (if b = a then some o else g'.Γ b) = some o' := e
    by_cases hb : b = a
    · exact .inr (by rw [hb]; exact ha)
    · rw [if_neg hb] at e'; exact x.new b o' e'
set_option tactic.hygienic false in
theorem HR.lt {X : Fix} {g σ h} (x : HR X g σ h) {a : Addr} {o : Obj} (e : g.Γ a = some o) : a < h.objs.size := Heap.lt_size (x.frz a o e)
set_option tactic.hygienic false in
theorem HR.laLt {X : Fix} {g σ h} (x : HR X g σ h) {a : Addr} (e : a ∈ g.la) : a < h.objs.size := by
  obtain ⟨i, hi⟩ := List.getElem?_of_mem e
  have hlt := (List.getElem?_eq_some_iff.mp hi).1
  rw [x.len] at hlt
  obtain ⟨vs, ⟨o, ho⟩, zz⟩ := x.lst i a _ hi (List.getElem?_eq_getElem hlt)
  exact Heap.lt_size ho
set_option tactic.hygienic false in
theorem HR.PLt {X : Fix} {g σ h} (x : HR X g σ h) : X.P < h.objs.size := by
  obtain ⟨ps, h1, zz⟩ := x.tab.tab
  exact Heap.lt_size h1
set_option tactic.hygienic false in
theorem HR.fresh {X : Fix} {g σ h} (x : HR X g σ h) {a : Addr} (ha : h.objs.size ≤ a) : g.Γ a = none ∧ a ∉ g.la ∧ a ≠ X.P := by
  refine ⟨?_, fun hm  => absurd (x.laLt hm) (Nat.not_lt.mpr ha), fun e  => absurd x.PLt (Nat.not_lt.mpr (e ▸ ha))⟩
  cases e : g.Γ a with
  | none => rfl
  | some o => exact absurd (x.lt e) (Nat.not_lt.mpr ha)
set_option tactic.hygienic false in
theorem HR.newList {X : Fix} {g σ h} (x : HR X g σ h) {a : Addr} {vs : Array Value} {xs : List PV} (hl : h.PlainList a vs) (hr : RepL X g vs.toList xs) (h1 : g.Γ a = none) (h2 : a ∉ g.la) (h3 : a ≠ X.P) :
    HR X ⟨g.Γ, g.la ++ [a]⟩ (σ ++ [xs]) h ∧ RepV X ⟨g.Γ, g.la ++ [a]⟩ (.ref a) (.lst σ.length) := by
  have ge : GExt g ⟨g.Γ, g.la ++ [a]⟩ := ⟨fun zz zz e  => e, [a], rfl⟩
  refine ⟨⟨x.frz, x.base, by simp [x.len], fun i b ys e1 e2  => ?_, ?_, fun b hb  => ?_, x.tab.tab |> fun t  => ⟨t⟩, x.noP⟩, .lst ?_⟩
  · have e1' : (g.la ++ [a])[i]? = some b := e1
    by_cases hi : i < g.la.length
    · rw [List.getElem?_append_left hi] at e1'
      rw [List.getElem?_append_left (x.len ▸ hi)] at e2
      obtain ⟨us, l, q⟩ := x.lst i b ys e1' e2
      exact ⟨us, l, repL_mono ge q⟩
    · have hi' : i = g.la.length := by
        have := (List.getElem?_eq_some_iff.mp e1').1
        simp at this; (with_reducible exact Mine.ar119 (by assumption) (by assumption))
      subst hi'
      rw [List.getElem?_append_right (Nat.le_refl _), Nat.sub_self] at e1'
      rw [List.getElem?_append_right (by rw [x.len]; exact Nat.le_refl _), x.len, Nat.sub_self] at e2
      simp at e1' e2
      subst e1'; subst e2
      exact ⟨vs, hl, repL_mono ge hr⟩
  · show (g.la ++ [a]).Nodup
    rw [List.nodup_append]
    exact ⟨x.nod, by simp, fun b hb c hc e  => by simp at hc; subst hc; subst e; exact h2 hb⟩
  · have hb' : b ∈ g.la ++ [a] := hb
    rcases List.mem_append.mp hb' with hb | hb
    · exact x.laF b hb
    · simp at hb; subst hb; exact ⟨h1, h3⟩
  · show (g.la ++ [a])[σ.length]? = some a
    rw [← x.len]; simp
set_option tactic.hygienic false in
theorem Stp.newList {X : Fix} {S FS g h g' h'} (x : Stp X S FS g h g' h') {a : Addr} (ha : h.objs.size ≤ a) : Stp X S FS g h ⟨g'.Γ, g'.la ++ [a]⟩ h' := by
  refine ⟨x.size, x.ext, x.new, ?_, x.keep⟩
  obtain ⟨t, e, ht⟩ := x.la
  refine ⟨t ++ [a], by show g'.la ++ [a] = _; rw [e, List.append_assoc], fun b hb  => ?_⟩
  rcases List.mem_append.mp hb with hb | hb
  · exact ht b hb
  · simp at hb; subst hb; exact ha
set_option tactic.hygienic false in
theorem HR.setList {X : Fix} {g σ h h'} (x : HR X g σ h) {i : Nat} {a : Addr} {vs : Array Value} {xs : List PV} (hi : g.la[i]? = some a) (hs : Heap.SameBut a h h') (hl : h'.PlainList a vs) (hr : RepL X g vs.toList xs) :
    HR X g (σ.set i xs) h' := by
  have ham := List.mem_of_getElem? hi
  have ne : ∀ b o, g.Γ b = some o → b ≠ a := fun b o e q  => by rw [q, (x.laF a ham).1] at e; cases e
  refine ⟨fun b o e  => (hs.2 b (ne b o e)).trans (x.frz b o e), x.base, by simp [x.len], fun j b ys e1 e2  => ?_, x.nod, x.laF, ?_, x.noP⟩
  · by_cases hj : j = i
    · subst hj
      rw [hi] at e1; cases e1
      have hlt : j < σ.length := by rw [← x.len]; exact (List.getElem?_eq_some_iff.mp hi).1
      rw [List.getElem?_set_self hlt] at e2; cases e2
      exact ⟨vs, hl, hr⟩
    · rw [List.getElem?_set_ne (Ne.symm hj)] at e2
      obtain ⟨us, ⟨o, ho⟩, q⟩ := x.lst j b ys e1 e2
      have hb : b ≠ a := fun e  => by
        subst e
        obtain ⟨l1, q1⟩ := List.getElem?_eq_some_iff.mp hi
        obtain ⟨l2, q2⟩ := List.getElem?_eq_some_iff.mp e1
        exact hj ((List.getElem_inj x.nod).mp (q2.trans q1.symm))
      exact ⟨us, ⟨o, (hs.2 b hb).trans ho⟩, q⟩
  · obtain ⟨ps, t1, r⟩ := x.tab.tab
    exact ⟨ps, (hs.2 _ (Ne.symm (x.laF a ham).2)).trans t1, r⟩
set_option tactic.hygienic false in
theorem Stp.setList {X : Fix} {S FS g h h'} {a : Addr} (ha : a ∈ g.la) (hs : Heap.SameBut a h h') : Stp X S FS g h g h' :=
  Stp.heap (Nat.le_of_eq hs.1.symm) fun b o e zz n2 zz  => (hs.2 b fun q  => n2 (by rw [q]; exact ha)).trans e
end Mine
end
section
open PySem PySem.W PyProof.Rows PySem.Calls
set_option maxRecDepth 100000
namespace Mine

noncomputable def FramesOK (X : Fix) (g : GW) (h : Heap) (l : List Env) : Prop :=
  ∀ env ∈ l, env.scope.kind ≠ .module ∧ ∃ L o, env.frame = some L ∧ g.Γ L = none ∧ L ∉ g.la ∧ L ≠ X.P ∧ h.get? L = some o ∧ ∃ es n, o.data = .dict es n
abbrev fsOf (l : List Env) : List Addr := l.filterMap (·.frame)

set_option tactic.hygienic false in
theorem FramesOK.fun {X : Fix} {g : GW} {h : Heap} {σ : Sto} (R : HR X g σ h) : ∀ {l : List Env}, FramesOK X g h l → h.FunFrames X.B l
  | [], _ => trivial
  | env :: r, x => by
    obtain ⟨hk, L, o, hf, h1, h2, h3, h4, es, n, h5⟩ := x env (.head _)
    refine ⟨hk, ⟨L, o, hf, ?_, h4, fun vs q  => by rw [h5] at q; cases q⟩, FramesOK.fun R fun e he  => x e (.tail _ he)⟩
    cases q : X.B.get? L with
    | none => rfl
    | some o' => have := R.base L o' q; rw [h1] at this; cases this
set_option tactic.hygienic false in
theorem FramesOK.step {X : Fix} {S FS g h g' h'} {l : List Env} (x : FramesOK X g h l) (y : Stp X S FS g h g' h') (hS : ∀ env ∈ l, ∀ L, env.frame = some L → ¬ S L) : FramesOK X g' h' l := by
  intro env he
  obtain ⟨hk, L, o, hf, h1, h2, h3, h4, es, n, h5⟩ := x env he
  obtain ⟨o', e1, e2, zz, zz⟩ := y.keepData h4 (hS env he L hf) h2 h3
  refine ⟨hk, L, o', hf, ?_, ?_, h3, e1, es, n, e2.trans h5⟩
  · cases q : g'.Γ L with
    | none => rfl
    | some o' =>
      rcases y.new L o' q with q | q
      · rw [h1] at q; cases q
      · exact absurd (Heap.lt_size h4) (Nat.not_lt.mpr q)
  · obtain ⟨t, q, ht⟩ := y.la
    rw [q]; intro hm
    rcases List.mem_append.mp hm with hm | hm
    · exact h2 hm
    · exact absurd (Heap.lt_size h4) (Nat.not_lt.mpr (ht L hm))
set_option tactic.hygienic false in
theorem FramesOK.slots {X : Fix} {g h h'} {l : List Env} (x : FramesOK X g h l) (k : ∀ b o, h.get? b = some o → (∀ vs, o.data ≠ .fields vs) → ∃ o', h'.get? b = some o' ∧ o'.data = o.data) : FramesOK X g h' l := by
  intro env he
  obtain ⟨hk, L, o, hf, h1, h2, h3, h4, es, n, h5⟩ := x env he
  obtain ⟨o', e1, e2⟩ := k L o h4 fun vs q  => by rw [h5] at q; cases q
  exact ⟨hk, L, o', hf, h1, h2, h3, e1, es, n, e2.trans h5⟩
set_option tactic.hygienic false in
theorem FramesOK.mem {X : Fix} {g h} {l : List Env} (x : FramesOK X g h l) {b : Addr} (hb : b ∈ fsOf l) : g.Γ b = none ∧ b ∉ g.la ∧ b ≠ X.P ∧ ∃ o, h.get? b = some o ∧ ∃ es n, o.data = .dict es n := by
  obtain ⟨env, he, hf⟩ := List.mem_filterMap.mp hb
  obtain ⟨zz, L, o, hf', h1, h2, h3, h4, h5⟩ := x env he
  rw [hf] at hf'; cases hf'
  exact ⟨h1, h2, h3, o, h4, h5⟩
structure ExcR (X : Fix) (g : GW) (lo : Nat) (h : Heap) (ea : Addr) (T : Option (Addr × Value)) : Prop where
  le : lo ≤ ea
  ok : g.Γ ea = none ∧ ea ∉ g.la ∧ ea ≠ X.P
  obj : ∃ oe vs, h.get? ea = some oe ∧ oe.cls = .ref X.gf ∧ oe.data = .fields vs ∧ 1 < vs.size ∧ match T with
    | none => vs[1]? = some .none
    | some (t, fl) => vs[1]? = some (.ref t) ∧ t ≠ ea ∧ lo ≤ t ∧ (g.Γ t = none ∧ t ∉ g.la ∧ t ≠ X.P) ∧ ∃ oT ts, h.get? t = some oT ∧ oT.data = .fields ts ∧ ts[3]? = some fl

structure XR (X : Fix) (S : Addr → Prop) (l : List Env) (g₀ : GW) (s₀ : Shared) (kx : KX) (T : Option (Addr × Value)) (e : Value) (s : Shared) : Prop where
  of : ∃ g σ ea, e = .ref ea ∧ Stp X S (fsOf l) g₀ s₀.heap g s.heap ∧ HR X g σ s.heap ∧ ExcR X g s₀.heap.objs.size s.heap ea T ∧ FramesOK X g s.heap l ∧ kx σ = true
  gens : s.gens = s₀.gens
  os : s.os = s₀.os
noncomputable def okT (F : Addr) (T : Option (Addr × Value)) : Prop := T = none ∨ ∃ t, T = some (t, .none) ∨ T = some (t, rawInt F)
noncomputable def PX (X : Fix) (S : Addr → Prop) (l : List Env) (F : Addr) (g₀ : GW) (s₀ : Shared) (kx : KX) : Value → Shared → Prop := fun e s => ∃ T, okT F T ∧ XR X S l g₀ s₀ kx T e s

section
variable {X : Fix} {S : Addr → Prop} {l : List Env} {g₀ : GW} {s₀ : Shared} {kx : KX} {M : Model} {A : Around} {E : Value → Shared → Prop} {s : Shared}

set_option tactic.hygienic false in
theorem frameOf_rel {env fe : Env} {outer : List Env} {F : Addr} {g : GW} {σ : Sto} {Q : Value → Shared → Prop} (hA : A.frames = some (fe :: outer)) (hfe : fe.frame = some F) (hf : env.frame = some F)
    (R : HR X g σ s.heap) (hF : FramesOK X g s.heap (fe :: outer))
    (h : ∀ h', Heap.SlotsOnly (fsOf (fe :: outer)) s.heap h' → Q (.ref F) { s with heap := h' }) : wpAny M A (PySem.frameOf env) Q E s := by
  unfold PySem.frameOf
  refine wpAny_bind (wpAny_frameEnvs hA ?_)
  have hdw : ((fe :: outer).dropWhile fun x  => x.frame != env.frame) = fe :: outer := by simp [List.dropWhile, hf, hfe]
  rw [hdw]
  unfold frameObject
  refine wpAny_bind (wpAny_bind (wpAny_readyFrames_fun (hF.fun R) fun h₁ hs₁  => wpAny_pure ?_))
  rw [hfe]
  exact wpAny_pure (h h₁ hs₁)

set_option tactic.hygienic false in
theorem HR.slots {g : GW} {σ : Sto} {h h' : Heap} (R : HR X g σ h) {l : List Env} (hF : FramesOK X g h l) (hs : Heap.SlotsOnly (fsOf l) h h') : HR X g σ h' :=
  R.heap fun b o e q  => (hs.2.1 b fun hm  => by
    obtain ⟨n1, n2, n3, zz⟩ := hF.mem hm
    rcases q with q | q | q
    · exact q n1
    · exact n2 q
    · exact n3 q).trans e
set_option tactic.hygienic false in
theorem HR.record {g : GW} {σ : Sto} {h : Heap} (R : HR X g σ h) {a : Addr} {f : Obj → Obj} (n : g.Γ a = none ∧ a ∉ g.la ∧ a ≠ X.P) : HR X g σ (h.update a f) :=
  R.heap fun b o e q  => (Heap.get?_update_other h f (neW n.1 n.2.1 n.2.2 q).symm).trans e
set_option tactic.hygienic false in
theorem HR.push {g : GW} {σ : Sto} {h : Heap} (R : HR X g σ h) (o : Obj) : HR X g σ (h.push o) := R.heap fun zz zz e zz  => Heap.get?_push_of_some _ e

set_option tactic.hygienic false in
theorem XR.step {g₀ : GW} {s₀ : Shared} {T' : Option (Addr × Value)} {e : Value} {g : GW} {σ : Sto} {ea : Addr} {h' : Heap} {tk : Nat} (hg : s.gens = s₀.gens) (hos : s.os = s₀.os)
    (he : e = .ref ea) (hs : Stp X S (fsOf l) g₀ s₀.heap g s.heap) (hsz : s.heap.objs.size ≤ h'.objs.size)
    (hk : ∀ b o, s.heap.get? b = some o → b < s₀.heap.objs.size → ∃ o', h'.get? b = some o' ∧ (o' = o ∨ (b ∈ fsOf l ∧ ∃ sl, o' = { o with slots := sl })))
    (R : HR X g σ h') (hx : ExcR X g s₀.heap.objs.size h' ea T') (hF : FramesOK X g h' l) (hkx : kx σ = true) : XR X S l g₀ s₀ kx T' e { s with heap := h', toks := tk } := by
  refine ⟨⟨g, σ, ea, he, ⟨Nat.le_trans hs.size hsz, hs.ext, hs.new, hs.la, fun b o e n1 n2 n3  => ?_⟩, R, hx, hF, hkx⟩, hg, hos⟩
  obtain ⟨o', e', r⟩ := hs.keep b o e n1 n2 n3
  obtain ⟨o'', e'', r'⟩ := hk b o' e' (Heap.lt_size e)
  refine ⟨o'', e'', ?_⟩
  rcases r with rfl | ⟨hF, sl, rfl⟩
  · exact r'
  · rcases r' with rfl | ⟨zz, sl', rfl⟩
    · exact .inr ⟨hF, sl, rfl⟩
    · exact .inr ⟨hF, sl', rfl⟩
set_option tactic.hygienic false in
theorem newEntry_rel {env fe : Env} {outer : List Env} {F : Addr} {T : Option (Addr × Value)} {e head : Value} {hadNext : Bool} {Q : Unit → Shared → Prop} (hA : A.frames = some (fe :: outer)) (hfe : fe.frame = some F) (hf : env.frame = some F)
    (x : XR X S (fe :: outer) g₀ s₀ kx T e s) (h : ∀ t s', XR X S (fe :: outer) g₀ s₀ kx (some (t, rawInt F)) e s' → Q () s') :
    wpAny M A (do let a ← PySem.frameOf env; let pl ← entryPlaceOf F hadNext; let b ← EntryCells.newEntry head a .none (rawInt F) .none pl; setField e 1 b) Q E s := by
  obtain ⟨⟨g, σ, ea, rfl, hst, R, hx, hF, hkx⟩, hg, hos⟩ := x
  refine wpAny_bind (frameOf_rel hA hfe hf R hF fun h₁ hs₁  => ?_)
  refine wpAny_bind (wpAny_entryPlaceOf fun pl hpl  => ?_)
  unfold EntryCells.newEntry newFields
  refine wpAny_bind (wpAny_newObj_type ?_ (hpl.sizeOk5 _ _ _ _ _))
  obtain ⟨hle, hok, oe, vs, he, hcls, hd, hsz, hT⟩ := hx
  have hene : ea ∉ fsOf (fe :: outer) := fun hm  => by
    obtain ⟨zz, zz, zz, o, ho, es, n, hdd⟩ := hF.mem hm
    rw [he] at ho; cases ho; rw [hd] at hdd; cases hdd
  have he₁ : h₁.get? ea = some oe := (hs₁.2.1 ea hene).trans he
  have he₂ := Heap.get?_push_of_some (h := h₁) { cls := .type "traceback", dict := none, data := .fields ([head, .ref F, .none, rawInt F, .none] ++ (if pl.isEmpty then List.replicate 6 Value.none else pl)).toArray } he₁
  dsimp only
  refine wpAny_setField he₂ hd hsz (h h₁.objs.size _ ?_)
  have R₁ := R.slots hF hs₁
  have hle₁ : s₀.heap.objs.size ≤ h₁.objs.size := by rw [hs₁.1]; exact hst.size
  have hTe : h₁.objs.size ≠ ea := Nat.ne_of_gt (Heap.lt_size he₁)
  have fr := R₁.fresh (Nat.le_refl h₁.objs.size)
  refine XR.step (s := s) hg hos rfl hst ?_ ?_ ((R₁.push _).record hok) ⟨hle, hok, _, _, Heap.get?_update_self _ he₂ (Obj.isFreed_of_fields (Obj.data_mapFields hd _)), (Obj.cls_mapFields _ _).trans hcls, Obj.data_mapFields hd _, by simpa using hsz, ?_⟩ ?_ hkx
  · rw [Heap.size_after_update, Heap.size_push, hs₁.1]; exact Nat.le_succ _
  · intro b o hb hlt
    have hbe : ea ≠ b := fun q  => absurd hle (Nat.not_le.mpr (q ▸ hlt))
    rw [Heap.get?_update_other _ _ hbe]
    by_cases hm : b ∈ fsOf (fe :: outer)
    · obtain ⟨sl, e2⟩ := hs₁.2.2 b o hb
      exact ⟨_, Heap.get?_push_of_some _ e2, .inr ⟨hm, sl, rfl⟩⟩
    · exact ⟨o, Heap.get?_push_of_some _ ((hs₁.2.1 b hm).trans hb), .inl rfl⟩
  · refine ⟨by simp [hsz], hTe, hle₁, fr, _, _, (Heap.get?_update_other _ _ (Ne.symm hTe)).trans (Heap.get?_push_size h₁ rfl), rfl, ?_⟩
    rcases hpl with rfl | ⟨zz, zz, zz, zz, zz, zz, zz, rfl⟩ <;> simp
  · refine (hF.slots (h' := h₁) fun b o hb zz  => ?_).slots fun b o hb hn  => ?_
    · obtain ⟨sl, e2⟩ := hs₁.2.2 b o hb; exact ⟨_, e2, rfl⟩
    · refine ⟨o, ?_, rfl⟩
      have hbe : ea ≠ b := by rintro rfl; rw [he₁] at hb; cases hb; exact hn _ hd
      rw [Heap.get?_update_other _ _ hbe]; exact Heap.get?_push_of_some _ hb

set_option tactic.hygienic false in
theorem noteFrame_rel {env fe : Env} {outer : List Env} {F : Addr} {e : Value} {Q : Unit → Shared → Prop} (hA : A.frames = some (fe :: outer)) (hfe : fe.frame = some F) (hf : env.frame = some F)
    (x : PX X S (fe :: outer) F g₀ s₀ kx e s) (h : ∀ t s', XR X S (fe :: outer) g₀ s₀ kx (some (t, rawInt F)) e s' → Q () s') :
    wpAny M A (noteFrame e env) Q E s := by
  obtain ⟨T, hT, x⟩ := x
  obtain ⟨⟨g, σ, ea, rfl, hst, R, hx, hF, hkx⟩, hg, hos⟩ := id x
  obtain ⟨hle, hok, oe, vs, he, hcls, hd, hsz, hT'⟩ := hx
  unfold noteFrame
  simp only [hf]
  rcases hT with rfl | ⟨t, rfl | rfl⟩
  · refine wpAny_bind (wpAny_field he hd hT' ?_)
    rw [if_neg (by decide)]
    exact newEntry_rel hA hfe hf x h
  · obtain ⟨h1, hte, hlt, ht, oT, ts, hoT, hdT, h3⟩ := hT'
    refine wpAny_bind (wpAny_field he hd h1 ?_)
    rw [if_pos (show (Value.ref t != Value.none) = true from by simp)]
    refine wpAny_bind (wpAny_field hoT hdT h3 ?_)
    rw [if_neg (show ¬ ((Value.none == rawInt F) = true) from by simp [rawInt])]
    refine wpAny_bind (wpAny_setField hoT hdT (Array.getElem?_eq_some_iff.mp h3).1 ?_)
    have other : ∀ b, t ≠ b → (s.heap.update t (Obj.mapFields (·.setIfInBounds 3 Value.none))).get? b = s.heap.get? b := fun b hb  => Heap.get?_update_other _ _ hb
    have x' : XR X S (fe :: outer) g₀ s₀ kx (some (t, .none)) (.ref ea) { s with heap := s.heap.update t (Obj.mapFields (·.setIfInBounds 3 Value.none)) } := by
      refine XR.step (s := s) (tk := s.toks) hg hos rfl hst (by rw [Heap.size_after_update]; exact Nat.le_refl _) (fun b o hb hl  => ⟨o, (other b fun q  => absurd hlt (Nat.not_le.mpr (q ▸ hl))).trans hb, .inl rfl⟩) (R.record ht)
        ⟨hle, hok, oe, vs, (other ea hte).trans he, hcls, hd, hsz, h1, hte, hlt, ht, _, _, Heap.get?_update_self _ hoT (Obj.isFreed_of_fields (Obj.data_mapFields hdT _)), Obj.data_mapFields hdT _, ?_⟩ ?_ hkx
      · simp [(Array.getElem?_eq_some_iff.mp h3).1]
      · exact hF.slots fun b o hb hn  => ⟨o, (other b fun q  => by subst q; rw [hoT] at hb; cases hb; exact hn _ hdT).trans hb, rfl⟩
    exact newEntry_rel hA hfe hf x' h
  · obtain ⟨h1, hte, hlt, ht, oT, ts, hoT, hdT, h3⟩ := hT'
    refine wpAny_bind (wpAny_field he hd h1 ?_)
    rw [if_pos (show (Value.ref t != Value.none) = true from by simp)]
    refine wpAny_bind (wpAny_field hoT hdT h3 ?_)
    rw [if_pos (show (rawInt F == rawInt F) = true from by simp)]
    exact wpAny_pure (h t s x)

set_option tactic.hygienic false in
theorem setFlight_rel {fr : Option Addr} {t : Addr} {fl : Value} {e : Value} {Q : Unit → Shared → Prop} (x : XR X S l g₀ s₀ kx (some (t, fl)) e s)
    (h : ∀ s', XR X S l g₀ s₀ kx (some (t, fr.elim .none fun f  => rawInt f)) e s' → Q () s') : wpAny M A (setFlight e fr) Q E s := by
  obtain ⟨⟨g, σ, ea, rfl, hst, R, hx, hF, hkx⟩, hg, hos⟩ := id x
  obtain ⟨hle, hok, oe, vs, he, hcls, hd, hsz, h1, hte, hlt, ht, oT, ts, hoT, hdT, h3⟩ := hx
  unfold setFlight
  refine wpAny_bind (wpAny_field he hd h1 ?_)
  rw [if_pos (show (Value.ref t != Value.none) = true from by simp)]
  have other : ∀ b, t ≠ b → (s.heap.update t (Obj.mapFields (·.setIfInBounds 3 (fr.elim .none fun f  => rawInt f)))).get? b = s.heap.get? b := fun b hb  => Heap.get?_update_other _ _ hb
  refine wpAny_setField hoT hdT (Array.getElem?_eq_some_iff.mp h3).1 (h _ ?_)
  refine XR.step (s := s) (tk := s.toks) hg hos rfl hst (by rw [Heap.size_after_update]; exact Nat.le_refl _) (fun b o hb hl  => ⟨o, (other b fun q  => absurd hlt (Nat.not_le.mpr (q ▸ hl))).trans hb, .inl rfl⟩) (R.record ht)
    ⟨hle, hok, oe, vs, (other ea hte).trans he, hcls, hd, hsz, h1, hte, hlt, ht, _, _, Heap.get?_update_self _ hoT (Obj.isFreed_of_fields (Obj.data_mapFields hdT _)), Obj.data_mapFields hdT _, ?_⟩ ?_ hkx
  · simp [(Array.getElem?_eq_some_iff.mp h3).1]
  · exact hF.slots fun b o hb hn  => ⟨o, (other b fun q  => by subst q; rw [hoT] at hb; cases hb; exact hn _ hdT).trans hb, rfl⟩

set_option tactic.hygienic false in
theorem leaving_rel {env fe : Env} {outer : List Env} {F : Addr} {e : Value} {Q : Unit → Shared → Prop} (hA : A.frames = some (fe :: outer)) (hfe : fe.frame = some F) (hf : env.frame = some F)
    (x : PX X S (fe :: outer) F g₀ s₀ kx e s) (h : ∀ t s', XR X S (fe :: outer) g₀ s₀ kx (some (t, .none)) e s' → Q () s') :
    wpAny M A (leaving env e) Q E s := by
  unfold leaving
  exact wpAny_bind (noteFrame_rel hA hfe hf x fun t s' x'  => setFlight_rel (fr := none) x' fun s'' x''  => h t s'' x'')
set_option tactic.hygienic false in
theorem cameBack_rel {env fe : Env} {outer : List Env} {F : Addr} {t : Addr} {e fl : Value} (hf : env.frame = some F)
    (x : XR X S (fe :: outer) g₀ s₀ kx (some (t, fl)) e s) (h : ∀ s', PX X S (fe :: outer) F g₀ s₀ kx e s' → E e s') : cameBackBy M A env E e s := by
  obtain ⟨⟨g, σ, ea, rfl, hst, R, hx, hF, hkx⟩, hg, hos⟩ := id x
  obtain ⟨hle, hok, oe, vs, he, hcls, hd, hsz, h1, zz⟩ := hx
  unfold cameBackBy
  refine wpAny_bind (wpAny_field he hd h1 ?_)
  rw [if_neg (show ¬ ((Value.ref t == Value.none) = true) from by simp)]
  rw [hf]
  exact setFlight_rel (fr := some F) x fun s' x'  => h s' ⟨_, .inr ⟨t, .inr rfl⟩, x'⟩
set_option tactic.hygienic false in
theorem passOn_rel {α : Type} {what : String} {env fe : Env} {outer : List Env} {F : Addr} {t : Addr} {e fl : Value} {Q : α → Shared → Prop} (hf : env.frame = some F)
    (x : XR X S (fe :: outer) g₀ s₀ kx (some (t, fl)) e s) (h : ∀ s', PX X S (fe :: outer) F g₀ s₀ kx e s' → E e s') : wpAny M A (PySem.passOn what e env : Sem α) Q E s := by
  obtain ⟨⟨g, σ, ea, rfl, hst, R, hx, hF, hkx⟩, hg, hos⟩ := id x
  obtain ⟨hle, hok, oe, vs, he, hcls, hd, hsz, h1, zz⟩ := hx
  unfold PySem.passOn
  refine wpAny_bind (wpAny_field he hd h1 ?_)
  rw [if_neg (show ¬ ((Value.ref t == Value.none) = true) from by simp)]
  rw [hf]
  exact wpAny_bind (setFlight_rel (fr := some F) x fun s' x'  => wpAny_throw (h s' ⟨_, .inr ⟨t, .inr rfl⟩, x'⟩))
end
end Mine
end
section
open PySem PySem.W PyProof.Rows PySem.Calls
set_option maxRecDepth 100000
namespace Mine

/-! texts -/
set_option tactic.hygienic false in
theorem eqL_eq : ∀ {a b : List Nat}, eqL a b = true → a = b
  | [], [], _ => rfl
  | a :: r, b :: s, h => by
    obtain ⟨h1, h2⟩ := Bool.and_eq_true_iff.mp (show (Nat.beq a b && eqL r s) = true from h)
    rw [Nat.eq_of_beq_eq_true h1, eqL_eq h2]
  | [], _ :: _, h => by cases h
  | _ :: _, [], h => by cases h
set_option tactic.hygienic false in
theorem eqL_self : ∀ a : List Nat, eqL a a = true
  | [] => rfl
  | a :: r => by show (Nat.beq a a && eqL r r) = true; rw [Nat.beq_refl, eqL_self r]; rfl
set_option tactic.hygienic false in
theorem eqL_false {a b : List Nat} (h : eqL a b = false) : a ≠ b := fun e  => by subst e; rw [eqL_self] at h; cases h
set_option tactic.hygienic false in
theorem eqS_iff {a b : Str} : eqS a b = (a == b) := by
  cases h : eqS a b with
  | true =>
    have e := eqL_eq h
    obtain ⟨⟨x⟩⟩ := a; obtain ⟨⟨y⟩⟩ := b
    have e' : x = y := e
    subst e'; simp
  | false =>
    have e := eqL_false h
    symm; rw [beq_eq_false_iff_ne]; intro q; subst q; exact e rfl
set_option tactic.hygienic false in
theorem lk_eq {α : Type} (x : Str) : ∀ l : List (Str × α), lk x l = l.lookup x
  | [] => rfl
  | (y, v) :: r => by
    rw [lk, List.lookup_cons, eqS_iff, lk_eq x r]
    cases x == y <;> rfl
set_option tactic.hygienic false in
theorem lk_put {α : Type} (x y : Str) (v : α) : ∀ l : List (Str × α), lk y (put x v l) = if y = x then some v else lk y l
  | [] => by
    by_cases h : y = x
    · subst h; simp [put, lk, eqS_iff]
    · have : (y == x) = false := by simpa using h
      simp [put, lk, eqS_iff, h]
  | (z, u) :: r => by
    rw [put]
    by_cases hxz : x = z
    · subst hxz
      rw [if_pos (by rw [eqS_iff]; simp)]
      by_cases h : y = x
      · subst h; simp [lk, eqS_iff]
      · simp [lk, eqS_iff, h]
    · rw [if_neg (by rw [eqS_iff]; simpa using hxz)]
      rw [lk, lk_put x y v r]
      by_cases hyz : y = z
      · subst hyz
        rw [if_pos (by rw [eqS_iff]; simp), if_neg (Ne.symm hxz)]
        simp [lk, eqS_iff]
      · have e : eqS y z = false := by rw [eqS_iff]; simpa using hyz
        rw [lk, e]; simp

set_option tactic.hygienic false in
theorem den_append (θ) (a b : List Nat) : den θ (a ++ b) = den θ a ++ den θ b := by unfold den; rw [List.flatMap_append]
set_option tactic.hygienic false in
theorem den_lit {θ} : ∀ {r : List Nat}, litR r = true → den θ r = r
  | [], _ => rfl
  | c :: r, h => by
    obtain ⟨h1, h2⟩ := Bool.and_eq_true_iff.mp (show (isLit c && litR r) = true from h)
    show (if isLit c then [c] else θ (c - symB)) ++ den θ r = _
    rw [if_pos h1, den_lit h2]; rfl
set_option tactic.hygienic false in
theorem den_ne {θ : Nat → List Nat} (hθ : ∀ i, θ i ≠ []) : ∀ {r : List Nat}, r ≠ [] → den θ r ≠ []
  | [], h => absurd rfl h
  | c :: r, _ => by
    show (if isLit c then [c] else θ (c - symB)) ++ den θ r ≠ []
    intro e
    obtain ⟨e1, zz⟩ := List.append_eq_nil_iff.mp e
    split at e1
    · cases e1
    · exact hθ _ e1
set_option tactic.hygienic false in
theorem den_len {θ : Nat → List Nat} (hθ : ∀ i, (θ i).length ≤ 4096) : ∀ r : List Nat, (den θ r).length ≤ 4096 * r.length
  | [] => Nat.le_refl _
  | c :: r => by
    show ((if isLit c then [c] else θ (c - symB)) ++ den θ r).length ≤ _
    rw [List.length_append, List.length_cons]
    have h1 := den_len hθ r
    have h2 : (if isLit c then [c] else θ (c - symB)).length ≤ 4096 := by split; (simp); exact hθ _
    (with_reducible exact Mine.ar24 (by assumption) (by assumption))
set_option tactic.hygienic false in
theorem okL_le' {α : Type} {r : List α} (h : okL r = true) : r.length ≤ 4000 := Nat.le_of_ble_eq_true h
set_option tactic.hygienic false in
theorem okL_le {α : Type} {r : List α} (h : okL r = true) : r.length ≤ 4096 := Nat.le_trans (okL_le' h) (by decide)

structure FixOK (X : Fix) : Prop where
  th : ∀ i, X.θ i ≠ [] ∧ (X.θ i).length ≤ 4096
  inK : X.T.K.In X.B
  noP : X.B.get? X.P = none
  glob : ∃ o es ep, X.T.K.lookup mainGlobals = some o ∧ o.data = .dict es ep ∧ StrKeys es
  blt : ∃ mb, X.B.Ns builtinsNs mb ∧ ∀ x : Str, x ≠ "__name__" → mb x = bootBuiltins x
  nolimit : X.B.NoLimit
  nodigits : ∃ mc, X.B.Ns cStatics mc ∧ mc "sys.int_max_str_digits" = none
  dicts : ∀ a, memN a X.T.D = true → (a == sysModules) = false ∧ ∃ kvs, X.B.DictOf (strKind X.prog X.w) a kvs
  code : CodeHd X.B X.cc X.P
  bmain : ∃ mg, X.B.Ns mainGlobals mg ∧ X.B.BuiltinsAt mg X.P
  gP : mainGlobals ≠ X.P
  sh : ∀ o fd, X.T.K.lookup X.T.sh = some o → o.data = .func fd → fd.code = .ref X.cc ∧ (fd.qualname ++ (".<locals>." : Str)) ++ ("<lambda>" : Str) = X.q

set_option tactic.hygienic false in
theorem mkS_len (l : List Nat) : (mkS l).length = l.length := by simp [mkS, Str.length]
set_option tactic.hygienic false in
theorem den_fits {X : Fix} (O : FixOK X) {r : List Nat} (h : okL r = true) : (mkS (den X.θ r)).length ≤ sizeLine := by
  rw [mkS_len, sizeLine_eq]
  have := den_len (fun i  => (O.th i).2) r
  have := okL_le h
  (with_reducible exact Mine.ar23 (by assumption) (by assumption))
set_option tactic.hygienic false in
theorem mkS_inj {a b : List Nat} : mkS a = mkS b ↔ a = b := by
  constructor
  · intro h; have : a.toArray = b.toArray := congrArg Str.cps h; simpa using this
  · intro h; rw [h]
set_option tactic.hygienic false in
theorem mkS_append (a b : List Nat) : mkS (a ++ b) = mkS a ++ mkS b := by
  show (⟨(a ++ b).toArray⟩ : Str) = ⟨a.toArray ++ b.toArray⟩
  simp
set_option tactic.hygienic false in
theorem mkS_toList (s : Str) : mkS s.cps.toList = s := by obtain ⟨⟨l⟩⟩ := s; rfl
theorem ropeEq_ok {X : Fix} (O : FixOK X) {a b : List Nat} {t : Bool} (h : ropeEq a b = some t) : decide (den X.θ a = den X.θ b) = t := by
  unfold ropeEq at h
  split at h
  · rename_i e; cases h; rw [eqL_eq e]; simp
  · rename_i e
    have e' : a ≠ b := eqL_false (by simpa using e)
    split at h
    · rename_i l; cases h
      refine band2 l fun l1 l2  => ?_; clear l
      rw [den_lit l1, den_lit l2]; exact decide_eq_false e'
    · split at h
      · rename_i q; cases h
        rw [decide_eq_false_iff_not]
        have hθ : ∀ i, X.θ i ≠ [] := fun i  => (O.th i).1
        cases a with
        | nil => cases b with
          | nil => exact absurd rfl e'
          | cons c r => exact fun z  => den_ne hθ (List.cons_ne_nil c r) z.symm
        | cons c r => cases b with
          | nil => exact fun z  => den_ne hθ (List.cons_ne_nil c r) z
          | cons => simp at q
      · cases h

/-! frames of the evaluator -/
structure FrR (X : Fix) (g : GW) (ρ : Fr) (c : Env) (h : Heap) : Prop where
  kind : c.scope.kind = .function
  glob : c.globals = mainGlobals
  blt : c.builtins = builtinsNs
  names : ∀ x k, lk x ρ.scope.names = some k → c.kindOf x = some k ∨ (k = .free ∧ c.kindOf x = some .cell)
  loc : ∃ m, h.Ns c.locals m ∧ ∀ x p, lk x ρ.scope.names = some .local → lk x ρ.vars = some p → ∃ v, m x = some v ∧ RepV X g v p
  locOk : g.Γ c.locals = none ∧ c.locals ∉ g.la ∧ c.locals ≠ X.P
  cell : ∀ x p, (lk x ρ.scope.names = some .cell ∧ lk x ρ.vars = some p ∨ lk x ρ.scope.names = some .free ∧ lk x ρ.up = some p) →
    ∃ a v, c.cells.lookup x = some a ∧ h.IsCell a (some v) ∧ RepV X g v p ∧ a ∉ g.la ∧ a ≠ X.P ∧ (ρ.lam = true → ∃ o, g.Γ a = some o) ∧ (ρ.lam = false → g.Γ a = none)
  own : ∀ x, lk x ρ.scope.names = some .cell → ∃ a v, c.cells.lookup x = some a ∧ h.IsCell a v ∧ a ∉ g.la ∧ a ≠ X.P ∧ (ρ.lam = false → g.Γ a = none)
  inj : ∀ x y a, c.cells.lookup x = some a → c.cells.lookup y = some a → x = y
  all : ∀ z a, c.cells.lookup z = some a → (∃ v, h.IsCell a v) ∧ a ∉ g.la ∧ a ≠ X.P
  shw : ρ.q = true → c.code = .ref X.cc ∧ c.qual ++ ("<lambda>" : Str) = X.q

noncomputable def noS : Addr → Prop := fun _ => False
set_option tactic.hygienic false in
theorem Stp.fresh {X : Fix} {S FS g h g' h'} (x : Stp X S FS g h g' h') {a : Addr} {o : Obj} (e : h.get? a = some o) (h1 : g.Γ a = none) (h2 : a ∉ g.la) : g'.Γ a = none ∧ a ∉ g'.la := by
  constructor
  · cases q : g'.Γ a with
    | none => rfl
    | some o' =>
      rcases x.new a o' q with q | q
      · rw [h1] at q; cases q
      · exact absurd (Heap.lt_size e) (Nat.not_lt.mpr q)
  · obtain ⟨t, q, ht⟩ := x.la
    rw [q]; intro hm
    rcases List.mem_append.mp hm with hm | hm
    · exact h2 hm
    · exact absurd (Heap.lt_size e) (Nat.not_lt.mpr (ht a hm))
set_option tactic.hygienic false in
theorem Stp.notLa {X : Fix} {S FS g h g' h'} (x : Stp X S FS g h g' h') {a : Addr} {o : Obj} (e : h.get? a = some o) (h2 : a ∉ g.la) : a ∉ g'.la := by
  obtain ⟨t, q, ht⟩ := x.la
  rw [q]; intro hm
  rcases List.mem_append.mp hm with hm | hm
  · exact h2 hm
  · exact absurd (Heap.lt_size e) (Nat.not_lt.mpr (ht a hm))
set_option tactic.hygienic false in
theorem Ns.ofData {h h' : Heap} {a : Addr} {m : Str → Option Value} (x : h.Ns a m) (k : ∀ o, h.get? a = some o → ∃ o', h'.get? a = some o' ∧ o'.data = o.data) : h'.Ns a m := by
  obtain ⟨o, es, ep, ho, hd, r⟩ := x
  obtain ⟨o', e1, e2⟩ := k o ho
  exact ⟨o', es, ep, e1, e2.trans hd, r⟩
set_option tactic.hygienic false in
theorem FrR.step {X : Fix} {S FS g h g' h'} {ρ : Fr} {c : Env} (x : FrR X g ρ c h) (y : Stp X S FS g h g' h') (hS : ¬ S c.locals) (hC : ∀ z a v, c.cells.lookup z = some a → h.IsCell a v → ¬ S a) : FrR X g' ρ c h' := by
  obtain ⟨m, hn, hm⟩ := x.loc
  have hno := hn
  obtain ⟨o, zz, zz, ho, zz⟩ := hno
  refine ⟨x.kind, x.glob, x.blt, x.names, ⟨m, ?_, fun z p e1 e2  => ?_⟩, ?_, fun z p e  => ?_, fun z e  => ?_, x.inj, fun z a e  => ?_, x.shw⟩
  · exact Ns.ofData hn fun o ho  => let ⟨o', e1, e2, _⟩ := y.keepData ho hS x.locOk.2.1 x.locOk.2.2; ⟨o', e1, e2⟩
  · obtain ⟨v, e, r⟩ := hm z p e1 e2
    exact ⟨v, e, repV_mono y.gext r⟩
  · obtain ⟨h1, h2⟩ := y.fresh ho x.locOk.1 x.locOk.2.1
    exact ⟨h1, h2, x.locOk.2.2⟩
  · obtain ⟨a, v, e1, ⟨oc, e2, e3⟩, r, n1, n2, n3, n4⟩ := x.cell z p e
    obtain ⟨o', f1, f2, zz⟩ := y.keepData e2 (hC z a _ e1 ⟨oc, e2, e3⟩) n1 n2
    refine ⟨a, v, e1, ⟨o', f1, f2.trans e3⟩, repV_mono y.gext r, y.notLa e2 n1, n2, fun hl  => ?_, fun hl  => (y.fresh e2 (n4 hl) n1).1⟩
    obtain ⟨o₁, h1⟩ := n3 hl
    exact ⟨o₁, y.ext _ _ h1⟩
  · obtain ⟨a, v, e1, ⟨oc, e2, e3⟩, n1, n2, n4⟩ := x.own z e
    obtain ⟨o', f1, f2, zz⟩ := y.keepData e2 (hC z a _ e1 ⟨oc, e2, e3⟩) n1 n2
    exact ⟨a, v, e1, ⟨o', f1, f2.trans e3⟩, y.notLa e2 n1, n2, fun hl  => (y.fresh e2 (n4 hl) n1).1⟩
  · obtain ⟨⟨v, oc, e2, e3⟩, n1, n2⟩ := x.all z a e
    obtain ⟨o', f1, f2, zz⟩ := y.keepData e2 (hC z a _ e ⟨oc, e2, e3⟩) n1 n2
    exact ⟨⟨v, o', f1, f2.trans e3⟩, y.notLa e2 n1, n2⟩

/-! posts -/
structure To (X : Fix) (S : Addr → Prop) (l : List Env) (g : GW) (s : Shared) (g' : GW) (s' : Shared) : Prop where
  st : Stp X S (fsOf l) g s.heap g' s'.heap
  gens : s'.gens = s.gens
  os : s'.os = s.os
set_option tactic.hygienic false in
theorem To.refl {X S l g s} : To X S l g s g s := ⟨Stp.refl, rfl, rfl⟩
set_option tactic.hygienic false in
theorem To.trans {X S l g s g' s' g'' s''} (x : To X S l g s g' s') (y : To X S l g' s' g'' s'') : To X S l g s g'' s'' := ⟨x.st.trans y.st, y.gens.trans x.gens, y.os.trans x.os⟩
set_option tactic.hygienic false in
theorem To.mono {X S S' l g s g' s'} (x : To X S l g s g' s') (h : ∀ b, S b → S' b) : To X S' l g s g' s' := ⟨x.st.mono h fun zz q  => q, x.gens, x.os⟩
set_option tactic.hygienic false in
theorem To.toks {X S l g s g' s'} (x : To X S l g s g' s') (t : Nat) : To X S l g s g' { s' with toks := t } := ⟨x.st, x.gens, x.os⟩
set_option tactic.hygienic false in
theorem XR.base {X : Fix} {S : Addr → Prop} {l : List Env} {g g₁ : GW} {s s₁ s₂ : Shared} {kx : KX} {T : Option (Addr × Value)} {e : Value} (t : To X S l g s g₁ s₁) (x : XR X S l g₁ s₁ kx T e s₂) : XR X S l g s kx T e s₂ := by
  obtain ⟨⟨g', σ, ea, he, hst, R, ⟨hle, hok, oe, vs, a1, a2, a3, a4, a5⟩, hF, hk⟩, h1, h2⟩ := x
  refine ⟨⟨g', σ, ea, he, t.st.trans hst, R, ⟨Nat.le_trans t.st.size hle, hok, oe, vs, a1, a2, a3, a4, ?_⟩, hF, hk⟩, h1.trans t.gens, h2.trans t.os⟩
  cases T with
  | none => exact a5
  | some q =>
    obtain ⟨b1, b2, b3, b4⟩ := a5
    exact ⟨b1, b2, Nat.le_trans t.st.size b3, b4⟩
set_option tactic.hygienic false in
theorem XR.monoS {X : Fix} {S S' : Addr → Prop} {l : List Env} {g : GW} {s s₂ : Shared} {kx : KX} {T : Option (Addr × Value)} {e : Value} (x : XR X S l g s kx T e s₂) (h : ∀ b, S b → S' b) : XR X S' l g s kx T e s₂ := by
  obtain ⟨⟨g', σ, ea, he, hst, r⟩, h1, h2⟩ := x
  exact ⟨⟨g', σ, ea, he, hst.mono h fun zz q  => q, r⟩, h1, h2⟩
set_option tactic.hygienic false in
theorem PX.base {X : Fix} {S : Addr → Prop} {l : List Env} {F : Addr} {g g₁ : GW} {s s₁ s₂ : Shared} {kx : KX} {e : Value} (t : To X S l g s g₁ s₁) (x : PX X S l F g₁ s₁ kx e s₂) : PX X S l F g s kx e s₂ :=
  let ⟨T, h, r⟩ := x; ⟨T, h, r.base t⟩
set_option tactic.hygienic false in
theorem PX.monoS {X : Fix} {S S' : Addr → Prop} {l : List Env} {F : Addr} {g : GW} {s s₂ : Shared} {kx : KX} {e : Value} (x : PX X S l F g s kx e s₂) (h : ∀ b, S b → S' b) : PX X S' l F g s kx e s₂ :=
  let ⟨T, h1, r⟩ := x; ⟨T, h1, r.monoS h⟩
noncomputable def VG {α : Type} (X : Fix) (S : Addr → Prop) (l : List Env) (g₀ : GW) (s₀ : Shared) (R : α → GW → Sto → Heap → Prop) : α → Shared → Prop :=
  fun a s => ∃ g σ, To X S l g₀ s₀ g s ∧ HR X g σ s.heap ∧ R a g σ s.heap
set_option tactic.hygienic false in
theorem VG.base {α : Type} {X S l g s g₁ s₁} {R : α → GW → Sto → Heap → Prop} {a : α} {s₂ : Shared} (t : To X S l g s g₁ s₁) (x : VG X S l g₁ s₁ R a s₂) : VG X S l g s R a s₂ :=
  let ⟨g', σ, h, r⟩ := x; ⟨g', σ, t.trans h, r⟩
set_option tactic.hygienic false in
theorem VG.monoS {α : Type} {X S S' l g s} {R : α → GW → Sto → Heap → Prop} {a : α} {s₂ : Shared} (x : VG X S l g s R a s₂) (h : ∀ b, S b → S' b) : VG X S' l g s R a s₂ :=
  let ⟨g', σ, t, r⟩ := x; ⟨g', σ, t.mono h, r⟩
set_option tactic.hygienic false in
theorem VG.mono {α : Type} {X S l g s} {R R' : α → GW → Sto → Heap → Prop} {a : α} {s₂ : Shared} (x : VG X S l g s R a s₂) (h : ∀ a g σ h, R a g σ h → R' a g σ h) : VG X S l g s R' a s₂ :=
  let ⟨g', σ, t, H, r⟩ := x; ⟨g', σ, t, H, h _ _ _ _ r⟩
noncomputable def RV (X : Fix) (k : KV) : Value → GW → Sto → Heap → Prop := fun v g σ _ => ∃ p, RepV X g v p ∧ k p σ = true
noncomputable def RL (X : Fix) (k : List PV → Sto → Bool) : List Value → GW → Sto → Heap → Prop := fun vs g σ _ => ∃ ps, RepL X g vs ps ∧ k ps σ = true
noncomputable def RB (k : Bool → Sto → Bool) : Bool → GW → Sto → Heap → Prop := fun b _ σ _ => k b σ = true

section
variable {α β : Type} {X : Fix} {S : Addr → Prop} {l : List Env} {F : Addr} {g g₁ : GW} {s s₁ : Shared} {kx : KX} {M : Model} {A : Around} {E : Value → Shared → Prop}
set_option tactic.hygienic false in
theorem vuse {t : Sem α} {R : α → GW → Sto → Heap → Prop} {Q : α → Shared → Prop} (h : wpAny M A t (VG X S l g₁ s₁ R) (PX X S l F g₁ s₁ kx) s₁) (b : To X S l g s g₁ s₁)
    (hQ : ∀ a g₂ σ₂ s₂, To X S l g₁ s₁ g₂ s₂ → To X S l g s g₂ s₂ → HR X g₂ σ₂ s₂.heap → R a g₂ σ₂ s₂.heap → Q a s₂) : wpAny M A t Q (PX X S l F g s kx) s₁ :=
  wpAny_mono h (fun a s₂ ⟨g₂, σ₂, t, H, r⟩ => hQ a g₂ σ₂ s₂ t (b.trans t) H r) fun zz zz e  => e.base b
set_option tactic.hygienic false in
theorem vbind {t : Sem α} {f : α → Sem β} {R : α → GW → Sto → Heap → Prop} {R' : β → GW → Sto → Heap → Prop} (h : wpAny M A t (VG X S l g s R) (PX X S l F g s kx) s)
    (hf : ∀ a g₁ σ₁ s₁, To X S l g s g₁ s₁ → HR X g₁ σ₁ s₁.heap → R a g₁ σ₁ s₁.heap → wpAny M A (f a) (VG X S l g₁ s₁ R') (PX X S l F g₁ s₁ kx) s₁) : wpAny M A (t >>= f) (VG X S l g s R') (PX X S l F g s kx) s :=
  wpAny_bind (wpAny_mono h (fun a s₁ ⟨g₁, σ₁, t, H, r⟩ => wpAny_mono (hf a g₁ σ₁ s₁ t H r) (fun zz zz q  => q.base t) fun zz zz q  => q.base t) fun zz zz q  => q)
set_option tactic.hygienic false in
theorem vend {R : α → GW → Sto → Heap → Prop} {a : α} {σ : Sto} (H : HR X g₁ σ s₁.heap) (b : To X S l g s g₁ s₁) (r : R a g₁ σ s₁.heap) : VG X S l g s R a s₁ := ⟨g₁, σ, b, H, r⟩
end
end Mine
end
section
open PySem PySem.W PyProof.Rows PySem.Calls PySem.SeqAt
set_option maxRecDepth 100000
namespace Mine

set_option tactic.hygienic false in
theorem RepV.isTuple {X : Fix} {g : GW} {σ : Sto} {h : Heap} (R : HR X g σ h) {v : Value} {ps : List PV} (r : RepV X g v (.tup ps)) : ∃ a vs, v = .ref a ∧ h.IsTuple a vs ∧ RepL X g vs.toList ps := by
  obtain ⟨zz, zz, zz, rfl, e, q⟩ := r.iT
  exact ⟨_, _, rfl, ⟨_, R.frz _ _ e, rfl, _, rfl⟩, q⟩
set_option tactic.hygienic false in
theorem RepV.isList {X : Fix} {g : GW} {σ : Sto} {h : Heap} (R : HR X g σ h) {v : Value} {i : Nat} {xs : List PV} (r : RepV X g v (.lst i)) (e : σ[i]? = some xs) : ∃ a vs, v = .ref a ∧ g.la[i]? = some a ∧ h.IsList a vs ∧ RepL X g vs.toList xs ∧ h.PlainList a vs := by
  obtain ⟨zz, rfl, q⟩ := r.iL
  obtain ⟨vs, l, z⟩ := R.lst _ _ _ q e
  obtain ⟨n, l⟩ := l
  exact ⟨_, vs, rfl, q, ⟨_, l, rfl, n, rfl⟩, z, n, l⟩

section
variable {X : Fix} (O : FixOK X) {g : GW}
include O in
set_option tactic.hygienic false in
theorem ropeB {x y : List Nat} {t : Bool} (h : ropeEq x y = some t) : (mkS (den X.θ x) == mkS (den X.θ y)) = t := by
  rw [← ropeEq_ok O h]
  by_cases hd : den X.θ x = den X.θ y
  · rw [hd]; simp
  · rw [decide_eq_false hd, beq_eq_false_iff_ne]; exact fun z  => hd (mkS_inj.mp z)
theorem pvEqs_same {n : Nat} {σ : Sto} (ih : ∀ {v p q t}, RepV X g v p → RepV X g v q → pvEq σ n p q = some t → t = true) :
    ∀ {vs : List Value} {ps qs : List PV} {t : Bool}, RepL X g vs ps → RepL X g vs qs → pvEqs (pvEq σ n) ps qs = some t → t = true
  | _, [], [], _, _, _, h => by cases h; rfl
  | _, [], _ :: _, _, r1, r2, h => by obtain rfl := r1.i0; obtain ⟨zz, zz, e, zz⟩ := r2.i1; cases e
  | _, _ :: _, [], _, r1, r2, h => by obtain rfl := r2.i0; obtain ⟨zz, zz, e, zz⟩ := r1.i1; cases e
  | _, p :: ps, q :: qs, t, r1, r2, h => by
    obtain ⟨zz, zz, rfl, a1, b1⟩ := r1.i1
    obtain ⟨zz, zz, e, a2, b2⟩ := r2.i1
    cases e
    dsimp only [pvEqs] at h
    split at h
    · rename_i x y e1 e2
      have := ih a1 a2 e1
      have := pvEqs_same ih b1 b2 e2
      subst x; subst y
      cases h; rfl
    · cases h
include O in
set_option tactic.hygienic false in
theorem pvEq_same {σ : Sto} {h : Heap} (R : HR X g σ h) : ∀ (n : Nat) {v : Value} {p q : PV} {t : Bool}, RepV X g v p → RepV X g v q → pvEq σ n p q = some t → t = true
  | 0, _, _, _, _, _, _, h => by cases h
  | n + 1, v, p, q, t, r1, r2, h => by
    cases p with
    | int x =>
      revert r2
      refine pintE h nS ?_; clear h; intro y h r2
      obtain ⟨zz, rfl⟩ := r1.iI; obtain ⟨zz, e⟩ := r2.iI; cases e; cases h; simp
    | str x =>
      revert r2
      refine pstrE h nS ?_; clear h; intro y h r2
      obtain ⟨zz, rfl⟩ := r1.iS
      obtain ⟨zz, e2⟩ := r2.iS
      injection e2 with e2
      have e := mkS_inj.mp e2
      rw [← ropeEq_ok O h]; simpa using e
    | tup xs =>
      revert r2
      refine ptupE h nS ?_; clear h; intro ys h r2
      obtain ⟨a, vs, zz, rfl, e1, q1⟩ := r1.iT
      obtain ⟨b, us, zz, e0, e2, q2⟩ := r2.iT
      injection e0 with e0
      subst e0
      rw [e1] at e2; cases e2
      exact pvEqs_same (fun a b c  => pvEq_same R n a b c) q1 q2 h
    | lst i =>
      revert r2
      refine plstE h nS ?_; clear h; intro j h r2; refine ifE' h nS ?_; clear h; intro xs e1 h; refine ifE' h nS ?_; clear h; intro ys e2 h
      obtain ⟨a, rfl, l1⟩ := r1.iL
      obtain ⟨b, e0, l2⟩ := r2.iL
      injection e0 with e0
      subst e0
      have hij : i = j := by
        obtain ⟨k1, z1⟩ := List.getElem?_eq_some_iff.mp l1
        obtain ⟨k2, z2⟩ := List.getElem?_eq_some_iff.mp l2
        exact (List.getElem_inj R.nod).mp (z1.trans z2.symm)
      subst hij
      rw [e1] at e2; cases e2
      obtain ⟨vs, zz, z⟩ := R.lst _ _ _ l1 e1
      exact pvEqs_same (fun a b c  => pvEq_same R n a b c) z z h
    | _ => exact absN h
end
theorem pvEqs_get {eq : PV → PV → Option Bool} : ∀ {ps qs : List PV} {t : Bool}, pvEqs eq ps qs = some t → ∃ e : Nat → Bool, (∀ j p q, ps[j]? = some p → qs[j]? = some q → eq p q = some (e j)) ∧
      ((List.range (min ps.length qs.length)).all e && ps.length == qs.length) = t
  | [], [], t, h => by cases h; exact ⟨fun zz  => true, fun j p q e  => by simp at e, rfl⟩
  | [], b :: s, t, h => by cases h; exact ⟨fun zz  => true, fun j p q e  => by simp at e, by simp⟩
  | a :: r, [], t, h => by cases h; exact ⟨fun zz  => true, fun j p q zz e  => by simp at e, by simp⟩
  | a :: r, b :: s, t, h => by
    rw [pvEqs] at h
    split at h
    · rename_i x y e1 e2
      cases h
      obtain ⟨e, h1, h2⟩ := pvEqs_get e2
      refine ⟨fun j  => match j with | 0 => x | j + 1 => e j, fun j p q i1 i2  => ?_, ?_⟩
      · cases j with
        | zero => cases i1; cases i2; exact e1
        | succ j => exact h1 j p q (by simpa using i1) (by simpa using i2)
      · rw [← h2]
        simp only [List.length_cons, Nat.succ_min_succ, List.range_succ_eq_map, List.all_cons, List.all_map]
        cases x
        · simp
        · simp only [Bool.true_and]
          congr 1
          rw [Bool.eq_iff_iff]; simp
    · cases h

section
variable {X : Fix} (O : FixOK X) {g : GW} {A : Around} {s : Shared} {σ : Sto} (R : HR X g σ s.heap)
omit R in
set_option tactic.hygienic false in
theorem items_eq {eq : PV → PV → Option Bool} (ih : ∀ {v u : Value} {p q : PV} {t : Bool}, RepV X g v p → RepV X g u q → eq p q = some t → EqAt A s v u t) {ps qs : List PV} {vs us : Array Value} {t : Bool} (q1 : RepL X g vs.toList ps) (q2 : RepL X g us.toList qs) (hp : pvEqs eq ps qs = some t) :
    ∃ e : Nat → Bool, (∀ j (h1 : j < vs.size) (h2 : j < us.size), EqAt A s vs[j] us[j] (e j)) ∧ ((List.range (min vs.size us.size)).all e && vs.size == us.size) = t := by
  obtain ⟨e, h1, h2⟩ := pvEqs_get hp
  have l1 := q1.length
  have l2 := q2.length
  rw [Array.length_toList] at l1 l2
  refine ⟨e, fun j i1 i2  => ?_, by rw [l1, l2]; exact h2⟩
  have k1 : j < ps.length := l1 ▸ i1
  have k2 : j < qs.length := l2 ▸ i2
  obtain ⟨v', e1, z1⟩ := q1.get (List.getElem?_eq_getElem k1)
  obtain ⟨u', e2, z2⟩ := q2.get (List.getElem?_eq_getElem k2)
  have := ih z1 z2 (h1 j _ _ (List.getElem?_eq_getElem k1) (List.getElem?_eq_getElem k2))
  have w1 : vs[j] = v' := Option.some.inj (((Array.getElem?_toList ..).trans (Array.getElem?_eq_getElem i1)).symm.trans e1)
  have w2 : us[j] = u' := Option.some.inj (((Array.getElem?_toList ..).trans (Array.getElem?_eq_getElem i2)).symm.trans e2)
  rw [w1, w2]; exact this
include O R
set_option tactic.hygienic false in
theorem eqAt_ok : ∀ (n : Nat) {A : Around} {v u : Value} {p q : PV} {t : Bool}, A.units + n < cLine → RepV X g v p → RepV X g u q → pvEq σ n p q = some t → EqAt A s v u t ∧ RcAt A s v u t
  | 0, _, _, _, _, _, _, _, _, _, h => by cases h
  | n + 1, A, v, u, p, q, t, hu, r1, r2, h => by
    have hu0 : A.units < cLine := Nat.lt_of_le_of_lt (Nat.le_add_right _ _) hu
    have hu1 : A.in1.units + n < cLine := by rw [Around.in1_units]; (with_reducible exact Mine.ar20 (by assumption))
    have hitems : ∀ {ps qs : List PV} {vs us : Array Value} {t : Bool}, RepL X g vs.toList ps → RepL X g us.toList qs → pvEqs (pvEq σ n) ps qs = some t →
        ∃ e : Nat → Bool, (∀ j (h1 : j < vs.size) (h2 : j < us.size), EqAt A.in1 s vs[j] us[j] (e j)) ∧ ((List.range (min vs.size us.size)).all e && vs.size == us.size) = t :=
      fun q1 q2 hp  => items_eq (fun r1 r2 h  => (eqAt_ok n hu1 r1 r2 h).1) q1 q2 hp
    dsimp only [pvEq] at h
    cases p with
    | int x =>
      revert r2
      refine pintE h nS ?_; clear h; intro y h r2
      obtain ⟨zz, rfl⟩ := r1.iI; obtain ⟨zz, rfl⟩ := r2.iI; cases h; exact ⟨EqAt.int_int _ _ _ _, RcAt.int_int _ _ _ _⟩
    | str x =>
      revert r2
      refine pstrE h nS ?_; clear h; intro y h r2
      obtain ⟨zz, rfl⟩ := r1.iS
      obtain ⟨zz, rfl⟩ := r2.iS
      have e' := ropeB O h
      exact ⟨e' ▸ EqAt.str_str _ _ _ _, e' ▸ RcAt.str_str _ _ _ _⟩
    | tup xs =>
      revert r2
      refine ptupE h nS ?_; clear h; intro ys h r2
      obtain ⟨a, vs, rfl, ht, q1⟩ := RepV.isTuple R r1
      obtain ⟨b, us, rfl, ht', q2⟩ := RepV.isTuple R r2
      obtain ⟨e, he, hr⟩ := hitems q1 q2 h
      have rc : RcAt A s (.ref a) (.ref b) t := hr ▸ RcAt.tuples ht ht' hu0 he
      refine ⟨?_, rc⟩
      by_cases hab : a = b
      · subst hab
        have ht1 : t = true := pvEq_same O R (n + 1) r1 r2 h
        rw [ht1]; exact EqAt.same _
      · exact EqAt.of_refs hab rc
    | lst i =>
      revert r2
      refine plstE h nS ?_; clear h; intro j h r2
      have h0 := h
      refine ifE' h nS ?_; clear h; intro xs e1 h; refine ifE' h nS ?_; clear h; intro ys e2 h
      obtain ⟨a, vs, rfl, zz, ht, q1, zz⟩ := RepV.isList R r1 e1
      obtain ⟨b, us, rfl, zz, ht', q2, zz⟩ := RepV.isList R r2 e2
      obtain ⟨e, he, hr⟩ := hitems q1 q2 h
      have rc : RcAt A s (.ref a) (.ref b) t := by
        by_cases hz : vs.size = us.size
        · have := RcAt.lists (e := e) ht ht' hz hu0 he
          have q : ((List.range vs.size).all e) = t := by rw [← hr, ← hz, Nat.min_self]; simp
          exact q ▸ this
        · have q : false = t := by rw [← hr]; simp [hz]
          exact q ▸ RcAt.lists_lengths ht ht' (by simpa using hz) hu0
      refine ⟨?_, rc⟩
      by_cases hab : a = b
      · subst hab
        have ht1 : t = true := pvEq_same O R (n + 1) r1 r2 h0
        rw [ht1]; exact EqAt.same _
      · exact EqAt.of_refs hab rc
    | _ => exact absN h
set_option tactic.hygienic false in
theorem rcNeAt_ok {n : Nat} {A : Around} {v u : Value} {p q : PV} {t : Bool} (hu : A.units + (n + 1) < cLine) (r1 : RepV X g v p) (r2 : RepV X g u q) (h : pvEq σ (n + 1) p q = some t) : RcNeAt A s v u (!t) := by
    have hu0 : A.units < cLine := Nat.lt_of_le_of_lt (Nat.le_add_right _ _) hu
    have hu1 : A.in1.units + n < cLine := by rw [Around.in1_units]; (with_reducible exact Mine.ar20 (by assumption))
    have hitems : ∀ {ps qs : List PV} {vs us : Array Value} {t : Bool}, RepL X g vs.toList ps → RepL X g us.toList qs → pvEqs (pvEq σ n) ps qs = some t →
        ∃ e : Nat → Bool, (∀ j (h1 : j < vs.size) (h2 : j < us.size), EqAt A.in1 s vs[j] us[j] (e j)) ∧ ((List.range (min vs.size us.size)).all e && vs.size == us.size) = t :=
      fun q1 q2 hp  => items_eq (fun r1 r2 h  => (eqAt_ok O R n hu1 r1 r2 h).1) q1 q2 hp
    rw [pvEq] at h
    cases p with
    | int x =>
      revert r2
      refine pintE h nS ?_; clear h; intro y h r2
      obtain ⟨zz, rfl⟩ := r1.iI; obtain ⟨zz, rfl⟩ := r2.iI; cases h; exact RcNeAt.int_int _ _ _ _
    | str x =>
      revert r2
      refine pstrE h nS ?_; clear h; intro y h r2
      obtain ⟨zz, rfl⟩ := r1.iS
      obtain ⟨zz, rfl⟩ := r2.iS
      exact ropeB O h ▸ RcNeAt.str_str _ _ _ _
    | tup xs =>
      revert r2
      refine ptupE h nS ?_; clear h; intro ys h r2
      obtain ⟨a, vs, rfl, ht, q1⟩ := RepV.isTuple R r1
      obtain ⟨b, us, rfl, ht', q2⟩ := RepV.isTuple R r2
      obtain ⟨e, he, hr⟩ := hitems q1 q2 h
      exact hr ▸ RcNeAt.tuples ht ht' hu0 he
    | lst i =>
      revert r2
      refine plstE h nS ?_; clear h; intro j h r2; refine ifE' h nS ?_; clear h; intro xs e1 h; refine ifE' h nS ?_; clear h; intro ys e2 h
      obtain ⟨a, vs, rfl, zz, ht, q1, zz⟩ := RepV.isList R r1 e1
      obtain ⟨b, us, rfl, zz, ht', q2, zz⟩ := RepV.isList R r2 e2
      obtain ⟨e, he, hr⟩ := hitems q1 q2 h
      by_cases hz : vs.size = us.size
      · have := RcNeAt.lists (e := e) ht ht' hz hu0 he
        have q : ((List.range vs.size).all e) = t := by rw [← hr, ← hz, Nat.min_self]; simp
        exact q ▸ this
      · have q : false = t := by rw [← hr]; simp [hz]
        exact q ▸ RcNeAt.lists_lengths ht ht' (by simpa using hz) hu0
    | _ => exact absN h
end
end Mine
end
section
open PySem PySem.W PyProof.Rows PySem.Calls PySem.SeqAt
set_option maxRecDepth 100000
namespace Mine

section
variable {X : Fix} (O : FixOK X) {g : GW} {A : Around} {s : Shared} {σ : Sto} (R : HR X g σ s.heap) {E : Value → Shared → Prop}
include O R

set_option tactic.hygienic false in
theorem truth_ok {p : PV} {v : Value} {b : Bool} {Q : Bool → Shared → Prop} (h : truthP σ p = some b) (r : RepV X g v p) (hQ : ∀ tk, Q b { s with toks := tk }) :
    wpAny (model X.prog X.w) A (truthy v) Q E s := by
  cases p with
  | bool b => obtain rfl := r.iB; cases h; exact wpAny_truthy_bool (hQ s.toks)
  | lst i =>
    refine ifE' h nS ?_; clear h; intro xs e1 h; refine ifB h nS ?_; clear h; intro hl h
    obtain ⟨a, vs, rfl, zz, ht, q, zz⟩ := RepV.isList R r e1
    cases h
    have l1 := q.length
    rw [Array.length_toList] at l1
    refine wpAny_truthy_list ht (by rw [l1]; have := okL_le hl; (with_reducible exact Mine.ar27 (by assumption))) ?_
    have e : (!vs.isEmpty) = !xs.isEmpty := by
      cases xs with
      | nil => simp at l1; simp [l1]
      | cons c t => simp at l1; simp [Array.isEmpty, l1]
    rw [e]; exact hQ _
  | _ => exact absN h

/-! dicts -/
omit O R in
set_option tactic.hygienic false in
theorem pairs_cons {e : DictEntry} {es : List DictEntry} {kv : Str × Value} {kvs : List (Str × Value)} (h : Pairs (strKind X.prog X.w) (e :: es) (kv :: kvs)) : Value.isStrOf kv.1 e.key = true ∧ e.val = kv.2 ∧ Pairs (strKind X.prog X.w) es kvs := by
  cases h with
  | cons a b c => exact ⟨a, b, c⟩
omit O R in
set_option tactic.hygienic false in
theorem valueAt_cons {kv : Str × Value} {kvs : List (Str × Value)} {x : Str} : valueAt (kv :: kvs) x = if kv.1 = x then some kv.2 else valueAt kvs x := by
  unfold valueAt
  rw [List.find?_cons]
  by_cases q : kv.1 = x
  · simp [q]
  · simp [q]
omit O R in
set_option tactic.hygienic false in
theorem findK_ok {r : List Nat} (hl : litR r = true) : ∀ {es : List DictEntry} {kvs : List (Str × Value)} {z : Option Value}, Pairs (strKind X.prog X.w) es kvs → findK (.str r) es = some z → valueAt kvs (mkS r) = z
  | [], [], z, _, h => by cases h; rfl
  | [], _ :: _, z, hp, h => by cases hp
  | _ :: _, [], z, hp, h => by cases hp
  | e :: es, kv :: kvs, z, hp, h => by
    obtain ⟨h1, h2, h3⟩ := pairs_cons hp
    obtain ⟨t, hk⟩ := Value.isStrOf_shape (show Value.isStrOf kv.1 e.key = true from h1)
    rw [findK, hk] at h
    have hki : keyIs (.str r) (.str kv.1 t) = some (eqL r kv.1.cps.toList) := by dsimp only [keyIs]; simp [hl]
    rw [hki] at h
    rw [valueAt_cons]
    cases hq : eqL r kv.1.cps.toList with
    | true =>
      rw [hq] at h; cases h
      rw [if_pos (by rw [eqL_eq hq, mkS_toList]), h2]
    | false =>
      rw [hq] at h
      rw [if_neg (fun q  => eqL_false hq (by rw [q]; rfl))]
      exact findK_ok hl h3 h
omit O R in
theorem ofVs_ok {f : Value → Option PV} (hf : ∀ v p, f v = some p → RepV X g v p) : ∀ {vs : List Value} {ps : List PV}, ofVs f vs = some ps → RepL X g vs ps
  | [], _, h => by cases h; exact .nil
  | v :: r, ps, h => by
    refine ifE' h nS fun p e1 h => ifE' h nS fun qs e2 h => ?_
    obtain rfl := Option.some.inj h
    exact .cons (hf _ _ e1) (ofVs_ok hf e2)
theorem ofV_ok : ∀ (n : Nat) {v : Value} {p : PV}, ofV X.T.K n v = some p → RepV X g v p
  | 0, _, _, h => by cases h
  | n + 1, v, p, h => by
    cases v with
    | none => cases h; exact .none
    | bool b => cases h; exact .bool b
    | int i t => cases h; exact .int i t
    | str x t =>
      refine ifB h nS fun hl h => ?_
      obtain rfl := Option.some.inj h
      exact .str t (by rw [den_lit hl, mkS_toList])
    | ref a =>
      refine ifE' h nS fun o e h => ?_
      revert h
      cases hz : seqO o with
      | none => intro h; obtain rfl := Option.some.inj h; exact .old e
      | some z =>
        intro h
        refine ifB h nS fun hc h => ifE' h nS fun ps hps h => ?_
        obtain rfl := Option.some.inj h
        rw [seqO_eq hz, eq_of_beq hc] at e
        exact .tup (R.base _ _ (O.inK _ _ e)) (ofVs_ok (fun v p e  => ofV_ok n e) hps)
    | _ => cases (show (none : Option PV) = some p from h)

theorem dictK_ok {a : Nat} {es : List DictEntry} (h : dictOfK X.T a = some es) : (a == sysModules) = false ∧ ∃ kvs, s.heap.DictOf (strKind X.prog X.w) a kvs ∧ Pairs (strKind X.prog X.w) es kvs := by
  unfold dictOfK at h
  split at h
  · rename_i hm
    split at h
    · rename_i c d fs m sl e
      cases h
      obtain ⟨h1, kvs, hd⟩ := O.dicts a hm
      refine ⟨h1, kvs, hd.keep fun b o e  => R.frz _ _ (R.base _ _ e), ?_⟩
      obtain ⟨o, es, ep, ho, hx, hdd, hk, hp, zz⟩ := hd
      have := O.inK _ _ e
      rw [ho] at this; cases this
      cases hdd
      exact hp
    · cases h
  · cases h
end

noncomputable def HasVal (X : Fix) (g : GW) (o : Option Value) : Option PV → Prop
  | some q => ∃ v', o = some v' ∧ RepV X g v' q
  | none => o = none
set_option tactic.hygienic false in
theorem repL_nil {X : Fix} {g : GW} {ps : List PV} (q : RepL X g [] ps) : ps = [] := by cases q; rfl
set_option tactic.hygienic false in
theorem repL_cons {X : Fix} {g : GW} {v : Value} {vs : List Value} {ps : List PV} (q : RepL X g (v :: vs) ps) : ∃ p qs, ps = p :: qs ∧ RepV X g v p ∧ RepL X g vs qs := by
  cases q with
  | cons a b => exact ⟨_, _, rfl, a, b⟩
set_option tactic.hygienic false in
theorem findD_ok {X : Fix} {g : GW} {σ : Sto} {r : List Nat} (hl : litR r = true) : ∀ {kvs : List (Str × Value)} {vs : List PV} {z : Option PV}, (∀ kv ∈ kvs, litR kv.1.cps.toList = true) → RepL X g (kvs.map (·.2)) vs →
      findD σ (.str r) (kvs.map fun kv  => PV.str kv.1.cps.toList) vs = some z → HasVal X g (valueAt kvs (mkS r)) z
  | [], _, z, _, q, h => by
    cases (show _ = _ from repL_nil q)
    cases h; rfl
  | kv :: kvs, ps, z, hk, q, h => by
    obtain ⟨p, ps, rfl, a, b⟩ := repL_cons q
    have hkl := hk kv (.head _)
    rw [List.map_cons] at h
    dsimp only [findD, consK] at h
    have hq : pvEq σ 4 (.str kv.1.cps.toList) (.str r) = some (eqL kv.1.cps.toList r) := by
      show ropeEq _ _ = _
      unfold ropeEq
      cases e : eqL kv.1.cps.toList r with
      | true => rfl
      | false => simp [hkl, hl]
    rw [hq] at h
    cases e : eqL kv.1.cps.toList r with
    | true =>
      rw [e] at h; cases h
      refine ⟨kv.2, ?_, a⟩
      rw [valueAt_cons, if_pos (by rw [← eqL_eq e, mkS_toList])]
    | false =>
      rw [e] at h
      rw [valueAt_cons, if_neg (fun q  => eqL_false e (by rw [q]; rfl))]
      exact findD_ok hl (fun kv' h'  => hk kv' (.tail _ h')) b h
set_option tactic.hygienic false in
theorem dictGet_ok {X : Fix} (O : FixOK X) {g : GW} {s : Shared} {σ : Sto} (R : HR X g σ s.heap) {v u : Value} {d p : PV} {z : Option PV} (h : dictGet X.T σ d p = some z) (r1 : RepV X g v d) (r2 : RepV X g u p) (hstr : ∃ r, p = .str r) :
    ∃ a kvs x t, v = .ref a ∧ u = .str x t ∧ (a == sysModules) = false ∧ s.heap.DictOf (strKind X.prog X.w) a kvs ∧ HasVal X g (valueAt kvs x) z := by
  obtain ⟨r, rfl⟩ := hstr
  refine ifB h nS ?_; clear h; intro hl h
  obtain ⟨t, rfl⟩ := r2.iS
  rw [den_lit hl]
  cases d with
  | old a =>
    refine ifE' h nS ?_; clear h; intro es he h; refine ifE' h nS ?_; clear h; intro z' hf h
    obtain ⟨h1, kvs, hd, hp⟩ := dictK_ok O R he
    obtain ⟨zz, rfl, zz⟩ := r1.iO
    have hv := findK_ok hl hp hf
    cases z' with
    | none => cases h; exact ⟨_, kvs, _, _, rfl, rfl, h1, hd, hv⟩
    | some v' =>
      refine ifE' h nS ?_; clear h; intro q hq h
      cases h
      exact ⟨_, kvs, _, _, rfl, rfl, h1, hd, v', hv, ofV_ok O R _ hq⟩
  | dct ks vs =>
    cases r1 with
    | dct e1 e2 e3 e4 e5 e6 =>
      subst e4
      exact ⟨_, _, _, _, rfl, rfl, e3, Heap.dictOf_iff.mpr ⟨_, R.frz _ _ e1, e2⟩, findD_ok hl e5 e6 h⟩
    | @dcti a o kvs ks vs e1 e2 e3 e4 e5 =>
      subst e4
      cases kvs with
      | nil =>
        cases e5; cases h
        refine ⟨_, [], _, _, rfl, rfl, e3, Heap.dictOf_iff.mpr ⟨_, R.frz _ _ e1, ?_⟩, rfl⟩
        obtain ⟨es, ep, x1, x2, x3, x4, x5⟩ := e2
        have : es = #[] := by
          cases hes : es.toList with
          | nil => exact Array.toList_eq_nil_iff.mp hes
          | cons => rw [hes] at x4; cases x4
        subst this
        exact ⟨#[], ep, x1, x2, (fun e he  => by simp at he), .nil, List.nodup_nil⟩
      | cons kv kvs =>
        cases e5 with
        | cons b1 b2 =>
          exact absN h
  | _ => exact absN h
end Mine
end
section
open PySem PySem.W PyProof.Rows PySem.Calls PySem.SeqAt
set_option maxRecDepth 100000
namespace Mine

theorem inP_ok {X : Fix} (O : FixOK X) {g : GW} {r : List Nat} : ∀ {vs : List Value} {ps : List PV} {c : Bool}, RepL X g vs ps → inP r ps = some c →
    (∀ y ∈ vs, ∃ x t, y = .str x t) ∧ vs.any (fun y  => match y with | .str x _ => x == mkS (den X.θ r) | _ => false) = c
  | [], [], c, .nil, h => by cases h; refine ⟨fun zz h  => ?_, rfl⟩; cases h
  | v :: vs, p :: ps, c, .cons a b, h => by
    cases a with
    | str t e =>
      rename_i y s0
      dsimp only [inP] at h
      split at h
      · rename_i x z e1 e2
        cases h
        obtain ⟨h1, h2⟩ := inP_ok O b e2
        refine ⟨fun w hw  => ?_, ?_⟩
        · rcases List.mem_cons.mp hw with rfl | hw
          · exact ⟨_, _, rfl⟩
          · exact h1 w hw
        · rw [List.any_cons, h2]
          have := ropeEq_ok O e1
          subst e
          congr 1
          show (mkS (den X.θ y) == mkS (den X.θ r)) = x
          rw [← this]
          by_cases hd : den X.θ y = den X.θ r
          · rw [hd]; simp
          · rw [decide_eq_false hd, beq_eq_false_iff_ne]; exact fun z  => hd (mkS_inj.mp z)
      · cases h
    | _ => cases h

section
variable {X : Fix} (O : FixOK X) {g : GW} {A : Around} {s : Shared} {σ : Sto} (R : HR X g σ s.heap) {E : Value → Shared → Prop}
include O R
set_option linter.unusedSectionVars false

set_option tactic.hygienic false in
theorem in_seq_ok {r : List Nat} {t : Tok} {vs : Array Value} {ps : List PV} {c : Bool} (q : RepL X g vs.toList ps) (h : inP r ps = some c) :
    (∀ y, y ∈ vs → EqAt A.in1 s y (.str (mkS (den X.θ r)) t) (match y with | .str x _ => x == mkS (den X.θ r) | _ => false)) ∧ vs.any (fun y  => match y with | .str x _ => x == mkS (den X.θ r) | _ => false) = c := by
  obtain ⟨h1, h2⟩ := inP_ok O q h
  refine ⟨fun y hy  => ?_, ?_⟩
  · obtain ⟨x, u, rfl⟩ := h1 y (Array.mem_toList_iff.mpr hy)
    exact EqAt.str_str _ _ _ _
  · rw [← h2, ← Array.any_toList]

omit O R in
set_option tactic.hygienic false in
theorem plainNo_ok {v : Value} {p : PV} {t : Bool} (r : RepV X g v p) (h : plainNo p = some t) : plainIs v .none = true ∧ (v == .none) = t := by
  cases r <;> first | exact absN h | (cases h; exact ⟨rfl, rfl⟩)
set_option tactic.hygienic false in
theorem isNo_ok {v u : Value} {a b : PV} {c : Bool} {f : Bool → Bool} (h : isNo b a f = some c) (r1 : RepV X g v a) (r2 : RepV X g u b) : u = .none ∧ plainIs v .none = true ∧ f (v == .none) = c := by
  unfold isNo at h
  revert r2
  refine nilPE h nS ?_; clear h; intro h r2; refine ifE' h nS ?_; clear h; intro t e h
  obtain rfl := r2.iN
  obtain ⟨h1, h2⟩ := plainNo_ok r1 e
  cases h
  exact ⟨rfl, h1, by rw [h2]⟩
omit O R in
set_option tactic.hygienic false in
theorem ltP_ok {v u : Value} {a b : PV} {c : Bool} {f : Int → Int → Bool} (h : ltP a b f = some c) (r1 : RepV X g v a) (r2 : RepV X g u b) : ∃ x y t t', v = .int x t ∧ u = .int y t' ∧ f x y = c := by
  unfold ltP at h
  revert r1
  refine pintE h nS ?_; clear h; intro x h r1
  revert r2
  refine pintE h nS ?_; clear h; intro y h r2
  obtain ⟨zz, rfl⟩ := r1.iI
  obtain ⟨zz, rfl⟩ := r2.iI
  cases h
  exact ⟨_, _, _, _, rfl, rfl, rfl⟩

set_option tactic.hygienic false in
theorem cmp_ok {op : CmpOp} {a b : PV} {v u : Value} {c : Bool} {Q : Value → Shared → Prop} (hu : A.units + 64 < cLine) (h : cmpP X.T op a b σ = some c) (r1 : RepV X g v a) (r2 : RepV X g u b)
    (hQ : ∀ tk, Q (.bool c) { s with toks := tk }) : wpAny (model X.prog X.w) A (compareOp op v u) Q E s := by
  have hQ' := hQ s.toks
  cases op with
  | Eq => exact (eqAt_ok O R 40 (by (with_reducible exact Mine.ar21 (by assumption))) r1 r2 h).2 _ _ _ _ hQ'
  | NotEq =>
    refine ifE' h nS ?_; clear h; intro c' e h
    cases h; exact rcNeAt_ok O R (n := 39) (by (with_reducible exact Mine.ar21 (by assumption))) r1 r2 e _ _ _ _ hQ'
  | Lt => obtain ⟨x, y, t, t', rfl, rfl, rfl⟩ := ltP_ok (X := X) h r1 r2; exact lt_int hQ'
  | LtE => obtain ⟨x, y, t, t', rfl, rfl, rfl⟩ := ltP_ok (X := X) h r1 r2; exact le_int hQ'
  | Gt => obtain ⟨x, y, t, t', rfl, rfl, rfl⟩ := ltP_ok (X := X) h r1 r2; exact gt_int hQ'
  | Is => obtain ⟨rfl, h1, rfl⟩ := isNo_ok (X := X) O R h r1 r2; exact wpAny_is_plain h1 hQ'
  | IsNot => obtain ⟨rfl, h1, rfl⟩ := isNo_ok (X := X) O R h r1 r2; exact wpAny_isNot_plain h1 hQ'
  | In =>
    revert r1
    refine pstrE h nS ?_; clear h; intro r h r1
    cases b with
    | tup xs =>
      obtain ⟨a, vs, rfl, ht, q⟩ := RepV.isTuple R r2
      obtain ⟨t, rfl⟩ := r1.iS
      obtain ⟨h1, h2⟩ := in_seq_ok O R (A := A) (t := t) q h
      exact in_tupleAt _ ht h1 (by rw [h2]; exact hQ')
    | lst i =>
      refine ifE' h nS ?_; clear h; intro xs e1 h
      obtain ⟨a, vs, rfl, zz, ht, q, zz⟩ := RepV.isList R r2 e1
      obtain ⟨t, rfl⟩ := r1.iS
      obtain ⟨h1, h2⟩ := in_seq_ok O R (A := A) (t := t) q h
      exact in_listAt _ ht h1 (by rw [h2]; exact hQ')
    | old a =>
      refine ifE' h nS ?_; clear h; intro z e h
      cases h
      obtain ⟨a, kvs, x, t, rfl, rfl, hs, hd, hv⟩ := dictGet_ok O R e r2 r1 ⟨_, rfl⟩
      refine wpAny_in_of (strKind_is _ _ x t) hs hd.mapOf ?_
      cases z with
      | none => rw [show valueAt kvs x = none from hv]; exact hQ _
      | some q => obtain ⟨v', hv, zz⟩ := hv; rw [hv]; exact hQ _
    | _ => exact absN h
  | NotIn =>
    revert r1
    refine pstrE h nS ?_; clear h; intro r h r1
    revert r2
    refine ptupE h nS ?_; clear h; intro xs h r2; refine ifE' h nS ?_; clear h; intro z e h
    cases h
    obtain ⟨a, vs, rfl, ht, q⟩ := RepV.isTuple R r2
    obtain ⟨t, rfl⟩ := r1.iS
    obtain ⟨h1, h2⟩ := in_seq_ok O R (A := A) (t := t) q e
    exact notIn_tupleAt _ ht h1 (by rw [h2]; exact hQ')
  | _ => exact absN h

set_option tactic.hygienic false in
theorem vg_new {l : List Env} {S : Addr → Prop} {o : Obj} (hf : o.isFreed = false) : To X S l g s g { s with heap := s.heap.push o } ∧ HR X g σ (s.heap.push o) ∧ (s.heap.push o).get? s.heap.objs.size = some o ∧ (g.Γ s.heap.objs.size = none ∧ s.heap.objs.size ∉ g.la ∧ s.heap.objs.size ≠ X.P) :=
  ⟨⟨Stp.heap (by show _ ≤ (s.heap.push o).objs.size; rw [Heap.size_push]; exact Nat.le_succ _) fun zz zz e zz zz zz  => Heap.get?_push_of_some _ e, rfl, rfl⟩, R.push o, Heap.get?_push_size _ hf, R.fresh (Nat.le_refl _)⟩

set_option tactic.hygienic false in
theorem new_tuple {l : List Env} {S : Addr → Prop} {vs : Array Value} {ps : List PV} {k : KV} (q : RepL X g vs.toList ps) (hk : k (.tup ps) σ = true) (tk : Nat) :
    VG X S l g s (RV X k) (.ref s.heap.objs.size) { s with heap := s.heap.push { cls := .type "tuple", data := .seq vs }, toks := tk } := by
  obtain ⟨t, R', ho, n1, n2, n3⟩ := vg_new O R (l := l) (S := S) (o := { cls := .type "tuple", data := .seq vs }) rfl
  refine ⟨⟨fun b  => if b = s.heap.objs.size then some { cls := .type "tuple", data := .seq vs } else g.Γ b, g.la⟩, σ, ⟨(t.st.freeze (Nat.le_refl _) n1), t.gens, t.os⟩, R'.freeze ho n2 n3 n1, .tup ps, ?_, hk⟩
  refine .tup (n := 0) (vs := vs) (by simp) (repL_mono ?_ q)
  exact GExt.new n1
set_option tactic.hygienic false in
theorem new_list {l : List Env} {S : Addr → Prop} {vs : Array Value} {ps : List PV} {k : KV} (q : RepL X g vs.toList ps) (hk : k (.lst σ.length) (σ ++ [ps]) = true) (tk : Nat) :
    VG X S l g s (RV X k) (.ref s.heap.objs.size) { s with heap := s.heap.push { cls := .type "list", data := .seq vs }, toks := tk } := by
  obtain ⟨t, R', ho, n1, n2, n3⟩ := vg_new O R (l := l) (S := S) (o := { cls := .type "list", data := .seq vs }) rfl
  obtain ⟨R'', r⟩ := R'.newList (a := s.heap.objs.size) (vs := vs) (xs := ps) ⟨0, ho⟩ q n1 n2 n3
  exact ⟨_, _, ⟨t.st.newList (Nat.le_refl _), t.gens, t.os⟩, R'', _, r, hk⟩

set_option tactic.hygienic false in
theorem vg_str {l : List Env} {S : Addr → Prop} {r : List Nat} {x : Str} {k : KV} (e : x = mkS (den X.θ r)) (hk : k (.str r) σ = true) (t tk : Nat) : VG X S l g s (RV X k) (.str x t) { s with toks := tk } :=
  ⟨g, σ, To.refl.toks _, R, _, .str t e, hk⟩
set_option tactic.hygienic false in
theorem vg_val {l : List Env} {S : Addr → Prop} {v : Value} {p : PV} {k : KV} (r : RepV X g v p) (hk : k p σ = true) (tk : Nat) : VG X S l g s (RV X k) v { s with toks := tk } :=
  ⟨g, σ, To.refl.toks _, R, _, r, hk⟩

set_option tactic.hygienic false in
theorem arI_ok {v u : Value} {a b : PV} {f : Int → Int → Bool} (h : arI a b f = true) (r1 : RepV X g v a) (r2 : RepV X g u b) : ∃ x y t t', v = .int x t ∧ u = .int y t' ∧ f x y = true := by
  unfold arI at h
  revert r1
  refine pintE h fT ?_; clear h; intro x h r1
  revert r2
  refine pintE h fT ?_; clear h; intro y h r2
  obtain ⟨zz, rfl⟩ := r1.iI
  obtain ⟨zz, rfl⟩ := r2.iI
  exact ⟨_, _, _, _, rfl, rfl, h⟩
set_option tactic.hygienic false in
theorem bin_ok {l : List Env} {S : Addr → Prop} {op : Operator} {a b : PV} {v u : Value} {k : KV} (h : binP op a b σ k = true) (r1 : RepV X g v a) (r2 : RepV X g u b) :
    wpAny (model X.prog X.w) A (binaryOp op v u) (VG X S l g s (RV X k)) E s := by
  cases op with
  | Add =>
    cases a with
    | str x =>
      revert r2
      refine pstrE h fT ?_; clear h; intro y h r2; refine ifB h fT ?_; clear h; intro hl h
      obtain ⟨t1, rfl⟩ := r1.iS
      obtain ⟨t2, rfl⟩ := r2.iS
      refine add_str (fun t' tk  => vg_str O R (r := x ++ y) (by rw [den_append, mkS_append]) h t' tk) ?_
      have := den_fits O hl
      rw [den_append, mkS_len, List.length_append] at this
      rw [mkS_len, mkS_len]; exact this
    | int x =>
      revert r2
      refine pintE h fT ?_; clear h; intro y h r2
      obtain ⟨zz, rfl⟩ := r1.iI; obtain ⟨zz, rfl⟩ := r2.iI
      exact add_int (vg_val O R (.int _ _) h _)
    | lst i =>
      revert r2
      refine plstE h fT ?_; clear h; intro j h r2; refine ifE' h fT ?_; clear h; intro xs e1 h; refine ifE' h fT ?_; clear h; intro ys e2 h; refine ifB h fT ?_; clear h; intro hl h
      obtain ⟨a, vs, rfl, zz, ht, q1, n1, p1⟩ := RepV.isList R r1 e1
      obtain ⟨b, us, rfl, zz, ht', q2, n2, p2⟩ := RepV.isList R r2 e2
      have hlen : vs.size + us.size ≤ sizeLine := by
        have l1 := q1.length; have l2 := q2.length
        rw [Array.length_toList] at l1 l2
        have := okL_le hl
        rw [List.length_append] at this
        rw [sizeLine_eq]; (with_reducible exact Mine.ar28 (by assumption) (by assumption) (by assumption))
      refine wpAny_binaryOp_concat ht.typeIs ht'.typeIs noFill_list_add seq_list_add ?_
      refine call_meets F.slot_list_add ht.typeIs F.entry_list_add (F.args_list_add_2 _ _) (AutoSeq1.list___add___list_list_0 a vs n1 b us n2 hlen) ⟨p1, p2, ?_⟩
      exact new_list O R (vs := vs ++ us) (ps := xs ++ ys) (by rw [Array.toList_append]; exact q1.append q2) h _
    | _ => exact absF h
  | Mult =>
    obtain ⟨x, y, t, t', rfl, rfl, h⟩ := arI_ok O R h r1 r2
    refine ifB h fT ?_; clear h; intro hs h
    refine PyProof.Rows.mul_int (vg_val O R (.int _ _) h _) ?_
    rcases Bool.or_eq_true_iff.mp hs with q | q
    · exact IntMulOk.of_left (intBits_le (by unfold smallF at q; simpa using q))
    · exact IntMulOk.of_right (intBits_le (by unfold smallF at q; simpa using q))
  | FloorDiv =>
    obtain ⟨x, y, t, t', rfl, rfl, h⟩ := arI_ok O R h r1 r2
    refine ifB h fT ?_; clear h; intro hs h; refine band2 hs ?_; clear hs; intro h1 h2
    have h1' := of_decide_eq_true h1
    exact PyProof.Rows.floordiv_int (by (with_reducible exact Mine.ar25 (by assumption))) (vg_val O R (.int _ _) h _) (.inl (PyProof.noPylong_small (by simpa using h2)))
  | Mod =>
    obtain ⟨x, y, t, t', rfl, rfl, h⟩ := arI_ok O R h r1 r2
    refine ifB h fT ?_; clear h; intro hs h
    have h1' := of_decide_eq_true hs
    exact PyProof.Rows.mod_int' (by (with_reducible exact Mine.ar25 (by assumption))) (vg_val O R (.int _ _) h _)
  | Pow =>
    obtain ⟨x, y, t, t', rfl, rfl, h⟩ := arI_ok O R h r1 r2
    refine ifB h fT ?_; clear h; intro hs h; refine band2 hs ?_; clear hs; intro h1 h2; refine band2 h2 ?_; clear h2; intro h3 h4
    exact PyProof.Rows.pow_int_small (of_decide_eq_true h3) (of_decide_eq_true h4) (by unfold smallF at h1; simpa using h1) (vg_val O R (.int _ _) h _)
  | _ => exact absF h
end
end Mine
end
section
open PySem PySem.W PyProof.Rows PySem.Calls PySem.SeqAt
set_option maxRecDepth 100000
namespace Mine

set_option tactic.hygienic false in
theorem idxP_eq (i : Int) (n : Nat) : idxP i n = seqIndex? i n := rfl

section
variable {prog : Program} {w : World} {A : Around} {E : Value → Shared → Prop} {s : Shared}
set_option tactic.hygienic false in
theorem getItem_tuple_all {t sl : Addr} {items : Array Value} {u : Tok} {Q : Value → Shared → Prop} (ht : IsTup s.heap t items) (hs : s.heap.IsSliceOf sl (.int 0 u) .none .none)
    (h : Q (.ref t) s) : wpAny (model prog w) A (getItem (.ref t) (.ref sl)) Q E s := by
  obtain ⟨os, hos, hcs, hds⟩ := id hs
  have hTs : s.TypeIs (.ref sl) "slice" := ⟨os, hos, hcs⟩
  unfold getItem
  try with_reducible refine wpAny_holding ?_
  first | refine wpAny_bind (wpAny_pure ?_) | skip
  refine wpAny_bind (wpAny_sequenceKey ht.typeIs (by decide) ?_)
  refine wpAny_bind (wpAny_callSpecial?_slot (name := Str.ofString "__getitem__") ht.typeIs slot_tuple_getitem
    (wpAny_call_entry slot_tuple_getitem ht.typeIs entry_tuple_getitem ?_ (args_tuple_getitem _ _)))
  show wpAny _ _ (Builtin.Tuple.tupleItemsOf (.ref t) >>= _) _ _ s
  refine wpAny_bind (tupleItemsOf_ ht ?_)
  refine wpAny_bind (wpAny_typeOf hTs ?_)
  rw [if_pos (by decide)]
  refine wpAny_bind (sliceApplied_from (a := 0) hs (Nat.zero_le _) ?_)
  show wpAny _ _ (if (((0 : Nat) : Int) == 0 && (1 : Int) == 1 && (items.size - 0) == items.size) = true then _ else _) _ _ s
  rw [if_pos (by simp)]
  have hT := ht.typeIs
  unfold Builtin.Tuple.tupleIsExact
  refine wpAny_bind (wpAny_bind (wpAny_typeOf hT (wpAny_pure ?_)))
  rw [if_pos (by rfl)]
  first
    | exact wpAny_bind (wpAny_rule (wpAny_pure ⟨_, rfl, wpAny_pure h⟩))
    | exact wpAny_pure ⟨_, rfl, wpAny_pure h⟩
    | skip
end

section
variable {X : Fix} (O : FixOK X) {g : GW} {A : Around} {s : Shared} {σ : Sto} (R : HR X g σ s.heap) {E : Value → Shared → Prop}
include O R
set_option linter.unusedSectionVars false

theorem idx_facts {α : Type} {xs : List α} {i : Int} {j : Nat} (hl : okL xs = true) (h : idxP i xs.length = some j) : -(2 ^ 63) ≤ i ∧ i < 2 ^ 63 ∧ ((0 ≤ i ∧ j = i.toNat) ∨ (i < 0 ∧ -(xs.length : Int) ≤ i ∧ j = (i + xs.length).toNat)) := by
  have hl' := okL_le hl
  dsimp only [idxP] at h
  by_cases h0 : i < 0
  · simp only [h0, if_true] at h
    split at h
    · rename_i h1
      cases h
      simp only [Bool.and_eq_true, decide_eq_true_eq] at h1
      exact ⟨by (with_reducible exact Mine.ar31 (by assumption) (by assumption) (by assumption)), by (with_reducible exact Mine.ar32 (by assumption) (by assumption) (by assumption)), .inr ⟨h0, by (with_reducible exact Mine.ar33 (by assumption)), rfl⟩⟩
    · cases h
  · simp only [h0, if_false] at h
    split at h
    · rename_i h1
      cases h
      simp only [Bool.and_eq_true, decide_eq_true_eq] at h1
      exact ⟨by (with_reducible exact Mine.ar34 (by assumption)), by (with_reducible exact Mine.ar35 (by assumption) (by assumption)), .inl ⟨by (with_reducible exact Mine.ar36 (by assumption)), rfl⟩⟩
    · cases h

noncomputable def Subbed (s : Shared) (v : Value) : Prop := ∃ T id, s.TypeIs v T ∧ typeLookup (.type T) "__getitem__" = pure (some (.builtin id))

set_option tactic.hygienic false in
theorem pick_ok {xs : List PV} {i p : PV} {u : Value} (h : pickP xs i = some p) (r2 : RepV X g u i) : ∃ n t j, u = .int n t ∧ okL xs = true ∧ idxP n xs.length = some j ∧ xs[j]? = some p := by
  unfold pickP at h
  revert r2
  refine pintE h nS fun n h r2  => ifB h nS fun hl h  => ifE' h nS fun j hj h  => ?_
  obtain ⟨zz, rfl⟩ := r2.iI
  exact ⟨_, _, _, rfl, hl, hj, h⟩
set_option tactic.hygienic false in
theorem key_ok {l : List Env} {S : Addr → Prop} {o i p : PV} {v u : Value} {k : KV} (h : keyP X.T σ o i = some p) (hk : k p σ = true) (r1 : RepV X g v o) (r2 : RepV X g u i) :
    Subbed s v ∧ wpAny (model X.prog X.w) A (getItem v u) (VG X S l g s (RV X k)) E s := by
  unfold keyP at h
  revert r2
  refine pstrE h nS fun r0 h r2  => ifE' h nS fun z e h  => ?_
  subst h
  obtain ⟨a, kvs, x, t, rfl, rfl, hs, hd, v', hv, rv⟩ := dictGet_ok O R e r1 r2 ⟨_, rfl⟩
  exact ⟨⟨"dict", _, hd.mapOf.typeIs, slot_dict_getitem.lookup⟩, wpAny_getItem_of (strKind_is _ _ x t) hd.mapOf hv (vg_val O R rv hk _)⟩
set_option tactic.hygienic false in
theorem item_ok {l : List Env} {S : Addr → Prop} {o i p : PV} {v u : Value} {k : KV} (h : itemP X.T o i σ = some p) (hk : k p σ = true) (r1 : RepV X g v o) (r2 : RepV X g u i) :
    Subbed s v ∧ wpAny (model X.prog X.w) A (getItem v u) (VG X S l g s (RV X k)) E s := by
  cases o with
  | tup xs =>
    obtain ⟨n, tk, j, rfl, hl, hj, h⟩ := pick_ok O R h r2
    obtain ⟨a, vs, rfl, ht, q⟩ := RepV.isTuple R r1
    obtain ⟨x, hx, rx⟩ := q.get h
    obtain ⟨i1, i2, zz⟩ := idx_facts O R hl hj
    have l1 := q.length
    rw [Array.length_toList] at l1
    exact ⟨⟨"tuple", _, ht.typeIs, slot_tuple_getitem.lookup⟩, getItem_tuple ht i1 i2 (by rw [l1]; exact hj) (by rw [← Array.getElem?_toList]; exact hx) (vg_val O R rx hk _)⟩
  | lst c =>
    refine ifE' h nS ?_; clear h; intro xs e1 h
    obtain ⟨n, tk, j, rfl, hl, hj, h⟩ := pick_ok O R h r2
    obtain ⟨a, vs, rfl, zz, ht, q, zz⟩ := RepV.isList R r1 e1
    obtain ⟨x, hx, rx⟩ := q.get h
    obtain ⟨i1, i2, i3⟩ := idx_facts O R hl hj
    have l1 := q.length
    rw [Array.length_toList] at l1
    refine ⟨⟨"list", _, ht.typeIs, slot_list_getitem.lookup⟩, ?_⟩
    rcases i3 with ⟨i3, rfl⟩ | ⟨i3, i4, rfl⟩
    · exact wpAny_getItem_list ht i3 i2 (by rw [← Array.getElem?_toList]; exact hx) (vg_val O R rx hk _)
    · exact wpAny_getItem_list_neg ht i3 (by rw [l1]; exact i4) i1 (by rw [← Array.getElem?_toList, l1]; exact hx) (vg_val O R rx hk _)
  | old a => exact key_ok O R h hk r1 r2
  | dct ks vs => exact key_ok O R h hk r1 r2
  | _ => exact absN h

set_option tactic.hygienic false in
theorem part_ok {p : PV} {v : Value} {l : Option Int} (h : partP p = some l) (r : RepV X g v p) : ∃ q, v = partValue q ∧ q.map (·.1) = l := by
  cases p with
  | none => obtain rfl := r.iN; cases h; exact ⟨none, rfl, rfl⟩
  | int i => obtain ⟨t, rfl⟩ := r.iI; cases h; exact ⟨some (_, t), rfl, rfl⟩
  | _ => exact absN h
set_option tactic.hygienic false in
theorem slice_ok {l : List Env} {S : Addr → Prop} {o lo hi st : PV} {v a b c : Value} {k : KV} (h : sliceP o lo hi st σ k = true) (r : RepV X g v o) (ra : RepV X g a lo) (rb : RepV X g b hi) (rc : RepV X g c st) :
    Subbed { s with heap := s.heap.push { cls := .type "slice", data := .fields #[a, b, c] } } v ∧
    wpAny (model X.prog X.w) A (getItem v (.ref s.heap.objs.size)) (VG X S l g s (RV X k)) E { s with heap := s.heap.push { cls := .type "slice", data := .fields #[a, b, c] } } := by
  obtain ⟨t0, R', ho, n1, n2, n3⟩ := vg_new O R (l := l) (S := S) (o := { cls := .type "slice", data := .fields #[a, b, c] }) rfl
  unfold sliceP at h
  revert rc
  refine nilPE h fT ?_; clear h; intro h rc
  obtain rfl := rc.iN
  cases o with
  | tup xs =>
    revert ra
    refine pintE h fT ?_; clear h; intro i h ra
    revert rb
    refine nilPE h fT ?_; clear h; intro h rb; refine ifB h fT ?_; clear h; intro hc h; refine band3 hc ?_; clear hc; intro hl hi0 hle
    have hi0' : 0 ≤ i := of_decide_eq_true hi0
    have hle' := Nat.le_of_ble_eq_true hle
    obtain ⟨zz, rfl⟩ := ra.iI; obtain rfl := rb.iN
    obtain ⟨t, vs, rfl, ht, q⟩ := RepV.isTuple R' r
    have l1 := q.length
    rw [Array.length_toList] at l1
    refine ⟨⟨"tuple", _, ht.typeIs, slot_tuple_getitem.lookup⟩, ?_⟩
    by_cases hz : i.toNat = 0
    · have : i = 0 := by (with_reducible exact Mine.ar37 (by assumption) (by assumption))
      subst this
      refine getItem_tuple_all (s := { s with heap := s.heap.push { cls := .type "slice", data := .fields #[.int 0 _, .none, .none] } }) ht (Heap.IsSliceOf.new ..) ?_
      exact VG.base t0 (vg_val O R' (p := .tup xs) r (by simpa using h) _)
    · obtain ⟨n, rfl⟩ : ∃ n : Nat, i = n := ⟨i.toNat, by (with_reducible exact Mine.ar38 (by assumption))⟩
      have hn : ((n : Int)).toNat = n := by (with_reducible exact Mine.ar39)
      rw [hn] at h hle' hz
      refine getItem_tuple_from (s := { s with heap := s.heap.push { cls := .type "slice", data := .fields #[.int n _, .none, .none] } }) ht (Heap.IsSliceOf.new ..) (by (with_reducible exact Mine.ar40 (by assumption))) (by rw [l1]; exact hle') ?_ (by rw [l1, sizeLine_eq]; have := okL_le hl; (with_reducible exact Mine.ar16 (by assumption)))
      exact VG.base t0 (new_tuple O (s := { s with heap := s.heap.push { cls := .type "slice", data := .fields #[.int n _, .none, .none] } }) R' (vs := (vs.toList.drop n).toArray) (ps := xs.drop n) (by simpa using q.drop n) h _)
  | str x =>
    refine ifB h fT ?_; clear h; intro hc h; refine band2 hc ?_; clear hc; intro hl hok; refine ifE' h fT ?_; clear h; intro la ea h; refine ifE' h fT ?_; clear h; intro lb eb h
    obtain ⟨qa, rfl, ha⟩ := part_ok O R ea ra
    obtain ⟨qb, rfl, hb⟩ := part_ok O R eb rb
    obtain ⟨t, rfl⟩ := r.iS
    refine ⟨⟨"str", _, typeIs_str _ _ _, F.slot_str_getitem.lookup⟩, ?_⟩
    refine wpAny_getItem_str_slice (l := qa) (u := qb) (st := none) ⟨_, Heap.get?_push_size _ rfl, rfl, rfl⟩ rfl ?_
    have hp : slicePicked (mkS (den X.θ x)) qa qb none = Builtin.Str.strSliceIndices la lb 1 x.length := by
      unfold slicePicked
      rw [ha, hb, mkS_len, den_lit hl]; rfl
    refine ifB h fT ?_; clear h; intro hsz h
    unfold strCut at h hsz
    unfold sliceMade
    rw [hp, mkS_len, den_lit hl]
    dsimp only at h hsz
    by_cases hq : (Builtin.Str.strSliceIndices la lb 1 x.length).length == x.length
    · rw [if_pos hq] at h
      rw [if_pos (by rw [hq]; rfl)]
      exact VG.base t0 (vg_str O R' (r := x) (by rw [den_lit hl]) h _ _)
    · rw [if_neg hq] at h hsz
      rw [if_neg (by simpa using hq)]
      have hlit : litR ((Builtin.Str.strSliceIndices la lb 1 x.length).filterMap (x[·]?)) = true := by
        unfold litR
        rw [List.all_eq_true]
        intro y hy
        obtain ⟨j, zz, hj⟩ := List.mem_filterMap.mp hy
        exact (List.all_eq_true.mp hl) y (List.mem_of_getElem? hj)
      have hst : (⟨((Builtin.Str.strSliceIndices la lb 1 x.length).filterMap ((mkS x).cps[·]?)).toArray⟩ : Str) = mkS (den X.θ ((Builtin.Str.strSliceIndices la lb 1 x.length).filterMap (x[·]?))) := by
        rw [den_lit hlit]
        show (⟨_⟩ : Str) = ⟨_⟩
        congr 2
        congr 1
        funext j
        show x.toArray[j]? = x[j]?
        simp
      rw [hst]
      exact ⟨den_fits O hsz, VG.base t0 (vg_str O R' rfl h _ _)⟩
  | _ => exact absF h
end
end Mine
end
section
open PySem PySem.W PyProof.Rows PySem.Calls PySem.SeqAt
set_option maxRecDepth 100000
namespace Mine
structure Amb (X : Fix) (d : Nat) (A : Around) (fe : Env) (outer : List Env) (F : Addr) (c : Env) : Prop where
  fr : A.frames = some (fe :: outer)
  hd : A.handled = none
  fe : fe.frame = some F
  fc : c.frame = some F
  units : A.units + 16 * d + 100 ≤ cLine
  depth : A.depth + d ≤ 900

structure Wh (X : Fix) (ρ : Fr) (c : Env) (l : List Env) (g : GW) (σ : Sto) (s : Shared) : Prop where
  R : HR X g σ s.heap
  fs : FramesOK X g s.heap l
  fr : FrR X g ρ c s.heap
set_option tactic.hygienic false in
theorem Wh.step {X : Fix} {ρ : Fr} {c : Env} {l : List Env} {g g₁ : GW} {σ σ₁ : Sto} {s s₁ : Shared} (w : Wh X ρ c l g σ s) (t : To X noS l g s g₁ s₁) (R : HR X g₁ σ₁ s₁.heap) : Wh X ρ c l g₁ σ₁ s₁ :=
  ⟨R, w.fs.step t.st fun zz zz zz zz h  => h, w.fr.step t.st (fun h  => h) fun zz zz zz zz zz h  => h⟩
structure LvOK (X : Fix) (d : Nat) (L : Lvl) : Prop where
  ev : ∀ {A fe outer F c ρ g σ s} (_ : Amb X d A fe outer F c) (_ : Wh X ρ c (fe :: outer) g σ s) (e : Expr) (k : KV) (kx : KX), L.ev e ρ σ k kx = true →
    wpAny (model X.prog X.w) A (eval e c) (VG X noS (fe :: outer) g s (RV X k)) (PX X noS (fe :: outer) F g s kx) s
  tr : ∀ {A fe outer F c ρ g σ s} (_ : Amb X d A fe outer F c) (_ : Wh X ρ c (fe :: outer) g σ s) (e : Expr) (k : Bool → Sto → Bool) (kx : KX), L.tr e ρ σ k kx = true →
    wpAny (model X.prog X.w) A (isTrue e c (eval e c)) (VG X noS (fe :: outer) g s (RB k)) (PX X noS (fe :: outer) F g s kx) s

section
variable {α β : Type} {X : Fix} {S : Addr → Prop} {l : List Env} {F : Addr} {g g₁ : GW} {s s₁ : Shared} {kx : KX} {M : Model} {A : Around} {E : Value → Shared → Prop}
set_option tactic.hygienic false in
theorem vgo {t : Sem α} {R : α → GW → Sto → Heap → Prop} {Q : α → Shared → Prop} (h : wpAny M A t (VG X S l g s R) E s)
    (hQ : ∀ a g₁ σ₁ s₁, To X S l g s g₁ s₁ → HR X g₁ σ₁ s₁.heap → R a g₁ σ₁ s₁.heap → Q a s₁) : wpAny M A t Q E s :=
  wpAny_mono h (fun a s₁ ⟨g₁, σ₁, t, H, r⟩ => hQ a g₁ σ₁ s₁ t H r) fun zz zz e  => e
set_option tactic.hygienic false in
theorem vre {t : Sem α} {R : α → GW → Sto → Heap → Prop} (b : To X S l g s g₁ s₁) (h : wpAny M A t (VG X S l g₁ s₁ R) (PX X S l F g₁ s₁ kx) s₁) : wpAny M A t (VG X S l g s R) (PX X S l F g s kx) s₁ :=
  wpAny_mono h (fun zz zz q  => q.base b) fun zz zz q  => q.base b
set_option tactic.hygienic false in
theorem vreQ {t : Sem α} {Q : α → Shared → Prop} (b : To X S l g s g₁ s₁) (h : wpAny M A t Q (PX X S l F g₁ s₁ kx) s₁) : wpAny M A t Q (PX X S l F g s kx) s₁ :=
  wpAny_mono h (fun zz zz q  => q) fun zz zz q  => q.base b
end

set_option tactic.hygienic false in
theorem Amb.units_lt {X d A fe outer F c} (a : Amb X d A fe outer F c) : A.units + 64 < cLine := by have := a.units; (with_reducible exact Mine.ar19 (by assumption))

section
variable {X : Fix} (O : FixOK X) {d : Nat} {L : Lvl} (H : LvOK X d L) {A : Around} {fe : Env} {outer : List Env} {F : Addr} {c : Env} {ρ : Fr} {g : GW} {σ : Sto} {s : Shared} {kx : KX}
include O H

omit O H in
set_option tactic.hygienic false in
theorem starEach_cons {e : Expr} {r : List Expr} {c : Env} (h : noStar e = true) : starEach (e :: r) c = (false, eval e c) :: starEach r c := by
  cases e <;> first | rfl | (cases h; done)
omit O in
theorem evs_ok (am : Amb X d A fe outer F c) (pos : Pos) : ∀ (es : List Expr) {g σ s} (_ : Wh X ρ c (fe :: outer) g σ s) (k : List PV → Sto → Bool), evs L es ρ σ k kx = true →
      wpAny (model X.prog X.w) A (spliced (backTo pos (starEach es c))) (VG X noS (fe :: outer) g s (RL X k)) (PX X noS (fe :: outer) F g s kx) s
  | [], g, σ, s, w, k, h => spliced_nil ⟨g, σ, To.refl, w.R, [], .nil, h⟩
  | e :: r, g, σ, s, w, k, h => by
    dsimp only [evs] at h
    split at h
    · rename_i hs
      have e1 : backTo pos (starEach (e :: r) c) = (false, eval e c) :: backTo pos (starEach r c) := by
        rw [starEach_cons hs]; rfl
      rw [e1]
      refine spliced_cons (vgo (H.ev am w e _ kx h) fun v g₁ σ₁ s₁ t R₁ ⟨p, rp, hk⟩ => ?_)
      refine wpAny_mono (evs_ok am pos r (w.step t R₁) _ hk) (fun vs s₂ ⟨g₂, σ₂, t₂, R₂, ps, rps, hk₂⟩ => ?_) fun zz zz q  => q.base t
      exact ⟨g₂, σ₂, t.trans t₂, R₂, p :: ps, .cons (repV_mono t₂.st.gext rp) rps, hk₂⟩
    · cases h

omit H in
set_option tactic.hygienic false in
theorem const_ok {cst : Const} {x : Nat} {pos : Pos} {p : PV} {k : KV} (w : Wh X ρ c (fe :: outer) g σ s) (h : constP cst = some p) (hk : k p σ = true) {E : Value → Shared → Prop} :
    wpAny (model X.prog X.w) A (eval (.Constant cst x pos) c) (VG X noS (fe :: outer) g s (RV X k)) E s := by
  cases cst with
  | none => cases h; exact Constant_none (vg_val O w.R .none hk s.toks)
  | bool b => cases h; exact Constant_bool (vg_val O w.R (.bool _) hk s.toks)
  | int i =>
    cases h
    show wpAny _ _ (mkInt _) _ _ _
    exact wpAny_mkInt (vg_val O w.R (.int _ _) hk _)
  | str x =>
    refine ifB h nS ?_; clear h; intro hl h
    cases h
    exact Constant_str (vg_str O w.R (by rw [den_lit hl, mkS_toList]) hk _ _)
  | _ => exact absN h


omit H in
set_option tactic.hygienic false in
theorem glob_ns (R : HR X g σ s.heap) : ∃ es ep, (∃ o, X.T.K.lookup mainGlobals = some o ∧ o.data = .dict es ep) ∧ s.heap.Ns mainGlobals (nsFind es) ∧ StrKeys es := by
  obtain ⟨o, es, ep, h1, h2, h3⟩ := O.glob
  exact ⟨es, ep, ⟨o, h1, h2⟩, ⟨o, es, ep, R.frz _ _ (R.base _ _ (O.inK _ _ h1)), h2, h3, fun zz  => rfl⟩, h3⟩
omit O H in
set_option tactic.hygienic false in
theorem nsKeys {x : Str} : ∀ {es : List DictEntry}, (∀ e ∈ es, ∃ n t, e.key = .str n t) →
    es.find? (fun e  => match e.key with | .str s _ => eqS s x | _ => false) = es.find? fun e  => e.key.isStr x
  | [], _ => rfl
  | e :: r, h => by
    obtain ⟨n, t, hk⟩ := h e (.head _)
    rw [List.find?_cons, List.find?_cons, nsKeys fun e' h'  => h e' (.tail _ h'), hk]
    have : eqS n x = (Value.str n t).isStr x := by
      rw [eqS_iff]
      rfl
    dsimp only
    rw [this]
omit H in
set_option tactic.hygienic false in
theorem nsK_find {es : Array DictEntry} {ep : Nat} {x : Str} (h : ∃ o, X.T.K.lookup mainGlobals = some o ∧ o.data = .dict es ep) (hs : StrKeys es) : nsK X.T.K x = nsFind es x := by
  obtain ⟨⟨c, d, dt, sl⟩, h1, h2⟩ := h
  simp only at h2
  subst h2
  unfold nsK nsFind findBy
  rw [h1]
  dsimp only [ifS, dictD]
  refine (congrArg (Option.map (·.val)) (nsKeys fun e he  => hs e (Array.mem_toList_iff.mp he))).trans ?_
  rw [← Array.find?_toList]
omit O H in
set_option tactic.hygienic false in
theorem nameOk_ok {x : Str} (h : nameOk x = true) : (x == ("__debug__" : Str)) = false ∧ (x == ("__classdict__" : Str)) = false := by
  unfold nameOk at h
  rw [eqS_iff, eqS_iff] at h
  refine band2 h fun h1 h2  => ?_; clear h
  exact ⟨by simpa using h1, by simpa using h2⟩
omit O H in
set_option tactic.hygienic false in
theorem kind_of {x : Str} {k : NameKind} (fr : FrR X g ρ c s.heap) (e : lk x ρ.scope.names = some k) (hk : k ≠ .free) : c.kindOf x = some k := (fr.names _ _ e).resolve_right fun h  => hk h.1
omit H in
set_option tactic.hygienic false in
theorem name_val {cx : Cx} (hT : cx.T = X.T) {x : Str} {pos : Pos} {p : PV} (w : Wh X ρ c (fe :: outer) g σ s) (h : nameP cx x ρ = some p) :
    ∃ v, RepV X g v p ∧ ∀ (Q : Value → Shared → Prop) (E : Value → Shared → Prop), Q v s → wpAny (model X.prog X.w) A (eval (.Name x pos) c) Q E s := by
  refine ifB h nS fun hn h  => ifE' h nS fun k e h  => ?_
  obtain ⟨hd, hcl⟩ := nameOk_ok hn
  cases k with
  | «local» =>
    obtain ⟨m, hns, hm⟩ := w.fr.loc
    obtain ⟨v, hv, r⟩ := hm x p e h
    exact ⟨v, r, fun Q E hQ  => wpAny_Name (wpAny_loadName_local w.fr.kind (kind_of w.fr e nofun) hns hv hQ) hd⟩
  | cell =>
    obtain ⟨a, v, h1, h2, r, zz⟩ := w.fr.cell x p (.inl ⟨e, h⟩)
    exact ⟨v, r, fun Q E hQ  => wpAny_Name (wpAny_loadName_cell w.fr.kind (kind_of w.fr e nofun) h1 h2 hQ) hd⟩
  | free =>
    obtain ⟨a, v, h1, h2, r, zz⟩ := w.fr.cell x p (.inr ⟨e, h⟩)
    rcases w.fr.names _ _ e with hkd | ⟨zz, hkd⟩
    · exact ⟨v, r, fun Q E hQ  => wpAny_Name (wpAny_loadName_free w.fr.kind hkd h1 h2 hQ hcl) hd⟩
    · exact ⟨v, r, fun Q E hQ  => wpAny_Name (wpAny_loadName_cell w.fr.kind hkd h1 h2 hQ) hd⟩
  | globalImplicit =>
    refine ifE' h nS fun v hv h  => ?_
    rw [hT] at hv h
    obtain ⟨es, ep, h1, h2, h3⟩ := glob_ns O w.R
    rw [nsK_find O h1 h3] at hv
    exact ⟨v, ofV_ok O w.R _ h, fun Q E hQ  => Name_function_global w.fr.kind (kind_of w.fr e nofun) (loadGlobal_global (w.fr.glob ▸ h2) hv hQ) hd⟩
  | _ => exact absN h
omit H in
set_option tactic.hygienic false in
theorem name_ok {cx : Cx} (hT : cx.T = X.T) {x : Str} {pos : Pos} {p : PV} {k : KV} (w : Wh X ρ c (fe :: outer) g σ s) (h : nameP cx x ρ = some p) (hk : k p σ = true) {E : Value → Shared → Prop} :
    wpAny (model X.prog X.w) A (eval (.Name x pos) c) (VG X noS (fe :: outer) g s (RV X k)) E s := by
  obtain ⟨v, r, hv⟩ := name_val O hT w h
  exact hv _ _ (vg_val O w.R r hk _)
omit H in
set_option tactic.hygienic false in
theorem blt_ok {cx : Cx} (hT : cx.T = X.T) {x : Str} {pos : Pos} {b : String} {v : Value} {Q : Value → Shared → Prop} (w : Wh X ρ c (fe :: outer) g σ s) (h : isBlt cx x ρ b = true) (hb : bootBuiltins (Str.ofString b) = some v)
    (hn : (Str.ofString b == ("__debug__" : Str)) = false ∧ Str.ofString b ≠ "__name__") (hQ : Q v s) {E : Value → Shared → Prop} : wpAny (model X.prog X.w) A (eval (.Name x pos) c) Q E s := by
  unfold isBlt at h
  refine band2 h fun h1 h2  => ?_; clear h
  refine band2 h1 fun h3 h4  => ?_; clear h1
  have hx : x = Str.ofString b := by rw [eqS_iff] at h3; simpa using h3
  subst hx
  obtain ⟨es, ep, e1, e2, e3⟩ := glob_ns O w.R
  rw [hT, nsK_find O e1 e3] at h2
  obtain ⟨mb, hmb, hall⟩ := O.blt
  obtain ⟨o, es', ep', f1, f2⟩ := hmb
  exact Name_function_global w.fr.kind (kind_of w.fr (isGl_eq h4) nofun) (loadGlobal_builtin (w.fr.glob ▸ e2) (by simpa using h2) (w.fr.blt ▸ ⟨o, es', ep', w.R.frz _ _ (w.R.base _ _ f1), f2⟩) ((hall _ hn.2).trans hb) hQ) hn.1
end
end Mine
end
section
open PySem PySem.W PyProof.Rows PySem.Calls PySem.SeqAt
set_option maxRecDepth 100000
set_option linter.unusedSectionVars false
namespace Mine

section
variable {X : Fix} (O : FixOK X) {d : Nat} {L : Lvl} (H : LvOK X d L) {A : Around} {fe : Env} {outer : List Env} {F : Addr} {c : Env} {ρ : Fr} {g : GW} {σ : Sto} {s : Shared} {kx : KX}
include O H

omit O H in
set_option tactic.hygienic false in
theorem truth_end (O : FixOK X) {l : List Env} {g : GW} {s : Shared} {S : Addr → Prop} (R : HR X g σ s.heap) {p : PV} {v : Value} {b : Bool} {k : Bool → Sto → Bool} (r : RepV X g v p) (h : truthP σ p = some b) (hk : k b σ = true) {E : Value → Shared → Prop} :
    wpAny (model X.prog X.w) A (truthy v) (VG X S l g s (RB k)) E s := truth_ok O R h r fun zz  => ⟨g, σ, To.refl.toks _, R, hk⟩

omit O H in
set_option tactic.hygienic false in
theorem boolOp_nil {op : BoolOp} {k : KV} (h : evBool L ρ kx op [] σ k = true) : False := by cases h
theorem boolOp_ok (am : Amb X d A fe outer F c) {op : BoolOp} {pos : Pos} {k : KV} : ∀ (es : List Expr) {g σ s} (_ : Wh X ρ c (fe :: outer) g σ s), evBool L ρ kx op es σ k = true →
      wpAny (model X.prog X.w) A (eval (.BoolOp op es pos) c) (VG X noS (fe :: outer) g s (RV X k)) (PX X noS (fe :: outer) F g s kx) s
  | [], _, _, _, _, h => by cases h
  | [e], g, σ, s, w, h => BoolOp_one (H.ev am w e _ kx h)
  | e :: e' :: r, g, σ, s, w, h => by
    cases op with
    | And =>
      refine BoolOp_and (vgo (H.ev am w e _ kx h) fun v g₁ σ₁ s₁ t R₁ ⟨p, rp, hk⟩ => ifE' hk fT fun b hb hk => truth_ok O R₁ hb rp fun tk => ?_)
      cases b with
      | false => exact VG.base t (vg_val O R₁ rp hk tk)
      | true => exact vre (t.toks tk) (boolOp_ok am (e' :: r) (w.step (t.toks tk) R₁) hk)
    | Or =>
      refine BoolOp_or (vgo (H.ev am w e _ kx h) fun v g₁ σ₁ s₁ t R₁ ⟨p, rp, hk⟩ => ifE' hk fT fun b hb hk => truth_ok O R₁ hb rp fun tk => ?_)
      cases b with
      | true => exact VG.base t (vg_val O R₁ rp hk tk)
      | false => exact vre (t.toks tk) (boolOp_ok am (e' :: r) (w.step (t.toks tk) R₁) hk)

omit O H in
set_option tactic.hygienic false in
theorem truthy_b {b : Bool} {Q : Bool → Shared → Prop} {s : Shared} (h : Q b s) {E : Value → Shared → Prop} : wpAny (model X.prog X.w) A (truthy (.bool b)) Q E s := wpAny_truthy_bool h

set_option tactic.hygienic false in
theorem chainV_ok {cx : Cx} (hT : cx.T = X.T) (am : Amb X d A fe outer F c) {pos : Pos} {k : KV} {ops : List CmpOp} {rs : List Expr} {a : PV} {v : Value} (w : Wh X ρ c (fe :: outer) g σ s) (rv : RepV X g v a) (h : evChain cx L ρ kx a ops rs σ (fun b σ  => k (.bool b) σ) = true) :
      wpAny (model X.prog X.w) A (compareChain pos v ops (evalEach rs c)) (VG X noS (fe :: outer) g s (RV X k)) (PX X noS (fe :: outer) F g s kx) s := by
  dsimp only [evChain] at h
  refine oneE h fT fun op h  => oneE h fT fun r h  => ?_
  refine chain_last (vgo (H.ev am w r _ kx h) fun u g₁ σ₁ s₁ t R₁ ⟨p, rp, hk⟩ => ?_)
  refine ifE' hk fT fun b hb hk  => ?_
  rw [hT] at hb
  exact vre t (cmp_ok O R₁ am.units_lt hb (repV_mono t.st.gext rv) rp fun tk  => vg_val O R₁ (.bool b) hk tk)
set_option tactic.hygienic false in
theorem chainT_ok {cx : Cx} (hT : cx.T = X.T) (am : Amb X d A fe outer F c) {pos : Pos} {k : Bool → Sto → Bool} {ops : List CmpOp} {rs : List Expr} {a : PV} {v : Value} (w : Wh X ρ c (fe :: outer) g σ s) (rv : RepV X g v a) (h : evChain cx L ρ kx a ops rs σ k = true) :
      wpAny (model X.prog X.w) A (testChain pos v ops (evalEach rs c)) (VG X noS (fe :: outer) g s (RB k)) (PX X noS (fe :: outer) F g s kx) s := by
  unfold evChain at h
  refine oneE h fT fun op h  => oneE h fT fun r h  => ?_
  refine test_last (vgo (H.ev am w r _ kx h) fun u g₁ σ₁ s₁ t R₁ ⟨p, rp, hk⟩ => ?_)
  refine ifE' hk fT fun b hb hk  => ?_
  rw [hT] at hb
  exact cmp_ok O R₁ am.units_lt hb (repV_mono t.st.gext rv) rp fun tk  => truthy_b (VG.base t ⟨g₁, σ₁, To.refl.toks tk, R₁, hk⟩)

omit O H in
set_option tactic.hygienic false in
theorem marks_of {a b : Bool} (h : ¬ (a || b) = true) : a = false := by
  cases a with
  | false => rfl
  | true => exact absurd rfl h
set_option tactic.hygienic false in
theorem compare_ok {cx : Cx} (hT : cx.T = X.T) (am : Amb X d A fe outer F c) (w : Wh X ρ c (fe :: outer) g σ s) {e : Expr} {ops : List CmpOp} {rs : List Expr} {pos : Pos} {k : KV} (hm : lastMarks ops rs = false)
    (h : L.ev e ρ σ (fun a σ  => evChain cx L ρ kx a ops rs σ fun b σ  => k (.bool b) σ) kx = true) :
    wpAny (model X.prog X.w) A (eval (.Compare e ops rs pos) c) (VG X noS (fe :: outer) g s (RV X k)) (PX X noS (fe :: outer) F g s kx) s := by
  rw [arm_eval_Compare, markedEach_of_false _ _ _ hm]
  refine wpAny_bind (vgo (H.ev am w e _ kx h) fun v g₁ σ₁ s₁ t R₁ ⟨p, rp, hk⟩ => ?_)
  exact vre t (chainV_ok O H hT am (w.step t R₁) rp hk)
set_option tactic.hygienic false in
theorem compareT_ok {cx : Cx} (hT : cx.T = X.T) (am : Amb X d A fe outer F c) (w : Wh X ρ c (fe :: outer) g σ s) {e : Expr} {ops : List CmpOp} {rs : List Expr} {pos : Pos} {whole : Sem Value} {k : Bool → Sto → Bool} (hm : lastMarks ops rs = false)
    (h : L.ev e ρ σ (fun a σ  => evChain cx L ρ kx a ops rs σ k) kx = true) :
    wpAny (model X.prog X.w) A (isTrue (.Compare e ops rs pos) c whole) (VG X noS (fe :: outer) g s (RB k)) (PX X noS (fe :: outer) F g s kx) s := by
  rw [arm_isTrue_Compare, markedEach_of_false _ _ _ hm]
  refine wpAny_bind (vgo (H.ev am w e _ kx h) fun v g₁ σ₁ s₁ t R₁ ⟨p, rp, hk⟩ => ?_)
  exact vre t (chainT_ok O H hT am (w.step t R₁) rp hk)

set_option tactic.hygienic false in
theorem binop_ok (am : Amb X d A fe outer F c) (w : Wh X ρ c (fe :: outer) g σ s) {a b : Expr} {op : Operator} {pos : Pos} {k : KV} (h : L.ev a ρ σ (fun x σ  => L.ev b ρ σ (fun y σ  => binP op x y σ k) kx) kx = true) :
    wpAny (model X.prog X.w) A (eval (.BinOp a op b pos) c) (VG X noS (fe :: outer) g s (RV X k)) (PX X noS (fe :: outer) F g s kx) s := by
  refine wpAny_BinOp (vgo (H.ev am w a _ kx h) fun v g₁ σ₁ s₁ t R₁ ⟨p, rp, hk⟩ => ?_)
  refine vreQ t (vgo (H.ev am (w.step t R₁) b _ kx hk) fun u g₂ σ₂ s₂ t₂ R₂ ⟨q, rq, hk₂⟩ => ?_)
  exact vre (t.trans t₂) (bin_ok O R₂ hk₂ (repV_mono t₂.st.gext rp) rq)

set_option tactic.hygienic false in
theorem ifexp_ok (am : Amb X d A fe outer F c) (w : Wh X ρ c (fe :: outer) g σ s) {e a b : Expr} {pos : Pos} {k : KV} (h : L.tr e ρ σ (fun t σ  => if t then L.ev a ρ σ k kx else L.ev b ρ σ k kx) kx = true) :
    wpAny (model X.prog X.w) A (eval (.IfExp e a b pos) c) (VG X noS (fe :: outer) g s (RV X k)) (PX X noS (fe :: outer) F g s kx) s := by
  refine IfExp_ (vgo (H.tr am w e _ kx h) fun t g₁ σ₁ s₁ to R₁ hk  => ?_)
  have hk' : (if t = true then L.ev a ρ σ₁ k kx else L.ev b ρ σ₁ k kx) = true := hk
  cases t with
  | true => exact vre to (H.ev am (w.step to R₁) a _ kx hk')
  | false => exact vre to (H.ev am (w.step to R₁) b _ kx hk')

set_option tactic.hygienic false in
theorem tuple_ok (am : Amb X d A fe outer F c) (w : Wh X ρ c (fe :: outer) g σ s) {es : List Expr} {x1} {pos : Pos} {k : KV} (h : evs L es ρ σ (fun ps σ  => mkL ps fun ps  => k (.tup ps) σ) kx = true) :
    wpAny (model X.prog X.w) A (eval (.Tuple es x1 pos) c) (VG X noS (fe :: outer) g s (RV X k)) (PX X noS (fe :: outer) F g s kx) s := by
  refine wpAny_Tuple_spliced (vgo (evs_ok H am pos es w _ h) fun vs g₁ σ₁ s₁ t R₁ ⟨ps, rp, hk⟩ => ?_)
  refine ifB hk fT fun hl hk  => ?_
  · refine ⟨by rw [rp.length, sizeLine_eq]; have := okL_le hl; (with_reducible exact Mine.ar16 (by assumption)), VG.base t (new_tuple O R₁ (vs := vs.toArray) (by simpa using rp) hk _)⟩
set_option tactic.hygienic false in
theorem list_ok (am : Amb X d A fe outer F c) (w : Wh X ρ c (fe :: outer) g σ s) {es : List Expr} {pos : Pos} {k : KV} (h : evs L es ρ σ (fun ps σ  => mkL ps fun ps  => k (.lst σ.length) (σ ++ [ps])) kx = true) :
    wpAny (model X.prog X.w) A (eval (.List es pos) c) (VG X noS (fe :: outer) g s (RV X k)) (PX X noS (fe :: outer) F g s kx) s := by
  refine wpAny_List_spliced (vgo (evs_ok H am pos es w _ h) fun vs g₁ σ₁ s₁ t R₁ ⟨ps, rp, hk⟩ => ?_)
  refine ifB hk fT fun hl hk  => ?_
  · refine ⟨by rw [rp.length, sizeLine_eq]; have := okL_le hl; (with_reducible exact Mine.ar16 (by assumption)), VG.base t (new_list O R₁ (vs := vs.toArray) (by simpa using rp) hk _)⟩

omit O H in
theorem subscripted_ops (slice : Expr) (o i : Value) : ∃ ops, subscripted slice false o i = operate ops (getItem o i) := by
  cases slice with
  | Slice _ _ st _ => cases st with
    | none => exact ⟨_, rfl⟩
    | some => exact ⟨_, rfl⟩
  | _ => exact ⟨_, rfl⟩
set_option tactic.hygienic false in
theorem sub_ok {cx : Cx} (hT : cx.T = X.T) (am : Amb X d A fe outer F c) (w : Wh X ρ c (fe :: outer) g σ s) {a b : Expr} {pos : Pos} {k : KV} (h : L.ev a ρ σ (fun p σ  => L.ev b ρ σ (fun q σ  => ifS false (itemP cx.T p q σ) fun v  => k v σ) kx) kx = true) :
    wpAny (model X.prog X.w) A (eval (.Subscript a b pos) c) (VG X noS (fe :: outer) g s (RV X k)) (PX X noS (fe :: outer) F g s kx) s := by
  refine Subscript_ (vgo (H.ev am w a _ kx h) fun v g₁ σ₁ s₁ t R₁ ⟨p, rp, hk⟩ => ?_)
  refine vreQ t (vgo (H.ev am (w.step t R₁) b _ kx hk) fun u g₂ σ₂ s₂ t₂ R₂ ⟨q, rq, hk₂⟩ => ?_)
  refine ifE' hk₂ fT fun x hx hk₂  => ?_
  · rw [hT] at hx
    obtain ⟨⟨T, id, hty, hlk⟩, hw⟩ := item_ok O (A := A) (E := PX X noS (fe :: outer) F g s kx) (l := fe :: outer) (S := noS) R₂ hx hk₂ (repV_mono t₂.st.gext rp) rq
    obtain ⟨ops, hops⟩ := subscripted_ops b v u
    exact tail_any hty hlk (wpAny_mono hw (fun zz zz q  => (q.base t₂).base t) fun zz zz q  => q) hops

set_option tactic.hygienic false in
theorem opt_ok (am : Amb X d A fe outer F c) (w : Wh X ρ c (fe :: outer) g σ s) {e : Option Expr} {k : KV} (h : Mine.evOpt L e ρ σ k kx = true) :
    wpAny (model X.prog X.w) A (evalPart e c) (VG X noS (fe :: outer) g s (RV X k)) (PX X noS (fe :: outer) F g s kx) s := by
  cases e with
  | none => exact evalPart_none_step (vg_val O w.R .none h s.toks)
  | some e => exact evalPart_some_step (H.ev am w e _ kx h)
set_option tactic.hygienic false in
theorem slc_ok (am : Amb X d A fe outer F c) (w : Wh X ρ c (fe :: outer) g σ s) {a : Expr} {lo hi st : Option Expr} {pos pos' : Pos} {k : KV}
    (h : L.ev a ρ σ (fun p σ  => Mine.evOpt L lo ρ σ (fun l σ  => Mine.evOpt L hi ρ σ (fun h σ  => Mine.evOpt L st ρ σ (fun s σ  => sliceP p l h s σ k) kx) kx) kx) kx = true) :
    wpAny (model X.prog X.w) A (eval (.Subscript a (.Slice lo hi st pos') pos) c) (VG X noS (fe :: outer) g s (RV X k)) (PX X noS (fe :: outer) F g s kx) s := by
  refine Subscript_ (vgo (H.ev am w a _ kx h) fun v g₁ σ₁ s₁ t R₁ ⟨p, rp, hk⟩ => ?_)
  refine vreQ t (wpAny_Slice ?_)
  have w₁ := w.step t R₁
  refine vgo (opt_ok O H am w₁ hk) fun x1 g₂ σ₂ s₂ t₂ R₂ ⟨p1, r1, hk₂⟩ => ?_
  have w₂ := w₁.step t₂ R₂
  refine vreQ t₂ (vgo (opt_ok O H am w₂ hk₂) fun x2 g₃ σ₃ s₃ t₃ R₃ ⟨p2, r2, hk₃⟩ => ?_)
  have w₃ := w₂.step t₃ R₃
  refine vreQ (t₂.trans t₃) (vgo (opt_ok O H am w₃ hk₃) fun x3 g₄ σ₄ s₄ t₄ R₄ ⟨p3, r3, hk₄⟩ => ?_)
  have tt := (t₂.trans t₃).trans t₄
  obtain ⟨⟨T, id, hty, hlk⟩, hw⟩ := slice_ok O (A := A) (E := PX X noS (fe :: outer) F g s kx) (l := fe :: outer) (S := noS) R₄ hk₄ (repV_mono tt.st.gext rp) (repV_mono (t₃.trans t₄).st.gext r1) (repV_mono t₄.st.gext r2) r3
  obtain ⟨ops, hops⟩ := subscripted_ops (.Slice lo hi st pos') v (.ref s₄.heap.objs.size)
  refine tail_any hty hlk (wpAny_mono hw (fun zz zz q  => (q.base tt).base t) fun zz zz q  => q) hops
end
end Mine
end
section
open PySem PySem.W PyProof.Rows PySem.Calls PySem.SeqAt
set_option maxRecDepth 100000
set_option linter.unusedSectionVars false
namespace Mine

section
variable {M : Model} {A : Around} {E : Value → Shared → Prop} {s : Shared}
set_option tactic.hygienic false in
theorem evalArgs_all {f : Value} {l : List (Bool × Sem Value)} {Q : Args → Shared → Prop} (hl : l.any (·.1) = false)
    (h : wpAny M A (spliced l) (fun vs s'  => Q ⟨vs, []⟩ s') E s) : wpAny M A (evalArgs f true l []) Q E s := by
  cases l with
  | nil =>
    unfold evalArgs
    show wpAny M A (spliced [] >>= _) Q E s
    refine wpAny_bind (wpAny_mono h (fun vs s' h'  => ?_) fun zz zz x  => x)
    refine wpAny_holding ?_
    exact wpAny_bind (wpAny_pure (wpAny_bind (wpAny_pure (wpAny_pure h'))))
  | cons a r =>
    obtain ⟨b, x⟩ := a
    have hb : b = false := by simp at hl; exact hl.1
    subst hb
    exact evalArgs_plain h
set_option tactic.hygienic false in
theorem starEach_plain {c : Env} {pos : Pos} : ∀ {es : List Expr}, es.all noStar = true → (backTo pos (starEach es c)).any (·.1) = false ∧ (backTo pos (starEach es c)).all (fun x  => !x.1) = true
  | [], _ => ⟨rfl, rfl⟩
  | e :: r, h => by
    rw [List.all_cons, Bool.and_eq_true] at h
    obtain ⟨h1, h2⟩ := starEach_plain (c := c) (pos := pos) h.2
    rw [starEach_cons h.1]
    show ((false, eval e c) :: backTo pos (starEach r c)).any _ = false ∧ ((false, eval e c) :: backTo pos (starEach r c)).all _ = true
    rw [List.any_cons, List.all_cons, h1, h2]
    exact ⟨rfl, rfl⟩
set_option tactic.hygienic false in
theorem evs_noStar {L : Lvl} {ρ : Fr} {kx : KX} : ∀ {es : List Expr} {σ : Sto} {k : List PV → Sto → Bool}, es.all noStar = false → evs L es ρ σ k kx = true → True := fun zz zz  => trivial

set_option tactic.hygienic false in
theorem attributeBase_plain {o : Expr} {m : Str} {c : Env} {whole : Sem Value} (h : notCall o = true) : attributeBase o m c whole = whole := by
  cases o <;> first | rfl | (cases h; done)
end

section
variable {X : Fix} (O : FixOK X) {d : Nat} {L : Lvl} (H : LvOK X d L) {A : Around} {fe : Env} {outer : List Env} {F : Addr} {c : Env} {ρ : Fr} {g : GW} {σ : Sto} {s : Shared} {kx : KX}
include O H
set_option tactic.hygienic false in
theorem args_call (am : Amb X d A fe outer F c) (w : Wh X ρ c (fe :: outer) g σ s) {id : String} {first : List Value} {es : List Expr} {pos : Pos} {k : List PV → Sto → Bool} {Q : Value → Shared → Prop}
    (hs : es.all noStar = true) (h : evs L es ρ σ k kx = true)
    (hc : ∀ vs g₁ σ₁ s₁ ps, To X noS (fe :: outer) g s g₁ s₁ → HR X g₁ σ₁ s₁.heap → RepL X g₁ vs ps → k ps σ₁ = true → wpAny (model X.prog X.w) A (call (.builtin id) (first ++ vs)) Q (PX X noS (fe :: outer) F g s kx) s₁) :
    wpAny (model X.prog X.w) A (callWith pos (.builtin id) first (backTo pos (starEach es c)) []) Q (PX X noS (fe :: outer) F g s kx) s := by
  have hp := (starEach_plain (c := c) (pos := pos) hs).1
  refine callWith_builtin hp (evalArgs_all hp (vgo (evs_ok H am pos es w k h) fun vs g₁ σ₁ s₁ t R₁ ⟨ps, rp, hk⟩ => ?_))
  exact hc vs g₁ σ₁ s₁ ps t R₁ rp hk

omit H in
set_option tactic.hygienic false in
theorem list_facts (R : HR X g σ s.heap) {o : PV} {v : Value} {k : Nat → List PV → Bool} (r : RepV X g v o) (h : listP o σ k = true) :
    ∃ i a vs xs n, o = .lst i ∧ v = .ref a ∧ g.la[i]? = some a ∧ σ[i]? = some xs ∧ s.heap.get? a = some { cls := .type "list", data := .seq vs n } ∧ RepL X g vs.toList xs ∧ vs.size ≤ 4096 ∧ k i xs = true := by
  unfold listP at h
  revert r
  refine plstE h fT fun i h r  => ifE' h fT fun xs e h  => ifB h fT fun hl h  => ?_
  obtain ⟨a, vs, rfl, hi, zz, q, ⟨n, hp⟩⟩ := RepV.isList R r e
  have l1 := q.length
  rw [Array.length_toList] at l1
  exact ⟨i, a, vs, xs, n, rfl, rfl, hi, e, hp, q, by rw [l1]; exact okL_le hl, h⟩

omit H in
set_option tactic.hygienic false in
theorem set_end {l : List Env} {S : Addr → Prop} (R : HR X g σ s.heap) {i : Nat} {a : Addr} {vs : Array Value} {xs : List PV} {h' : Heap} {n : Nat} {k : KV} {v : Value} {p : PV} {tk : Nat} (hi : g.la[i]? = some a) (hs : Heap.SameBut a s.heap h')
    (ho : h'.get? a = some { cls := .type "list", data := .seq vs n }) (q : RepL X g vs.toList xs) (r : RepV X g v p) (hk : k p (σ.set i xs) = true) :
    VG X S l g s (RV X k) v { s with heap := h', toks := tk } :=
  ⟨g, σ.set i xs, ⟨Stp.setList (List.mem_of_getElem? hi) hs, rfl, rfl⟩, R.setList hi hs ⟨n, ho⟩ q, p, r, hk⟩

omit O H in
theorem join_ok {θ : Nat → List Nat} {g : GW} {X : Fix} {sep : List Nat} : ∀ {vs : List Value} {xs : List PV} {r : List Nat}, RepL X g vs xs → joinR sep xs = some r → ∃ ys, StrsAre vs ys ∧ Txt.join (mkS (den X.θ sep)) ys = mkS (den X.θ r) ∧ (ys.map (·.length)).sum + ys.length * (den X.θ sep).length ≤ (den X.θ r).length + (den X.θ sep).length
  | vs, [], _, q, h => by
    cases h
    obtain rfl := q.i0
    exact ⟨[], .nil, rfl, by simp⟩
  | vs, [p], r, q, h => by
    obtain ⟨v, rfl, a⟩ := q.one
    cases p with
    | str r0 =>
      obtain ⟨t, rfl⟩ := a.iS
      have hr : r0 = r := Option.some.inj h
      subst hr
      exact ⟨[mkS (den X.θ r0)], .cons _ _ .nil, rfl, by simp [mkS_len]⟩
    | _ => cases h
  | ws, p :: p' :: ps, r, q0, h => by
    obtain ⟨v, us, rfl, a, q1⟩ := q0.i1
    cases p with
    | str r0 =>
      obtain ⟨t, rfl⟩ := a.iS
      refine ifE' h nS fun r1 hj h => ?_
      obtain rfl := Option.some.inj h
      obtain ⟨ys, h1, h2, h3⟩ := join_ok (θ := θ) q1 hj
      obtain ⟨v', us', rfl, -, -⟩ := q1.i1
      cases h1 with
      | cons y t' h1' =>
        rename_i ys'
        refine ⟨mkS (den X.θ r0) :: y :: ys', .cons _ _ (.cons y t' h1'), ?_, ?_⟩
        · have ej : ∀ z zs, Txt.join z zs = Str.join z zs := StrLaws.glued_eq_join
          rw [ej, PyProof.Rows.join_cons_cons, ← ej, h2]
          rw [den_append, den_append]; simp only [← mkS_append, List.append_assoc]
        · rw [List.map_cons, List.sum_cons, den_append, den_append, List.length_append, List.length_append, mkS_len, List.length_cons, Nat.succ_mul]
          omega
    | _ => cases h

omit H in
set_option tactic.hygienic false in
theorem joinG_ok {g : GW} {sep : List Nat} {vs : List Value} {xs : List PV} {r : List Nat} (q : RepL X g vs xs) (h : joinG sep xs = some r) (hl : okL r = true) :
    ∃ ys, StrsAre vs ys ∧ Txt.join (mkS (den X.θ sep)) ys = mkS (den X.θ r) ∧ (ys.map (·.length)).sum + ys.length * (mkS (den X.θ sep)).length ≤ 16777216 := by
  refine ifB h nS fun hs h  => ?_
  obtain ⟨ys, y1, y2, y3⟩ := join_ok (X := X) (θ := X.θ) q h
  have hfit := den_len (fun i  => (O.th i).2) r
  have hfit2 := den_len (fun i  => (O.th i).2) sep
  have hfit0 := okL_le' hl
  have hs' := Nat.le_of_ble_eq_true hs
  exact ⟨ys, y1, y2, by rw [mkS_len]; omega⟩

omit O H in
set_option tactic.hygienic false in
theorem methK_name {m : Str} {mk : MK} (hm : methK m = some mk) : m = mkName mk := by
  have := List.find?_some hm
  rw [eqS_iff] at this
  exact eq_of_beq this

omit H in
set_option tactic.hygienic false in
theorem recv_list (R : HR X g σ s.heap) {p : PV} {v : Value} (r : RepV X g v p) (h : isLstIn σ p = true) :
    s.TypeIs v "list" ∧ ∀ a, v = .ref a → ∃ ob, s.heap.get? a = some ob ∧ ob.dict = none := by
  cases p with
  | lst i =>
    have hi : i < σ.length := by simpa [isLstIn] using h
    obtain ⟨a, vs, rfl, zz, zz, zz, n, ho⟩ := RepV.isList R r (List.getElem?_eq_getElem hi)
    exact ⟨⟨_, ho, rfl⟩, fun b e  => by cases e; exact ⟨_, ho, rfl⟩⟩
  | _ => cases h
noncomputable def CallM (X : Fix) (mk : MK) (id : String) : Prop := ∀ {A : Around} {g : GW} {σ : Sto} {s : Shared} {l : List Env} {E : Value → Shared → Prop} {v : Value} {p : PV} {vs : List Value} {ps : List PV} {k : KV}, HR X g σ s.heap → RepV X g v p → RepL X g vs ps → methP X.T mk p ps σ k = true →
  wpAny (model X.prog X.w) A (call (.builtin id) (v :: vs)) (VG X noS l g s (RV X k)) E s
noncomputable def RecvM (X : Fix) (mk : MK) (T : String) : Prop := ∀ {g : GW} {σ : Sto} {s : Shared} {p : PV} {v : Value}, HR X g σ s.heap → RepV X g v p → recvOk mk p σ = true → s.TypeIs v T ∧ ∀ a, v = .ref a → ∃ ob, s.heap.get? a = some ob ∧ ob.dict = none
structure MethG (X : Fix) (mk : MK) (T id : String) : Prop where
  plain : PlainAttrs T
  slot : Slot T (mkName mk) id
  type : typeOf (.builtin id) = pure (.type "method_descriptor")
  recv : RecvM X mk T
  call : CallM X mk id
set_option tactic.hygienic false in
theorem meth_go {cx : Cx} (hT : cx.T = X.T) (am : Amb X d A fe outer F c) (w : Wh X ρ c (fe :: outer) g σ s) {o : Expr} {m : Str} {apos pos : Pos} {args : List Expr} {mk : MK} {k : KV} (hg : methGood o apos pos args = true) (hm : methK m = some mk)
    (h : L.ev o ρ σ (fun p σ  => if recvOk mk p σ then evs L args ρ σ (fun ps σ  => methP cx.T mk p ps σ k) kx else false) kx = true) {T id : String} (G : MethG X mk T id) :
    wpAny (model X.prog X.w) A (eval (.Call (.Attribute o m apos) args [] pos) c) (VG X noS (fe :: outer) g s (RV X k)) (PX X noS (fe :: outer) F g s kx) s := by
  unfold methGood at hg
  refine band4 hg fun g1 g2 g3 g4  => ?_; clear hg
  have hfew : ((backTo pos (starEach args c)).all (fun x  => !x.1) && (backToKw pos (keywordEach [] c)).all (fun x  => x.1.isSome)
      && decide (args.length + ([] : List Keyword).length + (if ([] : List Keyword).isEmpty then 0 else 1) < 30)) = true := by
    rw [(starEach_plain g2).2]
    have : args.length < 29 := Nat.blt_eq ▸ g3
    exact decide_eq_true (p := args.length + 0 + 0 < 30) (ar41 this)
  obtain rfl := methK_name hm
  refine wpAny_Call_method (attributeBase_plain g1) hfew g4 G.plain G.slot G.type (vgo (H.ev am w o _ kx h) fun v g₁ σ₁ s₁ t R₁ ⟨p, rp, hk⟩ => ?_)
  refine ifB hk fT fun hr hk  => ?_
  obtain ⟨a1, a2⟩ := G.recv R₁ rp hr
  refine ⟨a1, a2, vre t (args_call O H am (w.step t R₁) g2 hk fun vs g₂ σ₂ s₂ ps t₂ R₂ rps hk₂  => ?_)⟩
  rw [hT] at hk₂
  exact vre t₂ (G.call R₂ (repV_mono t₂.st.gext rp) rps hk₂)
omit H in
set_option tactic.hygienic false in
theorem m_append : MethG X .append "list" "list.append" := ⟨PySem.F.plainAttrs_list, PySem.F.slot_list_append, PySem.F.type_list_append, fun R r h  => recv_list O R r h, fun R r rs h  => by
    obtain ⟨i, a, vs, xs, n, rfl, rfl, hi, e, ho, q, hz, h⟩ := list_facts O R r h
    revert rs
    refine oneE h fT fun p h rs  => ?_
    obtain ⟨v, rfl, rv⟩ := rs.one
    refine PyProof.Rows.append_at ho (fun h' hs ho'  => ?_) (by rw [sizeLine_eq]; (with_reducible exact Mine.ar16 (by assumption)))
    exact set_end O R hi hs ho' (by rw [Array.toList_push]; exact q.append (.cons rv .nil)) .none h⟩
omit H in
set_option tactic.hygienic false in
theorem m_extend : MethG X .extend "list" "list.extend" := ⟨PySem.F.plainAttrs_list, PySem.F.slot_list_extend, PySem.F.type_list_extend, fun R r h  => recv_list O R r h, fun R r rs h  => by
    obtain ⟨i, a, vs, xs, n, rfl, rfl, hi, e, ho, q, hz, h⟩ := list_facts O R r h
    revert rs
    refine oneE h fT fun p h rs  => ?_
    obtain ⟨v, rfl, rv⟩ := rs.one
    obtain ⟨j, b, us, ys, n', rfl, rfl, hj, e', ho', q', hz', h⟩ := list_facts O R rv h
    refine ifB h fT fun zz h  => ifB h fT fun hl h  => ?_
    refine call_meets PySem.F.slot_list_extend ⟨_, ho, rfl⟩ PySem.F.entry_list_extend (PySem.F.args_list_extend_2 _ _) (AutoSeq1.list_extend_list_list_0 a vs n b us n' ?_ (by rw [sizeLine_eq]; (with_reducible exact Mine.ar16 (by assumption))) (by rw [sizeLine_eq]; (with_reducible exact Mine.ar30 (by assumption) (by assumption)))) ⟨ho, ho', ?_⟩
    · unfold Builtin.List.listTooLong
      rw [sizeLine_eq]
      simp; omega
    · have e2 := Heap.get?_update_self (Obj.mapSeq fun x  => x ++ us) ho rfl
      exact set_end O R (vs := vs ++ us) hi (Heap.SameBut.update ..) (by rw [e2]; rfl) (by rw [Array.toList_append]; exact q.append q') .none h⟩
omit H in
set_option tactic.hygienic false in
theorem m_reverse : MethG X .reverse "list" "list.reverse" := ⟨PySem.F.plainAttrs_list, PySem.F.slot_list_reverse, PySem.F.type_list_reverse, fun R r h  => recv_list O R r h, fun R r rs h  => by
    obtain ⟨i, a, vs, xs, n, rfl, rfl, hi, e, ho, q, hz, h⟩ := list_facts O R r h
    revert rs
    refine nilE h fT fun h rs  => ?_
    obtain rfl := rs.i0
    refine call_meets PySem.F.slot_list_reverse ⟨_, ho, rfl⟩ PySem.F.entry_list_reverse (PySem.F.args_list_reverse_1 _) (AutoSeq1.list_reverse_list_0 a vs n (by rw [sizeLine_eq]; (with_reducible exact Mine.ar16 (by assumption)))) ⟨ho, ?_⟩
    have e2 := Heap.get?_update_self (Obj.mapSeq fun x  => x.reverse) ho rfl
    exact set_end O R (vs := vs.reverse) hi (Heap.SameBut.update ..) (by rw [e2]; rfl) (by rw [Array.toList_reverse]; exact q.reverse) .none h⟩
omit H in
set_option tactic.hygienic false in
theorem m_pop : MethG X .pop "list" "list.pop" := ⟨PySem.F.plainAttrs_list, PySem.F.slot_list_pop, PySem.F.type_list_pop, fun R r h  => recv_list O R r h, fun R r rs h  => by
    obtain ⟨i, a, vs, xs, n, rfl, rfl, hi, e, ho, q, hz, h⟩ := list_facts O R r h
    revert rs
    refine nilE h fT fun h rs  => ifE' h fT fun p hp h  => ?_
    obtain rfl := rs.i0
    have hp' : xs[xs.length - 1]? = some p := by rw [← List.getLast?_eq_getElem?]; exact hp
    obtain ⟨v, hv, rv⟩ := q.get hp'
    have l1 := q.length
    rw [Array.length_toList] at l1
    refine PyProof.Rows.Copied.pop_at (y := v) ho (by rw [← Array.getElem?_toList, l1]; exact hv) (fun h' hs ho'  => ?_) (by rw [sizeLine_eq]; (with_reducible exact Mine.ar16 (by assumption)))
    refine set_end O R hi hs ho' (xs := xs.dropLast) ?_ rv h
    rw [Array.toList_pop, List.dropLast_eq_take, List.dropLast_eq_take, Array.length_toList, l1]
    exact q.take _⟩
omit O H in
set_option tactic.hygienic false in
theorem recv_str {s : Shared} {p : PV} {v : Value} (r : RepV X g v p) (h : isStrP p = true) : s.TypeIs v "str" ∧ ∀ a, v = .ref a → ∃ ob, s.heap.get? a = some ob ∧ ob.dict = none := by
  cases p with
  | str r0 => obtain ⟨zz, rfl⟩ := r.iS; exact ⟨typeIs_str _ _ _, fun a e  => nomatch e⟩
  | _ => exact absF h
omit H in
set_option tactic.hygienic false in
theorem m_join : MethG X .join "str" "str.join" := ⟨PySem.F.plainAttrs_str, PySem.F.slot_str_join, PySem.F.type_str_join, fun R r h  => recv_str r h, fun R r rs h  => by
    revert r
    refine pstrE h fT fun r0 h r  => ?_
    revert rs
    refine oneE h fT fun p h rs  => ?_
    obtain ⟨v, rfl, rv⟩ := rs.one
    obtain ⟨i, a, vs, xs, n, rfl, rfl, hi, e, ho, q, hz, h⟩ := list_facts O R rv h
    refine ifE' h fT fun z hz' h  => ifB h fT fun hl h  => ?_
    obtain ⟨t, rfl⟩ := r.iS
    obtain ⟨ys, y1, y2, y3⟩ := joinG_ok O q hz' hl
    exact PyProof.Rows.join_list (ys := ys) ⟨_, ho, rfl, n, rfl⟩ y1 y3 fun t' k'  => vg_str O R y2 h _ _⟩
omit O H in
set_option tactic.hygienic false in
theorem isD {p : PV} {v : Value} (R : HR X g σ s.heap) (r : RepV X g v p) (h : isDct p = true) : ∃ a o, v = .ref a ∧ s.heap.get? a = some o ∧ o.cls = .type "dict" ∧ o.dict = none := by
  cases r with
  | dct e1 e2 => obtain ⟨es, ep, x, zz⟩ := e2; exact ⟨_, _, rfl, R.frz _ _ e1, x.1, x.2.1⟩
  | dcti e1 e2 => obtain ⟨es, ep, x, zz⟩ := e2; exact ⟨_, _, rfl, R.frz _ _ e1, x.1, x.2.1⟩
  | _ => exact absF h
omit H in
set_option tactic.hygienic false in
theorem m_get : MethG X .get "dict" "dict.get" := ⟨PySem.F.plainAttrs_dict, PySem.F.slot_dict_get, PySem.F.type_dict_get, fun R r h  => by
    obtain ⟨a, o, rfl, h1, h2, h3⟩ := isD R r h
    exact ⟨⟨o, h1, h2⟩, fun b e  => by cases e; exact ⟨o, h1, h3⟩⟩, fun {A g σ s l E v p vs ps k} R r rs h => by
    revert rs
    refine twoE h fT fun q1 q2 h rs  => ?_
    revert rs
    refine pstrE h fT fun r0 h rs  => ifB h fT fun hd h  => ifE' h fT fun z e h  => ?_
    obtain ⟨v1, v2, rfl, a, b⟩ := rs.two
    obtain ⟨a1, o1, rfl, ho1, hc1, zz⟩ := isD R r hd
    obtain ⟨a', kvs, x, t, ev, rfl, hs, hdd, hv⟩ := dictGet_ok O R e r a ⟨_, rfl⟩
    cases ev
    refine call_meetsIn PySem.F.slot_dict_get ⟨o1, ho1, hc1⟩ PySem.F.entry_dict_get (PySem.F.args_dict_get_3 _ _ _) (meets_dict_get_default (knd := PySem.strKind _ _) _ (hkey := strKind_is _ _ x t) (hd := hs) (dflt := _)) ⟨_, hdd.mapOf, ?_⟩
    cases z with
    | some z =>
      obtain ⟨v', hv, rv⟩ := hv
      rw [hv]
      exact vg_val O R rv h _
    | none =>
      rw [show valueAt kvs x = none from hv]
      exact vg_val O R b h _⟩
set_option tactic.hygienic false in
theorem meth_ok {cx : Cx} (hT : cx.T = X.T) (am : Amb X d A fe outer F c) (w : Wh X ρ c (fe :: outer) g σ s) {o : Expr} {m : Str} {apos pos : Pos} {args : List Expr} {mk : MK} {k : KV} (hg : methGood o apos pos args = true) (hm : methK m = some mk)
    (h : L.ev o ρ σ (fun p σ  => if recvOk mk p σ then evs L args ρ σ (fun ps σ  => methP cx.T mk p ps σ k) kx else false) kx = true) :
    wpAny (model X.prog X.w) A (eval (.Call (.Attribute o m apos) args [] pos) c) (VG X noS (fe :: outer) g s (RV X k)) (PX X noS (fe :: outer) F g s kx) s := by
  cases mk with
  | append => exact meth_go O H hT am w hg hm h (m_append O)
  | extend => exact meth_go O H hT am w hg hm h (m_extend O)
  | reverse => exact meth_go O H hT am w hg hm h (m_reverse O)
  | pop => exact meth_go O H hT am w hg hm h (m_pop O)
  | join => exact meth_go O H hT am w hg hm h (m_join O)
  | get => exact meth_go O H hT am w hg hm h (m_get O)
end
end Mine
end
section
open PySem PySem.W PyProof.Rows PySem.Calls PySem.SeqAt
set_option maxRecDepth 100000
set_option linter.unusedSectionVars false
namespace Mine

noncomputable def PlainF (f : Value) : Prop := (∃ id, f = .builtin id) ∨ ∃ T, f = .type T
set_option tactic.hygienic false in
theorem callWith_plain {M : Model} {A : Around} {E : Value → Shared → Prop} {s : Shared} {pos : Pos} {f : Value} {first : List Value} {args : List (Bool × Sem Value)} {Q : Value → Shared → Prop} (hf : PlainF f) (hplain : args.any (·.1) = false)
    (h : wpAny M A (spliced args) (fun vs s₁  => wpAny M A (call f (first ++ vs) []) Q E s₁) E s) : wpAny M A (callWith pos f first args []) Q E s := by
  rcases hf with ⟨id, rfl⟩ | ⟨T, rfl⟩
  · exact callWith_builtin hplain (evalArgs_all hplain h)
  · exact PyProof.Rows.callWith_type hplain (evalArgs_all hplain h)

section
variable {X : Fix} (O : FixOK X) {d : Nat} {L : Lvl} (H : LvOK X d L) {A : Around} {fe : Env} {outer : List Env} {F : Addr} {c : Env} {ρ : Fr} {g : GW} {σ : Sto} {s : Shared} {kx : KX}
include O H

set_option tactic.hygienic false in
theorem args_plain (am : Amb X d A fe outer F c) (w : Wh X ρ c (fe :: outer) g σ s) {f : Value} {first : List Value} {es : List Expr} {pos : Pos} {k : List PV → Sto → Bool} {Q : Value → Shared → Prop} (hf : PlainF f)
    (hs : es.all noStar = true) (h : evs L es ρ σ k kx = true)
    (hc : ∀ vs g₁ σ₁ s₁ ps, To X noS (fe :: outer) g s g₁ s₁ → HR X g₁ σ₁ s₁.heap → RepL X g₁ vs ps → k ps σ₁ = true → wpAny (model X.prog X.w) A (call f (first ++ vs)) Q (PX X noS (fe :: outer) F g s kx) s₁) :
    wpAny (model X.prog X.w) A (callWith pos f first (backTo pos (starEach es c)) []) Q (PX X noS (fe :: outer) F g s kx) s := by
  have hp := (starEach_plain (c := c) (pos := pos) hs).1
  exact callWith_plain hf hp (vgo (evs_ok H am pos es w k h) fun vs g₁ σ₁ s₁ t R₁ ⟨ps, rp, hk⟩ => hc vs g₁ σ₁ s₁ ps t R₁ rp hk)
set_option tactic.hygienic false in
theorem blt_call {cx : Cx} (hT : cx.T = X.T) (am : Amb X d A fe outer F c) (w : Wh X ρ c (fe :: outer) g σ s) {x : Str} {p pos : Pos} {b : String} {v : Value} {es : List Expr} {k : List PV → Sto → Bool} {Q : Value → Shared → Prop}
    (hb : isBlt cx x ρ b = true) (hv : bootBuiltins (Str.ofString b) = some v) (hn : (Str.ofString b == ("__debug__" : Str)) = false ∧ Str.ofString b ≠ "__name__") (hf : PlainF v) (hs : es.all noStar = true) (h : evs L es ρ σ k kx = true)
    (hc : ∀ vs g₁ σ₁ s₁ ps, To X noS (fe :: outer) g s g₁ s₁ → HR X g₁ σ₁ s₁.heap → RepL X g₁ vs ps → k ps σ₁ = true → wpAny (model X.prog X.w) A (call v vs) Q (PX X noS (fe :: outer) F g s kx) s₁) :
    wpAny (model X.prog X.w) A (eval (.Call (.Name x p) es [] pos) c) Q (PX X noS (fe :: outer) F g s kx) s :=
  PyProof.Rows.Call_Name rfl (blt_ok O hT w hb hv hn (args_plain O H (first := []) am w hf hs h fun vs g₁ σ₁ s₁ ps t R₁ rp hk  => hc vs g₁ σ₁ s₁ ps t R₁ rp hk))

omit O H in
set_option tactic.hygienic false in
theorem rep1 {g : GW} {vs : List Value} {p : PV} (r : RepL X g vs [p]) : ∃ v, vs = [v] ∧ RepV X g v p := r.one
omit O H in
set_option tactic.hygienic false in
theorem rep2 {g : GW} {vs : List Value} {p q : PV} (r : RepL X g vs [p, q]) : ∃ v u, vs = [v, u] ∧ RepV X g v p ∧ RepV X g u q := r.two

omit H in
set_option tactic.hygienic false in
theorem len_ok {l : List Env} {S : Addr → Prop} (R : HR X g σ s.heap) {p : PV} {v : Value} {n : Nat} {k : KV} (r : RepV X g v p) (h : lenP σ p = some n) (hk : k (.int n) σ = true) {E : Value → Shared → Prop} :
    wpAny (model X.prog X.w) A (call (.builtin "len") [v]) (VG X S l g s (RV X k)) E s := by
  cases p with
  | tup xs =>
    refine ifB h nS ?_; clear h; intro hl h
    cases h
    obtain ⟨a, vs, rfl, ht, q⟩ := RepV.isTuple R r
    have l1 := q.length
    rw [Array.length_toList] at l1
    have := okL_le hl
    refine PyProof.Rows.len_tuple ht (by (with_reducible exact Mine.ar26 (by assumption) (by assumption))) ?_
    rw [l1]; exact vg_val O R (.int _ _) hk _
  | lst i =>
    refine ifE' h nS ?_; clear h; intro xs e h; refine ifB h nS ?_; clear h; intro hl h
    cases h
    obtain ⟨a, vs, rfl, zz, ht, q, zz⟩ := RepV.isList R r e
    have l1 := q.length
    rw [Array.length_toList] at l1
    have := okL_le hl
    refine PyProof.Rows.len_list ht (by (with_reducible exact Mine.ar26 (by assumption) (by assumption))) ?_
    rw [l1]; exact vg_val O R (.int _ _) hk _
  | _ => exact absN h

omit O H in
theorem allP_ok {g : GW} : ∀ {vs : List Value} {xs : List PV} {b : Bool}, RepL X g vs xs → allP xs = some b → ∃ bs : List Bool, vs = bs.map Value.bool ∧ bs.all id = b
  | _, [], _, q, h => by obtain rfl := q.i0; cases h; exact ⟨[], rfl, rfl⟩
  | _, p :: ps, b, q, h => by
    obtain ⟨v, vs, rfl, a, q'⟩ := q.i1
    cases p with
    | bool c =>
      dsimp only [allP] at h
      split at h
      · rename_i b' e
        cases h
        obtain ⟨bs, rfl, e2⟩ := allP_ok q' e
        obtain rfl := a.iB
        exact ⟨c :: bs, rfl, by rw [List.all_cons, e2]; rfl⟩
      · cases h
    | _ => cases h
omit H in
set_option tactic.hygienic false in
theorem kept_end {α : Type} {l : List Env} {S : Addr → Prop} (R : HR X g σ s.heap) {h' : Heap} {tk : Nat} {RR : α → GW → Sto → Heap → Prop} {a : α} (hk : ∀ b o, s.heap.get? b = some o → h'.get? b = some o) (hs : s.heap.objs.size ≤ h'.objs.size) (r : RR a g σ h') :
    VG X S l g s RR a { s with heap := h', toks := tk } :=
  ⟨g, σ, ⟨Stp.heap hs fun b o e zz zz zz  => hk b o e, rfl, rfl⟩, R.heap fun b o e zz  => hk b o e, r⟩
omit H in
set_option tactic.hygienic false in
theorem all_ok {l : List Env} {S : Addr → Prop} (hh : A.handled = none) (R : HR X g σ s.heap) {i : Nat} {xs : List PV} {v : Value} {b : Bool} {k : KV} (r : RepV X g v (.lst i)) (e : σ[i]? = some xs) (h : allP xs = some b) (hk : k (.bool b) σ = true) {E : Value → Shared → Prop} :
    wpAny (model X.prog X.w) A (call (.builtin "all") [v]) (VG X S l g s (RV X k)) E s := by
  obtain ⟨a, vs, rfl, zz, hl, q, n, ho⟩ := RepV.isList R r e
  have hlt : a < s.heap.objs.size := Heap.lt_size ho
  obtain ⟨bs, hbs, hall⟩ := allP_ok q h
  refine wpAny_mono (wpAny_sized (Q := fun v s'  => ∃ h' tk, v = .bool b ∧ s' = { s with heap := h', toks := tk } ∧ ∀ b o, s.heap.get? b = some o → h'.get? b = some o) (E := E) (call_all_walk (wpAny_pyIter_list hl ?_)))
    (fun v s' ⟨⟨h', tk, e1, e2, kp⟩, hs⟩ => ?_) fun zz zz q  => q.1
  rotate_left
  · subst e1; subst e2
    exact kept_end O R kp hs ⟨_, .bool b, hk⟩
  refine ⟨s.heap.objs.size, [s.heap.objs.size, a], [s.heap.objs.size], vs.size, _, _, fun i  => (bs[i]?).getD true, rfl, Walks.list (A := A.in1) hh _ a (Nat.ne_of_lt hlt) vs,
    ⟨⟨_, Heap.get?_push_size _ rfl, rfl, rfl⟩, hl.push _⟩, fun i v s' Q' E' hP hQ  => ?_, fun h' tk hk'  => ?_⟩
  · have hP' : vs.toList[i]? = some v := by rw [Array.getElem?_toList]; exact hP
    rw [hbs, List.getElem?_map] at hP'
    cases hbi : bs[i]? with
    | none => rw [hbi] at hP'; cases hP'
    | some c =>
      rw [hbi] at hP'; cases hP'
      simp only [hbi, Option.getD_some] at hQ
      exact wpAny_truthy_bool hQ
  · have hsz : vs.size = bs.length := by rw [← Array.length_toList, hbs, List.length_map]
    have e2 : ((List.range vs.size).all fun i  => (bs[i]?).getD true) = b := by
      rw [← hall, hsz]
      clear hbs hall hsz hk'
      rw [Bool.eq_iff_iff, List.all_eq_true, List.all_eq_true]
      constructor
      · intro h x hx
        obtain ⟨i, hi, rfl⟩ := List.getElem_of_mem hx
        have := h i (List.mem_range.mpr hi)
        simpa [hi] using this
      · intro h i hi
        have hi' := List.mem_range.mp hi
        have := h bs[i] (List.getElem_mem hi')
        simpa [hi'] using this
    rw [e2]
    have kp : ∀ b o, s.heap.get? b = some o → h'.get? b = some o := fun b x e  => hk' b x (fun hm  => by rw [List.mem_singleton.mp hm] at e; exact Nat.lt_irrefl _ (Heap.lt_size e)) (Heap.get?_push_of_some _ e)
    exact ⟨h', tk, rfl, rfl, kp⟩

omit H in
set_option tactic.hygienic false in
theorem listOf_ok {l : List Env} {S : Addr → Prop} (R : HR X g σ s.heap) {xs : List PV} {v : Value} {k : KV} (r : RepV X g v (.tup xs)) (hl : okL xs = true) (hk : k (.lst σ.length) (σ ++ [xs]) = true) {E : Value → Shared → Prop} :
    wpAny (model X.prog X.w) A (call (.type "list") [v]) (VG X S l g s (RV X k)) E s := by
  obtain ⟨a, vs, rfl, ⟨o, ho, hc, n, hd⟩, q⟩ := RepV.isTuple R r
  have l1 := q.length
  rw [Array.length_toList] at l1
  have := okL_le hl
  refine wpAny_mono (wpAny_sized (Q := fun v s'  => ∃ h' c', v = .ref s.heap.objs.size ∧ s' = { s with heap := h' } ∧ (∀ b o, s.heap.get? b = some o → h'.get? b = some o) ∧ h'.get? s.heap.objs.size = some { cls := .type "list", data := .seq vs c' }) (E := E)
    (call_list_seq a (.inr rfl) ho hc hd (fun h' c' hk hD  => ⟨h', c', rfl, rfl, hk, hD⟩) (by rw [sizeLine_eq]; (with_reducible exact Mine.ar17 (by assumption) (by assumption))))) (fun v s' ⟨⟨h', c', e1, e2, kp, hD⟩, hs⟩ => ?_) fun zz zz q  => q.1
  subst e1; subst e2
  have R' : HR X g σ h' := R.heap fun b o e zz  => kp b o e
  obtain ⟨n1, n2, n3⟩ := R.fresh (Nat.le_refl s.heap.objs.size)
  obtain ⟨R'', r''⟩ := R'.newList (a := s.heap.objs.size) (vs := vs) (xs := xs) ⟨c', hD⟩ q n1 n2 n3
  exact ⟨_, _, ⟨(Stp.heap hs fun b o e zz zz zz  => kp b o e).newList (Nat.le_refl _), rfl, rfl⟩, R'', _, r'', hk⟩
noncomputable def CallB (X : Fix) (f : Value) (run : List PV → Sto → KV → Bool) : Prop := ∀ {A : Around} {g : GW} {σ : Sto} {s : Shared} {l : List Env} {E : Value → Shared → Prop} {vs : List Value} {ps : List PV} {k : KV}, A.handled = none → HR X g σ s.heap → RepL X g vs ps → run ps σ k = true →
  wpAny (model X.prog X.w) A (call f vs) (VG X noS l g s (RV X k)) E s
structure BltG (X : Fix) (b : String × (List PV → Sto → KV → Bool)) (v : Value) : Prop where
  boot : bootBuiltins (Str.ofString b.1) = some v
  name : (Str.ofString b.1 == ("__debug__" : Str)) = false ∧ Str.ofString b.1 ≠ "__name__"
  plain : PlainF v
  call : CallB X v b.2
noncomputable def BltL (X : Fix) : List (String × (List PV → Sto → KV → Bool)) → Prop
  | [] => True
  | b :: r => (∃ v, BltG X b v) ∧ BltL X r
omit H in
set_option tactic.hygienic false in
theorem b_len : BltG X ("len", blLen) (.builtin "len") := ⟨boot_len, by decide, .inl ⟨_, rfl⟩, fun hh R rp h  => by
    revert rp
    refine oneE h fT fun p h rp  => ifE' h fT fun n hn h  => ?_
    obtain ⟨v, rfl, r⟩ := rp.one
    exact len_ok O R r hn h⟩
omit H in
set_option tactic.hygienic false in
theorem b_str : BltG X ("str", blStr) (.type "str") := ⟨PyProof.Rows.boot_str, by decide, .inr ⟨_, rfl⟩, fun hh R rp h  => by
    revert rp
    refine oneE h fT fun p h  => pintE h fT fun i h rp  => ifB h fT fun hn h  => band2 hn fun hn hlit  => ?_
    obtain ⟨v, rfl, r⟩ := rp.one
    obtain ⟨zz, rfl⟩ := r.iI
    refine P.str_of_int ?_ (vg_str O R (r := intText i) (by rw [den_lit hlit]; exact (mkS_toList _).symm) h _ _)
    have hn' : i.natAbs < 1000000 := by simpa using hn
    by_cases h0 : i.natAbs = 0
    · rw [h0]; decide
    · exact Nat.lt_of_lt_of_le (Nat.log2_lt h0 |>.mpr (Nat.lt_of_lt_of_le hn' (by decide : 1000000 ≤ 2 ^ 20))) (by decide)⟩
omit H in
set_option tactic.hygienic false in
theorem b_abs : BltG X ("abs", blAbs) (.builtin "abs") := ⟨PyProof.Rows.boot_abs, by decide, .inl ⟨_, rfl⟩, fun hh R rp h  => by
    revert rp
    refine oneE h fT fun p h  => pintE h fT fun i h rp  => ?_
    obtain ⟨v, rfl, r⟩ := rp.one
    obtain ⟨zz, rfl⟩ := r.iI
    refine PyProof.Rows.call_abs_int fun u tk  => ?_
    have e : (if i < 0 then -i else i) = ((i.natAbs : Nat) : Int) := by split <;> omega
    rw [e]; exact vg_val O R (.int _ _) h _⟩
omit H in
set_option tactic.hygienic false in
theorem b_all : BltG X ("all", blAll) (.builtin "all") := ⟨PyProof.Rows.boot_all, by decide, .inl ⟨_, rfl⟩, fun hh R rp h  => by
    revert rp
    refine oneE h fT fun p h  => plstE h fT fun i h rp  => ifE' h fT fun xs e h  => ifE' h fT fun b hb h  => ?_
    obtain ⟨v, rfl, r⟩ := rp.one
    exact all_ok O hh R r e hb h⟩
omit H in
set_option tactic.hygienic false in
theorem b_list : BltG X ("list", blList) (.type "list") := ⟨PyProof.Rows.boot_list, by decide, .inr ⟨_, rfl⟩, fun hh R rp h  => by
    revert rp
    refine oneE h fT fun p h  => ptupE h fT fun xs h rp  => ifB h fT fun hl h  => ?_
    obtain ⟨v, rfl, r⟩ := rp.one
    exact listOf_ok O R r hl h⟩
omit H in
set_option tactic.hygienic false in
theorem b_int : BltG X ("int", blInt) (.type "int") := ⟨PyProof.Rows.boot_int, by decide, .inr ⟨_, rfl⟩, fun {A g σ s l E vs ps k} hh R rp h => by
    revert rp
    refine oneE h fT fun p h rp  => ?_
    obtain ⟨v, rfl, r⟩ := rp.one
    cases p with
    | int i => obtain ⟨zz, rfl⟩ := r.iI; exact call_int_int (vg_val O R (.int _ _) h s.toks)
    | bool b => obtain rfl := r.iB; exact call_int_bool (vg_val O R (.int _ _) h _)
    | _ => exact absF h⟩
omit H in
set_option tactic.hygienic false in
theorem b_dm : BltG X ("divmod", blDm) (.builtin "divmod") := ⟨PyProof.Rows.boot_divmod, by decide, .inl ⟨_, rfl⟩, fun {A g σ s l E vs ps k} hh R rp h => by
    revert rp
    refine twoE h fT fun p q h rp  => ?_
    obtain ⟨v, u, rfl, r1, r2⟩ := rp.two
    obtain ⟨a, b, t, t', rfl, rfl, h⟩ := arI_ok O R h r1 r2
    refine ifB h fT fun hp h  => band2 hp fun h1 h2  => ?_
    have h1' := of_decide_eq_true h1
    refine PyProof.Rows.divmod_int (by (with_reducible exact Mine.ar25 (by assumption))) ?_ (.inl (PyProof.noPylong_small (by simpa using h2)))
    exact new_tuple O R (vs := #[.int (a.fdiv b) s.toks, .int (a.fmod b) (s.toks + 1)]) (.cons (.int _ _) (.cons (.int _ _) .nil)) h _⟩
set_option tactic.hygienic false in
theorem bltG_ok {cx : Cx} (hT : cx.T = X.T) (am : Amb X d A fe outer F c) (w : Wh X ρ c (fe :: outer) g σ s) {f : Str} {p pos : Pos} {es : List Expr} {k : KV} (hs : es.all noStar = true) {l : List (String × (List PV → Sto → KV → Bool))} (hl : BltL X l) (h : bltG cx L f es ρ σ k kx l = true) :
    wpAny (model X.prog X.w) A (eval (.Call (.Name f p) es [] pos) c) (VG X noS (fe :: outer) g s (RV X k)) (PX X noS (fe :: outer) F g s kx) s := by
  induction l with
  | nil => exact absF h
  | cons b r ih =>
    obtain ⟨⟨v, G⟩, hl⟩ := hl
    refine iteS h (fun hb h  => ?_) (fun zz h  => ih hl h)
    exact blt_call O H hT am w hb G.boot G.name G.plain hs h fun vs g₁ σ₁ s₁ ps t R₁ rp hk  => vre t (G.call am.hd R₁ rp hk)
set_option tactic.hygienic false in
theorem bltP_ok {cx : Cx} (hT : cx.T = X.T) (am : Amb X d A fe outer F c) (w : Wh X ρ c (fe :: outer) g σ s) {f : Str} {p pos : Pos} {es : List Expr} {k : KV} (hs : es.all noStar = true) (h : bltP cx L f es ρ σ k kx = true) :
    wpAny (model X.prog X.w) A (eval (.Call (.Name f p) es [] pos) c) (VG X noS (fe :: outer) g s (RV X k)) (PX X noS (fe :: outer) F g s kx) s :=
  bltG_ok O H hT am w hs (l := blts) ⟨⟨_, b_len O⟩, ⟨_, b_str O⟩, ⟨_, b_abs O⟩, ⟨_, b_all O⟩, ⟨_, b_list O⟩, ⟨_, b_int O⟩, ⟨_, b_dm O⟩, trivial⟩ h
end
end Mine
end
section
open PySem PySem.W PyProof.Rows PySem.Calls PySem.SeqAt
set_option maxRecDepth 100000
set_option linter.unusedSectionVars false
namespace Mine

/-! "".join(reversed(a list)) -/
set_option tactic.hygienic false in
theorem lri_nolen : typeLookup (.type "list_reverseiterator") "__len__" = pure none := by rw [typeLookup_type, builtinLookup_eq_fast]; kernel_rfl
set_option tactic.hygienic false in
theorem lri_hint : typeLookup (.type "list_reverseiterator") "__length_hint__" = pure (some (.builtin "list_reverseiterator.__length_hint__")) := by rw [typeLookup_type, builtinLookup_eq_fast]; kernel_rfl

section
variable {prog : Program} {w : World} {A : Around} {E : Value → Shared → Prop} {s : Shared} {I : Addr} {fp wr : List Addr} {G : Array GenState → Array GenState → Prop} {n : Nat} {P : Nat → Value → Prop} {St : Nat → Shared → Prop}
set_option tactic.hygienic false in
theorem lri_hint_false {Q : Bool → Shared → Prop} (hT : s.TypeIs (.ref I) "list_reverseiterator") (h : Q false s) : wpAny (model prog w) A (Builtin.List.listLengthHint (.ref I)) Q E s := by
  unfold Builtin.List.listLengthHint
  refine wpAny_bind (wpAny_specialOf hT lri_nolen ?_)
  show wpAny _ A (specialOf (Value.ref I) (Str.ofString "__length_hint__") >>= _) _ _ _
  refine wpAny_bind (wpAny_specialOf hT lri_hint ?_)
  generalize hid : ("list_reverseiterator.__length_hint__" : String) = id0
  (fail_if_success (clear hid id0)); wp_delta
  rw [show splitId id0 = some ("list_reverseiterator", "__length_hint__") from by subst hid; decide +kernel]
  subst hid
  refine wpAny_bind (wpAny_isInstance (b := true) hT (by rw [isSubtype_type]; kernel_rfl) ?_)
  exact wpAny_pure h
set_option tactic.hygienic false in
theorem collect_rev {Q : List Value → Shared → Prop} (W : WalksS prog w A.in1 I fp wr G n P St) (hT : ∀ i s, St i s → s.TypeIs (.ref I) "list_reverseiterator") (hst : St 0 s) (hfp : ∀ b ∈ fp, b < s.heap.objs.size) (hI : I ∈ fp)
    (hQ : ∀ s' acc, Moved wr G s s' → ItemsOf P acc n → Q acc.toList s') (hn : n ≤ sizeLine) : wpAny (model prog w) A (collect (.ref I)) Q E s := by
  have hSf : s.heap.objs.size ∉ fp := fun hm  => Nat.lt_irrefl _ (hfp _ hm)
  have hSI : s.heap.objs.size ≠ I := fun e  => hSf (e ▸ hI)
  have hst₁ := W.frame 0 s (s.heap.push { cls := .type "list", data := .seq ([] : List Value).toArray }) s.toks hst (Nat.le_refl _) fun b zz o e  => Heap.get?_push_of_some _ e
  have hS₁ : (s.heap.push { cls := .type "list", data := .seq ([] : List Value).toArray }).get? s.heap.objs.size = some { cls := .type "list", data := .seq ([] : List Value).toArray } := Heap.get?_push_size _ rfl
  have h1 : Builtin.List.listSameRef (.ref s.heap.objs.size) (.ref I) = false := by simp [Builtin.List.listSameRef, hSI]
  unfold collect
  refine wpAny_bind (wpAny_runValue (codeAny_builtin F.entry_proto_collect ?_))
  rw [Around.under_plainId F.plain_proto_collect _]
  show wpAny _ A.in1 (newList [] >>= fun l  => again (.builtin "list.__iadd__" ⟨[l, .ref I], []⟩)) _ _ s
  refine wpAny_bind (wpAny_newObj_type ?_)
  refine wpAny_pure ⟨plainId_quiet F.plain_list_iadd _, codeAny_builtin F.entry_list_iadd ?_⟩
  rw [Around.under_plainId F.plain_list_iadd _]
  show wpAny _ A.in1 (Builtin.List.listExtendWith (.ref s.heap.objs.size) (.ref I) (.ref s.heap.objs.size)) _ _ _
  unfold Builtin.List.listExtendWith
  refine wpAny_bind (wpAny_typeOf (hT 0 _ hst₁) ?_)
  rw [if_neg (by rw [h1]; decide)]
  refine wpAny_bind (W.self 0 _ _ _ hst₁ ?_)
  refine wpAny_bind (wpAny_holding (lri_hint_false (hT 0 _ hst₁) ?_))
  rw [if_neg (by decide)]
  refine wpAny_pure ⟨plainId_quiet F.plain_extend_loop _, codeAny_extend_loopS W hn _ hSf _ n 0 _ _ _ rfl (Nat.zero_le _) hst₁ hS₁ (ItemsOf.nil P) fun s' acc' c' hm hS' hacc  => ?_⟩
  show wpAny _ A (load s.heap.objs.size >>= _) _ _ s'
  refine wpAny_bind (wpAny_load hS' ?_)
  exact wpAny_pure (hQ s' acc' (Moved.drop_new (o := { cls := .type "list", data := .seq ([] : List Value).toArray }) (tk := s.toks) hm (Nat.le_refl _)) hacc)
set_option tactic.hygienic false in
theorem join_rev {x : Str} {t : Tok} {Q : Value → Shared → Prop} (W : WalksS prog w A.in1.in1 I fp wr G n P St) (hT : ∀ i s, St i s → s.TypeIs (.ref I) "list_reverseiterator") (hst : St 0 s) (hfp : ∀ b ∈ fp, b < s.heap.objs.size) (hI : I ∈ fp)
    (hstr : ∀ i v, P i v → ∃ y u, v = Value.str y u)
    (hq : ∀ s' (l : List (Str × Tok)), Moved wr G s s' → ItemsOf P (strValues l).toArray n → JoinOk x (l.map (·.1)) = true ∧ ∀ t' k, Q (.str (Txt.join x (l.map (·.1))) t') { s' with toks := k })
    (hsz : n ≤ sizeLine) : wpAny (model prog w) A (call (.builtin "str.join") [.str x t, .ref I]) Q E s := by
  refine wpAny_call (codeAny_call_builtin F.slot_str_join.plain F.entry_str_join (F.slot_str_join.check _ _ _ _ _ _ _ _ (typeIs_str _ _ _) (F.args_str_join_2 _ _) ?_))
  rw [join_tree_other]
  refine wpAny_bind (wpAny_typeOf (hT 0 s hst) ?_)
  show wpAny _ A.in1 ((pyIter (.ref I)).tryCatch _ >>= fun it  => collect it >>= fun items  => joinTail x items) _ _ s
  refine wpAny_bind (wpAny_tryCatch (W.of_in1.self 0 s _ _ hst ?_))
  refine wpAny_bind (collect_rev W hT hst hfp hI (fun s' acc hm hacc  => ?_) hsz)
  obtain ⟨l, hl⟩ := exists_strValues acc.toList fun v hv  => by
    obtain ⟨j, hj, rfl⟩ := Array.mem_iff_getElem.mp (Array.mem_toList_iff.mp hv)
    exact hstr j _ (hacc.2 j _ (Array.getElem?_eq_getElem hj))
  rw [← hl]
  have hacc' : ItemsOf P (strValues l).toArray n := by rw [hl]; simpa using hacc
  obtain ⟨hok, hpost⟩ := hq s' l hm hacc'
  unfold JoinOk at hok
  rw [Bool.not_eq_true'] at hok
  have g : Gives (joinTail x (strValues l)) (joinMade x l) := by
    have g0 := gives_joinTail x l hok
    cases l with
    | nil => exact g0
    | cons p r => cases r <;> exact g0
  exact g prog w A (wants Q E) s' (post_join l ⟨joinFit_length hok, hpost⟩)
end

section
variable {X : Fix} (O : FixOK X) {d : Nat} {L : Lvl} (H : LvOK X d L) {A : Around} {fe : Env} {outer : List Env} {F : Addr} {c : Env} {ρ : Fr} {g : GW} {σ : Sto} {s : Shared} {kx : KX}
include O H

omit O H in
set_option tactic.hygienic false in
theorem strsOf : ∀ {l : List (Str × Tok)} {vs : List Value} {ys : List Str}, strValues l = vs → StrsAre vs ys → l.map (·.1) = ys
  | [], _, _, rfl, h => by cases h; rfl
  | (y, t) :: l, _, _, rfl, h => by
    have h' : StrsAre (.str y t :: strValues l) _ := h
    cases h' with
    | cons _ _ r => rw [List.map_cons, strsOf rfl r]

omit O H in
set_option tactic.hygienic false in
theorem strsMem : ∀ {vs : List Value} {ys : List Str} {v : Value}, StrsAre vs ys → v ∈ vs → ∃ y u, v = Value.str y u
  | [], _, _, _, h => by cases h
  | v :: vs, _, _, q, h => by
    cases q with
    | cons y t r =>
      rcases List.mem_cons.mp h with rfl | h
      · exact ⟨_, _, rfl⟩
      · exact strsMem r h
omit H in
theorem joinRev_ok {l : List Env} {S : Addr → Prop} (hh : A.handled = none) (R : HR X g σ s.heap) {v u : Value} {r0 : List Nat} {q0 : PV} {k : KV} (rv : RepV X g v (.str r0)) (ru : RepV X g u q0)
    (h : (listP q0 σ fun zz xs  => ifS false (joinG r0 xs.reverse) fun s  => mkR s fun s  => k (.str s) σ) = true) {E : Value → Shared → Prop} :
    ∃ a vs, u = .ref a ∧ s.heap.IsList a vs ∧ wpAny (model X.prog X.w) A (call (.builtin "str.join") [v, .ref s.heap.objs.size]) (VG X S l g s (RV X k)) E { s with heap := s.heap.push (revObj a ((vs.size : Int) - 1)) } := by
  obtain ⟨i, a, vs, xs, n, rfl, rfl, hi, e, ho, q, hz, h⟩ := list_facts O R ru h
  refine ⟨a, vs, rfl, ⟨_, ho, rfl, n, rfl⟩, ?_⟩
  split at h
  · rename_i z hz'
    dsimp only [mkR] at h
    split at h
    · rename_i hl
      obtain ⟨t, rfl⟩ := rv.iS
      have qr := q.reverse
      obtain ⟨ys, y1, y2, y3⟩ := joinG_ok O qr hz' hl
      have hlt : a < s.heap.objs.size := Heap.lt_size ho
      have hne : a ≠ s.heap.objs.size := Nat.ne_of_lt hlt
      have hL : Heap.IsList (s.heap.push (revObj a ((vs.size : Int) - 1))) a vs := ⟨_, Heap.get?_push_of_some _ ho, rfl, n, rfl⟩
      have hit : (s.heap.push (revObj a ((vs.size : Int) - 1))).IsRevIter s.heap.objs.size a ((vs.size : Int) - 1 - ((0 : Nat) : Int)) := ⟨_, Heap.get?_push_size _ rfl, rfl, by simp [revObj]⟩
      refine wpAny_mono (wpAny_sized (Q := fun v s'  => ∃ h' t' k', v = .str (Txt.join (mkS (den X.θ r0)) ys) t' ∧ s' = { s with heap := h', toks := k' } ∧ ∀ b o, s.heap.get? b = some o → h'.get? b = some o) (E := E)
        (join_rev (s := { s with heap := s.heap.push (revObj a ((vs.size : Int) - 1)) }) (Walks.listRev (A := A.in1.in1) hh s.heap.objs.size a hne vs).toS (fun i s' hs  => hs.2.1.typeIs) ⟨Nat.zero_le _, hit, hL⟩ ?_ (by simp) ?_ ?_ (by rw [sizeLine_eq]; (with_reducible exact Mine.ar16 (by assumption))))) (fun v s' ⟨⟨h', t', k', e1, e2, kp⟩, hs⟩ => ?_) fun zz zz q  => q.1
      · intro b hb
        show b < (s.heap.push _).objs.size
        rw [Heap.size_push]
        simp at hb
        rcases hb with rfl | rfl
        · exact Nat.lt_succ_self _
        · exact Nat.lt_succ_of_lt hlt
      · intro j v hv
        have : v ∈ vs.toList.reverse := by rw [List.mem_reverse]; exact Array.mem_toList_iff.mpr (Array.mem_of_getElem? hv)
        exact strsMem y1 this
      · intro s' l' hm hacc
        have hl' : strValues l' = vs.toList.reverse := by
          apply List.ext_getElem?
          intro j
          have hsz : (strValues l').length = vs.size := by simpa using hacc.1
          by_cases hj : j < vs.size
          · have h1 := hacc.2 j ((strValues l')[j]'(by (with_reducible exact Mine.ar42 (by assumption) (by assumption)))) (by simp)
            have h1' : vs[vs.size - 1 - j]? = some ((strValues l')[j]'(by (with_reducible exact Mine.ar42 (by assumption) (by assumption)))) := h1
            rw [List.getElem?_eq_getElem (by (with_reducible exact Mine.ar42 (by assumption) (by assumption))), List.getElem?_reverse (by rw [Array.length_toList]; exact hj), Array.getElem?_toList, ← h1', Array.length_toList]
          · rw [List.getElem?_eq_none (by (with_reducible exact Mine.ar43 (by assumption) (by assumption))), List.getElem?_eq_none (by rw [List.length_reverse, Array.length_toList]; (with_reducible exact Mine.ar44 (by assumption)))]
        have e2 := strsOf hl' y1
        rw [e2]
        refine ⟨joinOk_of y3, fun t' k'  => ⟨s'.heap, t', k', rfl, ?_, fun b o e  => ?_⟩⟩
        · obtain ⟨zz, hg, hd, hos, zz⟩ := hm
          cases s'
          simp only at hg hd hos
          subst hg; subst hd; subst hos
          rfl
        · exact hm.heap b o (fun hb  => by rw [List.mem_singleton.mp hb] at e; exact Nat.lt_irrefl _ (Heap.lt_size e)) (Heap.get?_push_of_some _ e)
      · subst e1; subst e2
        refine kept_end O R kp (Nat.le_trans ?_ hs) ⟨_, .str t' y2, h⟩
        show s.heap.objs.size ≤ (s.heap.push _).objs.size
        rw [Heap.size_push]; exact Nat.le_succ _
    · cases h
  · cases h

set_option tactic.hygienic false in
theorem joinRevE_ok {cx : Cx} (hT : cx.T = X.T) (am : Amb X d A fe outer F c) (w : Wh X ρ c (fe :: outer) g σ s) {o a : Expr} {m : Str} {apos pos : Pos} {args : List Expr} {k : KV} (hg : methGood o apos pos args = true) (hm : methK m = some .join) (hr : revArg cx ρ args = some a)
    (h : L.ev o ρ σ (fun p σ  => pstrK false p fun r  => L.ev a ρ σ (fun q σ  => listP q σ fun zz xs  => ifS false (joinG r xs.reverse) fun s  => mkR s fun s  => k (.str s) σ) kx) kx = true) :
    wpAny (model X.prog X.w) A (eval (.Call (.Attribute o m apos) args [] pos) c) (VG X noS (fe :: outer) g s (RV X k)) (PX X noS (fe :: outer) F g s kx) s := by
  unfold revArg at hr
  refine oneE hr nS ?_; clear hr; intro e hr; refine call0E hr nS ?_; clear hr; intro gg as ks pc hr; refine nilE hr nS ?_; clear hr; intro hr; refine nameE hr nS ?_; clear hr; intro f pf hr; refine oneE hr nS ?_; clear hr; intro a' hr; refine ifB hr nS ?_; clear hr; intro hb hr
  obtain rfl := Option.some.inj hr; clear hr
  refine band2 hb fun hb1 hb2  => ?_; clear hb
  unfold methGood at hg
  refine band4 hg fun g1 g2 g3 g4  => ?_; clear hg
  obtain rfl := methK_name hm; clear hm
  refine wpAny_Call_method (attributeBase_plain g1) rfl g4 PySem.F.plainAttrs_str PySem.F.slot_str_join PySem.F.type_str_join (vgo (H.ev am w o _ kx h) fun v g₁ σ₁ s₁ t R₁ ⟨p, rp, hk⟩ => ?_)
  revert rp
  refine pstrE hk fT ?_; clear hk; intro r0 hk rp
  refine ⟨(recv_str rp rfl).1, (recv_str rp rfl).2, ?_⟩
  have w₁ := w.step t R₁
  have hev : evs L [a'] ρ σ₁ (fun ps σ  => oneK false ps fun q  => listP q σ fun zz xs  => ifS false (joinG r0 xs.reverse) fun s  => mkR s fun s  => k (.str s) σ) kx = true := by
    rw [evs, if_pos hb2]; exact hk
  refine callWith_plain (.inl ⟨_, rfl⟩) rfl (spliced_cons ?_)
  refine vreQ t (blt_call O H hT am w₁ hb1 PyProof.Rows.boot_reversed (by decide) (.inr ⟨_, rfl⟩) (by rw [List.all_cons, hb2]; rfl) hev fun vs g₂ σ₂ s₂ ps t₂ R₂ rps hk₂  => ?_)
  revert rps
  refine oneE hk₂ fT ?_; clear hk₂; intro q hk₂ rps
  obtain ⟨u, rfl, ru⟩ := rps.one
  obtain ⟨b, us, rfl, hl, hj⟩ := joinRev_ok O (l := fe :: outer) (S := noS) am.hd R₂ (repV_mono t₂.st.gext rp) ru hk₂ (E := PX X noS (fe :: outer) F g s kx)
  refine call_reversed_list hl (spliced_nil ?_)
  exact wpAny_mono hj (fun zz zz q  => (q.base t₂).base t) fun zz zz q  => q

/-! dict displays -/
noncomputable def RD (X : Fix) (k : List PV → List PV → Sto → Bool) : List (Value × Value) → GW → Sto → Heap → Prop := fun vs g σ _ =>
  ∃ kvs qs, Carries (PySem.strKind X.prog X.w) vs kvs ∧ (∀ kv ∈ kvs, litR kv.1.cps.toList = true) ∧ RepL X g (kvs.map (·.2)) qs ∧ k (kvs.map fun kv => PV.str kv.1.cps.toList) qs σ = true
omit O in
theorem pairs_ok (am : Amb X d A fe outer F c) (pos : Pos) : ∀ (ks : List (Option Expr)) (vs : List Expr), ks.length = vs.length → ks.all (·.isSome) = true → ∀ {g σ s} (_ : Wh X ρ c (fe :: outer) g σ s) (k : List PV → List PV → Sto → Bool), evDict L ks vs ρ σ k kx = true →
      wpAny (model X.prog X.w) A (evalPairs (pairTrees ks vs c pos)) (VG X noS (fe :: outer) g s (RD X k)) (PX X noS (fe :: outer) F g s kx) s
  | [], [], _, _, g, σ, s, w, k, h => by
    refine evalPairs_nil ⟨g, σ, To.refl, w.R, [], [], trivial, (fun zz h  => by cases h), RepL.nil, h⟩
  | [], _ :: _, hl, _, _, _, _, _, _, _ => by cases hl
  | _ :: _, [], hl, _, _, _, _, _, _, _ => by cases hl
  | none :: _, _ :: _, _, ha, _, _, _, _, _, _ => by cases ha
  | some e :: ks, v :: vs, hl, ha, g, σ, s, w, k, h => by
    refine evalPairs_cons (vgo (H.ev am w e _ kx h) fun kv g₁ σ₁ s₁ t R₁ ⟨p, rp, hk⟩ => ?_)
    have w₁ := w.step t R₁
    dsimp only at hk
    split at hk
    · rename_i hlit
      refine wpAny_bind (vreQ t (vgo (H.ev am w₁ v _ kx hk) fun vv g₂ σ₂ s₂ t₂ R₂ ⟨q, rq, hk₂⟩ => ?_))
      have w₂ := w₁.step t₂ R₂
      refine wpAny_bind (wpAny_standAt (wpAny_pure ?_))
      refine wpAny_mono (pairs_ok am pos ks vs (by simpa using hl) (by simpa using ha) w₂ _ hk₂) (fun ws s₃ ⟨g₃, σ₃, t₃, R₃, kvs, qs, c1, c2, c3, c4⟩ => ?_) fun zz zz q  => (q.base t₂).base t
      cases p with
      | str r0 =>
        obtain ⟨tk, rfl⟩ := rp.iS
        have hl0 : litR r0 = true := hlit
        refine ⟨g₃, σ₃, (t.trans t₂).trans t₃, R₃, (mkS r0, vv) :: kvs, q :: qs, ⟨?_, rfl, c1⟩, fun kv hkv  => ?_, ?_, c4⟩
        · rw [den_lit hl0]; exact strKind_is _ _ _ _
        · rcases List.mem_cons.mp hkv with rfl | hkv
          · exact hl0
          · exact c2 kv hkv
        · exact .cons (repV_mono t₃.st.gext rq) c3
      | _ => cases hlit
    · cases hk

omit O H in
set_option tactic.hygienic false in
theorem distinct_nodup {σ : Sto} : ∀ {kvs : List (Str × Value)}, (∀ kv ∈ kvs, litR kv.1.cps.toList = true) → distinctK σ (kvs.map fun kv  => PV.str kv.1.cps.toList) = true → (kvs.map (·.1)).Nodup
  | [], _, _ => List.nodup_nil
  | kv :: kvs, hl, h => by
    rw [List.map_cons, distinctK] at h
    refine band2 h fun h1 h2  => ?_; clear h
    rw [List.map_cons, List.nodup_cons]
    refine ⟨fun hm  => ?_, distinct_nodup (fun kv' hk'  => hl kv' (.tail _ hk')) h2⟩
    obtain ⟨kv', hk', e⟩ := List.mem_map.mp hm
    rw [List.all_map] at h1
    have := (List.all_eq_true.mp h1) kv' hk'
    rw [Function.comp] at this
    have e2 : pvEq σ 4 (PV.str kv.1.cps.toList) (PV.str kv'.1.cps.toList) = some true := by
      show ropeEq _ _ = _
      unfold ropeEq
      rw [e, eqL_self]; rfl
    rw [e2] at this
    cases this

theorem dict_ok (am : Amb X d A fe outer F c) (w : Wh X ρ c (fe :: outer) g σ s) {ks : List (Option Expr)} {vs : List Expr} {pos : Pos} {k : KV} (hn : (Nat.blt 0 ks.length && Nat.ble ks.length 15 && ks.all (·.isSome) && Nat.beq ks.length vs.length) = true)
    (h : evDict L ks vs ρ σ (fun ps qs σ  => if distinctK σ ps then k (.dct ps qs) σ else false) kx = true) :
    wpAny (model X.prog X.w) A (eval (.Dict ks vs pos) c) (VG X noS (fe :: outer) g s (RV X k)) (PX X noS (fe :: outer) F g s kx) s := by
  refine band4 hn fun n1 n2 n3 n4  => ?_; clear hn
  have n4' := Nat.eq_of_beq_eq_true n4
  have n2' := Nat.le_of_ble_eq_true n2
  have n1' : 0 < ks.length := by simpa using n1
  have hpl := pairTrees_length ks vs c pos n3 n4'
  refine wpAny_Dict_pairs (knd := PySem.strKind X.prog X.w) (zip_pairTrees ks vs c pos n3 n4') (fun e  => by rw [e] at hpl; simp at hpl; omega) (by rw [hpl]; exact n2') ?_
  obtain ⟨t0, R0, ho, f1, f2, f3⟩ := vg_new O w.R (l := fe :: outer) (S := noS) (o := { cls := .type "dict", data := .dict #[] }) rfl
  have w0 : Wh X ρ c (fe :: outer) g σ { s with heap := s.heap.push { cls := .type "dict", data := .dict #[] } } := w.step t0 R0
  refine vreQ t0 (vgo (pairs_ok H am pos ks vs n4' n3 w0 _ h) fun ws g₁ σ₁ s₁ t R₁ ⟨kvs, qs, c1, c2, c3, c4⟩ => ?_)
  dsimp only at c4
  split at c4
  · rename_i hdis
    have hnd := distinct_nodup c2 hdis
    have hDF : s.heap.objs.size ∉ fsOf (fe :: outer) := fun hm  => by
      obtain ⟨zz, zz, zz, o, hoo, zz⟩ := w.fs.mem hm
      exact absurd (Heap.lt_size hoo) (Nat.lt_irrefl _)
    have hD : s₁.heap.get? s.heap.objs.size = some { cls := .type "dict", data := .dict #[] } := by
      obtain ⟨o', e1, e2⟩ := t.st.keep _ _ ho (fun q  => q) f2 f3
      rcases e2 with rfl | ⟨hm, zz⟩
      · exact e1
      · exact absurd hm hDF
    obtain ⟨g1, g2⟩ := t.st.fresh ho f1 f2
    refine ⟨kvs, c1, ⟨_, #[], 0, hD, ⟨rfl, rfl, rfl⟩, rfl, (fun e he  => by simp at he), .nil, List.nodup_nil⟩, fun h' hd' hs'  => ?_⟩
    rw [merged_nil_of_nodup kvs hnd] at hd'
    obtain ⟨o, hoo, hdo⟩ := Heap.dictOf_iff.mp hd'
    have R' : HR X g₁ σ₁ h' := R₁.heap fun b ob e q  => (hs'.2 b (neW g1 g2 f3 q)).trans e
    have tt := t0.trans t
    refine ⟨⟨fun b  => if b = s.heap.objs.size then some o else g₁.Γ b, g₁.la⟩, σ₁, ⟨?_, tt.gens, tt.os⟩, R'.freeze hoo g2 f3 g1, .dct _ qs, ?_, c4⟩
    · refine (tt.st.trans' (S' := fun b  => b = s.heap.objs.size) (Stp.heap (Nat.le_of_eq hs'.1.symm) fun b ob e n zz zz  => (hs'.2 b n).trans e) fun b hb  => .inr (Nat.le_of_eq hb.symm)).freeze (Nat.le_refl _) g1
    · refine .dct (kvs := kvs) (o := o) (by simp) hdo ?_ rfl c2 (repL_mono ?_ c3)
      · obtain ⟨zz, zz, zz, hg, zz⟩ := glob_ns O w.R
        have hlt := hg.lt
        have : sysModules < mainGlobals := by decide
        rw [beq_eq_false_iff_ne]
        intro e
        rw [← e] at this
        exact Nat.lt_irrefl _ (Nat.lt_trans this hlt)
      · exact GExt.new g1
  · cases c4
end
end Mine
end
section
open PySem PySem.W PyProof.Rows PySem.Calls PySem.SeqAt
set_option maxRecDepth 100000
set_option linter.unusedSectionVars false
namespace Mine

/-! zip over two tuples -/
section
variable {prog : Program} {w : World} {A : Around} {E : Value → Shared → Prop} {s : Shared}
set_option tactic.hygienic false in
theorem nextOf_tuple {it t : Addr} {i : Nat} {items : Array Value} {x : Value} {Q : Value → Shared → Prop} (hit : s.heap.IsTupleIter it t i) (ht : s.heap.IsTuple t items) (hx : items[i]? = some x)
    (hQ : ∀ h', h'.IsTupleIter it t (i + 1) → Heap.SameBut it s.heap h' → Q x { s with heap := h' }) : wpAny (model prog w) A (Builtin.SmallTypes.nextOf (.ref it)) Q E s := by
  obtain ⟨o, ho, hc, hd⟩ := id hit
  obtain ⟨ol, hol, zz, nl, hdl⟩ := ht
  unfold Builtin.SmallTypes.nextOf
  refine wpAny_bind (wpAny_callSpecial?_slot (name := Str.ofString "__next__") hit.typeIs F.slot_tuple_iterator_next
    (wpAny_call_entry F.slot_tuple_iterator_next hit.typeIs F.entry_tuple_iterator_next ?_ (F.args_tuple_iterator_next_1 _)))
  show wpAny _ _ (field (.ref it) 0 >>= _) _ _ s
  refine wpAny_bind (wpAny_field ho hd (x := .ref t) rfl ?_)
  show wpAny _ _ (if (Value.ref t == Value.none) = true then _ else _) _ _ s
  rw [if_neg (show ¬ ((Value.ref t == Value.none) = true) from Bool.false_ne_true)]
  show wpAny _ _ (field (.ref it) 1 >>= _) _ _ s
  refine wpAny_bind (wpAny_field ho hd (x := .int i 0) rfl ?_)
  show wpAny _ _ (seqItems? (.ref t) >>= _) _ _ s
  refine wpAny_bind (wpAny_seqItems hol hdl ?_)
  simp only [Int.toNat_natCast, hx]
  refine wpAny_bind (wpAny_setField ho hd (by simp) (wpAny_pure ⟨x, rfl, wpAny_pure (hQ _ ⟨_, Heap.get?_update_self _ ho (Obj.isFreed_of_fields (Obj.data_mapFields hd _)), (Obj.cls_mapFields ..).trans hc, ?_⟩ (Heap.SameBut.update ..))⟩))
  rw [Obj.data_mapFields hd]; simp [rawInt]
set_option tactic.hygienic false in
theorem nextOf_tuple_end {it t : Addr} {i : Nat} {items : Array Value} {Q : Value → Shared → Prop} (hh : A.handled = none) (hit : s.heap.IsTupleIter it t i) (ht : s.heap.IsTuple t items) (hx : items[i]? = none)
    (hE : ∀ h' e, Heap.ExtBut it s.heap h' → (∃ o, h'.get? e = some o ∧ o.cls = .type "StopIteration") → E (.ref e) { s with heap := h' }) : wpAny (model prog w) A (Builtin.SmallTypes.nextOf (.ref it)) Q E s := by
  obtain ⟨o, ho, hc, hd⟩ := id hit
  obtain ⟨ol, hol, zz, nl, hdl⟩ := ht
  unfold Builtin.SmallTypes.nextOf
  refine wpAny_bind (wpAny_callSpecial?_slot (name := Str.ofString "__next__") hit.typeIs F.slot_tuple_iterator_next
    (wpAny_call_entry F.slot_tuple_iterator_next hit.typeIs F.entry_tuple_iterator_next ?_ (F.args_tuple_iterator_next_1 _)))
  show wpAny _ _ (field (.ref it) 0 >>= _) _ _ s
  refine wpAny_bind (wpAny_field ho hd (x := .ref t) rfl ?_)
  show wpAny _ _ (if (Value.ref t == Value.none) = true then _ else _) _ _ s
  rw [if_neg (show ¬ ((Value.ref t == Value.none) = true) from Bool.false_ne_true)]
  show wpAny _ _ (field (.ref it) 1 >>= _) _ _ s
  refine wpAny_bind (wpAny_field ho hd (x := .int i 0) rfl ?_)
  show wpAny _ _ (seqItems? (.ref t) >>= _) _ _ s
  refine wpAny_bind (wpAny_seqItems hol hdl ?_)
  simp only [Int.toNat_natCast, hx]
  refine wpAny_bind (wpAny_rule (wpAny_bind (wpAny_setField ho hd (by simp) ?_)))
  show wpAny _ _ (newExc (.type "StopIteration") [] >>= _) _ _ _
  refine wpAny_bind ?_
  simp only [newExc, newTuple]
  refine wpAny_bind (wpAny_newObj_type ?_ (by size_fits))
  refine wpAny_bind (m := firstArgMember _ _) (wpAny_of_eq (a := Value.none) (by first | rfl | (simp only [firstArgMember]; rfl)) ?_)
  refine wpAny_newObj_type ?_ (by size_fits)
  simp only [raiseNew]
  refine wpAny_bind (wpAny_handled ?_)
  first | rw [show A.in1.handled = none from hh] | rw [hh]
  refine wpAny_bind (wpAny_pure (wpAny_throw ?_))
  exact hE _ _ (((Heap.SameBut.update ..).extBut.push _).push _) ⟨_, Heap.get?_push_size _ rfl, rfl⟩
structure ZA (z TI TO i1 i2 t1 t2 : Addr) : Prop where
  TIz : TI ≠ z
  TOz : TO ≠ z
  i1z : i1 ≠ z
  i2z : i2 ≠ z
  TITO : TI ≠ TO
  TIi1 : TI ≠ i1
  TIi2 : TI ≠ i2
  TOi1 : TO ≠ i1
  TOi2 : TO ≠ i2
  i12 : i1 ≠ i2
  t1 : t1 ≠ z ∧ t1 ≠ TO ∧ t1 ≠ i1 ∧ t1 ≠ i2
  t2 : t2 ≠ z ∧ t2 ≠ TO ∧ t2 ≠ i1 ∧ t2 ≠ i2

set_option tactic.hygienic false in
theorem IsTuple.ext {h h' : Heap} {a b : Addr} {items : Array Value} (x : h.IsTuple a items) (hs : Heap.ExtBut b h h') (hab : a ≠ b) : h'.IsTuple a items := let ⟨o, ho, r⟩ := x; ⟨o, hs a o hab ho, r⟩

set_option tactic.hygienic false in
theorem zipT_item {z TI TO i1 i2 t1 t2 : Addr} {k1 k2 : Nat} {xs ys : Array Value} {x y a b : Value} {Q : Option Value → Shared → Prop} (D : ZA z TI TO i1 i2 t1 t2)
    (hz : IsZip s.heap z TI TO .none) (hTI : IsPair s.heap TI (.ref i1) (.ref i2)) (hTO : IsPair s.heap TO a b)
    (h1 : s.heap.IsTupleIter i1 t1 k1) (h2 : s.heap.IsTupleIter i2 t2 k2) (hl1 : s.heap.IsTuple t1 xs) (hl2 : s.heap.IsTuple t2 ys) (hx : xs[k1]? = some x) (hy : ys[k2]? = some y)
    (hQ : ∀ h', IsZip h' z TI TO (rawInt s.heap.objs.size) → IsPair h' TO x y → h'.IsTupleIter i1 t1 (k1 + 1) → h'.IsTupleIter i2 t2 (k2 + 1) → IsPair h' s.heap.objs.size x y → h'.objs.size = s.heap.objs.size + 1 →
      (∀ c o, c ≠ z → c ≠ TO → c ≠ i1 → c ≠ i2 → s.heap.get? c = some o → h'.get? c = some o) → Q (some (.ref s.heap.objs.size)) { s with heap := h' }) :
    wpAny (model prog w) A (pyNext (.ref z)) Q E s := by
  have hT : s.TypeIs (.ref z) "zip" := ⟨_, hz, rfl⟩
  unfold pyNext
  refine wpAny_bind (wpAny_attempt (wpAny_callSpecial?_slot (name := Str.ofString "__next__") hT F.slot_zip_next (wpAny_call_entry F.slot_zip_next hT F.entry_zip_next ?_ (F.args_zip_next_1 _))))
  show wpAny _ _ (field (.ref z) 2 >>= _) _ _ _
  refine wpAny_bind (wpAny_field hz rfl (x := .bool false) rfl ?_)
  show wpAny _ _ (field (.ref z) 3 >>= _) _ _ _
  refine wpAny_bind (wpAny_field hz rfl (x := .ref TI) rfl ?_)
  refine wpAny_bind (wpAny_seqItems hTI rfl ?_)
  show wpAny _ _ (Builtin.SmallTypes.ownedTupleIsFree (.ref z) >>= _) _ _ _
  refine wpAny_bind ?_
  unfold Builtin.SmallTypes.ownedTupleIsFree
  refine wpAny_bind (wpAny_field hz rfl (x := .none) rfl (wpAny_pure ?_))
  simp only [if_true]
  refine wpAny_bind (wpAny_rule ?_)
  refine wpAny_bind (wpAny_field hz rfl (x := .ref TO) rfl ?_)
  refine wpAny_bind (wpAny_setField_rec hz (by simp) fun hA hzA sA  => ?_)
  replace hzA : IsZip hA z TI TO .ellipsis := hzA
  refine wpAny_bind ?_
  simp only [List.zipIdx_cons, List.zipIdx_nil, List.forIn_cons, List.forIn_nil]
  refine wpAny_bind (wpAny_bind (wpAny_onRaise ?_))
  show wpAny _ _ (Builtin.SmallTypes.nextOf (.ref i1) >>= _) _ _ _
  refine wpAny_bind (nextOf_tuple (h1.extBut sA.extBut D.i1z) (IsTuple.ext hl1 sA.extBut D.t1.1) hx fun hB h1B sB  => wpAny_pure ?_)
  have oB : IsPair hB TO a b := sB.extBut _ _ D.TOi1 (sA.extBut _ _ D.TOz hTO)
  refine wpAny_bind (wpAny_seqItems oB rfl ?_)
  refine wpAny_bind (wpAny_updateSeq_pair oB fun hC oC sC  => ?_)
  replace oC : IsPair hC TO x b := oC
  refine wpAny_bind (wpAny_letGo (wpAny_pure ?_))
  refine wpAny_bind (wpAny_bind (wpAny_onRaise ?_))
  show wpAny _ _ (Builtin.SmallTypes.nextOf (.ref i2) >>= _) _ _ _
  refine wpAny_bind (nextOf_tuple (((h2.extBut sA.extBut D.i2z).extBut sB.extBut D.i12.symm).extBut sC.extBut D.TOi2.symm)
    (IsTuple.ext (IsTuple.ext (IsTuple.ext hl2 sA.extBut D.t2.1) sB.extBut D.t2.2.2.1) sC.extBut D.t2.2.1) hy fun hD h2D sD  => wpAny_pure ?_)
  have oD : IsPair hD TO x b := sD.extBut _ _ D.TOi2 oC
  refine wpAny_bind (wpAny_seqItems oD rfl ?_)
  refine wpAny_bind (wpAny_updateSeq_pair oD fun hE' oE sE  => ?_)
  replace oE : IsPair hE' TO x y := oE
  refine wpAny_bind (wpAny_letGo (wpAny_pure (wpAny_pure ?_)))
  refine wpAny_bind (wpAny_seqItems oE rfl ?_)
  refine wpAny_bind (wpAny_newTuple ?_)
  have hsz : hE'.objs.size = s.heap.objs.size := by rw [sE.1, sD.1, sC.1, sB.1, sA.1]
  have zE : IsZip hE' z TI TO .ellipsis := sE.extBut _ _ D.TOz.symm (sD.extBut _ _ D.i2z.symm (sC.extBut _ _ D.TOz.symm (sB.extBut _ _ D.i1z.symm hzA)))
  have kE : ∀ c o, c ≠ z → c ≠ TO → c ≠ i1 → c ≠ i2 → s.heap.get? c = some o → hE'.get? c = some o := fun c o c1 c2 c3 c4 e  =>
    sE.extBut _ _ c2 (sD.extBut _ _ c4 (sC.extBut _ _ c2 (sB.extBut _ _ c3 (sA.extBut _ _ c1 e))))
  have h1E : hE'.IsTupleIter i1 t1 (k1 + 1) := ((h1B.extBut sC.extBut D.TOi1.symm).extBut sD.extBut D.i12).extBut sE.extBut D.TOi1.symm
  have h2E : hE'.IsTupleIter i2 t2 (k2 + 1) := h2D.extBut sE.extBut D.TOi2.symm
  have hzlt : z < hE'.objs.size := Heap.lt_size zE
  show wpAny _ _ (Builtin.SmallTypes.ownedTupleHandOut (.ref z) (.ref hE'.objs.size) >>= _) _ _ _
  refine wpAny_bind ?_
  unfold Builtin.SmallTypes.ownedTupleHandOut
  have zF : IsZip (hE'.push { cls := .type "tuple", data := .seq #[x, y] }) z TI TO .ellipsis := Heap.get?_push_of_some _ zE
  refine wpAny_bind (wpAny_setField_rec zF (by simp) fun hG zG sG  => ?_)
  replace zG : IsZip hG z TI TO (rawInt hE'.objs.size) := zG
  refine wpAny_setField_rec zG (by simp) fun hH zH sH  => ?_
  replace zH : IsZip hH z TI TO (rawInt hE'.objs.size) := zH
  have up : ∀ c o, c ≠ z → hE'.get? c = some o → hH.get? c = some o := fun c o c1 e  => sH.extBut _ _ c1 (sG.extBut _ _ c1 (Heap.get?_push_of_some _ e))
  have pH : IsPair hH hE'.objs.size x y := sH.extBut _ _ (Nat.ne_of_gt hzlt) (sG.extBut _ _ (Nat.ne_of_gt hzlt) (Heap.get?_push_size _ rfl))
  have szH : hH.objs.size = hE'.objs.size + 1 := by rw [sH.1, sG.1, Heap.size_push]
  rw [hsz] at zH pH szH
  refine wpAny_pure ⟨_, rfl, ?_⟩
  rw [hsz]
  exact wpAny_pure (hQ hH zH (up _ _ D.TOz oE) (by obtain ⟨o, e, r⟩ := h1E; exact ⟨o, up _ o D.i1z e, r⟩) (by obtain ⟨o, e, r⟩ := h2E; exact ⟨o, up _ o D.i2z e, r⟩) pH szH fun c o c1 c2 c3 c4 e  => up c o c1 (kE c o c1 c2 c3 c4 e))

set_option tactic.hygienic false in
theorem zipT_end {z TI TO i1 i2 t1 t2 : Addr} {k1 k2 : Nat} {xs ys : Array Value} {a b : Value} {Q : Option Value → Shared → Prop} (hh : A.handled = none) (D : ZA z TI TO i1 i2 t1 t2)
    (hz : IsZip s.heap z TI TO .none) (hTI : IsPair s.heap TI (.ref i1) (.ref i2)) (hTO : IsPair s.heap TO a b)
    (h1 : s.heap.IsTupleIter i1 t1 k1) (h2 : s.heap.IsTupleIter i2 t2 k2) (hl1 : s.heap.IsTuple t1 xs) (hl2 : s.heap.IsTuple t2 ys) (hend : xs[k1]? = none ∨ ys[k2]? = none)
    (hQ : ∀ h', (∀ c o, c ≠ z → c ≠ TO → c ≠ i1 → c ≠ i2 → s.heap.get? c = some o → h'.get? c = some o) → Q none { s with heap := h' }) : wpAny (model prog w) A (pyNext (.ref z)) Q E s := by
  have hT : s.TypeIs (.ref z) "zip" := ⟨_, hz, rfl⟩
  unfold pyNext
  refine wpAny_bind (wpAny_attempt (wpAny_callSpecial?_slot (name := Str.ofString "__next__") hT F.slot_zip_next (wpAny_call_entry F.slot_zip_next hT F.entry_zip_next ?_ (F.args_zip_next_1 _))))
  have fin : ∀ h' e, (∀ c o, c ≠ z → c ≠ TO → c ≠ i1 → c ≠ i2 → s.heap.get? c = some o → h'.get? c = some o) → (∃ o, h'.get? e = some o ∧ o.cls = .type "StopIteration") →
      wpAny (model prog w) A (do if ← isInstance (.ref e) (.type "StopIteration") then pure none else throw (.ref e) : Sem (Option Value)) Q E { s with heap := h' } := by
    intro h' e hk he
    obtain ⟨o, ho, hc⟩ := he
    refine wpAny_bind (wpAny_isInstance (T := "StopIteration") (b := true) ⟨o, ho, hc⟩ isSubtype_stop ?_)
    exact wpAny_pure (hQ _ hk)
  show wpAny _ _ (field (.ref z) 2 >>= _) _ _ _
  refine wpAny_bind (wpAny_field hz rfl (x := .bool false) rfl ?_)
  show wpAny _ _ (field (.ref z) 3 >>= _) _ _ _
  refine wpAny_bind (wpAny_field hz rfl (x := .ref TI) rfl ?_)
  refine wpAny_bind (wpAny_seqItems hTI rfl ?_)
  show wpAny _ _ (Builtin.SmallTypes.ownedTupleIsFree (.ref z) >>= _) _ _ _
  refine wpAny_bind ?_
  unfold Builtin.SmallTypes.ownedTupleIsFree
  refine wpAny_bind (wpAny_field hz rfl (x := .none) rfl (wpAny_pure ?_))
  simp only [if_true]
  refine wpAny_bind (wpAny_rule ?_)
  refine wpAny_bind (wpAny_field hz rfl (x := .ref TO) rfl ?_)
  refine wpAny_bind (wpAny_setField_rec hz (by simp) fun hA hzA sA  => ?_)
  replace hzA : IsZip hA z TI TO .ellipsis := hzA
  refine wpAny_bind ?_
  simp only [List.zipIdx_cons, List.zipIdx_nil, List.forIn_cons, List.forIn_nil]
  refine wpAny_bind (wpAny_bind (wpAny_onRaise ?_))
  show wpAny _ _ (Builtin.SmallTypes.nextOf (.ref i1) >>= _) _ _ _
  cases hx : xs[k1]? with
  | none =>
    refine wpAny_bind (nextOf_tuple_end hh (h1.extBut sA.extBut D.i1z) (IsTuple.ext hl1 sA.extBut D.t1.1) hx fun hB e sB he  => ?_)
    obtain ⟨oe, hoe, hce⟩ := he
    have hzB : IsZip hB z TI TO .ellipsis := sB _ _ D.i1z.symm hzA
    have hez : e ≠ z := fun x  => by subst x; rw [hzB] at hoe; cases hoe; simp at hce
    refine wpAny_setField_rec hzB (by simp) fun hC zz sC  => fin hC e (fun c o c1 zz c3 zz x  => sC.extBut _ _ c1 (sB _ _ c3 (sA.extBut _ _ c1 x))) ⟨oe, sC.extBut _ _ hez hoe, hce⟩
  | some x =>
    have hy : ys[k2]? = none := by rcases hend with h | h; rw [hx] at h; cases h; exact h
    refine wpAny_bind (nextOf_tuple (h1.extBut sA.extBut D.i1z) (IsTuple.ext hl1 sA.extBut D.t1.1) hx fun hB h1B sB  => wpAny_pure ?_)
    have oB : IsPair hB TO a b := sB.extBut _ _ D.TOi1 (sA.extBut _ _ D.TOz hTO)
    refine wpAny_bind (wpAny_seqItems oB rfl ?_)
    refine wpAny_bind (wpAny_updateSeq_pair oB fun hC oC sC  => ?_)
    refine wpAny_bind (wpAny_letGo (wpAny_pure ?_))
    refine wpAny_bind (wpAny_bind (wpAny_onRaise ?_))
    show wpAny _ _ (Builtin.SmallTypes.nextOf (.ref i2) >>= _) _ _ _
    refine wpAny_bind (nextOf_tuple_end hh (((h2.extBut sA.extBut D.i2z).extBut sB.extBut D.i12.symm).extBut sC.extBut D.TOi2.symm)
      (IsTuple.ext (IsTuple.ext (IsTuple.ext hl2 sA.extBut D.t2.1) sB.extBut D.t2.2.2.1) sC.extBut D.t2.2.1) hy fun hD e sD he  => ?_)
    obtain ⟨oe, hoe, hce⟩ := he
    have hzD : IsZip hD z TI TO .ellipsis := sD _ _ D.i2z.symm (sC.extBut _ _ D.TOz.symm (sB.extBut _ _ D.i1z.symm hzA))
    have hez : e ≠ z := fun x  => by subst x; rw [hzD] at hoe; cases hoe; simp at hce
    refine wpAny_setField_rec hzD (by simp) fun hE' zz sE  => fin hE' e (fun c o c1 c2 c3 c4 x  => sE.extBut _ _ c1 (sD _ _ c4 (sC.extBut _ _ c2 (sB.extBut _ _ c3 (sA.extBut _ _ c1 x))))) ⟨oe, sE.extBut _ _ hez hoe, hce⟩
noncomputable def zipHeap (h : Heap) (t1 t2 : Addr) : Heap :=
  ((((h.push { cls := .type "tuple_iterator", data := .fields #[.ref t1, .int 0 0] }).push { cls := .type "tuple_iterator", data := .fields #[.ref t2, .int 0 0] }).push
    { cls := .type "tuple", data := .seq #[.ref h.objs.size, .ref (h.objs.size + 1)] }).push { cls := .type "tuple", data := .seq #[.none, .none] }).push
    { cls := .type "zip", data := .fields #[.none, .bool false, .bool false, .ref (h.objs.size + 2), .ref (h.objs.size + 3)] }
set_option tactic.hygienic false in
theorem zipT_new (t1 t2 : Addr) (xs ys : Array Value) :
    Meets (Builtin.«zip.__new__» ⟨[.type "zip", .ref t1, .ref t2], []⟩) (fun zz R s  => s.heap.IsTuple t1 xs ∧ s.heap.IsTuple t2 ys ∧
      R (.ok (.ret (.ref (s.heap.objs.size + 4)))) { s with heap := zipHeap s.heap t1 t2 }) :=
  .of_wp fun prog w A R s h  => by
    obtain ⟨hp, g, d, tk, os⟩ := s; obtain ⟨hl1, hl2, h⟩ := h
    have hsub := sub_zip
    have hL1 : Heap.IsTuple (Shared.heap ⟨hp, g, d, tk, os⟩) t1 xs := hl1
    have hL2 : Heap.IsTuple (Shared.heap ⟨hp.push { cls := .type "tuple_iterator", data := .fields #[.ref t1, .int 0 0] }, g, d, tk, os⟩) t2 ys := let ⟨o, ho, r⟩ := hl2; ⟨o, Heap.get?_push_of_some _ ho, r⟩
    wp_walk using wpAny_pyIter_tuple hL1, wpAny_pyIter_tuple hL2
    refine ⟨_, rfl, ?_⟩
    simp only [Heap.size_push]
    exact h
end
end Mine
end
section
open PySem PySem.W PyProof.Rows PySem.Calls PySem.SeqAt
set_option maxRecDepth 100000
set_option linter.unusedSectionVars false
namespace Mine

structure Own (X : Fix) (g : GW) (b : Addr) : Prop where
  nf : g.Γ b = none
  nl : b ∉ g.la
  nP : b ≠ X.P
noncomputable def TupIt (X : Fix) (g : GW) (h : Heap) (I t : Addr) (xs : List PV) : Prop := ∃ vs n i, h.IsTupleIter I t i ∧ g.Γ t = some { cls := .type "tuple", data := .seq vs n } ∧ RepL X g (vs.toList.drop i) xs
noncomputable def IterR (X : Fix) (g : GW) (h : Heap) (I : Addr) (ws : List Addr) : Src → Prop
  | .tup xs => ws = [I] ∧ ∃ t, TupIt X g h I t xs
  | .lst j i => ws = [I] ∧ ∃ a, h.IsListIter I a i ∧ g.la[j]? = some a
  | .rng a n => ws = [I] ∧ IsRangeIter h I a n 1
  | .zip xs ys => ∃ TI TO i1 i2 t1 t2 p q, ws = [I, TI, TO, i1, i2] ∧ ws.Nodup ∧ IsZip h I TI TO .none ∧ IsPair h TI (.ref i1) (.ref i2) ∧ IsPair h TO p q ∧ TupIt X g h i1 t1 xs ∧ TupIt X g h i2 t2 ys

set_option tactic.hygienic false in
theorem TupIt.step {X : Fix} {g g' : GW} {h h' : Heap} {I t : Addr} {xs : List PV} (x : TupIt X g h I t xs) (e : GExt g g') (k : ∀ o, h.get? I = some o → h'.get? I = some o) : TupIt X g' h' I t xs := by
  obtain ⟨vs, n, i, ⟨o, ho, r⟩, h2, h3⟩ := x
  exact ⟨vs, n, i, ⟨o, k o ho, r⟩, e.ext _ _ h2, repL_mono e h3⟩
set_option tactic.hygienic false in
theorem IterR.step {X : Fix} {g g' : GW} {h h' : Heap} {I : Addr} {ws : List Addr} {src : Src} (x : IterR X g h I ws src) (e : GExt g g') (k : ∀ b ∈ ws, ∀ o, h.get? b = some o → h'.get? b = some o) : IterR X g' h' I ws src := by
  cases src with
  | tup xs => obtain ⟨rfl, t, h1⟩ := x; exact ⟨rfl, t, h1.step e (k I (.head _))⟩
  | lst j i => obtain ⟨rfl, a, ⟨o, ho, r⟩, h2⟩ := x; exact ⟨rfl, a, ⟨o, k I (.head _) o ho, r⟩, e.idx h2⟩
  | rng a n => obtain ⟨rfl, h1⟩ := x; exact ⟨rfl, k I (.head _) _ h1⟩
  | zip xs ys =>
    obtain ⟨TI, TO, i1, i2, t1, t2, p, q, rfl, hn, h1, h2, h3, h4, h5⟩ := x
    exact ⟨TI, TO, i1, i2, t1, t2, p, q, rfl, hn, k _ (by simp) _ h1, k _ (by simp) _ h2, k _ (by simp) _ h3, h4.step e (k _ (by simp)), h5.step e (k _ (by simp))⟩
set_option tactic.hygienic false in
theorem IterR.mem {X : Fix} {g : GW} {h : Heap} {I : Addr} {ws : List Addr} {src : Src} (x : IterR X g h I ws src) : ∀ b ∈ ws, ∃ o, h.get? b = some o := by
  cases src with
  | tup xs => obtain ⟨rfl, t, vs, n, i, ⟨o, ho, r⟩, zz⟩ := x; intro b hb; simp at hb; subst hb; exact ⟨o, ho⟩
  | lst j i => obtain ⟨rfl, a, ⟨o, ho, r⟩, h2⟩ := x; intro b hb; simp at hb; subst hb; exact ⟨o, ho⟩
  | rng a n => obtain ⟨rfl, h1⟩ := x; intro b hb; simp at hb; subst hb; exact ⟨_, h1⟩
  | zip xs ys =>
    obtain ⟨TI, TO, i1, i2, t1, t2, p, q, rfl, hn, h1, h2, h3, h4, h5⟩ := x
    intro b hb
    simp at hb
    rcases hb with rfl | rfl | rfl | rfl | rfl
    · exact ⟨_, h1⟩
    · exact ⟨_, h2⟩
    · exact ⟨_, h3⟩
    · obtain ⟨zz, zz, zz, ⟨o, ho, zz⟩, zz⟩ := h4; exact ⟨o, ho⟩
    · obtain ⟨zz, zz, zz, ⟨o, ho, zz⟩, zz⟩ := h5; exact ⟨o, ho⟩

set_option tactic.hygienic false in
theorem Own.step {X : Fix} {S FS g h g' h'} {b : Addr} {o : Obj} (x : Own X g b) (y : Stp X S FS g h g' h') (e : h.get? b = some o) : Own X g' b := let ⟨a, c⟩ := y.fresh e x.nf x.nl; ⟨a, c, x.nP⟩
noncomputable def NextPost (X : Fix) (l : List Env) (g : GW) (s : Shared) (I : Addr) (ws : List Addr) (σ : Sto) (target : Expr) (A : Around) (E : Value → Shared → Prop) : Option (PV × Src) → Option Value → Shared → Prop
  | none, v, s' => v = none ∧ To X (· ∈ ws) l g s g s' ∧ HR X g σ s'.heap
  | some (p, src'), v, s' => ∃ u, v = some u ∧ wpAny (model X.prog X.w) A (letOwnedTupleGo target (.ref I) u) (fun _ s'' => ∃ g', To X (· ∈ ws) l g s g' s'' ∧ HR X g' σ s''.heap ∧ RepV X g' u p ∧ IterR X g' s''.heap I ws src') E s'

set_option tactic.hygienic false in
theorem Own.ne {X : Fix} {g : GW} {b c : Addr} (o : Own X g b) (q : g.Γ c ≠ none ∨ c ∈ g.la ∨ c = X.P) : c ≠ b := by
  rintro rfl
  rcases q with q | q | q
  · exact q o.nf
  · exact o.nl q
  · exact o.nP q
set_option tactic.hygienic false in
theorem ne_of {ws : List Addr} {b c : Addr} (n : ¬ c ∈ ws) (m : b ∈ ws) : c ≠ b := fun q  => n (q ▸ m)

section
variable {X : Fix} (O : FixOK X) {A : Around} {g : GW} {σ : Sto} {s : Shared} {E : Value → Shared → Prop}
include O

omit O in
set_option tactic.hygienic false in
theorem own_to {l : List Env} {I : Addr} {h' : Heap} {tk : Nat} (R : HR X g σ s.heap) (o : Own X g I) (hs : Heap.SameBut I s.heap h') : To X (· ∈ [I]) l g s g { s with heap := h', toks := tk } ∧ HR X g σ h' :=
  ⟨⟨Stp.heap (Nat.le_of_eq hs.1.symm) fun b ob e n zz zz  => (hs.2 b (ne_of n (.head _))).trans e, rfl, rfl⟩, R.heap fun b ob e q  => (hs.2 b (o.ne q)).trans e⟩
omit O in
set_option tactic.hygienic false in
theorem own_toExt {l : List Env} {I : Addr} {h' : Heap} {tk : Nat} (R : HR X g σ s.heap) (o : Own X g I) (hs : Heap.ExtBut I s.heap h') (hz : s.heap.objs.size ≤ h'.objs.size) : To X (· ∈ [I]) l g s g { s with heap := h', toks := tk } ∧ HR X g σ h' :=
  ⟨⟨Stp.heap hz fun b ob e n zz zz  => hs b ob (ne_of n (.head _)) e, rfl, rfl⟩, R.heap fun b ob e q  => hs b ob (o.ne q) e⟩

omit O in
theorem letGo_plain {I : Addr} {u : Value} {target : Expr} {T : String} {ob : Obj} {fs : Array Value} {Q : Unit → Shared → Prop} {s : Shared} (ho : s.heap.get? I = some ob) (hc : ob.cls = .type T) (hd : ob.data = .fields fs)
    (hT : (["enumerate", "zip", "dict_itemiterator", "dict_reverseitemiterator", "odict_iterator", "itertools.zip_longest", "itertools.pairwise"] : List String).contains T = false) (h : Q () s) {E : Value → Shared → Prop} :
    wpAny (model X.prog X.w) A (letOwnedTupleGo target (.ref I) u) Q E s := by
  have key : wpAny (model X.prog X.w) A (letOwnedTupleGo (.Tuple [] 0 default) (.ref I) u) Q E s := by
    cases u with
    | ref a =>
      refine wpAny_bind (wpAny_load ho ?_)
      obtain ⟨c, dd, dt, sl⟩ := ob
      subst hc; subst hd
      show wpAny _ _ (if (_ && _) = true then _ else _) Q E s
      rw [hT]
      exact wpAny_pure h
    | _ => exact wpAny_pure h
  cases target with
  | Tuple => exact key
  | List => exact key
  | _ => exact wpAny_pure h

omit O in
set_option tactic.hygienic false in
theorem drop_cons {α : Type} {l : List α} {i : Nat} {x : α} {r : List α} (h : l.drop i = x :: r) : l[i]? = some x ∧ l.drop (i + 1) = r := by
  constructor
  · have := congrArg (·[0]?) h
    simpa using this
  · have := congrArg (List.drop 1) h
    simpa [List.drop_drop, Nat.add_comm] using this
omit O in
set_option tactic.hygienic false in
theorem tupIt_item {h : Heap} (R : HR X g σ h) {I t : Addr} {x : PV} {xs : List PV} (it : TupIt X g h I t (x :: xs)) : ∃ vs n i v, h.IsTupleIter I t i ∧ h.IsTuple t vs ∧ vs[i]? = some v ∧ RepV X g v x ∧ g.Γ t = some { cls := .type "tuple", data := .seq vs n } ∧ RepL X g (vs.toList.drop (i + 1)) xs := by
  obtain ⟨vs, n, i, h1, h2, h3⟩ := it
  cases hd : vs.toList.drop i with
  | nil => rw [hd] at h3; cases h3
  | cons v r =>
    rw [hd] at h3
    cases h3 with
    | cons a b =>
      obtain ⟨e1, e2⟩ := drop_cons hd
      exact ⟨vs, n, i, v, h1, ⟨_, R.frz _ _ h2, rfl, n, rfl⟩, by rw [← Array.getElem?_toList]; exact e1, a, h2, by rw [e2]; exact b⟩
omit O in
set_option tactic.hygienic false in
theorem tupIt_end {h : Heap} (R : HR X g σ h) {I t : Addr} (it : TupIt X g h I t []) : ∃ vs n i, h.IsTupleIter I t i ∧ h.IsTuple t vs ∧ vs[i]? = none ∧ g.Γ t = some { cls := .type "tuple", data := .seq vs n } := by
  obtain ⟨vs, n, i, h1, h2, h3⟩ := it
  cases hd : vs.toList.drop i with
  | nil =>
    refine ⟨vs, n, i, h1, ⟨_, R.frz _ _ h2, rfl, n, rfl⟩, ?_, h2⟩
    rw [← Array.getElem?_toList]
    have := List.drop_eq_nil_iff.mp hd
    exact List.getElem?_eq_none this
  | cons v r => rw [hd] at h3; cases h3

set_option tactic.hygienic false in
theorem end1 {l : List Env} (R : HR X g σ s.heap) {I : Addr} {target : Expr} (o : Own X g I) (h : wpAny (model X.prog X.w) A (pyNext (.ref I)) (fun v s'  => v = none ∧ ∃ h', s' = { s with heap := h' } ∧ Heap.ExtBut I s.heap h') E s) :
    wpAny (model X.prog X.w) A (pyNext (.ref I)) (NextPost X l g s I [I] σ target A E none) E s :=
  wpAny_mono (wpAny_sized h) (fun v s' hq  => by
    obtain ⟨⟨rfl, h', rfl, he⟩, hz⟩ := hq
    exact ⟨rfl, own_toExt R o he hz⟩) fun zz zz q  => q.1
theorem next_tup {l : List Env} (hh : A.handled = none) (R : HR X g σ s.heap) {I t : Addr} {xs : List PV} {r : Option (PV × Src)} {target : Expr} (it : TupIt X g s.heap I t xs) (o : Own X g I) (hn : Src.next σ (.tup xs) = some r) :
    wpAny (model X.prog X.w) A (pyNext (.ref I)) (NextPost X l g s I [I] σ target A E r) E s := by
  cases xs with
  | nil =>
    cases hn
    obtain ⟨vs, n, i, h1, h2, h3, h4⟩ := tupIt_end R it
    exact end1 O R o (wpAny_pyNext_tuple_end hh h1 h2 h3 fun h' he  => ⟨rfl, h', rfl, he⟩)
  | cons x xs =>
    cases hn
    obtain ⟨vs, n, i, v, h1, h2, h3, h4, h5, h6⟩ := tupIt_item R it
    refine wpAny_pyNext_tuple_item h1 h2 h3 fun h' hi hs  => ⟨v, rfl, ?_⟩
    obtain ⟨t1, t2⟩ := own_to (l := l) (tk := s.toks) R o hs
    obtain ⟨ob, ho, hc, hd⟩ := id hi
    exact letGo_plain (s := { s with heap := h' }) ho hc hd (by decide) ⟨g, t1, t2, h4, rfl, t, vs, n, i + 1, hi, h5, h6⟩
theorem next_lst {l : List Env} (hh : A.handled = none) (R : HR X g σ s.heap) {I a : Addr} {j i : Nat} {r : Option (PV × Src)} {target : Expr} (h1 : s.heap.IsListIter I a i) (h2 : g.la[j]? = some a) (o : Own X g I) (hn : Src.next σ (.lst j i) = some r) :
    wpAny (model X.prog X.w) A (pyNext (.ref I)) (NextPost X l g s I [I] σ target A E r) E s := by
  refine ifE' hn nS ?_; clear hn; intro xs e hn
  obtain ⟨vs, ⟨n, hp⟩, q⟩ := R.lst _ _ _ h2 e
  have hl : s.heap.IsList a vs := ⟨_, hp, rfl, n, rfl⟩
  cases hx : xs[i]? with
  | some x =>
    rw [hx] at hn
    cases hn
    obtain ⟨v, hv, rv⟩ := q.get hx
    refine wpAny_pyNext_list_item h1 hl (by rw [← Array.getElem?_toList]; exact hv) fun h' hi hs  => ⟨v, rfl, ?_⟩
    obtain ⟨t1, t2⟩ := own_to (l := l) (tk := s.toks) R o hs
    obtain ⟨ob, ho, hc, hd⟩ := id hi
    exact letGo_plain (s := { s with heap := h' }) ho hc hd (by decide) ⟨g, t1, t2, rv, rfl, a, hi, h2⟩
  | none =>
    rw [hx] at hn
    cases hn
    exact end1 O R o (wpAny_pyNext_list_end hh h1 hl (by rw [← Array.getElem?_toList]; exact q.none hx) fun h' he  => ⟨rfl, h', rfl, he⟩)
theorem next_rng {l : List Env} (hh : A.handled = none) (R : HR X g σ s.heap) {I : Addr} {a : Int} {n : Nat} {r : Option (PV × Src)} {target : Expr} (h1 : IsRangeIter s.heap I a n 1) (o : Own X g I) (hn : Src.next σ (.rng a n) = some r) :
    wpAny (model X.prog X.w) A (pyNext (.ref I)) (NextPost X l g s I [I] σ target A E r) E s := by
  cases n with
  | zero =>
    cases hn
    exact end1 O R o (wpAny_pyNext_range_end hh h1 (Int.le_refl 0) fun h' he  => ⟨rfl, h', rfl, he⟩)
  | succ n =>
    cases hn
    refine wpAny_pyNext_range_item h1 (by (with_reducible exact Mine.ar45)) fun h' hi hs  => ⟨_, rfl, ?_⟩
    obtain ⟨t1, t2⟩ := own_to (l := l) (tk := s.toks + 1) R o hs
    have hi' : IsRangeIter h' I (a + 1) n 1 := (show ((n + 1 : Nat) : Int) - 1 = n by (with_reducible exact Mine.ar46)) ▸ hi
    exact letGo_plain (s := { s with heap := h', toks := s.toks + 1 }) hi' rfl rfl (by decide) ⟨g, t1, t2, .int _ _, rfl, hi'⟩
omit O in
set_option tactic.hygienic false in
theorem tgt_tup {xs ys : List PV} {t : Expr} (h : tgtOk (.zip xs ys) t = true) : ∃ elts x1 pos, t = .Tuple elts x1 pos := by
  cases t with
  | Tuple => exact ⟨_, _, _, rfl⟩
  | _ => exact absF h
omit O in
set_option tactic.hygienic false in
theorem za_of {I TI TO i1 i2 t1 t2 : Addr} (own : ∀ b ∈ [I, TI, TO, i1, i2], Own X g b) (hnd : [I, TI, TO, i1, i2].Nodup) {ob ou : Obj} (e1 : g.Γ t1 = some ob) (e2 : g.Γ t2 = some ou) : ZA I TI TO i1 i2 t1 t2 := by
  have fz : ∀ {t : Addr} {ob : Obj}, g.Γ t = some ob → ∀ b ∈ [I, TI, TO, i1, i2], t ≠ b := fun e b hb  => (own b hb).ne (.inl (by rw [e]; exact nofun))
  simp only [List.nodup_cons, List.mem_cons, List.not_mem_nil, or_false, not_or] at hnd
  obtain ⟨⟨a1, a2, a3, a4⟩, ⟨b1, b2, b3⟩, ⟨c1, c2⟩, d1, zz⟩ := hnd
  have m0 : I ∈ [I, TI, TO, i1, i2] := .head _
  have m2 : TO ∈ [I, TI, TO, i1, i2] := .tail _ (.tail _ (.head _))
  have m3 : i1 ∈ [I, TI, TO, i1, i2] := .tail _ (.tail _ (.tail _ (.head _)))
  have m4 : i2 ∈ [I, TI, TO, i1, i2] := .tail _ (.tail _ (.tail _ (.tail _ (.head _))))
  exact ⟨Ne.symm a1, Ne.symm a2, Ne.symm a3, Ne.symm a4, b1, b2, b3, c1, c2, d1, ⟨fz e1 _ m0, fz e1 _ m2, fz e1 _ m3, fz e1 _ m4⟩, ⟨fz e2 _ m0, fz e2 _ m2, fz e2 _ m3, fz e2 _ m4⟩⟩
set_option tactic.hygienic false in
theorem zip_keep {l : List Env} (R : HR X g σ s.heap) {I TI TO i1 i2 : Addr} {h' : Heap} {tk : Nat} (own : ∀ b ∈ [I, TI, TO, i1, i2], Own X g b) (hz : s.heap.objs.size ≤ h'.objs.size) (he : ∀ c o, c ≠ I → c ≠ TO → c ≠ i1 → c ≠ i2 → s.heap.get? c = some o → h'.get? c = some o) :
    Stp X (· ∈ [I, TI, TO, i1, i2]) (fsOf l) g s.heap g h' ∧ HR X g σ h' := by
  have m0 : I ∈ [I, TI, TO, i1, i2] := .head _
  have m2 : TO ∈ [I, TI, TO, i1, i2] := .tail _ (.tail _ (.head _))
  have m3 : i1 ∈ [I, TI, TO, i1, i2] := .tail _ (.tail _ (.tail _ (.head _)))
  have m4 : i2 ∈ [I, TI, TO, i1, i2] := .tail _ (.tail _ (.tail _ (.tail _ (.head _))))
  exact ⟨Stp.heap hz fun b ob e nb zz zz  => he b ob (ne_of nb m0) (ne_of nb m2) (ne_of nb m3) (ne_of nb m4) e, R.heap fun b ob e qq  => he b ob ((own _ m0).ne qq) ((own _ m2).ne qq) ((own _ m3).ne qq) ((own _ m4).ne qq) e⟩
theorem next_zip {l : List Env} (hh : A.handled = none) (R : HR X g σ s.heap) {I TI TO i1 i2 t1 t2 : Addr} {p q : Value} {xs ys : List PV} {r : Option (PV × Src)} {target : Expr} (hnd : [I, TI, TO, i1, i2].Nodup) (h1 : IsZip s.heap I TI TO .none) (h2 : IsPair s.heap TI (.ref i1) (.ref i2)) (h3 : IsPair s.heap TO p q) (h4 : TupIt X g s.heap i1 t1 xs) (h5 : TupIt X g s.heap i2 t2 ys)
    (own : ∀ b ∈ [I, TI, TO, i1, i2], Own X g b) (hn : Src.next σ (.zip xs ys) = some r) (ht : tgtOk (.zip xs ys) target = true) :
    wpAny (model X.prog X.w) A (pyNext (.ref I)) (NextPost X l g s I [I, TI, TO, i1, i2] σ target A E r) E s := by
  have ends : ∀ {vs us : Array Value} {n m k1 k2 : Nat}, g.Γ t1 = some { cls := .type "tuple", data := .seq vs n } → g.Γ t2 = some { cls := .type "tuple", data := .seq us m } → s.heap.IsTupleIter i1 t1 k1 → s.heap.IsTupleIter i2 t2 k2 →
      s.heap.IsTuple t1 vs → s.heap.IsTuple t2 us → (vs[k1]? = none ∨ us[k2]? = none) → wpAny (model X.prog X.w) A (pyNext (.ref I)) (NextPost X l g s I [I, TI, TO, i1, i2] σ target A E none) E s :=
    fun e1 e2 q1 q2 l1 l2 hend  => wpAny_mono (wpAny_sized (Q := fun v s'  => v = none ∧ ∃ h', s' = { s with heap := h' } ∧ (∀ c o, c ≠ I → c ≠ TO → c ≠ i1 → c ≠ i2 → s.heap.get? c = some o → h'.get? c = some o)) (E := E)
      (zipT_end hh (za_of own hnd e1 e2) h1 h2 h3 q1 q2 l1 l2 hend fun h' he  => ⟨rfl, h', rfl, he⟩)) (fun v s' hq  => by
        obtain ⟨⟨rfl, h', rfl, he⟩, hz⟩ := hq
        obtain ⟨y1, y2⟩ := zip_keep O (l := l) (tk := 0) R own hz he
        exact ⟨rfl, ⟨y1, rfl, rfl⟩, y2⟩) fun zz zz q  => q.1
  cases xs with
  | nil =>
    have e : Src.next σ (.zip [] ys) = some none := by cases ys <;> rfl
    rw [e] at hn; cases hn
    obtain ⟨vs, n, k1, a1, a2, a3, a4⟩ := tupIt_end R h4
    cases ys with
    | nil => obtain ⟨us, m, k2, b1, b2, b3, b4⟩ := tupIt_end R h5; exact ends a4 b4 a1 b1 a2 b2 (.inl a3)
    | cons y ys => obtain ⟨us, m, k2, u, b1, b2, b3, b4, b5, b6⟩ := tupIt_item R h5; exact ends a4 b5 a1 b1 a2 b2 (.inl a3)
  | cons x xs =>
    obtain ⟨vs, n, k1, v, a1, a2, a3, a4, a5, a6⟩ := tupIt_item R h4
    cases ys with
    | nil =>
      cases hn
      obtain ⟨us, m, k2, b1, b2, b3, b4⟩ := tupIt_end R h5
      exact ends a5 b4 a1 b1 a2 b2 (.inr b3)
    | cons y ys =>
      cases hn
      obtain ⟨us, m, k2, u, b1, b2, b3, b4, b5, b6⟩ := tupIt_item R h5
      have D := za_of own hnd a5 b5
      obtain ⟨elts, x1, pos, rfl⟩ := tgt_tup ht
      refine zipT_item D h1 h2 h3 a1 b1 a2 b2 a3 b3 fun h' z1 z2 z3 z4 z5 z6 z7  => ⟨_, rfl, ?_⟩
      refine wpAny_letOwnedTupleGo_zip (s := { s with heap := h' }) z1 fun h'' hz'' hs''  => ?_
      have hIlt : I < s.heap.objs.size := Heap.lt_size h1
      have kp : ∀ c o, c ≠ I → c ≠ TO → c ≠ i1 → c ≠ i2 → s.heap.get? c = some o → h''.get? c = some o := fun c o c1 c2 c3 c4 e  => (hs''.2 c c1).trans (z7 c o c1 c2 c3 c4 e)
      have hT : h''.get? s.heap.objs.size = some { cls := .type "tuple", data := .seq #[v, u] } := (hs''.2 _ (Nat.ne_of_gt hIlt)).trans z5
      obtain ⟨st, R'⟩ := zip_keep O (l := l) (tk := 0) R own (h' := h'') (by rw [hs''.1]; show _ ≤ h'.objs.size; rw [z6]; exact Nat.le_succ _) kp
      obtain ⟨f1, f2, f3⟩ := R.fresh (Nat.le_refl s.heap.objs.size)
      have ge := GExt.new (ob := { cls := .type "tuple", data := .seq #[v, u] }) f1
      refine ⟨_, ⟨st.freeze (a := s.heap.objs.size) (o := { cls := .type "tuple", data := .seq #[v, u] }) (Nat.le_refl _) f1, rfl, rfl⟩, R'.freeze hT f2 f3 f1, .tup (n := 0) (vs := #[v, u]) (if_pos rfl) (.cons (repV_mono ge a4) (.cons (repV_mono ge b4) .nil)), ?_⟩
      refine ⟨TI, TO, i1, i2, t1, t2, v, u, rfl, hnd, hz'', kp _ _ D.TIz D.TITO D.TIi1 D.TIi2 h2, (hs''.2 _ D.TOz).trans z2, ?_, ?_⟩
      · exact TupIt.step ⟨vs, n, k1 + 1, z3, a5, a6⟩ ge fun o e  => (hs''.2 _ D.i1z).trans e
      · exact TupIt.step ⟨us, m, k2 + 1, z4, b5, b6⟩ ge fun o e  => (hs''.2 _ D.i2z).trans e
theorem next_ok {l : List Env} (hh : A.handled = none) (R : HR X g σ s.heap) {I : Addr} {ws : List Addr} {src : Src} {r : Option (PV × Src)} {target : Expr} (it : IterR X g s.heap I ws src) (own : ∀ b ∈ ws, Own X g b) (hn : src.next σ = some r) (ht : tgtOk src target = true) :
    wpAny (model X.prog X.w) A (pyNext (.ref I)) (NextPost X l g s I ws σ target A E r) E s := by
  cases src with
  | tup xs => obtain ⟨rfl, t, it⟩ := it; exact next_tup O hh R it (own I (.head _)) hn
  | lst j i => obtain ⟨rfl, a, h1, h2⟩ := it; exact next_lst O hh R h1 h2 (own I (.head _)) hn
  | rng a n => obtain ⟨rfl, h1⟩ := it; exact next_rng O hh R h1 (own I (.head _)) hn
  | zip xs ys =>
    obtain ⟨TI, TO, i1, i2, t1, t2, p, q, rfl, hnd, h1, h2, h3, h4, h5⟩ := it
    exact next_zip O hh R hnd h1 h2 h3 h4 h5 own hn ht
end
end Mine
end
section
open PySem PySem.W PyProof.Rows PySem.Calls PySem.SeqAt
set_option maxRecDepth 100000
set_option linter.unusedSectionVars false
namespace Mine

section
variable {prog : Program} {w : World} {A : Around} {E : Value → Shared → Prop} {s : Shared}
set_option tactic.hygienic false in
theorem call_zipT {t1 t2 : Addr} {xs ys : Array Value} {Q : Value → Shared → Prop} (hl1 : s.heap.IsTuple t1 xs) (hl2 : s.heap.IsTuple t2 ys)
    (h : Q (.ref (s.heap.objs.size + 4)) { s with heap := zipHeap s.heap t1 t2 }) :
    wpAny (model prog w) A (call (.type "zip") [.ref t1, .ref t2]) Q E s := by
  have z4 : ((((s.heap.push { cls := .type "tuple_iterator", data := .fields #[.ref t1, .int 0 0] }).push { cls := .type "tuple_iterator", data := .fields #[.ref t2, .int 0 0] }).push
    { cls := .type "tuple", data := .seq #[.ref s.heap.objs.size, .ref (s.heap.objs.size + 1)] }).push { cls := .type "tuple", data := .seq #[.none, .none] }).objs.size = s.heap.objs.size + 4 := by
    simp only [Heap.size_push]
  refine callType_new F.called_zip (by decide) (F.typeCall_zip_2 _ _) (F.newCall_zip_2 _ _) (fun obj  => F.args_object_init_3 obj _ _) F.entry_zip_new (zipT_new t1 t2 xs ys) ⟨hl1, hl2, ?_⟩
  refine ⟨⟨{ cls := .type "zip", data := .fields #[.none, .bool false, .bool false, .ref (s.heap.objs.size + 2), .ref (s.heap.objs.size + 3)] }, ?_, rfl⟩, h⟩
  show (zipHeap s.heap t1 t2).get? (s.heap.objs.size + 4) = some _
  rw [← z4]
  exact Heap.get?_push_size _ rfl
end
set_option tactic.hygienic false in
theorem zipHeap_at (h : Heap) (t1 t2 : Addr) : IsZip (zipHeap h t1 t2) (h.objs.size + 4) (h.objs.size + 2) (h.objs.size + 3) .none ∧ IsPair (zipHeap h t1 t2) (h.objs.size + 2) (.ref h.objs.size) (.ref (h.objs.size + 1)) ∧
    IsPair (zipHeap h t1 t2) (h.objs.size + 3) .none .none ∧ (zipHeap h t1 t2).IsTupleIter h.objs.size t1 0 ∧ (zipHeap h t1 t2).IsTupleIter (h.objs.size + 1) t2 0 ∧ (zipHeap h t1 t2).objs.size = h.objs.size + 5 ∧
    ∀ b o, h.get? b = some o → (zipHeap h t1 t2).get? b = some o := by
  unfold zipHeap
  generalize hA : h.push { cls := .type "tuple_iterator", data := .fields #[.ref t1, .int 0 0] } = hA'
  have sA : hA'.objs.size = h.objs.size + 1 := by rw [← hA, Heap.size_push]
  have gA : hA'.get? h.objs.size = some { cls := .type "tuple_iterator", data := .fields #[.ref t1, .int 0 0] } := by rw [← hA]; exact Heap.get?_push_size _ rfl
  generalize hB : hA'.push { cls := .type "tuple_iterator", data := .fields #[.ref t2, .int 0 0] } = hB'
  have sB : hB'.objs.size = h.objs.size + 2 := by rw [← hB, Heap.size_push, sA]
  have gB : hB'.get? (h.objs.size + 1) = some { cls := .type "tuple_iterator", data := .fields #[.ref t2, .int 0 0] } := by rw [← hB, ← sA]; exact Heap.get?_push_size _ rfl
  generalize hC : hB'.push { cls := .type "tuple", data := .seq #[.ref h.objs.size, .ref (h.objs.size + 1)] } = hC'
  have sC : hC'.objs.size = h.objs.size + 3 := by rw [← hC, Heap.size_push, sB]
  have gC : hC'.get? (h.objs.size + 2) = some { cls := .type "tuple", data := .seq #[.ref h.objs.size, .ref (h.objs.size + 1)] } := by rw [← hC, ← sB]; exact Heap.get?_push_size _ rfl
  generalize hD : hC'.push { cls := .type "tuple", data := .seq #[.none, .none] } = hD'
  have sD : hD'.objs.size = h.objs.size + 4 := by rw [← hD, Heap.size_push, sC]
  have gD : hD'.get? (h.objs.size + 3) = some { cls := .type "tuple", data := .seq #[.none, .none] } := by rw [← hD, ← sC]; exact Heap.get?_push_size _ rfl
  have kB : ∀ b o, hA'.get? b = some o → hB'.get? b = some o := fun b o e  => by rw [← hB]; exact Heap.get?_push_of_some _ e
  have kC : ∀ b o, hB'.get? b = some o → hC'.get? b = some o := fun b o e  => by rw [← hC]; exact Heap.get?_push_of_some _ e
  have kD : ∀ b o, hC'.get? b = some o → hD'.get? b = some o := fun b o e  => by rw [← hD]; exact Heap.get?_push_of_some _ e
  have kE : ∀ (x : Obj) b o, hD'.get? b = some o → (hD'.push x).get? b = some o := fun x b o e  => Heap.get?_push_of_some _ e
  refine ⟨by show (hD'.push _).get? _ = _; rw [← sD]; exact Heap.get?_push_size _ rfl, kE _ _ _ (kD _ _ gC), kE _ _ _ gD, ⟨_, kE _ _ _ (kD _ _ (kC _ _ (kB _ _ gA))), rfl, rfl⟩, ⟨_, kE _ _ _ (kD _ _ (kC _ _ gB)), rfl, rfl⟩,
    by rw [Heap.size_push, sD], fun b o e  => kE _ _ _ (kD _ _ (kC _ _ (kB _ _ (by rw [← hA]; exact Heap.get?_push_of_some _ e))))⟩
noncomputable def SrcPost (X : Fix) (l : List Env) (g : GW) (s : Shared) (k : Src → Sto → Bool) (it : Value) (s₂ : Shared) : Prop :=
  ∃ I ws src g' σ', it = .ref I ∧ To X noS l g s g' s₂ ∧ HR X g' σ' s₂.heap ∧ IterR X g' s₂.heap I ws src ∧ (∀ b ∈ ws, Own X g' b ∧ s.heap.objs.size ≤ b) ∧ k src σ' = true

section
variable {X : Fix} (O : FixOK X) {d : Nat} {L : Lvl} (H : LvOK X d L) {A : Around} {fe : Env} {outer : List Env} {F : Addr} {c : Env} {ρ : Fr} {g : GW} {σ : Sto} {s : Shared} {kx : KX}
include O H

omit O H in
set_option tactic.hygienic false in
theorem SrcPost.base {l : List Env} {g₁ : GW} {s₁ s₂ : Shared} {k : Src → Sto → Bool} {it : Value} (t : To X noS l g s g₁ s₁) (x : SrcPost X l g₁ s₁ k it s₂) : SrcPost X l g s k it s₂ := by
  obtain ⟨I, ws, src, g', σ', e, t', r1, r2, r3, r4⟩ := x
  exact ⟨I, ws, src, g', σ', e, t.trans t', r1, r2, fun b hb  => ⟨(r3 b hb).1, Nat.le_trans t.st.size (r3 b hb).2⟩, r4⟩

omit H in
set_option tactic.hygienic false in
theorem iterP_ok {l : List Env} (R : HR X g σ s.heap) {p : PV} {v : Value} {src : Src} {k : Src → Sto → Bool} (r : RepV X g v p) (h : srcOf σ p = some src) (hk : k src σ = true) {E : Value → Shared → Prop} :
    wpAny (model X.prog X.w) A (pyIter v) (SrcPost X l g s k) E s := by
  have own : Own X g s.heap.objs.size := let ⟨a, b, c⟩ := R.fresh (Nat.le_refl _); ⟨a, b, c⟩
  cases p with
  | tup =>
    cases h
    obtain ⟨t, vs, n, rfl, e, q⟩ := r.iT
    · refine wpAny_pyIter_tuple (items := vs) ⟨_, R.frz _ _ e, rfl, n, rfl⟩ ?_
      obtain ⟨t1, R1, ho, zz⟩ := vg_new O R (l := l) (S := noS) (o := { cls := .type "tuple_iterator", data := .fields #[.ref t, .int 0 0] }) rfl
      refine ⟨_, [s.heap.objs.size], .tup _, g, σ, rfl, t1, R1, ⟨rfl, t, vs, n, 0, ⟨_, ho, rfl, rfl⟩, e, by simpa using q⟩, fun b hb  => ?_, hk⟩
      simp at hb; subst hb; exact ⟨own, Nat.le_refl _⟩
  | lst i =>
      refine ifE' h nS ?_; clear h; intro xs e h
      cases h
      obtain ⟨a, vs, rfl, hi, hl, q, zz⟩ := RepV.isList R r e
      refine wpAny_pyIter_list hl ?_
      obtain ⟨t1, R1, ho, zz⟩ := vg_new O R (l := l) (S := noS) (o := { cls := .type "list_iterator", data := .fields #[.ref a, .int 0 0] }) rfl
      refine ⟨_, [s.heap.objs.size], .lst _ 0, g, σ, rfl, t1, R1, ⟨rfl, a, ⟨_, ho, rfl, rfl⟩, hi⟩, fun b hb  => ?_, hk⟩
      simp at hb; subst hb; exact ⟨own, Nat.le_refl _⟩
  | _ => exact absN h

omit H in
set_option tactic.hygienic false in
theorem range_ok {l : List Env} (R : HR X g σ s.heap) {a b : Int} {t u v : Tok} {r : Addr} {k : Src → Sto → Bool} (hr : IsRange s.heap r a b 1 t u v) (ha : smallI a = true) (hb : smallI b = true) (hk : k (.rng a (b - a).toNat) σ = true) {E : Value → Shared → Prop} :
    wpAny (model X.prog X.w) A (pyIter (.ref r)) (SrcPost X l g s k) E s := by
  have own : Own X g s.heap.objs.size := let ⟨a, b, c⟩ := R.fresh (Nat.le_refl _); ⟨a, b, c⟩
  have ha' := Nat.le_of_ble_eq_true ha
  have hb' := Nat.le_of_ble_eq_true hb
  refine wpAny_pyIter_range hr (small_one (by (with_reducible exact Mine.ar47 (by assumption))) (by (with_reducible exact Mine.ar48 (by assumption))) (by (with_reducible exact Mine.ar47 (by assumption))) (by (with_reducible exact Mine.ar48 (by assumption)))) ?_
  obtain ⟨t1, R1, ho, zz⟩ := vg_new O R (l := l) (S := noS) (o := { cls := .type "range_iterator", data := .fields #[rawInt a, rawInt (Builtin.Range.rangeSize a b 1), rawInt 1] }) rfl
  refine ⟨_, [s.heap.objs.size], .rng a (b - a).toNat, g, σ, rfl, t1, R1, ⟨rfl, ?_⟩, fun b hb  => ?_, hk⟩
  · have e : (((b - a).toNat : Nat) : Int) = Builtin.Range.rangeSize a b 1 := by rw [rangeSize_one]; split <;> omega
    rw [e]; exact ho
  · simp at hb; subst hb; exact ⟨own, Nat.le_refl _⟩

omit H in
set_option tactic.hygienic false in
theorem rng_run {l : List Env} {E : Value → Shared → Prop} (R : HR X g σ s.heap) {vs : List Value} {ps : List PV} {k : Src → Sto → Bool} (rp : RepL X g vs ps) (h : evRng k ps σ = true) :
    wpAny (model X.prog X.w) A (call (.type "range") vs) (fun v s₁  => wpAny (model X.prog X.w) A (pyIter v) (SrcPost X l g s k) E s₁) E s := by
  cases ps with
  | nil => exact absF h
  | cons p ps => cases ps with
    | nil =>
      revert rp
      refine pintE h fT fun n h rp  => ifB h fT fun hn h  => ?_
      obtain ⟨v, rfl, r⟩ := rp.one
      obtain ⟨zz, rfl⟩ := r.iI
      refine call_range_1 ?_
      obtain ⟨t1, R1, ho, zz⟩ := vg_new O R (l := l) (S := noS) (o := { cls := .type "range", data := .fields #[.int 0 s.toks, .int n _, .int 1 (s.toks + 1)] }) rfl
      refine wpAny_mono (range_ok O (s := { s with heap := s.heap.push { cls := .type "range", data := .fields #[.int 0 s.toks, .int n _, .int 1 (s.toks + 1)] }, toks := s.toks + 1 + 1 }) R1 ho (by decide) hn (by simpa using h) (E := E)) (fun zz zz q  => q.base (t1.toks _)) fun zz zz q  => q
    | cons q ps =>
      revert rp
      refine nilE h fT fun h  => pintE h fT fun a h  => pintE h fT fun b h rp  => ifB h fT fun hn h  => band2 hn fun hn1 hn2  => ?_
      obtain ⟨v, u, rfl, r1, r2⟩ := rp.two
      obtain ⟨zz, rfl⟩ := r1.iI; obtain ⟨zz, rfl⟩ := r2.iI
      refine call_range_2 ?_
      obtain ⟨t1, R1, ho, zz⟩ := vg_new O R (l := l) (S := noS) (o := { cls := .type "range", data := .fields #[.int a _, .int b _, .int 1 s.toks] }) rfl
      refine wpAny_mono (range_ok O (s := { s with heap := s.heap.push { cls := .type "range", data := .fields #[.int a _, .int b _, .int 1 s.toks] }, toks := s.toks + 1 }) R1 ho hn1 hn2 h (E := E)) (fun zz zz q  => q.base (t1.toks _)) fun zz zz q  => q
omit H in
set_option tactic.hygienic false in
theorem zip_run {l : List Env} {E : Value → Shared → Prop} (R : HR X g σ s.heap) {vs : List Value} {ps : List PV} {k : Src → Sto → Bool} (rp : RepL X g vs ps) (h : twoK false ps (fun p q  => ptupK false p fun xs  => ptupK false q fun ys  => k (.zip xs ys) σ) = true) :
    wpAny (model X.prog X.w) A (call (.type "zip") vs) (fun v s₁  => wpAny (model X.prog X.w) A (pyIter v) (SrcPost X l g s k) E s₁) E s := by
  revert rp
  refine twoE h fT fun p q h  => ptupE h fT fun xs h  => ptupE h fT fun ys h rp  => ?_
  obtain ⟨v, u, rfl, r1, r2⟩ := rp.two
  obtain ⟨a1, vs1, n1, rfl, e1, q1⟩ := r1.iT
  obtain ⟨a2, vs2, n2, rfl, e2, q2⟩ := r2.iT
  refine call_zipT (xs := vs1) (ys := vs2) ⟨_, R.frz _ _ e1, rfl, n1, rfl⟩ ⟨_, R.frz _ _ e2, rfl, n2, rfl⟩ ?_
  obtain ⟨z1, z2, z3, z4, z5, z6, z7⟩ := zipHeap_at s.heap a1 a2
  refine wpAny_pyIter_zip (s := { s with heap := zipHeap s.heap a1 a2 }) z1 ?_
  have hsz : s.heap.objs.size ≤ (zipHeap s.heap a1 a2).objs.size := by rw [z6]; (with_reducible exact Mine.ar61)
  refine ⟨_, [s.heap.objs.size + 4, s.heap.objs.size + 2, s.heap.objs.size + 3, s.heap.objs.size, s.heap.objs.size + 1], .zip xs ys, g, σ, rfl, ⟨Stp.heap hsz fun b o e zz zz zz  => z7 b o e, rfl, rfl⟩, R.heap fun b o e zz  => z7 b o e,
    ⟨_, _, _, _, a1, a2, _, _, rfl, ?_, z1, z2, z3, ⟨vs1, n1, 0, z4, e1, by simpa using q1⟩, ⟨vs2, n2, 0, z5, e2, by simpa using q2⟩⟩, fun b hb  => ?_, h⟩
  · simp
  · have hge : s.heap.objs.size ≤ b := by
      simp at hb
      rcases hb with rfl | rfl | rfl | rfl | rfl
      · exact Nat.le_add_right _ _
      · exact Nat.le_add_right _ _
      · exact Nat.le_add_right _ _
      · exact Nat.le_refl _
      · exact Nat.le_add_right _ _
    obtain ⟨f1, f2, f3⟩ := R.fresh hge
    exact ⟨⟨f1, f2, f3⟩, hge⟩
omit O H in
set_option tactic.hygienic false in
theorem callF_eq {e : Expr} {c : Str × List Expr} (h : callF e = some c) : ∃ p p', e = .Call (.Name c.1 p) c.2 [] p' := by
  unfold callF at h
  refine call0E h nS ?_; clear h; intro g as ks p h; refine nilE h nS ?_; clear h; intro h; refine nameE h nS ?_; clear h; intro f q h
  obtain rfl := Option.some.inj h
  exact ⟨_, _, rfl⟩
set_option tactic.hygienic false in
theorem src_ok {cx : Cx} (hT : cx.T = X.T) (am : Amb X d A fe outer F c) (w : Wh X ρ c (fe :: outer) g σ s) {e : Expr} {k : Src → Sto → Bool} (h : evSrc cx L e ρ σ k kx = true) :
    wpAny (model X.prog X.w) A (eval e c) (fun v s₁  => wpAny (model X.prog X.w) A (pyIter v) (SrcPost X (fe :: outer) g s k) (PX X noS (fe :: outer) F g s kx) s₁) (PX X noS (fe :: outer) F g s kx) s := by
  have plain : L.ev e ρ σ (fun p σ  => ifS false (srcOf σ p) fun s  => k s σ) kx = true →
      wpAny (model X.prog X.w) A (eval e c) (fun v s₁  => wpAny (model X.prog X.w) A (pyIter v) (SrcPost X (fe :: outer) g s k) (PX X noS (fe :: outer) F g s kx) s₁) (PX X noS (fe :: outer) F g s kx) s := by
    intro h
    refine vgo (H.ev am w e _ kx h) fun v g₁ σ₁ s₁ t R₁ ⟨p, rp, hk⟩ => ifE' hk fT fun src hs hk  => ?_
    exact wpAny_mono (iterP_ok O R₁ rp hs hk (E := PX X noS (fe :: outer) F g s kx)) (fun zz zz q  => q.base t) fun zz zz q  => q
  have bas : ∀ {g₁ : GW} {s₁ : Shared} {vs : List Value} {f : Value}, To X noS (fe :: outer) g s g₁ s₁ → wpAny (model X.prog X.w) A (call f vs) (fun v s₂  => wpAny (model X.prog X.w) A (pyIter v) (SrcPost X (fe :: outer) g₁ s₁ k) (PX X noS (fe :: outer) F g s kx) s₂) (PX X noS (fe :: outer) F g s kx) s₁ →
      wpAny (model X.prog X.w) A (call f vs) (fun v s₁  => wpAny (model X.prog X.w) A (pyIter v) (SrcPost X (fe :: outer) g s k) (PX X noS (fe :: outer) F g s kx) s₁) (PX X noS (fe :: outer) F g s kx) s₁ := fun t q  =>
    wpAny_mono q (fun zz zz q  => wpAny_mono q (fun zz zz q  => q.base t) fun zz zz q  => q) fun zz zz q  => q
  unfold evSrc at h
  cases hc : callF e with
  | none => rw [hc] at h; exact plain h
  | some z =>
    rw [hc] at h
    refine iteS h (fun hb h'  => ?_) (fun zz h1  => iteS h1 (fun hb h'  => ?_) (fun zz h'  => plain h'))
    · clear h plain; obtain ⟨zz, zz, rfl⟩ := callF_eq hc
      refine ifB h' fT fun hs h  => blt_call O H hT am w hb PyProof.Rows.boot_range (by decide) (.inr ⟨_, rfl⟩) hs h fun vs g₁ σ₁ s₁ ps t R₁ rp hk  => bas t (rng_run O R₁ rp hk)
    · clear h h1 plain; obtain ⟨zz, zz, rfl⟩ := callF_eq hc
      refine ifB h' fT fun hs h  => blt_call O H hT am w hb PyProof.Rows.boot_zip (by decide) (.inr ⟨_, rfl⟩) hs h fun vs g₁ σ₁ s₁ ps t R₁ rp hk  => bas t (zip_run O R₁ rp hk)
end
end Mine
end
section
open PySem PySem.W PyProof.Rows PySem.Calls PySem.SeqAt
set_option maxRecDepth 100000
set_option linter.unusedSectionVars false
namespace Mine
noncomputable def WS (ρ : Fr) (c : Env) : Addr → Prop := fun b => b = c.locals ∨ (ρ.lam = false ∧ ∃ z, lk z ρ.scope.names = some .cell ∧ c.cells.lookup z = some b)
structure SameFr (ρ ρ' : Fr) : Prop where
  scope : ρ'.scope = ρ.scope
  up : ρ'.up = ρ.up
  lam : ρ'.lam = ρ.lam
  q : ρ'.q = ρ.q
set_option tactic.hygienic false in
theorem SameFr.refl {ρ : Fr} : SameFr ρ ρ := ⟨rfl, rfl, rfl, rfl⟩
set_option tactic.hygienic false in
theorem SameFr.trans {ρ ρ' ρ'' : Fr} (x : SameFr ρ ρ') (y : SameFr ρ' ρ'') : SameFr ρ ρ'' := ⟨y.scope.trans x.scope, y.up.trans x.up, y.lam.trans x.lam, y.q.trans x.q⟩
set_option tactic.hygienic false in
theorem WS.same {ρ ρ' : Fr} {c : Env} (x : SameFr ρ ρ') : WS ρ' c = WS ρ c := by unfold WS; rw [x.scope, x.lam]
set_option tactic.hygienic false in
theorem FramesOK.writes {X : Fix} {ρ ρ' : Fr} {c : Env} {FS g h g' h'} {l : List Env} (x : FramesOK X g h l) (fr : FrR X g ρ c h) (y : Stp X (WS ρ c) FS g h g' h') (fr' : FrR X g' ρ' c h') : FramesOK X g' h' l := by
  intro env he
  obtain ⟨hk, L, o, hf, h1, h2, h3, h4, es, n, h5⟩ := x env he
  obtain ⟨f1, f2⟩ := y.fresh h4 h1 h2
  by_cases hL : L = c.locals
  · obtain ⟨m, ⟨o', es', ep', e1, e2, zz⟩, zz⟩ := fr'.loc
    exact ⟨hk, L, o', hf, f1, f2, h3, by rw [hL]; exact e1, es', ep', e2⟩
  · have hS : ¬ WS ρ c L := by
      rintro (q | ⟨zz, z, hz, hc⟩)
      · exact hL q
      · obtain ⟨a, v, e1, ⟨oc, e2, e3⟩, zz⟩ := fr.own z hz
        rw [hc] at e1; cases e1
        rw [h4] at e2; cases e2
        rw [h5] at e3; cases e3
    obtain ⟨o', e1, e2, zz⟩ := y.keepData h4 hS h2 h3
    exact ⟨hk, L, o', hf, f1, f2, h3, e1, es, n, e2.trans h5⟩
set_option tactic.hygienic false in
theorem Wh.writes {X : Fix} {ρ ρ' : Fr} {c : Env} {l : List Env} {g g₁ : GW} {σ σ₁ : Sto} {s s₁ : Shared} (w : Wh X ρ c l g σ s) (t : To X (WS ρ c) l g s g₁ s₁) (R : HR X g₁ σ₁ s₁.heap) (fr : FrR X g₁ ρ' c s₁.heap) : Wh X ρ' c l g₁ σ₁ s₁ :=
  ⟨R, w.fs.writes w.fr t.st fr, fr⟩
noncomputable def AssPost (X : Fix) (ρ : Fr) (c : Env) (l : List Env) (g : GW) (σ : Sto) (s : Shared) (k : Fr → Bool) : Shared → Prop := fun s' =>
  ∃ ρ', To X (WS ρ c) l g s g s' ∧ HR X g σ s'.heap ∧ FrR X g ρ' c s'.heap ∧ SameFr ρ ρ' ∧ k ρ' = true

section
variable {X : Fix} {A : Around} {c : Env} {ρ : Fr} {g : GW} {σ : Sto} {s : Shared} {l : List Env} {E : Value → Shared → Prop}

set_option tactic.hygienic false in
theorem FrR.cellNe {h : Heap} (x : FrR X g ρ c h) {z : Str} {a : Addr} {v : Option Value} (e : c.cells.lookup z = some a) (hc : h.IsCell a v) : a ≠ c.locals := by
  rintro rfl
  obtain ⟨m, ⟨o, es, ep, e1, e2, zz⟩, zz⟩ := x.loc
  obtain ⟨oc, e3, e4⟩ := hc
  rw [e1] at e3; cases e3
  rw [e2] at e4; cases e4

theorem ass1_ok (hfr : FrR X g ρ c s.heap) (R : HR X g σ s.heap) {x : Str} {p : PV} {v : Value} {ρ' : Fr} (h : ass1 x p ρ = some ρ') (r : RepV X g v p) {k : Fr → Bool} (hk : k ρ' = true) :
    wpAny (model X.prog X.w) A (storeName c x v) (fun zz s'  => AssPost X ρ c l g σ s k s') E s := by
  unfold ass1 at h
  split at h
  · rename_i e
    cases h
    obtain ⟨m, hns, hm⟩ := hfr.loc
    have hkd : c.kindOf x = some .local := by
      rcases hfr.names _ _ e with hkd | ⟨hkd, zz⟩
      · exact hkd
      · cases hkd
    refine wpAny_storeName_local hkd hns (fun h' hn' hs'  => ?_) (by rw [hfr.kind]; rfl)
    have nP := hfr.locOk.2.2
    have kp : ∀ b o, h'.get? b = some o → b ≠ c.locals → s.heap.get? b = some o := fun b o e nb  => (hs'.2 b nb).symm.trans e
    have R' : HR X g σ h' := R.heap fun b o e q  => (hs'.2 b (neW hfr.locOk.1 hfr.locOk.2.1 nP q)).trans e
    refine ⟨{ ρ with vars := put x p ρ.vars }, ⟨Stp.heap (Nat.le_of_eq hs'.1.symm) fun b o e nb zz zz  => (hs'.2 b fun q  => nb (.inl q)).trans e, rfl, rfl⟩, R', ⟨hfr.kind, hfr.glob, hfr.blt, hfr.names, ⟨_, hn', fun z q e1 e2  => ?_⟩, hfr.locOk, fun z q e1  => ?_, fun z e1  => ?_, hfr.inj, fun z a e1  => ?_, hfr.shw⟩, ⟨rfl, rfl, rfl, rfl⟩, hk⟩
    · rw [lk_put] at e2
      split at e2
      · rename_i hz; cases e2; exact ⟨v, by simp [hz], r⟩
      · rename_i hz
        obtain ⟨u, e3, r3⟩ := hm z q e1 e2
        exact ⟨u, by simp [hz, e3], r3⟩
    · have e1' : lk z ρ.scope.names = some .cell ∧ lk z ρ.vars = some q ∨ lk z ρ.scope.names = some .free ∧ lk z ρ.up = some q := by
        rcases e1 with ⟨a1, a2⟩ | a
        · refine .inl ⟨a1, ?_⟩
          rw [lk_put] at a2
          split at a2
          · rename_i hz; subst hz; rw [e] at a1; cases a1
          · exact a2
        · exact .inr a
      obtain ⟨a, u, f1, ⟨oc, f2, f3⟩, f4⟩ := hfr.cell z q e1'
      exact ⟨a, u, f1, ⟨oc, (hs'.2 _ (hfr.cellNe f1 ⟨oc, f2, f3⟩)).trans f2, f3⟩, f4⟩
    · obtain ⟨a, u, f1, ⟨oc, f2, f3⟩, f4⟩ := hfr.own z e1
      exact ⟨a, u, f1, ⟨oc, (hs'.2 _ (hfr.cellNe f1 ⟨oc, f2, f3⟩)).trans f2, f3⟩, f4⟩
    · obtain ⟨⟨u, oc, f2, f3⟩, f4⟩ := hfr.all z a e1
      exact ⟨⟨u, oc, (hs'.2 _ (hfr.cellNe e1 ⟨oc, f2, f3⟩)).trans f2, f3⟩, f4⟩
  · rename_i e
    split at h
    · cases h
    · rename_i hlam
      have hlam' : ρ.lam = false := by simpa using hlam
      cases h
      obtain ⟨a, v0, c1, c2, c3, c4, c5⟩ := hfr.own x e
      have hkd : c.kindOf x = some .cell := by
        rcases hfr.names _ _ e with hkd | ⟨hkd, zz⟩
        · exact hkd
        · cases hkd
      have haL := hfr.cellNe c1 c2
      refine wpAny_storeName_cell hfr.kind hkd c1 c2 fun h' hc' hs'  => ?_
      have nf := c5 hlam'
      have R' : HR X g σ h' := R.heap fun b o e q  => (hs'.2 b (neW nf c3 c4 q)).trans e
      refine ⟨{ ρ with vars := put x p ρ.vars }, ⟨Stp.heap (Nat.le_of_eq hs'.1.symm) fun b o eo nb zz zz  => (hs'.2 b fun q  => nb (.inr ⟨hlam', x, e, by rw [q]; exact c1⟩)).trans eo, rfl, rfl⟩, R', ⟨hfr.kind, hfr.glob, hfr.blt, hfr.names, ?_, hfr.locOk, fun z q e1  => ?_, fun z e1  => ?_, hfr.inj, fun z b e1  => ?_, hfr.shw⟩, ⟨rfl, rfl, rfl, rfl⟩, hk⟩
      · obtain ⟨m, hns, hm⟩ := hfr.loc
        refine ⟨m, Ns.ofData hns fun o ho  => ⟨o, (hs'.2 _ (Ne.symm haL)).trans ho, rfl⟩, fun z q e1 e2  => hm z q e1 ?_⟩
        rw [lk_put] at e2
        split at e2
        · rename_i hz; subst hz; rw [e] at e1; cases e1
        · exact e2
      · by_cases hz : z = x
        · subst hz
          rcases e1 with ⟨a1, a2⟩ | ⟨a1, zz⟩
          · rw [lk_put, if_pos rfl] at a2
            cases a2
            exact ⟨a, v, c1, hc', r, c3, c4, (fun hl  => absurd (show ρ.lam = true from hl) (by rw [hlam']; simp)), fun zz  => nf⟩
          · rw [e] at a1; cases a1
        · have e1' : lk z ρ.scope.names = some .cell ∧ lk z ρ.vars = some q ∨ lk z ρ.scope.names = some .free ∧ lk z ρ.up = some q := by
            rcases e1 with ⟨a1, a2⟩ | a
            · refine .inl ⟨a1, ?_⟩
              rw [lk_put, if_neg hz] at a2
              exact a2
            · exact .inr a
          obtain ⟨b, u, f1, ⟨oc, f2, f3⟩, f4⟩ := hfr.cell z q e1'
          have hb : b ≠ a := fun q  => hz (hfr.inj z x a (by rw [← q]; exact f1) c1)
          exact ⟨b, u, f1, ⟨oc, (hs'.2 _ hb).trans f2, f3⟩, f4⟩
      · by_cases hz : z = x
        · subst hz; exact ⟨a, some v, c1, hc', c3, c4, c5⟩
        · obtain ⟨b, u, f1, ⟨oc, f2, f3⟩, f4⟩ := hfr.own z e1
          have hb : b ≠ a := fun q  => hz (hfr.inj z x a (by rw [← q]; exact f1) c1)
          exact ⟨b, u, f1, ⟨oc, (hs'.2 _ hb).trans f2, f3⟩, f4⟩
      · obtain ⟨⟨u, oc, f2, f3⟩, f4⟩ := hfr.all z b e1
        by_cases hb : b = a
        · subst hb; exact ⟨⟨_, hc'⟩, f4⟩
        · exact ⟨⟨u, oc, (hs'.2 _ hb).trans f2, f3⟩, f4⟩
  · cases h

set_option tactic.hygienic false in
theorem AssPost.base {ρ₁ : Fr} {s₁ s₂ : Shared} {k : Fr → Bool} (t : To X (WS ρ c) l g s g s₁) (e : SameFr ρ ρ₁) (x : AssPost X ρ₁ c l g σ s₁ k s₂) : AssPost X ρ c l g σ s k s₂ := by
  obtain ⟨ρ', t', r1, r2, r3, r4⟩ := x
  exact ⟨ρ', t.trans (by rw [← WS.same (c := c) e]; exact t'), r1, r2, e.trans r3, r4⟩

set_option tactic.hygienic false in
theorem assignEach_cons {e : Expr} {r : List Expr} {c : Env} (h : noStar e = true) : assignEach (e :: r) c = (false, assign e c) :: assignEach r c := by
  cases e <;> first | rfl | (cases h; done)
set_option tactic.hygienic false in
theorem assL_len {f : Expr → PV → Fr → Option Fr} : ∀ (ts : List Expr) {vs : List Value} {ps : List PV} {ρ ρ' : Fr}, ts.all noStar = true → assL f ts ps ρ = some ρ' → RepL X g vs ps →
      (assignEach ts c).length = vs.length ∧ (assignEach ts c).findIdx? (·.1) = none
  | [], vs, [], _, _, _, h, q => by obtain rfl := q.i0; exact ⟨rfl, rfl⟩
  | [], _, _ :: _, _, _, _, h, _ => by cases h
  | _ :: _, _, [], _, _, _, h, _ => by cases h
  | t :: ts, vs, p :: ps, ρ, ρ', hs, h, q => by
    obtain ⟨v, vs, rfl, a, b⟩ := q.i1
    rw [List.all_cons, Bool.and_eq_true] at hs
    refine ifE' h nS fun ρ₁ e h => ?_
    obtain ⟨i1, i2⟩ := assL_len ts hs.2 h b
    rw [assignEach_cons hs.1]
    exact ⟨by rw [List.length_cons, List.length_cons, i1], by rw [List.findIdx?_cons, i2]; rfl⟩
theorem assL_ok {f : Expr → PV → Fr → Option Fr} (hf : ∀ {ρ : Fr} {s : Shared} {t : Expr} {p : PV} {v : Value} {ρ' : Fr} {k : Fr → Bool}, FrR X g ρ c s.heap → HR X g σ s.heap → f t p ρ = some ρ' → RepV X g v p → k ρ' = true →
      wpAny (model X.prog X.w) A (assign t c v) (fun zz s'  => AssPost X ρ c l g σ s k s') E s) :
    ∀ (ts : List Expr) {ρ : Fr} {s : Shared} {vs : List Value} {ps : List PV} {ρ' : Fr} {k : Fr → Bool}, ts.all noStar = true → FrR X g ρ c s.heap → HR X g σ s.heap → assL f ts ps ρ = some ρ' → RepL X g vs ps → k ρ' = true →
      wpAny (model X.prog X.w) A (assignInOrder ((assignEach ts c).map (·.2)) vs) (fun zz s'  => AssPost X ρ c l g σ s k s') E s
  | [], ρ, s, vs, [], ρ', k, _, fr, R, h, q, hk => by obtain rfl := q.i0; cases h; exact wpAny_pure (a := ()) ⟨ρ, To.refl, R, fr, .refl, hk⟩
  | [], _, _, _, _ :: _, _, _, _, _, _, h, _, _ => by cases h
  | _ :: _, _, _, _, [], _, _, _, _, _, h, _, _ => by cases h
  | t :: ts, ρ, s, ws, p :: ps, ρ', k, hs, fr, R, h, q0, hk => by
    obtain ⟨v, vs, rfl, a, b⟩ := q0.i1
    rw [List.all_cons, Bool.and_eq_true] at hs
    refine ifE' h nS fun ρ₁ e h => ?_
    rw [assignEach_cons hs.1, List.map_cons]
    refine PyProof.Rows.assignInOrder_cons (wpAny_mono (hf (k := fun ρ₂  => ifS false (assL f ts ps ρ₂) k) fr R e a (by rw [h]; exact hk)) (fun zz s₁ q  => ?_) fun zz zz q  => q)
    obtain ⟨ρ₂, t₂, R₂, fr₂, e₂, k₂⟩ := q
    exact ifE' k₂ fT fun ρ₃ h₂ k₂ => wpAny_mono (assL_ok hf ts hs.2 fr₂ R₂ h₂ b k₂) (fun zz s' q  => AssPost.base t₂ e₂ q) fun zz zz q  => q

set_option tactic.hygienic false in
theorem assN_ok (hh : A.handled = none) : ∀ (n : Nat) {ρ : Fr} {s : Shared} {t : Expr} {p : PV} {v : Value} {ρ' : Fr} {k : Fr → Bool}, FrR X g ρ c s.heap → HR X g σ s.heap → assN n t p ρ = some ρ' → RepV X g v p → k ρ' = true →
      wpAny (model X.prog X.w) A (assign t c v) (fun zz s'  => AssPost X ρ c l g σ s k s') E s
  | 0, _, _, _, _, _, _, _, _, _, h, _, _ => by cases h
  | n + 1, ρ, s, t, p, v, ρ', k, fr, R, h, r, hk => by
    cases t with
    | Name x pos => exact PyProof.Rows.assign_Name (ass1_ok fr R h r hk)
    | Tuple ts x1 pos =>
      revert r
      refine ptupE h nS fun ps h r  => ifB h nS fun hs h  => ?_
      obtain ⟨a, vs, rfl, ht, q⟩ := RepV.isTuple R r
      obtain ⟨i1, i2⟩ := assL_len (c := c) ts hs h q
      rw [assign_Tuple]
      refine wpAny_bind (wpAny_standAt ?_)
      unfold unpack
      rw [show (assignEach ts c).length = vs.size by rw [i1, Array.length_toList], i2]
      refine wpAny_bind (wpAny_holding (wpAny_mono (wpAny_sized (Q := fun xs s'  => ∃ h', xs = vs.toList ∧ s' = { s with heap := h' } ∧ Heap.ExtBut s.heap.objs.size s.heap h') (E := E) (PyProof.Rows.unpackItems_tuple hh ht fun h' he  => ⟨h', rfl, rfl, he⟩)) (fun xs s' ⟨⟨h', e1, e2, he⟩, hz⟩ => ?_) fun zz zz q  => q.1))
      subst e1; subst e2
      have kp : ∀ b o, s.heap.get? b = some o → h'.get? b = some o := fun b o e  => he b o (fun q  => Nat.lt_irrefl _ (by rw [q] at e; exact Heap.lt_size e)) e
      have R' : HR X g σ h' := R.heap fun b o e zz  => kp b o e
      have st : Stp X (WS ρ c) (fsOf l) g s.heap g h' := Stp.heap hz fun b o e zz zz zz  => kp b o e
      have fr' : FrR X g ρ c h' := fr.step (S := noS) (FS := fsOf l) (Stp.heap hz fun b o e zz zz zz  => kp b o e) (fun q  => q) fun zz zz zz zz zz q  => q
      exact wpAny_mono (assL_ok (A := A) (E := E) (l := l) (s := { s with heap := h' }) (fun a b c d e  => assN_ok hh n a b c d e) ts hs fr' R' h q hk) (fun zz s' q  => AssPost.base (s₁ := { s with heap := h' }) ⟨st, rfl, rfl⟩ .refl q) fun zz zz q  => q
    | _ => exact absN h
end
end Mine
end
section
open PySem PySem.W PyProof.Rows PySem.Calls PySem.SeqAt
set_option maxRecDepth 100000
set_option linter.unusedSectionVars false
namespace Mine

section
variable {M : Model} {A : Around} {E : Value → Shared → Prop} {s : Shared} {env : Env}
noncomputable def CPost (M : Model) (A : Around) (E : Value → Shared → Prop) (use : Option (Value → Sem Unit)) (Q : Value → Shared → Prop) (acc : Value) (cenv : Env) (r : Result) (s' : Shared) : Prop :=
  match r, use with
  | .ok _, none => ∃ m, s'.heap.Ns cenv.locals m ∧ ∀ h', Heap.SameBut cenv.locals s'.heap h' → Q acc { s' with heap := h' }
  | .ok _, some u => wpAny M A (u acc) (fun _ s'' => ∃ m, s''.heap.Ns cenv.locals m ∧ ∀ h', Heap.SameBut cenv.locals s''.heap h' → Q .none { s'' with heap := h' }) E s'
  | .error x, _ => ∃ m, s'.heap.Ns cenv.locals m ∧ ∀ h', Heap.SameBut cenv.locals s'.heap h' → wpAny M A (PySem.passOn "comprehension.variables-let-go" x cenv : Sem Value) (fun _ _ => False) E { s' with heap := h' }
set_option tactic.hygienic false in
theorem comp_run {e : Expr} {scope : Scope} {pos : Pos} {newAcc first : Sem Value} {g : Comprehension} {gs : List Comprehension} {cl : List (Str × Addr)} {use : Option (Value → Sem Unit)} {Q : Value → Shared → Prop}
    (hcl : clausesOf e = g :: gs) (hs : ∀ x, foldedSetIterable g.iter env x = pure x) (hclos : closureFor scope env = pure cl) (hkind : scope.kind = .function) (hnames : ∀ x ∈ scope.names, x.2 = .local → scope.names.lookup x.1 = some .local)
    (h : wpAny M A first (fun x s₁  => wpAny M A (pyIter x) (fun it s₂  => wpAny M A newAcc (fun acc s₃  => wpAny M A (newFunctionEnv scope env.globals cl [] env.qual none .none (some env)) (fun cenv s₄  =>
        codeAny M A (.compStart e 0 it acc { cenv with scope := relabel scope env }) (CPost M A E use Q acc { cenv with scope := relabel scope env }) s₄) E s₃) E s₂) E s₁) E s) :
    wpAny M A (comprehension e scope env pos newAcc false first use) Q E s := by
  unfold comprehension
  rw [hclos, hcl]
  refine wpAny_bind (wpAny_mono h (fun x s₁ h₁  => wpAny_bind (wpAny_standAt (wpAny_bind (wpAny_of_eq (hs x) (wpAny_bind (wpAny_holding (wpAny_mono h₁ (fun it s₂ h₂  =>
    wpAny_standIf (wpAny_bind (wpAny_mono h₂ (fun acc s₃ h₃  => wpAny_bind (wpAny_pure (wpAny_bind (wpAny_mono h₃ (fun cenv s₄ h₄  => ?_) fun zz zz h'  => h')))) fun zz zz h'  => h')))
      fun zz zz h'  => h'))))))) fun zz zz h'  => h')
  dsimp only
  have hv : ∀ x ∈ (scope.names.filter fun x  => (x.2 == .local || x.2 == .cell) && x.1 != (".0" : Str)).reverse, x.2 = .local →
      Env.kindOf { cenv with scope := relabel scope env } x.1 = some .local := fun x hx hl  => lookup_relabel_local (hnames x (List.mem_filter.mp (List.mem_reverse.mp hx)).1 hl)
  have hv' : ∀ x ∈ (scope.names.filter fun x  => (x.2 == .local || x.2 == .cell) && x.1 != (".0" : Str)).reverse.drop 1 ++ (scope.names.filter fun x  => (x.2 == .local || x.2 == .cell) && x.1 != (".0" : Str)).reverse.take 1,
      x.2 = .local → Env.kindOf { cenv with scope := relabel scope env } x.1 = some .local := fun x hx hl  => by
    rcases List.mem_append.mp hx with h1 | h1
    · exact hv x (List.mem_of_mem_drop h1) hl
    · exact hv x (List.mem_of_mem_take h1) hl
  refine wpAny_holding (wpAny_bind (wpAny_attempt (wpAny_holding (wpAny_run (codeAny_mono h₄ fun r s' hr  => ?_)))))
  cases r with
  | ok f =>
    cases use with
    | none =>
      obtain ⟨m, hn, hr⟩ := hr
      exact wpAny_bind (wpAny_holding (wpAny_comp_letGo (cenv := { cenv with scope := relabel scope env }) hkind _ s' m hv hn fun h' m' zz hs'  => wpAny_pure (hr h' hs')))
    | some u =>
      refine wpAny_bind (wpAny_rule (wpAny_bind (wpAny_holding (wpAny_mono hr (fun zz s'' hr'  => ?_) fun zz zz h'  => h'))))
      obtain ⟨m, hn, hr'⟩ := hr'
      exact wpAny_bind (wpAny_comp_letGo (cenv := { cenv with scope := relabel scope env }) hkind _ s'' m hv' hn fun h' m' zz hs'  => wpAny_pure (hr' h' hs'))
  | error x =>
    obtain ⟨m, hn, hr⟩ : ∃ m, s'.heap.Ns cenv.locals m ∧ ∀ h', Heap.SameBut cenv.locals s'.heap h' → wpAny M A (PySem.passOn "comprehension.variables-let-go" x { cenv with scope := relabel scope env } : Sem Value) (fun zz zz  => False) E { s' with heap := h' } := by
      cases use <;> exact hr
    exact wpAny_bind (wpAny_holding (wpAny_comp_letGo (cenv := { cenv with scope := relabel scope env }) hkind _ s' m hv hn fun h' m' zz hs'  => wpAny_mono (hr h' hs') (fun zz zz f  => f.elim) fun zz zz y  => y))
end

section
variable {prog : Program} {w : World} {A : Around} {E : Value → Shared → Prop} {R : Result → Shared → Prop} {s : Shared}
theorem comp_turn {elt target iter : Expr} {ifs : List Expr} {scope : Scope} {pos : Pos} {it acc : Value} {env : Env}
    (h : wpAny (model prog w) A (pyNext it) (fun r s₁  => match r with
      | none => R (.ok .next) s₁
      | some v => wpAny (model prog w) A (letOwnedTupleGo target it v) (fun zz s₁  => wpAny (model prog w) A (assign target env v) (fun zz s₂  =>
          wpAny (model prog w) A (forIn ifs true fun c r  => if r = true then do let ok ← isTrue c env (eval c env); pure (ForInStep.yield ok) else pure (ForInStep.yield r)) (fun ok s₃  =>
            if ok = true then wpAny (model prog w) A (eval elt env) (fun x s₄  =>
              wpAny (model prog w) A (call (.builtin "list.append") [acc, x]) (fun zz s₅  => codeAny (model prog w) A (.compLoop (.ListComp elt [⟨target, iter, ifs, 0⟩] scope pos) 0 it acc env) R s₅) (notedBy (model prog w) A env fun e s'  => R (.error e) s') s₄) (notedBy (model prog w) A env fun e s'  => R (.error e) s') s₃
            else codeAny (model prog w) A (.compLoop (.ListComp elt [⟨target, iter, ifs, 0⟩] scope pos) 0 it acc env) R s₃) (notedBy (model prog w) A env fun e s'  => R (.error e) s') s₂) (notedBy (model prog w) A env fun e s'  => R (.error e) s') s₁) (notedBy (model prog w) A env fun e s'  => R (.error e) s') s₁) (notedBy (model prog w) A env fun e s'  => R (.error e) s') s) :
    codeAny (model prog w) A (.compLoop (.ListComp elt [⟨target, iter, ifs, 0⟩] scope pos) 0 it acc env) R s := by
  refine codeAny_of_tree ?_
  show wpAny _ A ((compTurn (.ListComp elt [⟨target, iter, ifs, 0⟩] scope pos) 0 it acc env).onRaise (fun x  => do noteFrame x env; theTreesLotGoes x)) _ _ s
  refine wpAny_noted ?_
  rw [compTurn_list]
  refine wpAny_bind (wpAny_standAt (wpAny_bind (wpAny_mono h (fun r s₁ h₁  => ?_) fun zz zz h'  => h')))
  cases r with
  | none => exact wpAny_pure h₁
  | some v =>
    refine wpAny_bind (wpAny_mono h₁ (fun zz s₁' h₁'  => ?_) fun zz zz h'  => h')
    refine wpAny_bind (wpAny_mono h₁' (fun zz s₂ h₂  => wpAny_bind (wpAny_mono h₂ (fun ok s₃ h₃  => ?_) fun zz zz h'  => h')) fun zz zz h'  => h')
    cases ok with
    | false => exact wpAny_pure ⟨rfl, h₃⟩
    | true =>
      exact wpAny_bind (wpAny_bind (wpAny_mono h₃ (fun x s₄ h₄  => wpAny_bind (wpAny_mono h₄ (fun zz s₅ h₅  => wpAny_pure (wpAny_pure ⟨rfl, h₅⟩)) fun zz zz h'  => h')) fun zz zz h'  => h'))
end

section
variable {X : Fix} (O : FixOK X) {d : Nat} {L : Lvl} (H : LvOK X d L) {A : Around} {fe : Env} {outer : List Env} {F : Addr} {c : Env} {ρ : Fr} {g : GW} {σ : Sto} {s : Shared} {kx : KX}
include O H

omit O H in
set_option tactic.hygienic false in
theorem tests_false {ifs : List Expr} {Q : Bool → Shared → Prop} (h : Q false s) {E : Value → Shared → Prop} :
    wpAny (model X.prog X.w) A (forIn ifs false fun c' r  => if r = true then do let ok ← isTrue c' c (eval c' c); pure (ForInStep.yield ok) else pure (ForInStep.yield r)) Q E s := by
  induction ifs with
  | nil => exact wpAny_pure h
  | cons e r ih =>
    rw [List.forIn_cons]
    refine wpAny_bind ?_
    rw [if_neg (by simp)]
    exact wpAny_pure ih
omit O in
set_option tactic.hygienic false in
theorem tests_ok (am : Amb X d A fe outer F c) {k : Bool → Sto → Bool} : ∀ (ifs : List Expr) {g σ s} (_ : Wh X ρ c (fe :: outer) g σ s), allTests L ρ kx ifs σ k = true →
      wpAny (model X.prog X.w) A (forIn ifs true fun c' r  => if r = true then do let ok ← isTrue c' c (eval c' c); pure (ForInStep.yield ok) else pure (ForInStep.yield r)) (VG X noS (fe :: outer) g s (RB k)) (PX X noS (fe :: outer) F g s kx) s
  | [], g, σ, s, w, h => wpAny_pure (a := true) ⟨g, σ, To.refl, w.R, h⟩
  | e :: r, g, σ, s, w, h => by
    rw [List.forIn_cons]
    refine wpAny_bind ?_
    rw [if_pos rfl]
    refine wpAny_bind (vgo (H.tr am w e _ kx h) fun b g₁ σ₁ s₁ t R₁ hk  => ?_)
    refine wpAny_pure ?_
    have hk' : (if b = true then allTests L ρ kx r σ₁ k else k false σ₁) = true := hk
    cases b with
    | true => exact vre t (tests_ok am r (w.step t R₁) hk')
    | false => exact tests_false (VG.base t ⟨g₁, σ₁, To.refl, R₁, hk'⟩)

/-! the closure -/
noncomputable def clOf (c : Env) : List (Str × NameKind) → List (Str × Addr) → List (Str × Addr)
  | [], acc => acc
  | (x, k) :: r, acc => if k == .free then clOf c r ((x, (c.cells.lookup x).getD 0) :: acc) else clOf c r acc
omit O H in
set_option tactic.hygienic false in
theorem closure_ok {sc : Scope} {c : Env} (h : ∀ x, (x, NameKind.free) ∈ sc.names → ∃ a, c.cells.lookup x = some a) : closureFor sc c = pure (clOf c sc.names []) := by
  unfold closureFor
  have key : ∀ (l : List (Str × NameKind)) (acc : List (Str × Addr)), (∀ x, (x, NameKind.free) ∈ l → ∃ a, c.cells.lookup x = some a) →
      (forIn l acc fun (x : Str × NameKind) (cs : List (Str × Addr)) => (do if x.2 == .free then do let a ← cellOf c x.1; pure (ForInStep.yield ((x.1, a) :: cs)) else pure (ForInStep.yield cs) : Sem (ForInStep (List (Str × Addr))))) = pure (clOf c l acc) := by
    intro l
    induction l with
    | nil => intro acc zz; rfl
    | cons y r ih =>
      intro acc hl
      obtain ⟨x, k⟩ := y
      rw [List.forIn_cons, clOf]
      by_cases hk : (k == NameKind.free) = true
      · have hk' : k = .free := by simpa using hk
        subst hk'
        obtain ⟨a, ha⟩ := hl x (.head _)
        simp only [hk, if_true, cellOf, ha, pure_bind, Option.getD_some]
        exact ih _ fun z hz  => hl z (.tail _ hz)
      · simp only [hk, if_false, pure_bind]
        exact ih _ fun z hz  => hl z (.tail _ hz)
  exact (bind_pure _).trans (key sc.names [] h)
end
end Mine
end
section
open PySem PySem.W PyProof.Rows PySem.Calls PySem.SeqAt
set_option maxRecDepth 100000
set_option linter.unusedSectionVars false
namespace Mine

set_option tactic.hygienic false in
theorem Wh.stepS {X : Fix} {ρ : Fr} {c : Env} {l : List Env} {g g₁ : GW} {σ σ₁ : Sto} {s s₁ : Shared} {S : Addr → Prop} (w : Wh X ρ c l g σ s) (t : To X S l g s g₁ s₁) (R : HR X g₁ σ₁ s₁.heap)
    (h1 : ¬ S c.locals) (h2 : ∀ z a, c.cells.lookup z = some a → ¬ S a) (h3 : ∀ L ∈ fsOf l, ¬ S L) : Wh X ρ c l g₁ σ₁ s₁ :=
  ⟨R, w.fs.step t.st fun env he L hL  => h3 L (List.mem_filterMap.mpr ⟨env, he, hL⟩), w.fr.step t.st h1 fun z a zz e zz  => h2 z a e⟩
set_option tactic.hygienic false in
theorem To.kept {X : Fix} {S : Addr → Prop} {l : List Env} {g g₁ : GW} {s s₁ : Shared} (t : To X S l g s g₁ s₁) {b : Addr} (o : Own X g b) (h1 : ¬ S b) (h2 : b ∉ fsOf l) : ∀ ob, s.heap.get? b = some ob → s₁.heap.get? b = some ob := by
  intro ob e
  obtain ⟨o', e', q⟩ := t.st.keep b ob e h1 o.nl o.nP
  rcases q with rfl | ⟨q, zz⟩
  · exact e'
  · exact absurd q h2
set_option tactic.hygienic false in
theorem To.trans' {X : Fix} {S S' : Addr → Prop} {l : List Env} {g g₁ g₂ : GW} {s s₁ s₂ : Shared} (x : To X S l g s g₁ s₁) (y : To X S' l g₁ s₁ g₂ s₂) (h : ∀ b, S' b → S b ∨ s.heap.objs.size ≤ b) : To X S l g s g₂ s₂ :=
  ⟨x.st.trans' y.st h, y.gens.trans x.gens, y.os.trans x.os⟩
structure Lp (X : Fix) (l : List Env) (c : Env) (n₀ : Nat) (g : GW) (h : Heap) (I : Addr) (ws : List Addr) (src : Src) : Prop where
  it : IterR X g h I ws src
  own : ∀ b ∈ ws, Own X g b
  new : ∀ b ∈ ws, n₀ ≤ b
  loc : c.locals ∉ ws
  cel : ∀ z a, c.cells.lookup z = some a → a < n₀
  frs : ∀ L ∈ fsOf l, L < n₀
set_option tactic.hygienic false in
theorem Lp.go {X : Fix} {l : List Env} {c : Env} {n₀ : Nat} {g g₁ : GW} {s s₁ : Shared} {I : Addr} {ws : List Addr} {src : Src} {S : Addr → Prop} (x : Lp X l c n₀ g s.heap I ws src) (t : To X S l g s g₁ s₁) (hS : ∀ b ∈ ws, ¬ S b) : Lp X l c n₀ g₁ s₁.heap I ws src :=
  ⟨x.it.step t.st.gext fun b hb  => t.kept (x.own b hb) (hS b hb) fun q  => absurd (x.frs b q) (Nat.not_lt.mpr (x.new b hb)),
   fun b hb  => let ⟨_, e⟩ := x.it.mem b hb; (x.own b hb).step t.st e, x.new, x.loc, x.cel, x.frs⟩
set_option tactic.hygienic false in
theorem Lp.notWS {X : Fix} {l : List Env} {c : Env} {n₀ : Nat} {g : GW} {h : Heap} {I : Addr} {ws : List Addr} {src : Src} {ρ : Fr} (x : Lp X l c n₀ g h I ws src) : ∀ b ∈ ws, ¬ WS ρ c b := by
  rintro b hb (q | ⟨zz, z, zz, hz⟩)
  · exact x.loc (q ▸ hb)
  · exact absurd (x.cel z b hz) (Nat.not_lt.mpr (x.new b hb))

section
variable {X : Fix} (O : FixOK X) {d : Nat} {L : Lvl} (H : LvOK X d L) {A : Around} {fe : Env} {outer : List Env} {F : Addr} {c : Env} {g : GW} {s : Shared} {kx : KX}
include O H

omit O H in
theorem tgtOk_next {σ : Sto} {src src' : Src} {p : PV} {t : Expr} (hn : src.next σ = some (some (p, src'))) (ht : tgtOk src t = true) : tgtOk src' t = true := by
  cases src with
  | zip xs ys =>
    cases xs with
    | nil => cases ys <;> cases hn
    | cons x xs =>
      cases ys with
      | nil => cases hn
      | cons y ys => cases hn; exact ht
  | tup xs => cases xs <;> cases hn; rfl
  | rng a n => cases n <;> cases hn; rfl
  | lst j i =>
    simp only [Src.next] at hn
    split at hn
    · split at hn
      · cases hn; rfl
      · cases hn
    · cases hn
omit O H in
set_option tactic.hygienic false in
theorem assT_some {t : Expr} {p : PV} {ρ : Fr} {k : Fr → Bool} (h : assT t p ρ k = true) : ∃ ρ', assN 3 t p ρ = some ρ' ∧ k ρ' = true := by
  unfold assT at h
  split at h
  · exact ⟨_, by assumption, h⟩
  · cases h

theorem compGo_ok (am : Amb X d A fe outer F c) {elt target iter : Expr} {ifs : List Expr} {scope : Scope} {pos : Pos} {I aA : Addr} {ws : List Addr} {acc : Nat} {k : Sto → Bool} {RR : Result → Shared → Prop} (hC : s.heap.objs.size ≤ c.locals)
    (hok : ∀ f g₂ σ₂ s₂ ρ', To X noS (fe :: outer) g s g₂ s₂ → Wh X ρ' c (fe :: outer) g₂ σ₂ s₂ → g₂.la[acc]? = some aA → k σ₂ = true → RR (.ok f) s₂)
    (herr : ∀ e s' g₂ σ₂ s₂ ρ', To X noS (fe :: outer) g s g₂ s₂ → Wh X ρ' c (fe :: outer) g₂ σ₂ s₂ → PX X noS (fe :: outer) F g₂ s₂ kx e s' → notedBy (model X.prog X.w) A c (fun e s'  => RR (.error e) s') e s') :
    ∀ (n : Nat) {g₁ σ₁ s₁ src ρ} (_ : To X noS (fe :: outer) g s g₁ s₁) (_ : Wh X ρ c (fe :: outer) g₁ σ₁ s₁) (_ : Lp X (fe :: outer) c s.heap.objs.size g₁ s₁.heap I ws src) (_ : noCells ρ.scope = true) (_ : g₁.la[acc]? = some aA) (_ : tgtOk src target = true),
      compGo L elt target ifs acc kx n src ρ σ₁ k = true → codeAny (model X.prog X.w) A (.compLoop (.ListComp elt [⟨target, iter, ifs, 0⟩] scope pos) 0 (.ref I) (.ref aA) c) RR s₁
  | 0, _, _, _, _, _, _, _, _, _, _, _, h => by cases h
  | n + 1, g₁, σ₁, s₁, src, ρ, t, w, lp, hnc, ha, ht, h => by
    have wsOk : ∀ {g' : GW} {s' : Shared} {S : Addr → Prop}, To X (· ∈ ws) (fe :: outer) g₁ s₁ g' s' → To X noS (fe :: outer) g s g' s' := fun t'  => t.trans' t' fun b hb  => .inr (lp.new b hb)
    have stepW : ∀ {g' : GW} {σ' : Sto} {s' : Shared}, To X (· ∈ ws) (fe :: outer) g₁ s₁ g' s' → HR X g' σ' s'.heap → Wh X ρ c (fe :: outer) g' σ' s' := fun t' R'  =>
      w.stepS t' R' lp.loc (fun z a e hm  => absurd (lp.cel z a e) (Nat.not_lt.mpr (lp.new a hm))) fun L hL hm  => absurd (lp.frs L hL) (Nat.not_lt.mpr (lp.new L hm))
    have idx : ∀ {g' g'' : GW}, GExt g' g'' → g'.la[acc]? = some aA → g''.la[acc]? = some aA := fun e h  => e.idx h
    dsimp only [compGo] at h
    split at h
    · cases h
    · rename_i hn
      refine comp_turn (wpAny_mono (next_ok O (l := fe :: outer) (target := target) am.hd w.R lp.it lp.own hn ht (E := notedBy (model X.prog X.w) A c fun e s'  => RR (.error e) s')) (fun r s₂ hr  => ?_) fun zz zz q  => q)
      obtain ⟨rfl, t', R'⟩ := hr
      exact hok _ _ _ _ ρ (wsOk (S := noS) t') (stepW t' R') ha h
    · rename_i p src' hn
      obtain ⟨ρ', ha', h⟩ := assT_some h
      refine comp_turn (wpAny_mono (next_ok O (l := fe :: outer) (target := target) am.hd w.R lp.it lp.own hn ht (E := notedBy (model X.prog X.w) A c fun e s'  => RR (.error e) s')) (fun r s₂ hr  => ?_) fun zz zz q  => q)
      obtain ⟨u, rfl, hu⟩ := hr
      refine wpAny_mono hu (fun _ s₃ ⟨g₃, t₃, R₃, ru, it₃⟩ => ?_) fun zz zz q  => q
      have w₃ := stepW t₃ R₃
      have T₃ := wsOk (S := noS) t₃
      have lp₃ : Lp X (fe :: outer) c s.heap.objs.size g₃ s₃.heap I ws src' := ⟨it₃, fun b hb  => let ⟨_, e⟩ := lp.it.mem b hb; (lp.own b hb).step t₃.st e, lp.new, lp.loc, lp.cel, lp.frs⟩
      have ht' := tgtOk_next hn ht
      refine wpAny_mono (assN_ok (k := fun ρ  => allTests L ρ kx ifs σ₁ fun b σ  =>
        if b then L.ev elt ρ σ (fun q σ  => match σ[acc]? with
          | some xs => if okL xs then compGo L elt target ifs acc kx n src' ρ (σ.set acc (xs ++ [q])) k else false
          | none => false) kx
        else compGo L elt target ifs acc kx n src' ρ σ k) (l := fe :: outer) am.hd 3 w₃.fr R₃ ha' ru h) (fun _ s₄ ⟨ρ₄, t₄, R₄, fr₄, same, h₄⟩ => ?_) fun zz zz q  => q
      have w₄ := w₃.writes t₄ R₄ fr₄
      have hWS : ∀ b, WS ρ c b → b = c.locals := by
        rintro b (q | ⟨zz, z, hz, zz⟩)
        · exact q
        · exfalso
          have := (List.all_eq_true.mp hnc)
          rw [lk_eq] at hz
          have hm : (z, NameKind.cell) ∈ ρ.scope.names := by
            clear h ha' h₄
            revert hz
            generalize ρ.scope.names = names
            intro hz
            induction names with
            | nil => cases hz
            | cons y r ih =>
              obtain ⟨y1, y2⟩ := y
              rw [List.lookup_cons] at hz
              split at hz
              · rename_i e; cases hz; have : z = y1 := by simpa using e
                subst this; exact .head _
              · exact .tail _ (ih hz)
          have := this _ hm
          cases this
      have T₄ : To X noS (fe :: outer) g s g₃ s₄ := T₃.trans' t₄ fun b hb  => .inr (by rw [hWS b hb]; exact hC)
      have lp₄ := lp₃.go t₄ lp₃.notWS
      have hnc₄ : noCells ρ₄.scope = true := by rw [same.scope]; exact hnc
      have ha₃ := idx t₃.st.gext ha
      refine wpAny_mono (tests_ok H am ifs w₄ h₄) (fun b s₅ ⟨g₅, σ₅, t₅, R₅, h₅⟩ => ?_) (fun e s' q  => herr e s' _ _ _ _ T₄ w₄ q)
      have w₅ := w₄.step t₅ R₅
      have T₅ := T₄.trans t₅
      have lp₅ := lp₄.go t₅ fun zz zz q  => q
      have ha₅ := idx t₅.st.gext ha₃
      have h₅' : (if b then L.ev elt ρ₄ σ₅ (fun q σ  => match σ[acc]? with
          | some xs => if okL xs then compGo L elt target ifs acc kx n src' ρ₄ (σ.set acc (xs ++ [q])) k else false
          | none => false) kx
        else compGo L elt target ifs acc kx n src' ρ₄ σ₅ k) = true := h₅
      cases b with
      | false =>
        rw [if_neg (by simp)]
        rw [if_neg (by simp)] at h₅'
        exact compGo_ok am hC hok herr n T₅ w₅ lp₅ hnc₄ ha₅ ht' h₅'
      | true =>
        rw [if_pos rfl]
        rw [if_pos rfl] at h₅'
        refine wpAny_mono (H.ev am w₅ elt _ kx h₅') (fun v s₆ ⟨g₆, σ₆, t₆, R₆, q, rq, h₆⟩ => ?_) (fun e s' q  => herr e s' _ _ _ _ T₅ w₅ q)
        have w₆ := w₅.step t₆ R₆
        have T₆ := T₅.trans t₆
        have lp₆ := lp₅.go t₆ fun zz zz q  => q
        have ha₆ := idx t₆.st.gext ha₅
        dsimp only at h₆
        split at h₆
        · rename_i xs hxs
          split at h₆
          · rename_i hl
            obtain ⟨vs, ⟨m, hp⟩, ql⟩ := R₆.lst _ _ _ ha₆ hxs
            have l1 := ql.length
            rw [Array.length_toList] at l1
            refine PyProof.Rows.append_at hp (fun h' hs' ho'  => ?_) (by rw [l1, sizeLine_eq]; have := okL_le hl; (with_reducible exact Mine.ar16 (by assumption)))
            have R₇ := R₆.setList ha₆ hs' ⟨_, ho'⟩ (xs := xs ++ [q]) (by rw [Array.toList_push]; exact ql.append (.cons rq .nil))
            have t₇ : To X noS (fe :: outer) g₆ s₆ g₆ { s₆ with heap := h' } := ⟨Stp.setList (List.mem_of_getElem? ha₆) hs', rfl, rfl⟩
            exact compGo_ok am hC hok herr n (T₆.trans t₇) (w₆.step t₇ R₇) (lp₆.go t₇ fun zz zz q  => q) hnc₄ ha₆ ht' h₆
          · cases h₆
        · cases h₆
end
end Mine
end
section
open PySem PySem.W PyProof.Rows PySem.Calls PySem.SeqAt
set_option maxRecDepth 100000
set_option linter.unusedSectionVars false
namespace Mine

set_option tactic.hygienic false in
theorem iter_self {X : Fix} {A : Around} {g : GW} {s : Shared} {I : Addr} {ws : List Addr} {src : Src} (it : IterR X g s.heap I ws src) {Q : Value → Shared → Prop} {E : Value → Shared → Prop} (h : Q (.ref I) s) : wpAny (model X.prog X.w) A (pyIter (.ref I)) Q E s := by
  cases src with
  | tup xs => obtain ⟨zz, t, vs, n, i, h1, zz⟩ := it; exact wpAny_pyIter_tupleiter h1 h
  | lst j i => obtain ⟨zz, a, h1, zz⟩ := it; exact wpAny_pyIter_listiter h1 h
  | rng a n => obtain ⟨zz, h1⟩ := it; exact wpAny_pyIter_rangeiter h1 h
  | zip xs ys => obtain ⟨TI, TO, i1, i2, t1, t2, p, q, zz, zz, h1, zz⟩ := it; exact wpAny_pyIter_zip h1 h

set_option tactic.hygienic false in
theorem Ns.dict {h : Heap} {a : Addr} {m : Str → Option Value} (x : h.Ns a m) : ∃ o es n, h.get? a = some o ∧ o.data = .dict es n := let ⟨o, es, n, e, d, _⟩ := x; ⟨o, es, n, e, d⟩

section
variable {X : Fix} {l : List Env} {g g₂ : GW} {s s₂ s' : Shared} {kx : KX} {σ₂ : Sto} {ρ : Fr} {c : Env} {T : Option (Addr × Value)} {e : Value}
set_option tactic.hygienic false in
theorem XR.block (t : To X noS l g s g₂ s₂) (w : Wh X ρ c l g₂ σ₂ s₂) (hf : ∀ L ∈ fsOf l, L < s.heap.objs.size) (hC : s.heap.objs.size ≤ c.locals) (x : XR X noS l g₂ s₂ kx T e s') :
    (∃ m, s'.heap.Ns c.locals m) ∧ ∀ h', Heap.SameBut c.locals s'.heap h' → XR X noS l g s kx T e { s' with heap := h' } := by
  obtain ⟨⟨g', σ, ea, he, hst, R, hx, hF, hk⟩, e1, e2⟩ := id x
  have fr' := w.fr.step hst (fun q  => q) fun zz zz zz zz zz q  => q
  obtain ⟨m, hns, zz⟩ := fr'.loc
  refine ⟨⟨m, hns⟩, fun h' hs'  => ?_⟩
  obtain ⟨oC, es, nn, hoC, hdC⟩ := Ns.dict hns
  obtain ⟨c1, c2, c3⟩ := fr'.locOk
  have R' : HR X g' σ h' := R.heap fun b ob eb q  => (hs'.2 b (neW c1 c2 c3 q)).trans eb
  have stC : Stp X (fun b  => b = c.locals) (fsOf l) g' s'.heap g' h' := Stp.heap (Nat.le_of_eq hs'.1.symm) fun b o eb n zz zz  => (hs'.2 b n).trans eb
  have hF' : FramesOK X g' h' l := hF.step stC fun env he L hL q  => by
    have := hf L (List.mem_filterMap.mpr ⟨env, he, hL⟩)
    rw [q] at this
    exact absurd this (Nat.not_lt.mpr hC)
  obtain ⟨hle, hok, oe, vs, a1, a2, a3, a4, a5⟩ := hx
  have ne : ∀ {b : Addr} {o : Obj} {fs : Array Value}, s'.heap.get? b = some o → o.data = .fields fs → b ≠ c.locals := by
    rintro b o fs eb db rfl
    rw [hoC] at eb; cases eb
    rw [hdC] at db; cases db
  refine ⟨⟨g', σ, ea, he, (t.st.trans hst).trans' stC fun b hb  => .inr (by rw [hb]; exact hC), R', ⟨Nat.le_trans t.st.size hle, hok, oe, vs, (hs'.2 _ (ne a1 a3)).trans a1, a2, a3, a4, ?_⟩, hF', hk⟩, e1.trans t.gens, e2.trans t.os⟩
  cases T with
  | none => exact a5
  | some q =>
    obtain ⟨b1, b2, b3, b4, oT, ts, b5, b6, b7⟩ := a5
    exact ⟨b1, b2, Nat.le_trans t.st.size b3, b4, oT, ts, (hs'.2 _ (ne b5 b6)).trans b5, b6, b7⟩
end

section
variable {X : Fix} (O : FixOK X) {d : Nat} {L : Lvl} (H : LvOK X d L) {A : Around} {fe : Env} {outer : List Env} {F : Addr} {c : Env} {ρ : Fr} {g : GW} {σ : Sto} {s : Shared} {kx : KX}
include O H

/-! the block's frame -/
omit O H in
theorem lk_mem {α : Type} {x : Str} {v : α} : ∀ {l : List (Str × α)}, lk x l = some v → (x, v) ∈ l
  | [], h => by cases h
  | (y, u) :: r, h => by
    dsimp only [lk] at h
    split at h
    · rename_i e
      cases h
      rw [eqS_iff] at e
      have : x = y := by simpa using e
      subst this; exact .head _
    · exact .tail _ (lk_mem h)
omit O H in
set_option tactic.hygienic false in
theorem noCells_ok {sc : Scope} (h : noCells sc = true) {x : Str} : (x, NameKind.cell) ∉ sc.names := fun hm  => by
  have := (List.all_eq_true.mp h) _ hm
  cases this
omit O H in
theorem upOf_mem : ∀ {l : List (Str × NameKind)} {up : List (Str × PV)} {x : Str}, upOf ρ l = some up → (x, NameKind.free) ∈ l → ∃ p, valUp ρ x = some p
  | [], _, _, _, hm => by cases hm
  | y :: r, up, x, h, hm => by
    dsimp only [upOf] at h
    split at h
    · split at h
      · rename_i p hp
        split at h
        · rename_i ps hps
          rcases List.mem_cons.mp hm with e | hm
          · subst e; exact ⟨p, hp⟩
          · exact upOf_mem hps hm
        · cases h
      · cases h
    · rename_i hk
      rcases List.mem_cons.mp hm with e | hm
      · subst e; exact absurd rfl hk
      · exact upOf_mem h hm
omit O H in
theorem upOf_val : ∀ {l : List (Str × NameKind)} {up : List (Str × PV)} {x : Str} {p : PV}, upOf ρ l = some up → lk x up = some p → valUp ρ x = some p
  | [], up, x, p, h, hp => by cases h; cases hp
  | y :: r, up, x, p, h, hp => by
    rw [upOf] at h
    split at h
    · split at h
      · rename_i q hq
        split at h
        · rename_i ps hps
          cases h
          dsimp only [lk] at hp
          split at hp
          · rename_i e
            cases hp
            rw [eqS_iff] at e
            have : x = y.1 := by simpa using e
            subst this; exact hq
          · exact upOf_val hps hp
        · cases h
      · cases h
    · exact upOf_val h hp
omit O H in
theorem clOf_in {P : Str × Addr → Prop} : ∀ {l : List (Str × NameKind)} {acc : List (Str × Addr)}, (∀ x, (x, NameKind.free) ∈ l → P (x, (c.cells.lookup x).getD 0)) → (∀ q ∈ acc, P q) → ∀ q ∈ clOf c l acc, P q
  | [], _, _, h => h
  | (y, k) :: r, acc, hl, h => by
    rw [clOf]
    split
    · rename_i hk
      have : k = .free := by simpa using hk
      subst this
      exact clOf_in (fun x hx  => hl x (.tail _ hx)) fun q hq  => by
        rcases List.mem_cons.mp hq with rfl | hq
        · exact hl y (.head _)
        · exact h q hq
    · exact clOf_in (fun x hx  => hl x (.tail _ hx)) h
omit O H in
set_option tactic.hygienic false in
theorem clOf_acc : ∀ {l : List (Str × NameKind)} {acc : List (Str × Addr)} {q : Str × Addr}, q ∈ acc → q ∈ clOf c l acc
  | [], _, _, h => h
  | (y, k) :: r, acc, q, h => by
    rw [clOf]
    split
    · exact clOf_acc (.tail _ h)
    · exact clOf_acc h
omit O H in
set_option tactic.hygienic false in
theorem clOf_has : ∀ {l : List (Str × NameKind)} {acc : List (Str × Addr)} {x : Str}, (x, NameKind.free) ∈ l → (x, (c.cells.lookup x).getD 0) ∈ clOf c l acc
  | [], _, _, h => by cases h
  | (y, k) :: r, acc, x, h => by
    rw [clOf]
    rcases List.mem_cons.mp h with e | h
    · cases e
      rw [if_pos (by rfl)]
      exact clOf_acc (.head _)
    · split
      · exact clOf_has h
      · exact clOf_has h
omit O H in
set_option tactic.hygienic false in
theorem lookup_mem {α : Type} {x : Str} {v : α} {l : List (Str × α)} (h : l.lookup x = some v) : (x, v) ∈ l := by rw [← lk_eq] at h; exact lk_mem h
omit O H in
theorem mem_lookup {α : Type} {x : Str} {v : α} : ∀ {l : List (Str × α)}, (x, v) ∈ l → ∃ u, l.lookup x = some u
  | [], h => by cases h
  | (y, u) :: r, h => by
    rw [List.lookup_cons]
    split
    · exact ⟨_, rfl⟩
    · rename_i e
      rcases List.mem_cons.mp h with q | h
      · cases q; simp at e
      · exact mem_lookup h

omit O H in
set_option tactic.hygienic false in
theorem relabel_names {sc : Scope} {x : Str} {k : NameKind} (h : sc.names.lookup x = some k) : (relabel sc c).names.lookup x = some k ∨ (k = .free ∧ (relabel sc c).names.lookup x = some .cell) := by
  show (sc.names.map fun (n, k) => if (k == .free && c.scope.kind == .function && c.kindOf n == some .cell) then (n, NameKind.cell) else (n, k)).lookup x = some k ∨ _ ∧ (sc.names.map fun (n, k) => if (k == .free && c.scope.kind == .function && c.kindOf n == some .cell) then (n, NameKind.cell) else (n, k)).lookup x = some .cell
  generalize sc.names = l at h
  induction l with
  | nil => cases h
  | cons y r ih =>
    obtain ⟨n, kk⟩ := y
    rw [List.map_cons]
    dsimp only
    rw [List.lookup_cons] at h
    by_cases hx : (x == n) = true
    · rw [hx] at h
      (obtain rfl := (Option.some.inj h).symm; clear h)
      by_cases hc : (k == NameKind.free && c.scope.kind == .function && c.kindOf n == some .cell) = true
      · rw [if_pos hc]
        simp only [Bool.and_eq_true] at hc
        refine .inr ⟨?_, by rw [List.lookup_cons, hx]⟩
        have := hc.1.1
        simpa using this
      · rw [if_neg hc]
        exact .inl (by rw [List.lookup_cons, hx])
    · have hx' : (x == n) = false := by simpa using hx
      rw [hx'] at h
      by_cases hc : (kk == NameKind.free && c.scope.kind == .function && c.kindOf n == some .cell) = true
      · rw [if_pos hc, List.lookup_cons, hx']; exact ih h
      · rw [if_neg hc, List.lookup_cons, hx']; exact ih h

omit O H in
set_option tactic.hygienic false in
theorem valUp_cell {g : GW} {h : Heap} (fr : FrR X g ρ c h) {x : Str} {p : PV} (hv : valUp ρ x = some p) :
    ∃ a v, c.cells.lookup x = some a ∧ h.IsCell a (some v) ∧ RepV X g v p ∧ a ∉ g.la ∧ a ≠ X.P ∧ (ρ.lam = true → ∃ o, g.Γ a = some o) ∧ (ρ.lam = false → g.Γ a = none) := by
  unfold valUp at hv
  split at hv
  · exact fr.cell x p (.inl ⟨by assumption, hv⟩)
  · exact fr.cell x p (.inr ⟨by assumption, hv⟩)
  · cases hv

omit O H in
set_option tactic.hygienic false in
theorem compFr {g : GW} {h h' : Heap} (fr : FrR X g ρ c h) {sc : Scope} {up : List (Str × PV)} (hk : isFun sc = true) (hn : noCells sc = true) (hu : upOf ρ sc.names = some up) {C : Addr} (hns : h'.Ns C fun zz  => none) (hC : g.Γ C = none ∧ C ∉ g.la ∧ C ≠ X.P)
    (kp : ∀ b o, h.get? b = some o → h'.get? b = some o) : FrR X g { scope := sc, vars := [], up := up, lam := ρ.lam, q := ρ.q } (compEnvC sc (clOf c sc.names []) C c) h' := by
  have hall : ∀ q ∈ clOf c sc.names [], c.cells.lookup q.1 = some q.2 := clOf_in (P := fun q  => c.cells.lookup q.1 = some q.2) (fun x hx  => by
    obtain ⟨p, hp⟩ := upOf_mem hu hx
    obtain ⟨a, v, e, zz⟩ := valUp_cell fr hp
    simp [e]) fun q hq  => by cases hq
  refine ⟨?_, fr.glob, fr.blt, fun x k e  => ?_, ⟨_, hns, fun x p zz e  => by cases e⟩, hC, fun x p e  => ?_, fun x e  => ?_, fun x y a e1 e2  => ?_, fun z a e  => ?_, fr.shw⟩
  · show sc.kind = .function
    exact isFun_eq hk
  · rw [lk_eq] at e; exact relabel_names e
  · rcases e with ⟨e, zz⟩ | ⟨e1, e2⟩
    · exact absurd (lk_mem e) (noCells_ok hn)
    · obtain ⟨a, v, f1, ⟨o, f2, f3⟩, f4⟩ := valUp_cell fr (upOf_val hu e2)
      obtain ⟨b, hb⟩ := mem_lookup (clOf_has (c := c) (acc := []) (lk_mem e1))
      have hb' := hall _ (lookup_mem hb)
      rw [f1] at hb'
      have hab : a = b := by injection hb'
      subst hab
      exact ⟨a, v, hb, ⟨o, kp _ _ f2, f3⟩, f4⟩
  · exact absurd (lk_mem e) (noCells_ok hn)
  · exact fr.inj x y a (hall _ (lookup_mem e1)) (hall _ (lookup_mem e2))
  · obtain ⟨⟨u, oc, f2, f3⟩, f4⟩ := fr.all z a (hall _ (lookup_mem e))
    exact ⟨⟨u, oc, kp _ _ f2, f3⟩, f4⟩
noncomputable def CompFin (X : Fix) (A : Around) (E : Value → Shared → Prop) (use : Option (Value → Sem Unit)) (Q : Value → Shared → Prop) (C : Addr) (v : Value) (s' : Shared) : Prop := match use with
  | none => ∀ h', Heap.SameBut C s'.heap h' → Q v { s' with heap := h' }
  | some u => wpAny (model X.prog X.w) A (u v) (fun _ s'' => ∃ m, s''.heap.Ns C m ∧ ∀ h', Heap.SameBut C s''.heap h' → Q .none { s'' with heap := h' }) E s'

theorem comp_ok {cx : Cx} (hT : cx.T = X.T) (am : Amb X d A fe outer F c) (w : Wh X ρ c (fe :: outer) g σ s) {elt target iter : Expr} {ifs : List Expr} {ia : Int} {sc : Scope} {pos pos' : Pos} {k : KV} {use : Option (Value → Sem Unit)} {Q : Value → Shared → Prop} {E : Value → Shared → Prop} {up : List (Str × PV)}
    (hg : compOk ⟨target, iter, ifs, ia⟩ sc = true) (hu : upOf ρ sc.names = some up)
    (h : evSrc cx L iter ρ σ (fun s σ  => if tgtOk s target then compGo L elt target ifs σ.length kx loopMax s { scope := sc, vars := [], up := up, lam := ρ.lam, q := ρ.q } (σ ++ [[]]) fun σ'  => k (.lst σ.length) σ' else false) kx = true)
    (hE : ∀ e s', PX X noS (fe :: outer) F g s kx e s' → E e s')
    (hfin : ∀ v C g' σ' s' p m, To X noS (fe :: outer) g s g' s' → HR X g' σ' s'.heap → RepV X g' v p → k p σ' = true → s.heap.objs.size ≤ C → s'.heap.Ns C m → Own X g' C → CompFin X A E use Q C v s') :
    wpAny (model X.prog X.w) A (comprehension (.ListComp elt [⟨target, iter, ifs, ia⟩] sc pos) sc c pos' (newList []) false (firstIter [⟨target, iter, ifs, ia⟩] c) use) Q E s := by
  dsimp only [compOk] at hg
  refine band5 hg fun h1 h2 h3 h4 h5  => ?_; clear hg
  have hia : ia = 0 := by simpa using h1
  subst hia
  have hkind : sc.kind = .function := by
    exact isFun_eq h3
  have hfold : ∀ x, foldedSetIterable iter c x = pure x := by
    intro x
    cases iter <;> first | rfl | (cases h2; done)
  have hcl : ∀ x, (x, NameKind.free) ∈ sc.names → ∃ a, c.cells.lookup x = some a := fun x hx  => by
    obtain ⟨p, hp⟩ := upOf_mem hu hx
    obtain ⟨a, v, e, zz⟩ := valUp_cell w.fr hp
    exact ⟨a, e⟩
  have hnames : ∀ x ∈ sc.names, x.2 = .local → sc.names.lookup x.1 = some .local := fun x hx hl  => by
    have := (List.all_eq_true.mp h5) x hx
    rw [hl] at this
    dsimp only at this
    split at this
    · rename_i e; rw [← lk_eq]; exact e
    · cases this
  have hfrs : ∀ M ∈ fsOf (fe :: outer), M < s.heap.objs.size := fun M hM  => by
    obtain ⟨zz, zz, zz, o, ho, zz⟩ := w.fs.mem hM
    exact Heap.lt_size ho
  refine comp_run rfl hfold (closure_ok hcl) hkind hnames (wpAny_mono (src_ok O H hT am w h) (fun v s₁ h₁  => wpAny_mono h₁ (fun it s₂ h₂  => ?_) fun e s' q  => hE e s' q) fun e s' q  => hE e s' q)
  obtain ⟨I, ws, src, g₂, σ₂, rfl, t₂, R₂, it₂, own₂, hk₂⟩ := h₂
  dsimp only at hk₂
  split at hk₂
  · rename_i htg
    have w₂ := w.step t₂ R₂
    refine wpAny_newObj_type ?_
    obtain ⟨t₃, R₃, ho₃, f1, f2, f3⟩ := vg_new O R₂ (l := fe :: outer) (S := noS) (o := { cls := .type "list", dict := none, data := .seq ([] : List Value).toArray }) rfl
    obtain ⟨R₃', r₃⟩ := R₃.newList (a := s₂.heap.objs.size) (vs := #[]) (xs := []) ⟨0, ho₃⟩ .nil f1 f2 f3
    refine wpAny_newFunctionEnv (fun y hy e  => noCells_ok h4 (x := y.1) (by rw [← e]; exact hy)) (fun y hy  => by cases hy) (fun h' hns hsb  => ?_) hkind
    generalize hH : s₂.heap.push { cls := .type "list", dict := none, data := .seq ([] : List Value).toArray } = H₃ at *
    have hsz3 : H₃.objs.size = s₂.heap.objs.size + 1 := by rw [← hH]; exact Heap.size_push ..
    dsimp only at hns hsb ⊢
    have hC1 : s₂.heap.objs.size ≤ H₃.objs.size := by rw [hsz3]; exact Nat.le_succ _
    have kp : ∀ b o, H₃.get? b = some o → h'.get? b = some o := fun b o e  => (hsb.2 b (Nat.ne_of_lt (Heap.lt_size e))).trans (Heap.get?_push_of_some _ e)
    have kp2 : ∀ b o, s₂.heap.get? b = some o → h'.get? b = some o := fun b o e  => kp b o (by rw [← hH]; exact Heap.get?_push_of_some _ e)
    have hsz : s₂.heap.objs.size ≤ h'.objs.size := by
      have := hsb.1
      rw [Heap.size_push] at this
      omega
    have t₄ : To X noS (fe :: outer) g₂ s₂ ⟨g₂.Γ, g₂.la ++ [s₂.heap.objs.size]⟩ { s₂ with heap := h', toks := s₂.toks + ([] : List (Str × Value)).length } :=
      ⟨(Stp.heap hsz fun b o e zz zz zz  => kp2 b o e).newList (Nat.le_refl _), rfl, rfl⟩
    have R₄ : HR X ⟨g₂.Γ, g₂.la ++ [s₂.heap.objs.size]⟩ (σ₂ ++ [[]]) h' := R₃'.heap fun b o e zz  => kp b o e
    have w₄ := w₂.step t₄ R₄
    have ownC : Own X ⟨g₂.Γ, g₂.la ++ [s₂.heap.objs.size]⟩ H₃.objs.size := let ⟨a, b, c⟩ := R₃'.fresh (Nat.le_refl _); ⟨a, b, c⟩
    have frC : FrR X ⟨g₂.Γ, g₂.la ++ [s₂.heap.objs.size]⟩ { scope := sc, vars := [], up := up, lam := ρ.lam, q := ρ.q } (compEnvC sc (clOf c sc.names []) H₃.objs.size c) h' :=
      compFr w₄.fr h3 h4 hu hns ⟨ownC.nf, ownC.nl, ownC.nP⟩ fun zz zz e  => e
    have wC : Wh X { scope := sc, vars := [], up := up, lam := ρ.lam, q := ρ.q } (compEnvC sc (clOf c sc.names []) H₃.objs.size c) (fe :: outer) ⟨g₂.Γ, g₂.la ++ [s₂.heap.objs.size]⟩ (σ₂ ++ [[]]) { s₂ with heap := h', toks := s₂.toks + ([] : List (Str × Value)).length } := ⟨R₄, w₄.fs, frC⟩
    have amC : Amb X d A fe outer F (compEnvC sc (clOf c sc.names []) H₃.objs.size c) := ⟨am.fr, am.hd, am.fe, am.fc, am.units, am.depth⟩
    have hCle : s.heap.objs.size ≤ H₃.objs.size := Nat.le_trans t₂.st.size hC1
    have lp : Lp X (fe :: outer) (compEnvC sc (clOf c sc.names []) H₃.objs.size c) s.heap.objs.size ⟨g₂.Γ, g₂.la ++ [s₂.heap.objs.size]⟩ h' I ws src := by
      refine ⟨it₂.step t₄.st.gext fun b hb o e  => kp2 b o e, fun b hb  => ?_, fun b hb  => (own₂ b hb).2, fun hm  => ?_, fun z a e  => ?_, hfrs⟩
      · obtain ⟨o, e⟩ := it₂.mem b hb
        exact (own₂ b hb).1.step t₄.st e
      · obtain ⟨o, e⟩ := it₂.mem _ hm
        exact absurd (Heap.lt_size e) (Nat.not_lt.mpr hC1)
      · have hall : ∀ q ∈ clOf c sc.names [], q.2 < s.heap.objs.size := clOf_in (P := fun q  => q.2 < s.heap.objs.size) (fun x hx  => by
          obtain ⟨p, hp⟩ := upOf_mem hu hx
          obtain ⟨a, v, e, ⟨o, ho, zz⟩, zz⟩ := valUp_cell w.fr hp
          simp only [e, Option.getD_some]
          exact Heap.lt_size ho) fun q hq  => by cases hq
        exact hall _ (lookup_mem e)
    have ha : (g₂.la ++ [s₂.heap.objs.size])[σ₂.length]? = some s₂.heap.objs.size := by rw [← R₂.len]; simp
    have hok : ∀ f g₃ σ₃ s₃ ρ', To X noS (fe :: outer) g s g₃ s₃ → Wh X ρ' (compEnvC sc (clOf c sc.names []) H₃.objs.size c) (fe :: outer) g₃ σ₃ s₃ → g₃.la[σ₂.length]? = some s₂.heap.objs.size → k (.lst σ₂.length) σ₃ = true →
        CPost (model X.prog X.w) A E use Q (.ref s₂.heap.objs.size) (compEnvC sc (clOf c sc.names []) H₃.objs.size c) (.ok f) s₃ := by
      intro f g₃ σ₃ s₃ ρ' t w' hl hk
      obtain ⟨m, hn, zz⟩ := w'.fr.loc
      have o3 : Own X g₃ H₃.objs.size := ⟨w'.fr.locOk.1, w'.fr.locOk.2.1, w'.fr.locOk.2.2⟩
      have := hfin (.ref s₂.heap.objs.size) H₃.objs.size g₃ σ₃ s₃ (.lst σ₂.length) m t w'.R (.lst hl) hk hCle hn o3
      unfold CompFin at this
      cases use with
      | none => exact ⟨m, hn, this⟩
      | some u => exact this
    have herr : ∀ e s' g₃ σ₃ s₃ ρ', To X noS (fe :: outer) g s g₃ s₃ → Wh X ρ' (compEnvC sc (clOf c sc.names []) H₃.objs.size c) (fe :: outer) g₃ σ₃ s₃ → PX X noS (fe :: outer) F g₃ s₃ kx e s' →
        notedBy (model X.prog X.w) A (compEnvC sc (clOf c sc.names []) H₃.objs.size c) (fun e s'  => CPost (model X.prog X.w) A E use Q (.ref s₂.heap.objs.size) (compEnvC sc (clOf c sc.names []) H₃.objs.size c) (.error e) s') e s' := by
      intro e s' g₃ σ₃ s₃ ρ' t w' px
      unfold notedBy
      refine noteFrame_rel am.fr am.fe amC.fc px fun tb s'' x  => ?_
      obtain ⟨⟨m, hn⟩, hb⟩ := x.block t w' hfrs hCle
      have fin : ∃ m, s''.heap.Ns H₃.objs.size m ∧ ∀ h', Heap.SameBut H₃.objs.size s''.heap h' → wpAny (model X.prog X.w) A (PySem.passOn "comprehension.variables-let-go" e (compEnvC sc (clOf c sc.names []) H₃.objs.size c) : Sem Value) (fun zz zz  => False) E { s'' with heap := h' } :=
        ⟨m, hn, fun h'' hs''  => passOn_rel amC.fc (hb h'' hs'') fun s₄ p  => hE e s₄ p⟩
      cases use <;> exact fin
    have loop : codeAny (model X.prog X.w) A (.compLoop (.ListComp elt [⟨target, iter, ifs, 0⟩] sc pos) 0 (.ref I) (.ref s₂.heap.objs.size) (compEnvC sc (clOf c sc.names []) H₃.objs.size c)) (CPost (model X.prog X.w) A E use Q (.ref s₂.heap.objs.size) (compEnvC sc (clOf c sc.names []) H₃.objs.size c)) { s₂ with heap := h', toks := s₂.toks + ([] : List (Str × Value)).length } :=
      compGo_ok O H amC (g := g) (s := s) hCle hok herr loopMax (t₂.trans t₄) wC lp h4 ha htg hk₂
    exact codeAny_compStart_list loop (iter_self lp.it loop)
  · cases hk₂
end
end Mine
end
section
open PySem PySem.W PyProof.Rows PySem.Calls PySem.SeqAt
set_option maxRecDepth 100000
set_option linter.unusedSectionVars false
namespace Mine
noncomputable def OrcOK (X : Fix) (d : Nat) (orc : Orc) : Prop := ∀ {A fe outer F g σ s v c vs ps k kx}, Amb X d A fe outer F fe → HR X g σ s.heap → FramesOK X g s.heap (fe :: outer) → RepV X g v c → RepL X g vs ps → orc c ps σ k kx = true →
  wpAny (model X.prog X.w) A (call v vs) (VG X noS (fe :: outer) g s (RV X k)) (PX X noS (fe :: outer) F g s kx) s

section
variable {X : Fix} (O : FixOK X) {d : Nat} {L : Lvl} (H : LvOK X d L) {A : Around} {fe : Env} {outer : List Env} {F : Addr} {c : Env} {ρ : Fr} {g : GW} {σ : Sto} {s : Shared} {kx : KX}
include O H

/-! names, their values -/
omit H in
set_option tactic.hygienic false in
theorem fn_val (R : HR X g σ s.heap) {v : Value} {p : PV} (r : RepV X g v p) (h : fnP X.T.K p = true) : ∃ a o fd, v = .ref a ∧ g.Γ a = some o ∧ o.data = .func fd := by
  cases p with
  | old =>
    refine ifE' h fT ?_; clear h; intro ob e' h; refine ifE' h fT ?_; clear h; intro fd hfd h
    obtain ⟨o, rfl, e⟩ := r.iO
    obtain ⟨zz, zz, zz, rfl⟩ := funV_eq hfd
    exact ⟨_, _, _, rfl, R.base _ _ (O.inK _ _ e'), rfl⟩
  | clos =>
    obtain ⟨zz, zz, zz, zz, zz, zz, zz, zz, rfl, e⟩ := r.iC
    exact ⟨_, _, _, rfl, e.e1, rfl⟩
  | _ => exact absF h

set_option tactic.hygienic false in
theorem callName_ok {cx : Cx} (hT : cx.T = X.T) (hO : OrcOK X d cx.orc) (am : Amb X d A fe outer F c) (w : Wh X ρ c (fe :: outer) g σ s) {f : Str} {p pos : Pos} {es : List Expr} {k : KV} {q : PV} (hs : es.all noStar = true) (hq : nameP cx f ρ = some q) (hf : fnP cx.T.K q = true)
    (h : evs L es ρ σ (fun ps σ  => cx.orc q ps σ k kx) kx = true) :
    wpAny (model X.prog X.w) A (eval (.Call (.Name f p) es [] pos) c) (VG X noS (fe :: outer) g s (RV X k)) (PX X noS (fe :: outer) F g s kx) s := by
  obtain ⟨v, rv, hv⟩ := name_val O (A := A) (pos := p) hT w hq
  rw [hT] at hf
  obtain ⟨a, o, fd, rfl, ho, hd⟩ := fn_val O w.R rv hf
  have hp := (starEach_plain (c := c) (pos := pos) hs).1
  refine PyProof.Rows.Call_Name rfl (hv _ _ (callWith_function (o := o) (fd := fd) (evalArgs_all hp (vgo (evs_ok H am pos es w _ h) fun vs g₁ σ₁ s₁ t R₁ ⟨ps, rp, hk⟩ => ?_))))
  have w₁ := w.step t R₁
  exact ⟨⟨R₁.frz _ _ (t.st.ext _ _ ho), hd⟩, vre t (hO ⟨am.fr, am.hd, am.fe, am.fe, am.units, am.depth⟩ R₁ w₁.fs (repV_mono t.st.gext rv) rp hk)⟩

/-! the lambda -/
omit O H in
set_option tactic.hygienic false in
theorem codeAmong_snoc' {pos pos' : Pos} {c v : Value} : ∀ (l : List Value), TriplesOk l → codeAmong pos (l ++ [rawInt pos'.line, rawInt pos'.col, c]) = some v → v = c ∨ codeAmong pos l = some v
  | [], _, h => by
    simp only [List.nil_append, rawInt, codeAmong] at h
    split at h
    · cases h; exact .inl rfl
    · cases h
  | .int a _ :: .int b _ :: x :: r, ht, h => by
    rw [List.cons_append, List.cons_append, List.cons_append] at h
    rw [codeAmong] at h
    rw [codeAmong]
    by_cases hc : (a == (pos.line : Int) && b == (pos.col : Int)) = true
    · rw [if_pos hc] at h ⊢; exact .inr h
    · rw [if_neg hc] at h ⊢; exact codeAmong_snoc' r ht h
omit O H in
set_option tactic.hygienic false in
theorem TriplesOk_snoc' {l : List Value} (h : TriplesOk l) (a b : Nat) (c : Value) : TriplesOk (l ++ [rawInt a, rawInt b, c]) := by
  fun_induction TriplesOk l with
  | case1 => trivial
  | case2 _ _ _ _ _ rest ih => exact ih h
  | case3 => exact h.elim

omit O H in
set_option tactic.hygienic false in
theorem noDef_ok {ag : Arguments} (h : noDef ag = true) : defaultsOf ag c = ([], []) := by
  obtain ⟨po, as, va, ko, kd, kw, df⟩ := ag
  refine band6 h ?_; clear h; intro h1 h2 h3 h4 h5 h6
  obtain rfl := List.isEmpty_iff.mp h3
  obtain rfl := List.isEmpty_iff.mp h4
  obtain rfl := List.isEmpty_iff.mp h6
  rfl
omit O H in
theorem freeOne_ok {sc : Scope} {x : Str} (h : freeOne sc = some x) : clOf c sc.names [] = [(x, (c.cells.lookup x).getD 0)] ∧ ∀ y, (y, NameKind.free) ∈ sc.names → y = x := by
  unfold freeOne at h
  have key : ∀ (l : List (Str × NameKind)) (acc : List (Str × Addr)), clOf c l acc = ((l.filter fun x  => isFreeK x.2).map fun y  => (y.1, (c.cells.lookup y.1).getD 0)).reverse ++ acc := by
    intro l
    induction l with
    | nil => intro acc; rfl
    | cons y r ih =>
      intro acc
      obtain ⟨n, k⟩ := y
      rw [clOf]
      cases k <;> simp [ih, isFreeK]
  split at h
  · rename_i q y e
    cases h
    refine ⟨?_, fun y hy  => ?_⟩
    · rw [key, e]; rfl
    · have : (y, NameKind.free) ∈ sc.names.filter (fun x  => isFreeK x.2) := List.mem_filter.mpr ⟨hy, rfl⟩
      rw [e] at this
      simp at this
      exact this.1
  · cases h

set_option tactic.hygienic false in
theorem lam_ok (am : Amb X d A fe outer F c) (w : Wh X ρ c (fe :: outer) g σ s) {ag : Arguments} {body : Expr} {sc : Scope} {pos : Pos} {x : Str} {p : PV} {k : KV} (hx : freeOne sc = some x) (hg : (noCells sc && ρ.lam && ρ.q && noDef ag) = true)
    (e1 : lk x ρ.scope.names = some .cell) (e2 : lk x ρ.vars = some p) (hk : k (.clos ag body sc x p) σ = true) {E : Value → Shared → Prop} :
    wpAny (model X.prog X.w) A (eval (.Lambda ag body sc pos) c) (VG X noS (fe :: outer) g s (RV X k)) E s := by
  refine band4 hg fun h1 h2 h3 h4  => ?_; clear hg
  obtain ⟨a, v, c1, ⟨oc, c2, c3⟩, rv, c4, c5, c6, zz⟩ := w.fr.cell x p (.inl ⟨e1, e2⟩)
  obtain ⟨oc', hfr⟩ := c6 h2
  obtain ⟨hcl, hone⟩ := freeOne_ok (c := c) hx
  have hclo := closure_ok (sc := sc) (c := c) fun y hy  => by rw [hone y hy]; exact ⟨a, c1⟩
  rw [hcl, c1] at hclo
  obtain ⟨hcode, hq⟩ := w.fr.shw h3
  have hdef : defaultsOf ag c = ([], []) := noDef_ok h4
  obtain ⟨ps, hP, htr, htab⟩ := w.R.tab.tab
  obtain ⟨mg, hmg, hbm⟩ := O.bmain
  have kB : ∀ b o, X.B.get? b = some o → s.heap.get? b = some o := fun b o e  => w.R.frz _ _ (w.R.base _ _ e)
  have hns : s.heap.Ns mainGlobals mg := hmg.at' fun o e  => kB _ o e
  have hba : s.heap.BuiltinsAt mg X.P := by
    obtain ⟨bm, o, b1, b2, b3, b4, b5, b6⟩ := hbm
    exact ⟨bm, o, b1, b2, b3, b4, kB _ _ b5, b6⟩
  have hC : CodeHd s.heap X.cc X.P := O.code.keeps kB
  have hfz : g.Γ a = some oc := by
    have := w.R.frz _ _ hfr
    rw [c2] at this; cases this; exact hfr
  refine kla_eval hdef ?_
  rw [hq]
  have rep : ∀ {g' : GW} {f cd : Addr} {o : Obj} {vs : Array Value} {t : Tok} {pm ctv : Value}, GExt g g' → g'.Γ f = some (kla_obj "<lambda>" X.q ag body sc [(x, a)] pm cd ctv) → g'.Γ cd = some o → o.data = .fields vs → vs[1]? = some (.str X.q t) → RepV X g' (.ref f) (.clos ag body sc x p) :=
    fun ge q1 q2 q3 q4  => .clos q1 rfl rfl rfl rfl rfl rfl rfl rfl ⟨_, _, _, _, rfl, q2, q3, q4⟩ (ge.ext _ _ hfz) c3 (repV_mono ge rv)
  cases hf : codeAmong pos ps.toList with
  | some cv =>
    obtain ⟨cd, o, vs, t, rfl, q2, q3, q4⟩ := htab pos cv hf
    refine kla_makeFunctionHit hclo w.fr.glob hns hcode hC hP htr hf hba fun ctv h' tk kp hsz  => ?_
    have R' : HR X g σ h' := w.R.heap fun b o e zz  => kp b o e
    obtain ⟨t1, R1, ho, f1, f2, f3⟩ := vg_new O (s := { s with heap := h', toks := tk }) R' (l := fe :: outer) (S := noS) (o := kla_obj "<lambda>" X.q ag body sc [(x, a)] ((mg "__name__").getD .none) cd ctv) rfl
    have t0 : To X noS (fe :: outer) g s g { s with heap := h', toks := tk } := ⟨Stp.heap hsz fun b o e zz zz zz  => kp b o e, rfl, rfl⟩
    have ge : GExt g ⟨fun b  => if b = h'.objs.size then some (kla_obj "<lambda>" X.q ag body sc [(x, a)] ((mg "__name__").getD .none) cd ctv) else g.Γ b, g.la⟩ := ⟨fun b o' e  => by
      show (if b = h'.objs.size then _ else g.Γ b) = some o'
      by_cases hb : b = h'.objs.size
      · subst hb; rw [f1] at e; cases e
      · rw [if_neg hb]; exact e, [], (List.append_nil _).symm⟩
    refine ⟨_, σ, ⟨((t0.trans t1).st.freeze (a := h'.objs.size) (o := kla_obj "<lambda>" X.q ag body sc [(x, a)] ((mg "__name__").getD .none) cd ctv) (Nat.le_trans t0.st.size (Nat.le_refl _)) f1), rfl, rfl⟩, R1.freeze ho f2 f3 f1, _, rep ge (if_pos rfl) (ge.ext _ _ q2) q3 q4, hk⟩
  | none =>
    refine kla_makeFunction hclo w.fr.glob hns hcode hC hP htr hf O.gP hba fun c' ctv h' tk hx' hge hlt hrec htb  => ?_
    obtain ⟨c₂, oC, vs, t, e3, hoC, hdC, hqC⟩ := hrec
    cases e3
    -- the heap with the new code object and the longer table
    have hsz : s.heap.objs.size ≤ h'.objs.size := Nat.le_of_lt (Nat.lt_of_le_of_lt hge hlt)
    obtain ⟨n1, n2, n3⟩ := w.R.fresh hge
    let g1 : GW := ⟨fun b  => if b = c' then some oC else g.Γ b, g.la⟩
    have ge1 : GExt g g1 := ⟨fun b o' e  => by
      show (if b = c' then _ else g.Γ b) = some o'
      by_cases hb : b = c'
      · subst hb; rw [n1] at e; cases e
      · rw [if_neg hb]; exact e, [], (List.append_nil _).symm⟩
    have kp : ∀ b o, s.heap.get? b = some o → (g.Γ b ≠ none ∨ b ∈ g.la) → h'.get? b = some o := fun b o e q  => hx' b o (by
      rintro rfl
      rcases q with q | q
      · exact q w.R.noP
      · exact (w.R.laF _ q).2 rfl) e
    have tabN : TabInv X g1 h' := ⟨_, htb, by
        have := TriplesOk_snoc' htr pos.line pos.col (.ref c')
        simpa using this, fun pos' v' e  => by
        have e' : codeAmong pos' (ps.toList ++ [rawInt pos.line, rawInt pos.col, .ref c']) = some v' := by simpa using e
        rcases codeAmong_snoc' _ htr e' with rfl | q
        · exact ⟨c', oC, vs, t, rfl, if_pos rfl, hdC, hqC⟩
        · obtain ⟨cd, o, vs', t', i1, i2, i3⟩ := htab pos' v' q
          exact ⟨cd, o, vs', t', i1, ge1.ext _ _ i2, i3⟩⟩
    have R1 : HR X g1 σ h' := by
      refine ⟨fun b o e  => ?_, fun b o e  => ge1.ext _ _ (w.R.base b o e), w.R.len, fun i b xs q1 q2  => ?_, w.R.nod, fun b hb  => ⟨?_, (w.R.laF b hb).2⟩, tabN, ?_⟩
      · have e' : (if b = c' then some oC else g.Γ b) = some o := e
        by_cases hb : b = c'
        · rw [if_pos hb] at e'; cases e'; rw [hb]; exact hoC
        · rw [if_neg hb] at e'; exact kp b o (w.R.frz _ _ e') (.inl (by rw [e']; simp))
      · obtain ⟨us, ⟨m, ho⟩, q⟩ := w.R.lst i b xs q1 q2
        exact ⟨us, ⟨m, kp b _ ho (.inr (List.mem_of_getElem? q1))⟩, repL_mono ge1 q⟩
      · show (if b = c' then some oC else g.Γ b) = none
        rw [if_neg (fun q  => n2 (by rw [← q]; exact hb))]; exact (w.R.laF b hb).1
      · show (if X.P = c' then some oC else g.Γ X.P) = none
        rw [if_neg (Ne.symm n3)]; exact w.R.noP
    have t0 : To X noS (fe :: outer) g s g1 { s with heap := h', toks := tk } := by
      have st : Stp X noS (fsOf (fe :: outer)) g s.heap g h' := ⟨hsz, fun zz zz e  => e, fun zz zz e  => .inl e, ⟨[], (List.append_nil _).symm, fun zz h  => nomatch h⟩, fun b o e zz zz q  => ⟨o, hx' b o q e, .inl rfl⟩⟩
      exact ⟨st.freeze hge n1, rfl, rfl⟩
    obtain ⟨t1, R2, ho, f1, f2, f3⟩ := vg_new O (s := { s with heap := h', toks := tk }) R1 (l := fe :: outer) (S := noS) (o := kla_obj "<lambda>" X.q ag body sc [(x, a)] ((mg "__name__").getD .none) c' ctv) rfl
    have ge : GExt g1 ⟨fun b  => if b = h'.objs.size then some (kla_obj "<lambda>" X.q ag body sc [(x, a)] ((mg "__name__").getD .none) c' ctv) else g1.Γ b, g1.la⟩ := ⟨fun b o' e  => by
      show (if b = h'.objs.size then _ else g1.Γ b) = some o'
      by_cases hb : b = h'.objs.size
      · subst hb; rw [f1] at e; cases e
      · rw [if_neg hb]; exact e, [], (List.append_nil _).symm⟩
    refine ⟨_, σ, ⟨((t0.trans t1).st.freeze (a := h'.objs.size) (o := kla_obj "<lambda>" X.q ag body sc [(x, a)] ((mg "__name__").getD .none) c' ctv) hsz f1), rfl, rfl⟩, R2.freeze ho f2 f3 f1, _, rep (ge1.trans ge) (if_pos rfl) (ge.ext _ _ (if_pos rfl)) hdC hqC, hk⟩
end
end Mine
end
section
open PySem PySem.W PyProof.Rows PySem.Calls PySem.SeqAt
set_option maxRecDepth 100000
set_option linter.unusedSectionVars false
namespace Mine

section
variable {X : Fix} (O : FixOK X) {d : Nat} {L : Lvl} (H : LvOK X d L) {cx : Cx} (hT : cx.T = X.T) (hO : OrcOK X d cx.orc) {A : Around} {fe : Env} {outer : List Env} {F : Addr} {c : Env} {ρ : Fr} {g : GW} {σ : Sto} {s : Shared} {kx : KX}
include O H hT hO

omit O H hT hO in
set_option tactic.hygienic false in
theorem isTr_plain {e : Expr} {whole : Sem Value} (h : ¬ isTr e = true) : isTrue e c whole = (do let v ← whole; standAt e.pos; holding [v] (truthy v)) := by
  cases e with
  | UnaryOp op x pos => cases op with
    | Not => exact absurd rfl h
    | _ => rfl
  | BoolOp => exact absurd rfl h
  | IfExp => exact absurd rfl h
  | Compare => exact absurd rfl h
  | _ => rfl
omit O H hT hO in
set_option tactic.hygienic false in
theorem asSlice_eq {e : Expr} {z : Option Expr × Option Expr × Option Expr × Pos} (h : asSlice e = some z) : e = .Slice z.1 z.2.1 z.2.2.1 z.2.2.2 := by
  cases e with
  | Slice a b c p => obtain rfl := Option.some.inj h; rfl
  | _ => exact absN h
omit O H hT hO in
set_option tactic.hygienic false in
theorem isCellK_eq {sc : Scope} {x : Str} (h : isCellK sc x = true) : lk x sc.names = some .cell := by
  unfold isCellK at h
  refine ifE h fT fun k h  => ?_
  cases k with
  | cell => rfl
  | _ => exact absF h
omit hO in
set_option tactic.hygienic false in
theorem evComp_ok (am : Amb X d A fe outer F c) (w : Wh X ρ c (fe :: outer) g σ s) {elt : Expr} {gg : Comprehension} {sc : Scope} {pos : Pos} {k : KV} (h : evComp cx L elt gg sc ρ σ k kx = true) :
    wpAny (model X.prog X.w) A (eval (.ListComp elt [gg] sc pos) c) (VG X noS (fe :: outer) g s (RV X k)) (PX X noS (fe :: outer) F g s kx) s := by
  refine ifB h fT ?_; clear h; intro hg h; refine ifE' h fT ?_; clear h; intro up hu h
  obtain ⟨target, iter, ifs, ia⟩ := gg
  rw [eval_ListComp]
  have hia : ia = 0 := by
    dsimp only [compOk] at hg
    simp only [Bool.and_eq_true] at hg
    simpa using hg.1.1.1.1
  subst hia
  refine comp_ok O H hT am w hg hu h (fun zz zz q  => q) fun v C g' σ' s' p m t R r hk hC hn ow h' hs'  => ?_
  refine ⟨g', σ', ⟨t.st.trans' (S' := fun b  => b = C) (Stp.heap (Nat.le_of_eq hs'.1.symm) fun b o e nb zz zz  => (hs'.2 b nb).trans e) fun b hb  => .inr (by rw [hb]; exact hC), t.gens, t.os⟩, R.heap fun b o e q  => (hs'.2 b (ow.ne q)).trans e, p, r, hk⟩
omit hO in
set_option tactic.hygienic false in
theorem evLam_ok (am : Amb X d A fe outer F c) (w : Wh X ρ c (fe :: outer) g σ s) {ag : Arguments} {body : Expr} {sc : Scope} {pos : Pos} {k : KV} (h : evLam ag body sc ρ σ k = true) :
    wpAny (model X.prog X.w) A (eval (.Lambda ag body sc pos) c) (VG X noS (fe :: outer) g s (RV X k)) (PX X noS (fe :: outer) F g s kx) s :=
  ifE' h fT fun x hx h  => ifB h fT fun hg h  => ifB h fT fun e1 h  => ifE' h fT fun p e2 h  => lam_ok O H am w hx hg (isCellK_eq e1) e2 h
omit O H hT hO in
set_option tactic.hygienic false in
theorem isJoin_eq {mk : MK} (h : isJoin mk = true) : mk = .join := by
  cases mk with
  | join => rfl
  | _ => exact absF h
omit hO in
set_option tactic.hygienic false in
theorem evMeth_ok (am : Amb X d A fe outer F c) (w : Wh X ρ c (fe :: outer) g σ s) {o : Expr} {m : Str} {apos pos : Pos} {args : List Expr} {k : KV} (h : evMeth cx L o m apos args pos ρ σ k kx = true) :
    wpAny (model X.prog X.w) A (eval (.Call (.Attribute o m apos) args [] pos) c) (VG X noS (fe :: outer) g s (RV X k)) (PX X noS (fe :: outer) F g s kx) s := by
  refine ifB h fT ?_; clear h; intro hg h; refine ifE' h fT ?_; clear h; intro mk hm h
  cases hr : revArg cx ρ args with
  | none => rw [hr] at h; exact meth_ok O H hT am w hg hm h
  | some a =>
    rw [hr] at h
    refine ifB h fT ?_; clear h; intro hj h
    obtain rfl := isJoin_eq hj
    exact joinRevE_ok O H hT am w hg hm hr h
set_option tactic.hygienic false in
theorem evNm_ok (am : Amb X d A fe outer F c) (w : Wh X ρ c (fe :: outer) g σ s) {f : Str} {p pos : Pos} {args : List Expr} {k : KV} (h : evNm cx L f args ρ σ k kx = true) :
    wpAny (model X.prog X.w) A (eval (.Call (.Name f p) args [] pos) c) (VG X noS (fe :: outer) g s (RV X k)) (PX X noS (fe :: outer) F g s kx) s := by
  refine ifB h fT fun hs h  => ?_
  cases hq : nameP cx f ρ with
  | none => rw [hq] at h; exact bltP_ok O H hT am w hs h
  | some q => rw [hq] at h; exact ifB h fT fun hf h  => callName_ok O H hT hO am w hs hq hf h
omit hO in
set_option tactic.hygienic false in
theorem evSub_ok (am : Amb X d A fe outer F c) (w : Wh X ρ c (fe :: outer) g σ s) {o i : Expr} {pos : Pos} {k : KV} (h : evSub cx L o i ρ σ k kx = true) :
    wpAny (model X.prog X.w) A (eval (.Subscript o i pos) c) (VG X noS (fe :: outer) g s (RV X k)) (PX X noS (fe :: outer) F g s kx) s := by
  unfold evSub at h
  cases hz : asSlice i with
  | none => rw [hz] at h; exact sub_ok O H hT am w h
  | some z => rw [hz] at h; rw [asSlice_eq hz]; exact slc_ok O H am w h
omit O H hT hO in
set_option tactic.hygienic false in
theorem isUSub_eq {op : UnaryOp} (h : isUSub op = true) : op = .USub := by
  cases op with
  | USub => rfl
  | _ => exact absF h
omit hT hO in
set_option tactic.hygienic false in
theorem neg_ok (w : Wh X ρ c (fe :: outer) g σ s) {op : UnaryOp} {e : Expr} {pos : Pos} {k : KV} (h : (if isUSub op then negI e fun i  => k (.int (-i)) σ else false) = true) {E : Value → Shared → Prop} :
    wpAny (model X.prog X.w) A (eval (.UnaryOp op e pos) c) (VG X noS (fe :: outer) g s (RV X k)) E s := by
  refine ifB h fT ?_; clear h; intro hu h
  obtain rfl := isUSub_eq hu
  unfold negI at h
  refine intE h fT ?_; clear h; intro i u p h
  refine UnaryOp_ ?_
  show wpAny _ _ (mkInt _) _ _ _
  exact wpAny_mkInt (PyProof.Rows.neg_int (vg_val O w.R (.int _ _) h _))
set_option tactic.hygienic false in
theorem evS_ok (am : Amb X d A fe outer F c) (w : Wh X ρ c (fe :: outer) g σ s) (e : Expr) (k : KV) (h : evS cx L e ρ σ k kx = true) :
    wpAny (model X.prog X.w) A (eval e c) (VG X noS (fe :: outer) g s (RV X k)) (PX X noS (fe :: outer) F g s kx) s := by
  cases e with
  | Constant => exact ifE' h fT fun p hp h  => const_ok O w hp h
  | Name => exact ifE' h fT fun p hp h  => name_ok O hT w hp h
  | BinOp => exact binop_ok O H am w h
  | UnaryOp => exact neg_ok O H w h
  | BoolOp => exact boolOp_ok O H am _ w h
  | Compare => exact iteS h (fun zz h  => absF h) fun hm h  => compare_ok O H hT am w (marks_of hm) h
  | IfExp => exact ifexp_ok O H am w h
  | Tuple => exact tuple_ok O H am w h
  | List => exact list_ok O H am w h
  | Subscript => exact evSub_ok O H hT am w h
  | Dict => exact ifB h fT fun hn h  => dict_ok O H am w hn h
  | ListComp elt gs sc pos => exact oneE h fT fun gg h  => evComp_ok O H hT am w h
  | Lambda => exact evLam_ok O H hT am w h
  | Call f args kw pos =>
    refine nilE h fT ?_; clear h; intro h
    cases f with
    | Attribute => exact evMeth_ok O H hT am w h
    | Name => exact evNm_ok O H hT hO am w h
    | _ => exact absF h
  | _ => exact absF h

omit hO in
set_option tactic.hygienic false in
theorem allTr_ok (am : Amb X d A fe outer F c) {op : BoolOp} {k : Bool → Sto → Bool} : ∀ (es : List Expr) {g σ s} (_ : Wh X ρ c (fe :: outer) g σ s), allTr L ρ kx op es σ k = true →
      wpAny (model X.prog X.w) A (allTrue op es c) (VG X noS (fe :: outer) g s (RB k)) (PX X noS (fe :: outer) F g s kx) s
  | [], g, σ, s, w, h => by
    rw [arm_allTrue_nil]
    dsimp only [allTr] at h
    cases op <;> exact wpAny_pure ⟨g, σ, To.refl, w.R, h⟩
  | e :: r, g, σ, s, w, h => by
    rw [arm_allTrue_cons]
    unfold allTr at h
    refine wpAny_bind (vgo (H.tr am w e _ kx h) fun b g₁ σ₁ s₁ t R₁ hk  => ?_)
    dsimp only [RB] at hk
    cases op <;> cases b
    · exact wpAny_pure (VG.base t ⟨g₁, σ₁, To.refl, R₁, hk⟩)
    · exact vre t (allTr_ok am r (w.step t R₁) hk)
    · exact vre t (allTr_ok am r (w.step t R₁) hk)
    · exact wpAny_pure (VG.base t ⟨g₁, σ₁, To.refl, R₁, hk⟩)

set_option tactic.hygienic false in
theorem trS_ok (am : Amb X d A fe outer F c) (w : Wh X ρ c (fe :: outer) g σ s) (e : Expr) (k : Bool → Sto → Bool) (h : trS cx L e ρ σ k kx = true) :
    wpAny (model X.prog X.w) A (isTrue e c (eval e c)) (VG X noS (fe :: outer) g s (RB k)) (PX X noS (fe :: outer) F g s kx) s := by
  refine iteS h (fun hi h  => ?_) (fun hi h  => ?_)
  · cases e with
    | UnaryOp op x pos =>
      cases op with
      | Not => exact isTrue_not (vgo (H.tr am w _ _ kx h) fun b g₁ σ₁ s₁ t R₁ hk  => VG.base t ⟨g₁, σ₁, To.refl, R₁, hk⟩)
      | _ => exact absF hi
    | BoolOp => exact allTr_ok O H hT am _ w h
    | Compare => exact iteS h (fun zz h  => absF h) fun hm h  => compareT_ok O H hT am w (marks_of hm) h
    | _ => exact absF h
  · refine isTrue_plain (vgo (evS_ok O H hT hO am w e _ h) fun v g₁ σ₁ s₁ t R₁ ⟨p, rp, hk⟩ => ifE' hk fT fun b hb hk  => ?_) (isTr_plain hi)
    exact vre t (truth_end O R₁ rp hb hk)
end

set_option tactic.hygienic false in
theorem lvl_ok {X : Fix} (O : FixOK X) {d : Nat} {cx : Cx} (hT : cx.T = X.T) (hO : OrcOK X d cx.orc) : ∀ n, LvOK X d (lvl cx n)
  | 0 => ⟨fun zz zz zz zz zz h  => (nomatch h), fun zz zz zz zz zz h  => (nomatch h)⟩
  | n + 1 => ⟨fun am w e k zz h  => evS_ok O (lvl_ok O hT hO n) hT hO am w e k h, fun am w e k zz h  => trS_ok O (lvl_ok O hT hO n) hT hO am w e k h⟩
end Mine
end
section
open PySem PySem.W PyProof.Rows PySem.Calls PySem.SeqAt
set_option maxRecDepth 100000
set_option linter.unusedSectionVars false
namespace Mine

noncomputable def FlR (X : Fix) (g : GW) : Flow → FlowP → Prop
  | .next, .next => True
  | .ret v, .ret p => RepV X g v p
  | _, _ => False
noncomputable def EPost (X : Fix) (ρ : Fr) (c : Env) (l : List Env) (g : GW) (s : Shared) (k : KF) : Flow → Shared → Prop := fun f s' =>
  ∃ g' σ' ρ' fp, To X (WS ρ c) l g s g' s' ∧ HR X g' σ' s'.heap ∧ FrR X g' ρ' c s'.heap ∧ SameFr ρ ρ' ∧ FlR X g' f fp ∧ k fp ρ' σ' = true

section
variable {X : Fix} {l : List Env} {F : Addr} {g g₁ : GW} {s s₁ s' : Shared} {kx : KX} {ρ ρ₁ : Fr} {c : Env} {k : KF} {M : Model} {A : Around}
theorem EPost.base {f : Flow} (t : To X (WS ρ c) l g s g₁ s₁) (e : SameFr ρ ρ₁) (x : EPost X ρ₁ c l g₁ s₁ k f s') : EPost X ρ c l g s k f s' := by
  obtain ⟨g', σ', ρ', fp, t', r1, r2, r3, r4⟩ := x
  exact ⟨g', σ', ρ', fp, t.trans (by rw [← WS.same (c := c) e]; exact t'), r1, r2, e.trans r3, r4⟩
theorem PX.baseW {e : Value} (t : To X (WS ρ c) l g s g₁ s₁) (h : SameFr ρ ρ₁) (x : PX X (WS ρ₁ c) l F g₁ s₁ kx e s') : PX X (WS ρ c) l F g s kx e s' := by
  rw [WS.same (c := c) h] at x
  exact x.base t
theorem noE {α : Type} {t : Sem α} {Q : α → Shared → Prop} (h : wpAny M A t Q (PX X noS l F g s kx) s₁) : wpAny M A t Q (PX X (WS ρ c) l F g s kx) s₁ :=
  wpAny_mono h (fun _ _ q => q) fun _ _ q => q.monoS fun _ q => q.elim
theorem To.noW (t : To X noS l g s g₁ s₁) : To X (WS ρ c) l g s g₁ s₁ := t.mono fun _ q => q.elim
theorem wre {Q : Flow → Shared → Prop} {t : Sem Flow} (b : To X (WS ρ c) l g s g₁ s₁) (e : SameFr ρ ρ₁) (h : wpAny M A t (EPost X ρ₁ c l g₁ s₁ k) (PX X (WS ρ₁ c) l F g₁ s₁ kx) s₁) (hQ : ∀ f s', EPost X ρ c l g s k f s' → Q f s') :
    wpAny M A t Q (PX X (WS ρ c) l F g s kx) s₁ :=
  wpAny_mono h (fun f s' q => hQ f s' (q.base b e)) fun _ _ q => q.baseW b e
end

structure ExOK (X : Fix) (d : Nat) (L : Lvl) : Prop where
  ex : ∀ {A fe outer F c ρ g σ s} (_ : Amb X d A fe outer F c) (_ : Wh X ρ c (fe :: outer) g σ s) (st : Stmt) (k : KF) (kx : KX), L.ex st ρ σ k kx = true →
    wpAny (model X.prog X.w) A (exec st c) (EPost X ρ c (fe :: outer) g s k) (PX X (WS ρ c) (fe :: outer) F g s kx) s

section
variable {X : Fix} (O : FixOK X) {d : Nat} {L : Lvl} (H : LvOK X d L) (HX : ExOK X d L) {cx : Cx} (hT : cx.T = X.T) (hO : OrcOK X d cx.orc) {A : Around} {fe : Env} {outer : List Env} {F : Addr} {c : Env} {ρ : Fr} {g : GW} {σ : Sto} {s : Shared} {kx : KX}
include O H HX hT hO

omit O H hT hO in
theorem execs_ok (am : Amb X d A fe outer F c) {k : KF} : ∀ (ss : List Stmt) {ρ : Fr} {g σ s} (_ : Wh X ρ c (fe :: outer) g σ s), Mine.execs L ss ρ σ k kx = true →
      wpAny (model X.prog X.w) A (PySem.execs ss c) (EPost X ρ c (fe :: outer) g s k) (PX X (WS ρ c) (fe :: outer) F g s kx) s
  | [], ρ, g, σ, s, w, h => by
    rw [arm_execs_nil]
    exact wpAny_pure ⟨g, σ, ρ, .next, To.refl, w.R, w.fr, .refl, trivial, h⟩
  | st :: r, ρ, g, σ, s, w, h => by
    rw [arm_execs_cons]
    rw [Mine.execs] at h
    refine wpAny_bind (wpAny_mono (HX.ex am w st _ kx h) (fun f s₁ q => ?_) fun _ _ q => q)
    obtain ⟨g₁, σ₁, ρ₁, fp, t, R₁, fr₁, e₁, hf, hk⟩ := q
    have w₁ := w.writes t R₁ fr₁
    cases f with
    | next =>
      cases fp with
      | next => exact wre t e₁ (execs_ok am r w₁ hk) fun _ _ q => q
      | ret => exact hf.elim
    | ret v =>
      cases fp with
      | next => exact hf.elim
      | ret p => exact wpAny_pure ⟨g₁, σ₁, ρ₁, .ret p, t, R₁, fr₁, e₁, hf, hk⟩
    | brk => exact hf.elim
    | cont => exact hf.elim

omit HX hO hT H in
theorem exprS_ok (am : Amb X d A fe outer F c) (w : Wh X ρ c (fe :: outer) g σ s) {e : Expr} {pos : Pos} {k : KF} {P : KV} (hn : notComp e = true) (hP : ∀ p σ, P p σ = true → k .next ρ σ = true)
    (h : wpAny (model X.prog X.w) A (eval e c) (VG X noS (fe :: outer) g s (RV X P)) (PX X noS (fe :: outer) F g s kx) s) :
    wpAny (model X.prog X.w) A (exec (.Expr e pos) c) (EPost X ρ c (fe :: outer) g s k) (PX X (WS ρ c) (fe :: outer) F g s kx) s := by
  refine wpAny_Expr_any (noE (vgo h fun v g₁ σ₁ s₁ t R₁ ⟨p, rp, hk⟩ => ⟨g₁, σ₁, ρ, .next, t.noW, R₁, (w.step t R₁).fr, .refl, trivial, hP _ _ hk⟩)) ?_ ?_
  · unfold interactive
    rw [w.fr.kind]; rfl
  · cases e <;> first | rfl | (cases hn; done)

omit HX hO hT in
theorem ret_ok (am : Amb X d A fe outer F c) (w : Wh X ρ c (fe :: outer) g σ s) {e : Expr} {pos : Pos} {k : KF} (h : L.ev e ρ σ (fun p σ => k (.ret p) ρ σ) kx = true) :
    wpAny (model X.prog X.w) A (exec (.Return (some e) pos) c) (EPost X ρ c (fe :: outer) g s k) (PX X (WS ρ c) (fe :: outer) F g s kx) s := by
  rw [arm_exec_Return]
  refine wpAny_bind (wpAny_standAt ?_)
  rw [arm_evalOpt_some]
  refine wpAny_bind (noE (vgo (H.ev am w e _ kx h) fun v g₁ σ₁ s₁ t R₁ ⟨p, rp, hk⟩ => ?_))
  exact wpAny_pure ⟨g₁, σ₁, ρ, .ret p, t.noW, R₁, (w.step t R₁).fr, .refl, rp, hk⟩

omit hO hT in
theorem if_ok (am : Amb X d A fe outer F c) (w : Wh X ρ c (fe :: outer) g σ s) {e : Expr} {a b : List Stmt} {pos : Pos} {k : KF} (h : L.tr e ρ σ (fun t σ => if t then Mine.execs L a ρ σ k kx else Mine.execs L b ρ σ k kx) kx = true) :
    wpAny (model X.prog X.w) A (exec (.If e a b pos) c) (EPost X ρ c (fe :: outer) g s k) (PX X (WS ρ c) (fe :: outer) F g s kx) s := by
  rw [arm_exec_If]
  refine wpAny_bind (wpAny_standAt (wpAny_bind (noE (vgo (H.tr am w e _ kx h) fun t g₁ σ₁ s₁ to R₁ hk => ?_))))
  have hk' : (if t = true then Mine.execs L a ρ σ₁ k kx else Mine.execs L b ρ σ₁ k kx) = true := hk
  have w₁ := w.step to R₁
  cases t with
  | true => exact wre to.noW .refl (execs_ok HX am a w₁ hk') fun _ _ q => q
  | false => exact wre to.noW .refl (execs_ok HX am b w₁ hk') fun _ _ q => q

/-! assignments -/
omit O H HX hT hO in
theorem ass_end {l : List Env} {g₀ : GW} {s₀ s₁ : Shared} {g : GW} {k : KF} {s' : Shared} (t : To X noS l g₀ s₀ g s₁) (x : AssPost X ρ c l g σ s₁ (fun ρ => k .next ρ σ) s') : EPost X ρ c l g₀ s₀ k .next s' := by
  obtain ⟨ρ', t', R', fr', e', hk⟩ := x
  exact ⟨g, σ, ρ', .next, t.noW.trans t', R', fr', e', trivial, hk⟩

omit O H HX hT hO in
theorem assNames_ok {l : List Env} {E : Value → Shared → Prop} : ∀ (xs : List Str) {ρ : Fr} {s : Shared} {vs : List Value} {ps : List PV} {ρ' : Fr} {k : Fr → Bool}, FrR X g ρ c s.heap → HR X g σ s.heap → assNames xs ps ρ = some ρ' → RepL X g vs ps → k ρ' = true →
      wpAny (model X.prog X.w) A (assignInOrder (xs.map fun n => bindName c n) vs) (fun _ s' => AssPost X ρ c l g σ s k s') E s
  | [], ρ, s, vs, [], ρ', k, fr, R, h, q, hk => by obtain rfl := q.i0; cases h; exact wpAny_pure (a := ()) ⟨ρ, To.refl, R, fr, .refl, hk⟩
  | [], _, _, _, _ :: _, _, _, _, _, h, _, _ => by cases h
  | _ :: _, _, _, _, [], _, _, _, _, h, _, _ => by cases h
  | x :: xs, ρ, s, ws, p :: ps, ρ', k, fr, R, h, q0, hk => by
    obtain ⟨v, vs, rfl, a, b⟩ := q0.i1
    dsimp only [assNames] at h
    split at h
    · rename_i ρ₁ e
      rw [List.map_cons]
      refine PyProof.Rows.assignInOrder_cons (wpAny_bindName (wpAny_mono (ass1_ok (l := l) (k := fun ρ₂ => (assNames xs ps ρ₂).elim false k) fr R e a (by rw [h]; exact hk)) (fun _ s₁ q => ?_) fun _ _ q => q))
      obtain ⟨ρ₂, t₂, R₂, fr₂, e₂, k₂⟩ := q
      dsimp only at k₂
      cases h₂ : assNames xs ps ρ₂ with
      | none => rw [h₂] at k₂; cases k₂
      | some ρ₃ =>
        rw [h₂] at k₂
        exact wpAny_mono (assNames_ok xs fr₂ R₂ h₂ b k₂) (fun _ s' q => AssPost.base t₂ e₂ q) fun _ _ q => q
    · cases h
end
end Mine
end
section
open PySem PySem.W PyProof.Rows PySem.Calls PySem.SeqAt
set_option maxRecDepth 100000
set_option linter.unusedSectionVars false
namespace Mine

section
variable {X : Fix} (O : FixOK X) {d : Nat} {L : Lvl} (H : LvOK X d L) (HX : ExOK X d L) {cx : Cx} (hT : cx.T = X.T) (hO : OrcOK X d cx.orc) {A : Around} {fe : Env} {outer : List Env} {F : Addr} {c : Env} {ρ : Fr} {g : GW} {σ : Sto} {s : Shared} {kx : KX}
include O H HX hT hO

omit O H HX hT hO in
theorem swap_ok {h : Heap} (fr : FrR X g ρ c h) {ts vs : List Expr} {a b : Nat} {p q : Pos} {r : Option (List Str)} (e : swapP ρ ts vs = some r) : swappedStores [.Tuple ts a p] (.Tuple vs b q) c = pure r := by
  unfold swapP at e
  split at e
  · cases e
  · rename_i hsim
    have hsim' : ts.all (simpleT ρ) = true := by simpa using hsim
    have hblk : (c.blockKind != .function) = false := by
      unfold Env.blockKind
      rw [fr.kind]; rfl
    have hnames : (ts.filterMap fun
        | .Name id pos => if c.kindOf id == some .local && pos.line == (ts.head?.map (·.pos.line)).getD 0 then some id else none
        | _ => none) = swapNames ρ ((ts.head?.map (·.pos.line)).getD 0) ts := by
      unfold swapNames
      generalize (ts.head?.map (·.pos.line)).getD 0 = line
      clear e hsim
      induction ts with
      | nil => rfl
      | cons t r ih =>
        rw [List.all_cons, Bool.and_eq_true] at hsim'
        rw [List.filterMap_cons, List.filterMap_cons, ih hsim'.2]
        cases t with
        | Name id pos =>
          have hs := hsim'.1
          simp only [simpleT] at hs
          have : (c.kindOf id == some NameKind.local) = isLocK (lk id ρ.scope.names) := by
            split at hs
            · rename_i ek
              rcases fr.names _ _ ek with hk | ⟨hk, zz⟩
              · rw [hk, ek]; rfl
              · cases hk
            · rename_i ek
              rcases fr.names _ _ ek with hk | ⟨hk, zz⟩
              · rw [hk, ek]; rfl
              · cases hk
            · cases hs
          dsimp only
          rw [this]; rfl
        | _ => rfl
    have hstar : (vs.any fun | .Starred .. => true | _ => false) = !vs.all noStar := by
      clear e hnames
      induction vs with
      | nil => rfl
      | cons v r ih =>
        rw [List.any_cons, List.all_cons, ih]
        cases v <;> simp [noStar]
    have key : swappedStores [.Tuple ts a p] (.Tuple vs b q) c = (
        if (!(ts.length == 2 || ts.length == 3) || vs.length != ts.length || c.blockKind != .function) = true then pure none
        else if (vs.any fun | .Starred .. => true | _ => false) = true then pure none
        else if ((ts.filterMap fun
          | .Name id pos => if c.kindOf id == some .local && pos.line == (ts.head?.map (·.pos.line)).getD 0 then some id else none
          | _ => none).length != ts.length || (ts.filterMap fun
          | .Name id pos => if c.kindOf id == some .local && pos.line == (ts.head?.map (·.pos.line)).getD 0 then some id else none
          | _ => none).eraseDups.length != (ts.filterMap fun
          | .Name id pos => if c.kindOf id == some .local && pos.line == (ts.head?.map (·.pos.line)).getD 0 then some id else none
          | _ => none).length) = true then pure none
        else if vs.all (foldedForSure 8) = true then pure none
        else if vs.all (constantsAlone 8) = true then (unsupported "assign.tuple-of-constant-expressions:order-of-the-stores" >>= fun zz  => pure (some (ts.filterMap fun
          | .Name id pos => if c.kindOf id == some .local && pos.line == (ts.head?.map (·.pos.line)).getD 0 then some id else none
          | _ => none)))
        else pure (some (ts.filterMap fun
          | .Name id pos => if c.kindOf id == some .local && pos.line == (ts.head?.map (·.pos.line)).getD 0 then some id else none
          | _ => none))) := rfl
    rw [key, hnames, hstar, hblk, Bool.or_false]
    split at e
    · rename_i h1; cases e; rw [if_pos h1]
    · rename_i h1
      rw [if_neg h1]
      split at e
      · rename_i h2; cases e; rw [if_pos h2]
      · rename_i h2
        rw [if_neg h2]
        split at e
        · rename_i h3; cases e; rw [if_pos h3]
        · rename_i h3
          rw [if_neg h3]
          split at e
          · rename_i h4; cases e; rw [if_pos h4]
          · rename_i h4
            rw [if_neg h4]
            split at e
            · cases e
            · rename_i h5; cases e; rw [if_neg h5]
end
end Mine
end
section
open PySem PySem.W PyProof.Rows PySem.Calls PySem.SeqAt
set_option maxRecDepth 100000
set_option linter.unusedSectionVars false
namespace Mine

section
variable {X : Fix} (O : FixOK X) {d : Nat} {L : Lvl} (H : LvOK X d L) (HX : ExOK X d L) {cx : Cx} (hT : cx.T = X.T) (hO : OrcOK X d cx.orc) {A : Around} {fe : Env} {outer : List Env} {F : Addr} {c : Env} {ρ : Fr} {g : GW} {σ : Sto} {s : Shared} {kx : KX}
include O H HX hT hO

omit O H HX hT hO in
set_option tactic.hygienic false in
theorem tgt_stores {t : Expr} (h : okTgt t = true) : (assignEach [t] c).map (·.2) = [assign t c] := by
  cases t <;> first | rfl | (cases h; done)
omit O H HX hT hO in
theorem asg_plain (am : Amb X d A fe outer F c) (w : Wh X ρ c (fe :: outer) g σ s) {t e : Expr} {pos : Pos} {k : KF} (ht : okTgt t = true) (hsw : swapsWithSole [t] e pos.line c = pure false) (hst : swappedStores [t] e c = pure none)
    (h : wpAny (model X.prog X.w) A (eval e c) (VG X noS (fe :: outer) g s (RV X fun p σ  => assT t p ρ fun ρ  => k .next ρ σ)) (PX X noS (fe :: outer) F g s kx) s) :
    wpAny (model X.prog X.w) A (exec (.Assign [t] e pos) c) (EPost X ρ c (fe :: outer) g s k) (PX X (WS ρ c) (fe :: outer) F g s kx) s := by
  rw [arm_exec_Assign]
  refine wpAny_bind (wpAny_standAt ?_)
  rw [hsw, hst, tgt_stores ht]
  refine wpAny_bind (wpAny_pure ?_)
  rw [if_neg (by decide)]
  refine wpAny_bind (noE (vgo h fun v g₁ σ₁ s₁ to R₁ ⟨p, rp, hk⟩ => ?_))
  refine wpAny_bind (wpAny_pure ?_)
  show wpAny _ _ (do assignAll v [assign t c]; pure Flow.next) _ _ s₁
  obtain ⟨ρ', ha, hk'⟩ := assT_some hk
  have w₁ := w.step to R₁
  refine wpAny_bind (wpAny_mono (assN_ok (l := fe :: outer) (k := fun ρ  => k .next ρ σ₁) am.hd 3 w₁.fr R₁ ha rp hk') (fun zz s₂ q  => wpAny_pure (ass_end to q)) fun zz zz q  => q)

omit O H HX hT hO in
theorem asg_swap (am : Amb X d A fe outer F c) (w : Wh X ρ c (fe :: outer) g σ s) {t e : Expr} {pos : Pos} {k : KF} {names : List Str} (hsw : swapsWithSole [t] e pos.line c = pure false) (hst : swappedStores [t] e c = pure (some names))
    (h : wpAny (model X.prog X.w) A (eval e c) (VG X noS (fe :: outer) g s (RV X fun p σ  => ptupK false p fun ps  => if Nat.beq ps.length names.length then ifS false (assNames names.reverse ps.reverse ρ) fun ρ  => k .next ρ σ else false)) (PX X noS (fe :: outer) F g s kx) s) :
    wpAny (model X.prog X.w) A (exec (.Assign [t] e pos) c) (EPost X ρ c (fe :: outer) g s k) (PX X (WS ρ c) (fe :: outer) F g s kx) s := by
  rw [arm_exec_Assign]
  refine wpAny_bind (wpAny_standAt ?_)
  rw [hsw, hst]
  refine wpAny_bind (wpAny_pure ?_)
  rw [if_neg (by decide)]
  refine wpAny_bind (noE (vgo h fun v g₁ σ₁ s₁ to R₁ ⟨p, rp, hk⟩ => ?_))
  refine wpAny_bind (wpAny_pure ?_)
  show wpAny _ _ (do rule "assign.swapped-stores"; let items ← unpackItems v names.length none; assignInOrder (names.reverse.map fun n  => bindName c n) items.reverse; pure Flow.next) _ _ s₁
  revert rp
  refine ptupE hk fT fun ps hk rp  => ifB hk fT fun hl hk  => ifE' hk fT fun ρ' ha hk  => ?_
  have hl' := Nat.eq_of_beq_eq_true hl
  obtain ⟨a, vs, rfl, htup, q⟩ := RepV.isTuple R₁ rp
  have w₁ := w.step to R₁
  have hsz : names.length = vs.size := by rw [← hl', ← q.length, Array.length_toList]
  rw [hsz]
  refine wpAny_bind (wpAny_rule (wpAny_bind (wpAny_mono (wpAny_sized (Q := fun xs s'  => ∃ h', xs = vs.toList ∧ s' = { s₁ with heap := h' } ∧ Heap.ExtBut s₁.heap.objs.size s₁.heap h') (E := PX X (WS ρ c) (fe :: outer) F g s kx) (PyProof.Rows.unpackItems_tuple am.hd htup fun h' he  => ⟨h', rfl, rfl, he⟩)) (fun xs s' ⟨⟨h', e1, e2, he⟩, hz⟩ => ?_) fun zz zz q  => q.1)))
  subst e1; subst e2
  have kp : ∀ b o, s₁.heap.get? b = some o → h'.get? b = some o := fun b o e  => he b o (fun q  => Nat.lt_irrefl _ (by rw [q] at e; exact Heap.lt_size e)) e
  have R' : HR X g₁ σ₁ h' := R₁.heap fun b o e zz  => kp b o e
  have t' : To X noS (fe :: outer) g₁ s₁ g₁ { s₁ with heap := h' } := ⟨Stp.heap hz fun b o e zz zz zz  => kp b o e, rfl, rfl⟩
  have w' := w₁.step t' R'
  refine wpAny_bind (wpAny_mono (assNames_ok (l := fe :: outer) (s := { s₁ with heap := h' }) (k := fun ρ  => k .next ρ σ₁) names.reverse w'.fr R' ha q.reverse hk) (fun zz s₂ q  => wpAny_pure (ass_end (to.trans t') q)) fun zz zz q  => q)

omit H HX hT hO in
theorem asg_used (H : LvOK X d L) (hT : cx.T = X.T) (am : Amb X d A fe outer F c) (w : Wh X ρ c (fe :: outer) g σ s) {x : Str} {pn : Pos} {elt target iter : Expr} {ifs : List Expr} {sc : Scope} {pos cpos : Pos} {k : KF} {up : List (Str × PV)}
    (hsw : swapsWith (.ListComp elt [⟨target, iter, ifs, 0⟩] sc cpos) (some (.Name x pn)) pos.line c = pure true)
    (hg : compOk ⟨target, iter, ifs, 0⟩ sc = true) (hu : upOf ρ sc.names = some up)
    (h : evSrc cx L iter ρ σ (fun s σ  => if tgtOk s target then compGo L elt target ifs σ.length kx loopMax s { scope := sc, vars := [], up := up, lam := ρ.lam, q := ρ.q } (σ ++ [[]]) fun σ'  => assT (.Name x pn) (.lst σ.length) ρ fun ρ  => k .next ρ σ' else false) kx = true) :
    wpAny (model X.prog X.w) A (exec (.Assign [.Name x pn] (.ListComp elt [⟨target, iter, ifs, 0⟩] sc cpos) pos) c) (EPost X ρ c (fe :: outer) g s k) (PX X (WS ρ c) (fe :: outer) F g s kx) s := by
  rw [exec_Assign_Name_used _ _ _ _ hsw]
  refine wpAny_bind (wpAny_standAt ?_)
  show wpAny _ _ ((do let _ ← comprehension (.ListComp elt [⟨target, iter, ifs, 0⟩] sc cpos) sc c (firstIterPos [⟨target, iter, ifs, 0⟩] cpos) (newList []) (firstAsync [⟨target, iter, ifs, 0⟩]) (firstIter [⟨target, iter, ifs, 0⟩] c) (some (assign (.Name x pn) c))) >>= fun zz  => pure Flow.next) _ _ _
  have hlow : ∀ z a, c.cells.lookup z = some a → lk z ρ.scope.names = some .cell → a < s.heap.objs.size := fun z a e hz  => by
    obtain ⟨a', v, e1, ⟨o, e2, zz⟩, zz⟩ := w.fr.own z hz
    rw [e] at e1; cases e1
    exact Heap.lt_size e2
  have hloc : c.locals < s.heap.objs.size := by obtain ⟨m, hn, zz⟩ := w.fr.loc; exact hn.lt
  refine wpAny_bind (wpAny_bind (comp_ok (k := fun p σ'  => assT (.Name x pn) p ρ fun ρ  => k .next ρ σ') O H hT am w hg hu h (Q := fun zz s'  => wpAny (model X.prog X.w) A (pure ()) (fun zz s'  => wpAny (model X.prog X.w) A (pure Flow.next) (EPost X ρ c (fe :: outer) g s k) (PX X (WS ρ c) (fe :: outer) F g s kx) s') (PX X (WS ρ c) (fe :: outer) F g s kx) s') (fun zz zz q  => q.monoS fun zz q  => q.elim) fun v C g' σ' s' p m t R r hk hC hn ow  => ?_))
  obtain ⟨ρ', ha, hk'⟩ := assT_some hk
  have w' := w.step t R
  refine wpAny_mono (assN_ok (l := fe :: outer) (k := fun ρ  => k .next ρ σ') am.hd 3 w'.fr R ha r hk') (fun zz s'' q  => ?_) fun zz zz q  => q
  obtain ⟨ρ₂, t₂, R₂, fr₂, e₂, hk₂⟩ := q
  have hnW : ¬ WS ρ c C := by
    rintro (q | ⟨zz, z, hz, q⟩)
    · rw [q] at hC; exact absurd hloc (Nat.not_lt.mpr hC)
    · exact absurd (hlow z C q hz) (Nat.not_lt.mpr hC)
  obtain ⟨oC, es, nn, hoC, hdC⟩ := Ns.dict hn
  have ow₂ : Own X g' C := ow
  have hnC : s''.heap.Ns C m := Ns.ofData hn fun o ho  => by
    obtain ⟨o', q1, q2, zz⟩ := t₂.st.keepData ho hnW ow.nl ow.nP
    exact ⟨o', q1, q2⟩
  refine ⟨m, hnC, fun h'' hs''  => wpAny_pure (wpAny_pure ?_)⟩
  have stC : Stp X (fun b  => b = C) (fsOf (fe :: outer)) g' s''.heap g' h'' := Stp.heap (Nat.le_of_eq hs''.1.symm) fun b o e nb zz zz  => (hs''.2 b nb).trans e
  have T : To X (WS ρ c) (fe :: outer) g s g' { s'' with heap := h'' } := ⟨((t.noW (ρ := ρ) (c := c)).trans t₂).st.trans' stC fun b hb  => .inr (by rw [hb]; exact hC), t₂.gens.trans t.gens, t₂.os.trans t.os⟩
  refine ⟨g', σ', ρ₂, .next, T, R₂.heap fun b o e q  => (hs''.2 b (neW ow₂.nf ow₂.nl ow₂.nP q)).trans e, fr₂.step stC (fun q  => ?_) (fun z a v e hc q  => ?_), e₂, trivial, hk₂⟩
  · rw [← q] at hC; exact absurd hloc (Nat.not_lt.mpr hC)
  · -- a cell is not the block's dict
    obtain ⟨oc, hc1, hc2⟩ := hc
    obtain ⟨oD, esD, nD, hD1, hD2⟩ := Ns.dict hnC
    rw [q, hD1] at hc1; cases hc1
    rw [hD2] at hc2; cases hc2
end
end Mine
end
section
open PySem PySem.W PyProof.Rows PySem.Calls PySem.SeqAt
set_option maxRecDepth 100000
set_option linter.unusedSectionVars false
namespace Mine

section
variable {prog : Program} {w : World} {A : Around} {R : Result → Shared → Prop} {s : Shared}
theorem for_turn {target : Expr} {it : Value} {body : List Stmt} {env : Env}
    (h : wpAny (model prog w) A (pyNext it) (fun r s₁  => match r with
      | none => R (.ok .next) s₁
      | some v => wpAny (model prog w) A (letOwnedTupleGo target it v) (fun zz s₁  => wpAny (model prog w) A (assign target env v) (fun zz s₂  => wpAny (model prog w) A (PySem.execs body env) (fun f s₃  => match f with
          | .next | .cont => codeAny (model prog w) A (.forLoop target it body [] env) R s₃
          | .brk => R (.ok .next) s₃
          | .ret v => R (.ok (.ret v)) s₃) (notedBy (model prog w) A env fun e s'  => R (.error e) s') s₂) (notedBy (model prog w) A env fun e s'  => R (.error e) s') s₁) (notedBy (model prog w) A env fun e s'  => R (.error e) s') s₁) (notedBy (model prog w) A env fun e s'  => R (.error e) s') s) :
    codeAny (model prog w) A (.forLoop target it body [] env) R s := by
  refine codeAny_of_tree ?_
  show wpAny _ A ((forTurn target it body [] env).onRaise (fun x  => do noteFrame x env; theTreesLotGoes x)) _ _ s
  refine wpAny_noted ?_
  unfold forTurn
  refine wpAny_bind (wpAny_standAt (wpAny_bind (wpAny_onRaise (wpAny_mono h (fun r s₁ h₁  => ?_) fun zz zz h'  => wpAny_standAt h'))))
  cases r with
  | none => exact wpAny_pure ⟨rfl, codeAny_block (wpAny_pure (a := Flow.next) h₁)⟩
  | some v =>
    refine wpAny_bind (wpAny_mono h₁ (fun zz s₁' h₁'  => ?_) fun zz zz h'  => h')
    refine wpAny_bind (wpAny_mono h₁' (fun zz s₂ h₂  => wpAny_bind (wpAny_mono h₂ (fun f s₃ h₃  => ?_) fun zz zz h'  => h')) fun zz zz h'  => h')
    cases f with
    | next => exact wpAny_pure ⟨rfl, h₃⟩
    | cont => exact wpAny_pure ⟨rfl, h₃⟩
    | brk => exact wpAny_pure h₃
    | ret v => exact wpAny_pure h₃
theorem while_turn {test : Expr} {body : List Stmt} {env : Env}
    (h : wpAny (model prog w) A (isTrue test env (eval test env)) (fun b s₂  =>
        if b then wpAny (model prog w) A (PySem.execs body env) (fun f s₃  => match f with
            | .next | .cont => codeAny (model prog w) A (.whileLoop test body [] env) R s₃
            | .brk => R (.ok .next) s₃
            | .ret v => R (.ok (.ret v)) s₃) (notedBy (model prog w) A env fun e s'  => R (.error e) s') s₂
        else R (.ok .next) s₂) (notedBy (model prog w) A env fun e s'  => R (.error e) s') s) :
    codeAny (model prog w) A (.whileLoop test body [] env) R s := by
  refine codeAny_of_tree ?_
  show wpAny _ A ((whileTurn test body [] env).onRaise (fun x  => do noteFrame x env; theTreesLotGoes x)) _ _ s
  refine wpAny_noted ?_
  unfold whileTurn
  refine wpAny_bind (wpAny_mono h (fun b s₂ h₂  => ?_) fun zz zz h'  => h')
  cases b with
  | false =>
    simp only [Bool.false_eq_true, if_false] at h₂ ⊢
    exact wpAny_bind (wpAny_pure (a := Flow.next) (wpAny_pure h₂))
  | true =>
    simp only [if_true] at h₂ ⊢
    refine wpAny_bind (wpAny_mono h₂ (fun f s₃ h₃  => ?_) fun zz zz h'  => h')
    cases f with
    | next => exact wpAny_pure ⟨rfl, h₃⟩
    | cont => exact wpAny_pure ⟨rfl, h₃⟩
    | brk => exact wpAny_pure h₃
    | ret v => exact wpAny_pure h₃
end

section
variable {X : Fix} (O : FixOK X) {d : Nat} {L : Lvl} (H : LvOK X d L) (HX : ExOK X d L) {cx : Cx} (hT : cx.T = X.T) (hO : OrcOK X d cx.orc) {A : Around} {fe : Env} {outer : List Env} {F : Addr} {c : Env} {ρ : Fr} {g : GW} {σ : Sto} {s : Shared} {kx : KX}
include O H HX hT hO

omit O H HX hT hO in
set_option tactic.hygienic false in
theorem isPair_eq {t e : Expr} {z : List Expr × List Expr} (h : isPair t e = some z) : ∃ a p b q, t = .Tuple z.1 a p ∧ e = .Tuple z.2 b q := by
  unfold isPair at h
  refine tupxE h nS ?_; clear h; intro ts a p h; refine tupxE h nS ?_; clear h; intro vs b q h
  obtain rfl := Option.some.inj h
  exact ⟨_, _, _, _, rfl, rfl⟩
omit O H HX hT hO in
set_option tactic.hygienic false in
theorem sole_tup {ts : List Expr} {a : Nat} {p : Pos} {e : Expr} {n : Nat} : swapsWithSole [.Tuple ts a p] e n c = pure false := by cases e <;> rfl
omit O H HX hT hO in
set_option tactic.hygienic false in
theorem stores_tup {ts : List Expr} {a : Nat} {p : Pos} {e : Expr} (hp : isPair (.Tuple ts a p) e = none) : swappedStores [.Tuple ts a p] e c = pure none := by
  cases e with
  | Tuple => exact absS hp
  | _ => rfl
omit O H HX hT hO in
set_option tactic.hygienic false in
theorem stores_name {x : Str} {p : Pos} {e : Expr} : swappedStores [.Name x p] e c = pure none := by cases e <;> rfl
omit O H HX hT hO in
set_option tactic.hygienic false in
theorem sole_name {x : Str} {p : Pos} {e : Expr} {n : Nat} (h : notComp e = true) : swapsWithSole [.Name x p] e n c = pure false := by
  cases e with
  | ListComp => exact absF h
  | SetComp => exact absF h
  | DictComp => exact absF h
  | _ => rfl
omit O H HX hT hO in
set_option tactic.hygienic false in
theorem comp_of {e : Expr} {k : KV} (hn : ¬ notComp e = true) (h : evS cx L e ρ σ k kx = true) : ∃ elt gg sc p, e = .ListComp elt [gg] sc p ∧ evComp cx L elt gg sc ρ σ k kx = true := by
  cases e with
  | ListComp elt gs sc p => exact oneE h fT fun gg h  => ⟨_, _, _, _, rfl, h⟩
  | SetComp => exact absF h
  | DictComp => exact absF h
  | _ => exact absurd rfl hn
set_option tactic.hygienic false in
theorem assign_ok (am : Amb X d A fe outer F c) (w : Wh X ρ c (fe :: outer) g σ s) {t e : Expr} {pos : Pos} {k : KF} (ht : okTgt t = true) (h : exAss cx L t e ρ σ k kx = true) :
    wpAny (model X.prog X.w) A (exec (.Assign [t] e pos) c) (EPost X ρ c (fe :: outer) g s k) (PX X (WS ρ c) (fe :: outer) F g s kx) s := by
  unfold exAss at h
  cases hp : isPair t e with
  | some z =>
    rw [hp] at h
    obtain ⟨zz, zz, zz, zz, rfl, rfl⟩ := isPair_eq hp
    refine ifE' h fT ?_; clear h; intro r hs h
    cases r with
    | none => exact asg_plain am w ht rfl (swap_ok w.fr hs) (H.ev am w _ _ kx h)
    | some names => exact asg_swap am w rfl (swap_ok w.fr hs) (H.ev am w _ _ kx h)
  | none =>
    rw [hp] at h
    have hev := evS_ok O H hT hO am w e _ h
    cases t with
    | Tuple ts a p1 => exact asg_plain am w ht sole_tup (stores_tup hp) hev
    | Name x pn =>
      by_cases hc : notComp e = true
      · exact asg_plain am w ht (sole_name hc) stores_name hev
      · obtain ⟨elt, gg, sc, cpos, rfl, h⟩ := comp_of hc h
        have hsw : ∃ b, swapsWith (.ListComp elt [gg] sc cpos) (some (.Name x pn)) pos.line c = pure b := ⟨_, rfl⟩
        obtain ⟨b, hb⟩ := hsw
        cases b with
        | false => exact asg_plain am w ht hb stores_name hev
        | true =>
          refine ifB h fT ?_; clear h; intro hg h; refine ifE' h fT ?_; clear h; intro up hu h
          obtain ⟨target, iter, ifs, ia⟩ := gg
          have hia : ia = 0 := by
            dsimp only [compOk] at hg
            simp only [Bool.and_eq_true] at hg
            simpa using hg.1.1.1.1
          subst hia
          exact asg_used O H hT am w hb hg hu h
    | _ => exact absF ht

/-! loops -/
omit O H HX hT hO in
set_option tactic.hygienic false in
theorem loop_err (am : Amb X d A fe outer F c) {S : Addr → Prop} {e : Value} {s' : Shared} {RR : Result → Shared → Prop} (hR : ∀ e s', RR (.error e) s' = cameBackBy (model X.prog X.w) A c (PX X S (fe :: outer) F g s kx) e s') (x : PX X S (fe :: outer) F g s kx e s') :
    notedBy (model X.prog X.w) A c (fun e s'  => RR (.error e) s') e s' := by
  unfold notedBy
  refine noteFrame_rel am.fr am.fe am.fc x fun t s'' y  => ?_
  show RR (.error e) s''
  rw [hR]
  exact cameBack_rel am.fc y fun s₃ z  => z

theorem forGo_ok (am : Amb X d A fe outer F c) {ρ₀ : Fr} {target : Expr} {body : List Stmt} {I : Addr} {ws : List Addr} {k : KF} {RR : Result → Shared → Prop}
    (hR : ∀ e s', RR (.error e) s' = cameBackBy (model X.prog X.w) A c (PX X (WS ρ₀ c) (fe :: outer) F g s kx) e s') (hok : ∀ f s', EPost X ρ₀ c (fe :: outer) g s k f s' → RR (.ok f) s') :
    ∀ (n : Nat) {g₁ σ₁ s₁ src ρ} (_ : To X (WS ρ₀ c) (fe :: outer) g s g₁ s₁) (_ : SameFr ρ₀ ρ) (_ : Wh X ρ c (fe :: outer) g₁ σ₁ s₁) (_ : Lp X (fe :: outer) c s.heap.objs.size g₁ s₁.heap I ws src) (_ : tgtOk src target = true),
      forGo L target body kx n src ρ σ₁ k = true → codeAny (model X.prog X.w) A (.forLoop target (.ref I) body [] c) RR s₁
  | 0, _, _, _, _, _, _, _, _, _, _, h => by cases h
  | n + 1, g₁, σ₁, s₁, src, ρ, t, e, w, lp, ht, h => by
    have wsOk : ∀ {g' : GW} {s' : Shared}, To X (· ∈ ws) (fe :: outer) g₁ s₁ g' s' → To X (WS ρ₀ c) (fe :: outer) g s g' s' := fun t'  => t.trans' t' fun b hb  => .inr (lp.new b hb)
    have stepW : ∀ {g' : GW} {σ' : Sto} {s' : Shared}, To X (· ∈ ws) (fe :: outer) g₁ s₁ g' s' → HR X g' σ' s'.heap → Wh X ρ c (fe :: outer) g' σ' s' := fun t' R'  =>
      w.stepS t' R' lp.loc (fun z a e hm  => absurd (lp.cel z a e) (Nat.not_lt.mpr (lp.new a hm))) fun L hL hm  => absurd (lp.frs L hL) (Nat.not_lt.mpr (lp.new L hm))
    dsimp only [forGo] at h
    split at h
    · cases h
    · rename_i hn
      refine for_turn (wpAny_mono (next_ok O (l := fe :: outer) (target := target) am.hd w.R lp.it lp.own hn ht (E := notedBy (model X.prog X.w) A c fun e s'  => RR (.error e) s')) (fun r s₂ hr  => ?_) fun zz zz q  => q)
      obtain ⟨rfl, t', R'⟩ := hr
      exact hok _ _ ⟨_, _, ρ, .next, wsOk t', R', (stepW t' R').fr, e, trivial, h⟩
    · rename_i p src' hn
      obtain ⟨ρ', ha', h⟩ := assT_some h
      refine for_turn (wpAny_mono (next_ok O (l := fe :: outer) (target := target) am.hd w.R lp.it lp.own hn ht (E := notedBy (model X.prog X.w) A c fun e s'  => RR (.error e) s')) (fun r s₂ hr  => ?_) fun zz zz q  => q)
      obtain ⟨u, rfl, hu⟩ := hr
      refine wpAny_mono hu (fun _ s₃ ⟨g₃, t₃, R₃, ru, it₃⟩ => ?_) fun zz zz q  => q
      have w₃ := stepW t₃ R₃
      have T₃ := wsOk t₃
      have lp₃ : Lp X (fe :: outer) c s.heap.objs.size g₃ s₃.heap I ws src' := ⟨it₃, fun b hb  => let ⟨_, e⟩ := lp.it.mem b hb; (lp.own b hb).step t₃.st e, lp.new, lp.loc, lp.cel, lp.frs⟩
      have ht' := tgtOk_next hn ht
      refine wpAny_mono (assN_ok (l := fe :: outer) (k := fun ρ  => Mine.execs L body ρ σ₁ (fun fl ρ σ  => match fl with
        | .next => forGo L target body kx n src' ρ σ k
        | .ret p => k (.ret p) ρ σ) kx) am.hd 3 w₃.fr R₃ ha' ru h) (fun _ s₄ ⟨ρ₄, t₄, R₄, fr₄, same, h₄⟩ => ?_) fun zz zz q  => q
      have w₄ := w₃.writes t₄ R₄ fr₄
      have e₄ := e.trans same
      have T₄ : To X (WS ρ₀ c) (fe :: outer) g s g₃ s₄ := T₃.trans (by rw [← WS.same (c := c) e]; exact t₄)
      have lp₄ := lp₃.go t₄ lp₃.notWS
      refine wpAny_mono (execs_ok HX am body w₄ h₄) (fun f s₅ ⟨g₅, σ₅, ρ₅, fp, t₅, R₅, fr₅, same₅, hf, h₅⟩ => ?_) (fun e' s' q  => loop_err am hR (q.baseW T₄ e₄))
      have e₅ := e₄.trans same₅
      have T₅ : To X (WS ρ₀ c) (fe :: outer) g s g₅ s₅ := T₄.trans (by rw [← WS.same (c := c) e₄]; exact t₅)
      have w₅ := w₄.writes t₅ R₅ fr₅
      have lp₅ := lp₄.go t₅ lp₄.notWS
      cases f with
      | next =>
        cases fp with
        | next => exact forGo_ok am hR hok n T₅ e₅ w₅ lp₅ ht' h₅
        | ret => exact hf.elim
      | ret v =>
        cases fp with
        | next => exact hf.elim
        | ret p => exact hok _ _ ⟨g₅, σ₅, ρ₅, .ret p, T₅, R₅, fr₅, e₅, hf, h₅⟩
      | brk => exact hf.elim
      | cont => exact hf.elim

omit O H HX hT hO in
set_option tactic.hygienic false in
theorem notSet_for {iter : Expr} {x : Value} (h : notSet iter = true) : foldedSetIterable iter c x = pure x := by
  cases iter with
  | Set => exact absF h
  | _ => rfl
set_option tactic.hygienic false in
theorem for_ok (am : Amb X d A fe outer F c) (w : Wh X ρ c (fe :: outer) g σ s) {target iter : Expr} {body : List Stmt} {pos : Pos} {k : KF} (hs : notSet iter = true)
    (h : evSrc cx L iter ρ σ (fun s σ  => if tgtOk s target then forGo L target body kx loopMax s ρ σ k else false) kx = true) :
    wpAny (model X.prog X.w) A (exec (.For target iter body [] pos) c) (EPost X ρ c (fe :: outer) g s k) (PX X (WS ρ c) (fe :: outer) F g s kx) s := by
  refine wpAny_For (wpAny_mono (src_ok O H hT am w h) (fun v s₁ h₁  => wpAny_mono h₁ (fun it s₂ h₂  => ?_) fun zz zz q  => q.monoS fun zz q  => q.elim) fun zz zz q  => q.monoS fun zz q  => q.elim) (fun x  => notSet_for hs)
  obtain ⟨I, ws, src, g₂, σ₂, rfl, t₂, R₂, it₂, own₂, hk₂⟩ := h₂
  refine ifB hk₂ fT fun htg hk₂  => ?_
  · have w₂ := w.step t₂ R₂
    have lp : Lp X (fe :: outer) c s.heap.objs.size g₂ s₂.heap I ws src := ⟨it₂, fun b hb  => (own₂ b hb).1, fun b hb  => (own₂ b hb).2, fun hm  => by
        obtain ⟨m, hn, zz⟩ := w.fr.loc
        exact absurd hn.lt (Nat.not_lt.mpr (own₂ _ hm).2), fun z a e  => by
        obtain ⟨⟨v, oc, e2, zz⟩, zz⟩ := w.fr.all z a e
        exact Heap.lt_size e2, fun M hM  => by
        obtain ⟨zz, zz, zz, o, ho, zz⟩ := w.fs.mem hM
        exact Heap.lt_size ho⟩
    exact forGo_ok O H HX hT hO am (g := g) (s := s) (ρ₀ := ρ) (fun zz zz  => rfl) (fun f s' q  => q) loopMax t₂.noW .refl w₂ lp htg hk₂

theorem whileGo_ok (am : Amb X d A fe outer F c) {ρ₀ : Fr} {test : Expr} {body : List Stmt} {k : KF} {RR : Result → Shared → Prop}
    (hR : ∀ e s', RR (.error e) s' = cameBackBy (model X.prog X.w) A c (PX X (WS ρ₀ c) (fe :: outer) F g s kx) e s') (hok : ∀ f s', EPost X ρ₀ c (fe :: outer) g s k f s' → RR (.ok f) s') :
    ∀ (n : Nat) {g₁ σ₁ s₁ ρ} (_ : To X (WS ρ₀ c) (fe :: outer) g s g₁ s₁) (_ : SameFr ρ₀ ρ) (_ : Wh X ρ c (fe :: outer) g₁ σ₁ s₁),
      whileGo L test body kx n ρ σ₁ k = true → codeAny (model X.prog X.w) A (.whileLoop test body [] c) RR s₁
  | 0, _, _, _, _, _, _, _, h => by cases h
  | n + 1, g₁, σ₁, s₁, ρ, t, e, w, h => by
    refine while_turn (wpAny_mono (H.tr am w test _ kx h) (fun b s₂ ⟨g₂, σ₂, t₂, R₂, h₂⟩ => ?_) (fun e' s' q  => loop_err am hR ((q.monoS fun zz q  => q.elim).baseW t e)))
    have w₂ := w.step t₂ R₂
    have T₂ : To X (WS ρ₀ c) (fe :: outer) g s g₂ s₂ := t.trans t₂.noW
    have h₂' : (if b then Mine.execs L body ρ σ₂ (fun fl ρ σ  => match fl with
      | .next => whileGo L test body kx n ρ σ k
      | .ret p => k (.ret p) ρ σ) kx else k .next ρ σ₂) = true := h₂
    cases b with
    | false =>
      rw [if_neg (by simp)]
      rw [if_neg (by simp)] at h₂'
      exact hok _ _ ⟨g₂, σ₂, ρ, .next, T₂, R₂, w₂.fr, e, trivial, h₂'⟩
    | true =>
      rw [if_pos rfl]
      rw [if_pos rfl] at h₂'
      refine wpAny_mono (execs_ok HX am body w₂ h₂') (fun f s₅ ⟨g₅, σ₅, ρ₅, fp, t₅, R₅, fr₅, same₅, hf, h₅⟩ => ?_) (fun e' s' q  => loop_err am hR (q.baseW T₂ e))
      have e₅ := e.trans same₅
      have T₅ : To X (WS ρ₀ c) (fe :: outer) g s g₅ s₅ := T₂.trans (by rw [← WS.same (c := c) e]; exact t₅)
      have w₅ := w₂.writes t₅ R₅ fr₅
      cases f with
      | next =>
        cases fp with
        | next => exact whileGo_ok am hR hok n T₅ e₅ w₅ h₅
        | ret => exact hf.elim
      | ret v =>
        cases fp with
        | next => exact hf.elim
        | ret p => exact hok _ _ ⟨g₅, σ₅, ρ₅, .ret p, T₅, R₅, fr₅, e₅, hf, h₅⟩
      | brk => exact hf.elim
      | cont => exact hf.elim
set_option tactic.hygienic false in
theorem while_ok (am : Amb X d A fe outer F c) (w : Wh X ρ c (fe :: outer) g σ s) {test : Expr} {body : List Stmt} {pos : Pos} {k : KF} (h : whileGo L test body kx loopMax ρ σ k = true) :
    wpAny (model X.prog X.w) A (exec (.While test body [] pos) c) (EPost X ρ c (fe :: outer) g s k) (PX X (WS ρ c) (fe :: outer) F g s kx) s :=
  wpAny_While (whileGo_ok O H HX hT hO am (g := g) (s := s) (ρ₀ := ρ) (fun zz zz  => rfl) (fun zz zz q  => q) loopMax To.refl .refl w h)
end
end Mine
end
section
open PySem PySem.W PyProof.Rows PySem.Calls PySem.SeqAt
set_option maxRecDepth 100000
set_option linter.unusedSectionVars false
namespace Mine

set_option tactic.hygienic false in
theorem mapSeq_set_plain (its : Array Value) (n j : Nat) (x : Value) : ∃ n', Obj.mapSeq (·.setIfInBounds j x) { cls := .type "list", data := .seq its n } = { cls := .type "list", data := .seq (its.setIfInBounds j x) n' } := by
  simp only [Obj.mapSeq]
  exact ⟨_, rfl⟩
set_option tactic.hygienic false in
theorem setItem_plain {prog : Program} {w : World} {A : Around} {E : Value → Shared → Prop} {s : Shared} {l : Addr} {items : Array Value} {k : Int} {t : Tok} {v : Value} {Q : Unit → Shared → Prop} (hl : s.heap.PlainList l items)
    (h0 : 0 ≤ k) (hfit : k < 2 ^ 63) (hn : k < items.size) (hQ : ∀ h', h'.PlainList l (items.setIfInBounds k.toNat v) → Heap.SameBut l s.heap h' → Q () { s with heap := h' }) :
    wpAny (model prog w) A (setItem (.ref l) (.int k t) v) Q E s := by
  have hl' := hl.isList
  obtain ⟨n, ho⟩ := hl
  unfold setItem
  try with_reducible refine wpAny_holding ?_
  first | refine wpAny_bind (wpAny_pure ?_) | skip
  refine wpAny_bind (wpAny_sequenceKey hl'.typeIs (by decide) ?_)
  refine wpAny_bind (wpAny_callSpecial?_slot (name := Str.ofString "__setitem__") hl'.typeIs slot_list_setitem (wpAny_call_entry slot_list_setitem hl'.typeIs entry_list_setitem ?_ (args_list_setitem _ _ _)))
  show wpAny _ _ (Builtin.List.listSubscript? (.int k t) >>= _) _ _ s
  refine wpAny_bind (wpAny_listSubscript_int (fitsIndex_of h0 hfit) ?_)
  clear hfit
  obtain ⟨j, rfl⟩ := Int.eq_ofNat_of_zero_le h0
  have hj : j < items.size := by (with_reducible exact Mine.ar51 (by assumption))
  show wpAny _ _ ((seqItemAt l j >>= fun r  => pure (r.map (j, ·))) >>= _) _ _ s
  refine wpAny_bind (wpAny_bind (wpAny_seqItemAt ho rfl (wpAny_pure ?_)))
  rw [show items[j]? = some items[j] from Array.getElem?_eq_getElem hj]
  show wpAny _ _ (setSeqItemAt l j v >>= _) _ _ s
  obtain ⟨n', hd⟩ := mapSeq_set_plain items n j v
  have hfin : (s.heap.update l (Obj.mapSeq (·.setIfInBounds j v))).PlainList l (items.setIfInBounds j v) :=
    ⟨n', (Heap.get?_update_self _ ho (Obj.isFreed_of_seq (by rw [hd]))).trans (congrArg some hd)⟩
  refine wpAny_bind (wpAny_setSeqItemAt ho rfl ?_)
  first
    | exact wpAny_bind (wpAny_pure (wpAny_pure ⟨.none, rfl, wpAny_pure (hQ _ hfin (Heap.SameBut.update ..))⟩))
    | exact wpAny_pure ⟨.none, rfl, wpAny_pure (hQ _ hfin (Heap.SameBut.update ..))⟩

set_option tactic.hygienic false in
theorem RepL.set {X : Fix} {g : GW} {v : Value} {p : PV} (r : RepV X g v p) : ∀ {i : Nat} {vs : List Value} {ps : List PV}, RepL X g vs ps → RepL X g (vs.set i v) (ps.set i p)
  | _, _, [], q => by obtain rfl := q.i0; exact .nil
  | 0, _, _ :: _, q => by obtain ⟨zz, zz, rfl, zz, b⟩ := q.i1; exact .cons r b
  | i + 1, _, _ :: _, q => by obtain ⟨zz, zz, rfl, a, b⟩ := q.i1; exact .cons a (b.set r)

section
variable {X : Fix} (O : FixOK X) {d : Nat} {L : Lvl} (H : LvOK X d L) {cx : Cx} (hT : cx.T = X.T) {A : Around} {fe : Env} {outer : List Env} {F : Addr} {c : Env} {ρ : Fr} {g : GW} {σ : Sto} {s : Shared} {kx : KX}
include O H hT
omit H in
set_option tactic.hygienic false in
theorem set_ok (w : Wh X ρ c (fe :: outer) g σ s) {x : Str} {i : Int} {u : Nat} {p1 p2 p3 : Pos} {p : PV} {v : Value} {k : Sto → Bool} (r : RepV X g v p) (h : setP cx x i p ρ σ k = true) {E : Value → Shared → Prop} :
    wpAny (model X.prog X.w) A (assign (.Subscript (.Name x p1) (.Constant (.int i) u p2) p3) c v) (fun zz s'  => ∃ σ', To X noS (fe :: outer) g s g s' ∧ HR X g σ' s'.heap ∧ k σ' = true) E s := by
  refine ifE' h fT fun z hx h  => ?_
  revert hx
  refine plstE h fT fun l h hx  => ifE' h fT fun xs hl h  => ifB h fT fun hc h  => band3 hc fun h1 h2 h3  => ?_
  have h1' := of_decide_eq_true h1
  have h2' : i.toNat < xs.length := by simpa using h2
  obtain ⟨vv, rv, hv⟩ := name_val O (A := A) (pos := p1) hT w hx
  obtain ⟨a, vs, rfl, hi, zz, q, hp⟩ := RepV.isList w.R rv hl
  have hlen := q.length
  rw [Array.length_toList] at hlen
  have := okL_le' h3
  rw [assign_Subscript]
  refine wpAny_bind (wpAny_holding (hv _ _ (wpAny_bind (wpAny_holding ?_))))
  show wpAny _ _ (mkInt i) _ _ _
  refine wpAny_mkInt (wpAny_bind (wpAny_standAt (wpAny_bind (wpAny_holding ?_))))
  refine setItem_plain (s := { s with toks := s.toks + 1 }) hp h1' (by (with_reducible exact Mine.ar52 (by assumption) (by assumption))) (by (with_reducible exact Mine.ar53 (by assumption) (by assumption) (by assumption))) fun h' hp' hs'  => ?_
  refine wpAny_release ?_
  refine ⟨_, ⟨Stp.setList (List.mem_of_getElem? hi) hs', rfl, rfl⟩, HR.setList w.R hi hs' hp' ?_, h⟩
  rw [Array.toList_setIfInBounds]
  exact q.set r
omit O H hT in
set_option tactic.hygienic false in
theorem sole_two {t e : Expr} {n : Nat} (hn : notComp2 e = true) : swapsWithSole [t] e n c = pure false := by
  cases e <;> first | rfl | exact absF hn
omit O H hT in
set_option tactic.hygienic false in
theorem stores_two {x y : Str} {i : Int} {u q1 : Nat} {p1 p2 p3 p q2 : Pos} {e : Expr} (hn : notComp2 e = true) : swappedStores [.Tuple [.Subscript (.Name x p1) (.Constant (.int i) u p2) p3, .Name y p] q1 q2] e c = pure none := by
  cases e <;> first | rfl | exact absF hn
omit O H hT in
set_option tactic.hygienic false in
theorem itemTgt_eq {t : Expr} {z : Str × Int × Option Expr} (h : itemTgt t = some z) : (∃ p1 u p2 p3, t = .Subscript (.Name z.1 p1) (.Constant (.int z.2.1) u p2) p3 ∧ z.2.2 = none) ∨
    ∃ p1 u p2 p3 y p q1 q2, t = .Tuple [.Subscript (.Name z.1 p1) (.Constant (.int z.2.1) u p2) p3, .Name y p] q1 q2 ∧ z.2.2 = some (.Name y p) := by
  unfold itemTgt at h
  refine iteS h (fun zz h  => ?_) (fun zz h  => ?_)
  · refine tupxE h nS ?_; clear h; intro ts q1 q2 h; refine twoE h nS ?_; clear h; intro a b h; refine itemE h nS ?_; clear h; intro x q i u q' p h; refine nameE h nS ?_; clear h; intro y py h
    obtain rfl := Option.some.inj h
    exact .inr ⟨_, _, _, _, _, _, _, _, rfl, rfl⟩
  · refine itemE h nS ?_; clear h; intro x q i u q' p h
    obtain rfl := Option.some.inj h
    exact .inl ⟨_, _, _, _, rfl, rfl⟩
theorem item1_ok (am : Amb X d A fe outer F c) (w : Wh X ρ c (fe :: outer) g σ s) {x : Str} {i : Int} {u : Nat} {p1 p2 p3 : Pos} {e : Expr} {pos : Pos} {k : KF} (hn : notComp2 e = true) (h : L.ev e ρ σ (fun p σ  => setP cx x i p ρ σ fun σ  => k .next ρ σ) kx = true) :
    wpAny (model X.prog X.w) A (exec (.Assign [.Subscript (.Name x p1) (.Constant (.int i) u p2) p3] e pos) c) (EPost X ρ c (fe :: outer) g s k) (PX X (WS ρ c) (fe :: outer) F g s kx) s := by
  rw [arm_exec_Assign]
  refine wpAny_bind (wpAny_standAt ?_)
  rw [sole_two hn]
  refine wpAny_bind (wpAny_pure ?_)
  rw [if_neg (by decide)]
  refine wpAny_bind (noE (vgo (H.ev am w _ _ kx h) fun v g₁ σ₁ s₁ to R₁ ⟨p, rp, hk⟩ => ?_))
  show wpAny _ _ (do assignAll v [assign (.Subscript (.Name x p1) (.Constant (.int i) u p2) p3) c]; pure Flow.next) _ _ s₁
  refine wpAny_bind (wpAny_mono (set_ok O hT (w.step to R₁) rp hk) (fun _ s₂ ⟨σ₂, t₂, R₂, hk₂⟩ => wpAny_pure ?_) fun zz zz q  => q)
  exact ⟨g₁, σ₂, ρ, .next, (to.trans t₂).noW, R₂, ((w.step to R₁).step t₂ R₂).fr, .refl, trivial, hk₂⟩
theorem item2_ok (am : Amb X d A fe outer F c) (w : Wh X ρ c (fe :: outer) g σ s) {x yn : Str} {i : Int} {u q1 : Nat} {p1 p2 p3 p q2 : Pos} {e : Expr} {pos : Pos} {k : KF} (hn : notComp2 e = true)
    (h : L.ev e ρ σ (fun pp σ  => ptupK false pp fun ps  => twoK false ps fun pa pb  => setP cx x i pa ρ σ fun σ  => assT (.Name yn p) pb ρ fun ρ  => k .next ρ σ) kx = true) :
    wpAny (model X.prog X.w) A (exec (.Assign [.Tuple [.Subscript (.Name x p1) (.Constant (.int i) u p2) p3, .Name yn p] q1 q2] e pos) c) (EPost X ρ c (fe :: outer) g s k) (PX X (WS ρ c) (fe :: outer) F g s kx) s := by
  rw [arm_exec_Assign]
  refine wpAny_bind (wpAny_standAt ?_)
  rw [sole_two hn]
  refine wpAny_bind (wpAny_pure ?_)
  rw [if_neg (by decide)]
  rw [stores_two hn]
  refine wpAny_bind (noE (vgo (H.ev am w _ _ kx h) fun v g₁ σ₁ s₁ to R₁ ⟨pp, rp, hk⟩ => ?_))
  refine wpAny_bind (wpAny_pure ?_)
  show wpAny _ _ (do assignAll v [assign (.Tuple [.Subscript (.Name x p1) (.Constant (.int i) u p2) p3, .Name yn p] q1 q2) c]; pure Flow.next) _ _ s₁
  revert rp
  refine ptupE hk fT fun ps hk  => twoE hk fT fun pa pb hk rp  => ?_
  obtain ⟨a, vs, rfl, htu, q⟩ := RepV.isTuple R₁ rp
  obtain ⟨va, vb, hvs, ra, rb⟩ := q.two
  have hsz : vs.size = 2 := by rw [← Array.length_toList, hvs]; rfl
  rw [show assignAll (.ref a) [assign (.Tuple [.Subscript (.Name x p1) (.Constant (.int i) u p2) p3, .Name yn p] q1 q2) c] = assign (.Tuple [.Subscript (.Name x p1) (.Constant (.int i) u p2) p3, .Name yn p] q1 q2) c (.ref a) from rfl, assign_Tuple]
  refine wpAny_bind (wpAny_bind (wpAny_standAt ?_))
  unfold unpack
  rw [show (assignEach [Expr.Subscript (.Name x p1) (.Constant (.int i) u p2) p3, .Name yn p] c).length = vs.size by rw [hsz]; rfl, show (assignEach [Expr.Subscript (.Name x p1) (.Constant (.int i) u p2) p3, .Name yn p] c).findIdx? (·.1) = none from rfl]
  refine wpAny_bind (wpAny_holding (wpAny_mono (wpAny_sized (Q := fun xs s'  => ∃ h', xs = vs.toList ∧ s' = { s₁ with heap := h' } ∧ Heap.ExtBut s₁.heap.objs.size s₁.heap h') (E := PX X (WS ρ c) (fe :: outer) F g s kx) (PyProof.Rows.unpackItems_tuple am.hd htu fun h' he  => ⟨h', rfl, rfl, he⟩)) (fun xs s' ⟨⟨h', e1, e2, he⟩, hz⟩ => ?_) fun zz zz q  => q.1))
  subst e1; subst e2
  have kp : ∀ b o, s₁.heap.get? b = some o → h'.get? b = some o := fun b o e  => he b o (fun q  => Nat.lt_irrefl _ (by rw [q] at e; exact Heap.lt_size e)) e
  have t₂ : To X noS (fe :: outer) g₁ s₁ g₁ { s₁ with heap := h' } := ⟨Stp.heap hz fun b o e zz zz zz  => kp b o e, rfl, rfl⟩
  have R₂ : HR X g₁ σ₁ h' := R₁.heap fun b o e zz  => kp b o e
  have w₂ := (w.step to R₁).step (s₁ := { s₁ with heap := h' }) t₂ R₂
  rw [hvs]
  show wpAny _ _ (assignInOrder [assign (.Subscript (.Name x p1) (.Constant (.int i) u p2) p3) c, assign (.Name yn p) c] [va, vb]) _ _ _
  refine PyProof.Rows.assignInOrder_cons (wpAny_mono (set_ok O hT w₂ ra hk) (fun _ s₃ ⟨σ₃, t₃, R₃, hk₃⟩ => ?_) fun zz zz q  => q)
  have w₃ := w₂.step t₃ R₃
  obtain ⟨ρ', ha, hk'⟩ := assT_some hk₃
  have T₃ := (to.trans t₂).trans t₃
  refine PyProof.Rows.assignInOrder_cons (wpAny_mono (assN_ok (l := fe :: outer) (k := fun ρ  => k .next ρ σ₃) am.hd 3 w₃.fr R₃ ha rb hk') (fun zz s₂ q  => ?_) fun zz zz q  => q)
  exact wpAny_pure (a := ()) (wpAny_pure (ass_end T₃ q))
set_option tactic.hygienic false in
theorem itemS_ok (am : Amb X d A fe outer F c) (w : Wh X ρ c (fe :: outer) g σ s) {t e : Expr} {pos : Pos} {z : Str × Int × Option Expr} {k : KF} (ht : itemTgt t = some z) (h : itemS cx L z.1 z.2.1 z.2.2 e ρ σ k kx = true) :
    wpAny (model X.prog X.w) A (exec (.Assign [t] e pos) c) (EPost X ρ c (fe :: outer) g s k) (PX X (WS ρ c) (fe :: outer) F g s kx) s := by
  refine ifB h fT fun hn h  => ?_
  rcases itemTgt_eq ht with ⟨p1, u, p2, p3, rfl, hz⟩ | ⟨p1, u, p2, p3, y, p, q1, q2, rfl, hz⟩
  · rw [hz] at h; exact item1_ok O H hT am w hn h
  · rw [hz] at h; exact item2_ok O H hT am w hn h
end
end Mine
end
section
open PySem PySem.W PyProof.Rows PySem.Calls PySem.SeqAt
set_option maxRecDepth 100000
set_option linter.unusedSectionVars false
namespace Mine
noncomputable def RaiseOK (X : Fix) (d : Nat) : Prop := ∀ {L : Lvl}, LvOK X d L → ∀ {cx : Cx}, cx.T = X.T → cx.gf = X.gf → ∀ {A fe outer F c ρ g σ s} (_ : Amb X d A fe outer F c) (_ : Wh X ρ c (fe :: outer) g σ s) {f : Str} {a : Expr} {p pos pos' : Pos} {kx : KX} {Q : Flow → Shared → Prop},
  nameOk f = true → noStar a = true → isGf cx f ρ = true → L.ev a ρ σ (fun p σ => pstrK false p fun _ => kx σ) kx = true →
  wpAny (model X.prog X.w) A (exec (.Raise (some (.Call (.Name f p) [a] [] pos)) none pos') c) Q (PX X noS (fe :: outer) F g s kx) s

section
variable {X : Fix} (O : FixOK X) {d : Nat} (hRa : RaiseOK X d) {L : Lvl} (H : LvOK X d L) (HX : ExOK X d L) {cx : Cx} (hT : cx.T = X.T) (hgf : cx.gf = X.gf) (hO : OrcOK X d cx.orc) {A : Around} {fe : Env} {outer : List Env} {F : Addr} {c : Env} {ρ : Fr} {g : GW} {σ : Sto} {s : Shared} {kx : KX}
include O hRa H HX hT hgf hO
theorem exS_ok (am : Amb X d A fe outer F c) (w : Wh X ρ c (fe :: outer) g σ s) (st : Stmt) (k : KF) (h : exS cx L st ρ σ k kx = true) :
    wpAny (model X.prog X.w) A (exec st c) (EPost X ρ c (fe :: outer) g s k) (PX X (WS ρ c) (fe :: outer) F g s kx) s := by
  cases st with
  | Expr => exact ifB h fT fun hn h => exprS_ok O am w (P := fun _ σ => k .next ρ σ) hn (fun _ _ q => q) (H.ev am w _ _ kx h)
  | Return => exact ifE h fT fun e h => ret_ok O H am w h
  | Assign ts e pos =>
    refine oneE h fT fun t h => ?_
    cases hi : itemTgt t with
    | some z => rw [hi] at h; exact itemS_ok O H hT am w hi h
    | none => rw [hi] at h; exact ifB h fT fun ht h => assign_ok O H HX hT hO am w ht h
  | If => exact if_ok O H HX am w h
  | For => exact nilE h fT fun h => ifB h fT fun hs h => for_ok O H HX hT hO am w hs h
  | While => exact nilE h fT fun h => while_ok O H HX hT hO am w h
  | Raise e z p =>
    cases e with
    | none => exact absF h
    | some e => cases z with
      | some => exact absF h
      | none =>
        refine call0E h fT fun gg as ks p h => nilE h fT fun h => nameE h fT fun f p' h => oneE h fT fun a h => ifB h fT fun hc h => band3 hc fun h1 h2 h3 => ?_
        exact noE (hRa H hT hgf am w h1 h2 h3 h)
  | _ => exact absF h
end
theorem lvlX_ok {X : Fix} (O : FixOK X) {d : Nat} (hRa : RaiseOK X d) {cx : Cx} (hT : cx.T = X.T) (hgf : cx.gf = X.gf) (hO : OrcOK X d cx.orc) : ∀ n, ExOK X d (lvl cx n)
  | 0 => ⟨fun _ _ _ _ _ h => (nomatch h)⟩
  | n + 1 => ⟨fun am w st k _ h => exS_ok O hRa (lvl_ok O hT hO n) (lvlX_ok O hRa hT hgf hO n) hT hgf hO am w st k h⟩
end Mine
end
section
open PySem PySem.W PyProof.Rows PySem.Calls PySem.SeqAt
set_option maxRecDepth 100000
set_option linter.unusedSectionVars false
namespace Mine

/-! binding -/
theorem zip_lookup {α β : Type} [BEq α] [LawfulBEq α] : ∀ {xs : List α} {vs : List β} {x : α}, vs.length = xs.length → x ∈ xs → ((xs.zip vs).lookup x).isSome = true
  | [], _, _, _, h => by cases h
  | y :: ys, [], _, hl, _ => by cases hl
  | y :: ys, v :: vs, x, hl, h => by
    rw [List.zip_cons_cons, List.lookup_cons]
    split
    · rfl
    · rename_i e
      rcases List.mem_cons.mp h with rfl | h
      · simp at e
      · exact zip_lookup (by simpa using hl) h
set_option tactic.hygienic false in
theorem zip_filterMap {β : Type} : ∀ {xs : List Str} {vs : List β}, xs.Nodup → vs.length = xs.length → (xs.filterMap fun n  => ((xs.zip vs).lookup n).map (n, ·)) = xs.zip vs := by
  intro xs vs hn hl
  have key : ∀ (xs : List Str) (vs : List β) (Z : List (Str × β)), xs.Nodup → vs.length = xs.length → (∀ x v, (x, v) ∈ xs.zip vs → Z.lookup x = some v) → (xs.filterMap fun n  => (Z.lookup n).map (n, ·)) = xs.zip vs := by
    intro xs
    induction xs with
    | nil => intro vs Z zz zz zz; rfl
    | cons x xs ih =>
      intro vs Z hn hl hZ
      cases vs with
      | nil => cases hl
      | cons v vs =>
        rw [List.filterMap_cons, hZ x v (by simp)]
        rw [List.zip_cons_cons]
        show (x, v) :: xs.filterMap (fun n  => (Z.lookup n).map (n, ·)) = _
        rw [ih vs Z (List.nodup_cons.mp hn).2 (by simpa using hl) fun y u hm  => hZ y u (by rw [List.zip_cons_cons]; exact .tail _ hm)]
  refine key xs vs _ hn hl fun x v hm  => ?_
  clear key
  induction xs generalizing vs with
  | nil => cases hm
  | cons y ys ih =>
    cases vs with
    | nil => cases hl
    | cons u us =>
      rw [List.zip_cons_cons] at hm ⊢
      rw [List.lookup_cons]
      rcases List.mem_cons.mp hm with e | hm2
      · cases e; simp
      · have hy : y ∉ ys := (List.nodup_cons.mp hn).1
        have : (x == y) = false := by
          rw [beq_eq_false_iff_ne]
          intro q
          exact hy (q ▸ (List.of_mem_zip hm2).1)
        rw [this]
        exact ih (List.nodup_cons.mp hn).2 (by simpa using hl) hm2
set_option tactic.hygienic false in
theorem distinctS_ok : ∀ {xs : List Str}, distinctS xs = true → xs.Nodup
  | [], _ => List.nodup_nil
  | x :: r, h => by
    rw [distinctS, Bool.and_eq_true] at h
    refine List.nodup_cons.mpr ⟨fun hm  => ?_, distinctS_ok h.2⟩
    have := h.1
    rw [Bool.not_eq_true', List.any_eq_false] at this
    exact this x hm (by rw [eqS_iff]; simp)

set_option tactic.hygienic false in
theorem forIn_fix {α β : Type} {l : List α} {f : α → β → Sem (ForInStep β)} (c : β) (h : ∀ x ∈ l, f x c = pure (.yield c)) : forIn l c f = pure c := by
  induction l with
  | nil => rfl
  | cons x r ih =>
    rw [List.forIn_cons, h x (.head _), pure_bind]
    exact ih fun y hy  => h y (.tail _ hy)
section
variable {M : Model} {A : Around} {E : Value → Shared → Prop} {s : Shared}
set_option tactic.hygienic false in
theorem bind_full {fd : FuncData} {vals : List Value} {Q : List (Str × Value) → Shared → Prop} (hp : plainPar fd.params = true) (hl : vals.length = (fd.params.args.map (·.arg)).length) (hn : (fd.params.args.map (·.arg)).Nodup)
    (hd : fd.defaults = .none ∨ ∃ t o vs n, fd.defaults = .ref t ∧ s.heap.get? t = some o ∧ o.data = .seq vs n) (h : Q ((fd.params.args.map (·.arg)).zip vals) s) : wpAny M A (bindArgs fd ⟨vals, []⟩) Q E s := by
  obtain ⟨name, qualname, params, body, scope, globals, closure, defaults, kwdefaults, doc, pyModule, annotations, code, closureTuple, builtins⟩ := fd
  simp only at hp hl hn hd h
  obtain ⟨po, args, va, ko, kd, kw, dfl⟩ := params
  obtain ⟨rfl, zz, rfl, rfl, rfl, rfl, zz⟩ := Arguments.mk.inj (plainPar_eq hp)
  unfold bindArgs
  dsimp only at hl hn h ⊢
  have hseq : ∀ {Q' : Option (Array Value) → Shared → Prop}, (∀ r, Q' r s) → wpAny M A (seqItems? defaults) Q' E s := by
    intro Q' hq
    rcases hd with rfl | ⟨t, o, vs, n, rfl, ho, hdd⟩
    · unfold seqItems?
      exact wpAny_bind (wpAny_of_eq (a := ()) rfl (wpAny_pure (hq _)))
    · exact wpAny_seqItems ho hdd (hq _)
  generalize hN : args.map (·.arg) = N at *
  simp only [List.map_nil, List.nil_append, List.append_nil, List.forIn_nil, pure_bind]
  refine wpAny_bind (hseq fun r  => ?_)
  generalize ((r.getD #[]).toList) = ds
  have hgt : ¬ (decide (vals.length > N.length) && (none : Option Arg).isNone) = true := by simp [hl]
  rw [if_neg hgt]
  have hlook : ∀ x ∈ N, ((N.zip vals).lookup x).isNone = false := fun x hx  => by
    have := zip_lookup hl hx
    cases hh : (N.zip vals).lookup x with
    | none => rw [hh] at this; cases this
    | some => rfl
  have hmiss : ((N.take (N.length - (ds.drop (ds.length - N.length)).length)).filter fun n  => ((N.zip vals).lookup n).isNone) = [] := by
    rw [List.filter_eq_nil_iff]
    intro x hx
    rw [hlook x (List.mem_of_mem_take hx)]; simp
  rw [if_neg (by rw [hmiss]; decide)]
  rw [forIn_fix (N.zip vals) fun x hx  => by
    have hm : x.1 ∈ N := List.mem_of_mem_drop (List.of_mem_zip hx).1
    rw [hlook x.1 hm]; rfl]
  rw [pure_bind, if_neg (by decide), zip_filterMap hn hl]
  exact wpAny_pure h
end
end Mine
end
section
open PySem PySem.W PyProof.Rows PySem.Calls PySem.SeqAt
set_option maxRecDepth 100000
set_option linter.unusedSectionVars false
namespace Mine

/-! a new frame's variables -/
set_option tactic.hygienic false in
theorem bindL_out {kd : Str → Option NameKind} {x : Str} : ∀ {bs : List (Str × Value)} {m : Str → Option Value}, x ∉ bs.map (·.1) → bindL kd bs m x = m x
  | [], _, _ => rfl
  | (n, v) :: r, m, h => by
    rw [List.map_cons, List.mem_cons, not_or] at h
    rw [bindL, bindL_out h.2]
    split
    · exact if_neg h.1
    · rfl
theorem bindL_in {kd : Str → Option NameKind} {x : Str} (hk : kd x = some .local) : ∀ {bs : List (Str × Value)} {m : Str → Option Value} {v : Value}, (bs.map (·.1)).Nodup → bs.lookup x = some v → bindL kd bs m x = some v
  | [], _, _, _, h => by cases h
  | (n, u) :: r, m, v, hn, h => by
    rw [List.map_cons, List.nodup_cons] at hn
    rw [List.lookup_cons] at h
    rw [bindL]
    split at h
    · rename_i e
      cases h
      have : x = n := by simpa using e
      subst this
      rw [bindL_out hn.1, if_pos hk]; simp
    · exact bindL_in hk hn.2 h
set_option tactic.hygienic false in
theorem bindC_out {kd : Str → Option NameKind} {x : Str} : ∀ {bs : List (Str × Value)} {m : Str → Option Value}, x ∉ bs.map (·.1) → bindC kd bs m x = m x
  | [], _, _ => rfl
  | (n, v) :: r, m, h => by
    rw [List.map_cons, List.mem_cons, not_or] at h
    rw [bindC, bindC_out h.2]
    split
    · rfl
    · exact if_neg h.1
theorem bindC_in {kd : Str → Option NameKind} {x : Str} (hk : kd x = some .cell) : ∀ {bs : List (Str × Value)} {m : Str → Option Value} {v : Value}, (bs.map (·.1)).Nodup → bs.lookup x = some v → bindC kd bs m x = some v
  | [], _, _, _, h => by cases h
  | (n, u) :: r, m, v, hn, h => by
    rw [List.map_cons, List.nodup_cons] at hn
    rw [List.lookup_cons] at h
    rw [bindC]
    split at h
    · rename_i e
      cases h
      have : x = n := by simpa using e
      subst this
      rw [bindC_out hn.1, if_neg (by rw [hk]; simp)]; simp
    · exact bindC_in hk hn.2 h
set_option tactic.hygienic false in
theorem cellsFrom_acc {q : Str × Addr} : ∀ {l : List (Str × NameKind)} {n : Nat} {acc : List (Str × Addr)}, q ∈ acc → q ∈ cellsFrom n l acc
  | [], _, _, h => h
  | (y, k) :: r, n, acc, h => by
    rw [cellsFrom]
    split
    · exact cellsFrom_acc (.tail _ h)
    · exact cellsFrom_acc h
set_option tactic.hygienic false in
theorem cellsFrom_has {x : Str} : ∀ {l : List (Str × NameKind)} {n : Nat} {acc : List (Str × Addr)}, (x, NameKind.cell) ∈ l → ∃ a, (x, a) ∈ cellsFrom n l acc
  | [], _, _, h => by cases h
  | (y, k) :: r, n, acc, h => by
    rw [cellsFrom]
    rcases List.mem_cons.mp h with e | h
    · cases e
      rw [if_pos (by rfl)]
      exact ⟨n, cellsFrom_acc (.head _)⟩
    · split <;> exact cellsFrom_has h
set_option tactic.hygienic false in
theorem pair_inj {l : List (Str × Addr)} (h : l.Pairwise fun x y  => x.2 ≠ y.2) : ∀ p ∈ l, ∀ q ∈ l, p.2 = q.2 → p = q := by
  induction h with
  | nil => intro p hp; cases hp
  | cons h1 _ ih =>
    intro p hp q hq e
    rcases List.mem_cons.mp hp with ep | hp'
    · rcases List.mem_cons.mp hq with eq | hq'
      · rw [ep, eq]
      · rw [ep] at e; exact absurd e (h1 q hq')
    · rcases List.mem_cons.mp hq with eq | hq'
      · rw [eq] at e; exact absurd e.symm (h1 p hp')
      · exact ih p hp' q hq' e
theorem bindP_ok {X : Fix} {g : GW} : ∀ {xs : List Str} {ps : List PV} {bs : List (Str × PV)} {vs : List Value}, bindP xs ps = some bs → RepL X g vs ps → vs.length = xs.length ∧ ∀ x p, lk x bs = some p → ∃ v, (xs.zip vs).lookup x = some v ∧ RepV X g v p
  | [], [], _, _, h, q => by obtain rfl := q.i0; cases h; exact ⟨rfl, fun x p e  => by cases e⟩
  | x :: xs, p :: ps, bs, _, h, q0 => by
    obtain ⟨v, vs, rfl, a, b⟩ := q0.i1
    dsimp only [bindP] at h
    cases hr : bindP xs ps with
    | none => rw [hr] at h; cases h
    | some r =>
      rw [hr] at h; cases h
      obtain ⟨h1, h2⟩ := bindP_ok hr b
      refine ⟨by rw [List.length_cons, List.length_cons, h1], fun y q e  => ?_⟩
      dsimp only [lk] at e
      rw [List.zip_cons_cons, List.lookup_cons]
      rw [eqS_iff] at e
      split at e
      · rename_i hy; cases e; rw [hy]; exact ⟨v, rfl, a⟩
      · rename_i hy
        have hy' : (y == x) = false := by simpa using hy
        rw [hy']
        exact h2 y q e
  | [], _ :: _, _, _, h, _ => by cases h
  | _ :: _, [], _, _, h, _ => by cases h

/-! several new objects are frozen -/
noncomputable def frzAll (g : GW) (h : Heap) (as : List Addr) : GW := ⟨fun b => if b ∈ as then h.get? b else g.Γ b, g.la⟩
set_option tactic.hygienic false in
theorem frzAll_ext {X : Fix} {g : GW} {h : Heap} {as : List Addr} (ha : ∀ a ∈ as, Own X g a) : GExt g (frzAll g h as) := ⟨fun b o e  => by
    show (if b ∈ as then h.get? b else g.Γ b) = some o
    rw [if_neg (fun q  => by rw [(ha b q).nf] at e; cases e)]; exact e, [], (List.append_nil _).symm⟩
set_option tactic.hygienic false in
theorem HR.freezeAll {X : Fix} {g : GW} {σ : Sto} {h : Heap} {as : List Addr} (x : HR X g σ h) (ha : ∀ a ∈ as, Own X g a) : HR X (frzAll g h as) σ h := by
  have ge := frzAll_ext (h := h) ha
  refine ⟨fun b o e  => ?_, fun b o e  => ge.ext _ _ (x.base b o e), x.len, fun i b xs e1 e2  => ?_, x.nod, fun b hb  => ⟨?_, (x.laF b hb).2⟩, ?_, ?_⟩
  · have e' : (if b ∈ as then h.get? b else g.Γ b) = some o := e
    split at e'
    · exact e'
    · exact x.frz b o e'
  · obtain ⟨vs, l, q⟩ := x.lst i b xs e1 e2
    exact ⟨vs, l, repL_mono ge q⟩
  · show (if b ∈ as then h.get? b else g.Γ b) = none
    rw [if_neg (fun q  => (ha b q).nl hb)]; exact (x.laF b hb).1
  · obtain ⟨ps, h1, h2, h3⟩ := x.tab.tab
    exact ⟨ps, h1, h2, fun pos c' e  => let ⟨cd, oc, vs, t, i1, i2, i3⟩ := h3 pos c' e; ⟨cd, oc, vs, t, i1, ge.ext _ _ i2, i3⟩⟩
  · show (if X.P ∈ as then h.get? X.P else g.Γ X.P) = none
    rw [if_neg (fun q  => (ha _ q).nP rfl)]; exact x.noP
theorem Stp.freezeAll {X : Fix} {S FS g h g' h' hh} {as : List Addr} (x : Stp X S FS g h g' h') (ha : ∀ a ∈ as, Own X g' a) (hn : ∀ a ∈ as, h.objs.size ≤ a) : Stp X S FS g h (frzAll g' hh as) h' := by
  have ge := frzAll_ext (h := hh) ha
  refine ⟨x.size, fun b o e  => ge.ext _ _ (x.ext b o e), fun b o e  => ?_, x.la, x.keep⟩
  have e' : (if b ∈ as then hh.get? b else g'.Γ b) = some o := e
  split at e'
  · rename_i hb; exact .inr (hn b hb)
  · exact x.new b o e'
end Mine
end
section
open PySem PySem.W PyProof.Rows PySem.Calls PySem.SeqAt
set_option maxRecDepth 100000
set_option linter.unusedSectionVars false
namespace Mine

section
variable {X : Fix} {S : Addr → Prop} {l : List Env} {env : Env} {L : Addr} {g g₁ g' : GW} {s s₁ s' : Shared}
set_option tactic.hygienic false in
theorem Stp.pop (hf : env.frame = some L) (hL : s.heap.objs.size ≤ L) (hS : ∀ b, S b → s.heap.objs.size ≤ b) (t₁ : Stp X noS (fsOf l) g s.heap g₁ s₁.heap) (t : Stp X S (fsOf (env :: l)) g₁ s₁.heap g' s'.heap) : Stp X noS (fsOf l) g s.heap g' s'.heap := by
  have hfs : fsOf (env :: l) = L :: fsOf l := by show (env :: l).filterMap (·.frame) = _; rw [List.filterMap_cons, hf]
  rw [hfs] at t
  have z := (t₁.mono (S' := noS) (FS' := L :: fsOf l) (fun zz q  => q) fun b q  => .tail _ q).trans' t fun b q  => .inr (hS b q)
  refine ⟨z.size, z.ext, z.new, z.la, fun b o e n1 n2 n3  => ?_⟩
  obtain ⟨o', e', q⟩ := z.keep b o e n1 n2 n3
  refine ⟨o', e', q.imp id fun ⟨hb, r⟩ => ⟨?_, r⟩⟩
  rcases List.mem_cons.mp hb with rfl | hb
  · exact absurd (Heap.lt_size e) (Nat.not_lt.mpr hL)
  · exact hb
set_option tactic.hygienic false in
theorem To.pop (hf : env.frame = some L) (hL : s.heap.objs.size ≤ L) (hS : ∀ b, S b → s.heap.objs.size ≤ b) (t₁ : To X noS l g s g₁ s₁) (t : To X S (env :: l) g₁ s₁ g' s') : To X noS l g s g' s' :=
  ⟨Stp.pop hf hL hS t₁.st t.st, t.gens.trans t₁.gens, t.os.trans t₁.os⟩
set_option tactic.hygienic false in
theorem XR.pop {kx : KX} {T : Option (Addr × Value)} {e : Value} (hf : env.frame = some L) (hL : s.heap.objs.size ≤ L) (hS : ∀ b, S b → s.heap.objs.size ≤ b) (t₁ : To X noS l g s g₁ s₁) (x : XR X S (env :: l) g₁ s₁ kx T e s') : XR X noS l g s kx T e s' := by
  obtain ⟨⟨g', σ, ea, he, hst, R, ⟨hle, hok, oe, vs, a1, a2, a3, a4, a5⟩, hF, hk⟩, e1, e2⟩ := x
  refine ⟨⟨g', σ, ea, he, Stp.pop hf hL hS t₁.st hst, R, ⟨Nat.le_trans t₁.st.size hle, hok, oe, vs, a1, a2, a3, a4, ?_⟩, fun env' he'  => hF env' (.tail _ he'), hk⟩, e1.trans t₁.gens, e2.trans t₁.os⟩
  cases T with
  | none => exact a5
  | some q =>
    obtain ⟨b1, b2, b3, b4⟩ := a5
    exact ⟨b1, b2, Nat.le_trans t₁.st.size b3, b4⟩
end

set_option tactic.hygienic false in
theorem codeOk_ok {K : Frag} {fd : FuncData} {H : Heap} (h : codeOk K fd = true) (kB : ∀ b ob, K.lookup b = some ob → H.get? b = some ob) : H.CodeRec fd.code fd.qualname := by
  refine ifE' h fT fun c ec h  => ifE' h fT fun o eo h  => ifE' h fT fun vs ev h  => ifE' h fT fun v e1 h  => ifE' h fT fun q eq h  => ?_
  rw [vstrV_eq eq] at e1
  have hq : q.1 = fd.qualname := by rw [eqS_iff] at h; exact eq_of_beq h
  rw [hq] at e1
  exact ⟨c, o, vs, q.2, refV_eq ec, kB _ _ eo, fieldsV_eq ev, e1⟩
set_option tactic.hygienic false in
theorem dfltOk_ok {K : Frag} {fd : FuncData} {H : Heap} (h : dfltOk K fd = true) (kB : ∀ b ob, K.lookup b = some ob → H.get? b = some ob) : fd.defaults = .none ∨ ∃ t o vs n, fd.defaults = .ref t ∧ H.get? t = some o ∧ o.data = .seq vs n := by
  dsimp only [dfltOk] at h
  generalize fd.defaults = v at h
  cases v with
  | none => exact .inl rfl
  | ref t => exact ifE' h fT fun o eo h  => ifE' h fT fun z ez zz  => .inr ⟨t, o, z.1, z.2, rfl, kB _ _ eo, seqV_eq ez⟩
  | _ => exact absF h
noncomputable def frOf (X : Fix) (fd : FuncData) (a : Addr) (bs : List (Str × PV)) : Fr := { scope := fd.scope, vars := bs, up := [], lam := lamOf fd.scope (fd.params.args.map (·.arg)), q := Nat.beq a X.T.sh }
noncomputable def retOf : Flow → Value
  | .ret v => v
  | _ => .none
noncomputable def isRet : Flow → Bool
  | .ret _ => true
  | .next => true
  | _ => false
theorem callDef_genB {X : Fix} (O : FixOK X) {d : Nat} {A : Around} {fe : Env} {outer : List Env} {F : Addr} {g : GW} {σ : Sto} {s : Shared} {kx : KX} (am : Amb X (d + 1) A fe outer F fe) (R : HR X g σ s.heap) (fs : FramesOK X g s.heap (fe :: outer))
    {a : Addr} {o : Obj} {fd : FuncData} {body : List Stmt} {vs vc : List Value} {k : KV} (hK : X.T.K.lookup a = some o) (ho : o.data = .func fd) (hf : fnOk X.T.K fd = true) (hb : fd.body = .stmts body) (hl : vs.length = (fd.params.args.map (·.arg)).length)
    (hbind : ∀ {M : Model} {A : Around} {E : Value → Shared → Prop} {Q : List (Str × Value) → Shared → Prop}, Q ((fd.params.args.map (·.arg)).zip vs) s → wpAny M A (bindArgs fd ⟨vc, []⟩) Q E s)
    (h : ∀ (A₁ : Around) (env : Env) (F₁ : Addr) (g₁ : GW) (s₁ : Shared), Amb X d A₁ env (fe :: outer) F₁ env → To X noS (fe :: outer) g s g₁ s₁ →
      (∀ ps bs, bindP (fd.params.args.map (·.arg)) ps = some bs → RepL X g vs ps → Wh X (frOf X fd a bs) env (env :: fe :: outer) g₁ σ s₁) →
      wpAny (model X.prog X.w) A₁ (PySem.execs body env) (fun f s₂  => ∃ g₂ σ₂, To X (WS (frOf X fd a []) env) (env :: fe :: outer) g₁ s₁ g₂ s₂ ∧ HR X g₂ σ₂ s₂.heap ∧ ∃ p, RepV X g₂ (retOf f) p ∧ k p σ₂ = true ∧ isRet f = true) (PX X (WS (frOf X fd a []) env) (env :: fe :: outer) F₁ g₁ s₁ kx) s₁) :
    wpAny (model X.prog X.w) A (call (.ref a) vc) (VG X noS (fe :: outer) g s (RV X k)) (PX X noS (fe :: outer) F g s kx) s := by
  unfold fnOk at hf
  refine band11 hf fun f1 f2 f3 f4 f5 f6 f7 f8 f9 f10 f11  => ?_; clear hf
  have kB : ∀ b ob, X.T.K.lookup b = some ob → s.heap.get? b = some ob := fun b ob e  => R.frz _ _ (R.base _ _ (O.inK _ _ e))
  have hkind := isFun_eq f3
  have hglob := Nat.eq_of_beq_eq_true f6
  have hblt := Nat.eq_of_beq_eq_true f7
  have hclo : fd.closure = [] := by simpa using f8
  have hcd := codeOk_ok f9 kB
  have hnd := distinctS_ok f2
  have hparK : ∀ x ∈ fd.params.args.map (·.arg), lk x fd.scope.names = some .local ∨ lk x fd.scope.names = some .cell := fun x hx  => by
    have := (List.all_eq_true.mp f11) x hx
    exact parKind_eq this
  have hzn : ((fd.params.args.map (·.arg)).zip vs).map (·.1) = fd.params.args.map (·.arg) := by
    rw [List.map_fst_zip]; rw [hl]; exact Nat.le_refl _
  have hnl : s.heap.NoLimit := O.nolimit.keeps fun b o e  => R.frz _ _ (R.base _ _ e)
  refine wpAny_call (codeAny_call_function (by have := am.depth; show A.depth < 1000; (with_reducible exact Mine.ar56 (by assumption))) (kB _ _ hK) ho (by simpa using f4) (by simpa using f5) hb hcd ?_)
  refine hbind ?_
  rw [hclo]
  refine wpAny_newFunctionEnv_cells hkind (fun x hx  => ?_) fun env he s₁ x  => ?_
  · have hx1 : x.1 ∈ fd.params.args.map (·.arg) := by rw [← hzn]; exact List.mem_map_of_mem hx
    rcases hparK x.1 hx1 with e | e
    · left; rw [← lk_eq]; exact e
    · right
      refine ⟨by rw [← lk_eq]; exact e, ?_⟩
      obtain ⟨b, hb'⟩ := cellsFrom_has (n := s.heap.objs.size + 1) (acc := []) (lk_mem e)
      obtain ⟨u, hu⟩ := mem_lookup hb'
      rw [hu]; rfl
  · have hloc : env.locals = s.heap.objs.size := by rw [he]; rfl
    have hfr : env.frame = some s.heap.objs.size := by rw [he]; rfl
    have hsc : env.scope = fd.scope := by rw [he]; rfl
    have hcells : env.cells = cellsFrom (s.heap.objs.size + 1) fd.scope.names [] := by rw [he]; rfl
    obtain ⟨⟨⟨h₁, tk, hs₁⟩, xns, xkeep, zz⟩, xcell, xapart, xabove⟩ := x
    subst hs₁
    dsimp only at xns xkeep xcell
    rw [hloc] at xns xabove
    refine ⟨hnl.keeps xkeep, codeAny_func ?_⟩
    have hL := xns.lt
    have R' : HR X g σ h₁ := R.heap fun b ob e zz  => xkeep b ob e
    -- the cells
    have ownc : ∀ y b, (y, b) ∈ env.cells → Own X g b := fun y b hm  => by
      obtain ⟨n1, n2, n3⟩ := R.fresh (Nat.le_of_lt (xabove y b hm))
      exact ⟨n1, n2, n3⟩
    let as : List Addr := if lamOf fd.scope (fd.params.args.map (·.arg)) then env.cells.map (·.2) else []
    have has : ∀ b ∈ as, ∃ y, (y, b) ∈ env.cells := fun b hb'  => by
      have hb2 : b ∈ (if lamOf fd.scope (fd.params.args.map (·.arg)) then env.cells.map (·.2) else []) := hb'
      split at hb2
      · obtain ⟨⟨y, b'⟩, hm, rfl⟩ := List.mem_map.mp hb2; exact ⟨y, hm⟩
      · cases hb2
    have hown : ∀ b ∈ as, Own X g b := fun b hb'  => let ⟨y, hm⟩ := has b hb'; ownc y b hm
    have hge : ∀ b ∈ as, s.heap.objs.size ≤ b := fun b hb'  => let ⟨y, hm⟩ := has b hb'; Nat.le_of_lt (xabove y b hm)
    have R₁ := R'.freezeAll hown
    have t₁ : To X noS (fe :: outer) g s (frzAll g h₁ as) { s with heap := h₁, toks := tk } := ⟨(Stp.heap (Nat.le_of_lt hL) fun b ob e zz zz zz  => xkeep b ob e).freezeAll hown hge, rfl, rfl⟩
    have ge := frzAll_ext (h := h₁) hown
    obtain ⟨l1, l2, l3⟩ := R.fresh (Nat.le_refl s.heap.objs.size)
    have hLas : s.heap.objs.size ∉ as := fun hm  => by
      obtain ⟨y, hm'⟩ := has _ hm
      exact absurd (xabove y _ hm') (Nat.lt_irrefl _)
    have hLG : (frzAll g h₁ as).Γ s.heap.objs.size = none := by
      show (if _ ∈ as then _ else _) = none
      rw [if_neg hLas]; exact l1
    have fs₁ : FramesOK X (frzAll g h₁ as) h₁ (env :: fe :: outer) := by
      intro e he'
      rcases List.mem_cons.mp he' with rfl | he'
      · obtain ⟨oL, esL, nL, q1, q2⟩ := Ns.dict xns
        exact ⟨by rw [hsc, hkind]; simp, _, oL, hfr, hLG, l2, l3, q1, esL, nL, q2⟩
      · exact fs.step t₁.st (fun zz zz zz zz z  => z) e he'
    have hfrR : ∀ ps bs, bindP (fd.params.args.map (·.arg)) ps = some bs → RepL X g vs ps → FrR X (frzAll g h₁ as) { scope := fd.scope, vars := bs, up := [], lam := lamOf fd.scope (fd.params.args.map (·.arg)), q := Nat.beq a X.T.sh } env h₁ := by
      intro ps bs hbs q
      obtain ⟨zz, hval⟩ := bindP_ok hbs q
      have cellOf : ∀ y b, env.cells.lookup y = some b → (y, b) ∈ env.cells := fun y b e  => lookup_mem e
      refine ⟨by rw [hsc]; exact hkind, by rw [he]; exact hglob, by rw [he]; exact hblt, fun y k' e  => .inl ?_, ⟨_, by rw [hloc]; exact xns, fun y p e1 e2  => ?_⟩, by rw [hloc]; exact ⟨hLG, l2, l3⟩, fun y p e  => ?_, fun y e  => ?_, fun y z b e1 e2  => ?_, fun z b e  => ?_, fun hq  => ?_⟩
      · show env.scope.names.lookup y = _
        rw [hsc, ← lk_eq]; exact e
      · obtain ⟨v, hv, rv⟩ := hval y p e2
        have hkd : env.kindOf y = some .local := by
          show env.scope.names.lookup y = _
          rw [hsc, ← lk_eq]; exact e1
        exact ⟨v, bindL_in hkd (by rw [hzn]; exact hnd) hv, repV_mono ge rv⟩
      · rcases e with ⟨e1, e2⟩ | ⟨zz, e2⟩
        · obtain ⟨v, hv, rv⟩ := hval y p e2
          have hkd : env.kindOf y = some .cell := by
            show env.scope.names.lookup y = _
            rw [hsc, ← lk_eq]; exact e1
          obtain ⟨b, hm⟩ := cellsFrom_has (n := s.heap.objs.size + 1) (acc := []) (lk_mem e1)
          rw [← hcells] at hm
          obtain ⟨u, hu⟩ := mem_lookup hm
          have hc := xcell y u hu
          rw [bindC_in hkd (by rw [hzn]; exact hnd) hv] at hc
          have ho := ownc y u (cellOf y u hu)
          obtain ⟨oc, q1, q2⟩ := hc
          refine ⟨u, v, hu, ⟨oc, q1, q2⟩, repV_mono ge rv, ho.nl, ho.nP, fun hl  => ⟨oc, ?_⟩, fun hl  => ?_⟩
          · show (if u ∈ as then h₁.get? u else _) = some oc
            have hl' : lamOf fd.scope (fd.params.args.map (·.arg)) = true := hl
            rw [if_pos]
            · exact q1
            · show u ∈ (if lamOf fd.scope (fd.params.args.map (·.arg)) then env.cells.map (·.2) else [])
              rw [if_pos hl']
              exact List.mem_map.mpr ⟨(y, u), cellOf y u hu, rfl⟩
          · show (if u ∈ as then h₁.get? u else g.Γ u) = none
            have hl' : lamOf fd.scope (fd.params.args.map (·.arg)) = false := hl
            rw [if_neg]
            · exact ho.nf
            · show u ∉ (if lamOf fd.scope (fd.params.args.map (·.arg)) then env.cells.map (·.2) else [])
              rw [hl']; simp
        · cases e2
      · obtain ⟨b, hm⟩ := cellsFrom_has (n := s.heap.objs.size + 1) (acc := []) (lk_mem e)
        rw [← hcells] at hm
        obtain ⟨u, hu⟩ := mem_lookup hm
        have ho := ownc y u (cellOf y u hu)
        refine ⟨u, _, hu, xcell y u hu, ho.nl, ho.nP, fun hl  => ?_⟩
        show (if u ∈ as then h₁.get? u else g.Γ u) = none
        have hl' : lamOf fd.scope (fd.params.args.map (·.arg)) = false := hl
        rw [if_neg]
        · exact ho.nf
        · show u ∉ (if lamOf fd.scope (fd.params.args.map (·.arg)) then env.cells.map (·.2) else [])
          rw [hl']; simp
      · have := pair_inj xapart _ (cellOf y b e1) _ (cellOf z b e2) rfl
        exact congrArg Prod.fst this
      · have ho := ownc z b (cellOf z b e)
        exact ⟨⟨_, xcell z b e⟩, ho.nl, ho.nP⟩
      · have ha := Nat.eq_of_beq_eq_true hq
        rw [ha] at hK
        obtain ⟨z1, z2⟩ := O.sh o fd hK ho
        refine ⟨by rw [he]; exact z1, ?_⟩
        rw [he]; exact z2
    have am₁ : Amb X d (A.deeper env) env (fe :: outer) s.heap.objs.size env := ⟨by show A.frames.map (env :: ·) = _; rw [am.fr]; rfl, am.hd, hfr, hfr, by have := am.units; show A.units + 3 + 16 * d + 100 ≤ cLine; (with_reducible exact Mine.ar57 (by assumption)), by have := am.depth; show A.depth + 1 + d ≤ 900; (with_reducible exact Mine.ar58 (by assumption))⟩
    have hWS : ∀ b, WS (frOf X fd a []) env b → s.heap.objs.size ≤ b := by
      rintro b (z | ⟨zz, y, zz, z⟩)
      · rw [z, hloc]; exact Nat.le_refl _
      · exact Nat.le_of_lt (xabove y b (lookup_mem z))
    refine wpAny_mono (h (A.deeper env) env s.heap.objs.size _ _ am₁ t₁ fun ps bs hbs q  => ⟨R₁, fs₁, hfrR ps bs hbs q⟩) (fun f s₂ ⟨g₂, σ₂, t₂, R₂, p, rp, hk, hr⟩ => ?_) fun e s₂ px  => ?_
    · have T := To.pop hfr (Nat.le_refl _) hWS t₁ t₂
      cases f with
      | next => exact ⟨g₂, σ₂, T, R₂, p, rp, hk⟩
      | ret v => exact ⟨g₂, σ₂, T, R₂, p, rp, hk⟩
      | brk => cases hr
      | cont => cases hr
    · exact leaving_rel am₁.fr hfr hfr px fun t s₃ y  => ⟨_, .inr ⟨t, .inl rfl⟩, XR.pop hfr (Nat.le_refl _) hWS t₁ y⟩
set_option tactic.hygienic false in
theorem bind_given {X : Fix} {g : GW} {σ : Sto} {s : Shared} (O : FixOK X) (R : HR X g σ s.heap) {fd : FuncData} {vs : List Value} (hf : fnOk X.T.K fd = true) (hl : vs.length = (fd.params.args.map (·.arg)).length) {M : Model} {A : Around} {E : Value → Shared → Prop} {Q : List (Str × Value) → Shared → Prop}
    (h : Q ((fd.params.args.map (·.arg)).zip vs) s) : wpAny M A (bindArgs fd ⟨vs, []⟩) Q E s := by
  unfold fnOk at hf
  refine band11 hf fun f1 f2 f3 f4 f5 f6 f7 f8 f9 f10 f11  => ?_; clear hf
  have kB : ∀ b ob, X.T.K.lookup b = some ob → s.heap.get? b = some ob := fun b ob e  => R.frz _ _ (R.base _ _ (O.inK _ _ e))
  have hd := dfltOk_ok f10 kB
  exact bind_full f1 hl (distinctS_ok f2) hd h
theorem callDef_ok {X : Fix} (O : FixOK X) {d : Nat} (hRa : RaiseOK X d) {orc : Orc} (hO : OrcOK X d orc) {A : Around} {fe : Env} {outer : List Env} {F : Addr} {g : GW} {σ : Sto} {s : Shared} {kx : KX} (am : Amb X (d + 1) A fe outer F fe) (R : HR X g σ s.heap) (fs : FramesOK X g s.heap (fe :: outer))
    {a : Addr} {o : Obj} {fd : FuncData} {body : List Stmt} {vs : List Value} {ps : List PV} {bs : List (Str × PV)} {k : KV} (hK : X.T.K.lookup a = some o) (ho : o.data = .func fd) (hf : fnOk X.T.K fd = true) (hb : fd.body = .stmts body) (hbs : bindP (fd.params.args.map (·.arg)) ps = some bs) (q : RepL X g vs ps)
    (h : Mine.execs (lvl ⟨X.T, X.gf, orc⟩ lvlMax) body { scope := fd.scope, vars := bs, up := [], lam := lamOf fd.scope (fd.params.args.map (·.arg)), q := Nat.beq a X.T.sh } σ (fun fl zz σ  => match fl with
          | .next => k .none σ
          | .ret p => k p σ) kx = true) :
    wpAny (model X.prog X.w) A (call (.ref a) vs) (VG X noS (fe :: outer) g s (RV X k)) (PX X noS (fe :: outer) F g s kx) s := by
  have hl := (bindP_ok hbs q).1
  refine callDef_genB O am R fs hK ho hf hb hl (fun h  => bind_given O R hf hl h) ?_
  intro A₁ env F₁ g₁ s₁ am₁ t₁ mk
  refine wpAny_mono (execs_ok (lvlX_ok O hRa (cx := ⟨X.T, X.gf, orc⟩) rfl rfl hO lvlMax) am₁ body (mk _ bs hbs q) h) (fun f s₂ hx  => ?_) fun e s₂ px  => px
  obtain ⟨g₂, σ₂, ρ₂, fp, t₂, R₂, zz, zz, hfl, hk⟩ := hx
  cases f with
  | next =>
    cases fp with
    | next => exact ⟨g₂, σ₂, t₂, R₂, .none, .none, hk, rfl⟩
    | ret => exact hfl.elim
  | ret v =>
    cases fp with
    | next => exact hfl.elim
    | ret p => exact ⟨g₂, σ₂, t₂, R₂, p, hfl, hk, rfl⟩
  | brk => exact hfl.elim
  | cont => exact hfl.elim
end Mine
end
section
open PySem PySem.W PyProof.Rows PySem.Calls PySem.SeqAt
set_option maxRecDepth 100000
set_option linter.unusedSectionVars false
namespace Mine

set_option tactic.hygienic false in
theorem nodup_lookup {α : Type} : ∀ {l : List (Str × α)} {x : Str} {v : α}, (l.map (·.1)).Nodup → (x, v) ∈ l → l.lookup x = some v
  | [], _, _, _, h => by cases h
  | (y, u) :: r, x, v, hn, h => by
    rw [List.map_cons, List.nodup_cons] at hn
    rw [List.lookup_cons]
    rcases List.mem_cons.mp h with e | h
    · cases e; simp
    · have : (x == y) = false := by
        rw [beq_eq_false_iff_ne]
        intro q
        exact hn.1 (q ▸ List.mem_map_of_mem (f := (·.1)) h)
      rw [this]
      exact nodup_lookup hn.2 h
set_option tactic.hygienic false in
theorem lookup_reverse {α : Type} {l : List (Str × α)} {x : Str} {v : α} (hn : (l.map (·.1)).Nodup) (h : l.lookup x = some v) : l.reverse.lookup x = some v :=
  nodup_lookup (by rw [List.map_reverse]; exact (List.reverse_perm _).nodup_iff.mpr hn) (List.mem_reverse.mpr (lookup_mem h))

theorem callClos_ok {X : Fix} (O : FixOK X) {d : Nat} {orc : Orc} (hO : OrcOK X d orc) {A : Around} {fe : Env} {outer : List Env} {F : Addr} {g : GW} {σ : Sto} {s : Shared} {kx : KX} (am : Amb X (d + 1) A fe outer F fe) (R : HR X g σ s.heap) (fs : FramesOK X g s.heap (fe :: outer))
    {v : Value} {ag : Arguments} {body : Expr} {sc : Scope} {x : Str} {p : PV} {vs : List Value} {ps : List PV} {bs : List (Str × PV)} {k : KV} (r : RepV X g v (.clos ag body sc x p))
    (hf : (plainPar ag && distinctS (ag.args.map (·.arg)) && isFun sc && !sc.isCoroutine && !sc.isGenerator && noCells sc && (ag.args.map (·.arg)).all (parKind sc)) = true) (hbs : bindP (ag.args.map (·.arg)) ps = some bs) (q : RepL X g vs ps)
    (h : (lvl ⟨X.T, X.gf, orc⟩ lvlMax).ev body { scope := sc, vars := bs, up := [(x, p)], lam := true, q := false } σ k kx = true) :
    wpAny (model X.prog X.w) A (call v vs) (VG X noS (fe :: outer) g s (RV X k)) (PX X noS (fe :: outer) F g s kx) s := by
  refine band7 hf fun f1 f2 f3 f4 f5 f6 f7  => ?_; clear hf
  obtain ⟨a, oc, od, fd, osl, c, co, u, rfl, e1, e2, e3, e4, e5, e6, e7, e8, e9, e10, e11, e12, e13⟩ := r.iC
  · subst e2; subst e4
    obtain ⟨cd, ocd, vcd, tcd, i1, i2, i3, i4⟩ := e10
    have hkind := isFun_eq f3
    have hcd : s.heap.CodeRec fd.code fd.qualname := ⟨cd, ocd, vcd, tcd, i1, R.frz _ _ i2, i3, i4⟩
    have hnd := distinctS_ok f2
    obtain ⟨hl, hval⟩ := bindP_ok hbs q
    have hzn : ((fd.params.args.map (·.arg)).zip vs).map (·.1) = fd.params.args.map (·.arg) := by
      rw [List.map_fst_zip]; rw [hl]; exact Nat.le_refl _
    have hnl : s.heap.NoLimit := O.nolimit.keeps fun b o e  => R.frz _ _ (R.base _ _ e)
    refine wpAny_call (kla_callFunE (by have := am.depth; show A.depth < 1000; (with_reducible exact Mine.ar56 (by assumption))) (R.frz _ _ e1) rfl (by simpa using f4) (by simpa using f5) e3 hcd ?_)
    refine bind_full f1 hl hnd (.inl e8) ?_
    rw [e5]
    refine wpAny_newFunctionEnv (fun y hy e  => noCells_ok f6 (x := y.1) (by rw [← e]; exact hy)) (fun y hy  => ?_) (fun h₁ xns hsb  => ?_) hkind
    · have hy1 : y.1 ∈ fd.params.args.map (·.arg) := by rw [← hzn]; exact List.mem_map_of_mem hy
      have := (List.all_eq_true.mp f7) y.1 hy1
      rcases parKind_eq this with e | e
      · rw [← lk_eq]; exact e
      · exact absurd (lk_mem e) (noCells_ok f6)
    · generalize hE : newEnv fd.scope s.heap.objs.size fd.globals [(x, c)] (fd.qualname ++ ".<locals>.") (some a) fd.code none fd.builtins = env
      have hloc : env.locals = s.heap.objs.size := by rw [← hE]; rfl
      have hfr : env.frame = some s.heap.objs.size := by rw [← hE]; rfl
      have hsc : env.scope = fd.scope := by rw [← hE]; rfl
      have hcells : env.cells = [(x, c)] := by rw [← hE]; rfl
      have xkeep : ∀ b o, s.heap.get? b = some o → h₁.get? b = some o := fun b o e  => (hsb.2 b (Nat.ne_of_lt (Heap.lt_size e))).trans (Heap.get?_push_of_some _ e)
      have hL := xns.lt
      have R₁ : HR X g σ h₁ := R.heap fun b ob e zz  => xkeep b ob e
      have t₁ : To X noS (fe :: outer) g s g { s with heap := h₁, toks := s.toks + ((fd.params.args.map (·.arg)).zip vs).length } := ⟨Stp.heap (Nat.le_of_lt hL) fun b ob e zz zz zz  => xkeep b ob e, rfl, rfl⟩
      obtain ⟨l1, l2, l3⟩ := R.fresh (Nat.le_refl s.heap.objs.size)
      refine ⟨hnl.keeps xkeep, kla_codeExpr ?_⟩
      have fs₁ : FramesOK X g h₁ (env :: fe :: outer) := by
        intro e he'
        rcases List.mem_cons.mp he' with rfl | he'
        · obtain ⟨oL, esL, nL, q1, q2⟩ := Ns.dict xns
          exact ⟨by rw [hsc, hkind]; simp, _, oL, hfr, l1, l2, l3, q1, esL, nL, q2⟩
        · exact fs.step t₁.st (fun zz zz zz zz z  => z) e he'
      have hlk : ∀ y b, env.cells.lookup y = some b → y = x ∧ b = c := fun y b e  => by
        rw [hcells, List.lookup_cons] at e
        split at e
        · rename_i hy; cases e; exact ⟨by simpa using hy, rfl⟩
        · cases e
      have hcl : c ∉ g.la := fun hm  => by have := (R.laF c hm).1; rw [e11] at this; cases this
      have hcP : c ≠ X.P := fun z  => by rw [z, R.noP] at e11; cases e11
      have hlx : env.cells.lookup x = some c := by rw [hcells, List.lookup_cons]; simp
      have hfrR : FrR X g { scope := fd.scope, vars := bs, up := [(x, p)], lam := true, q := false } env h₁ := by
        refine ⟨by rw [hsc]; exact hkind, by rw [← hE]; exact e6, by rw [← hE]; exact e7, fun y k' e  => .inl ?_, ⟨_, by rw [hloc]; exact xns, fun y p' q1 q2  => ?_⟩, by rw [hloc]; exact ⟨l1, l2, l3⟩, fun y p' e  => ?_, fun y e  => absurd (lk_mem e) (noCells_ok f6), fun y z b q1 q2  => ?_, fun z b e  => ?_, fun hq  => by cases hq⟩
        · show env.scope.names.lookup y = _
          rw [hsc, ← lk_eq]; exact e
        · obtain ⟨v', hv, rv⟩ := hval y p' q2
          exact ⟨v', lookup_reverse (by rw [hzn]; exact hnd) hv, rv⟩
        · rcases e with ⟨q1, zz⟩ | ⟨q1, q2⟩
          · exact absurd (lk_mem q1) (noCells_ok f6)
          · have hy : y = x ∧ p' = p := by
              have q2' : lk y [(x, p)] = some p' := q2
              dsimp only [lk] at q2'
              split at q2'
              · rename_i z; cases q2'; rw [eqS_iff] at z; exact ⟨by simpa using z, rfl⟩
              · cases q2'
            obtain ⟨rfl, rfl⟩ := hy
            exact ⟨c, u, hlx, ⟨co, xkeep _ _ (R.frz _ _ e11), e12⟩, e13, hcl, hcP, fun zz  => ⟨co, e11⟩, fun hl  => by cases hl⟩
        · exact (hlk y b q1).1.trans (hlk z b q2).1.symm
        · obtain ⟨rfl, rfl⟩ := hlk z b e
          exact ⟨⟨_, co, xkeep _ _ (R.frz _ _ e11), e12⟩, hcl, hcP⟩
      have w₁ : Wh X { scope := fd.scope, vars := bs, up := [(x, p)], lam := true, q := false } env (env :: fe :: outer) g σ { s with heap := h₁, toks := s.toks + ((fd.params.args.map (·.arg)).zip vs).length } := ⟨R₁, fs₁, hfrR⟩
      have am₁ : Amb X d (A.deeper env) env (fe :: outer) s.heap.objs.size env := ⟨by show A.frames.map (env :: ·) = _; rw [am.fr]; rfl, am.hd, hfr, hfr, by have := am.units; show A.units + 3 + 16 * d + 100 ≤ cLine; (with_reducible exact Mine.ar57 (by assumption)), by have := am.depth; show A.depth + 1 + d ≤ 900; (with_reducible exact Mine.ar58 (by assumption))⟩
      refine wpAny_mono ((lvl_ok O (cx := ⟨X.T, X.gf, orc⟩) rfl hO lvlMax).ev am₁ w₁ body k kx h) (fun v' s₂ ⟨g₂, σ₂, t₂, R₂, hr⟩ => ?_) fun e s₂ px  => ?_
      · exact ⟨g₂, σ₂, To.pop hfr (Nat.le_refl _) (fun zz z  => z.elim) t₁ t₂, R₂, hr⟩
      · exact leaving_rel am₁.fr hfr hfr px fun t s₃ y  => ⟨_, .inr ⟨t, .inl rfl⟩, XR.pop hfr (Nat.le_refl _) (fun zz z  => z.elim) t₁ y⟩

set_option tactic.hygienic false in
theorem callP_ok {X : Fix} (O : FixOK X) {d : Nat} (hRa : RaiseOK X d) {orc : Orc} (hO : OrcOK X d orc) : OrcOK X (d + 1) (callP X.T X.gf orc) := by
  intro A fe outer F g σ s v c vs ps k kx am R fs r q h
  revert r
  refine poldE h fT ?_; clear h; intro a h r; refine ifE' h fT ?_; clear h; intro ob e' h; refine ifE' h fT ?_; clear h; intro fd hfd h; refine ifB h fT ?_; clear h; intro hf h; refine ifE' h fT ?_; clear h; intro body hb h; refine ifE' h fT ?_; clear h; intro bs hbs hx
  obtain ⟨o, rfl, e⟩ := r.iO
  obtain ⟨oc, od, sl, rfl⟩ := funV_eq hfd
  exact callDef_ok O hRa hO am R fs e' rfl hf (stmtsV_eq hb) hbs q hx
noncomputable def SpOK (X : Fix) (d : Nat) (sp : PV → List PV → Option (Sto → KV → KX → Bool)) : Prop := ∀ {A fe outer F g σ s v c vs ps k kx t}, Amb X d A fe outer F fe → HR X g σ s.heap → FramesOK X g s.heap (fe :: outer) → RepV X g v c → RepL X g vs ps → sp c ps = some t → t σ k kx = true →
  wpAny (model X.prog X.w) A (call v vs) (VG X noS (fe :: outer) g s (RV X k)) (PX X noS (fe :: outer) F g s kx) s
set_option tactic.hygienic false in
theorem Amb.le {X : Fix} {d d' : Nat} {A fe outer F c} (am : Amb X d A fe outer F c) (h : d' ≤ d) : Amb X d' A fe outer F c :=
  ⟨am.fr, am.hd, am.fe, am.fc, by have := am.units; (with_reducible exact Mine.ar59 (by assumption) (by assumption)), by have := am.depth; (with_reducible exact Mine.ar60 (by assumption) (by assumption))⟩
theorem tower_ok {X : Fix} (O : FixOK X) (hRa : ∀ d, RaiseOK X d) {b : Nat} {sp : PV → List PV → Option (Sto → KV → KX → Bool)} (hS : SpOK X b sp) : ∀ e, OrcOK X (b + e) (tower X.T X.gf sp e)
  | 0 => fun zz zz zz zz zz h  => by cases h
  | e + 1 => by
    intro am R fs r q h
    rw [tower] at h
    dsimp only at h
    split at h
    · rename_i t ht
      exact hS (am.le (by (with_reducible exact Mine.ar61))) R fs r q ht h
    · exact callP_ok O (hRa (b + e)) (tower_ok O hRa hS e) am R fs r q h
end Mine
end
section
open PySem PySem.W PySem.Calls PySem.SeqAt
set_option maxRecDepth 100000
set_option linter.unusedSectionVars false
namespace Mine

abbrev excBm : List Value := [.type "Exception", .type "BaseException", .type "object"]
section
variable {prog : Program} {w : World} {A : Around} {h : Heap} {g : Array GenState} {d : Drawn} {t : Nat} {os : OsState}
variable {nm q : Str} {C N L fI : Addr} {bs : List Value} {hdct : Bool} {sn : List Str} {sub : List Value} {ab : Bool} {col : Option Bool} {dd : Option Addr} {k0 k1 k2 k3 k5 : Option Value}

set_option tactic.hygienic false in
theorem ex_has {X : String} {b : Bool} (hb : excBm.contains (.type X) = b) : (Value.ref L :: excBm).contains (.type X) = b := by
  rw [List.contains_cons, hb]; rfl

set_option tactic.hygienic false in
theorem ex_checkNew {E : Value → Shared → Prop} {M : Model} {rest : List Value} {Q : Unit → Shared → Prop} (hC : h.get? C = some (excClassObj nm q C N bs (.ref L :: excBm) hdct sn sub ab col dd k0 k1 k2 k3 k5 "Exception.__new__"))
    (hq : Q () ⟨h, g, d, t, os⟩) : wpAny M A (checkBuiltinCall "Exception.__new__" ⟨.ref C :: rest, []⟩) Q E ⟨h, g, d, t, os⟩ := by
  have F := PySem.F.excBase_Exception
  have hcont : (Value.ref C :: .ref L :: excBm).contains (.type "Exception") = true := by rw [List.contains_cons, ex_has F.hasB, Bool.or_true]
  have hstar := F.noStar
  simp only [checkBuiltinCall, F.newKind, F.newSplit, F.newRow]
  repeat (first | refine wpAny_loadPart_at hC ?_ | (refine wpAny_isSubtype_exc hC ?_; rw [hcont]) | refine wpAny_staticBase_exc hC ?_ | refine wpAny_madeBy_exc hC ?_ | simp only [bne_self_eq_false, Bool.false_eq_true, if_false] | wp_step)
  exact hq

set_option tactic.hygienic false in
theorem ex_new {R : Result → Shared → Prop} {rest : List Value} (hC : h.get? C = some (excClassObj nm q C N bs (.ref L :: excBm) hdct sn sub ab col dd k0 k1 k2 k3 k5 "Exception.__new__"))
    (hq : R (.ok (.ret (.ref (h.objs.size + 1)))) ⟨(h.push { cls := .type "tuple", data := .seq rest.toArray }).push
      { cls := .ref C, data := .fields #[.ref h.objs.size, .none, .none, .none, .bool false, .none] }, g, d, t, os⟩) (hrest : rest.length ≤ sizeLine) :
    codeAny (model prog w) A (.builtin "Exception.__new__" ⟨.ref C :: rest, []⟩) R ⟨h, g, d, t, os⟩ := by
  have F := PySem.F.excBase_Exception
  have hends := F.ends
  have hcB : (Value.ref C :: .ref L :: excBm).contains (.type "Exception") = true := by rw [List.contains_cons, ex_has F.hasB, Bool.or_true]
  have hcA : (Value.ref C :: .ref L :: excBm).contains (.type "AttributeError") = false := by rw [List.contains_cons, ex_has F.noAttr]; rfl
  have hcN : (Value.ref C :: .ref L :: excBm).contains (.type "NameError") = false := by rw [List.contains_cons, ex_has F.noName]; rfl
  refine codeAny_builtinAt F.entry ?_
  unfold Builtin.«BaseException.__new__»
  refine PySem.wpAt_bind ?_
  show PySem.wpAt _ _ _ (stack >>= _) _ _ _
  refine PySem.wpAt_bind (wpAt_stack fun p below  => PySem.wpAt_of_wpAny ?_)
  wp_walk
  refine PySem.wpAt_of_wpAny ?_
  rw [F.owner]
  repeat (first | with_reducible refine wpAny_madeHere_exc F.canon hC ?_ | with_reducible refine wpAny_loadPart_at hC ?_ | (with_reducible refine wpAny_isSubtype_exc hC ?_; first | rw [hcB] | rw [hcA] | rw [hcN]) | wp_step)
  show R _ _
  rw [Heap.size_push]
  exact hq

set_option tactic.hygienic false in
theorem ex_checkInit {E : Value → Shared → Prop} {M : Model} {e : Addr} {oe : Obj} {rest : List Value} {Q : Unit → Shared → Prop}
    (hC : h.get? C = some (excClassObj nm q C N bs (.ref L :: excBm) hdct sn sub ab col dd k0 k1 k2 k3 k5 "Exception.__new__")) (he : h.get? e = some oe) (hcls : oe.cls = .ref C) (hq : Q () ⟨h, g, d, t, os⟩) :
    wpAny M A (checkBuiltinCall "Exception.__init__" ⟨.ref e :: rest, []⟩) Q E ⟨h, g, d, t, os⟩ := by
  have F := PySem.F.excBase_Exception
  have hcB : (Value.ref C :: .ref L :: excBm).contains (.type "Exception") = true := by rw [List.contains_cons, ex_has F.hasB, Bool.or_true]
  have hshort := F.noStar
  simp only [checkBuiltinCall, F.initKind, F.initSplit, F.initRow]
  repeat (first | (with_reducible refine wpAny_loadPart_at he ?_; rw [hcls]) | with_reducible refine wpAny_loadPart_at hC ?_ | (with_reducible refine wpAny_isSubtype_exc hC ?_; rw [hcB]) | wp_step)
  refine wpAny_onRaise ?_
  rw [show ∀ (a b : String) (n : Nat), Bind.check ⟨.positional, "*", "Exception", .self, [⟨"args", .varPos, false⟩]⟩ a b n (List.map (fun x  => x.fst) ({ pos := Value.ref e :: rest } : Args).kw) = pure () from
    fun a b n  => check_star_args _ _ _ _ _ _]
  exact wpAny_pure hq

set_option tactic.hygienic false in
theorem ex_typeLookup {E : Value → Shared → Prop} {M : Model} {mN mA : Str → Option Value} {c0 : Value} {dA : Option Addr} {cd : ClassData} {sl : Array (Option Value)} {v : Value} {Q : Option Value → Shared → Prop}
    (hC : h.get? C = some (excClassObj nm q C N bs (.ref L :: excBm) hdct sn sub ab col dd k0 k1 k2 k3 k5 "Exception.__new__")) (hn : h.Ns N mN) (hni : mN "__init__" = none)
    (hL : h.get? L = some { cls := c0, dict := dA, data := .cls cd, slots := sl }) (hnL : h.Ns cd.ns mA) (hi : mA "__init__" = some v)
    (hq : Q (some v) ⟨h, g, d, t, os⟩) : wpAny M A (typeLookup (.ref C) "__init__") Q E ⟨h, g, d, t, os⟩ := by
  rw [typeLookup_eq]
  refine wpAny_bind (wpAny_mroOf_exc hC ?_)
  rw [lookupAlong_cons]
  refine wpAny_bind (wpAny_classOwn_exc hC hn ?_)
  rw [hni]
  show wpAny _ _ (lookupAlong (.ref L :: excBm) "__init__") _ _ _
  rw [lookupAlong_cons]
  refine wpAny_bind (wpAny_classOwn_cls hL hnL ?_)
  rw [hi]
  exact wpAny_pure hq

set_option tactic.hygienic false in
theorem ex_type_call {E : Value → Shared → Prop} {mN mA : Str → Option Value} {c0 : Value} {dA : Option Addr} {cd : ClassData} {sl : Array (Option Value)} {rest : List Value} {oI : Obj} {Q : Fin → Shared → Prop}
    (hC : h.get? C = some (excClassObj nm q C N bs (.ref L :: excBm) hdct sn sub ab col dd k0 k1 k2 k3 k5 "Exception.__new__")) (hn : h.Ns N mN) (hni : mN "__init__" = none)
    (hL : h.get? L = some { cls := c0, dict := dA, data := .cls cd, slots := sl }) (hnL : h.Ns cd.ns mA) (hi : mA "__init__" = some (.ref fI))
    (hfI : h.get? fI = some oI) (hfc : oI.cls = .type "function")
    (hq : ∀ h' e, h.objs.size ≤ e → Heap.MadeExcOf h h' e (.ref C) rest →
      wpAny (model prog w) A (call (.ref fI) (.ref e :: rest)) (fun r s'  => r = .none ∧ Q (.done (.ret (.ref e))) s') E ⟨h', g, d, t, os⟩) (hrest : rest.length ≤ sizeLine) :
    wpAny (model prog w) A (Builtin.«type.__call__» ⟨.ref C :: rest, []⟩) Q E ⟨h, g, d, t, os⟩ := by
  have F := PySem.F.excBase_Exception
  repeat (first | with_reducible refine wpAny_loadPart_at hC ?_ | with_reducible refine wpAny_madeBy_exc hC ?_ | wp_step)
  refine codeAny_call_builtin_code (Code.quiet_builtin _ F.quiet) (ex_checkNew hC ?_)
  refine ex_new hC ?_ hrest
  show wpAny _ _ _ _ _ _
  have kk : ∀ b o, h.get? b = some o → ((h.push { cls := .type "tuple", data := .seq rest.toArray }).push { cls := .ref C, data := .fields #[.ref h.objs.size, .none, .none, .none, .bool false, .none] }).get? b = some o := fun b o e  => Heap.get?_push_of_some _ (Heap.get?_push_of_some _ e)
  have hC₁ := kk _ _ hC
  have hfI₁ := kk _ _ hfI
  have hget : ((h.push { cls := .type "tuple", data := .seq rest.toArray }).push
      { cls := .ref C, data := .fields #[.ref h.objs.size, .none, .none, .none, .bool false, .none] }).get? (h.objs.size + 1) = some
      { cls := .ref C, data := .fields #[.ref h.objs.size, .none, .none, .none, .bool false, .none] } := by heap_get
  have hcC : (Value.ref C :: .ref L :: excBm).contains (.ref C) = true := by simp
  unfold isInstance
  repeat (first | with_reducible refine wpAny_loadPart_at hget ?_ | (with_reducible refine wpAny_isSubtype_exc hC₁ ?_; rw [hcC]) | wp_step)
  show wpAny _ _ (typeLookup (.ref C) _) _ _ _
  refine ex_typeLookup hC₁ (hn.keeps kk) hni (kk _ _ hL) (hnL.keeps kk) hi ?_
  refine wpAny_holding (wpAny_bind ?_)
  unfold bindSpecial
  refine wpAny_bind (wpAny_typeOf (T := "function") ⟨_, hfI₁, hfc⟩ ?_)
  rw [if_pos (by decide)]
  refine wpAny_pure (wpAny_bind (wpAny_mono (hq _ (h.objs.size + 1) (Nat.le_succ _) ⟨kk, Heap.get?_none_of_le (Nat.le_succ _), h.objs.size, hget, Heap.get?_none_of_le (Nat.le_refl _), ?_⟩) (fun r s' hr  => ?_) fun zz zz x  => x))
  · exact Heap.get?_push_of_some _ (Heap.get?_push_at rfl rfl)
  · obtain ⟨rfl, hQ⟩ := hr
    wp_walk
    exact hQ

set_option tactic.hygienic false in
theorem ex_call {E : Value → Shared → Prop} {mN mA : Str → Option Value} {c0 : Value} {dA : Option Addr} {cd : ClassData} {sl : Array (Option Value)} {rest : List Value} {oI : Obj} {Q : Value → Shared → Prop}
    (hC : h.get? C = some (excClassObj nm q C N bs (.ref L :: excBm) hdct sn sub ab col dd k0 k1 k2 k3 k5 "Exception.__new__")) (hn : h.Ns N mN) (hni : mN "__init__" = none)
    (hL : h.get? L = some { cls := c0, dict := dA, data := .cls cd, slots := sl }) (hnL : h.Ns cd.ns mA) (hi : mA "__init__" = some (.ref fI))
    (hfI : h.get? fI = some oI) (hfc : oI.cls = .type "function")
    (hq : ∀ h' e, h.objs.size ≤ e → Heap.MadeExcOf h h' e (.ref C) rest →
      wpAny (model prog w) (A.under (.builtin "type.__call__" ⟨.ref C :: rest, []⟩)) (call (.ref fI) (.ref e :: rest)) (fun r s'  => r = .none ∧ Q (.ref e) s') E ⟨h', g, d, t, os⟩) (hrest : rest.length ≤ sizeLine) :
    wpAny (model prog w) A (call (.ref C) rest) Q E ⟨h, g, d, t, os⟩ := by
  have f1 := tc_lookup
  have f2 := tc_bind (.ref C)
  have hT : (⟨h, g, d, t, os⟩ : Shared).TypeIs (.ref C) "type" := ⟨_, hC, rfl⟩
  refine wpAny_call (codeAny_of_tree ?_)
  show wpAny _ _ (callAny (.ref C) _) _ _ _
  repeat (any_goals (first | assumption | with_reducible refine wpAny_loadPart_at hC ?_ | wp_step))
  refine ⟨rfl, ?_⟩
  refine codeAny_call_builtin_at (Code.quiet_builtin _ (by decide +kernel)) entry_typeCall (wpAny_check_type_call_sub hC (ex_type_call (hrest := hrest) hC hn hni hL hnL hi hfI hfc fun h' e hle hm  => ?_))
  exact hq h' e hle hm
end
end Mine
end
section
open PySem PySem.W PySem.Calls PySem.SeqAt
set_option maxRecDepth 100000
set_option linter.unusedSectionVars false
namespace Mine
set_option tactic.hygienic false in
theorem tl_meta_ga : typeLookup (.type "type") "__getattribute__" = pure (some (.builtin "type.__getattribute__")) := by rw [typeLookup_type, builtinLookup_eq_fast]; kernel_rfl
set_option tactic.hygienic false in
theorem tl_meta_init : typeLookup (.type "type") "__init__" = pure (some (.builtin "type.__init__")) := by rw [typeLookup_type, builtinLookup_eq_fast]; kernel_rfl
set_option tactic.hygienic false in
theorem tl_exc_init : typeLookup (.type "Exception") "__init__" = pure (some (.builtin "Exception.__init__")) := by rw [typeLookup_type, builtinLookup_eq_fast]; kernel_rfl
set_option tactic.hygienic false in
theorem ty_tinit : typeOf (.builtin "type.__init__") = pure (.type "wrapper_descriptor") := by kernel_rfl
set_option tactic.hygienic false in
theorem ty_exc : typeOf (.type "Exception") = pure (.type "type") := by kernel_rfl
set_option tactic.hygienic false in
theorem sp_set : specialOf (.builtin "type.__init__") "__set__" = pure none := by kernel_rfl
set_option tactic.hygienic false in
theorem sp_del : specialOf (.builtin "type.__init__") "__delete__" = pure none := by kernel_rfl
set_option tactic.hygienic false in
theorem sp_get : specialOf (.builtin "type.__init__") "__get__" = pure (some (.builtin "wrapper_descriptor.__get__")) := by kernel_rfl
set_option tactic.hygienic false in
theorem entry_tga : entryFor table "type.__getattribute__" = some Builtin.«type.__getattribute__» := entryFor_of_tree (by kernel_rfl)

section
variable {prog : Program} {w : World} {A : Around} {E : Value → Shared → Prop} {s : Shared}
set_option tactic.hygienic false in
theorem exc_init_entry {tk : Tok} {Q : Fin → Shared → Prop} (hq : ∀ s', s'.heap = s.heap → s'.gens = s.gens → s'.os = s.os → Q (.done (.ret (.builtin "Exception.__init__"))) s') :
    wpAny (model prog w) A (Builtin.«type.__getattribute__» ⟨[.type "Exception", .str "__init__" tk], []⟩) Q E s := by
  unfold Builtin.«type.__getattribute__»
  have f0 : opaqueClassAbove (.type "Exception") = pure none := by kernel_rfl
  have fa : asStr? (.str "__init__" tk) = pure (some ("__init__" : Str)) := by rfl
  refine wpAny_bind (wpAny_of_eq fa ?_)
  show wpAny _ _ (opaqueClassAbove (.type "Exception") >>= _) _ _ _
  refine wpAny_bind (wpAny_of_eq f0 ?_)
  show wpAny _ _ (typeOf (.type "Exception") >>= _) _ _ _
  refine wpAny_bind (wpAny_of_eq ty_exc ?_)
  refine wpAny_bind (wpAny_of_eq tl_meta_init ?_)
  show wpAny _ _ (specialOf (.builtin "type.__init__") "__get__" >>= _) _ _ _
  refine wpAny_bind (wpAny_of_eq sp_get ?_)
  show wpAny _ _ (specialOf (.builtin "type.__init__") "__set__" >>= _) _ _ _
  refine wpAny_bind (wpAny_of_eq sp_set ?_)
  show wpAny _ _ (specialOf (.builtin "type.__init__") "__delete__" >>= _) _ _ _
  refine wpAny_bind (wpAny_of_eq sp_del ?_)
  refine wpAny_bind (wpAny_pure ?_)
  show wpAny _ _ (typeLookup (.type "Exception") "__init__" >>= _) _ _ _
  refine wpAny_bind (wpAny_of_eq tl_exc_init ?_)
  show wpAny _ _ (if Builtin.heldUnderItsOwnName "__init__" (.builtin "Exception.__init__") = true then _ else _) _ _ _
  rw [if_neg (by decide +kernel)]
  have f7 : typeOf (.builtin "Exception.__init__") = pure (.type "wrapper_descriptor") := by kernel_rfl
  refine wpAny_bind (wpAny_of_eq f7 ?_)
  rw [if_pos (by decide +kernel)]
  exact wpAny_pure (hq _ rfl rfl rfl)

set_option tactic.hygienic false in
theorem wpAny_mkText {x : Str} {Q : Value → Shared → Prop} (h : ∀ tk s', s'.heap = s.heap → s'.gens = s.gens → s'.os = s.os → Q (.str x tk) s') : wpAny (model prog w) A (mkText x) Q E s := by
  wp_walk
  exact h _ _ rfl rfl rfl

set_option tactic.hygienic false in
theorem exc_init_attr {ex : Bool} {Q : Value → Shared → Prop} (hq : ∀ s', s'.heap = s.heap → s'.gens = s.gens → s'.os = s.os → Q (.builtin "Exception.__init__") s') :
    wpAny (model prog w) A (getAttr (.type "Exception") "__init__" ex) Q E s := by
  unfold getAttr
  refine wpAny_bind (wpAny_mkText fun tk s' e1 e2 e3  => ?_)
  unfold getAttrBy
  refine wpAny_holding (wpAny_bind (wpAny_of_eq ty_exc (wpAny_bind (wpAny_of_eq tl_meta_ga ?_))))
  show wpAny _ _ (getAttrByItsOwn (.type "Exception") (.str "__init__" tk) (.type "type") (.builtin "type.__getattribute__") true ex) _ _ _
  unfold getAttrByItsOwn
  refine wpAny_bind (wpAny_of_eq (a := none) rfl ?_)
  refine wpAny_bind (wpAny_attempt (wpAny_holding ?_))
  have e0 : callGetattribute (.type "Exception") (.str "__init__" tk) (.builtin "type.__getattribute__") ex = boundAndCalled (.builtin "type.__getattribute__") (.type "Exception") (.str "__init__" tk) := by
    unfold callGetattribute; cases ex <;> rfl
  rw [e0]
  unfold boundAndCalled
  have e1' : bindSpecial (.builtin "type.__getattribute__") (.type "Exception") = pure (.builtin "type.__getattribute__", [.type "Exception"]) := by kernel_rfl
  refine wpAny_bind (wpAny_of_eq e1' ?_)
  have e2' : checkBuiltinCall "type.__getattribute__" ⟨[.type "Exception", .str "__init__" tk], []⟩ = pure () := by kernel_rfl
  refine wpAny_call (codeAny_call_builtin (by decide +kernel) entry_tga (wpAny_of_eq e2' (exc_init_entry fun s'' q1 q2 q3  => ?_)))
  have e3' : handedOut (.builtin "Exception.__init__") = pure (.builtin "Exception.__init__") := by kernel_rfl
  show wpAny _ _ (handedOut (.builtin "Exception.__init__")) _ _ _
  exact wpAny_of_eq e3' (hq _ (q1.trans e1) (q2.trans e2) (q3.trans e3))

set_option tactic.hygienic false in
theorem exc_init_method {pl : Sem Bool} {Q : Value × List Value → Shared → Prop} (hq : ∀ s', s'.heap = s.heap → s'.gens = s.gens → s'.os = s.os → Q (.builtin "Exception.__init__", []) s') :
    wpAny (model prog w) A (getMethod (.type "Exception") "__init__" pl) Q E s := by
  have e0 : specialOf (.type "Exception") "__getattribute__" = pure (some (.builtin "type.__getattribute__")) := by kernel_rfl
  unfold getMethod
  refine wpAny_bind (wpAny_of_eq e0 ?_)
  show wpAny _ _ (if (Manifest.canonical "type.__getattribute__" != "object.__getattribute__") = true then _ else _) _ _ _
  rw [if_pos (by decide +kernel)]
  exact wpAny_bind (exc_init_attr fun s' a1 a2 a3  => wpAny_pure (hq s' a1 a2 a3))
end
end Mine
end
section
open PySem PySem.W PySem.Calls PySem.SeqAt
open Builtin Builtin.ObjectAttr
set_option maxRecDepth 100000
set_option linter.unusedSectionVars false
set_option linter.unusedVariables false
namespace Mine
section
variable {prog : Program} {w : World} {A : Around} {E : Value → Shared → Prop} {h : Heap} {g : Array GenState} {d : Drawn} {t : Nat} {os : OsState}
variable {nm q : Str} {C N L x : Addr} {bs : List Value} {sn : List Str} {sub : List Value} {ab : Bool} {col : Option Bool} {dd : Option Addr} {k0 k1 k2 k3 k5 : Option Value}
  {mN mL mA : Str → Option Value} {name : Str} {v : Value} {c0 : Value} {dA : Option Addr} {cd : ClassData} {sl : Array (Option Value)}

set_option tactic.hygienic false in
theorem ex_tl {M : Model} {hdct : Bool} {y : Option Value} {Q : Option Value → Shared → Prop}
    (hC : h.get? C = some (excClassObj nm q C N bs (.ref L :: excBm) hdct sn sub ab col dd k0 k1 k2 k3 k5 "Exception.__new__")) (hn : h.Ns N mN) (hni : mN name = none)
    (hL : h.get? L = some { cls := c0, dict := dA, data := .cls cd, slots := sl }) (hnL : h.Ns cd.ns mL) (hi : mL name = none) (hB : typeLookup (.type "Exception") name = pure y)
    (hq : Q y ⟨h, g, d, t, os⟩) : wpAny M A (typeLookup (.ref C) name) Q E ⟨h, g, d, t, os⟩ := by
  have hrest : lookupAlong excBm name = pure y := by rw [typeLookup_eq, PySem.F.excBase_Exception.mroIs] at hB; exact hB
  rw [typeLookup_eq]
  refine wpAny_bind (wpAny_mroOf_exc hC ?_)
  rw [lookupAlong_cons]
  refine wpAny_bind (wpAny_classOwn_exc hC hn ?_)
  rw [hni]
  show wpAny _ _ (lookupAlong (.ref L :: excBm) name) _ _ _
  rw [lookupAlong_cons]
  refine wpAny_bind (wpAny_classOwn_cls hL hnL ?_)
  rw [hi]
  show wpAny _ _ (lookupAlong excBm name) _ _ _
  rw [hrest]
  exact wpAny_pure hq

set_option tactic.hygienic false in
theorem ex_check_sa {M : Model} {o : Obj} {nameV : Value} {Q : Unit → Shared → Prop}
    (hC : h.get? C = some (excClassObj nm q C N bs (.ref L :: excBm) true sn sub ab col dd k0 k1 k2 k3 k5 "Exception.__new__")) (hx : h.get? x = some o) (hc : o.cls = .ref C) (hq : Q () ⟨h, g, d, t, os⟩) :
    wpAny M A (checkBuiltinCall "object.__setattr__" ⟨[.ref x, nameV, v], []⟩) Q E ⟨h, g, d, t, os⟩ := by
  have SF := PySem.F.store_Exception
  have hcB : (Value.ref C :: .ref L :: excBm).contains (.type "object") = true := by rw [List.contains_cons, ex_has SF.hasOwner, Bool.or_true]
  have ha := SF.args (.ref x) nameV v
  simp only [checkBuiltinCall, SF.kind, SF.split]
  refine wpAny_bind ?_
  · unfold isInstance
    repeat (first | (with_reducible refine wpAny_loadPart_at hx ?_; rw [hc]) | (with_reducible refine wpAny_isSubtype_exc hC ?_; rw [hcB]) | wp_step)
    exact hq

theorem ex_store_entry {tk : Tok} {Q : Fin → Shared → Prop} {ns : List Str}
    (hC : h.get? C = some (excClassObj nm q C N bs (.ref L :: excBm) true sn sub ab col dd k0 k1 k2 k3 k5 "Exception.__new__")) (hn : h.Ns N mN) (hni : mN name = none)
    (hL : h.get? L = some { cls := c0, dict := dA, data := .cls cd, slots := sl }) (hnL : h.Ns cd.ns mL) (hi : mL name = none)
    (hB : typeLookup (.type "Exception") name = pure none) (hxC : x ≠ C) (I : h.Inst x C mA)
    (hq : ∀ h' tk', h'.Inst x C (fun y  => if y = name then some v else mA y) →
      (∀ b o, b ≠ x → (∀ o₀ dx, h.get? x = some o₀ → o₀.dict = some dx → b ≠ dx) → h.get? b = some o → h'.get? b = some o) →
      (∀ o₀, h.get? x = some o₀ → ∃ o₁, h'.get? x = some o₁ ∧ o₁.cls = o₀.cls ∧ o₁.data = o₀.data ∧ o₁.slots = o₀.slots ∧ (∀ dx, o₀.dict = some dx → o₁.dict = some dx) ∧ ∀ dx, o₁.dict = some dx → o₀.dict = some dx ∨ h.objs.size ≤ dx) → Q (.done (.ret .none)) ⟨h', g, d, tk', os⟩) (hw : Within mA ns) (hsz : ns.length ≤ sizeLine) :
    wpAny (model prog w) A (Builtin.«object.__setattr__» ⟨[.ref x, .str name tk, v], []⟩) Q E ⟨h, g, d, t, os⟩ := by
  obtain ⟨o, hx, hc, hnc, hd⟩ := I
  have SF := PySem.F.store_Exception
  have hpass := SF.passes (.ref x)
  unfold Builtin.«object.__setattr__»
  repeat (first | rw [refuse_eq] | (rw [refuseLoop_ref, refuseLoop_ref, hpass]) | (with_reducible refine wpAny_loadPart_at hx ?_; rw [hc]) | with_reducible refine wpAny_mroOf_exc hC ?_ | with_reducible refine ex_tl hC hn hni hL hnL hi hB ?_ | wp_step)
  rcases hd with ⟨hdn, hmA⟩ | ⟨dx, hdx, hne, hns⟩
  ·
    rw [hdn, if_neg (by simp [typeHasDict])]
    split
    · rename_i hcd
      cases hcd
    split
    · rename_i c hcd
      exact absurd hcd (hnc c)
    · have hx₁ : (h.push { cls := .type "dict", data := .dict #[] }).get? x = some o := Heap.get?_push_of_some _ hx
      have hxs : x ≠ h.objs.size := Nat.ne_of_lt (Heap.lt_size hx)
      refine wpAny_bind (wpAny_alloc' ?_)
      refine wpAny_bind (wpAny_update' hx₁ ?_)
      refine wpAny_pure ?_
      have hgd : ((h.push { cls := .type "dict", data := .dict #[] }).update x fun o  => { cls := o.cls, dict := some h.objs.size, data := o.data, slots := o.slots }).get? h.objs.size
          = some { cls := .type "dict", data := .dict #[] } :=
        (Heap.get?_update_ne _ _ _ _ hxs.symm).trans (Heap.get?_push_at rfl rfl)
      have hnd : ((h.push { cls := .type "dict", data := .dict #[] }).update x fun o  => { cls := o.cls, dict := some h.objs.size, data := o.data, slots := o.slots }).Ns h.objs.size (fun zz  => none) :=
        ⟨_, #[], _, hgd, rfl, fun e he  => absurd he (by simp), fun zz  => rfl⟩
      show wpAny _ _ (storeInDict h.objs.size (.str name tk) name v) _ _ _
      unfold storeInDict newKeyGuard
      refine wpAny_bind (wpAny_pure (wpAny_bind (wpAny_nsSet1 (Heap.Ns1.of_empty hnd) fun h' hn' hs  => ?_)))
      obtain ⟨oD, esD, epD, hoD, hdD, hcD⟩ := hn'.count (Within.cons name v Within.nil)
      refine wpAny_bind (wpAny_lookBehind hoD (by rw [hdD]; exact pastItsLine_dict (Nat.le_trans hcD (by rw [List.length_cons, List.length_nil, sizeLine_eq]; omega))) ?_)
      wp_walk
      have hx' : h'.get? x = some { cls := o.cls, dict := some h.objs.size, data := o.data, slots := o.slots } := ?_
      refine hq h' _ ⟨{ cls := o.cls, dict := some h.objs.size, data := o.data, slots := o.slots }, hx', hc, hnc, .inr ⟨h.objs.size, rfl, hxs.symm, ?_⟩⟩ (fun b ob hbx zz hb  => ?_)
        (fun o₀ h₀  => by obtain rfl : o = o₀ := Option.some.inj (hx.symm.trans h₀); exact ⟨_, hx', rfl, rfl, rfl, (fun dx e  => by rw [hdn] at e; cases e), fun dx e  => .inr (by cases e; exact Nat.le_refl _)⟩)
      · obtain ⟨o', es, ep, e1, e2, e3, eu, e4⟩ := hn'
        exact ⟨o', es, ep, e1, e2, e3, eu, fun y  => by rw [e4 y]; by_cases hy : y = name <;> simp [hy, hmA]⟩
      · exact (hs.2 b (Nat.ne_of_lt (Heap.lt_size hb))).trans ((Heap.get?_update_ne _ _ _ _ hbx).trans (Heap.get?_push_of_some _ hb))
      · refine (hs.2 x hxs).trans (Heap.get?_update_self _ hx₁ ?_)
        have hfr := (Heap.get?_some_iff.mp hx).2
        obtain ⟨oc, od, odt, osl⟩ := o
        cases odt <;> first | rfl | exact hfr
  ·
    rw [hdx]
    refine wpAny_pure ?_
    show wpAny _ _ (storeInDict dx (.str name tk) name v) _ _ _
    unfold storeInDict newKeyGuard
    refine wpAny_bind (wpAny_pure (wpAny_bind (wpAny_nsSet1 hns fun h' hn' hs  => ?_)))
    obtain ⟨oD, esD, epD, hoD, hdD, hcD⟩ := hn'.count (Within.cons name v hw)
    refine wpAny_bind (wpAny_lookBehind hoD (by rw [hdD]; exact pastItsLine_dict (Nat.le_trans hcD (by rw [List.length_cons]; omega))) ?_)
    wp_walk
    refine hq h' _ ⟨o, (hs.2 x hne.symm).trans hx, hc, hnc, .inr ⟨dx, hdx, hne, hn'⟩⟩ (fun b ob zz hbd hb  => ?_)
      (fun o₀ h₀  => ⟨o₀, (hs.2 x hne.symm).trans h₀, rfl, rfl, rfl, fun zz e  => e, fun zz e  => .inl e⟩)
    exact (hs.2 b (hbd o dx hx hdx)).trans hb

set_option tactic.hygienic false in
theorem ex_store_attr {Q : Unit → Shared → Prop} {ns : List Str}
    (hC : h.get? C = some (excClassObj nm q C N bs (.ref L :: excBm) true sn sub ab col dd k0 k1 k2 k3 k5 "Exception.__new__")) (hn : h.Ns N mN) (hni : mN name = none) (hns : mN "__setattr__" = none)
    (hL : h.get? L = some { cls := c0, dict := dA, data := .cls cd, slots := sl }) (hnL : h.Ns cd.ns mL) (hi : mL name = none) (his : mL "__setattr__" = none)
    (hB : typeLookup (.type "Exception") name = pure none) (hxC : x ≠ C) (I : h.Inst x C mA)
    (hq : ∀ h' tk', h'.Inst x C (fun y  => if y = name then some v else mA y) →
      (∀ b o, b ≠ x → (∀ o₀ dx, h.get? x = some o₀ → o₀.dict = some dx → b ≠ dx) → h.get? b = some o → h'.get? b = some o) →
      (∀ o₀, h.get? x = some o₀ → ∃ o₁, h'.get? x = some o₁ ∧ o₁.cls = o₀.cls ∧ o₁.data = o₀.data ∧ o₁.slots = o₀.slots ∧ (∀ dx, o₀.dict = some dx → o₁.dict = some dx) ∧ ∀ dx, o₁.dict = some dx → o₀.dict = some dx ∨ h.objs.size ≤ dx) → Q () ⟨h', g, d, tk', os⟩) (hw : Within mA ns) (hsz : ns.length ≤ sizeLine) :
    wpAny (model prog w) A (setAttr (.ref x) name v) Q E ⟨h, g, d, t, os⟩ := by
  obtain ⟨o, hx, hc, zz⟩ := id I
  have SF := PySem.F.store_Exception
  have f3 := SF.slot.bind (.ref x)
  unfold setAttr callSpecial? specialOf
  repeat (any_goals (first | assumption | (with_reducible refine wpAny_loadPart_at hx ?_; rw [hc]) | with_reducible refine ex_tl hC hn hns hL hnL his SF.slot.lookup ?_ | wp_step))
  refine codeAny_call_builtin SF.slot.plain SF.entry (ex_check_sa hC hx hc (ex_store_entry hC hn hni hL hnL hi hB hxC I (fun h' tk' I' hk hsame  => ?_) hw hsz))
  repeat (any_goals (first | assumption | wp_step))
  exact hq h' tk' I' hk hsame
end
end Mine
end
section
open PySem PySem.W PySem.Calls PySem.SeqAt
set_option maxRecDepth 100000
set_option linter.unusedSectionVars false
set_option linter.unusedVariables false
namespace Mine
section
variable {M : Model} {A : Around} {E : Value → Shared → Prop} {s : Shared}
set_option tactic.hygienic false in
theorem bind_two {fd : FuncData} {u v dv : Value} {Q : List (Str × Value) → Shared → Prop} {t : Addr} {o : Obj} {n : Nat} (hp : plainPar fd.params = true) (ha : fd.params.args.map (·.arg) = ([("self" : Str), ("what" : Str), ("at" : Str)] : List Str))
    (hd : fd.defaults = .ref t) (ho : s.heap.get? t = some o) (hod : o.data = .seq #[dv] n) (h : Q [(("self" : Str), u), (("what" : Str), v), (("at" : Str), dv)] s) : wpAny M A (bindArgs fd ⟨[u, v], []⟩) Q E s := by
  obtain ⟨name, qualname, params, body, scope, globals, closure, defaults, kwdefaults, doc, pyModule, annotations, code, closureTuple, builtins⟩ := fd
  simp only at hp ha hd
  obtain ⟨po, args, va, ko, kd, kw, dfl⟩ := params
  obtain ⟨rfl, zz, rfl, rfl, rfl, rfl, zz⟩ := Arguments.mk.inj (plainPar_eq hp)
  unfold bindArgs
  dsimp only at ha hd ⊢
  subst hd
  rw [ha]
  simp only [List.map_nil, List.nil_append, List.append_nil, List.forIn_nil, pure_bind]
  refine wpAny_bind (wpAny_seqItems ho hod ?_)
  exact wpAny_pure h
end
end Mine
end
section
open PySem PySem.W PySem.Calls PySem.SeqAt
set_option maxRecDepth 100000
set_option linter.unusedSectionVars false
set_option linter.unusedVariables false
namespace Mine
structure ExI (h0 : Heap) (e C : Addr) (h : Heap) (mA : Str → Option Value) : Prop where
  I : h.Inst e C mA
  size : h0.objs.size ≤ h.objs.size
  keep : ∀ b o, b ≠ e → h0.get? b = some o → h.get? b = some o
  obj : ∃ o tp, h.get? e = some o ∧ o.cls = .ref C ∧ o.data = .fields #[.ref tp, .none, .none, .none, .bool false, .none] ∧ ∀ dx, o.dict = some dx → h0.objs.size ≤ dx

section
variable {prog : Program} {w : World} {A : Around} {E : Value → Shared → Prop} {h0 h : Heap} {g : Array GenState} {d : Drawn} {t : Nat} {os : OsState}
variable {nm q : Str} {C N L e : Addr} {bs : List Value} {sn : List Str} {sub : List Value} {ab : Bool} {col : Option Bool} {dd : Option Addr} {k0 k1 k2 k3 k5 : Option Value}
  {mN mL mA : Str → Option Value} {name : Str} {v : Value} {c0 : Value} {dA : Option Addr} {cd : ClassData} {sl : Array (Option Value)}

set_option tactic.hygienic false in
theorem exI_set {Q : Unit → Shared → Prop} {ns : List Str}
    (hC : h0.get? C = some (excClassObj nm q C N bs (.ref L :: excBm) true sn sub ab col dd k0 k1 k2 k3 k5 "Exception.__new__")) (hn : h0.Ns N mN) (hni : mN name = none) (hns : mN "__setattr__" = none)
    (hL : h0.get? L = some { cls := c0, dict := dA, data := .cls cd, slots := sl }) (hnL : h0.Ns cd.ns mL) (hi : mL name = none) (his : mL "__setattr__" = none)
    (hB : typeLookup (.type "Exception") name = pure none) (he0 : h0.get? e = some o0) (hf0 : ∃ vs, o0.data = .fields vs) (I : ExI h0 e C h mA)
    (hq : ∀ h' tk', ExI h0 e C h' (fun y  => if y = name then some v else mA y) → Q () ⟨h', g, d, tk', os⟩) (hw : Within mA ns) (hsz : ns.length ≤ sizeLine) :
    wpAny (model prog w) A (setAttr (.ref e) name v) Q E ⟨h, g, d, t, os⟩ := by
  obtain ⟨vs0, hf0⟩ := hf0
  have ne : ∀ b o, h0.get? b = some o → (∀ vs, o.data ≠ .fields vs) → b ≠ e := fun b o hb hd hbe  => by
    subst hbe; rw [he0] at hb; cases hb; exact hd _ hf0
  have hC1 := I.keep _ _ (ne _ _ hC fun vs q  => by cases q) hC
  have hL1 := I.keep _ _ (ne _ _ hL fun vs q  => by cases q) hL
  have kNs : ∀ {a m}, h0.Ns a m → h.Ns a m := fun {a m} ⟨o, es, ep, a1, a2, a3⟩ => ⟨o, es, ep, I.keep _ _ (ne _ _ a1 fun vs q  => by rw [a2] at q; cases q) a1, a2, a3⟩
  have heC : e ≠ C := fun q  => (ne _ _ hC fun vs q  => by cases q) q.symm
  refine wpAny_mono (wpAny_sized (Q := fun u s'  => h.objs.size ≤ s'.heap.objs.size → Q u s') (E := E) (ex_store_attr hC1 (kNs hn) hni hns hL1 (kNs hnL) hi his hB heC I.I (fun h' tk' I' hk hs hz  => hq h' tk' ⟨I', Nat.le_trans I.size hz, fun b ob hb ho  => ?_, ?_⟩) hw hsz)) (fun zz zz z  => z.1 z.2) fun zz zz z  => z.1
  · obtain ⟨o, vs, x1, x2, x3, x6⟩ := I.obj
    refine hk b ob hb (fun o₀ dx hx hdx hbd  => ?_) (I.keep b ob hb ho)
    rw [x1] at hx; cases hx
    have := x6 dx hdx
    exact absurd (Heap.lt_size ho) (Nat.not_lt.mpr (hbd ▸ this))
  · obtain ⟨o, vs, x1, x2, x3, x6⟩ := I.obj
    obtain ⟨o₁, y1, y2, y3, zz, zz, y4⟩ := hs o x1
    refine ⟨o₁, vs, y1, y2.trans x2, y3.trans x3, fun dx hdx  => ?_⟩
    rcases y4 dx hdx with z | z
    · exact x6 dx z
    · exact Nat.le_trans I.size z
end
end Mine
end
section
open PySem PySem.W PySem.Calls PySem.SeqAt
set_option maxRecDepth 100000
set_option linter.unusedSectionVars false
set_option linter.unusedVariables false
namespace Mine
section
variable {prog : Program} {w : World} {A : Around} {E : Value → Shared → Prop} {h : Heap} {g : Array GenState} {d : Drawn} {t : Nat} {os : OsState}
variable {nm q : Str} {C N L e tup : Addr} {bs : List Value} {sn : List Str} {sub : List Value} {ab : Bool} {col : Option Bool} {dd : Option Addr} {k0 k1 k2 k3 k5 : Option Value} {hdct : Bool} {u : Value}

set_option tactic.hygienic false in
theorem ex_initcall {Q : Value → Shared → Prop}
    (hC : h.get? C = some (excClassObj nm q C N bs (.ref L :: excBm) hdct sn sub ab col dd k0 k1 k2 k3 k5 "Exception.__new__"))
    (he : h.get? e = some { cls := .ref C, data := .fields #[.ref tup, .none, .none, .none, .bool false, .none] })
    (hq : ∀ h', ExI h e C h' (fun zz  => none) → Q .none ⟨h', g, d, t, os⟩) :
    wpAny (model prog w) A (call (.builtin "Exception.__init__") [.ref e, u]) Q E ⟨h, g, d, t, os⟩ := by
  have F := PySem.F.excBase_Exception
  refine wpAny_call (codeAny_call_builtin F.init.plain F.initEntry (ex_checkInit hC he rfl ?_))
  wp_walk
  refine hq _ ?_
  have hlt := Heap.lt_size he
  have hne : e ≠ h.objs.size := Nat.ne_of_lt hlt
  refine ⟨⟨_, Heap.get?_update_self _ (Heap.get?_push_of_some _ he) rfl, rfl, (fun c q  => by cases q), .inl ⟨rfl, fun zz  => rfl⟩⟩, ?_, fun b o hb ho  => ?_, ⟨_, _, Heap.get?_update_self _ (Heap.get?_push_of_some _ he) rfl, rfl, rfl, fun dx q  => by cases q⟩⟩
  · rw [Heap.size_update, Heap.size_push]; exact Nat.le_succ _
  · rw [Heap.get?_update_other _ _ (Ne.symm hb)]
    exact Heap.get?_push_of_some _ ho
end
end Mine
end
section
open PySem PySem.W PySem.Calls PySem.SeqAt
set_option maxRecDepth 100000
set_option linter.unusedSectionVars false
set_option linter.unusedVariables false
namespace Mine
noncomputable def initBody (p1 p2 p3 p4 p5 p6 q1 q2 q3 q4 r1 r2 r3 r4 : Pos) : List Stmt :=
  [.Expr (.Call (.Attribute (.Name "Exception" p1) "__init__" p2) [.Name "self" p3, .Name "what" p4] [] p5) p6,
   .Assign [.Attribute (.Name "self" q1) "what" q2] (.Name "what" q3) q4,
   .Assign [.Attribute (.Name "self" r1) "at" r2] (.Name "at" r3) r4]
theorem tl_exc_what : typeLookup (.type "Exception") "what" = pure none := by rw [typeLookup_type, builtinLookup_eq_fast]; kernel_rfl
theorem tl_exc_at : typeLookup (.type "Exception") "at" = pure none := by rw [typeLookup_type, builtinLookup_eq_fast]; kernel_rfl
section
variable {prog : Program} {w : World} {A : Around} {E : Value → Shared → Prop} {h : Heap} {g : Array GenState} {d : Drawn} {t : Nat} {os : OsState} {env : Env}
variable {nm q : Str} {C N L e tup : Addr} {bs : List Value} {sn : List Str} {sub : List Value} {ab : Bool} {col : Option Bool} {dd : Option Addr} {k0 k1 k2 k3 k5 : Option Value} {u va : Value}
  {mN mL m mg mb : Str → Option Value} {c0 : Value} {dA : Option Addr} {cd : ClassData} {sl : Array (Option Value)}

theorem ex_initbody {Q : Flow → Shared → Prop} {p1 p2 p3 p4 p5 p6 q1 q2 q3 q4 r1 r2 r3 r4 : Pos} (hline : (p2.endLine == p5.line) = true)
    (hC : h.get? C = some (excClassObj nm q C N bs (.ref L :: excBm) true sn sub ab col dd k0 k1 k2 k3 k5 "Exception.__new__")) (hn : h.Ns N mN) (n1 : mN "__setattr__" = none) (n2 : mN "what" = none) (n3 : mN "at" = none)
    (hL : h.get? L = some { cls := c0, dict := dA, data := .cls cd, slots := sl }) (hnL : h.Ns cd.ns mL) (l1 : mL "__setattr__" = none) (l2 : mL "what" = none) (l3 : mL "at" = none)
    (he : h.get? e = some { cls := .ref C, data := .fields #[.ref tup, .none, .none, .none, .bool false, .none] })
    (hk : env.scope.kind = .function) (hs1 : env.kindOf "self" = some .local) (hs2 : env.kindOf "what" = some .local) (hs3 : env.kindOf "at" = some .local) (hs4 : env.kindOf "Exception" = some .globalImplicit)
    (hm : h.Ns env.locals m) (m1 : m "self" = some (.ref e)) (m2 : m "what" = some u) (m3 : m "at" = some va)
    (hg : h.Ns env.globals mg) (g1 : mg "Exception" = none) (hb : h.Ns env.builtins mb) (b1 : mb "Exception" = some (.type "Exception"))
    (hq : ∀ h' d' tk' mA, ExI h e C h' mA → Q .next ⟨h', g, d', tk', os⟩) :
    wpAny (model prog w) A (PySem.execs (initBody p1 p2 p3 p4 p5 p6 q1 q2 q3 q4 r1 r2 r3 r4) env) Q E ⟨h, g, d, t, os⟩ := by
  have nsE : ∀ {h' : Heap} {mA : Str → Option Value} {a : Addr} {mm : Str → Option Value}, ExI h e C h' mA → h.Ns a mm → h'.Ns a mm := fun {h' mA a mm} I ⟨o, es, ep, a1, a2, a3⟩ => by
    refine ⟨o, es, ep, I.keep _ _ (fun q => ?_) a1, a2, a3⟩
    subst q; rw [he] at a1; cases a1; cases a2
  have nameL : ∀ {x : Str} {pos : Pos} {v : Value} {s : Shared} {Q : Value → Shared → Prop} {A : Around} {E : Value → Shared → Prop}, (x == ("__debug__" : Str)) = false → env.kindOf x = some .local → s.heap.Ns env.locals m → m x = some v → Q v s → wpAny (model prog w) A (eval (.Name x pos) env) Q E s :=
    fun h1 h2 h3 h4 h5 => wpAny_Name (wpAny_loadName_local hk h2 h3 h4 h5) h1
  refine wpAny_execs_cons (wpAny_Expr_any ?_ (by unfold interactive; rw [hk]; rfl) rfl)
  rw [arm_eval_Call]
  rw [attributeBase_plain (by rfl)]
  refine wpAny_bind (Name_function_global hk hs4 (loadGlobal_builtin hg g1 hb b1 ?_))
  refine wpAny_bind (wpAny_standAt ?_)
  have hform : methodCallForm ([Expr.Name ("self" : Str) p3, Expr.Name ("what" : Str) p4].length + ([] : List Keyword).length) (backTo p5 (starEach [.Name "self" p3, .Name "what" p4] env)) (backToKw p5 (keywordEach [] env)) = true := rfl
  have hpos : methodCallPos true (.Name "Exception" p1) env p2 p5 = pure p5 := by unfold methodCallPos; simp [hline]
  unfold methodCall
  rw [hform]
  refine wpAny_bind (wpAny_holding (exc_init_method fun s' a1 a2 a3 => ?_))
  obtain ⟨h', gn', d', t', os'⟩ := s'
  simp only at a1 a2 a3
  subst a1; subst a2; subst a3
  refine wpAny_bind (wpAny_of_eq hpos ?_)
  refine callWith_builtin rfl (evalArgs_plain (spliced_cons (nameL (by decide) hs1 hm m1 (spliced_cons (nameL (by decide) hs2 hm m2 (spliced_nil ?_))))))
  refine ex_initcall hC he fun h₁ I₁ => ?_
  show wpAny _ _ _ _ _ _
  refine wpAny_execs_cons (plainObj_wpAny_Assign_Attribute (nameL (by decide) hs2 (nsE I₁ hm) m2 (nameL (by decide) hs1 (nsE I₁ hm) m1 ?_)))
  refine exI_set hC hn n2 n1 hL hnL l2 l1 tl_exc_what he ⟨_, rfl⟩ I₁ (fun h₂ tk₂ I₂ => ?_) (ns := []) Within.nil (Nat.zero_le _)
  show wpAny _ _ _ _ _ _
  refine wpAny_execs_cons (plainObj_wpAny_Assign_Attribute (nameL (by decide) hs3 (nsE I₂ hm) m3 (nameL (by decide) hs1 (nsE I₂ hm) m1 ?_)))
  refine exI_set hC hn n3 n1 hL hnL l3 l1 tl_exc_at he ⟨_, rfl⟩ I₂ (fun h₃ tk₃ I₃ => ?_) (ns := ["what"]) (Within.cons _ _ Within.nil) (by rw [sizeLine_eq]; decide)
  exact wpAny_execs_nil (hq _ _ _ _ I₃)
end
end Mine
end
section
open PySem PySem.W PySem.Calls PySem.SeqAt
set_option maxRecDepth 100000
set_option linter.unusedSectionVars false
set_option linter.unusedVariables false
namespace Mine
structure GfD where
  nm : Str
  q : Str
  N : Addr
  L : Addr
  fI : Addr
  td : Addr
  bs : List Value
  sn : List Str
  sub : List Value
  ab : Bool
  col : Option Bool
  dd : Option Addr
  k0 : Option Value
  k1 : Option Value
  k2 : Option Value
  k3 : Option Value
  k5 : Option Value
  c0 : Value
  dA : Option Addr
  cd : ClassData
  sl : Array (Option Value)
  oI : Obj
  fd : FuncData
  dv : Value
  oD : Obj
  n : Nat
  ps : List Pos
structure GfOK (h : Heap) (C : Addr) (G : GfD) : Prop where
  C : h.get? C = some (excClassObj G.nm G.q C G.N G.bs (.ref G.L :: excBm) true G.sn G.sub G.ab G.col G.dd G.k0 G.k1 G.k2 G.k3 G.k5 "Exception.__new__")
  N : ∃ mN, h.Ns G.N mN ∧ mN "__init__" = none ∧ mN "__setattr__" = none ∧ mN "what" = none ∧ mN "at" = none
  L : h.get? G.L = some { cls := G.c0, dict := G.dA, data := .cls G.cd, slots := G.sl }
  NL : ∃ mL, h.Ns G.cd.ns mL ∧ mL "__init__" = some (.ref G.fI) ∧ mL "__setattr__" = none ∧ mL "what" = none ∧ mL "at" = none
  I : h.get? G.fI = some G.oI
  Ic : G.oI.cls = .type "function"
  Id : G.oI.data = .func G.fd
  par : plainPar G.fd.params = true
  args : G.fd.params.args.map (·.arg) = ([("self" : Str), ("what" : Str), ("at" : Str)] : List Str)
  dfl : G.fd.defaults = .ref G.td
  D : h.get? G.td = some G.oD
  Dd : G.oD.data = .seq #[G.dv] G.n
  body : ∃ p1 p2 p3 p4 p5 p6 q1 q2 q3 q4 r1 r2 r3 r4, G.fd.body = .stmts (initBody p1 p2 p3 p4 p5 p6 q1 q2 q3 q4 r1 r2 r3 r4) ∧ (p2.endLine == p5.line) = true
  co : G.fd.scope.isCoroutine = false
  ge : G.fd.scope.isGenerator = false
  kind : G.fd.scope.kind = .function
  cells : ∀ x ∈ G.fd.scope.names, x.2 ≠ .cell
  s1 : G.fd.scope.names.lookup ("self" : Str) = some .local
  s2 : G.fd.scope.names.lookup ("what" : Str) = some .local
  s3 : G.fd.scope.names.lookup ("at" : Str) = some .local
  s4 : G.fd.scope.names.lookup ("Exception" : Str) = some .globalImplicit
  clo : G.fd.closure = []
  code : h.CodeRec G.fd.code G.fd.qualname
  nolim : h.NoLimit
  g1 : ∃ mg, h.Ns G.fd.globals mg ∧ mg "Exception" = none
  b1 : ∃ mb, h.Ns G.fd.builtins mb ∧ mb "Exception" = some (.type "Exception")
set_option tactic.hygienic false in
theorem GfOK.keeps {h h' : Heap} {C : Addr} {G : GfD} (x : GfOK h C G) (k : ∀ b o, h.get? b = some o → h'.get? b = some o) : GfOK h' C G where
  C := k _ _ x.C
  N := let ⟨m, a, b⟩ := x.N; ⟨m, a.keeps k, b⟩
  L := k _ _ x.L
  NL := let ⟨m, a, b⟩ := x.NL; ⟨m, a.keeps k, b⟩
  I := k _ _ x.I
  Ic := x.Ic
  Id := x.Id
  par := x.par
  args := x.args
  dfl := x.dfl
  D := k _ _ x.D
  Dd := x.Dd
  body := x.body
  co := x.co
  ge := x.ge
  kind := x.kind
  cells := x.cells
  s1 := x.s1
  s2 := x.s2
  s3 := x.s3
  s4 := x.s4
  clo := x.clo
  code := x.code.keeps k
  nolim := x.nolim.keeps k
  g1 := let ⟨m, a, b⟩ := x.g1; ⟨m, a.keeps k, b⟩
  b1 := let ⟨m, a, b⟩ := x.b1; ⟨m, a.keeps k, b⟩

section
variable {prog : Program} {w : World} {A : Around} {E : Value → Shared → Prop} {s : Shared} {C e tup : Addr} {G : GfD} {u : Value}
set_option tactic.hygienic false in
theorem ex_initfun (hG : GfOK s.heap C G) (hroom : A.depth < recursionLimit) (he : s.heap.get? e = some { cls := .ref C, data := .fields #[.ref tup, .none, .none, .none, .bool false, .none] }) {Q : Value → Shared → Prop}
    (hq : ∀ s' h₁ mA, (∀ b o, s.heap.get? b = some o → h₁.get? b = some o) → s.heap.objs.size ≤ h₁.objs.size → ExI h₁ e C s'.heap mA → s'.gens = s.gens → s'.os = s.os → Q .none s') :
    wpAny (model prog w) A (call (.ref G.fI) [.ref e, u]) Q E s := by
  obtain ⟨p1, p2, p3, p4, p5, p6, q1, q2, q3, q4, r1, r2, r3, r4, hb, hline⟩ := hG.body
  refine wpAny_call (codeAny_call_function hroom hG.I hG.Id hG.co hG.ge hb hG.code ?_)
  refine bind_two hG.par hG.args hG.dfl hG.D hG.Dd ?_
  rw [hG.clo]
  refine wpAny_newFunctionEnv hG.cells (fun x hx  => ?_) (fun h' hns hsb  => ?_) hG.kind
  · rcases List.mem_cons.mp hx with rfl | hx
    · exact hG.s1
    rcases List.mem_cons.mp hx with rfl | hx
    · exact hG.s2
    rcases List.mem_cons.mp hx with rfl | hx
    · exact hG.s3
    · cases hx
  · have kp : ∀ b o, s.heap.get? b = some o → h'.get? b = some o := fun b o hbo  => (hsb.2 b (Nat.ne_of_lt (Heap.lt_size hbo))).trans (Heap.get?_push_of_some _ hbo)
    have hG' := hG.keeps kp
    obtain ⟨mN, a1, a2, a3, a4, a5⟩ := hG'.N
    obtain ⟨mL, c1, c2, c3, c4, c5⟩ := hG'.NL
    obtain ⟨mg, d1, d2⟩ := hG'.g1
    obtain ⟨mb, e1, e2⟩ := hG'.b1
    obtain ⟨hp, gn, dr, tk, os⟩ := s
    refine ⟨hG'.nolim, codeAny_func ?_⟩
    refine ex_initbody (u := u) (va := G.dv) hline hG'.C a1 a3 a4 a5 hG'.L c1 c3 c4 c5 (kp _ _ he) hG.kind hG.s1 hG.s2 hG.s3 hG.s4 hns ?_ ?_ ?_ d1 d2 e1 e2 fun h₂ d' tk' mA I  => ?_
    · rfl
    · rfl
    · rfl
    · exact hq _ h' mA kp (by have h2 := hsb.1; rw [Heap.size_push] at h2; exact Nat.le_trans (Nat.le_succ _) (Nat.le_of_eq h2.symm)) I rfl rfl
end
end Mine
end
section
open PySem PySem.W PySem.Calls PySem.SeqAt
set_option maxRecDepth 100000
set_option linter.unusedSectionVars false
set_option linter.unusedVariables false
namespace Mine
section
variable {M : Model} {A : Around} {E : Value → Shared → Prop} {env : Env} {C L N : Addr}
variable {nm q : Str} {bs : List Value} {sn : List Str} {sub : List Value} {ab : Bool} {col : Option Bool} {dd : Option Addr} {k0 k1 k2 k3 k5 : Option Value} {hdct : Bool}
set_option tactic.hygienic false in
theorem ex_raiseStmt {s : Shared} {x : Sem Value} {Q : Flow → Shared → Prop} (hh : A.handled = none)
    (h : wpAny M A x (fun v s₁  => ∃ e oe tp, v = .ref e ∧ s₁.heap.get? C = some (excClassObj nm q C N bs (.ref L :: excBm) hdct sn sub ab col dd k0 k1 k2 k3 k5 "Exception.__new__") ∧
      s₁.heap.get? e = some oe ∧ oe.cls = .ref C ∧ oe.data = .fields #[.ref tp, .none, .none, .none, .bool false, .none] ∧ E (.ref e) s₁) E s) :
    wpAny M A (raiseStmt env (some x) none) Q E s := by
  have hcB : (Value.ref C :: .ref L :: excBm).contains (.type "BaseException") = true := by rw [List.contains_cons, ex_has (b := true) (by decide +kernel), Bool.or_true]
  unfold raiseStmt
  refine wpAny_bind (wpAny_mono h (fun v s₁ h₁  => ?_) fun zz zz x  => x)
  obtain ⟨e, oe, tp, rfl, hC, he, hcl, hdt, hE⟩ := h₁
  obtain ⟨hp, g, d, tk, os⟩ := s₁
  obtain ⟨c1, d1, dt1, sl1⟩ := oe
  simp only at hcl hdt
  subst hcl
  subst hdt
  repeat (first | with_reducible refine wpAny_loadPart_at he ?_ | with_reducible refine wpAny_loadPart_at hC ?_ | (with_reducible refine wpAny_isSubtype_exc hC ?_; rw [hcB]) | wp_step)
  exact wpAny_raiseNew_none hh hE
end
end Mine
end
section
open PySem PySem.W PySem.Calls PySem.SeqAt
set_option maxRecDepth 100000
set_option linter.unusedSectionVars false
set_option linter.unusedVariables false
namespace Mine
set_option tactic.hygienic false in
theorem raise_ok {X : Fix} (O : FixOK X) {G : GfD} (hG : GfOK X.B X.gf G) (d : Nat) : RaiseOK X d := by
  intro L H cx hT hgf A fe outer F c ρ g σ s am w f a p pos pos' kx Q hn hs hisgf h
  have hp : (backTo pos (starEach [a] c)).any (·.1) = false := (starEach_plain (c := c) (pos := pos) (es := [a]) (by simp [hs])).1
  have main : wpAny (model X.prog X.w) A (eval (.Call (.Name f p) [a] [] pos) c) (fun v s₁  => ∃ e oe tp, v = .ref e ∧ s₁.heap.get? X.gf = some (excClassObj G.nm G.q X.gf G.N G.bs (.ref G.L :: excBm) true G.sn G.sub G.ab G.col G.dd G.k0 G.k1 G.k2 G.k3 G.k5 "Exception.__new__") ∧
      s₁.heap.get? e = some oe ∧ oe.cls = .ref X.gf ∧ oe.data = .fields #[.ref tp, .none, .none, .none, .bool false, .none] ∧ PX X noS (fe :: outer) F g s kx (.ref e) s₁) (PX X noS (fe :: outer) F g s kx) s := by
    refine wpAny_Call_ofName ?_
    obtain ⟨hd, hcl⟩ := nameOk_ok hn
    obtain ⟨e, hv⟩ := isGf_eq hisgf
    rw [hgf] at hv
    have hkd : c.kindOf f = some .globalImplicit := by
      rcases w.fr.names _ _ e with hkd | ⟨hkd, zz⟩
      · exact hkd
      · cases hkd
    obtain ⟨es, ep, h1, h2, h3⟩ := glob_ns O w.R
    rw [hT, nsK_find O h1 h3] at hv
    refine Name_function_global w.fr.kind hkd (loadGlobal_global (w.fr.glob ▸ h2) hv ?_) hd
    unfold callWith
    refine wpAny_bind (wpAny_holding (wpAny_mono (Q := fun (a : Args) s₂  => ∃ u g₁ σ₁, a = ⟨[u], []⟩ ∧ To X noS (fe :: outer) g s g₁ s₂ ∧ HR X g₁ σ₁ s₂.heap ∧ kx σ₁ = true) (evalArgs_all hp ?_) (fun a s₂ h₂  => wpAny_bind (wpAny_standAt ?_)) fun zz zz x  => x))
    · rw [starEach_cons hs]
      refine spliced_cons (vgo (H.ev am w a _ kx h) fun v g₁ σ₁ s₁ t R₁ ⟨p, rp, hk⟩ => spliced_nil ?_)
      refine ⟨v, g₁, σ₁, rfl, t, R₁, ?_⟩
      refine pstrE hk fT fun zz hk  => hk
    · obtain ⟨u, g₁, σ₁, rfl, t, R₁, hk⟩ := h₂
      have kB : ∀ b o, X.B.get? b = some o → s₂.heap.get? b = some o := fun b o e  => R₁.frz _ _ (R₁.base _ _ e)
      have hG₁ := hG.keeps kB
      have fs₁ := w.fs.step t.st fun zz zz zz zz z  => z
      obtain ⟨hh, gn, dr, tk, os⟩ := s₂
      simp only [hp]
      obtain ⟨mN, a1, a2, a3, a4, a5⟩ := hG₁.N
      obtain ⟨mL, c1, c2, c3, c4, c5⟩ := hG₁.NL
      refine wpAny_bind (wpAny_keeperOf_exc hG₁.C ?_)
      refine wpAny_bind (ex_call hG₁.C a1 a2 hG₁.L c1 c2 hG₁.I hG₁.Ic (fun h' e hle hm  => ?_) (by rw [sizeLine_eq]; simp))
      obtain ⟨tp, he, zz, zz⟩ := hm.there
      refine ex_initfun (s := ⟨h', gn, dr, tk, os⟩) (hG₁.keeps hm.keeps) ?_ he fun s' h₁ mA k₁ z₁ I e1 e2  => ⟨rfl, wpAny_bind (wpAny_holding (wpAny_point (wpAny_pure ?_)))⟩
      · have := am.depth
        show A.depth + (Code.builtin "type.__call__" ⟨.ref X.gf :: [u], []⟩).weight < 1000
        have hwt : (Code.builtin "type.__call__" ⟨.ref X.gf :: [u], []⟩).weight ≤ 1 := by first | (show (0 : Nat) ≤ 1; decide) | (show (1 : Nat) ≤ 1; decide) | (unfold Code.weight; split <;> simp)
        omega
      · have hne : ∀ b o, hh.get? b = some o → b ≠ e := fun b o hb q  => by subst q; exact absurd (Heap.lt_size hb) (Nat.not_lt.mpr hle)
        have kk : ∀ b o, hh.get? b = some o → s'.heap.get? b = some o := fun b o hb  => I.keep b o (hne b o hb) (k₁ b o (hm.keeps b o hb))
        obtain ⟨oe, tp', x1, x2, x3, zz⟩ := I.obj
        refine ⟨e, oe, tp', rfl, kk _ _ hG₁.C, x1, x2, x3, none, .inl rfl, ?_⟩
        have hsz : hh.objs.size ≤ s'.heap.objs.size := by
          refine Nat.le_trans ?_ I.size
          refine Nat.le_trans ?_ z₁
          show hh.objs.size ≤ h'.objs.size
          exact Nat.le_trans hle (Nat.le_of_lt (Heap.lt_size he))
        have T₂ : To X noS (fe :: outer) g₁ ⟨hh, gn, dr, tk, os⟩ g₁ s' := ⟨Stp.heap hsz fun b o hb zz zz zz  => kk b o hb, e1, e2⟩
        have R₂ : HR X g₁ σ₁ s'.heap := R₁.heap fun b o hb zz  => kk b o hb
        refine ⟨⟨g₁, σ₁, e, rfl, (t.trans T₂).st, R₂, ⟨Nat.le_trans t.st.size hle, R₁.fresh hle, oe, _, x1, x2, x3, by simp, rfl⟩, fs₁.step T₂.st fun zz zz zz zz z  => z, hk⟩, (t.trans T₂).gens, (t.trans T₂).os⟩
  rw [arm_exec_Raise]
  first
    | exact wpAny_bind (wpAny_standAt (ex_raiseStmt am.hd (wpAny_bind (wpAny_mono main (fun v s₃ h₃  => wpAny_bind (wpAny_standAt (wpAny_pure h₃))) fun zz zz x  => x))))
    | (simp only [evalOpt, Option.map]; exact wpAny_bind (wpAny_standAt (ex_raiseStmt am.hd (wpAny_bind (wpAny_mono main (fun v s₃ h₃  => wpAny_bind (wpAny_standAt (wpAny_pure h₃))) fun zz zz x  => x)))))
end Mine
end
section
open PySem PySem.W PyProof.Rows PySem.Calls PySem.SeqAt
set_option maxRecDepth 100000
set_option linter.unusedSectionVars false
set_option linter.unusedVariables false
namespace Mine
set_option tactic.hygienic false in
theorem bind_dflt {fd : FuncData} {v dv : Value} {x1 x2 : Str} {t : Addr} {o : Obj} {n : Nat} (hp : plainPar fd.params = true) (ha : fd.params.args.map (·.arg) = [x1, x2]) (hne : x1 ≠ x2)
    (hd : fd.defaults = .ref t) {M : Model} {A : Around} {E : Value → Shared → Prop} {s : Shared} {Q : List (Str × Value) → Shared → Prop} (ho : s.heap.get? t = some o) (hod : o.data = .seq #[dv] n) (h : Q [(x1, v), (x2, dv)] s) : wpAny M A (bindArgs fd ⟨[v], []⟩) Q E s := by
  obtain ⟨name, qualname, params, body, scope, globals, closure, defaults, kwdefaults, doc, pyModule, annotations, code, closureTuple, builtins⟩ := fd
  simp only at hp ha hd
  have e1 : (x2 == x1) = false := by simpa using Ne.symm hne
  have e2 : (x1 == x2) = false := by simpa using hne
  obtain ⟨po, args, va, ko, kd, kw, dfl⟩ := params
  obtain ⟨rfl, zz, rfl, rfl, rfl, rfl, zz⟩ := Arguments.mk.inj (plainPar_eq hp)
  unfold bindArgs
  dsimp only at ha hd ⊢
  subst hd
  rw [ha]
  simp only [List.map_nil, List.nil_append, List.append_nil, List.forIn_nil, pure_bind]
  refine wpAny_bind (wpAny_seqItems ho hod ?_)
  simp [List.lookup_cons, e1, e2]
  exact wpAny_pure h
end Mine
end
section
open PySem PySem.W PySem.Calls PySem.SeqAt
set_option maxRecDepth 100000
set_option linter.unusedSectionVars false
set_option linter.unusedVariables false
namespace Mine
noncomputable def Fix.sw (X : Fix) (θ : Nat → List Nat) (η : Nat → (Addr → Option Obj) → Value → Prop) : Fix := { X with θ := θ, η := η }
noncomputable def GW.still (g : GW) (h : Heap) : GW := ⟨fun b => if b ∈ g.la then h.get? b else g.Γ b, []⟩
noncomputable def GW.back (g g' : GW) : GW := ⟨fun b => if b ∈ g.la then none else g'.Γ b, g.la⟩
section
variable {X : Fix} {θ : Nat → List Nat} {η : Nat → (Addr → Option Obj) → Value → Prop} {g g' : GW} {σ σ' : Sto} {h h' : Heap} {FS : List Addr}
set_option tactic.hygienic false in
theorem still_old {a : Addr} {o : Obj} (R : HR X g σ h) (e : g.Γ a = some o) : (g.still h).Γ a = some o ∧ a ∉ g.la := by
  have n : a ∉ g.la := fun hm  => by have := (R.laF a hm).1; rw [e] at this; cases this
  exact ⟨(if_neg n).trans e, n⟩
set_option tactic.hygienic false in
theorem HR.still (R : HR X g σ h) : HR (X.sw θ η) (g.still h) [] h := by
  refine ⟨fun a o e  => ?_, fun a o e  => (still_old R (R.base a o e)).1, rfl, fun i a xs e  => (nomatch e), List.nodup_nil, fun a ha  => (nomatch ha), ?_, ?_⟩
  · have e' : (if a ∈ g.la then h.get? a else g.Γ a) = some o := e
    split at e'
    · exact e'
    · exact R.frz a o e'
  · obtain ⟨ps, h1, h2, h3⟩ := R.tab.tab
    refine ⟨ps, h1, h2, fun pos c' e  => ?_⟩
    obtain ⟨cd, o, vs, t, a1, a2, a3⟩ := h3 pos c' e
    exact ⟨cd, o, vs, t, a1, (still_old R a2).1, a3⟩
  · show (if X.P ∈ g.la then h.get? X.P else g.Γ X.P) = none
    rw [if_neg fun hm  => (R.laF _ hm).2 rfl]; exact R.noP
set_option tactic.hygienic false in
theorem back_ext (R : HR X g σ h) (t : Stp (X.sw θ η) noS FS (g.still h) h g' h') : GExt g (g.back g') :=
  ⟨fun a o e  => by
    obtain ⟨e1, n⟩ := still_old R e
    exact (if_neg n).trans (t.ext a o e1), [], (List.append_nil _).symm⟩
set_option tactic.hygienic false in
theorem list_still (R : HR X g σ h) (t : Stp (X.sw θ η) noS FS (g.still h) h g' h') {a : Addr} (ha : a ∈ g.la) : ∃ o vs n, h.get? a = some o ∧ g'.Γ a = some o ∧ o.data = .seq vs n := by
  obtain ⟨i, hi, e⟩ := List.getElem_of_mem ha
  have hi2 : i < σ.length := R.len ▸ hi
  obtain ⟨vs, ⟨n, hp⟩, zz⟩ := R.lst i a σ[i] (by rw [List.getElem?_eq_getElem hi, e]) (List.getElem?_eq_getElem hi2)
  have e1 : (g.still h).Γ a = _ := (if_pos ha).trans hp
  exact ⟨_, vs, n, hp, t.ext a _ e1, rfl⟩
set_option tactic.hygienic false in
theorem HR.back (R : HR X g σ h) (t : Stp (X.sw θ η) noS FS (g.still h) h g' h') (R' : HR (X.sw θ η) g' σ' h') : HR X (g.back g') σ h' := by
  have ge := back_ext R t
  refine ⟨fun a o e  => ?_, fun a o e  => ge.1 a o (R.base a o e), R.len, fun i a xs e1 e2  => ?_, R.nod, fun a ha  => ⟨if_pos ha, (R.laF a ha).2⟩, ?_, ?_⟩
  · have e' : (if a ∈ g.la then none else g'.Γ a) = some o := e
    split at e'
    · cases e'
    · exact R'.frz a o e'
  · obtain ⟨vs, ⟨n, hp⟩, hr⟩ := R.lst i a xs e1 e2
    have ha : a ∈ g.la := List.mem_of_getElem? e1
    have e3 : (g.still h).Γ a = _ := (if_pos ha).trans hp
    exact ⟨vs, ⟨n, R'.frz a _ (t.ext a _ e3)⟩, repL_mono ge hr⟩
  · obtain ⟨ps, h1, h2, h3⟩ := R'.tab.tab
    refine ⟨ps, h1, h2, fun pos c' e  => ?_⟩
    obtain ⟨cd, o, vs, tk, a1, a2, a3, a4⟩ := h3 pos c' e
    refine ⟨cd, o, vs, tk, a1, ?_, a3, a4⟩
    show (if cd ∈ g.la then none else g'.Γ cd) = some o
    rw [if_neg, a2]
    intro hm
    obtain ⟨o2, vs2, n2, zz, b1, b2⟩ := list_still R t hm
    rw [a2] at b1; cases b1; rw [a3] at b2; cases b2
  · show (if X.P ∈ g.la then none else g'.Γ X.P) = none
    split
    · rfl
    · exact R'.noP
theorem Stp.back (R : HR X g σ h) (t : Stp (X.sw θ η) noS FS (g.still h) h g' h') (R' : HR (X.sw θ η) g' σ' h') : Stp X noS FS g h (g.back g') h' := by
  refine ⟨t.size, (back_ext R t).1, fun a o e  => ?_, ⟨[], (List.append_nil _).symm, fun zz hm  => nomatch hm⟩, fun b o e n1 n2 n3  => t.keep b o e n1 (fun hm  => nomatch hm) n3⟩
  have e' : (if a ∈ g.la then none else g'.Γ a) = some o := e
  split at e'
  · cases e'
  · rename_i n
    rcases t.new a o e' with q | q
    · exact .inl ((if_neg n).symm.trans q)
    · exact .inr q
end
end Mine
end
section
open PySem PySem.W PySem.Calls PySem.SeqAt
set_option maxRecDepth 100000
set_option linter.unusedSectionVars false
set_option linter.unusedVariables false
namespace Mine
section
variable {X : Fix} {θ : Nat → List Nat} {η : Nat → (Addr → Option Obj) → Value → Prop} {g g' : GW} {σ σ' : Sto} {h h' : Heap} {l : List Env} {F : Addr} {kx kx' : KX} {s s' : Shared}
set_option tactic.hygienic false in
theorem FramesOK.still (x : FramesOK X g h l) : FramesOK (X.sw θ η) (g.still h) h l := by
  intro env he
  obtain ⟨hk, L, o, hf, h1, h2, h3, h4⟩ := x env he
  exact ⟨hk, L, o, hf, (if_neg h2).trans h1, fun hm  => (nomatch hm), h3, h4⟩
set_option tactic.hygienic false in
theorem To.back (R : HR X g σ s.heap) (t : To (X.sw θ η) noS l (g.still s.heap) s g' s') (R' : HR (X.sw θ η) g' σ' s'.heap) : To X noS l g s (g.back g') s' := ⟨Stp.back R t.st R', t.gens, t.os⟩
set_option tactic.hygienic false in
theorem PX.back {e : Value} (R : HR X g σ s.heap) (fs : FramesOK X g s.heap l) (hk : kx σ = true) (x : PX (X.sw θ η) noS l F (g.still s.heap) s kx' e s') : PX X noS l F g s kx e s' := by
  obtain ⟨T, hT, ⟨⟨g', σ', ea, he, hst, R', ⟨hle, hok, oe, vs, a1, a2, a3, a4, a5⟩, hF, zz⟩, e1, e2⟩⟩ := x
  have nla : ∀ {b : Addr}, s.heap.objs.size ≤ b → b ∉ g.la := fun hb hm  => absurd (R.laLt hm) (Nat.not_lt.mpr hb)
  have bk : ∀ {b : Addr}, b ∉ g.la → g'.Γ b = none → (g.back g').Γ b = none := fun n e  => (if_neg n).trans e
  refine ⟨T, hT, ⟨⟨g.back g', σ, ea, he, Stp.back R hst R', HR.back R hst R', ⟨hle, ⟨bk (nla hle) hok.1, nla hle, hok.2.2⟩, oe, vs, a1, a2, a3, a4, ?_⟩, fs.step (Stp.back R hst R') fun zz zz zz zz z  => z, hk⟩, e1, e2⟩⟩
  cases T with
  | none => exact a5
  | some q =>
    obtain ⟨b1, b2, b3, ⟨b4, zz, b6⟩, b7⟩ := a5
    exact ⟨b1, b2, b3, ⟨bk (nla b3) b4, nla b3, b6⟩, b7⟩
end
end Mine
end
section
open PySem PySem.W PySem.Calls PySem.SeqAt
set_option maxRecDepth 100000
set_option linter.unusedSectionVars false
set_option linter.unusedVariables false
namespace Mine

mutual
noncomputable def nh : PV → Bool
  | .tup xs => nhL xs
  | .hole i => Nat.beq i 0
  | .lst _ => false
  | .dct _ _ => false
  | .clos .. => false
  | _ => true
noncomputable def nhL : List PV → Bool
  | [] => true
  | p :: r => nh p && nhL r
end

set_option tactic.hygienic false in
theorem repV_sw {X : Fix} {θ : Nat → List Nat} {η : Nat → (Addr → Option Obj) → Value → Prop} {g g' : GW} (hθ : θ = X.θ) (hη : η 0 = (X.η 0)) (x : ∀ a o, g.Γ a = some o → g'.Γ a = some o) {v : Value} {p : PV} (r : RepV X g v p) : nh p = true → RepV (X.sw θ η) g' v p := by
  refine @RepV.rec X g (fun v p zz  => nh p = true → RepV (X.sw θ η) g' v p) (fun v p zz  => nhL p = true → RepL (X.sw θ η) g' v p) ?_ ?_ ?_ ?_ ?_ ?_ ?_ ?_ ?_ ?_ ?_ ?_ ?_ v p r
  · intro zz; exact .none
  · intro b zz; exact .bool b
  · intro i t zz; exact .int i t
  · intro r s t e zz; exact .str t (by rw [e]; subst hθ; rfl)
  · intro a vs n ps e zz ih hn; exact .tup (x _ _ e) (ih hn)
  · intro a i e hn; cases hn
  · intro a o e zz; exact .old e
  · intro a o kvs ks vs e h1 h2 h3 h4 zz ih hn; cases hn
  · intro a o kvs ks vs e h1 h2 h3 zz ih hn; cases hn
  · intro a oc od fd osl c co v ag body sc y p e h1 h2 h3 h4 h5 h6 h7 h8 h9 h10 h11 zz ih hn; cases hn
  · intro v Γ₀ i e k hn
    have : i = 0 := Nat.eq_of_beq_eq_true hn
    subst this
    exact .hole 0 (show η 0 Γ₀ v by rw [hη]; exact e) fun a o q  => x _ _ (k a o q)
  · intro zz; exact .nil
  · intro v vs p ps zz zz i1 i2 hn
    obtain ⟨h1, h2⟩ := Bool.and_eq_true_iff.mp (show (nh p && nhL ps) = true from hn)
    exact .cons (i1 h1) (i2 h2)

set_option tactic.hygienic false in
theorem FixOK.sw {X : Fix} (O : FixOK X) {θ : Nat → List Nat} {η : Nat → (Addr → Option Obj) → Value → Prop} (hθ : ∀ i, θ i ≠ [] ∧ (θ i).length ≤ 4096) : FixOK (X.sw θ η) where
  th := hθ
  inK := O.inK
  noP := O.noP
  glob := O.glob
  blt := O.blt
  nolimit := O.nolimit
  nodigits := O.nodigits
  dicts := O.dicts
  code := O.code
  bmain := O.bmain
  gP := O.gP
  sh := O.sh
set_option tactic.hygienic false in
theorem Amb.sw {X X' : Fix} {d : Nat} {A fe outer F c} (am : Amb X d A fe outer F c) : Amb X' d A fe outer F c := ⟨am.fr, am.hd, am.fe, am.fc, am.units, am.depth⟩
noncomputable def Con (X : Fix) (sh : Addr) (g : GW) (n : Nat) (v : Value) (t : List Nat) : Prop :=
  ∀ (θ : Nat → List Nat) (η : Nat → (Addr → Option Obj) → Value → Prop), (∀ i, θ i ≠ [] ∧ (θ i).length ≤ 4096) → ∀ {g' : GW} {σ : Sto} {s : Shared} {A : Around} {fe : Env} {outer : List Env} {F : Addr} {kx : KX} {D : Nat} {tk : Tok} {vc : List Value}, (vc = [v, .int (D : Int) tk] ∨ vc = [v] ∧ D = 0) →
    (∀ a o, g.Γ a = some o → g'.Γ a = some o) → Amb (X.sw θ η) (24 * (n + 1)) A fe outer F fe → HR (X.sw θ η) g' σ s.heap → FramesOK (X.sw θ η) g' s.heap (fe :: outer) → D ≤ 13 → (12 < D + n → kx σ = true) →
    wpAny (model X.prog X.w) A (call (.ref sh) vc) (VG (X.sw θ η) noS (fe :: outer) g' s fun u _ σ' _ => D + n ≤ 12 ∧ σ' = σ ∧ ∃ tk, u = .str (mkS t) tk) (PX (X.sw θ η) noS (fe :: outer) F g' s kx) s
set_option tactic.hygienic false in
theorem Con.mono {X : Fix} {sh : Addr} {g g₁ : GW} {n : Nat} {v : Value} {t : List Nat} (c : Con X sh g n v t) (x : ∀ a o, g.Γ a = some o → g₁.Γ a = some o) : Con X sh g₁ n v t :=
  fun θ η hθ {_ _ _ _ _ _ _ _ _ _ _} hv hx => c θ η hθ hv fun a o e  => hx a o (x a o e)
set_option tactic.hygienic false in
theorem Con.sw {X : Fix} {sh : Addr} {g : GW} {n : Nat} {v : Value} {t : List Nat} {θ : Nat → List Nat} {η : Nat → (Addr → Option Obj) → Value → Prop} : Con (X.sw θ η) sh g n v t ↔ Con X sh g n v t := Iff.rfl
end Mine
end
section
open PySem PySem.W PySem.Calls PySem.SeqAt
set_option maxRecDepth 100000
set_option linter.unusedSectionVars false
set_option linter.unusedVariables false
namespace Mine

/-! the lambda that shows one statement -/
noncomputable def isFnK (K : Frag) (p : PV) (sh : Addr) : Bool := poldK false p fun a => Nat.beq a sh && fnP K (.old a)
noncomputable def isFrK (sc : Scope) (x : Str) : Bool := ifS false (lk x sc.names) isFreeK
set_option tactic.hygienic false in
theorem isFrK_eq {sc : Scope} {x : Str} (h : isFrK sc x = true) : lk x sc.names = some .free := by
  unfold isFrK at h
  refine ifE h fT fun k h  => ?_
  cases k with
  | free => rfl
  | _ => exact absF h
noncomputable def lamBody (K : Frag) (sh : Addr) (ag : Arguments) (body : Expr) (sc : Scope) (x : Str) : Bool :=
  call0K false body fun g as ks _ => nilK false ks (nameK false g fun f _ => twoK false as fun e1 e2 => nameK false e1 fun o _ => binK false e2 fun l op r _ => nameK false l fun dd _ => intK false r fun i _ _ =>
    oneK false (ag.args.map (·.arg)) fun a => ifS false (globP K f) fun pf =>
    eqS o a && eqS dd x && nameOk f && nameOk o && nameOk dd && isGl sc f && isFnK K pf sh && isLc sc o && isFrK sc dd && isAdd op && (i == 1))
noncomputable def lamGood (ag : Arguments) (sc : Scope) : Bool := plainPar ag && distinctS (ag.args.map (·.arg)) && isFun sc && !sc.isCoroutine && !sc.isGenerator && noCells sc && (ag.args.map (·.arg)).all (parKind sc)

set_option tactic.hygienic false in
theorem eqS_self (x : Str) : eqS x x = true := by rw [eqS_iff]; simp
set_option tactic.hygienic false in
theorem eqS_eq {x y : Str} (h : eqS x y = true) : x = y := by rw [eqS_iff] at h; simpa using h
set_option tactic.hygienic false in
theorem lam_eval {K : Frag} {sh : Addr} {ag : Arguments} {body : Expr} {sc : Scope} {x : Str} (h : lamBody K sh ag body sc x = true) {cx : Cx} (hK : cx.T.K = K) {p : PV} {D : Int} {σ : Sto} {k : KV} {kx : KX} :
    ∃ bs, bindP (ag.args.map (·.arg)) [p] = some bs ∧ ∀ n, (lvl cx (n + 3)).ev body { scope := sc, vars := bs, up := [(x, .int D)], lam := true, q := false } σ k kx = cx.orc (.old sh) [p, .int (D + 1)] σ k kx := by
  unfold lamBody at h
  refine call0E h fT fun g as ks p6 h  => nilE h fT fun h  => ?_
  refine nameE h fT fun f p1 h  => twoE h fT fun e1 e2 h  => nameE h fT fun o p2 h  => ?_
  refine binE h fT fun l op r p5 h  => nameE h fT fun dd p3 h  => intE h fT fun i u p4 h  => ?_
  refine oneE h fT fun a h  => ifE' h fT fun pf e7 h  => ?_
  refine band11 h fun h1 h2 h3 h4 h5 h6 h7 h8 h9 h10 h11  => ?_
  clear h
  obtain rfl := eqS_eq h1
  obtain rfl := eqS_eq h2
  obtain rfl := isAdd_eq h10
  obtain rfl := eq_of_beq h11
  have e6 := isGl_eq h6
  have e8 := isLc_eq h8
  have e9 := isFrK_eq h9
  refine ⟨[(o, p)], rfl, fun n  => ?_⟩
  revert e7
  refine poldE h7 fT fun a' h7 e7  => ?_
  refine band2 h7 fun h7 h12  => ?_
  obtain rfl := Nat.eq_of_beq_eq_true h7
  generalize hρ : ({ scope := sc, vars := [(o, p)], up := [(dd, .int D)], lam := true, q := false } : Fr) = ρ
  have n1 : nameP cx f ρ = some (.old a') := by subst hρ; rw [nameP_gl h3 e6, hK]; exact e7
  have n2 : nameP cx o ρ = some p := by subst hρ; rw [nameP_loc h4 e8, lk, if_pos (eqS_self o)]
  have n3 : nameP cx dd ρ = some (.int D) := by subst hρ; rw [nameP_free h5 e9, lk, if_pos (eqS_self dd)]
  clear hρ
  have hf : fnP cx.T.K (.old a') = true := by rw [hK]; exact h12
  have f1 : ∀ m k, (lvl cx (m + 1)).ev (.Name o p2) ρ σ k kx = k p σ := fun m k  => by
    show ifS false (nameP cx o _) (fun p  => k p σ) = _
    rw [n2]; rfl
  have f2 : ∀ m k, (lvl cx (m + 1)).ev (.Name dd p3) ρ σ k kx = k (.int D) σ := fun m k  => by
    show ifS false (nameP cx dd _) (fun p  => k p σ) = _
    rw [n3]; rfl
  have f3 : ∀ m k, (lvl cx (m + 2)).ev (.BinOp (.Name dd p3) .Add (.Constant (.int 1) u p4) p5) ρ σ k kx = k (.int (D + 1)) σ := fun m k  => by
    show (lvl cx (m + 1)).ev (.Name dd p3) _ σ (fun a σ  => (lvl cx (m + 1)).ev (.Constant (.int 1) u p4) _ σ (fun b σ  => binP .Add a b σ k) kx) kx = _
    rw [f2]; rfl
  show (if ([Expr.Name o p2, Expr.BinOp (.Name dd p3) .Add (.Constant (.int 1) u p4) p5]).all noStar = true then (match nameP cx f _ with
    | some c => if fnP cx.T.K c = true then evs (lvl cx (n + 2)) [Expr.Name o p2, Expr.BinOp (.Name dd p3) .Add (.Constant (.int 1) u p4) p5] _ σ (fun ps σ  => cx.orc c ps σ k kx) kx else false
    | none => bltP cx (lvl cx (n + 2)) f _ _ σ k kx) else false) = _
  refine Eq.trans (if_pos (by rfl)) ?_
  rw [n1]
  dsimp only
  rw [if_pos hf]
  show (if noStar (Expr.Name o p2) = true then (lvl cx (n + 2)).ev (.Name o p2) _ σ (fun p' σ  => evs (lvl cx (n + 2)) [Expr.BinOp (.Name dd p3) .Add (.Constant (.int 1) u p4) p5] _ σ (fun ps σ  => (fun ps σ  => cx.orc (.old a') ps σ k kx) (p' :: ps) σ) kx) kx else false) = _
  refine Eq.trans (if_pos (by rfl)) ?_
  rw [f1 (n + 1)]
  show (if noStar (Expr.BinOp (.Name dd p3) .Add (.Constant (.int 1) u p4) p5) = true then (lvl cx (n + 2)).ev _ _ σ (fun p' σ  => evs (lvl cx (n + 2)) [] _ σ (fun ps σ  => _) kx) kx else false) = _
  refine Eq.trans (if_pos (by rfl)) ?_
  rw [f3 n]
  rfl
end Mine
end
section
open PySem PySem.W PySem.Calls PySem.SeqAt
set_option maxRecDepth 100000
set_option linter.unusedSectionVars false
set_option linter.unusedVariables false
namespace Mine

noncomputable def exitP : PV := .tup [.str (codes "exit")]
noncomputable def spA (K : Frag) (sh : Addr) (ok : Bool) : PV → List PV → Option (Sto → KV → KX → Bool) := fun c args => pclosK none c fun ag body sc x p => pholeK none p fun h => if Nat.beq h 1 && lamGood ag sc && lamBody K sh ag body sc x then oneK none args fun q => (match q with
     | .hole i => if Nat.beq i 0 then some (fun σ k kx => if ok then k (.str [symB]) σ else kx σ) else none
     | .tup xs => oneK none xs fun y => pstrK none y fun r => if eqL r (codes "exit") then some (fun σ k kx => k (.str (codes "EXIT")) σ && (ok || kx σ)) else none
     | _ => none) else none
noncomputable def orcI (sh D n : Nat) : Orc := fun f args σ k kx => poldK false f fun a => twoK false args fun p q => pintK false q fun E => Nat.beq a sh && decide (E = (D : Int) + 1) && (match p with
    | .hole i => Nat.beq i 0 && (if D + 1 + n ≤ 12 then k (.str [symB]) σ else kx σ)
    | .tup xs => oneK false xs fun y => pstrK false y fun r => eqL r (codes "exit") && (if D + 1 ≤ 12 then k (.str (codes "EXIT")) σ else kx σ)
    | _ => false)

set_option tactic.hygienic false in
theorem den_sym {θ : Nat → List Nat} : den θ [symB] = θ 0 := by
  show (if isLit symB then [symB] else θ (symB - symB)) ++ [] = θ 0
  rw [List.append_nil, if_neg (by decide), Nat.sub_self]

section
variable {X : Fix} {sh : Addr} {n D : Nat} {v0 : Value} {t0 : List Nat} {tk : Tok}
set_option tactic.hygienic false in
theorem con_call {g : GW} {v : Value} {t : List Nat} (O : FixOK X) (c : Con X sh g n v t) {g' : GW} {σ : Sto} {s : Shared} {A : Around} {fe : Env} {outer : List Env} {F : Addr} {k : KV} {kx : KX} {d : Nat} {tk : Tok} {vc : List Value} {p : PV} (hvc : vc = [v, .int (D : Int) tk] ∨ vc = [v] ∧ D = 0) (hp : ∀ tk g, RepV X g (.str (mkS t) tk) p)
    (hx : ∀ a o, g.Γ a = some o → g'.Γ a = some o) (am : Amb X d A fe outer F fe) (hd : 24 * (n + 1) ≤ d) (R : HR X g' σ s.heap) (fs : FramesOK X g' s.heap (fe :: outer)) (hD : D ≤ 13) (h : (if D + n ≤ 12 then k p σ else kx σ) = true) :
    wpAny (model X.prog X.w) A (call (.ref sh) vc) (VG X noS (fe :: outer) g' s (RV X k)) (PX X noS (fe :: outer) F g' s kx) s := by
  have am' : Amb X (24 * (n + 1)) A fe outer F fe := am.le hd
  refine wpAny_mono (c X.θ X.η O.th (σ := σ) (s := s) (A := A) (kx := kx) (tk := tk) (vc := vc) hvc hx am' R fs hD fun hlt  => ?_) (fun u s' hu  => ?_) fun zz zz q  => q
  · rwa [if_neg (by (with_reducible exact Mine.ar63 (by assumption)))] at h
  · obtain ⟨g₂, σ₂, t₂, R₂, h1, rfl, tk', rfl⟩ := hu
    rw [if_pos h1] at h
    exact ⟨g₂, σ₂, t₂, R₂, p, hp _ _, h⟩
set_option tactic.hygienic false in
theorem orcI_ok (O : FixOK X) (hθ : X.θ 0 = t0) (hη : ∀ Γ v, X.η 0 Γ v → Con X sh ⟨Γ, []⟩ n v t0) (hE : ∀ g v, RepV X g v exitP → Con X sh g 0 v (codes "EXIT")) (hD : D ≤ 12) : OrcOK X (24 * (n + 1)) (orcI sh D n) := by
  intro A fe outer F g σ s v c vs ps k kx am R fs r q h
  unfold orcI at h
  revert r
  refine poldE h fT fun a h r  => ?_
  revert q
  refine twoE h fT fun p y h  => pintE h fT fun E h q  => band3 h fun h1 h2 h4  => ?_
  clear h
  obtain ⟨o, rfl, e⟩ := r.iO
  obtain rfl := Nat.eq_of_beq_eq_true h1
  obtain rfl := of_decide_eq_true h2
  obtain ⟨v1, v2, rfl, q1, q2⟩ := q.two
  obtain ⟨zz, rfl⟩ := q2.iI
  cases p with
  | hole i =>
    refine band2 h4 fun h5 h6  => ?_
    obtain rfl := Nat.eq_of_beq_eq_true h5
    obtain ⟨Γ₀, e3, e4⟩ := q1.iH
    exact con_call (D := D + 1) O (hη _ _ e3) (.inl rfl) (fun tk g  => .str tk (by rw [den_sym, hθ])) e4 am (Nat.le_refl _) R fs (by (with_reducible exact Mine.ar62 (by assumption))) h6
  | tup xs =>
    revert q1
    refine oneE h4 fT fun y h4  => pstrE h4 fT fun r0 h4 q1  => band2 h4 fun h5 h6  => ?_
    obtain rfl := eqL_eq h5
    exact con_call (D := D + 1) O (hE _ _ q1) (.inl rfl) (fun tk g  => .str tk (by rw [den_lit (by decide)])) (fun zz zz e  => e) am (by (with_reducible exact Mine.ar65)) R fs (by (with_reducible exact Mine.ar62 (by assumption))) h6
  | _ => exact absF h4
set_option tactic.hygienic false in
theorem spA_ok (O : FixOK X) (hθ : X.θ 0 = t0) (hη : ∀ Γ v, X.η 0 Γ v → Con X sh ⟨Γ, []⟩ n v t0) (h1 : ∀ Γ v, X.η 1 Γ v → v = .int (D : Int) tk) (hE : ∀ g v, RepV X g v exitP → Con X sh g 0 v (codes "EXIT")) (hD : D ≤ 12) :
    SpOK X (24 * (n + 1) + 1) (spA X.T.K sh (decide (D + 1 + n ≤ 12))) := by
  intro A fe outer F g σ s v c vs ps k kx t am R fs r q hs ht
  unfold spA at hs
  revert r
  refine pclosE hs nS fun ag body sc x p hs  => pholeE hs nS fun hh hs r  => ifB hs nS fun hc hx  => band3 hc fun hc1 hc2 hc3  => ?_
  clear hc hs
  obtain rfl := Nat.eq_of_beq_eq_true hc1
  have r' : RepV X g v (.clos ag body sc x (.int D)) := by
    obtain ⟨a, oc, od, fd, osl, c, co, u, rfl, e⟩ := r.iC
    obtain ⟨zz, e3, e4⟩ := e.e13.iH
    have := h1 _ _ e3
    subst this
    exact .clos e.e1 e.e2 e.e3 e.e4 e.e5 e.e6 e.e7 e.e8 e.e9 e.e10 e.e11 e.e12 (.int _ _)
  have go : ∀ p, orcI sh D n (.old sh) [p, .int ((D : Int) + 1)] σ k kx = true → RepL X g vs [p] → wpAny (model X.prog X.w) A (call v vs) (VG X noS (fe :: outer) g s (RV X k)) (PX X noS (fe :: outer) F g s kx) s := fun p hp q  => by
    obtain ⟨bs, b1, b2⟩ := lam_eval (D := (D : Int)) (p := p) hc3 (cx := ⟨X.T, X.gf, orcI sh D n⟩) rfl (σ := σ) (k := k) (kx := kx)
    exact callClos_ok O (orcI_ok O hθ hη hE hD) am R fs r' hc2 b1 q ((b2 57).trans hp)
  revert q
  refine oneE hx nS fun y hy q  => ?_
  cases y with
  | hole i =>
    refine ifB hy nS fun hi hz  => ?_
    obtain rfl := Option.some.inj hz
    obtain rfl := Nat.eq_of_beq_eq_true hi
    refine go _ ?_ q
    show (Nat.beq sh sh && decide _ && (Nat.beq 0 0 && _)) = true
    rw [Nat.beq_refl, Nat.beq_refl, decide_eq_true rfl]
    simpa using ht
  | tup xs =>
    revert q
    refine oneE hy nS fun y hy  => pstrE hy nS fun rr hy q  => ifB hy nS fun hi hz  => ?_
    obtain rfl := Option.some.inj hz
    refine go _ ?_ q
    show (Nat.beq sh sh && decide _ && (eqL rr (codes "exit") && _)) = true
    rw [Nat.beq_refl, hi, decide_eq_true rfl]
    rw [Bool.and_eq_true, Bool.or_eq_true] at ht
    show (if D + 1 ≤ 12 then _ else _) = true
    split
    · exact ht.1
    · rcases ht.2 with q | q
      · have := of_decide_eq_true q; omega
      · exact q
  | _ => exact absN hy
end
end Mine
end
section
open PySem PySem.W PySem.Calls PySem.SeqAt
set_option maxRecDepth 100000
set_option linter.unusedSectionVars false
set_option linter.unusedVariables false
namespace Mine

structure ShP where
  fd : FuncData
  tst : Expr
  a : List Stmt
  rest : List Stmt
noncomputable def vintV : Value → Option (Int × Tok)
  | .int i t => some (i, t)
  | _ => none
noncomputable def ifStV (e : Stmt) : Option (Expr × List Stmt × List Stmt × Pos) := @Stmt.casesOn (fun _ => Option (Expr × List Stmt × List Stmt × Pos)) e (fun a0 a1 a2 a3 a4 a5 a6 a7 a8 a9 => none) (fun a0 a1 a2 a3 a4 a5 a6 a7 a8 a9 => none) (fun a0 a1 a2 a3 a4 a5 a6 a7 a8 a9 a10 => none) (fun a0 a1 => none) (fun a0 a1 => none) (fun a0 a1 a2 => none) (fun a0 a1 a2 a3 a4 a5 a6 => none) (fun a0 a1 a2 a3 => none) (fun a0 a1 a2 a3 a4 => none) (fun a0 a1 a2 a3 a4 => none) (fun a0 a1 a2 a3 a4 => none) (fun a0 a1 a2 a3 => none) (fun t a b p => some (t, a, b, p)) (fun a0 a1 a2 => none) (fun a0 a1 a2 => none) (fun a0 a1 a2 => none) (fun a0 a1 a2 => none) (fun a0 a1 a2 a3 a4 => none) (fun a0 a1 a2 a3 a4 => none) (fun a0 a1 a2 => none) (fun a0 a1 => none) (fun a0 a1 a2 a3 => none) (fun a0 a1 => none) (fun a0 a1 => none) (fun a0 a1 => none) (fun a0 => none) (fun a0 => none) (fun a0 => none)
theorem ifStV_eq {e : Stmt} {z : (Expr × List Stmt × List Stmt × Pos)} (h : ifStV e = some z) : e = .If z.1 z.2.1 z.2.2.1 z.2.2.2 := @Stmt.casesOn (fun e => ifStV e = some z → e = .If z.1 z.2.1 z.2.2.1 z.2.2.2) e (fun a0 a1 a2 a3 a4 a5 a6 a7 a8 a9 (h : none = some z) => absN h) (fun a0 a1 a2 a3 a4 a5 a6 a7 a8 a9 (h : none = some z) => absN h) (fun a0 a1 a2 a3 a4 a5 a6 a7 a8 a9 a10 (h : none = some z) => absN h) (fun a0 a1 (h : none = some z) => absN h) (fun a0 a1 (h : none = some z) => absN h) (fun a0 a1 a2 (h : none = some z) => absN h) (fun a0 a1 a2 a3 a4 a5 a6 (h : none = some z) => absN h) (fun a0 a1 a2 a3 (h : none = some z) => absN h) (fun a0 a1 a2 a3 a4 (h : none = some z) => absN h) (fun a0 a1 a2 a3 a4 (h : none = some z) => absN h) (fun a0 a1 a2 a3 a4 (h : none = some z) => absN h) (fun a0 a1 a2 a3 (h : none = some z) => absN h) (fun t a b p (h : some (t, a, b, p) = some z) => Option.some.inj h ▸ rfl) (fun a0 a1 a2 (h : none = some z) => absN h) (fun a0 a1 a2 (h : none = some z) => absN h) (fun a0 a1 a2 (h : none = some z) => absN h) (fun a0 a1 a2 (h : none = some z) => absN h) (fun a0 a1 a2 a3 a4 (h : none = some z) => absN h) (fun a0 a1 a2 a3 a4 (h : none = some z) => absN h) (fun a0 a1 a2 (h : none = some z) => absN h) (fun a0 a1 (h : none = some z) => absN h) (fun a0 a1 a2 a3 (h : none = some z) => absN h) (fun a0 a1 (h : none = some z) => absN h) (fun a0 a1 (h : none = some z) => absN h) (fun a0 a1 (h : none = some z) => absN h) (fun a0 (h : none = some z) => absN h) (fun a0 (h : none = some z) => absN h) (fun a0 (h : none = some z) => absN h) h
noncomputable def dfl0 (K : Frag) (fd : FuncData) : Bool := ifS false (refV fd.defaults) fun t => ifS false (K.lookup t) fun o => ifS false (seqV o) fun vs => oneK false vs.1.toList fun v => ifS false (vintV v) fun i => i.1 == 0
noncomputable def args2 (fd : FuncData) : Bool := twoK false (fd.params.args.map (·.arg)) fun x y => !eqS x y
noncomputable def shParts (K : Frag) (sh : Addr) : Option ShP := ifS none (K.lookup sh) fun o => ifS none (funV o) fun fd => ifS none (stmtsV fd.body) fun l => consK none l fun st rest => ifS none (ifStV st) fun z => nilK none z.2.2.1 (if fnOk K fd && dfl0 K fd && args2 fd then some ⟨fd, z.1, z.2.1, rest⟩ else none)
set_option tactic.hygienic false in
theorem shParts_ok {K : Frag} {sh : Addr} {S : ShP} (h : shParts K sh = some S) : ∃ o pos, K.lookup sh = some o ∧ o.data = .func S.fd ∧ fnOk K S.fd = true ∧ S.fd.body = .stmts (.If S.tst S.a [] pos :: S.rest) ∧ dfl0 K S.fd = true ∧ args2 S.fd = true := by
  unfold shParts at h
  refine ifE' h nS ?_; clear h; intro o ho h; refine ifE' h nS ?_; clear h; intro fd hf h; refine ifE' h nS ?_; clear h; intro l hl h
  have hb := stmtsV_eq hl
  revert hb
  refine consE h nS ?_; clear h; intro st rest h; refine ifE' h nS ?_; clear h; intro z hz h hb
  rw [ifStV_eq hz] at hb
  revert hb
  refine nilE h nS ?_; clear h; intro h hb; refine ifB h nS ?_; clear h; intro e3 hx; refine band3 e3 ?_; clear e3; intro e3 e4 e5
  obtain rfl := Option.some.inj hx
  obtain ⟨c, d, sl, rfl⟩ := funV_eq hf
  exact ⟨_, _, ho, rfl, e3, hb, e4, e5⟩
noncomputable def argsOf (fd : FuncData) : List Str := fd.params.args.map (·.arg)
noncomputable def frK (T : Top) (fd : FuncData) (bs : List (Str × PV)) : Fr := { scope := fd.scope, vars := bs, up := [], lam := lamOf fd.scope (argsOf fd), q := Nat.beq T.sh T.sh }
noncomputable def restRun (T : Top) (gf : Addr) (sp : PV → List PV → Option (Sto → KV → KX → Bool)) (p : PV) (k : KF) (kx : KX) : Bool := match shParts T.K T.sh with
  | some S => (match bindP (argsOf S.fd) [p, .hole 1] with
    | some bs => execs (lvl ⟨T, gf, tower T gf sp 20⟩ lvlMax) S.rest (frK T S.fd bs) [] k kx
    | none => false)
  | none => false
noncomputable def headRun (T : Top) (gf : Addr) (D : Nat) : Bool := match shParts T.K T.sh with
  | some S => (match bindP (argsOf S.fd) [.hole 2, .int (D : Int)] with
    | some bs => (lvl ⟨T, gf, tower T gf (fun _ _ => none) 20⟩ lvlMax).tr S.tst (frK T S.fd bs) [] (fun b σ => σ.isEmpty && (b == Nat.blt 12 D)) (fun _ => false) &&
        (Nat.ble D 12 || execs (lvl ⟨T, gf, tower T gf (fun _ _ => none) 20⟩ lvlMax) S.a (frK T S.fd bs) [] (fun _ _ _ => false) (fun _ => true))
    | none => false)
  | none => false
noncomputable def kS (ok : Bool) (r' : List Nat) : KF := fun fl _ _ => match fl with
  | .ret p => (match p with | .str r => ok && eqL r r' | _ => false)
  | _ => false
noncomputable def kxS (ok : Bool) : KX := fun _ => !ok
noncomputable def kV (ok : Bool) (r' : List Nat) : KV := fun p _ => match p with
  | .str r => ok && eqL r r'
  | _ => false

set_option tactic.hygienic false in
theorem bindP_len : ∀ {xs : List Str} {ps : List PV} {bs : List (Str × PV)}, bindP xs ps = some bs → xs.length = ps.length
  | [], [], _, _ => rfl
  | x :: xs, p :: ps, bs, h => by
    dsimp only [bindP] at h
    cases hr : bindP xs ps with
    | none => rw [hr] at h; cases h
    | some r => rw [List.length_cons, List.length_cons, bindP_len hr]
  | [], _ :: _, _, h => by cases h
  | _ :: _, [], _, h => by cases h
set_option tactic.hygienic false in
theorem spNone_ok {X : Fix} {b : Nat} : SpOK X b (fun zz zz  => none) := fun {_ _ _ _ _ _ _ _ _ _ _ _ _ _} _ _ _ _ _ h => by cases h
set_option tactic.hygienic false in
theorem dfl0_ok {K : Frag} {fd : FuncData} (h : dfl0 K fd = true) : ∃ t o n tk, fd.defaults = .ref t ∧ K.lookup t = some o ∧ o.data = .seq #[.int 0 tk] n := by
  refine ifE' h fT ?_; clear h; intro t et h; refine ifE' h fT ?_; clear h; intro o ho h; refine ifE' h fT ?_; clear h; intro vs hv h
  obtain ⟨c, d, dt, sl⟩ := o
  cases dt with
  | seq us n =>
    obtain rfl := Option.some.inj hv
    obtain ⟨l⟩ := us
    revert ho
    refine oneE (l := l) h fT fun v h ho  => ?_
    refine ifE' h fT ?_; clear h; intro i hi h
    cases v with
    | int i tk =>
      obtain rfl := Option.some.inj hi
      obtain rfl : i = 0 := eq_of_beq h
      exact ⟨t, _, n, tk, refV_eq et, ho, rfl⟩
    | _ => exact absN hi
  | _ => exact absN hv
set_option tactic.hygienic false in
theorem args2_ok {fd : FuncData} (h : args2 fd = true) : ∃ x y, fd.params.args.map (·.arg) = [x, y] ∧ x ≠ y := by
  unfold args2 at h
  refine twoE h fT fun x y h  => ⟨x, y, rfl, fun q  => ?_⟩
  subst q
  rw [eqS_self] at h; exact absF h
structure WorldOK (X : Fix) (D : Nat) (tk : Tok) : Prop where
  h1 : ∀ v Γ, v = .int (D : Int) tk → X.η 1 Γ v
  h2 : ∀ v Γ, X.η 2 Γ v

theorem con_gen {X : Fix} (O : FixOK X) {G : GfD} (hG : GfOK X.B X.gf G) (hHead : ∀ D, D ≤ 13 → headRun X.T X.gf D = true) {g₁ : GW} {v' : Value} {N : Nat} {t' : List Nat}
    (h : ∀ D tk, D ≤ 13 → ∃ θ η, (∀ i, θ i ≠ [] ∧ (θ i).length ≤ 4096) ∧ WorldOK (X.sw θ η) D tk ∧ (D ≤ 12 → ∃ sp p' r', SpOK (X.sw θ η) (24 * N + 3) sp ∧ (∀ g' : GW, (∀ a o, g₁.Γ a = some o → g'.Γ a = some o) → RepV (X.sw θ η) g' v' p') ∧
      restRun X.T X.gf sp p' (kS (decide (D + N ≤ 12)) r') (kxS (decide (D + N ≤ 12))) = true ∧ den θ r' = t')) : Con X X.T.sh g₁ N v' t' := by
  intro θ η hθ g' σ s A fe outer F kx D tk0 vc hvc hext am R fs hD hkx
  have hS0 : ∃ S, shParts X.T.K X.T.sh = some S := by
    have := hHead D hD
    unfold headRun at this
    split at this
    · exact ⟨_, by assumption⟩
    · cases this
  have htk : ∃ tk, ∀ S, shParts X.T.K X.T.sh = some S → ∀ {M : Model} {A : Around} {E : Value → Shared → Prop} {Q : List (Str × Value) → Shared → Prop}, Q ((S.fd.params.args.map (·.arg)).zip [v', .int (D : Int) tk]) s → wpAny M A (bindArgs S.fd ⟨vc, []⟩) Q E s := by
    obtain ⟨S, hS⟩ := hS0
    obtain ⟨o, pos, hK, ho, hf, hb, hd0, ha2⟩ := shParts_ok hS
    obtain ⟨x, y, hxy, hne⟩ := args2_ok ha2
    rcases hvc with rfl | ⟨rfl, rfl⟩
    · refine ⟨tk0, fun S' hS' {_ _ _ _} q => ?_⟩
      rw [hS] at hS'; cases hS'
      exact bind_given (X := X.sw θ η) (O.sw hθ) R hf (by rw [hxy]; rfl) q
    · obtain ⟨t, od, n, tk, e1, e2, e3⟩ := dfl0_ok hd0
      refine ⟨tk, fun S' hS' {_ _ _ _} q => ?_⟩
      rw [hS] at hS'; cases hS'
      rw [hxy] at q
      refine bind_dflt (by unfold fnOk at hf; simp only [Bool.and_eq_true] at hf; exact hf.1.1.1.1.1.1.1.1.1.1) hxy hne e1 (R.frz _ _ (R.base _ _ (O.inK _ _ e2))) e3 q
  obtain ⟨tk, hbd⟩ := htk
  obtain ⟨θ₂, η₂, hθ₂, hW, hrest⟩ := h D tk hD
  have hr : ∃ sp p' r', D ≤ 12 → SpOK (X.sw θ₂ η₂) (24 * N + 3) sp ∧ (∀ g' : GW, (∀ a o, g₁.Γ a = some o → g'.Γ a = some o) → RepV (X.sw θ₂ η₂) g' v' p') ∧
      restRun X.T X.gf sp p' (kS (decide (D + N ≤ 12)) r') (kxS (decide (D + N ≤ 12))) = true ∧ den θ₂ r' = t' := by
    by_cases hle : D ≤ 12
    · obtain ⟨sp, p', r', q⟩ := hrest hle; exact ⟨sp, p', r', fun zz  => q⟩
    · exact ⟨fun zz zz  => none, .none, [], fun q  => absurd q hle⟩
  obtain ⟨sp, p', r', hr⟩ := hr
  have O₂ : FixOK (X.sw θ₂ η₂) := O.sw hθ₂
  have hG₂ : GfOK (X.sw θ₂ η₂).B (X.sw θ₂ η₂).gf G := hG
  have R₂ : HR (X.sw θ₂ η₂) (g'.still s.heap) [] s.heap := HR.still (X := X.sw θ η) (θ := θ₂) (η := η₂) R
  have fs₂ : FramesOK (X.sw θ₂ η₂) (g'.still s.heap) s.heap (fe :: outer) := FramesOK.still (X := X.sw θ η) (θ := θ₂) (η := η₂) fs
  have hRa : ∀ d, RaiseOK (X.sw θ₂ η₂) d := raise_ok O₂ hG₂
  have hh := hHead D hD
  unfold headRun at hh
  split at hh
  · rename_i S hS
    obtain ⟨o, pos, hK, ho, hf, hb, zz, zz⟩ := shParts_ok hS
    split at hh
    · rename_i bs1 hb1
      refine band2 hh fun hh1 hh2  => ?_; clear hh
      have am₂ : Amb (X.sw θ₂ η₂) (24 * N + 23 + 1) A fe outer F fe := ⟨am.fr, am.hd, am.fe, am.fc, am.units, am.depth⟩
      have hext' : ∀ a o, g₁.Γ a = some o → (g'.still s.heap).Γ a = some o := fun a o e  => (still_old R (hext a o e)).1
      have orc0 : OrcOK (X.sw θ₂ η₂) (24 * N + 3 + 20) (tower X.T X.gf (fun zz zz  => none) 20) := tower_ok O₂ hRa (b := 24 * N + 3) spNone_ok 20
      have key := callDef_genB O₂ (d := 24 * N + 23) (k := kV (decide (D + N ≤ 12)) r') (kx := kxS (decide (D + N ≤ 12))) am₂ R₂ fs₂ (a := X.T.sh) (vs := [v', .int (D : Int) tk]) hK ho hf hb (by rw [show S.fd.params.args.map (·.arg) = argsOf S.fd from rfl, bindP_len hb1]; rfl) (hbd S hS) ?_
      · refine wpAny_mono key (fun u s' hu  => ?_) fun e s' q  => PX.back (X := X.sw θ η) R fs ?_ q
        · obtain ⟨g₂, σ₂, t₂, R', p, rp, hk⟩ := hu
          unfold kV at hk
          split at hk
          · rename_i r
            rw [Bool.and_eq_true, decide_eq_true_eq] at hk
            obtain ⟨hk1, hk2⟩ := hk
            have e1 := eqL_eq hk2
            have e2 := (hr (by (with_reducible exact Mine.ar66 (by assumption)))).2.2.2
            refine ⟨g'.back g₂, σ, To.back (X := X.sw θ η) R t₂ R', HR.back (X := X.sw θ η) R t₂.st R', hk1, rfl, ?_⟩
            obtain ⟨t, e⟩ := rp.iS
            · refine ⟨t, ?_⟩
              rw [e, e1]
              exact congrArg (fun z  => Value.str (mkS z) t) e2
          · cases hk
        · obtain ⟨zz, zz, ⟨⟨zz, zz, zz, zz, zz, zz, zz, zz, hq⟩, zz, zz⟩⟩ := q
          refine hkx ?_
          have : (!decide (D + N ≤ 12)) = true := hq
          simpa using this
      · intro A₁ env F₁ g₂ s₂ am₁ t₁ mk
        have q1 : RepL (X.sw θ₂ η₂) (g'.still s.heap) [v', .int (D : Int) tk] [.hole 2, .int (D : Int)] := .cons (.hole (Γ₀ := fun zz  => none) 2 (hW.h2 _ _) fun zz zz e  => nomatch e) (.cons (.int _ _) .nil)
        have w1 : Wh (X.sw θ₂ η₂) (frK X.T S.fd bs1) env (env :: fe :: outer) g₂ [] s₂ := mk _ _ hb1 q1
        have H0 : LvOK (X.sw θ₂ η₂) (24 * N + 23) (lvl ⟨X.T, X.gf, tower X.T X.gf (fun zz zz  => none) 20⟩ lvlMax) := lvl_ok O₂ rfl orc0 lvlMax
        have H1 : ExOK (X.sw θ₂ η₂) (24 * N + 23) (lvl ⟨X.T, X.gf, tower X.T X.gf (fun zz zz  => none) 20⟩ lvlMax) := lvlX_ok O₂ (hRa _) rfl rfl orc0 lvlMax
        have T0 := H0.tr am₁ w1 _ _ _ hh1
        rw [arm_execs_cons, arm_exec_If]
        refine wpAny_bind (wpAny_bind (wpAny_standAt (wpAny_bind (noE (vgo (wpAny_mono T0 (fun zz zz q  => q) fun zz zz q  => ?_) fun b g₃ σ₃ s₃ t₃ R₃ hk  => ?_)))))
        · obtain ⟨zz, zz, ⟨⟨zz, zz, zz, zz, zz, zz, zz, zz, hq⟩, zz, zz⟩⟩ := q
          cases hq
        · have hk' : (σ₃.isEmpty && (b == Nat.blt 12 D)) = true := hk
          rw [Bool.and_eq_true] at hk'
          obtain ⟨hk1, hk2⟩ := hk'
          have e1 : σ₃ = [] := by simpa using hk1
          have e2 : b = Nat.blt 12 D := by simpa using hk2
          subst e1
          cases b with
          | true =>
            have hlt : 12 < D := Nat.le_of_ble_eq_true e2.symm
            have hh3 : Mine.execs (lvl ⟨X.T, X.gf, tower X.T X.gf (fun zz zz  => none) 20⟩ lvlMax) S.a (frK X.T S.fd bs1) [] (fun zz zz zz  => false) (kxS (decide (D + N ≤ 12))) = true := by
              rw [Bool.or_eq_true] at hh2
              rcases hh2 with q | q
              · exact absurd (Nat.le_of_ble_eq_true q) (by (with_reducible exact Mine.ar63 (by assumption)))
              · have : kxS (decide (D + N ≤ 12)) = fun zz  => true := by
                  funext z
                  show (!decide (D + N ≤ 12)) = true
                  rw [decide_eq_false (by (with_reducible exact Mine.ar67 (by assumption)))]; rfl
                rw [this]; exact q
            have w3 := w1.step t₃ R₃
            refine wpAny_mono (execs_ok H1 am₁ S.a w3 hh3) (fun f s₄ ⟨_, _, _, _, _, _, _, _, _, q⟩ => by cases q) fun e s₄ q  => q.base t₃.noW
          | false =>
            have hle : D ≤ 12 := by
              have := e2.symm
              by_cases h : D ≤ 12
              · exact h
              · have h2 : Nat.blt 12 D = true := Nat.ble_eq_true_of_le (by (with_reducible exact Mine.ar68 (by assumption)))
                rw [h2] at this; cases this
            obtain ⟨hsp, hrep, hrun, zz⟩ := hr hle
            have orc1 : OrcOK (X.sw θ₂ η₂) (24 * N + 3 + 20) (tower X.T X.gf sp 20) := tower_ok O₂ hRa hsp 20
            have H2 : ExOK (X.sw θ₂ η₂) (24 * N + 23) (lvl ⟨X.T, X.gf, tower X.T X.gf sp 20⟩ lvlMax) := lvlX_ok O₂ (hRa _) rfl rfl orc1 lvlMax
            unfold restRun at hrun
            rw [hS] at hrun
            dsimp only at hrun
            split at hrun
            · rename_i bs2 hb2
              have q2 : RepL (X.sw θ₂ η₂) (g'.still s.heap) [v', .int (D : Int) tk] [p', .hole 1] := .cons (hrep _ hext') (.cons (.hole (Γ₀ := fun zz  => none) 1 (hW.h1 _ _ rfl) fun zz zz e  => nomatch e) .nil)
              have w2 : Wh (X.sw θ₂ η₂) (frK X.T S.fd bs2) env (env :: fe :: outer) g₂ [] s₂ := mk _ _ hb2 q2
              have w4 := w2.step t₃ R₃
              show wpAny _ _ (PySem.execs [] env) _ _ _
              rw [arm_execs_nil]
              refine wpAny_pure ?_
              show wpAny _ _ (PySem.execs S.rest env) _ _ _
              refine wpAny_mono (execs_ok H2 am₁ S.rest w4 hrun) (fun f s₄ ⟨g₄, σ₄, ρ₄, fp, t₄, R₄, _, _, hfl, hk⟩ => ?_) fun e s₄ q  => q.base t₃.noW
              cases fp with
              | next => cases hk
              | ret p =>
                cases f with
                | ret v =>
                  exact ⟨g₄, σ₄, t₃.noW.trans t₄, R₄, p, hfl, hk, rfl⟩
                | next => exact hfl.elim
                | brk => exact hfl.elim
                | cont => exact hfl.elim
            · cases hrun
    · cases hh
  · cases hh
end Mine
end
section
open PySem PySem.W PySem.Calls PySem.SeqAt
set_option maxRecDepth 100000
set_option linter.unusedSectionVars false
set_option linter.unusedVariables false
namespace Mine

mutual
noncomputable def pu : PV → Bool
  | .tup xs => puL xs
  | .str r => litR r
  | .hole _ => false
  | .lst _ => false
  | .dct _ _ => false
  | .clos .. => false
  | _ => true
noncomputable def puL : List PV → Bool
  | [] => true
  | p :: r => pu p && puL r
end
set_option tactic.hygienic false in
theorem repV_pu {X : Fix} {θ : Nat → List Nat} {η : Nat → (Addr → Option Obj) → Value → Prop} {g g' : GW} (x : ∀ a o, g.Γ a = some o → g'.Γ a = some o) {v : Value} {p : PV} (r : RepV X g v p) : pu p = true → RepV (X.sw θ η) g' v p := by
  refine @RepV.rec X g (fun v p zz  => pu p = true → RepV (X.sw θ η) g' v p) (fun v p zz  => puL p = true → RepL (X.sw θ η) g' v p) ?_ ?_ ?_ ?_ ?_ ?_ ?_ ?_ ?_ ?_ ?_ ?_ ?_ v p r
  · intro zz; exact .none
  · intro b zz; exact .bool b
  · intro i t zz; exact .int i t
  · intro r s t e hl; exact .str t (by rw [e, den_lit hl, den_lit hl])
  · intro a vs n ps e zz ih hn; exact .tup (x _ _ e) (ih hn)
  · intro a i e hn; cases hn
  · intro a o e zz; exact .old e
  · intro a o kvs ks vs e h1 h2 h3 h4 zz ih hn; cases hn
  · intro a o kvs ks vs e h1 h2 h3 zz ih hn; cases hn
  · intro a oc od fd osl c co v ag body sc y p e h1 h2 h3 h4 h5 h6 h7 h8 h9 h10 h11 zz ih hn; cases hn
  · intro v Γ₀ i e k hn; cases hn
  · intro zz; exact .nil
  · intro v vs p ps zz zz i1 i2 hn
    obtain ⟨h1, h2⟩ := Bool.and_eq_true_iff.mp (show (pu p && puL ps) = true from hn)
    exact .cons (i1 h1) (i2 h2)

noncomputable def ηD (η0 : (Addr → Option Obj) → Value → Prop) (D : Nat) (tk : Tok) : Nat → (Addr → Option Obj) → Value → Prop := fun i Γ v => if i = 0 then η0 Γ v else if i = 1 then v = .int (D : Int) tk else True
set_option tactic.hygienic false in
theorem ηD_world {X : Fix} {θ : Nat → List Nat} {η0 : (Addr → Option Obj) → Value → Prop} {D : Nat} {tk : Tok} : WorldOK (X.sw θ (ηD η0 D tk)) D tk := ⟨fun v Γ h  => h, fun v Γ  => trivial⟩

set_option tactic.hygienic false in
theorem con_leaf {X : Fix} (O : FixOK X) {G : GfD} (hG : GfOK X.B X.gf G) (hHead : ∀ D, D ≤ 13 → headRun X.T X.gf D = true) {g : GW} {v : Value} {p r : _} (hv : RepV X g v p) (hp : pu p = true) (hr : litR r = true)
    (run : restRun X.T X.gf (fun zz zz  => none) p (kS true r) (kxS true) = true) : Con X X.T.sh g 0 v r := by
  refine con_gen O hG hHead fun D tk hD  => ⟨X.θ, ηD (fun zz zz  => True) D tk, O.th, ηD_world, fun hle  => ⟨_, p, r, spNone_ok, fun g' hx  => repV_pu hx hv hp, ?_, den_lit hr⟩⟩
  rw [decide_eq_true (show D + 0 ≤ 12 from hle)]
  exact run
noncomputable def goodP (T : Top) (gf : Addr) (p : PV) (r : List Nat) : Bool := nh p && restRun T gf (spA T.K T.sh true) p (kS true r) (kxS true) && restRun T gf (spA T.K T.sh false) p (kS false r) (kxS false)
set_option tactic.hygienic false in
theorem SpOK.le {X : Fix} {b b' : Nat} {sp : PV → List PV → Option (Sto → KV → KX → Bool)} (h : SpOK X b sp) (hb : b ≤ b') : SpOK X b' sp := by
  intro A fe outer F g σ s v c vs ps k kx t am R fs r q hs ht
  exact h (am.le hb) R fs r q hs ht
set_option tactic.hygienic false in
theorem con_step {X : Fix} (O : FixOK X) {G : GfD} (hG : GfOK X.B X.gf G) (hHead : ∀ D, D ≤ 13 → headRun X.T X.gf D = true) (hE : ∀ θ η g v, RepV (X.sw θ η) g v exitP → Con X X.T.sh g 0 v (codes "EXIT"))
    {θ₁ : Nat → List Nat} {η₁ : Nat → (Addr → Option Obj) → Value → Prop} (hθ : ∀ i, θ₁ i ≠ [] ∧ (θ₁ i).length ≤ 4096) {n : Nat} (hη : ∀ Γ v, η₁ 0 Γ v → Con X X.T.sh ⟨Γ, []⟩ n v (θ₁ 0))
    {g : GW} {v : Value} {p : PV} {r : List Nat} (hv : RepV (X.sw θ₁ η₁) g v p) (h : goodP X.T X.gf p r = true) : Con X X.T.sh g (n + 1) v (den θ₁ r) := by
  unfold goodP at h
  refine band3 h fun hn h1 h0  => ?_; clear h
  refine con_gen O hG hHead fun D tk hD  => ⟨θ₁, ηD (η₁ 0) D tk, hθ, ηD_world, fun hle  => ⟨spA X.T.K X.T.sh (decide (D + 1 + n ≤ 12)), p, r, ?_, fun g' hx  => repV_sw (X := X.sw θ₁ η₁) (θ := θ₁) (η := ηD (η₁ 0) D tk) rfl rfl hx hv hn, ?_, rfl⟩⟩
  · exact SpOK.le (spA_ok (X := X.sw θ₁ (ηD (η₁ 0) D tk)) (n := n) (D := D) (tk := tk) (O.sw hθ) rfl (fun Γ v hh  => hη Γ v hh) (fun Γ v hh  => hh) (fun g v hh  => hE _ _ g v hh) hle) (by (with_reducible exact Mine.ar69))
  · have e : decide (D + 1 + n ≤ 12) = decide (D + (n + 1) ≤ 12) := decide_eq_decide.mpr (by (with_reducible exact Mine.ar70))
    rw [e]
    cases decide (D + (n + 1) ≤ 12) with
    | true => exact h1
    | false => exact h0
end Mine
end
section
open PySem PySem.W PySem.Calls PySem.SeqAt
set_option maxRecDepth 100000
set_option linter.unusedSectionVars false
set_option linter.unusedVariables false
namespace Mine
noncomputable def Keep (X : Fix) (g : GW) (s : Shared) (g' : GW) (s' : Shared) : Prop := ∀ b o, s.heap.get? b = some o → (∀ es n, o.data ≠ .dict es n) → (∀ v, o.data ≠ .cell v) → Own X g b → s'.heap.get? b = some o ∧ Own X g' b
set_option tactic.hygienic false in
theorem Keep.refl {X : Fix} {g : GW} {s : Shared} : Keep X g s g s := fun zz zz e zz zz o  => ⟨e, o⟩
set_option tactic.hygienic false in
theorem Keep.trans {X : Fix} {g g₁ g₂ : GW} {s s₁ s₂ : Shared} (x : Keep X g s g₁ s₁) (y : Keep X g₁ s₁ g₂ s₂) : Keep X g s g₂ s₂ := fun b o e h1 h2 h3  =>
  let ⟨e', h3'⟩ := x b o e h1 h2 h3; y b o e' h1 h2 h3'
set_option tactic.hygienic false in
theorem keep_of {X : Fix} {S : Addr → Prop} {l : List Env} {g g' : GW} {s s' : Shared} (t : To X S l g s g' s') (fs : FramesOK X g s.heap l) (hS : ∀ b, S b → ∀ o, s.heap.get? b = some o → (∃ es n, o.data = .dict es n) ∨ ∃ v, o.data = .cell v) : Keep X g s g' s' := by
  intro b o e h1 h2 h3
  have nS : ¬ S b := fun q  => by
    rcases hS b q o e with ⟨es, n, q⟩ | ⟨v, q⟩
    · exact h1 _ _ q
    · exact h2 _ q
  refine ⟨t.kept h3 nS (fun q  => ?_) o e, h3.step t.st e⟩
  obtain ⟨zz, zz, zz, o', e', es, n, q'⟩ := fs.mem q
  rw [e] at e'; cases e'
  exact h1 _ _ q'
set_option tactic.hygienic false in
theorem ws_data {X : Fix} {ρ : Fr} {c : Env} {g : GW} {h : Heap} (fr : FrR X g ρ c h) : ∀ b, WS ρ c b → ∀ o, h.get? b = some o → (∃ es n, o.data = .dict es n) ∨ ∃ v, o.data = .cell v := by
  rintro b (rfl | ⟨zz, z, hz, hc⟩) o e
  · obtain ⟨m, ⟨o', es, ep, e1, e2, zz⟩, zz⟩ := fr.loc
    rw [e] at e1; cases e1
    exact .inl ⟨es, ep, e2⟩
  · obtain ⟨⟨v, oc, e2, e3⟩, zz⟩ := fr.all z b hc
    rw [e] at e2; cases e2
    exact .inr ⟨v, e3⟩
set_option tactic.hygienic false in
theorem keep_ws {X : Fix} {ρ : Fr} {c : Env} {l : List Env} {g g' : GW} {σ : Sto} {s s' : Shared} (w : Wh X ρ c l g σ s) (t : To X (WS ρ c) l g s g' s') : Keep X g s g' s' := keep_of t w.fs (ws_data w.fr)

/-! the law's own worlds -/
noncomputable def ηL (X : Fix) (n : Nat) (t : List Nat) (u : Nat) : Nat → (Addr → Option Obj) → Value → Prop := fun i Γ v => if i = 0 then Con X X.T.sh ⟨Γ, []⟩ n v t else if i = 1 then ∃ tk, v = .int ((n : Int) + 1) tk else if i = 2 then ∃ tk, v = .int (n : Int) tk else if i = 3 then ∃ a tk, v = .int a tk else
  if i = 4 then ∃ c tk, v = .int c tk ∧ 0 ≤ c ∧ c < 999979 else ∃ b tk, v = .int b tk ∧ 0 ≤ b ∧ b ≤ 1000 * (u : Int) + (i : Int)
noncomputable def XL (X : Fix) (n : Nat) (t : List Nat) (u : Nat) : Fix := X.sw (fun _ => t) (ηL X n t u)
noncomputable def PenW (X : Fix) (u : Nat) : Prop := ∀ i, 3 ≤ i → ∀ Γ v, X.η i Γ v → if i = 3 then ∃ a tk, v = .int a tk else if i = 4 then ∃ c tk, v = .int c tk ∧ 0 ≤ c ∧ c < 999979 else ∃ b tk, v = .int b tk ∧ 0 ≤ b ∧ b ≤ 1000 * (u : Int) + (i : Int)
set_option tactic.hygienic false in
theorem penW_XL {X : Fix} {n : Nat} {t : List Nat} {u : Nat} : PenW (XL X n t u) u := fun i hi Γ v h  => by
  have h' : ηL X n t u i Γ v := h
  unfold ηL at h'
  rwa [if_neg (by (with_reducible exact Mine.ar71 (by assumption))), if_neg (by (with_reducible exact Mine.ar72 (by assumption))), if_neg (by (with_reducible exact Mine.ar73 (by assumption)))] at h'
noncomputable def penP (τ : Nat) : List PV := [.hole 3, .hole τ, .hole 4]
abbrev nPen : Str := Str.ofString "pen"
abbrev nStm : Str := Str.ofString "statement"
abbrev nWds : Str := Str.ofString "words"
noncomputable def lawVars (ex : List (Str × PV)) : List (Str × PV) := (nPen, .lst 0) :: (nStm, .hole 0) :: (nWds, .str [symB]) :: ex
structure LawFr where
  sc : Scope
  lm : Bool
  q : Bool
noncomputable def LawFr.fr (L : LawFr) (vs : List (Str × PV)) : Fr := { scope := L.sc, vars := vs, up := [], lam := L.lm, q := L.q }
noncomputable def LS (X : Fix) (L : LawFr) (c : Env) (l : List Env) (n u : Nat) (ex : List (Str × PV)) (g : GW) (s : Shared) : Prop :=
  ∃ t, t ≠ [] ∧ t.length ≤ 8 + 80 * n ∧ Wh (XL X n t u) (L.fr (lawVars ex)) c l g [penP 5] s

structure ScOK (sc : Scope) : Prop where
  noCell : ∀ x k, lk x sc.names = some k → k ≠ .cell ∧ k ≠ .free
  pen : lk nPen sc.names = some .local
  stm : lk nStm sc.names = some .local
  wds : lk nWds sc.names = some .local

set_option tactic.hygienic false in
theorem repL_pen {X X₀ : Fix} {g g' : GW} {τ u u' n : Nat} {t : List Nat} (hτ : 5 ≤ τ) (h : PenW X₀ u) (hu : 1000 * u + τ ≤ 1000 * u' + 5) (x : ∀ a o, g.Γ a = some o → g'.Γ a = some o) {vs : List Value} (r : RepL X₀ g vs (penP τ)) : RepL (XL X n t u') g' vs (penP 5) := by
  obtain ⟨zz, zz, zz, rfl, ra, rb, rc⟩ := r.three
  obtain ⟨zz, ea, -⟩ := ra.iH
  obtain ⟨zz, eb, -⟩ := rb.iH
  obtain ⟨zz, ec, -⟩ := rc.iH
  clear ra rb rc r
  · · · · · · have ha := h 3 (by decide) _ _ ea
              have hb := h τ (by (with_reducible exact Mine.ar74 (by assumption))) _ _ eb
              have hc := h 4 (by decide) _ _ ec
              rw [if_pos rfl] at ha
              rw [if_neg (by (with_reducible exact Mine.ar75 (by assumption))), if_neg (by (with_reducible exact Mine.ar76 (by assumption)))] at hb
              rw [if_neg (by decide), if_pos rfl] at hc
              obtain ⟨b, tk, rfl, hb1, hb2⟩ := hb
              have hb' : ηL X n t u' 5 (fun zz  => none) (.int b tk) := ⟨b, tk, rfl, hb1, by show b ≤ 1000 * (u' : Int) + ((5 : Nat) : Int); (with_reducible exact Mine.ar82 (by assumption) (by assumption))⟩
              have ha' : ηL X n t u' 3 (fun zz  => none) _ := ha
              have hc' : ηL X n t u' 4 (fun zz  => none) _ := hc
              exact .cons (.hole (Γ₀ := fun zz  => none) 3 ha' fun zz zz e  => nomatch e) (.cons (.hole (Γ₀ := fun zz  => none) 5 hb' fun zz zz e  => nomatch e) (.cons (.hole (Γ₀ := fun zz  => none) 4 hc' fun zz zz e  => nomatch e) .nil))
noncomputable def GW.one (g : GW) (h : Heap) (pen : Addr) : GW := ⟨fun b => if b ∈ g.la ∧ b ≠ pen then h.get? b else g.Γ b, [pen]⟩
theorem ls_mk {X : Fix} {L : LawFr} (hsc : ScOK L.sc) {θ : Nat → List Nat} {η : Nat → (Addr → Option Obj) → Value → Prop} {u u' : Nat} (hη : PenW (X.sw θ η) u) {ρ : Fr} {c : Env} {l : List Env} {g : GW} {σ : Sto} {s : Shared} {p : PV} {r : List Nat} {m τ : Nat} {ex : List (Str × PV)}
    (w : Wh (X.sw θ η) ρ c l g σ s) (hρ : SameFr (L.fr []) ρ) (e1 : lk nStm ρ.vars = some p) (e2 : lk nWds ρ.vars = some (.str r)) (e3 : lk nPen ρ.vars = some (.lst 0)) (hσ : σ[0]? = some (penP τ)) (hτ : 5 ≤ τ) (hu : 1000 * u + τ ≤ 1000 * u' + 5)
    (hcon : ∀ v, RepV (X.sw θ η) g v p → Con X X.T.sh g m v (den θ r)) (hne : den θ r ≠ []) (hlen : (den θ r).length ≤ 8 + 80 * m)
    (hex : ∀ x q, lk x ex = some q → ∃ q0, lk x ρ.vars = some q0 ∧ ∀ v g', (∀ a o, g.Γ a = some o → g'.Γ a = some o) → RepV (X.sw θ η) g v q0 → RepV (XL X m (den θ r) u') g' v q) :
    ∃ g', LS X L c l m u' ex g' s ∧ (∀ a o, g.Γ a = some o → g'.Γ a = some o) ∧ Keep X g s g' s := by
  obtain ⟨mm, hns, hm⟩ := w.fr.loc
  have hs0 : ρ.scope = L.sc := hρ.scope
  rw [hs0] at hm
  obtain ⟨vp, hvp, rp⟩ := hm nPen _ hsc.pen e3
  obtain ⟨pen, its, rfl, hi, zz, q, hpl⟩ := RepV.isList w.R rp hσ
  have hpm : pen ∈ g.la := List.mem_of_getElem? hi
  have hgx : ∀ a o, g.Γ a = some o → (g.one s.heap pen).Γ a = some o := fun a o e  => by
    show (if a ∈ g.la ∧ a ≠ pen then s.heap.get? a else g.Γ a) = some o
    rw [if_neg (fun q  => by have := (w.R.laF a q.1).1; rw [e] at this; cases this)]; exact e
  have hPn : X.P ∉ g.la := fun hm  => (w.R.laF _ hm).2 rfl
  have R' : HR (XL X m (den θ r) u') (g.one s.heap pen) [penP 5] s.heap := by
    refine ⟨fun a o e  => ?_, fun a o e  => hgx a o (w.R.base a o e), rfl, fun i a xs h1 h2  => ?_, by simp [GW.one], fun a ha  => ?_, ?_, ?_⟩
    · have e' : (if a ∈ g.la ∧ a ≠ pen then s.heap.get? a else g.Γ a) = some o := e
      split at e'
      · exact e'
      · exact w.R.frz a o e'
    · cases i with
      | zero =>
        have h1' : some pen = some a := h1
        have h2' : some (penP 5) = some xs := h2
        cases h1'; cases h2'
        exact ⟨its, hpl, repL_pen hτ hη hu hgx q⟩
      | succ i => cases h2
    · have ha' : a = pen := by simpa [GW.one] using ha
      subst ha'
      exact ⟨(if_neg (fun q  => q.2 rfl)).trans (w.R.laF a hpm).1, (w.R.laF a hpm).2⟩
    · obtain ⟨ps, t1, t2, t3⟩ := w.R.tab.tab
      exact ⟨ps, t1, t2, fun pos c' e  => let ⟨cd, oc, vs, t, i1, i2, i3⟩ := t3 pos c' e; ⟨cd, oc, vs, t, i1, hgx _ _ i2, i3⟩⟩
    · exact (if_neg (fun q  => hPn q.1)).trans w.R.noP
  refine ⟨g.one s.heap pen, ⟨den θ r, hne, hlen, R', ?_, ?_⟩, hgx, ?_⟩
  · intro env he
    obtain ⟨hk, Lc, o, hf, h1, h2, h3, h4⟩ := w.fs env he
    refine ⟨hk, Lc, o, hf, (if_neg (fun q  => h2 q.1)).trans h1, fun hm  => ?_, h3, h4⟩
    have : Lc = pen := by simpa [GW.one] using hm
    exact h2 (this ▸ hpm)
  · have fr := w.fr
    have nocell : ∀ x, lk x L.sc.names ≠ some .cell := fun x e  => (hsc.noCell x _ e).1 rfl
    have nofree : ∀ x, lk x L.sc.names ≠ some .free := fun x e  => (hsc.noCell x _ e).2 rfl
    refine ⟨fr.kind, fr.glob, fr.blt, fun x k e  => fr.names x k (by rw [hs0]; exact e), ⟨mm, hns, fun x p' e1' e2'  => ?_⟩, ⟨(if_neg (fun q  => fr.locOk.2.1 q.1)).trans fr.locOk.1, fun hm  => ?_, fr.locOk.2.2⟩, fun x p' e  => ?_, fun x e  => absurd e (nocell x), fr.inj, fun z a e  => ?_, fun hq  => fr.shw (by rw [hρ.q]; exact hq)⟩
    · have e2'' : lk x (lawVars ex) = some p' := e2'
      have e1'' : lk x L.sc.names = some .local := e1'
      unfold lawVars at e2''
      rw [lk] at e2''
      split at e2''
      · rename_i hx
        have := eqS_eq hx
        subst this
        cases e2''
        exact ⟨_, hvp, .lst rfl⟩
      · rw [lk] at e2''
        split at e2''
        · rename_i hx
          have := eqS_eq hx
          subst this
          cases e2''
          obtain ⟨v, hv, rv⟩ := hm nStm _ hsc.stm e1
          exact ⟨v, hv, .hole (Γ₀ := g.Γ) 0 (show ηL X m (den θ r) u' 0 g.Γ v from (hcon v rv)) hgx⟩
        · rw [lk] at e2''
          split at e2''
          · rename_i hx
            have := eqS_eq hx
            subst this
            cases e2''
            obtain ⟨v, hv, rv⟩ := hm nWds _ hsc.wds e2
            obtain ⟨t, e⟩ := rv.iS
            subst e
            exact ⟨_, hv, .str t (by rw [den_sym]; rfl)⟩
          · obtain ⟨q0, h1, h2⟩ := hex x p' e2''
            obtain ⟨v, hv, rv⟩ := hm x q0 e1'' h1
            exact ⟨v, hv, h2 v _ hgx rv⟩
    · have : c.locals = pen := by simpa [GW.one] using hm
      exact fr.locOk.2.1 (this ▸ hpm)
    · rcases e with ⟨e, zz⟩ | ⟨e, zz⟩
      · exact absurd e (nocell x)
      · exact absurd e (nofree x)
    · obtain ⟨h1, h2, h3⟩ := fr.all z a e
      refine ⟨h1, fun hm  => ?_, h3⟩
      have : a = pen := by simpa [GW.one] using hm
      exact h2 (this ▸ hpm)
  · intro b o e h1 h2 h3
    refine ⟨e, (if_neg (fun q  => h3.nl q.1)).trans h3.nf, fun hm  => ?_, h3.nP⟩
    have : b = pen := by simpa [GW.one] using hm
    exact h3.nl (this ▸ hpm)
end Mine
end
section
open PySem PySem.W PySem.Calls PySem.SeqAt
set_option maxRecDepth 100000
set_option linter.unusedSectionVars false
set_option linter.unusedVariables false
namespace Mine

structure RiP where
  o : Obj
  fd : FuncData
  e1 : Expr
  gn : Str
  dn : Str
  mn : Str
  q1 : Pos
  q2 : Pos
  q3 : Pos
  q4 : Pos
  q5 : Pos
  q6 : Pos
  q7 : Pos
  q8 : Pos
noncomputable def isCls (K : Frag) (x : Str) (gf : Addr) : Bool := ifS false (nsK K x) fun v => ifS false (refV v) fun a => Nat.beq a gf
noncomputable def is12 (K : Frag) (x : Str) : Bool := ifS false (globP K x) fun p => pintK false p fun i => i == 12
set_option tactic.hygienic false in
theorem isCls_eq {K : Frag} {x : Str} {gf : Addr} (h : isCls K x gf = true) : nsK K x = some (.ref gf) := ifE' h fT fun v e h  => ifE' h fT fun a ea h  => by rw [e, refV_eq ea, Nat.eq_of_beq_eq_true h]
set_option tactic.hygienic false in
theorem is12_eq {K : Frag} {x : Str} (h : is12 K x = true) : globP K x = some (.int 12) := by
  unfold is12 at h
  refine ifE h fT fun p h  => pintE h fT fun i h  => ?_
  rw [eq_of_beq h]
noncomputable def riGood (K : Frag) (gf : Addr) (S : RiP) : Bool := fnOk K S.fd && nameOk S.gn && nameOk S.dn && nameOk S.mn && isGl S.fd.scope S.gn && isLc S.fd.scope S.dn && isGl S.fd.scope S.mn && isCls K S.gn gf && is12 K S.mn
structure RiIs (K : Frag) (gf ir : Addr) (S : RiP) : Prop where
  lk : K.lookup ir = some S.o
  fd : S.o.data = .func S.fd
  good : riGood K gf S = true
  body : S.fd.body = .stmts [.Try [.Return (some S.e1) S.q1] [.ExceptHandler (some (.Name S.gn S.q2)) none [.Return (some (.Compare (.Name S.dn S.q3) [.Gt] [.Name S.mn S.q4] S.q5)) S.q6] S.q7] [] [] S.q8]

noncomputable def orcR (sh n : Nat) : Orc := fun f args σ k kx => poldK false f fun a => oneK false args fun p => pholeK false p fun i => Nat.beq a sh && Nat.beq i 0 && (if n ≤ 12 then k (.str [symB]) σ else kx σ)
section
variable {X : Fix} {n : Nat} {t : List Nat}
set_option tactic.hygienic false in
theorem orcR_ok (O : FixOK X) (hθ : X.θ 0 = t) (hη : ∀ Γ v, X.η 0 Γ v → Con X X.T.sh ⟨Γ, []⟩ n v t) : OrcOK X (24 * (n + 1)) (orcR X.T.sh n) := by
  intro A fe outer F g σ s v c vs ps k kx am R fs r q h
  unfold orcR at h
  revert r
  refine poldE h fT ?_; clear h; intro a h r
  revert q
  refine oneE h fT ?_; clear h; intro p h; refine pholeE h fT ?_; clear h; intro i h q; refine band3 h ?_; clear h; intro h1 h2 h4
  obtain ⟨o, rfl, e⟩ := r.iO
  obtain rfl := Nat.eq_of_beq_eq_true h1
  obtain rfl := Nat.eq_of_beq_eq_true h2
  obtain ⟨v1, rfl, q1⟩ := q.one
  obtain ⟨Γ₀, e3, e4⟩ := q1.iH
  refine con_call (D := 0) (tk := 0) O (hη _ _ e3) (.inr ⟨rfl, rfl⟩) (fun tk g  => .str tk (by rw [den_sym, hθ])) e4 am (Nat.le_refl _) R fs (by (with_reducible exact Mine.ar83)) ?_
  rwa [show 0 + n = n by (with_reducible exact Mine.ar84)]
noncomputable def RightRun (T : Top) (gf ir : Addr) : Prop := ∃ S, RiIs T.K gf ir S ∧ ∀ n : Nat, ∃ bs, bindP (argsOf S.fd) [.hole 0, .str [symB], .int (n : Int)] = some bs ∧ lk S.dn bs = some (.int (n : Int)) ∧
  ∀ (σ : Sto) (k : KV) (kx : KX) (lm q : Bool), (n ≤ 12 → k (.bool true) σ = true) → (12 < n → kx σ = true) → (lvl ⟨T, gf, orcR T.sh n⟩ lvlMax).ev S.e1 { scope := S.fd.scope, vars := bs, up := [], lam := lm, q := q } σ k kx = true

set_option tactic.hygienic false in
theorem right_ok (O : FixOK X) {G : GfD} (hG : GfOK X.B X.gf G) (hθ : X.θ 0 = t) (hη : ∀ Γ v, X.η 0 Γ v → Con X X.T.sh ⟨Γ, []⟩ n v t) {ir : Addr} (hr : RightRun X.T X.gf ir)
    {d : Nat} (hd : 24 * (n + 1) ≤ d) {A : Around} {fe : Env} {outer : List Env} {F : Addr} {g : GW} {σ : Sto} {s : Shared} {kx : KX} (am : Amb X (d + 1) A fe outer F fe) (R : HR X g σ s.heap) (fs : FramesOK X g s.heap (fe :: outer))
    {vs : List Value} {k : KV} (q : RepL X g vs [.hole 0, .str [symB], .int (n : Int)]) (hk : k (.bool true) σ = true) :
    wpAny (model X.prog X.w) A (call (.ref ir) vs) (VG X noS (fe :: outer) g s (RV X k)) (PX X noS (fe :: outer) F g s kx) s := by
  obtain ⟨S, hS, hrun⟩ := hr
  obtain ⟨bs, hbs, hdn, hev⟩ := hrun n
  obtain ⟨hK, ho, hgood, hb⟩ := hS
  unfold riGood at hgood
  refine band9 hgood fun hf g1 g2 g3 g4 g5 g6 g7 g8  => ?_; clear hgood
  have hl : vs.length = (S.fd.params.args.map (·.arg)).length := by
    have := bindP_len hbs
    unfold argsOf at this
    rw [this, q.length]
  refine callDef_genB O am R fs hK ho hf hb hl (fun h  => bind_given O R hf hl h) ?_
  intro A₁ env F₁ g₁ s₁ am₁ t₁ mk
  have w := mk _ bs hbs q
  have orc1 : OrcOK X d (orcR X.T.sh n) := by
    intro A fe outer F g σ s v c vs ps k kx am R fs r q h
    exact orcR_ok O hθ hη (am.le hd) R fs r q h
  have H0 : LvOK X d (lvl ⟨X.T, X.gf, orcR X.T.sh n⟩ lvlMax) := lvl_ok O rfl orc1 lvlMax
  have e0 := H0.ev am₁ w S.e1 (fun p σ'  => ptrueK false p (k (.bool true) σ')) (fun σ'  => decide (12 < n) && k (.bool true) σ') (hev σ _ _ _ _ (fun zz  => hk) fun h  => by rw [decide_eq_true h]; exact hk)
  rw [arm_execs_cons]
  refine wpAny_bind (wpAny_Try_except ?_)
  rw [arm_execs_cons, arm_exec_Return]
  refine wpAny_bind (wpAny_bind (wpAny_standAt ?_))
  rw [arm_evalOpt_some]
  refine wpAny_bind (wpAny_mono e0 (fun v s₂ hv  => ?_) fun e s₂ px  => ?_)
  · obtain ⟨g₂, σ₂, t₂, R₂, p, rp, hp⟩ := hv
    revert rp
    refine ptrueE hp fT fun hp rp  => ?_
    exact wpAny_pure (wpAny_pure (wpAny_pure ⟨g₂, σ₂, t₂.noW, R₂, .bool true, rp, hp, rfl⟩))
  · -- the handler
    refine noteFrame_rel am₁.fr am₁.fe am₁.fc px fun tb s₃ x₃  => ?_
    refine setFlight_rel (fr := none) x₃ fun s₄ x₄  => ?_
    obtain ⟨⟨g₄, σ₄, ea, rfl, hst, R₄, hx, hF, hkx⟩, hgn, hos⟩ := id x₄
    obtain ⟨hle, hok, oe, ve, he, hcls, hdt, hsz, hT⟩ := hx
    have t₄ : To X noS (env :: fe :: outer) g₁ s₁ g₄ s₄ := ⟨hst, hgn, hos⟩
    have w₄ := w.step t₄ R₄
    have kB : ∀ b o, X.B.get? b = some o → s₄.heap.get? b = some o := fun b o e  => R₄.frz _ _ (R₄.base _ _ e)
    have hG₄ := hG.keeps kB
    refine wpAny_handleBy_cons (codeAny_handlers_test ?_) (by intro q; cases q)
    obtain ⟨hd1, zz⟩ := nameOk_ok g1
    have gl4 : env.kindOf S.gn = some .globalImplicit := kind_of w.fr (isGl_eq g4) nofun
    have hcg := isCls_eq g7
    obtain ⟨es, ep, h1, h2, h3⟩ := glob_ns O R₄
    rw [nsK_find O h1 h3] at hcg
    refine Name_function_global w.fr.kind gl4 (loadGlobal_global (w.fr.glob ▸ h2) hcg ?_) hd1
    obtain ⟨hh, gn, dr, tk, os⟩ := s₄
    refine wpAny_excMatches_sub_self hG₄.C he hcls (ex_has (b := true) (by decide +kernel)) ?_
    refine codeAny_handlers_suite (setFlight_rel (fr := none) x₄ fun s₅ x₅  => ?_)
    obtain ⟨⟨g₅, σ₅, ea', e5, hst5, R₅, zz, hF5, hkx5⟩, hgn5, hos5⟩ := x₅
    have t₅ : To X noS (env :: fe :: outer) g₁ s₁ g₅ s₅ := ⟨hst5, hgn5, hos5⟩
    have w₅ := w.step t₅ R₅
    rw [arm_execs_cons, arm_exec_Return]
    refine wpAny_bind (wpAny_bind (wpAny_standAt ?_))
    rw [arm_evalOpt_some]
    have nd : nameP ⟨X.T, X.gf, orcR X.T.sh n⟩ S.dn (frOf X S.fd ir bs) = some (.int (n : Int)) := (nameP_loc g2 (isLc_eq g5)).trans hdn
    have nm : nameP ⟨X.T, X.gf, orcR X.T.sh n⟩ S.mn (frOf X S.fd ir bs) = some (.int 12) := (nameP_gl g3 (isGl_eq g6)).trans (is12_eq g8)
    obtain ⟨v1, r1, ev1⟩ := name_val O (A := A₁.mark (some (.ref ea))) (pos := S.q3) rfl w₅ nd
    obtain ⟨v2, r2, ev2⟩ := name_val O (A := A₁.mark (some (.ref ea))) (pos := S.q4) rfl w₅ nm
    obtain ⟨tk1, rfl⟩ := r1.iI
    obtain ⟨tk2, rfl⟩ := r2.iI
    refine wpAny_bind (wpAny_Compare1 (ev1 _ _ (ev2 _ _ (PyProof.Rows.gt_int ?_))))
    refine wpAny_pure (wpAny_pure ?_)
    have hkx5' : (decide (12 < n) && k (.bool true) σ₅) = true := hkx5
    rw [Bool.and_eq_true, decide_eq_true_eq] at hkx5'
    refine wpAny_pure ⟨g₅, σ₅, t₅.noW, R₅, .bool true, ?_, hkx5'.2, rfl⟩
    have hgt : (decide ((12 : Int) < (n : Int))) = true := decide_eq_true (by have := hkx5'.1; (with_reducible exact Mine.ar85 (by assumption)))
    show RepV X g₅ (.bool (decide ((12 : Int) < (n : Int)))) (.bool true)
    rw [hgt]; exact .bool true
end
end Mine
end
section
open PySem PySem.W PySem.Calls PySem.SeqAt
set_option maxRecDepth 100000
set_option linter.unusedSectionVars false
set_option linter.unusedVariables false
namespace Mine
set_option tactic.hygienic false in
theorem HR.view {X : Fix} {g : GW} {σ : Sto} {h : Heap} (R : HR X g σ h) {i : Nat} {a : Addr} {vs : Array Value} {xs : List PV} (hi : g.la[i]? = some a) (hl : h.PlainList a vs) (hr : RepL X g vs.toList xs) : HR X g (σ.set i xs) h :=
  R.setList hi ⟨rfl, fun zz zz  => rfl⟩ hl hr
noncomputable def pdec (P : Prop) : Bool := @decide P (Classical.propDecidable P)
set_option tactic.hygienic false in
theorem pdec_iff {P : Prop} : pdec P = true ↔ P := by exact @decide_eq_true_iff P (Classical.propDecidable P)
noncomputable def DrawRun (T : Top) (gf dr : Addr) : Prop := ∀ (orc : Orc) (a b c m : Int) (τ : Sto) (k : KV) (kx : KX), 0 ≤ b → b ≤ 900000 → 0 ≤ c → c < 999979 → 1 ≤ m → m ≤ 16 →
  (∀ a' b' d, 0 ≤ d → d < m → b ≤ b' → b' ≤ b + 1 → k (.int d) ([.int a', .int b', .int c] :: τ) = true) → callP T gf orc (.old dr) [.lst 0, .int m] ([.int a, .int b, .int c] :: τ) k kx = true

noncomputable def drawT (m : Int) : Sto → KV → KX → Bool := fun σ k _ => consK false σ fun xs τ => threeK false xs fun p1 p2 p3 => pholeK false p1 fun h3 => pholeK false p2 fun h => pholeK false p3 fun h4 =>
  Nat.beq h3 3 && Nat.beq h4 4 && Nat.ble 5 h && Nat.ble h 400 && (List.range m.toNat).all fun d => k (.int (d : Int)) (penP (h + 1) :: τ)
noncomputable def isNn (n : Nat) : PV → Bool
  | .hole h => Nat.beq h 2
  | .int d => decide (d = (n : Int))
  | _ => false
noncomputable def spLaw (dr ir n : Nat) : PV → List PV → Option (Sto → KV → KX → Bool) := fun c args => poldK none c fun a => consK none args fun p r => consK none r fun q r => match r with
  | [] => plstK none p fun i => pintK none q fun m => if Nat.beq a dr && Nat.beq i 0 && decide (1 ≤ m) && decide (m ≤ 16) then some (drawT m) else none
  | x :: r => nilK none r (pholeK none p fun i => pstrK none q fun s => if Nat.beq a ir && Nat.beq i 0 && eqL s [symB] && isNn n x then some (fun σ k _ => k (.bool true) σ) else none)

section
variable {X : Fix} {n u : Nat} {t : List Nat}
set_option tactic.hygienic false in
theorem draw_ok (O : FixOK (XL X n t u)) (hRa : ∀ d, RaiseOK (XL X n t u) d) {dr : Addr} (hr : DrawRun X.T X.gf dr) {d : Nat} {A : Around} {fe : Env} {outer : List Env} {F : Addr} {g : GW} {σ : Sto} {s : Shared} {k : KV} {kx : KX} {m : Int} {v : Value} {vs : List Value}
    (am : Amb (XL X n t u) (d + 1) A fe outer F fe) (R : HR (XL X n t u) g σ s.heap) (fs : FramesOK (XL X n t u) g s.heap (fe :: outer)) (r : RepV (XL X n t u) g v (.old dr)) (q : RepL (XL X n t u) g vs [.lst 0, .int m]) (h1 : 1 ≤ m) (h16 : m ≤ 16) (hu : u ≤ 800) (h : drawT m σ k kx = true) :
    wpAny (model X.prog X.w) A (call v vs) (VG (XL X n t u) noS (fe :: outer) g s (RV (XL X n t u) k)) (PX (XL X n t u) noS (fe :: outer) F g s kx) s := by
  unfold drawT at h
  revert R
  refine consE h fT fun xs τ h  => threeE h fT fun p1 p2 p3 h  => pholeE h fT fun h3 h  => pholeE h fT fun hh h  => pholeE h fT fun h4 h R  => ?_
  refine band5 h fun e3 e4 e5 e6 hA  => ?_
  clear h
  have e5 := Nat.le_of_ble_eq_true e5
  have e6 := Nat.le_of_ble_eq_true e6
  obtain rfl := Nat.eq_of_beq_eq_true e3
  obtain rfl := Nat.eq_of_beq_eq_true e4
  obtain ⟨v1, v2, rfl, r1, r2⟩ := rep2 q
  obtain ⟨pen, its, rfl, hi, zz, ql, hpl⟩ := RepV.isList R r1 (show ([PV.hole 3, PV.hole hh, PV.hole 4] :: τ)[0]? = some _ from rfl)
  have hb5 : ∀ i, 5 ≤ i → ∀ Γ v, (XL X n t u).η i Γ v → ∃ b tk, v = .int b tk ∧ 0 ≤ b ∧ b ≤ 1000 * (u : Int) + (i : Int) := fun i hi Γ v h  => by
    have := penW_XL i (by (with_reducible exact Mine.ar74 (by assumption))) Γ v h
    rwa [if_neg (by (with_reducible exact Mine.ar75 (by assumption))), if_neg (by (with_reducible exact Mine.ar76 (by assumption)))] at this
  have view : ∃ a b c ta tb tc, its.toList = [.int a ta, .int b tb, .int c tc] ∧ 0 ≤ b ∧ b ≤ 1000 * (u : Int) + (hh : Int) ∧ 0 ≤ c ∧ c < 999979 := by
    generalize its.toList = l at ql
    obtain ⟨zz, zz, zz, rfl, ra, rb, rc⟩ := ql.three
    obtain ⟨zz, ea, -⟩ := ra.iH
    obtain ⟨zz, eb, -⟩ := rb.iH
    obtain ⟨zz, ec, -⟩ := rc.iH
    clear ra rb rc
    · · · · · · obtain ⟨a, ta, rfl⟩ := (show ∃ a tk, _ = Value.int a tk from ea)
                obtain ⟨b, tb, rfl, hb1, hb2⟩ := hb5 _ e5 _ _ eb
                obtain ⟨c, tc, rfl, hc1, hc2⟩ := (show ∃ c tk, _ = Value.int c tk ∧ 0 ≤ c ∧ c < 999979 from ec)
                exact ⟨a, b, c, ta, tb, tc, rfl, hb1, hb2, hc1, hc2⟩
  obtain ⟨a, b, c, ta, tb, tc, hits, hb1, hb2, hc1, hc2⟩ := view
  have R₁ : HR (XL X n t u) g ([.int a, .int b, .int c] :: τ) s.heap := R.view (i := 0) hi hpl (by rw [hits]; exact .cons (.int _ _) (.cons (.int _ _) (.cons (.int _ _) .nil)))
  have O0 : OrcOK (XL X n t u) d (fun zz zz zz zz zz  => false) := fun {_ _ _ _ _ _ _ _ _ _ _ _ _} _ _ _ _ _ h => by cases h
  refine wpAny_mono (callP_ok O (hRa d) O0 am R₁ fs r q (k := fun p σ'  => pdec (∃ a' b' dg, p = .int dg ∧ 0 ≤ dg ∧ dg < m ∧ b ≤ b' ∧ b' ≤ b + 1 ∧ σ' = [.int a', .int b', .int c] :: τ)) (kx := kx)
    (hr _ a b c m τ _ _ hb1 (by (with_reducible exact Mine.ar86 (by assumption) (by assumption) (by assumption))) hc1 hc2 h1 h16 fun a' b' dg x1 x2 x3 x4  => pdec_iff.mpr ⟨a', b', dg, rfl, x1, x2, x3, x4, rfl⟩)) (fun uu s' hu2  => ?_) fun zz zz q  => q
  obtain ⟨g₂, σ₂, t₂, R₂, p, rp, hp⟩ := hu2
  obtain ⟨a', b', dg, rfl, x1, x2, x3, x4, rfl⟩ := pdec_iff.mp hp
  have hi₂ := t₂.st.gext.idx hi
  obtain ⟨its₂, hpl₂, ql₂⟩ := R₂.lst 0 pen _ hi₂ rfl
  refine ⟨g₂, penP (hh + 1) :: τ, t₂, R₂.view (i := 0) hi₂ hpl₂ ?_, .int dg, rp, ?_⟩
  · generalize its₂.toList = l at ql₂
    obtain ⟨zz, zz, zz, rfl, a, b, c⟩ := ql₂.three
    obtain ⟨zz, rfl⟩ := a.iI
    obtain ⟨zz, rfl⟩ := b.iI
    obtain ⟨zz, rfl⟩ := c.iI
    · · · refine .cons (.hole (Γ₀ := fun zz  => none) 3 (show ηL X n t u 3 (fun zz  => none) _ from ⟨_, _, rfl⟩) fun zz zz e  => nomatch e) (.cons (.hole (Γ₀ := fun zz  => none) (hh + 1) (show ηL X n t u (hh + 1) (fun zz  => none) _ by unfold ηL; rw [if_neg (by (with_reducible exact Mine.ar77 (by assumption))), if_neg (by (with_reducible exact Mine.ar78 (by assumption))), if_neg (by (with_reducible exact Mine.ar79 (by assumption))), if_neg (by (with_reducible exact Mine.ar80 (by assumption))), if_neg (by (with_reducible exact Mine.ar81 (by assumption)))]; exact ⟨b', _, rfl, by omega, by (with_reducible exact Mine.ar88 (by assumption) (by assumption))⟩) fun zz zz e  => nomatch e) (.cons (.hole (Γ₀ := fun zz  => none) 4 (show ηL X n t u 4 (fun zz  => none) _ from ⟨_, _, rfl, hc1, hc2⟩) fun zz zz e  => nomatch e) .nil))
  · have := (List.all_eq_true.mp hA) dg.toNat (List.mem_range.mpr (by (with_reducible exact Mine.ar89 (by assumption) (by assumption))))
    rwa [Int.toNat_of_nonneg x1] at this

set_option tactic.hygienic false in
theorem isNn_ok {g : GW} {v : Value} {x : PV} (h : isNn n x = true) (r : RepV (XL X n t u) g v x) : RepV (XL X n t u) g v (.int (n : Int)) := by
  cases x with
  | hole i =>
    obtain rfl := Nat.eq_of_beq_eq_true h
    obtain ⟨zz, e, -⟩ := r.iH
    obtain ⟨tk, rfl⟩ := (show ∃ tk, _ = Value.int (n : Int) tk from e)
    exact .int _ _
  | int d => obtain rfl := of_decide_eq_true h; exact r
  | _ => exact absF h
set_option tactic.hygienic false in
theorem spLaw_ok (hu : u ≤ 800) (O : FixOK (XL X n t u)) {G : GfD} (hG : GfOK X.B X.gf G) {dr ir : Addr} (hd : DrawRun X.T X.gf dr) (hr : RightRun X.T X.gf ir) : SpOK (XL X n t u) (24 * (n + 1) + 1) (spLaw dr ir n) := by
  intro A fe outer F g σ s v c vs ps k kx tt am R fs r q hs ht
  unfold spLaw at hs
  revert r
  refine poldE hs nS ?_; clear hs; intro a hs r
  revert q
  refine consE hs nS ?_; clear hs; intro p1 t1 hs; refine consE hs nS ?_; clear hs; intro p2 t2 hs q
  obtain ⟨o, rfl, e⟩ := r.iO
  cases t2 with
  | nil =>
    revert q
    refine plstE hs nS ?_; clear hs; intro i hs; refine pintE hs nS ?_; clear hs; intro m hs q; refine ifB hs nS ?_; clear hs; intro hc hx; refine band4 hc ?_; clear hc; intro c1 c2 c3 c4
    obtain rfl := Nat.eq_of_beq_eq_true c1
    obtain rfl := Nat.eq_of_beq_eq_true c2
    obtain rfl := Option.some.inj hx
    exact draw_ok O (fun d  => raise_ok O hG d) hd am R fs r q (of_decide_eq_true c3) (of_decide_eq_true c4) hu ht
  | cons x t3 =>
    revert q
    refine nilE hs nS ?_; clear hs; intro hs; refine pholeE hs nS ?_; clear hs; intro i hs; refine pstrE hs nS ?_; clear hs; intro s0 hs q; refine ifB hs nS ?_; clear hs; intro hc hx; refine band4 hc ?_; clear hc; intro c1 c2 c3 c4
    obtain rfl := Nat.eq_of_beq_eq_true c1
    obtain rfl := Nat.eq_of_beq_eq_true c2
    obtain rfl := eqL_eq c3
    obtain rfl := Option.some.inj hx
    obtain ⟨zz, zz, zz, rfl, a, b, c⟩ := q.three
    exact right_ok (X := XL X n t u) (n := n) (t := t) O hG rfl (fun Γ v h  => h) hr (Nat.le_refl _) am R fs (.cons a (.cons b (.cons (isNn_ok c4 c) .nil))) ht
end
end Mine
end
section
open PySem PySem.W PySem.Calls PySem.SeqAt
set_option maxRecDepth 100000
set_option linter.unusedSectionVars false
set_option linter.unusedVariables false
namespace Mine
noncomputable def KeepB (X : Fix) (I : Addr) (g : GW) (s : Shared) (g' : GW) (s' : Shared) : Prop := ∀ b o, b ≠ I → s.heap.get? b = some o → (∀ es n, o.data ≠ .dict es n) → (∀ v, o.data ≠ .cell v) → Own X g b → s'.heap.get? b = some o ∧ Own X g' b
set_option tactic.hygienic false in
theorem Keep.but {X : Fix} {I : Addr} {g g' : GW} {s s' : Shared} (k : Keep X g s g' s') : KeepB X I g s g' s' := fun b o zz  => k b o
set_option tactic.hygienic false in
theorem KeepB.trans {X : Fix} {I : Addr} {g g₁ g₂ : GW} {s s₁ s₂ : Shared} (x : KeepB X I g s g₁ s₁) (y : KeepB X I g₁ s₁ g₂ s₂) : KeepB X I g s g₂ s₂ := fun b o n e h1 h2 h3  =>
  let ⟨e', h3'⟩ := x b o n e h1 h2 h3; y b o n e' h1 h2 h3'
set_option tactic.hygienic false in
theorem keepB_of {X : Fix} {I : Addr} {l : List Env} {g g' : GW} {s s' : Shared} (t : To X (· ∈ [I]) l g s g' s') (fs : FramesOK X g s.heap l) : KeepB X I g s g' s' := by
  intro b o n e h1 h2 h3
  refine ⟨t.kept h3 (fun q  => n (by simpa using q)) (fun q  => ?_) o e, h3.step t.st e⟩
  obtain ⟨zz, zz, zz, o', e', es, k, q'⟩ := fs.mem q
  rw [e] at e'; cases e'
  exact h1 _ _ q'

set_option tactic.hygienic false in
theorem KeepB.to {X : Fix} {n u : Nat} {t : List Nat} {I : Addr} {g g' : GW} {s s' : Shared} (k : KeepB (XL X n t u) I g s g' s') : KeepB X I g s g' s' := fun b o n e h1 h2 h3  =>
  let ⟨a, b⟩ := k b o n e h1 h2 ⟨h3.nf, h3.nl, h3.nP⟩; ⟨a, ⟨b.nf, b.nl, b.nP⟩⟩
set_option tactic.hygienic false in
theorem Keep.to {X : Fix} {n u : Nat} {t : List Nat} {g g' : GW} {s s' : Shared} (k : Keep (XL X n t u) g s g' s') : Keep X g s g' s' := fun b o e h1 h2 h3  =>
  let ⟨a, b⟩ := k b o e h1 h2 ⟨h3.nf, h3.nl, h3.nP⟩; ⟨a, ⟨b.nf, b.nl, b.nP⟩⟩
structure SameG (g : GW) (s : Shared) (g' : GW) (s' : Shared) : Prop where
  gens : s'.gens = s.gens
  os : s'.os = s.os
  ext : ∀ a o, g.Γ a = some o → g'.Γ a = some o
set_option tactic.hygienic false in
theorem SameG.refl {g : GW} {s : Shared} : SameG g s g s := ⟨rfl, rfl, fun zz zz e  => e⟩
set_option tactic.hygienic false in
theorem SameG.trans {g g₁ g₂ : GW} {s s₁ s₂ : Shared} (x : SameG g s g₁ s₁) (y : SameG g₁ s₁ g₂ s₂) : SameG g s g₂ s₂ := ⟨y.gens.trans x.gens, y.os.trans x.os, fun a o e  => y.ext a o (x.ext a o e)⟩
set_option tactic.hygienic false in
theorem SameG.of {g g' : GW} {s : Shared} (h : ∀ a o, g.Γ a = some o → g'.Γ a = some o) : SameG g s g' s := ⟨rfl, rfl, h⟩
set_option tactic.hygienic false in
theorem To.same {X : Fix} {S : Addr → Prop} {l : List Env} {g g' : GW} {s s' : Shared} (t : To X S l g s g' s') : SameG g s g' s' := ⟨t.gens, t.os, t.st.ext⟩
set_option tactic.hygienic false in
theorem Wh.iter {X : Fix} {ρ : Fr} {c : Env} {l : List Env} {g g' : GW} {σ σ' : Sto} {s s' : Shared} {I : Addr} {o : Obj} (w : Wh X ρ c l g σ s) (t : To X (· ∈ [I]) l g s g' s') (R : HR X g' σ' s'.heap) (ho : s.heap.get? I = some o) (hd : ∀ es n, o.data ≠ .dict es n) (hc : ∀ v, o.data ≠ .cell v) : Wh X ρ c l g' σ' s' :=
  w.stepS t R (fun q  => by
    have : c.locals = I := by simpa using q
    obtain ⟨m, ⟨o', es, ep, e1, e2, zz⟩, zz⟩ := w.fr.loc
    rw [this, ho] at e1; cases e1; exact hd _ _ e2) (fun z a e q  => by
    have : a = I := by simpa using q
    obtain ⟨⟨v, oc, e2, e3⟩, zz⟩ := w.fr.all z a e
    rw [this, ho] at e2; cases e2; exact hc _ e3) fun Lf hL q  => by
    have : Lf = I := by simpa using q
    obtain ⟨zz, zz, zz, o', e', es, k, q'⟩ := w.fs.mem hL
    rw [this, ho] at e'; cases e'; exact hd _ _ q'

section
variable {X : Fix} (O : FixOK X) {L : LawFr} (hsc : ScOK L.sc) {A : Around} {c : Env} {F : Addr} {d : Nat} (am : Amb X d A c [] F c)
include O hsc am

set_option tactic.hygienic false in
theorem good_t {t : List Nat} {n : Nat} (hn : n ≤ 50) (h1 : t ≠ []) (h2 : t.length ≤ 8 + 80 * n) : ∀ i : Nat, (fun zz  => t) i ≠ ([] : List Nat) ∧ ((fun zz  => t) i : List Nat).length ≤ 4096 := fun zz  => ⟨h1, by show t.length ≤ 4096; (with_reducible exact Mine.ar90 (by assumption) (by assumption))⟩
noncomputable def TurnOK (X : Fix) (L : LawFr) (A : Around) (c : Env) (nD : Str) (body : List Stmt) (ex : List (Str × PV)) (uf : Nat → Nat) (e : Nat) : Prop := ∀ i, i < e → ∀ t g s, t ≠ [] → t.length ≤ 8 + 80 * i → Wh (XL X i t (uf i)) (L.fr (put nD (.hole 1) (lawVars ex))) c [c] g [penP 5] s →
  wpAny (model X.prog X.w) A (PySem.execs body c) (fun f s' => f = .next ∧ ∃ g', LS X L c [c] (i + 1) (uf (i + 1)) ex g' s' ∧ Keep X g s g' s' ∧ SameG g s g' s') (fun _ _ => False) s

theorem rng_loop {nD : Str} {pD : Pos} {body : List Stmt} {ex : List (Str × PV)} {uf : Nat → Nat} {e : Nat} (he : e ≤ 50) (hD : lk nD L.sc.names = some .local) (ht : TurnOK X L A c nD body ex uf e) {I : Addr} {RR : Result → Shared → Prop} :
    ∀ m i, i + m = e → ∀ g s, LS X L c [c] i (uf i) ex g s → Own X g I → IsRangeIter s.heap I ((i : Int) + 1) m 1 →
      (∀ g' s', LS X L c [c] e (uf e) ex g' s' → KeepB X I g s g' s' → SameG g s g' s' → RR (.ok .next) s') → codeAny (model X.prog X.w) A (.forLoop (.Name nD pD) (.ref I) body [] c) RR s := by
  intro m
  induction m with
  | zero =>
    intro i hi g s ⟨t, t1, t2, w⟩ own it hend
    have hie : i = e := by (with_reducible exact Mine.ar91 (by assumption))
    subst hie
    have O' : FixOK (XL X i t (uf i)) := O.sw (good_t O hsc am he t1 t2)
    have own' : ∀ b ∈ [I], Own (XL X i t (uf i)) g b := fun b hb  => by
      have : b = I := by simpa using hb
      subst this; exact ⟨own.nf, own.nl, own.nP⟩
    refine for_turn (wpAny_mono (next_ok (X := XL X i t (uf i)) O' (l := [c]) (target := .Name nD pD) (src := .rng ((i : Int) + 1) 0) (r := none) am.hd w.R (ws := [I]) ⟨rfl, it⟩ own' rfl rfl (E := fun zz zz  => False)) (fun r s₂ hr  => ?_) fun zz zz q  => q.elim)
    obtain ⟨rfl, t', R'⟩ := hr
    have w' := w.iter t' R' it (by intro es n q; cases q) (by intro v q; cases q)
    exact hend g s₂ ⟨t, t1, t2, w'⟩ (keepB_of (X := XL X i t (uf i)) t' w.fs).to t'.same
  | succ m ih =>
    intro i hi g s ⟨t, t1, t2, w⟩ own it hend
    have O' : FixOK (XL X i t (uf i)) := O.sw (good_t O hsc am (by (with_reducible exact Mine.ar92 (by assumption) (by assumption))) t1 t2)
    have own' : ∀ b ∈ [I], Own (XL X i t (uf i)) g b := fun b hb  => by
      have : b = I := by simpa using hb
      subst this; exact ⟨own.nf, own.nl, own.nP⟩
    refine for_turn (wpAny_mono (next_ok (X := XL X i t (uf i)) O' (l := [c]) (target := .Name nD pD) (src := .rng ((i : Int) + 1) (m + 1)) (r := some (.int ((i : Int) + 1), .rng ((i : Int) + 1 + 1) m)) am.hd w.R (ws := [I]) ⟨rfl, it⟩ own' rfl rfl (E := fun zz zz  => False)) (fun r s₂ hr  => ?_) fun zz zz q  => q.elim)
    obtain ⟨v, rfl, hv⟩ := hr
    refine wpAny_mono hv (fun zz s₃ h3  => ?_) fun zz zz q  => q.elim
    obtain ⟨g₃, t₃, R₃, rv, zz, it₃⟩ := h3
    have w₃ := w.iter t₃ R₃ it (by intro es n q; cases q) (by intro v q; cases q)
    have own₃ : Own (XL X i t (uf i)) g₃ I := (own' I (by simp)).step t₃.st it
    have rv' : RepV (XL X i t (uf i)) g₃ v (.hole 1) := by
      obtain ⟨tk, rfl⟩ := rv.iI
      exact .hole (Γ₀ := fun zz  => none) 1 (show ηL X i t (uf i) 1 (fun zz  => none) _ from ⟨tk, rfl⟩) fun zz zz e  => nomatch e
    have hass : assN 3 (.Name nD pD) (.hole 1) (L.fr (lawVars ex)) = some (L.fr (put nD (.hole 1) (lawVars ex))) := by
      show ass1 nD (.hole 1) (L.fr (lawVars ex)) = _
      show (match lk nD L.sc.names with | some .local => _ | some .cell => _ | _ => _) = _
      rw [hD]; rfl
    refine wpAny_mono (assN_ok (X := XL X i t (uf i)) (l := [c]) (k := fun ρ  => pdec (ρ = L.fr (put nD (.hole 1) (lawVars ex)))) (E := fun zz zz  => False) am.hd 3 w₃.fr R₃ hass rv' (pdec_iff.mpr rfl)) (fun zz s₄ h4  => ?_) fun zz zz q  => q.elim
    obtain ⟨ρ₄, t₄, R₄, fr₄, same₄, hk⟩ := h4
    have hρ := pdec_iff.mp hk
    subst hρ
    have w₄ := w₃.writes t₄ R₄ fr₄
    have k₄ := (keep_ws w₃ t₄).to
    obtain ⟨it₄, own₄⟩ := k₄ I _ it₃ (by intro es n q; cases q) (by intro v q; cases q) ⟨own₃.nf, own₃.nl, own₃.nP⟩
    refine wpAny_mono (ht i (by (with_reducible exact Mine.ar93 (by assumption))) t g₃ s₄ t1 t2 w₄) (fun f s₅ h5  => ?_) fun zz zz q  => q.elim
    obtain ⟨rfl, g₅, ls₅, k₅, sg₅⟩ := h5
    obtain ⟨it₅, own₅⟩ := k₅ I _ it₄ (by intro es n q; cases q) (by intro v q; cases q) ⟨own₄.nf, own₄.nl, own₄.nP⟩
    have kB : KeepB X I g s g₅ s₅ := ((keepB_of (X := XL X i t (uf i)) t₃ w.fs).to.trans (Keep.but k₄)).trans (Keep.but k₅)
    refine ih (i + 1) (by (with_reducible exact Mine.ar94 (by assumption))) g₅ s₅ ls₅ own₅ ?_ fun g' s' hl hk hs  => hend g' s' hl (kB.trans hk) (((t₃.same.trans t₄.same).trans sg₅).trans hs)
    have e1 : (((i + 1 : Nat) : Int) + 1) = (i : Int) + 1 + 1 := by (with_reducible exact Mine.ar95)
    rw [e1]; exact it₅
end
end Mine
end
section
open PySem PySem.W PySem.Calls PySem.SeqAt
set_option maxRecDepth 100000
set_option linter.unusedSectionVars false
set_option linter.unusedVariables false
namespace Mine

section
variable {X : Fix} {d : Nat} {L : Lvl} (HX : ExOK X d L) {A : Around} {fe : Env} {outer : List Env} {F : Addr} {c : Env} {kx : KX}
include HX
theorem execs_app (am : Amb X d A fe outer F c) {k : KF} {rest : List Stmt} {Q : Flow → Shared → Prop} {E : Value → Shared → Prop} : ∀ (ss : List Stmt) {ρ : Fr} {g σ s} (_ : Wh X ρ c (fe :: outer) g σ s), Mine.execs L ss ρ σ k kx = true →
      (∀ f s', EPost X ρ c (fe :: outer) g s k f s' → match f with | .next => wpAny (model X.prog X.w) A (PySem.execs rest c) Q E s' | f => Q f s') → (∀ e s', PX X (WS ρ c) (fe :: outer) F g s kx e s' → E e s') →
      wpAny (model X.prog X.w) A (PySem.execs (ss ++ rest) c) Q E s
  | [], ρ, g, σ, s, w, h, hQ, hE => hQ .next s ⟨g, σ, ρ, .next, To.refl, w.R, w.fr, .refl, trivial, h⟩
  | st :: r, ρ, g, σ, s, w, h, hQ, hE => by
    rw [List.cons_append, arm_execs_cons]
    rw [Mine.execs] at h
    refine wpAny_bind (wpAny_mono (HX.ex am w st _ kx h) (fun f s₁ q  => ?_) hE)
    obtain ⟨g₁, σ₁, ρ₁, fp, t, R₁, fr₁, e₁, hf, hk⟩ := q
    have w₁ := w.writes t R₁ fr₁
    cases f with
    | next =>
      cases fp with
      | next => exact execs_app am r w₁ hk (fun f s' q  => hQ f s' (q.base t e₁)) fun e s' q  => hE e s' (q.baseW t e₁)
      | ret => exact hf.elim
    | ret v =>
      cases fp with
      | next => exact hf.elim
      | ret p => exact wpAny_pure (hQ (.ret v) s₁ ⟨g₁, σ₁, ρ₁, .ret p, t, R₁, fr₁, e₁, hf, hk⟩)
    | brk => exact hf.elim
    | cont => exact hf.elim
end

/-! the ends of the runs -/
noncomputable def symN : List Nat → Nat
  | [] => 0
  | c :: r => (if isLit c then 0 else 1) + symN r
noncomputable def lenOk (r : List Nat) : Bool := !r.isEmpty && Nat.ble r.length 80 && Nat.ble (symN r) 1
set_option tactic.hygienic false in
theorem den_len1 {t : List Nat} : ∀ r : List Nat, (den (fun zz  => t) r).length ≤ r.length + symN r * t.length
  | [] => Nat.zero_le _
  | c :: r => by
    show ((if isLit c then [c] else t) ++ den (fun zz  => t) r).length ≤ _
    rw [List.length_append, List.length_cons, symN]
    have h := den_len1 (t := t) r
    split
    · rw [Nat.zero_add]; simp only [List.length_singleton]; omega
    · rw [Nat.add_mul]; omega
noncomputable def exB1 (q : PV) (o : Option PV) : Bool := match q, o with
  | .int i, some (.int j) => i == j
  | _, _ => false
theorem exB1_ok {q : PV} {o : Option PV} (h : exB1 q o = true) : ∃ j, q = .int j ∧ o = some (.int j) := by
  unfold exB1 at h
  split at h
  · rename_i i j
    have : i = j := by simpa using h
    subst this
    exact ⟨i, rfl, rfl⟩
  · cases h
noncomputable def exB : List (Str × PV) → List (Str × PV) → Bool
  | [], _ => true
  | (x, q) :: r, vs => exB1 q (lk x vs) && exB r vs
theorem exB_ok {vs : List (Str × PV)} : ∀ {ex : List (Str × PV)}, exB ex vs = true → ∀ x q, lk x ex = some q → lk x vs = some q ∧ ∃ j, q = .int j
  | [], _, _, _, h => by cases h
  | (y, p) :: r, h, x, q, hl => by
    rw [exB, Bool.and_eq_true] at h
    dsimp only [lk] at hl
    split at hl
    · rename_i hx
      have := eqS_eq hx
      subst this
      cases hl
      obtain ⟨j, rfl, e⟩ := exB1_ok h.1
      exact ⟨e, j, rfl⟩
    · exact exB_ok h.2 x q hl
noncomputable def penOk (σ : Sto) : Bool := consK false σ fun xs _ => threeK false xs fun p1 p2 p3 => pholeK false p1 fun h3 => pholeK false p2 fun h => pholeK false p3 fun h4 => Nat.beq h3 3 && Nat.beq h4 4 && Nat.ble 5 h && Nat.ble h 1005
set_option tactic.hygienic false in
theorem penOk_ok {σ : Sto} (h : penOk σ = true) : ∃ τ, 5 ≤ τ ∧ τ ≤ 1005 ∧ σ[0]? = some (penP τ) := by
  unfold penOk at h
  refine consE h fT ?_; clear h; intro xs τ h; refine threeE h fT ?_; clear h; intro p1 p2 p3 h; refine pholeE h fT ?_; clear h; intro h3 h; refine pholeE h fT ?_; clear h; intro hh h; refine pholeE h fT ?_; clear h; intro h4 h; refine band4 h ?_; clear h; intro e3 e4 e5 e6
  obtain rfl := Nat.eq_of_beq_eq_true e3
  obtain rfl := Nat.eq_of_beq_eq_true e4
  exact ⟨hh, Nat.le_of_ble_eq_true e5, Nat.le_of_ble_eq_true e6, rfl⟩
noncomputable def penIn (vs : List (Str × PV)) : Bool := ifS false (lk nPen vs) fun p => plstK false p fun i => Nat.beq i 0
set_option tactic.hygienic false in
theorem penIn_ok {vs : List (Str × PV)} (h : penIn vs = true) : lk nPen vs = some (.lst 0) := by
  unfold penIn at h
  refine ifE h fT fun p h  => plstE h fT fun i h  => ?_
  rw [Nat.eq_of_beq_eq_true h]
noncomputable def holeIn (x : Str) (n : Nat) (vs : List (Str × PV)) : Bool := ifS false (lk x vs) fun p => pholeK false p fun i => Nat.beq i n
set_option tactic.hygienic false in
theorem holeIn_ok {x : Str} {n : Nat} {vs : List (Str × PV)} (h : holeIn x n vs = true) : lk x vs = some (.hole n) := by
  unfold holeIn at h
  refine ifE h fT fun p h  => pholeE h fT fun i h  => ?_
  rw [Nat.eq_of_beq_eq_true h]
noncomputable def kA (good : PV → List Nat → Bool) (nD : Str) (ex : List (Str × PV)) : KF := fun fl ρ σ => match fl with
  | .next => penIn ρ.vars && holeIn nD 1 ρ.vars && exB ex ρ.vars && penOk σ && (match lk nStm ρ.vars with
    | some p => (match lk nWds ρ.vars with
      | some (.str r) => lenOk r && good p r
      | _ => false)
    | _ => false)
  | _ => false
noncomputable def kB (ex : List (Str × PV)) : KF := fun fl ρ σ => match fl with
  | .next => penIn ρ.vars && holeIn nStm 0 ρ.vars && exB ex ρ.vars && penOk σ && (match lk nWds ρ.vars with
      | some (.str r) => eqL r [symB]
      | _ => false)
  | _ => false
noncomputable def lawL (T : Top) (gf dr ir n : Nat) : Lvl := lvl ⟨T, gf, tower T gf (spLaw dr ir n) 24⟩ lvlMax

section
variable {X : Fix} (O : FixOK X) {G : GfD} (hG : GfOK X.B X.gf G) (hHead : ∀ D, D ≤ 13 → headRun X.T X.gf D = true) (hE : ∀ θ η g v, RepV (X.sw θ η) g v exitP → Con X X.T.sh g 0 v (codes "EXIT"))
variable {dr ir : Addr} (hdr : DrawRun X.T X.gf dr) (hir : RightRun X.T X.gf ir) {L : LawFr} (hsc : ScOK L.sc) {A : Around} {c : Env} {F : Addr} {d : Nat} (am : Amb X d A c [] F c)
include O hG hHead hE hdr hir hsc am

set_option tactic.hygienic false in
theorem lawL_ok {n u : Nat} {t : List Nat} (hn : n ≤ 50) (hu : u ≤ 800) (h1 : t ≠ []) (h2 : t.length ≤ 8 + 80 * n) : FixOK (XL X n t u) ∧ ExOK (XL X n t u) (24 * (n + 1) + 25) (lawL X.T X.gf dr ir n) ∧ LvOK (XL X n t u) (24 * (n + 1) + 25) (lawL X.T X.gf dr ir n) := by
  have O' : FixOK (XL X n t u) := O.sw (good_t O hsc am hn h1 h2)
  have hRa : ∀ d, RaiseOK (XL X n t u) d := fun d  => raise_ok O' (G := G) hG d
  have ho : OrcOK (XL X n t u) (24 * (n + 1) + 1 + 24) (tower X.T X.gf (spLaw dr ir n) 24) := tower_ok O' hRa (spLaw_ok hu O' hG hdr hir) 24
  exact ⟨O', lvlX_ok O' (hRa _) rfl rfl ho lvlMax, lvl_ok O' rfl ho lvlMax⟩

theorem turn_ok {good : PV → List Nat → Bool} (hgood : ∀ p r, good p r = true → goodP X.T X.gf p r = true) {nD : Str} {bodyA : List Stmt} {ifSt : Stmt} {ex : List (Str × PV)} {u0 e : Nat} {dv : Nat → PV} (he : e ≤ 18) (hu : u0 + 2 * e ≤ 700) (hd : 24 * (e + 2) + 25 ≤ d) (hdv : ∀ i, dv i = .hole 2 ∨ dv i = .int ((i : Int) + 1))
    (runA : ∀ i, i < e → Mine.execs (lawL X.T X.gf dr ir i) bodyA (L.fr (put nD (.hole 1) (lawVars ex))) [penP 5] (kA good nD ex) (fun zz  => false) = true)
    (runB : ∀ i, i < e → Mine.execs (lawL X.T X.gf dr ir (i + 1)) [ifSt] (L.fr (lawVars ((nD, dv i) :: ex))) [penP 5] (kB ex) (fun zz  => false) = true) :
    TurnOK X L A c nD (bodyA ++ [ifSt]) ex (fun i  => u0 + 2 * i) e := by
  intro i hi t g s t1 t2 w
  obtain ⟨O', HX, zz⟩ := lawL_ok (n := i) (u := u0 + 2 * i) O hG hHead hE hdr hir hsc am (by (with_reducible exact Mine.ar0 (by assumption) (by assumption))) (by (with_reducible exact Mine.ar2 (by assumption) (by assumption))) t1 t2
  have am' : Amb (XL X i t (u0 + 2 * i)) (24 * (i + 1) + 25) A c [] F c := ⟨am.fr, am.hd, am.fe, am.fc, by have := am.units; (with_reducible exact Mine.ar7 (by assumption) (by assumption) (by assumption)), by have := am.depth; (with_reducible exact Mine.ar9 (by assumption) (by assumption) (by assumption))⟩
  refine execs_app HX am' bodyA w (runA i hi) (fun f s₁ q  => ?_) fun e s' q  => ?_
  · obtain ⟨g₁, σ₁, ρ₁, fp, t₁, R₁, fr₁, same₁, hf, hk⟩ := q
    have w₁ := w.writes t₁ R₁ fr₁
    have k₁ := (keep_ws w t₁).to
    unfold kA at hk
    split at hk
    · cases f with
      | next =>
        refine band5 hk fun a1 a2 a3 a4 a5  => ?_; clear hk
        split at a5
        · rename_i p hp
          split at a5
          · rename_i r hr
            refine band2 a5 fun b1 b2  => ?_; clear a5
            unfold lenOk at b1
            refine band3 b1 fun l1 l2 l3  => ?_; clear b1
            have l1' : r ≠ [] := fun q  => by subst q; cases l1
            have l2' := Nat.le_of_ble_eq_true l2
            have l3' := Nat.le_of_ble_eq_true l3
            obtain ⟨τ, p1, p2, p3⟩ := penOk_ok a4
            have hlen : (den (fun zz  => t) r).length ≤ 8 + 80 * (i + 1) := by
              have := den_len1 (t := t) r
              have h3 : symN r * t.length ≤ 1 * t.length := Nat.mul_le_mul_right _ l3'
              (with_reducible exact Mine.ar96 (by assumption) (by assumption) (by assumption) (by assumption))
            obtain ⟨g₂, ls₂, x₂, k₂⟩ := ls_mk (X := X) (L := L) hsc (θ := fun zz  => t) (η := ηL X i t (u0 + 2 * i)) (u := u0 + 2 * i) (u' := u0 + 2 * i + 1) penW_XL (m := i + 1) (ex := (nD, dv i) :: ex) w₁ ⟨same₁.scope, same₁.up, same₁.lam, same₁.q⟩ hp hr (penIn_ok a1) p3 p1 (ar4 p2)
              (fun v rv  => con_step O hG hHead hE (good_t O hsc am (ar0 hi he) t1 t2) (η₁ := ηL X i t (u0 + 2 * i)) (fun Γ v h  => h) rv (hgood _ _ b2)) (den_ne (fun zz  => t1) l1') hlen (fun x q hq  => by
                dsimp only [lk] at hq
                split at hq
                · rename_i hx
                  have := eqS_eq hx
                  subst this
                  cases hq
                  refine ⟨.hole 1, holeIn_ok a2, fun v g' hx' rv  => ?_⟩
                  obtain ⟨zz, e0, -⟩ := rv.iH
                  · obtain ⟨tk, rfl⟩ := (show ∃ tk, _ = Value.int ((i : Int) + 1) tk from e0)
                    rcases hdv i with h | h
                    · rw [h]; exact .hole (Γ₀ := fun zz  => none) 2 (show ηL X (i + 1) (den (fun zz  => t) r) (u0 + 2 * i + 1) 2 (fun zz  => none) _ from ⟨tk, by push_cast; rfl⟩) fun zz zz e  => nomatch e
                    · rw [h]; exact .int _ _
                · obtain ⟨c1, j, rfl⟩ := exB_ok a3 x q hq
                  exact ⟨_, c1, fun v g' hx' rv  => rv.reint⟩)
            obtain ⟨t', t1', t2', w₂⟩ := ls₂
            show wpAny (model X.prog X.w) A (PySem.execs [ifSt] c) _ _ s₁
            obtain ⟨O2, HX2, zz⟩ := lawL_ok (n := i + 1) (u := u0 + 2 * i + 1) O hG hHead hE hdr hir hsc am (by (with_reducible exact Mine.ar1 (by assumption) (by assumption))) (by (with_reducible exact Mine.ar3 (by assumption) (by assumption))) t1' t2'
            have am2 : Amb (XL X (i + 1) t' (u0 + 2 * i + 1)) (24 * (i + 1 + 1) + 25) A c [] F c := ⟨am.fr, am.hd, am.fe, am.fc, by have := am.units; (with_reducible exact Mine.ar8 (by assumption) (by assumption) (by assumption)), by have := am.depth; (with_reducible exact Mine.ar10 (by assumption) (by assumption) (by assumption))⟩
            refine wpAny_mono (execs_ok HX2 am2 [ifSt] w₂ (runB i hi)) (fun f s₃ q3  => ?_) fun e s' q  => ?_
            · obtain ⟨g₃, σ₃, ρ₃, fp3, t₃, R₃, fr₃, same₃, hf3, hk3⟩ := q3
              have w₃ := w₂.writes t₃ R₃ fr₃
              have k₃ := (keep_ws w₂ t₃).to
              unfold kB at hk3
              split at hk3
              · cases f with
                | next =>
                  refine band5 hk3 fun d1 d2 d3 d4 d5  => ?_; clear hk3
                  obtain ⟨τ3, pp1, pp2, pp3⟩ := penOk_ok d4
                  split at d5
                  · rename_i r3 hr3
                    have e3 := eqL_eq d5
                    subst e3
                    have hd3 : den (fun zz  => t') [symB] = t' := den_sym
                    obtain ⟨g₄, ls₄, x₄, k₄⟩ := ls_mk (X := X) (L := L) hsc (θ := fun zz  => t') (η := ηL X (i + 1) t' (u0 + 2 * i + 1)) (u := u0 + 2 * i + 1) (u' := u0 + 2 * (i + 1)) penW_XL (m := i + 1) (ex := ex) w₃ ⟨same₃.scope, same₃.up, same₃.lam, same₃.q⟩ (holeIn_ok d2) hr3 (penIn_ok d1) pp3 pp1 (ar5 pp2)
                      (fun v rv  => by
                        rw [hd3]
                        obtain ⟨zz, e0, k0⟩ := rv.iH
                        exact Con.mono (show Con X X.T.sh ⟨_, []⟩ (i + 1) v t' from e0) k0) (by rw [hd3]; exact t1') (by rw [hd3]; exact t2') (fun x q hq  => by
                        obtain ⟨c1, j, rfl⟩ := exB_ok d3 x q hq
                        exact ⟨_, c1, fun v g' hx' rv  => rv.reint⟩)
                    exact ⟨rfl, g₄, ls₄, ((k₁.trans k₂).trans k₃).trans k₄, ((t₁.same.trans (.of x₂)).trans t₃.same).trans (.of x₄)⟩
                  · cases d5
                | ret v => exact hf3.elim
                | brk => exact hf3.elim
                | cont => exact hf3.elim
              · cases hk3
            · obtain ⟨zz, zz, ⟨⟨zz, zz, zz, zz, zz, zz, zz, zz, hq⟩, zz, zz⟩⟩ := q
              cases hq
          · cases a5
        · cases a5
      | ret v => exact hf.elim
      | brk => exact hf.elim
      | cont => exact hf.elim
    · cases hk
  · obtain ⟨zz, zz, ⟨⟨zz, zz, zz, zz, zz, zz, zz, zz, hq⟩, zz, zz⟩⟩ := q
    cases hq
end
end Mine
end
section
open PySem PySem.W PySem.Calls PySem.SeqAt
set_option maxRecDepth 100000
set_option linter.unusedSectionVars false
set_option linter.unusedVariables false
namespace Mine

noncomputable def P0 (X : Fix) (L : LawFr) (c : Env) (l : List Env) (u : Nat) (g : GW) (s : Shared) : Prop := Wh (XL X 0 [32] u) (L.fr [(nPen, .lst 0)]) c l g [penP 5] s
theorem p0_gen {X : Fix} {L : LawFr} (hsc : ScOK L.sc) {θ : Nat → List Nat} {η : Nat → (Addr → Option Obj) → Value → Prop} {u' i0 : Nat} {xs0 : List PV} {ρ : Fr} {c : Env} {l : List Env} {g : GW} {σ : Sto} {s : Shared}
    (w : Wh (X.sw θ η) ρ c l g σ s) (hρ : SameFr (L.fr []) ρ) (e3 : lk nPen ρ.vars = some (.lst i0)) (hσ : σ[i0]? = some xs0) (hre : ∀ {g' : GW} {vs : List Value}, (∀ a o, g.Γ a = some o → g'.Γ a = some o) → RepL (X.sw θ η) g vs xs0 → RepL (XL X 0 [32] u') g' vs (penP 5)) :
    ∃ g', P0 X L c l u' g' s ∧ (∀ a o, g.Γ a = some o → g'.Γ a = some o) ∧ Keep X g s g' s := by
  obtain ⟨mm, hns, hm⟩ := w.fr.loc
  have hs0 : ρ.scope = L.sc := hρ.scope
  rw [hs0] at hm
  obtain ⟨vp, hvp, rp⟩ := hm nPen _ hsc.pen e3
  obtain ⟨pen, its, rfl, hi, zz, q, hpl⟩ := RepV.isList w.R rp hσ
  have hpm : pen ∈ g.la := List.mem_of_getElem? hi
  have hgx : ∀ a o, g.Γ a = some o → (g.one s.heap pen).Γ a = some o := fun a o e  => by
    show (if a ∈ g.la ∧ a ≠ pen then s.heap.get? a else g.Γ a) = some o
    rw [if_neg (fun q  => by have := (w.R.laF a q.1).1; rw [e] at this; cases this)]; exact e
  have hPn : X.P ∉ g.la := fun hm  => (w.R.laF _ hm).2 rfl
  have R' : HR (XL X 0 [32] u') (g.one s.heap pen) [penP 5] s.heap := by
    refine ⟨fun a o e  => ?_, fun a o e  => hgx a o (w.R.base a o e), rfl, fun i a xs h1 h2  => ?_, by simp [GW.one], fun a ha  => ?_, ?_, ?_⟩
    · have e' : (if a ∈ g.la ∧ a ≠ pen then s.heap.get? a else g.Γ a) = some o := e
      split at e'
      · exact e'
      · exact w.R.frz a o e'
    · cases i with
      | zero =>
        have h1' : some pen = some a := h1
        have h2' : some (penP 5) = some xs := h2
        cases h1'; cases h2'
        exact ⟨its, hpl, hre hgx q⟩
      | succ i => cases h2
    · have ha' : a = pen := by simpa [GW.one] using ha
      subst ha'
      exact ⟨(if_neg (fun q  => q.2 rfl)).trans (w.R.laF a hpm).1, (w.R.laF a hpm).2⟩
    · obtain ⟨ps, t1, t2, t3⟩ := w.R.tab.tab
      exact ⟨ps, t1, t2, fun pos c' e  => let ⟨cd, oc, vs, t, i1, i2, i3⟩ := t3 pos c' e; ⟨cd, oc, vs, t, i1, hgx _ _ i2, i3⟩⟩
    · exact (if_neg (fun q  => hPn q.1)).trans w.R.noP
  refine ⟨g.one s.heap pen, ⟨R', ?_, ?_⟩, hgx, ?_⟩
  · intro env he
    obtain ⟨hk, Lc, o, hf, h1, h2, h3, h4⟩ := w.fs env he
    refine ⟨hk, Lc, o, hf, (if_neg (fun q  => h2 q.1)).trans h1, fun hm  => ?_, h3, h4⟩
    have : Lc = pen := by simpa [GW.one] using hm
    exact h2 (this ▸ hpm)
  · have fr := w.fr
    have nocell : ∀ x, lk x L.sc.names ≠ some .cell := fun x e  => (hsc.noCell x _ e).1 rfl
    have nofree : ∀ x, lk x L.sc.names ≠ some .free := fun x e  => (hsc.noCell x _ e).2 rfl
    refine ⟨fr.kind, fr.glob, fr.blt, fun x k e  => fr.names x k (by rw [hs0]; exact e), ⟨mm, hns, fun x p' e1' e2'  => ?_⟩, ⟨(if_neg (fun q  => fr.locOk.2.1 q.1)).trans fr.locOk.1, fun hm  => ?_, fr.locOk.2.2⟩, fun x p' e  => ?_, fun x e  => absurd e (nocell x), fr.inj, fun z a e  => ?_, fun hq  => fr.shw (by rw [hρ.q]; exact hq)⟩
    · have e2'' : lk x [(nPen, PV.lst 0)] = some p' := e2'
      rw [lk] at e2''
      split at e2''
      · rename_i hx
        have := eqS_eq hx
        subst this
        cases e2''
        exact ⟨_, hvp, .lst rfl⟩
      · cases e2''
    · have : c.locals = pen := by simpa [GW.one] using hm
      exact fr.locOk.2.1 (this ▸ hpm)
    · rcases e with ⟨e, zz⟩ | ⟨e, zz⟩
      · exact absurd e (nocell x)
      · exact absurd e (nofree x)
    · obtain ⟨h1, h2, h3⟩ := fr.all z a e
      refine ⟨h1, fun hm  => ?_, h3⟩
      have : a = pen := by simpa [GW.one] using hm
      exact h2 (this ▸ hpm)
  · intro b o e h1 h2 h3
    refine ⟨e, (if_neg (fun q  => h3.nl q.1)).trans h3.nf, fun hm  => ?_, h3.nP⟩
    have : b = pen := by simpa [GW.one] using hm
    exact h3.nl (this ▸ hpm)

set_option tactic.hygienic false in
theorem p0_mk {X : Fix} {L : LawFr} (hsc : ScOK L.sc) {θ : Nat → List Nat} {η : Nat → (Addr → Option Obj) → Value → Prop} {u u' : Nat} (hη : PenW (X.sw θ η) u) {ρ : Fr} {c : Env} {l : List Env} {g : GW} {σ : Sto} {s : Shared} {τ : Nat}
    (w : Wh (X.sw θ η) ρ c l g σ s) (hρ : SameFr (L.fr []) ρ) (e3 : lk nPen ρ.vars = some (.lst 0)) (hσ : σ[0]? = some (penP τ)) (hτ : 5 ≤ τ) (hu : 1000 * u + τ ≤ 1000 * u' + 5) :
    ∃ g', P0 X L c l u' g' s ∧ (∀ a o, g.Γ a = some o → g'.Γ a = some o) ∧ Keep X g s g' s := p0_gen hsc w hρ e3 hσ fun x r  => repL_pen hτ hη hu x r

noncomputable def leafOK (T : Top) (gf : Addr) (p : PV) (r : List Nat) : Bool := pu p && litR r && !r.isEmpty && Nat.ble r.length 8 && restRun T gf (fun _ _ => none) p (kS true r) (kxS true)
noncomputable def k0 (T : Top) (gf : Addr) (ex : List (Str × PV)) : KF := fun fl ρ σ => match fl with
  | .next => penIn ρ.vars && exB ex ρ.vars && penOk σ && (match lk nStm ρ.vars with
    | some p => (match lk nWds ρ.vars with
      | some (.str r) => leafOK T gf p r
      | _ => false)
    | _ => false)
  | _ => false
noncomputable def kRng (b : Nat) : Src → Sto → Bool := fun src σ => match src with
  | .rng a n => a == 1 && Nat.ble n b && penOk σ && Nat.beq σ.length 1
  | _ => false
noncomputable def intsB : List Int → List PV → Bool
  | [], ys => nilK false ys true
  | i :: r, ys => consK false ys fun p s => pintK false p fun j => i == j && intsB r s
theorem intsB_ok : ∀ {is : List Int} {ys : List PV}, intsB is ys = true → ys = is.map PV.int
  | [], ys, h => nilE (P := fun ys => ys = [].map PV.int) h fT fun _ => rfl
  | i :: r, ys, h => consE (P := fun ys => ys = (i :: r).map PV.int) h fT fun p s h => pintE (P := fun p => p :: s = (i :: r).map PV.int) h fT fun j h => band2 h fun e h => by rw [List.map_cons, eq_of_beq e, intsB_ok h]
noncomputable def kWays (xs : List Int) : Src → Sto → Bool := fun src σ => match src with
  | .tup ys => intsB xs ys && penOk σ && Nat.beq σ.length 1
  | _ => false
noncomputable def kTrue : KF := fun fl _ _ => match fl with
  | .ret (.bool b) => b
  | _ => false

section
variable {X : Fix} (O : FixOK X) {G : GfD} (hG : GfOK X.B X.gf G) (hHead : ∀ D, D ≤ 13 → headRun X.T X.gf D = true) (hE : ∀ θ η g v, RepV (X.sw θ η) g v exitP → Con X X.T.sh g 0 v (codes "EXIT"))
variable {dr ir : Addr} (hdr : DrawRun X.T X.gf dr) (hir : RightRun X.T X.gf ir) {L : LawFr} (hsc : ScOK L.sc) {A : Around} {c : Env} {F : Addr} {d : Nat} (am : Amb X d A c [] F c)
include O hG hHead hE hdr hir hsc am

set_option tactic.hygienic false in
theorem leaf_con {θ η} {p : PV} {r : List Nat} (h : leafOK X.T X.gf p r = true) {g : GW} {v : Value} (hv : RepV (X.sw θ η) g v p) : Con X X.T.sh g 0 v (den θ r) ∧ den θ r = r ∧ r ≠ [] ∧ r.length ≤ 8 := by
  unfold leafOK at h
  refine band5 h fun h1 h2 h3 h4 h5  => ?_; clear h
  have hv' : RepV X g v p := repV_pu (X := X.sw θ η) (θ := X.θ) (η := X.η) (fun zz zz e  => e) hv h1
  have e : den θ r = r := den_lit h2
  refine ⟨by rw [e]; exact con_leaf O hG hHead hv' h1 h2 h5, e, fun q  => ?_, Nat.le_of_ble_eq_true h4⟩
  subst q; cases h3
theorem start_ok {θ : Nat → List Nat} {η : Nat → (Addr → Option Obj) → Value → Prop} {u n : Nat} {Lv : Lvl} (hη : PenW (X.sw θ η) u) (HX : ExOK (X.sw θ η) n Lv) (hn : n ≤ d) {vs : List (Str × PV)} {g : GW} {s : Shared} (w : Wh (X.sw θ η) (L.fr vs) c [c] g [penP 5] s) {ex : List (Str × PV)} {st : Stmt} {rest : List Stmt} {Q : Flow → Shared → Prop}
    (run : Mine.execs Lv [st] (L.fr vs) [penP 5] (k0 X.T X.gf ex) (fun zz  => false) = true)
    (hQ : ∀ g' s', LS X L c [c] 0 (u + 1) ex g' s' → Keep X g s g' s' → SameG g s g' s' → wpAny (model X.prog X.w) A (PySem.execs rest c) Q (fun zz zz  => False) s') :
    wpAny (model X.prog X.w) A (PySem.execs (st :: rest) c) Q (fun zz zz  => False) s := by
  have am' : Amb (X.sw θ η) n A c [] F c := ⟨am.fr, am.hd, am.fe, am.fc, by have := am.units; (with_reducible exact Mine.ar59 (by assumption) (by assumption)), by have := am.depth; (with_reducible exact Mine.ar60 (by assumption) (by assumption))⟩
  refine execs_app (ss := [st]) (rest := rest) HX am' w run (fun f s₁ q  => ?_) fun e s' q  => ?_
  · obtain ⟨g₁, σ₁, ρ₁, fp, t₁, R₁, fr₁, same₁, hf, hk⟩ := q
    have w₁ := w.writes t₁ R₁ fr₁
    have k₁ : Keep X g s g₁ s₁ := fun b o e h1 h2 h3  => let ⟨a, b⟩ := keep_ws w t₁ b o e h1 h2 ⟨h3.nf, h3.nl, h3.nP⟩; ⟨a, ⟨b.nf, b.nl, b.nP⟩⟩
    unfold k0 at hk
    split at hk
    · cases f with
      | next =>
        refine band4 hk fun a1 a3 a4 a5  => ?_; clear hk
        split at a5
        · rename_i p hp
          split at a5
          · rename_i r hr
            obtain ⟨τ, p1, p2, p3⟩ := penOk_ok a4
            obtain ⟨mm, zz, hm⟩ := w₁.fr.loc
            obtain ⟨vv, zz, rvv⟩ := hm nStm p (by rw [same₁.scope]; exact hsc.stm) hp
            obtain ⟨zz, hden, hr1, hr2⟩ := leaf_con O hG hHead hE hdr hir hsc am a5 rvv
            obtain ⟨g₂, ls₂, x₂, k₂⟩ := ls_mk (X := X) (L := L) hsc (θ := θ) (η := η) (u := u) (u' := u + 1) hη (m := 0) (ex := ex) w₁ ⟨same₁.scope, same₁.up, same₁.lam, same₁.q⟩ hp hr (penIn_ok a1) p3 p1 (ar4 p2)
              (fun v rv  => (leaf_con O hG hHead hE hdr hir hsc am a5 rv).1) (by rw [hden]; exact hr1) (by rw [hden]; omega) (fun x q hq  => by
                obtain ⟨c1, j, rfl⟩ := exB_ok a3 x q hq
                exact ⟨_, c1, fun v g' hx' rv  => rv.reint⟩)
            exact hQ g₂ s₁ ls₂ (k₁.trans k₂) (t₁.same.trans (.of x₂))
          · cases a5
        · cases a5
      | ret v => exact hf.elim
      | brk => exact hf.elim
      | cont => exact hf.elim
    · cases hk
  · obtain ⟨zz, zz, ⟨⟨zz, zz, zz, zz, zz, zz, zz, zz, hq⟩, zz, zz⟩⟩ := q
    cases hq
theorem forRng_ok {u b : Nat} (hu : u ≤ 300) (hb : b ≤ 18) (hd : 24 * 20 + 25 ≤ d) {nD : Str} (hnD : lk nD L.sc.names = some .local) {pD pos : Pos} {iter : Expr} (hi : notSet iter = true) {body : List Stmt} {ex : List (Str × PV)} {g : GW} {s : Shared} (ls : LS X L c [c] 0 u ex g s) (hex : ∀ x q, lk x ex = some q → lk x (lawVars ex) = some q ∧ ∃ j, q = .int j)
    (run : evSrc ⟨X.T, X.gf, tower X.T X.gf (spLaw dr ir 0) 24⟩ (lawL X.T X.gf dr ir 0) iter (L.fr (lawVars ex)) [penP 5] (kRng b) (fun zz  => false) = true)
    (ht : ∀ e, e ≤ b → TurnOK X L A c nD body ex (fun i  => u + 1 + 2 * i) e) {Q : Flow → Shared → Prop}
    (hQ : ∀ e g' s', e ≤ b → LS X L c [c] e (u + 1 + 2 * e) ex g' s' → Keep X g s g' s' → SameG g s g' s' → Q .next s') :
    wpAny (model X.prog X.w) A (exec (.For (.Name nD pD) iter body [] pos) c) Q (fun zz zz  => False) s := by
  obtain ⟨t, t1, t2, w⟩ := ls
  obtain ⟨O', HX, H⟩ := lawL_ok (n := 0) (u := u) O hG hHead hE hdr hir hsc am (by (with_reducible exact Mine.ar83)) (by (with_reducible exact Mine.ar98 (by assumption))) t1 t2
  have am' : Amb (XL X 0 t u) (24 * (0 + 1) + 25) A c [] F c := ⟨am.fr, am.hd, am.fe, am.fc, by have := am.units; (with_reducible exact Mine.ar11 (by assumption) (by assumption)), by have := am.depth; (with_reducible exact Mine.ar12 (by assumption) (by assumption))⟩
  have hno : ∀ e s', PX (XL X 0 t u) noS [c] F g s (fun zz  => false) e s' → False := fun e s' q  => by
    obtain ⟨zz, zz, ⟨⟨zz, zz, zz, zz, zz, zz, zz, zz, hq⟩, zz, zz⟩⟩ := q
    cases hq
  refine wpAny_For (wpAny_mono (src_ok (X := XL X 0 t u) O' H (cx := ⟨X.T, X.gf, tower X.T X.gf (spLaw dr ir 0) 24⟩) rfl am' w run) (fun v s₁ h₁  => wpAny_mono h₁ (fun it s₂ h₂  => ?_) fun e s' q  => (hno e s' q).elim) fun e s' q  => (hno e s' q).elim) (fun x  => by cases iter <;> first | rfl | (cases hi; done))
  obtain ⟨I, ws, src, g₂, σ₂, rfl, t₂, R₂, it₂, own₂, hk₂⟩ := h₂
  unfold kRng at hk₂
  split at hk₂
  · rename_i a n
    refine band4 hk₂ fun h1 h2 h3 h4  => ?_; clear hk₂
    have ha : a = 1 := by simpa using h1
    subst ha
    have hnb := Nat.le_of_ble_eq_true h2
    obtain ⟨τ, p1, p2, p3⟩ := penOk_ok h3
    obtain ⟨rfl, it⟩ := it₂
    obtain ⟨ownI, geI⟩ := own₂ I (by simp)
    have w₂ := w.step t₂ R₂
    have k₂ : Keep X g s g₂ s₂ := (keep_of (X := XL X 0 t u) t₂ w.fs (fun zz q  => q.elim)).to
    have hdt : den (fun zz  => t) [symB] = t := den_sym
    obtain ⟨g₃, ls₃, x₃, k₃⟩ := ls_mk (X := X) (L := L) hsc (θ := fun zz  => t) (η := ηL X 0 t u) (u := u) (u' := u + 1) penW_XL (m := 0) (p := .hole 0) (r := [symB]) (ex := ex) w₂ ⟨rfl, rfl, rfl, rfl⟩ rfl rfl rfl p3 p1 (ar4 p2)
      (fun v rv  => by
        rw [hdt]
        obtain ⟨zz, e0, k0⟩ := rv.iH
        exact Con.mono (show Con X X.T.sh ⟨_, []⟩ 0 v t from e0) k0) (by rw [hdt]; exact t1) (by rw [hdt]; exact t2) (fun x q hq  => by
        obtain ⟨hl, j, rfl⟩ := hex x q hq
        exact ⟨.int j, hl, fun v g' hx' rv  => rv.reint⟩)
    obtain ⟨itI, ownI₃⟩ := k₃ I _ it (by intro es n q; cases q) (by intro v q; cases q) ⟨ownI.nf, ownI.nl, ownI.nP⟩
    refine rng_loop (uf := fun i  => u + 1 + 2 * i) O hsc am (e := n) (by (with_reducible exact Mine.ar100 (by assumption) (by assumption))) hnD (ht n hnb) n 0 (by (with_reducible exact Mine.ar84)) g₃ s₂ ls₃ ownI₃ (by simpa using itI) fun g' s' hl hk hs  => ?_
    refine hQ n g' s' hnb hl (fun b o e h1 h2 h3  => ?_) ((t₂.same.trans (.of x₃)).trans hs)
    obtain ⟨e', o'⟩ := (k₂.trans k₃) b o e h1 h2 h3
    exact hk b o (fun q  => by
      subst q
      exact absurd (Heap.lt_size e) (Nat.not_lt.mpr geI)) e' h1 h2 o'
  · cases hk₂

set_option tactic.hygienic false in
theorem ls_p0 {n u u' : Nat} (hu : u ≤ u') {ex : List (Str × PV)} {g : GW} {s : Shared} (h : LS X L c [c] n u ex g s) : ∃ g', P0 X L c [c] u' g' s ∧ Keep X g s g' s ∧ SameG g s g' s := by
  obtain ⟨t, t1, t2, w⟩ := h
  obtain ⟨g', h1, h3, h2⟩ := p0_mk (X := X) (L := L) hsc (θ := fun zz  => t) (η := ηL X n t u) (u := u) (u' := u') penW_XL (τ := 5) w ⟨rfl, rfl, rfl, rfl⟩ rfl rfl (Nat.le_refl _) (ar101 hu)
  exact ⟨g', h1, h2, .of h3⟩
end
end Mine
end
section
open PySem PySem.W PySem.Calls PySem.SeqAt
set_option maxRecDepth 100000
set_option linter.unusedSectionVars false
set_option linter.unusedVariables false
namespace Mine

set_option tactic.hygienic false in
theorem repL_ints {X X' : Fix} {g g' : GW} : ∀ {is : List Int} {vs : List Value}, RepL X g vs (is.map PV.int) → RepL X' g' vs (is.map PV.int)
  | [], _, .nil => .nil
  | i :: r, _, .cons a b => by cases a; exact .cons (.int _ _) (repL_ints b)
noncomputable def TupInts (X : Fix) (g : GW) (h : Heap) (I t : Addr) (is : List Int) : Prop := ∃ vs n i, h.IsTupleIter I t i ∧ g.Γ t = some { cls := .type "tuple", data := .seq vs n } ∧ RepL X g (vs.toList.drop i) (is.map PV.int)
noncomputable def WayOK (X : Fix) (L : LawFr) (A : Around) (c : Env) (nW : Str) (body : List Stmt) (w : Int) : Prop := ∀ u g s, u ≤ 200 → Wh (XL X 0 [32] u) (L.fr (put nW (.int w) [(nPen, .lst 0)])) c [c] g [penP 5] s →
  wpAny (model X.prog X.w) A (PySem.execs body c) (fun f s' => f = .next ∧ ∃ g', P0 X L c [c] (u + 30) g' s' ∧ Keep X g s g' s' ∧ SameG g s g' s') (fun _ _ => False) s

section
variable {X : Fix} (O : FixOK X) {G : GfD} (hG : GfOK X.B X.gf G) (hHead : ∀ D, D ≤ 13 → headRun X.T X.gf D = true) (hE : ∀ θ η g v, RepV (X.sw θ η) g v exitP → Con X X.T.sh g 0 v (codes "EXIT"))
variable {dr ir : Addr} (hdr : DrawRun X.T X.gf dr) (hir : RightRun X.T X.gf ir) {L : LawFr} (hsc : ScOK L.sc) {A : Around} {c : Env} {F : Addr} {d : Nat} (am : Amb X d A c [] F c)
include O hG hHead hE hdr hir hsc am

set_option tactic.hygienic false in
theorem noPX {X' : Fix} {S : Addr → Prop} {g : GW} {s s' : Shared} {e : Value} {l : List Env} {F : Addr} (q : PX X' S l F g s (fun zz  => false) e s') : False := by
  obtain ⟨zz, zz, ⟨⟨zz, zz, zz, zz, zz, zz, zz, zz, hq⟩, zz, zz⟩⟩ := q
  cases hq

theorem way_ok {nW nD : Str} {w : Int} {st : Stmt} {pD pos : Pos} {iter : Expr} {bodyIn : List Stmt} (hd : 24 * 20 + 25 ≤ d) (hnD : lk nD L.sc.names = some .local) (hi : notSet iter = true) (hw : lk nW (lawVars [(nW, PV.int w)]) = some (.int w))
    (run0 : Mine.execs (lawL X.T X.gf dr ir 0) [st] (L.fr (put nW (.int w) [(nPen, .lst 0)])) [penP 5] (k0 X.T X.gf [(nW, .int w)]) (fun zz  => false) = true)
    (run1 : evSrc ⟨X.T, X.gf, tower X.T X.gf (spLaw dr ir 0) 24⟩ (lawL X.T X.gf dr ir 0) iter (L.fr (lawVars [(nW, .int w)])) [penP 5] (kRng 13) (fun zz  => false) = true)
    (ht : ∀ u0 e, u0 ≤ 300 → e ≤ 13 → TurnOK X L A c nD bodyIn [(nW, .int w)] (fun i  => u0 + 2 * i) e) :
    WayOK X L A c nW [st, .For (.Name nD pD) iter bodyIn [] pos] w := by
  intro u g s hu wh
  have hgood : ∀ i : Nat, (fun _ : Nat => ([32] : List Nat)) i ≠ [] ∧ ((fun _ : Nat => ([32] : List Nat)) i).length ≤ 4096 := fun zz  => ⟨by simp, by simp⟩
  obtain ⟨O', HX, H⟩ := lawL_ok (n := 0) (u := u) (t := [32]) O hG hHead hE hdr hir hsc am (by (with_reducible exact Mine.ar83)) (by (with_reducible exact Mine.ar99 (by assumption))) (by simp) (by simp)
  refine start_ok O hG hHead hE hdr hir hsc am (u := u) (n := 24 * (0 + 1) + 25) penW_XL HX (by (with_reducible exact Mine.ar13 (by assumption))) wh run0 fun g₁ s₁ ls₁ k₁ sg₁  => ?_
  rw [arm_execs_cons]
  refine wpAny_bind (forRng_ok O hG hHead hE hdr hir hsc am (u := u + 1) (b := 13) (by (with_reducible exact Mine.ar102 (by assumption))) (by decide) hd hnD hi ls₁ (fun x q hq  => ?_) run1 (fun e he  => ht _ e (by (with_reducible exact Mine.ar103 (by assumption))) he) fun e g₂ s₂ he ls₂ k₂ sg₂  => ?_)
  · dsimp only [lk] at hq
    split at hq
    · rename_i hx
      have := eqS_eq hx
      subst this
      cases hq
      exact ⟨hw, w, rfl⟩
    · cases hq
  · show wpAny _ _ (PySem.execs [] c) _ _ _
    rw [arm_execs_nil]
    obtain ⟨g₃, p₃, k₃, sg₃⟩ := ls_p0 O hG hHead hE hdr hir hsc am (u' := u + 30) (ar104 he) ls₂
    exact wpAny_pure ⟨rfl, g₃, p₃, (k₁.trans k₂).trans k₃, (sg₁.trans sg₂).trans sg₃⟩

theorem ways_loop {nW : Str} {pW : Pos} {body : List Stmt} (hnW : lk nW L.sc.names = some .local) {I : Addr} {RR : Result → Shared → Prop} : ∀ (is : List Int) u g s t, (∀ w ∈ is, WayOK X L A c nW body w) → u + 30 * is.length ≤ 200 → P0 X L c [c] u g s → TupInts X g s.heap I t is → Own X g I →
      (∀ g' s', P0 X L c [c] (u + 30 * is.length) g' s' → SameG g s g' s' → RR (.ok .next) s') → codeAny (model X.prog X.w) A (.forLoop (.Name nW pW) (.ref I) body [] c) RR s := by
  intro is
  induction is with
  | nil =>
    intro u g s t hw hu w ⟨vs, n, i, ⟨oI, hoI, hcI, hdI⟩, h2, h3⟩ own hend
    have hgood : ∀ i : Nat, (fun _ : Nat => ([32] : List Nat)) i ≠ [] ∧ ((fun _ : Nat => ([32] : List Nat)) i).length ≤ 4096 := fun zz  => ⟨by simp, by simp⟩
    have O' : FixOK (XL X 0 [32] u) := O.sw hgood
    have own' : ∀ b ∈ [I], Own (XL X 0 [32] u) g b := fun b hb  => by
      have : b = I := by simpa using hb
      subst this; exact ⟨own.nf, own.nl, own.nP⟩
    refine for_turn (wpAny_mono (next_ok (X := XL X 0 [32] u) O' (l := [c]) (target := .Name nW pW) (src := .tup []) (r := none) am.hd w.R (ws := [I]) ⟨rfl, t, vs, n, i, ⟨oI, hoI, hcI, hdI⟩, h2, repL_ints (is := []) h3⟩ own' rfl rfl (E := fun zz zz  => False)) (fun r s₂ hr  => ?_) fun zz zz q  => q.elim)
    obtain ⟨rfl, t', R'⟩ := hr
    have w' := w.iter t' R' hoI (by intro es n q; rw [hdI] at q; cases q) (by intro v q; rw [hdI] at q; cases q)
    exact hend g s₂ w' t'.same
  | cons x r ih =>
    intro u g s t hw hu w ⟨vs, n, i, ⟨oI, hoI, hcI, hdI⟩, h2, h3⟩ own hend
    have hgood : ∀ i : Nat, (fun _ : Nat => ([32] : List Nat)) i ≠ [] ∧ ((fun _ : Nat => ([32] : List Nat)) i).length ≤ 4096 := fun zz  => ⟨by simp, by simp⟩
    have O' : FixOK (XL X 0 [32] u) := O.sw hgood
    have own' : ∀ b ∈ [I], Own (XL X 0 [32] u) g b := fun b hb  => by
      have : b = I := by simpa using hb
      subst this; exact ⟨own.nf, own.nl, own.nP⟩
    rw [List.length_cons] at hu hend
    refine for_turn (wpAny_mono (next_ok (X := XL X 0 [32] u) O' (l := [c]) (target := .Name nW pW) (src := .tup (.int x :: r.map PV.int)) (r := some (.int x, .tup (r.map PV.int))) am.hd w.R (ws := [I]) ⟨rfl, t, vs, n, i, ⟨oI, hoI, hcI, hdI⟩, h2, repL_ints (is := x :: r) h3⟩ own' rfl rfl (E := fun zz zz  => False)) (fun r s₂ hr  => ?_) fun zz zz q  => q.elim)
    obtain ⟨v, rfl, hv⟩ := hr
    refine wpAny_mono hv (fun zz s₃ h3  => ?_) fun zz zz q  => q.elim
    obtain ⟨g₃, t₃, R₃, rv, zz, t', vs', n', i', ⟨oJ, hoJ, hcJ, hdJ⟩, hΓ', hrep'⟩ := h3
    have w₃ := w.iter t₃ R₃ hoI (by intro es n q; rw [hdI] at q; cases q) (by intro v q; rw [hdI] at q; cases q)
    have own₃ : Own (XL X 0 [32] u) g₃ I := (own' I (by simp)).step t₃.st hoI
    have hass : assN 3 (.Name nW pW) (.int x) (L.fr [(nPen, .lst 0)]) = some (L.fr (put nW (.int x) [(nPen, .lst 0)])) := by
      show ass1 nW (.int x) (L.fr [(nPen, .lst 0)]) = _
      show (match lk nW L.sc.names with | some .local => _ | some .cell => _ | _ => _) = _
      rw [hnW]; rfl
    refine wpAny_mono (assN_ok (X := XL X 0 [32] u) (l := [c]) (k := fun ρ  => pdec (ρ = L.fr (put nW (.int x) [(nPen, .lst 0)]))) (E := fun zz zz  => False) am.hd 3 w₃.fr R₃ hass rv (pdec_iff.mpr rfl)) (fun zz s₄ h4  => ?_) fun zz zz q  => q.elim
    obtain ⟨ρ₄, t₄, R₄, fr₄, same₄, hk⟩ := h4
    have hρ := pdec_iff.mp hk
    subst hρ
    have w₄ := w₃.writes t₄ R₄ fr₄
    have k₄ := (keep_ws w₃ t₄).to
    obtain ⟨it₄, own₄⟩ := k₄ I _ hoJ (by intro es n q; rw [hdJ] at q; cases q) (by intro v q; rw [hdJ] at q; cases q) ⟨own₃.nf, own₃.nl, own₃.nP⟩
    refine wpAny_mono (hw x (.head _) u g₃ s₄ (by (with_reducible exact Mine.ar105 (by assumption))) w₄) (fun f s₅ h5  => ?_) fun zz zz q  => q.elim
    obtain ⟨rfl, g₅, p₅, k₅, sg₅⟩ := h5
    obtain ⟨it₅, own₅⟩ := k₅ I _ it₄ (by intro es n q; rw [hdJ] at q; cases q) (by intro v q; rw [hdJ] at q; cases q) ⟨own₄.nf, own₄.nl, own₄.nP⟩
    refine ih (u + 30) g₅ s₅ t' (fun w hw'  => hw w (.tail _ hw')) (by (with_reducible exact Mine.ar106 (by assumption))) p₅ ?_ own₅ fun g' s' hp hs  => hend g' s' ?_ (((t₃.same.trans t₄.same).trans sg₅).trans hs)
    · exact ⟨vs', n', i', ⟨oJ, it₅, hcJ, hdJ⟩, sg₅.ext _ _ hΓ', repL_ints hrep'⟩
    · rw [show u + 30 * (r.length + 1) = u + 30 + 30 * r.length by (with_reducible exact Mine.ar107)]; exact hp
theorem law_rest {nW nD : Str} {pW pD pos1 pos2 : Pos} {iterW iterD : Expr} {bodyW bodyD : List Stmt} {stP stE : Stmt} (hd : 24 * 20 + 25 ≤ d) (hnW : lk nW L.sc.names = some .local) (hnD : lk nD L.sc.names = some .local) (hiW : notSet iterW = true) (hiD : notSet iterD = true)
    (runW : evSrc ⟨X.T, X.gf, tower X.T X.gf (spLaw dr ir 0) 24⟩ (lawL X.T X.gf dr ir 0) iterW (L.fr [(nPen, .lst 0)]) [penP 5] (kWays [0, 2, 3]) (fun zz  => false) = true)
    (hways : ∀ w ∈ ([0, 2, 3] : List Int), WayOK X L A c nW bodyW w)
    (runP : Mine.execs (lawL X.T X.gf dr ir 0) [stP] (L.fr [(nPen, .lst 0)]) [penP 5] (k0 X.T X.gf []) (fun zz  => false) = true)
    (runD : evSrc ⟨X.T, X.gf, tower X.T X.gf (spLaw dr ir 0) 24⟩ (lawL X.T X.gf dr ir 0) iterD (L.fr (lawVars [])) [penP 5] (kRng 16) (fun zz  => false) = true)
    (ht : ∀ u0 e, u0 ≤ 300 → e ≤ 16 → TurnOK X L A c nD bodyD [] (fun i  => u0 + 2 * i) e)
    (runE : ∀ vs, Mine.execs (lawL X.T X.gf dr ir 0) [stE] (L.fr vs) [penP 5] kTrue (fun zz  => false) = true)
    {g : GW} {s : Shared} (w : P0 X L c [c] 0 g s) :
    wpAny (model X.prog X.w) A (PySem.execs [.For (.Name nW pW) iterW bodyW [] pos1, stP, .For (.Name nD pD) iterD bodyD [] pos2, stE] c)
      (fun f s'  => (∃ b, f = .ret (.bool b) ∧ b = true) ∧ (∀ b o, X.B.get? b = some o → s'.heap.get? b = some o) ∧ (∃ ps, s'.heap.get? X.P = some (tabObj ps)) ∧ s'.gens = s.gens ∧ s'.os = s.os) (fun zz zz  => False) s := by
  obtain ⟨O', HX, H⟩ := lawL_ok (n := 0) (u := 0) (t := [32]) O hG hHead hE hdr hir hsc am (by (with_reducible exact Mine.ar83)) (by (with_reducible exact Mine.ar83)) (by simp) (by simp)
  have am' : Amb (XL X 0 [32] 0) (24 * (0 + 1) + 25) A c [] F c := ⟨am.fr, am.hd, am.fe, am.fc, by have := am.units; (with_reducible exact Mine.ar11 (by assumption) (by assumption)), by have := am.depth; (with_reducible exact Mine.ar12 (by assumption) (by assumption))⟩
  rw [arm_execs_cons]
  refine wpAny_bind (wpAny_For (wpAny_mono (src_ok (X := XL X 0 [32] 0) O' H (cx := ⟨X.T, X.gf, tower X.T X.gf (spLaw dr ir 0) 24⟩) rfl am' w runW) (fun v s₁ h₁  => wpAny_mono h₁ (fun it s₂ h₂  => ?_) fun e s' q  => (noPX O hG hHead hE hdr hir hsc am q).elim) fun e s' q  => (noPX O hG hHead hE hdr hir hsc am q).elim) (fun x  => by cases iterW <;> first | rfl | (cases hiW; done)))
  obtain ⟨I, ws, src, g₂, σ₂, rfl, t₂, R₂, it₂, own₂, hk₂⟩ := h₂
  unfold kWays at hk₂
  split at hk₂
  · rename_i ys
    refine band3 hk₂ fun h1 h3 h4  => ?_; clear hk₂
    have hys := intsB_ok h1
    subst hys
    obtain ⟨τ, p1, p2, p3⟩ := penOk_ok h3
    obtain ⟨rfl, tt, vs, n, i, hit, hΓ, hrep⟩ := it₂
    obtain ⟨ownI, geI⟩ := own₂ I (by simp)
    have w₂ := w.step t₂ R₂
    obtain ⟨oI, hoI, hcI, hdI⟩ := id hit
    obtain ⟨g₃, p₃, x₃, k₃⟩ := p0_mk (X := X) (L := L) hsc (θ := fun zz  => [32]) (η := ηL X 0 [32] 0) (u := 0) (u' := 1) penW_XL (τ := τ) w₂ ⟨rfl, rfl, rfl, rfl⟩ rfl p3 p1 (ar6 p2)
    obtain ⟨itI, ownI₃⟩ := k₃ I _ hoI (by intro es n q; rw [hdI] at q; cases q) (by intro v q; rw [hdI] at q; cases q) ⟨ownI.nf, ownI.nl, ownI.nP⟩
    refine ways_loop O hG hHead hE hdr hir hsc am hnW [0, 2, 3] 1 g₃ s₂ tt hways (by decide) p₃ ⟨vs, n, i, ⟨oI, itI, hcI, hdI⟩, x₃ _ _ hΓ, repL_ints (is := [0, 2, 3]) hrep⟩ ownI₃ fun g₄ s₄ p₄ sg₄  => ?_
    have SG := (t₂.same.trans (.of x₃)).trans sg₄
    show wpAny (model X.prog X.w) A (PySem.execs [stP, .For (.Name nD pD) iterD bodyD [] pos2, stE] c) _ _ s₄
    obtain ⟨O4, HX4, H4⟩ := lawL_ok (n := 0) (u := 1 + 30 * ([0, 2, 3] : List Int).length) (t := [32]) O hG hHead hE hdr hir hsc am (by (with_reducible exact Mine.ar83)) (by decide) (by simp) (by simp)
    refine start_ok O hG hHead hE hdr hir hsc am (u := 1 + 30 * ([0, 2, 3] : List Int).length) (n := 24 * (0 + 1) + 25) penW_XL HX4 (by (with_reducible exact Mine.ar13 (by assumption))) p₄ runP fun g₅ s₅ ls₅ k₅ sg₅  => ?_
    rw [arm_execs_cons]
    refine wpAny_bind (forRng_ok O hG hHead hE hdr hir hsc am (b := 16) (by decide) (by decide) hd hnD hiD ls₅ (fun x q hq  => by cases hq) runD (fun e he  => ht _ e (by decide) he) fun e g₆ s₆ he ls₆ k₆ sg₆  => ?_)
    show wpAny (model X.prog X.w) A (PySem.execs [stE] c) _ _ s₆
    obtain ⟨g₇, p₇, k₇, sg₇⟩ := ls_p0 O hG hHead hE hdr hir hsc am (u' := 200) (by simp; exact ar108 (by assumption)) ls₆
    obtain ⟨O7, HX7, H7⟩ := lawL_ok (n := 0) (u := 200) (t := [32]) O hG hHead hE hdr hir hsc am (by (with_reducible exact Mine.ar83)) (by (with_reducible exact Mine.ar109)) (by simp) (by simp)
    have am7 : Amb (XL X 0 [32] 200) (24 * (0 + 1) + 25) A c [] F c := ⟨am.fr, am.hd, am.fe, am.fc, by have := am.units; (with_reducible exact Mine.ar11 (by assumption) (by assumption)), by have := am.depth; (with_reducible exact Mine.ar12 (by assumption) (by assumption))⟩
    refine wpAny_mono (execs_ok HX7 am7 [stE] p₇ (runE _)) (fun f s₈ q  => ?_) fun e s' q  => (noPX O hG hHead hE hdr hir hsc am q).elim
    obtain ⟨g₈, σ₈, ρ₈, fp, t₈, R₈, fr₈, same₈, hf, hk⟩ := q
    have SG8 := (((SG.trans sg₅).trans sg₆).trans sg₇).trans t₈.same
    unfold kTrue at hk
    split at hk
    · rename_i b
      cases f with
      | ret v =>
        have rv : RepV (XL X 0 [32] 200) g₈ v (.bool b) := hf
        obtain rfl := rv.iB
        obtain ⟨ps, hps, zz⟩ := R₈.tab.tab
        exact ⟨⟨b, rfl, hk⟩, fun b o e  => R₈.frz _ _ (R₈.base _ _ e), ⟨ps, hps⟩, SG8.gens, SG8.os⟩
      | next => exact hf.elim
      | brk => exact hf.elim
      | cont => exact hf.elim
    · cases hk
  · cases hk₂
end
end Mine
end
section
open PySem PySem.W PySem.Calls PySem.SeqAt
set_option maxRecDepth 100000
set_option linter.unusedSectionVars false
set_option linter.unusedVariables false
namespace Mine

structure PenP where
  o : Obj
  fd : FuncData
  s1 : Stmt
  nC : Str
  nS : Str
  cut : Int
  body : List Stmt
  ret : Stmt
  u : Nat
  p1 : Pos
  p2 : Pos
  p3 : Pos
  p4 : Pos
  p5 : Pos
  p6 : Pos
structure PenIs (K : Frag) (pa : Addr) (S : PenP) : Prop where
  lk : K.lookup pa = some S.o
  fd : S.o.data = .func S.fd
  good : fnOk K S.fd = true
  body : S.fd.body = .stmts [S.s1, .For (.Name S.nC S.p1) (.Subscript (.Name S.nS S.p2) (.Slice none (some (.Constant (.int S.cut) S.u S.p3)) none S.p4) S.p5) S.body [] S.p6, S.ret]

noncomputable def penBase (nS nN : Str) (z : Int) : List (Str × PV) := [(nS, .hole 0), (nN, .int z)]
noncomputable def penCell (nC : Str) (cs : List (Str × PV)) : Prop := cs = [] ∨ ∃ y, cs = [(nC, .int y)]
noncomputable def penFr (fd : FuncData) (q : Bool) (vs : List (Str × PV)) : Fr := { scope := fd.scope, vars := vs, up := [], lam := lamOf fd.scope (argsOf fd), q := q }
structure PenRun (T : Top) (gf pa : Addr) (md : Int) : Prop where
  run : ∃ S nN z0, PenIs T.K pa S ∧ 0 ≤ S.cut ∧ S.cut ≤ 60 ∧ bindP (argsOf S.fd) [.hole 0] = some [(S.nS, .hole 0)] ∧
    (∀ q z cs orc, penCell S.nC cs → nameP ⟨T, gf, orc⟩ S.nS (penFr S.fd q (penBase S.nS nN z ++ cs)) = some (.hole 0)) ∧
    (∀ q orc k kx, Mine.execs (lvl ⟨T, gf, orc⟩ lvlMax) [S.s1] (penFr S.fd q [(S.nS, .hole 0)]) [] k kx = k .next (penFr S.fd q (penBase S.nS nN z0)) []) ∧
    (∀ q orc z cs y p1 σ k kx, penCell S.nC cs → ∃ z', assT (.Name S.nC p1) (.int y) (penFr S.fd q (penBase S.nS nN z ++ cs)) (fun ρ => Mine.execs (lvl ⟨T, gf, orc⟩ lvlMax) S.body ρ σ k kx) = k .next (penFr S.fd q (penBase S.nS nN z' ++ [(S.nC, .int y)])) σ) ∧
    (∀ q orc z cs xs k kx, penCell S.nC cs → Mine.execs (lvl ⟨T, gf, orc⟩ lvlMax) [S.ret] (penFr S.fd q (penBase S.nS nN z ++ cs)) [xs] k kx = k (.ret (.lst 1)) (penFr S.fd q (penBase S.nS nN z ++ cs)) [xs, [.int z, .int 0, .int (z.fmod md)]])

set_option tactic.hygienic false in
theorem repL_intsAre {X : Fix} {g : GW} : ∀ {vs : List Value} {ns : List Int}, PyProof.Rows.IntsAre vs ns → RepL X g vs (ns.map PV.int)
  | _, _, .nil => .nil
  | _, _, .cons _ _ h => .cons (.int _ _) (repL_intsAre h)
theorem pen_loop {T : Top} {gf : Addr} {S : PenP} {nN : Str} {q : Bool} {orc : Orc} {p1 : Pos} {k : KF} {kx : KX}
    (hrun : ∀ z cs y p1 σ k kx, penCell S.nC cs → ∃ z', assT (.Name S.nC p1) (.int y) (penFr S.fd q (penBase S.nS nN z ++ cs)) (fun ρ  => Mine.execs (lvl ⟨T, gf, orc⟩ lvlMax) S.body ρ σ k kx) = k .next (penFr S.fd q (penBase S.nS nN z' ++ [(S.nC, .int y)])) σ)
    {xs : List Int} (hk : ∀ z cs, penCell S.nC cs → k .next (penFr S.fd q (penBase S.nS nN z ++ cs)) [xs.map PV.int] = true) :
    ∀ (n j : Nat) z cs, penCell S.nC cs → j ≤ xs.length → xs.length < n + j → forGo (lvl ⟨T, gf, orc⟩ lvlMax) (.Name S.nC p1) S.body kx n (.lst 0 j) (penFr S.fd q (penBase S.nS nN z ++ cs)) [xs.map PV.int] k = true
  | 0, j, z, cs, hc, hj, hl => by omega
  | n + 1, j, z, cs, hc, hj0, hl => by
    rw [forGo]
    have e0 : Src.next [xs.map PV.int] (.lst 0 j) = (match (xs.map PV.int)[j]? with | some x => some (some (x, .lst 0 (j + 1))) | none => some none) := rfl
    rw [e0, List.getElem?_map]
    cases hj : xs[j]? with
    | none => exact hk z cs hc
    | some y =>
      dsimp only [Option.map]
      obtain ⟨z', hz⟩ := hrun z cs y p1 [xs.map PV.int] (fun fl ρ σ  => match fl with
        | .next => forGo (lvl ⟨T, gf, orc⟩ lvlMax) (.Name S.nC p1) S.body kx n (.lst 0 (j + 1)) ρ σ k
        | .ret p => k (.ret p) ρ σ) kx hc
      refine hz.trans ?_
      exact pen_loop hrun hk n (j + 1) z' _ (.inr ⟨y, rfl⟩) (List.getElem?_eq_some_iff.mp hj).1 (by (with_reducible exact Mine.ar118 (by assumption)))

section
variable {X : Fix} (O : FixOK X) {G : GfD} (hG : GfOK X.B X.gf G) {pa sl : Addr} {md : Int} (hP : PenRun X.T X.gf pa md) {its : List Value} {ns : List Int} (hl : X.B.IsList sl its.toArray) (hi : PyProof.Rows.IntsAre its ns) (hη : ∀ Γ v, X.η 0 Γ v → v = .ref sl)
include O hG hP hl hi hη
theorem pen_call {d : Nat} {A : Around} {fe : Env} {outer : List Env} {F : Addr} {g : GW} {s : Shared} {kx : KX} (am : Amb X (d + 1) A fe outer F fe) (R : HR X g [] s.heap) (fs : FramesOK X g s.heap (fe :: outer)) {k : KV} {vs : List Value} (q : RepL X g vs [.hole 0])
    (hn : ns.length ≤ 64) (hk : ∀ z xs, k (.lst 1) [xs, [.int z, .int 0, .int (z.fmod md)]] = true) :
    wpAny (model X.prog X.w) A (call (.ref pa) vs) (VG X noS (fe :: outer) g s (RV X k)) (PX X noS (fe :: outer) F g s kx) s := by
  obtain ⟨S, nN, z0, hS, c0, c1, hbs, r0, r1, r2, r3⟩ := hP.run
  obtain ⟨hK, ho, hf, hb⟩ := hS
  have hll : vs.length = (S.fd.params.args.map (·.arg)).length := by
    have := bindP_len hbs
    unfold argsOf at this
    rw [this, q.length]
  refine callDef_genB O am R fs hK ho hf hb hll (fun h  => bind_given O R hf hll h) ?_
  intro A₁ env F₁ g₁ s₁ am₁ t₁ mk
  have w := mk _ _ hbs q
  have O0 : OrcOK X d (fun zz zz zz zz zz  => false) := fun {_ _ _ _ _ _ _ _ _ _ _ _ _} _ _ _ _ _ h => by cases h
  have HX : ExOK X d (lvl ⟨X.T, X.gf, fun zz zz zz zz zz  => false⟩ lvlMax) := lvlX_ok O (raise_ok O hG d) rfl rfl O0 lvlMax
  have H : LvOK X d (lvl ⟨X.T, X.gf, fun zz zz zz zz zz  => false⟩ lvlMax) := lvl_ok O rfl O0 lvlMax
  have run1 := r1 (Nat.beq pa X.T.sh) (fun zz zz zz zz zz  => false) (fun fl ρ σ  => pdec (fl = .next ∧ ρ = penFr S.fd (Nat.beq pa X.T.sh) (penBase S.nS nN z0) ∧ σ = [])) kx
  have run1' := run1.trans (pdec_iff.mpr ⟨rfl, rfl, rfl⟩)
  refine execs_app (ss := [S.s1]) (rest := [_, S.ret]) HX am₁ w run1' (fun f s₂ qq  => ?_) fun e s' qq  => qq
  obtain ⟨g₂, σ₂, ρ₂, fp, t₂, R₂, fr₂, same₂, hf₂, hk₂⟩ := qq
  obtain ⟨rfl, rfl, rfl⟩ := pdec_iff.mp hk₂
  have w₂ := w.writes t₂ R₂ fr₂
  cases f with
  | ret v => exact hf₂.elim
  | brk => exact hf₂.elim
  | cont => exact hf₂.elim
  | next =>
  show wpAny _ _ (PySem.execs _ env) _ _ s₂
  rw [arm_execs_cons]
  have hc0 : penCell S.nC [] := .inl rfl
  -- the slice
  have hev : wpAny (model X.prog X.w) A₁ (eval (.Subscript (.Name S.nS S.p2) (.Slice none (some (.Constant (.int S.cut) S.u S.p3)) none S.p4) S.p5) env) (VG X noS (env :: fe :: outer) g₂ s₂ (RV X fun p σ'  => pdec (p = .lst 0 ∧ σ' = [(ns.take S.cut.toNat).map PV.int]))) (PX X noS (env :: fe :: outer) F₁ g₂ s₂ kx) s₂ := by
    refine wpAny_Subscript_list_slice ?_
    obtain ⟨v, rv, ev⟩ := name_val O (A := A₁) (pos := S.p2) (cx := ⟨X.T, X.gf, fun zz zz zz zz zz  => false⟩) rfl w₂ (by have := r0 (Nat.beq pa X.T.sh) z0 [] (fun zz zz zz zz zz  => false) hc0; rw [List.append_nil] at this; exact this)
    refine ev _ _ ?_
    have hv : v = .ref sl := by
      obtain ⟨zz, e, -⟩ := rv.iH
      exact hη _ _ e
    subst hv
    refine evalPart_none_step (evalPart_some_step ?_)
    show wpAny _ _ (mkInt _) _ _ _
    refine wpAny_mkInt ?_
    have hl₂ : s₂.heap.IsList sl its.toArray := by
      obtain ⟨ob, ho', r⟩ := hl
      exact ⟨ob, R₂.frz _ _ (R₂.base _ _ ho'), r⟩
    refine ⟨sl, its.toArray, none, some S.cut, rfl, hl₂, ?_, .none, .int _ _, ?_⟩
    · rw [List.size_toArray, hi.length, sizeLine_eq]; (with_reducible exact Mine.ar18 (by assumption))
    · obtain ⟨tA, RA, hoA, zz⟩ := vg_new O (s := { s₂ with toks := s₂.toks + 1 }) R₂ (l := env :: fe :: outer) (S := noS) (o := { cls := .type "slice", data := .fields #[.none, .int S.cut s₂.toks, .none] }) rfl
      have nl := new_list O (s := { s₂ with toks := s₂.toks + 1, heap := s₂.heap.push { cls := .type "slice", data := .fields #[.none, .int S.cut s₂.toks, .none] } }) RA (l := env :: fe :: outer) (S := noS) (vs := slicePick its.toArray none (some S.cut) none) (ps := (ns.take S.cut.toNat).map PV.int)
        (k := fun p σ'  => pdec (p = .lst 0 ∧ σ' = [(ns.take S.cut.toNat).map PV.int])) (repL_intsAre (kmk_upto hi c0)) (pdec_iff.mpr ⟨rfl, rfl⟩) (s₂.toks + 1)
      have nl' := (nl.base tA).base ((To.refl (X := X) (S := noS) (l := env :: fe :: outer) (g := g₂) (s := s₂)).toks (s₂.toks + 1))
      dsimp only at nl'
      rw [Heap.size_push] at nl'
      exact nl'
  have hloop : wpAny (model X.prog X.w) A₁ (exec (.For (.Name S.nC S.p1) (.Subscript (.Name S.nS S.p2) (.Slice none (some (.Constant (.int S.cut) S.u S.p3)) none S.p4) S.p5) S.body [] S.p6) env)
      (EPost X (penFr S.fd (Nat.beq pa X.T.sh) (penBase S.nS nN z0)) env (env :: fe :: outer) g₂ s₂ fun fl ρ σ  => pdec (fl = .next ∧ σ = [(ns.take S.cut.toNat).map PV.int] ∧ ∃ z cs, penCell S.nC cs ∧ ρ = penFr S.fd (Nat.beq pa X.T.sh) (penBase S.nS nN z ++ cs)))
      (PX X (WS (penFr S.fd (Nat.beq pa X.T.sh) (penBase S.nS nN z0)) env) (env :: fe :: outer) F₁ g₂ s₂ kx) s₂ := by
    refine wpAny_For (wpAny_mono hev (fun v s₃ h₃  => ?_) fun zz zz qq  => qq.monoS fun zz qq  => qq.elim) (fun x  => rfl)
    obtain ⟨g₃, σ₃, t₃, R₃, p, rp, hp⟩ := h₃
    obtain ⟨rfl, rfl⟩ := pdec_iff.mp hp
    have hit : wpAny (model X.prog X.w) A₁ (pyIter v) (SrcPost X (env :: fe :: outer) g₃ s₃ (fun src σ  => pdec (src = .lst 0 0 ∧ σ = [(ns.take S.cut.toNat).map PV.int]))) (PX X (WS (penFr S.fd (Nat.beq pa X.T.sh) (penBase S.nS nN z0)) env) (env :: fe :: outer) F₁ g₂ s₂ kx) s₃ := iterP_ok O R₃ rp (src := .lst 0 0) rfl (pdec_iff.mpr ⟨rfl, rfl⟩)
    refine wpAny_mono hit (fun it s₄ h₄  => ?_) fun zz zz qq  => qq
    obtain ⟨I, ws, src, g₄, σ₄, rfl, t₄, R₄, it₄, own₄, hk₄⟩ := h₄
    obtain ⟨rfl, rfl⟩ := pdec_iff.mp hk₄
    have w₄ := (w₂.step t₃ R₃).step t₄ R₄
    have lp : Lp X (env :: fe :: outer) env s₂.heap.objs.size g₄ s₄.heap I ws (.lst 0 0) := ⟨it₄, fun b hb  => (own₄ b hb).1, fun b hb  => Nat.le_trans t₃.st.size (own₄ b hb).2, fun hm  => by
        obtain ⟨m, hn, zz⟩ := w₂.fr.loc
        exact absurd hn.lt (Nat.not_lt.mpr (Nat.le_trans t₃.st.size (own₄ _ hm).2)), fun z a e  => by
        obtain ⟨⟨v, oc, e2, zz⟩, zz⟩ := w₂.fr.all z a e
        exact Heap.lt_size e2, fun M hM  => by
        obtain ⟨zz, zz, zz, o, ho, zz⟩ := w₂.fs.mem hM
        exact Heap.lt_size ho⟩
    refine forGo_ok (cx := ⟨X.T, X.gf, fun zz zz zz zz zz  => false⟩) O H HX rfl O0 am₁ (g := g₂) (s := s₂) (ρ₀ := penFr S.fd (Nat.beq pa X.T.sh) (penBase S.nS nN z0)) (fun zz zz  => rfl) (fun f s' q  => q) loopMax (t₃.trans t₄).noW .refl w₄ lp rfl ?_
    have := pen_loop (T := X.T) (gf := X.gf) (S := S) (nN := nN) (q := Nat.beq pa X.T.sh) (orc := fun zz zz zz zz zz  => false) (p1 := S.p1) (kx := kx) (k := fun fl ρ σ  => pdec (fl = .next ∧ σ = [(ns.take S.cut.toNat).map PV.int] ∧ ∃ z cs, penCell S.nC cs ∧ ρ = penFr S.fd (Nat.beq pa X.T.sh) (penBase S.nS nN z ++ cs)))
      (fun z cs y p1 σ k kx hc  => r2 _ _ z cs y p1 σ k kx hc) (xs := ns.take S.cut.toNat) (fun z cs hc  => pdec_iff.mpr ⟨rfl, rfl, z, cs, hc, rfl⟩) loopMax 0 z0 [] hc0 (Nat.zero_le _) (by
        rw [List.length_take]; show _ < 256; omega)
    rw [List.append_nil] at this
    exact this
  refine wpAny_bind (wpAny_mono hloop (fun f s₃ h₃  => ?_) fun e s' qq  => qq.baseW t₂ ⟨same₂.scope, same₂.up, same₂.lam, same₂.q⟩)
  obtain ⟨g₃, σ₃, ρ₃, fp, t₃, R₃, fr₃, same₃, hf₃, hk₃⟩ := h₃
  obtain ⟨rfl, rfl, z, cs, hc, rfl⟩ := pdec_iff.mp hk₃
  have w₃ := w₂.writes t₃ R₃ fr₃
  cases f with
  | ret v => exact hf₃.elim
  | brk => exact hf₃.elim
  | cont => exact hf₃.elim
  | next =>
  show wpAny _ _ (PySem.execs [S.ret] env) _ _ s₃
  have run3 := r3 (Nat.beq pa X.T.sh) (fun zz zz zz zz zz  => false) z cs ((ns.take S.cut.toNat).map PV.int) (fun fl ρ σ  => match fl with | .ret p => k p σ | _ => false) kx hc
  have T₃ : To X (WS (penFr S.fd (Nat.beq pa X.T.sh) [])  env) (env :: fe :: outer) g₁ s₁ g₃ s₃ := t₂.trans t₃
  refine wpAny_mono (execs_ok HX am₁ [S.ret] w₃ (run3.trans (hk _ _))) (fun f s₄ h₄  => ?_) fun e s' qq  => qq.base T₃
  obtain ⟨g₄, σ₄, ρ₄, fp, t₄, R₄, fr₄, same₄, hf₄, hk₄⟩ := h₄
  cases fp with
  | next => cases hk₄
  | ret p =>
    cases f with
    | ret v => exact ⟨g₄, σ₄, T₃.trans t₄, R₄, p, hf₄, hk₄, rfl⟩
    | next => exact hf₄.elim
    | brk => exact hf₄.elim
    | cont => exact hf₄.elim
end
end Mine
end
section
open PySem PySem.W PySem.Calls PySem.SeqAt
set_option maxRecDepth 100000
set_option linter.unusedSectionVars false
set_option linter.unusedVariables false
namespace Mine

/-! lists of good pairs -/
mutual
noncomputable def pvEqb (a b : PV) : Bool := match a with
  | .none => nilP false b true
  | .bool x => (match b with | .bool y => x == y | _ => false)
  | .int x => pintK false b fun y => x == y
  | .str x => pstrK false b fun y => eqL x y
  | .tup x => ptupK false b fun y => pvEqbL x y
  | .hole x => pholeK false b fun y => Nat.beq x y
  | _ => false
noncomputable def pvEqbL (a b : List PV) : Bool := match a with
  | [] => nilK false b true
  | p :: r => consK false b fun q s => pvEqb p q && pvEqbL r s
end
mutual
theorem pvEqb_ok : ∀ a b : PV, pvEqb a b = true → a = b
  | .none, b, h => nilPE (P := fun b => PV.none = b) h fT fun _ => rfl
  | .bool a, b, h => by
    cases b with
    | bool b => exact congrArg PV.bool (eq_of_beq h)
    | _ => exact absF h
  | .int a, b, h => pintE (P := fun b => PV.int a = b) h fT fun _ h => congrArg PV.int (eq_of_beq h)
  | .str a, b, h => pstrE (P := fun b => PV.str a = b) h fT fun _ h => congrArg PV.str (eqL_eq h)
  | .tup a, b, h => ptupE (P := fun b => PV.tup a = b) h fT fun _ h => congrArg PV.tup (pvEqbL_ok a _ h)
  | .hole a, b, h => pholeE (P := fun b => PV.hole a = b) h fT fun _ h => congrArg PV.hole (Nat.eq_of_beq_eq_true h)
  | .lst _, b, h => absF h
  | .old _, b, h => absF h
  | .dct _ _, b, h => absF h
  | .clos .., b, h => absF h
theorem pvEqbL_ok : ∀ a b : List PV, pvEqbL a b = true → a = b
  | [], b, h => nilE (P := fun b => [] = b) h fT fun _ => rfl
  | a :: r, b, h => consE (P := fun b => a :: r = b) h fT fun c s h => band2 h fun h1 h2 => by rw [pvEqb_ok a c h1, pvEqbL_ok r s h2]
end
noncomputable def goodIn (l : List (PV × List Nat)) (p : PV) (r : List Nat) : Bool := l.any fun x => eqL x.2 r && pvEqb x.1 p
theorem goodIn_ok {T : Top} {gf : Addr} {l : List (PV × List Nat)} (h : ∀ x ∈ l, goodP T gf x.1 x.2 = true) (p : PV) (r : List Nat) (e : goodIn l p r = true) : goodP T gf p r = true := by
  obtain ⟨x, hx, e⟩ := List.any_eq_true.mp e
  rw [Bool.and_eq_true] at e
  have e1 := eqL_eq e.1
  have e2 := pvEqb_ok _ _ e.2
  rw [← e1, ← e2]; exact h x hx

/-! the law's parts -/
structure LawP where
  stA : Stmt
  stC : Stmt
  x1 : Stmt
  if1 : Stmt
  stP : Stmt
  ys : List Stmt
  if2 : Stmt
  stE : Stmt
  nW : Str
  nD : Str
  iW : Expr
  i1 : Expr
  i2 : Expr
  p1 : Pos
  p2 : Pos
  p3 : Pos
  p4 : Pos
  p5 : Pos
  p6 : Pos
structure LawIs (b : List Stmt) (S : LawP) : Prop where
  body : b = [S.stA, .For (.Name S.nW S.p1) S.iW [S.stC, .For (.Name S.nD S.p2) S.i1 [S.x1, S.if1] [] S.p3] [] S.p4, S.stP, .For (.Name S.nD S.p5) S.i2 (S.ys ++ [S.if2]) [] S.p6, S.stE]
  n1 : notSet S.iW = true
  n2 : notSet S.i1 = true
  n3 : notSet S.i2 = true
noncomputable def orcPen (pa : Nat) (md : Int) : Orc := fun f args σ k _ => match f with
  | .old a => (match args with
    | [.hole i] => Nat.beq a pa && Nat.beq i 0 && σ.isEmpty && pdec (∀ z xs, k (.lst 1) [xs, [.int z, .int 0, .int (z.fmod md)]] = true)
    | _ => false)
  | _ => false
noncomputable def ηS (sl : Addr) : Nat → (Addr → Option Obj) → Value → Prop := fun i _ v => i = 0 ∧ v = .ref sl
theorem orcPen_ok {X : Fix} (O : FixOK X) {G : GfD} (hG : GfOK X.B X.gf G) {pa sl : Addr} {md : Int} (hP : PenRun X.T X.gf pa md) {its : List Value} {ns : List Int} (hl : X.B.IsList sl its.toArray) (hi : PyProof.Rows.IntsAre its ns) (hη : ∀ Γ v, X.η 0 Γ v → v = .ref sl) (hn : ns.length ≤ 64) {d : Nat} : OrcOK X (d + 1) (orcPen pa md) := by
  intro A fe outer F g σ s v c vs ps k kx am R fs r q h
  unfold orcPen at h
  split at h
  · obtain ⟨o, rfl, e⟩ := r.iO
    · split at h
      · refine band4 h fun h1 h2 h3 h4 => ?_; clear h
        have e1 := Nat.eq_of_beq_eq_true h1
        have e2 := Nat.eq_of_beq_eq_true h2
        have e3 : σ = [] := by simpa using h3
        subst e1; subst e2; subst e3
        exact pen_call O hG hP hl hi hη am R fs q hn (pdec_iff.mp h4)
      · cases h
  · cases h
structure LawRun (T : Top) (gf dr ir pa : Addr) (L : LawFr) (nS : Str) (good : PV → List Nat → Bool) (S : LawP) : Prop where
  lS : lk nPen [(nS, PV.hole 0), (nPen, PV.lst 1)] = some (PV.lst 1)
  nW : lk S.nW L.sc.names = some .local
  nD : lk S.nD L.sc.names = some .local
  lW : ∀ w ∈ ([0, 2, 3] : List Int), lk S.nW (lawVars [(S.nW, PV.int w)]) = some (.int w)
  runA : ∀ (orc : Orc) k kx, Mine.execs (lvl ⟨T, gf, orc⟩ lvlMax) [S.stA] (L.fr [(nS, .hole 0)]) [] k kx = orc (.old pa) [.hole 0] [] (fun p σ => k .next (L.fr [(nS, .hole 0), (nPen, p)]) σ) kx
  runW : evSrc ⟨T, gf, tower T gf (spLaw dr ir 0) 24⟩ (lawL T gf dr ir 0) S.iW (L.fr [(nPen, .lst 0)]) [penP 5] (kWays [0, 2, 3]) (fun _ => false) = true
  run0 : ∀ w ∈ ([0, 2, 3] : List Int), Mine.execs (lawL T gf dr ir 0) [S.stC] (L.fr (put S.nW (.int w) [(nPen, .lst 0)])) [penP 5] (k0 T gf [(S.nW, .int w)]) (fun _ => false) = true
  run1 : ∀ w ∈ ([0, 2, 3] : List Int), evSrc ⟨T, gf, tower T gf (spLaw dr ir 0) 24⟩ (lawL T gf dr ir 0) S.i1 (L.fr (lawVars [(S.nW, .int w)])) [penP 5] (kRng 13) (fun _ => false) = true
  runT1 : ∀ w ∈ ([0, 2, 3] : List Int), ∀ i, i < 13 → Mine.execs (lawL T gf dr ir i) [S.x1] (L.fr (put S.nD (.hole 1) (lawVars [(S.nW, .int w)]))) [penP 5] (kA good S.nD [(S.nW, .int w)]) (fun _ => false) = true
  runI1 : ∀ w ∈ ([0, 2, 3] : List Int), ∀ i, i < 13 → Mine.execs (lawL T gf dr ir (i + 1)) [S.if1] (L.fr (lawVars [(S.nD, .int ((i : Int) + 1)), (S.nW, .int w)])) [penP 5] (kB [(S.nW, .int w)]) (fun _ => false) = true
  runP : Mine.execs (lawL T gf dr ir 0) [S.stP] (L.fr [(nPen, .lst 0)]) [penP 5] (k0 T gf []) (fun _ => false) = true
  runD : evSrc ⟨T, gf, tower T gf (spLaw dr ir 0) 24⟩ (lawL T gf dr ir 0) S.i2 (L.fr (lawVars [])) [penP 5] (kRng 16) (fun _ => false) = true
  runT2 : ∀ i, i < 16 → Mine.execs (lawL T gf dr ir i) S.ys (L.fr (put S.nD (.hole 1) (lawVars []))) [penP 5] (kA good S.nD []) (fun _ => false) = true
  runI2 : ∀ i, i < 16 → Mine.execs (lawL T gf dr ir (i + 1)) [S.if2] (L.fr (lawVars [(S.nD, .hole 2)])) [penP 5] (kB []) (fun _ => false) = true
  runE : ∀ vs, Mine.execs (lawL T gf dr ir 0) [S.stE] (L.fr vs) [penP 5] kTrue (fun _ => false) = true

section
variable {X : Fix} (O : FixOK X) {G : GfD} (hG : GfOK X.B X.gf G) (hHead : ∀ D, D ≤ 13 → headRun X.T X.gf D = true) (hE : ∀ θ η g v, RepV (X.sw θ η) g v exitP → Con X X.T.sh g 0 v (codes "EXIT"))
variable {dr ir : Addr} (hdr : DrawRun X.T X.gf dr) (hir : RightRun X.T X.gf ir) {L : LawFr} (hsc : ScOK L.sc) {A : Around} {c : Env} {F : Addr} {d : Nat} (am : Amb X d A c [] F c)
include O hG hHead hE hdr hir hsc am

theorem law_all {pa sl : Addr} (hP : PenRun X.T X.gf pa 999979) {its : List Value} {ns : List Int} (hl : X.B.IsList sl its.toArray) (hi : PyProof.Rows.IntsAre its ns) (hn : ns.length ≤ 64) (hd : 24 * 20 + 25 ≤ d) {nS : Str} {good : PV → List Nat → Bool} (hgood : ∀ p r, good p r = true → goodP X.T X.gf p r = true)
    {body : List Stmt} {S : LawP} (hS : LawIs body S) (hR : LawRun X.T X.gf dr ir pa L nS good S) {g : GW} {s : Shared} (w : Wh (X.sw (fun _ => [32]) (ηS sl)) (L.fr [(nS, .hole 0)]) c [c] g [] s) :
    wpAny (model X.prog X.w) A (PySem.execs body c)
      (fun f s' => (∃ b, f = .ret (.bool b) ∧ b = true) ∧ (∀ b o, X.B.get? b = some o → s'.heap.get? b = some o) ∧ (∃ ps, s'.heap.get? X.P = some (tabObj ps)) ∧ s'.gens = s.gens ∧ s'.os = s.os) (fun _ _ => False) s := by
  obtain ⟨rfl, n1, n2, n3⟩ := hS
  have hgo : ∀ i : Nat, (fun _ : Nat => ([32] : List Nat)) i ≠ [] ∧ ((fun _ : Nat => ([32] : List Nat)) i).length ≤ 4096 := fun _ => ⟨by simp, by simp⟩
  have O' : FixOK (X.sw (fun _ => [32]) (ηS sl)) := O.sw hgo
  have hO : OrcOK (X.sw (fun _ => [32]) (ηS sl)) (20 + 1) (orcPen pa 999979) := orcPen_ok O' (G := G) hG hP hl hi (fun Γ v h => h.2) hn
  have HX : ExOK (X.sw (fun _ => [32]) (ηS sl)) (20 + 1) (lvl ⟨X.T, X.gf, orcPen pa 999979⟩ lvlMax) := lvlX_ok O' (raise_ok O' (G := G) hG _) rfl rfl hO lvlMax
  have am' : Amb (X.sw (fun _ => [32]) (ηS sl)) (20 + 1) A c [] F c := ⟨am.fr, am.hd, am.fe, am.fc, by have := am.units; (with_reducible exact Mine.ar14 (by assumption) (by assumption)), by have := am.depth; (with_reducible exact Mine.ar15 (by assumption) (by assumption))⟩
  have r0 := hR.runA (orcPen pa 999979) (fun fl ρ σ => pdec (fl = .next ∧ ρ = L.fr [(nS, .hole 0), (nPen, .lst 1)] ∧ ∃ z xs, σ = [xs, [.int z, .int 0, .int (z.fmod 999979)]])) (fun _ => false)
  have r1 : Mine.execs (lvl ⟨X.T, X.gf, orcPen pa 999979⟩ lvlMax) [S.stA] (L.fr [(nS, .hole 0)]) [] (fun fl ρ σ => pdec (fl = .next ∧ ρ = L.fr [(nS, .hole 0), (nPen, .lst 1)] ∧ ∃ z xs, σ = [xs, [.int z, .int 0, .int (z.fmod 999979)]])) (fun _ => false) = true := by
    rw [r0]
    show (Nat.beq pa pa && Nat.beq 0 0 && ([] : Sto).isEmpty && pdec _) = true
    rw [Nat.beq_refl, Nat.beq_refl]
    exact pdec_iff.mpr fun z xs => pdec_iff.mpr ⟨rfl, rfl, z, xs, rfl⟩
  refine execs_app (ss := [S.stA]) (rest := [_, _, _, _]) HX am' w r1 (fun f s₁ q => ?_) fun e s' q => (noPX O hG hHead hE hdr hir hsc am q).elim
  obtain ⟨g₁, σ₁, ρ₁, fp, t₁, R₁, fr₁, same₁, hf₁, hk₁⟩ := q
  obtain ⟨rfl, rfl, z, xs, rfl⟩ := pdec_iff.mp hk₁
  have w₁ := w.writes t₁ R₁ fr₁
  cases f with
  | ret v => exact hf₁.elim
  | brk => exact hf₁.elim
  | cont => exact hf₁.elim
  | next =>
  have hpen : lk nPen (L.fr [(nS, .hole 0), (nPen, .lst 1)]).vars = some (.lst 1) := hR.lS
  obtain ⟨g₂, p₂, x₂, k₂⟩ := p0_gen (X := X) (L := L) hsc (θ := fun _ => [32]) (η := ηS sl) (u' := 0) (i0 := 1) (xs0 := [.int z, .int 0, .int (z.fmod 999979)]) w₁ ⟨rfl, rfl, rfl, rfl⟩ hpen rfl (fun {g' vs} x r => by
    obtain ⟨_, _, _, rfl, a, b, c⟩ := r.three
    obtain ⟨_, rfl⟩ := a.iI
    obtain ⟨_, rfl⟩ := b.iI
    obtain ⟨_, rfl⟩ := c.iI
    · · · have hz1 : 0 ≤ z.fmod 999979 := by rw [Int.fmod_eq_emod_of_nonneg z (by decide)]; exact Int.emod_nonneg z (by decide)
          have hz2 : z.fmod 999979 < 999979 := by rw [Int.fmod_eq_emod_of_nonneg z (by decide)]; exact Int.emod_lt_of_pos z (by decide)
          exact .cons (.hole (Γ₀ := fun _ => none) 3 (show ηL X 0 [32] 0 3 (fun _ => none) _ from ⟨_, _, rfl⟩) fun _ _ e => nomatch e) (.cons (.hole (Γ₀ := fun _ => none) 5 (show ηL X 0 [32] 0 5 (fun _ => none) _ from ⟨_, _, rfl, Int.le_refl _, by decide⟩) fun _ _ e => nomatch e) (.cons (.hole (Γ₀ := fun _ => none) 4 (show ηL X 0 [32] 0 4 (fun _ => none) _ from ⟨_, _, rfl, hz1, hz2⟩) fun _ _ e => nomatch e) .nil)))
  show wpAny _ _ (PySem.execs [_, _, _, _] c) _ _ s₁
  have hturn1 : ∀ w ∈ ([0, 2, 3] : List Int), ∀ u0 e, u0 ≤ 300 → e ≤ 13 → TurnOK X L A c S.nD [S.x1, S.if1] [(S.nW, .int w)] (fun i => u0 + 2 * i) e := fun w hw u0 e hu he =>
    turn_ok O hG hHead hE hdr hir hsc am hgood (bodyA := [S.x1]) (ifSt := S.if1) (dv := fun i => .int ((i : Int) + 1)) (by (with_reducible exact Mine.ar110 (by assumption))) (by (with_reducible exact Mine.ar112 (by assumption) (by assumption))) (by (with_reducible exact Mine.ar114 (by assumption) (by assumption))) (fun _ => .inr rfl) (fun i hi => hR.runT1 w hw i (by (with_reducible exact Mine.ar116 (by assumption) (by assumption)))) (fun i hi => hR.runI1 w hw i (by (with_reducible exact Mine.ar116 (by assumption) (by assumption))))
  have hturn2 : ∀ u0 e, u0 ≤ 300 → e ≤ 16 → TurnOK X L A c S.nD (S.ys ++ [S.if2]) [] (fun i => u0 + 2 * i) e := fun u0 e hu he =>
    turn_ok O hG hHead hE hdr hir hsc am hgood (bodyA := S.ys) (ifSt := S.if2) (dv := fun i => .hole 2) (by (with_reducible exact Mine.ar111 (by assumption))) (by (with_reducible exact Mine.ar113 (by assumption) (by assumption))) (by (with_reducible exact Mine.ar115 (by assumption) (by assumption))) (fun _ => .inl rfl) (fun i hi => hR.runT2 i (by (with_reducible exact Mine.ar117 (by assumption) (by assumption)))) (fun i hi => hR.runI2 i (by (with_reducible exact Mine.ar117 (by assumption) (by assumption))))
  refine wpAny_mono (law_rest O hG hHead hE hdr hir hsc am hd hR.nW hR.nD n1 n3 hR.runW (fun w hw => way_ok O hG hHead hE hdr hir hsc am hd hR.nD n2 (hR.lW w hw) (hR.run0 w hw) (hR.run1 w hw) (hturn1 w hw)) hR.runP hR.runD hturn2 hR.runE p₂) (fun f s' q => ?_) fun _ _ q => q
  obtain ⟨q1, q2, q3, q4, q5⟩ := q
  exact ⟨q1, q2, q3, q4.trans t₁.gens, q5.trans t₁.os⟩
end
end Mine
end
section
open PySem PySem.W PySem.Calls PySem.SeqAt
set_option maxRecDepth 100000
set_option linter.unusedSectionVars false
set_option linter.unusedVariables false
namespace Mine

/-! facts of the written part, read off it -/
noncomputable def keyStr : Value → Str
  | .str x _ => x
  | _ => Str.ofString ""
noncomputable def isKeyStr : Value → Bool
  | .str _ _ => true
  | _ => false
noncomputable def esAt (K : Frag) (a : Addr) : List DictEntry := match K.lookup a with
  | some ⟨_, _, .dict es _, _⟩ => es.toList
  | _ => []
noncomputable def epAt (K : Frag) (a : Addr) : Nat := match K.lookup a with
  | some ⟨_, _, .dict _ n, _⟩ => n
  | _ => 0
noncomputable def isDictAt (K : Frag) (a : Addr) : Bool := match K.lookup a with
  | some ⟨_, _, .dict es _, _⟩ => es.toList.all fun e => isKeyStr e.key
  | _ => false
noncomputable def isPlainDict (K : Frag) (a : Addr) : Bool := match K.lookup a with
  | some ⟨c, d, .dict _ _, sl⟩ => (match c with | .type t => t == "dict" | _ => false) && d.isNone && sl.size == 0
  | _ => false
theorem dict_at {K : Frag} {a : Addr} (h : isDictAt K a = true) : ∃ o, K.lookup a = some o ∧ o.data = .dict (esAt K a).toArray (epAt K a) ∧ StrKeys (esAt K a).toArray := by
  unfold isDictAt at h
  split at h
  · rename_i es n _ e
    refine ⟨_, e, ?_, ?_⟩
    · unfold esAt epAt; rw [e]
    · unfold esAt; rw [e]
      intro en hen
      have hm : en ∈ es.toList := by simpa using hen
      have := (List.all_eq_true.mp h) en hm
      cases hk : en.key with
      | str x t => exact ⟨x, t, rfl⟩
      | _ => rw [hk] at this; cases this
  · cases h
set_option tactic.hygienic false in
theorem ns_at {K : Frag} {h : Heap} (X : K.In h) {a : Addr} (e : isDictAt K a = true) : h.Ns a (nsFind (esAt K a).toArray) :=
  let ⟨o, h1, h2, h3⟩ := dict_at e; ⟨o, _, _, X _ _ h1, h2, h3, fun zz  => rfl⟩
set_option tactic.hygienic false in
theorem glob_at {K : Frag} (e : isDictAt K mainGlobals = true) : ∃ o es ep, K.lookup mainGlobals = some o ∧ o.data = .dict es ep ∧ StrKeys es := let ⟨o, h1, h2, h3⟩ := dict_at e; ⟨o, _, _, h1, h2, h3⟩

set_option tactic.hygienic false in
theorem dictOf_at {prog : Program} {w : World} {K : Frag} {h : Heap} (X : K.In h) {a : Addr} (e : isDictAt K a = true) (e2 : isPlainDict K a = true) (e3 : (esAt K a).map (·.hash) = (esAt K a).map fun en  => PyData.keyHash w.params (keyStr en.key)) (e4 : distinctS ((esAt K a).map fun en  => keyStr en.key) = true) :
    ∃ kvs, h.DictOf (strKind prog w) a kvs := by
  obtain ⟨o, h1, h2, h3⟩ := dict_at e
  have hex : o.ExactDict := by
    unfold isPlainDict at e2
    rw [h1] at e2
    obtain ⟨c, d, dt, sl⟩ := o
    simp only at h2
    subst h2
    refine band3 e2 fun q1 q2 q3  => ?_; clear e2
    refine ⟨?_, ?_, ?_⟩
    · cases c with
      | type t => have : t = "dict" := by simpa using q1
                  rw [this]
      | _ => cases q1
    · simpa using q2
    · have : sl.size = 0 := by simpa using q3
      exact Array.eq_empty_of_size_eq_zero this
  refine ⟨(esAt K a).map fun en  => (keyStr en.key, en.val), o, (esAt K a).toArray, epAt K a, X _ _ h1, hex, h2, fun en hen  => ?_, ?_, ?_⟩
  · obtain ⟨x, t, hk⟩ := h3 en hen
    refine ⟨x, by rw [hk]; exact strKind_is prog w x t, ?_⟩
    have hm : en ∈ esAt K a := by simpa using hen
    obtain ⟨i, hi, rfl⟩ := List.getElem_of_mem hm
    have := congrArg (·[i]?) e3
    simp only [List.getElem?_map, List.getElem?_eq_getElem hi, Option.map_some, Option.some.injEq] at this
    rw [this, hk]
    rfl
  · have h3' : ∀ en ∈ esAt K a, ∃ x t, en.key = .str x t := fun en hen  => h3 en (by simpa using hen)
    clear h2 h3 e3 e4
    show Pairs (strKind prog w) (esAt K a) _
    generalize esAt K a = l at h3'
    induction l with
    | nil => exact .nil
    | cons en r ih =>
      obtain ⟨x, t, hk⟩ := h3' en (.head _)
      refine .cons ?_ rfl (ih fun e' h'  => h3' e' (.tail _ h'))
      have e1 : ((fun en : DictEntry => (keyStr en.key, en.val)) en).fst = x := by show keyStr en.key = x; rw [hk]; rfl
      rw [e1, hk]
      exact strKind_is prog w x t
  · rw [List.map_map]
    exact distinctS_ok e4

noncomputable def shOk (K : Frag) (sh cc : Addr) (q : Str) : Bool := match K.lookup sh with
  | some ⟨_, _, .func fd, _⟩ => (match fd.code with | .ref c => Nat.beq c cc | _ => false) && eqS ((fd.qualname ++ (".<locals>." : Str)) ++ ("<lambda>" : Str)) q
  | _ => false
set_option tactic.hygienic false in
theorem shOk_ok {K : Frag} {sh cc : Addr} {q : Str} (h : shOk K sh cc q = true) : ∀ o fd, K.lookup sh = some o → o.data = .func fd → fd.code = .ref cc ∧ (fd.qualname ++ (".<locals>." : Str)) ++ ("<lambda>" : Str) = q := by
  intro o fd e1 e2
  unfold shOk at h
  rw [e1] at h
  obtain ⟨c, d, dt, sl⟩ := o
  simp only at e2
  subst e2
  refine band2 h fun h1 h2  => ?_; clear h
  refine ⟨?_, eqS_eq h2⟩
  cases hc : fd.code with
  | ref c => rw [hc] at h1; rw [Nat.eq_of_beq_eq_true h1]
  | _ => rw [hc] at h1; cases h1
set_option tactic.hygienic false in
theorem code_at {K : Frag} {h : Heap} (X : K.In h) {fd : FuncData} (e : codeOk K fd = true) : h.CodeRec fd.code fd.qualname := by
  exact codeOk_ok e X
structure KGood (K : Frag) (P : Params) (D : List Nat) (sh tb cc : Addr) (q : Str) : Prop where
  glob : isDictAt K mainGlobals = true
  dicts : ∀ a ∈ D, isDictAt K a = true ∧ isPlainDict K a = true ∧ (esAt K a).map (·.hash) = ((esAt K a).map fun en => PyData.keyHash P (keyStr en.key)) ∧ distinctS ((esAt K a).map fun en => keyStr en.key) = true ∧ (a == sysModules) = false
  sh : shOk K sh cc q = true
  gP : mainGlobals ≠ tb
set_option tactic.hygienic false in
theorem memN_ok {a : Nat} {l : List Nat} (h : memN a l = true) : a ∈ l := by
  unfold memN at h
  obtain ⟨b, hb, e⟩ := List.any_eq_true.mp h
  rw [Nat.eq_of_beq_eq_true e]; exact hb
set_option tactic.hygienic false in
theorem fix_ok {prog : Program} {w : World} {K : Frag} {D : List Nat} {sh tb cc gf : Addr} {q : Str} {B : Heap} {p : Program} {loose : List Str} {mean : ExcName → Option Value} {mg mb : Str → Option Value} (G : KGood K w.params D sh tb cc q)
    (X : K.In B) (T : PyProof.Rows.Top p loose mean mg mb B) (hN : B.get? tb = none) (hC : CodeHd B cc tb) {θ : Nat → List Nat} (hθ : ∀ i, θ i ≠ [] ∧ (θ i).length ≤ 4096) {η : Nat → (Addr → Option Obj) → Value → Prop} : FixOK ⟨prog, w, ⟨K, D, sh⟩, B, tb, gf, cc, q, θ, η⟩ where
  th := hθ
  inK := X
  noP := hN
  glob := glob_at G.glob
  blt := ⟨mb, T.b, T.builtins⟩
  nolimit := T.nolimit
  nodigits := T.nodigits
  dicts := fun a ha  => by
    obtain ⟨h1, h2, h3, h4, h5⟩ := G.dicts a (memN_ok ha)
    exact ⟨h5, dictOf_at X h1 h2 h3 h4⟩
  code := hC
  bmain := by
    refine ⟨mg, T.g, ?_⟩
    obtain ⟨bm, ob, h1, h2, h3, h4, h5, h6⟩ := T.bmain
    refine ⟨bm, ob, h1, h2, fun e  => ?_, fun e  => ?_, h3, h4, h5, h6⟩
    · subst e
      obtain ⟨o, es, ep, e1, e2, zz⟩ := T.g
      rw [h3] at e1; cases e1
      rw [h6] at e2; cases e2
    · have e' : bm = tb := e
      rw [e', hN] at h3; cases h3
  gP := G.gP
  sh := shOk_ok G.sh
end Mine
end
section
open PySem PySem.W PySem.Calls PySem.SeqAt
set_option maxRecDepth 100000
set_option linter.unusedSectionVars false
set_option linter.unusedVariables false
namespace Mine

noncomputable def exprStK {β : Type} (d : β) (e : Stmt) (k : Expr → Pos → β) : β := @Stmt.casesOn (fun _ => β) e (fun a0 a1 a2 a3 a4 a5 a6 a7 a8 a9 => d) (fun a0 a1 a2 a3 a4 a5 a6 a7 a8 a9 => d) (fun a0 a1 a2 a3 a4 a5 a6 a7 a8 a9 a10 => d) (fun a0 a1 => d) (fun a0 a1 => d) (fun a0 a1 a2 => d) (fun a0 a1 a2 a3 a4 a5 a6 => d) (fun a0 a1 a2 a3 => d) (fun a0 a1 a2 a3 a4 => d) (fun a0 a1 a2 a3 a4 => d) (fun a0 a1 a2 a3 a4 => d) (fun a0 a1 a2 a3 => d) (fun a0 a1 a2 a3 => d) (fun a0 a1 a2 => d) (fun a0 a1 a2 => d) (fun a0 a1 a2 => d) (fun a0 a1 a2 => d) (fun a0 a1 a2 a3 a4 => d) (fun a0 a1 a2 a3 a4 => d) (fun a0 a1 a2 => d) (fun a0 a1 => d) (fun a0 a1 a2 a3 => d) (fun a0 a1 => d) (fun a0 a1 => d) (fun v p => k v p) (fun a0 => d) (fun a0 => d) (fun a0 => d)
noncomputable def assStK {β : Type} (d : β) (e : Stmt) (k : List Expr → Expr → Pos → β) : β := @Stmt.casesOn (fun _ => β) e (fun a0 a1 a2 a3 a4 a5 a6 a7 a8 a9 => d) (fun a0 a1 a2 a3 a4 a5 a6 a7 a8 a9 => d) (fun a0 a1 a2 a3 a4 a5 a6 a7 a8 a9 a10 => d) (fun a0 a1 => d) (fun a0 a1 => d) (fun ts v p => k ts v p) (fun a0 a1 a2 a3 a4 a5 a6 => d) (fun a0 a1 a2 a3 => d) (fun a0 a1 a2 a3 a4 => d) (fun a0 a1 a2 a3 a4 => d) (fun a0 a1 a2 a3 a4 => d) (fun a0 a1 a2 a3 => d) (fun a0 a1 a2 a3 => d) (fun a0 a1 a2 => d) (fun a0 a1 a2 => d) (fun a0 a1 a2 => d) (fun a0 a1 a2 => d) (fun a0 a1 a2 a3 a4 => d) (fun a0 a1 a2 a3 a4 => d) (fun a0 a1 a2 => d) (fun a0 a1 => d) (fun a0 a1 a2 a3 => d) (fun a0 a1 => d) (fun a0 a1 => d) (fun a0 a1 => d) (fun a0 => d) (fun a0 => d) (fun a0 => d)
noncomputable def attrK {β : Type} (d : β) (e : Expr) (k : Expr → Str → Pos → β) : β := @Expr.casesOn (fun _ => β) e (fun a0 a1 a2 => d) (fun a0 a1 a2 => d) (fun a0 a1 a2 a3 => d) (fun a0 a1 a2 => d) (fun a0 a1 a2 a3 => d) (fun a0 a1 a2 a3 => d) (fun a0 a1 a2 => d) (fun a0 a1 a2 => d) (fun a0 a1 a2 a3 => d) (fun a0 a1 a2 a3 => d) (fun a0 a1 a2 a3 a4 => d) (fun a0 a1 a2 a3 => d) (fun a0 a1 => d) (fun a0 a1 => d) (fun a0 a1 => d) (fun a0 a1 a2 a3 => d) (fun a0 a1 a2 a3 => d) (fun a0 a1 a2 a3 => d) (fun a0 a1 => d) (fun a0 a1 a2 => d) (fun v x p => k v x p) (fun a0 a1 a2 => d) (fun a0 a1 => d) (fun a0 a1 => d) (fun a0 a1 => d) (fun a0 a1 a2 => d) (fun a0 a1 a2 a3 => d)
noncomputable def asgP (s : Stmt) (k : Pos → Pos → Pos → Pos → List Pos) : List Pos := assStK [] s fun ts v p4 => oneK [] ts fun t => attrK [] t fun o _ p2 => nameK [] o fun _ p1 => nameK [] v fun _ p3 => k p1 p2 p3 p4
noncomputable def initPos (l : List Stmt) : List Pos := threeK [] l fun s1 s2 s3 => exprStK [] s1 fun e p6 => call0K [] e fun f as _ p5 => attrK [] f fun o _ p2 => nameK [] o fun _ p1 => twoK [] as fun a b => nameK [] a fun _ p3 => nameK [] b fun _ p4 =>
  asgP s2 fun q1 q2 q3 q4 => asgP s3 fun r1 r2 r3 r4 => [p1, p2, p3, p4, p5, p6, q1, q2, q3, q4, r1, r2, r3, r4]
noncomputable def fdOf (K : Frag) (a : Addr) : FuncData := match K.lookup a with
  | some ⟨_, _, .func fd, _⟩ => fd
  | _ => default
noncomputable def stmtsOf (fd : FuncData) : List Stmt := match fd.body with
  | .stmts b => b
  | _ => []
noncomputable def cldOf (K : Frag) (a : Addr) : ClassData := match K.lookup a with
  | some ⟨_, _, .cls c, _⟩ => c
  | _ => default
noncomputable def slOf (K : Frag) (a : Addr) : Array (Option Value) := match K.lookup a with
  | some ⟨_, _, _, sl⟩ => sl
  | _ => #[]
noncomputable def dcOf (K : Frag) (a : Addr) : Option Addr := match K.lookup a with
  | some ⟨_, d, _, _⟩ => d
  | _ => none
noncomputable def csOf (K : Frag) (a : Addr) : Value := match K.lookup a with
  | some ⟨c, _, _, _⟩ => c
  | _ => .none
noncomputable def sqOf (K : Frag) (a : Addr) : Array Value × Nat := match K.lookup a with
  | some ⟨_, _, .seq vs n, _⟩ => (vs, n)
  | _ => (#[], 0)
noncomputable def refOf : Value → Addr
  | .ref a => a
  | _ => 0
noncomputable def gfD (K : Frag) (gf L : Addr) : GfD :=
  let c := cldOf K gf
  let s := slOf K gf
  let f := refOf ((nsFind (esAt K (cldOf K L).ns).toArray ("__init__" : Str)).getD .none)
  let fd := fdOf K f
  { nm := c.name, q := c.qualname, N := c.ns, L := L, fI := f, td := refOf fd.defaults, bs := c.bases, sn := c.slotNames, sub := c.subclasses, ab := c.abstract, col := c.collection, dd := dcOf K gf,
    k0 := s.getD 0 none, k1 := s.getD 1 none, k2 := s.getD 2 none, k3 := s.getD 3 none, k5 := s.getD 5 none, c0 := csOf K L, dA := dcOf K L, cd := cldOf K L, sl := slOf K L,
    oI := ⟨csOf K f, dcOf K f, .func fd, slOf K f⟩, fd := fd, dv := (sqOf K (refOf fd.defaults)).1.getD 0 .none,
    oD := ⟨csOf K (refOf fd.defaults), dcOf K (refOf fd.defaults), .seq (sqOf K (refOf fd.defaults)).1 (sqOf K (refOf fd.defaults)).2, slOf K (refOf fd.defaults)⟩, n := (sqOf K (refOf fd.defaults)).2, ps := initPos (stmtsOf fd) }
noncomputable def isN (K : Frag) (a : Addr) (x : Str) : Bool := (nsFind (esAt K a).toArray x).isNone
structure GfGood (K : Frag) (gf : Addr) (G : GfD) : Prop where
  C : K.lookup gf = some (excClassObj G.nm G.q gf G.N G.bs (.ref G.L :: excBm) true G.sn G.sub G.ab G.col G.dd G.k0 G.k1 G.k2 G.k3 G.k5 "Exception.__new__")
  N : isDictAt K G.N = true
  n1 : isN K G.N "__init__" = true
  n2 : isN K G.N "__setattr__" = true
  n3 : isN K G.N "what" = true
  n4 : isN K G.N "at" = true
  L : K.lookup G.L = some { cls := G.c0, dict := G.dA, data := .cls G.cd, slots := G.sl }
  NL : isDictAt K G.cd.ns = true
  l1 : nsFind (esAt K G.cd.ns).toArray "__init__" = some (.ref G.fI)
  l2 : isN K G.cd.ns "__setattr__" = true
  l3 : isN K G.cd.ns "what" = true
  l4 : isN K G.cd.ns "at" = true
  I : K.lookup G.fI = some G.oI
  Ic : G.oI.cls = .type "function"
  Id : G.oI.data = .func G.fd
  par : plainPar G.fd.params = true
  args : G.fd.params.args.map (·.arg) = ([("self" : Str), ("what" : Str), ("at" : Str)] : List Str)
  dfl : G.fd.defaults = .ref G.td
  D : K.lookup G.td = some G.oD
  Dd : G.oD.data = .seq #[G.dv] G.n
  body : G.fd.body = .stmts (initBody (G.ps.getD 0 default) (G.ps.getD 1 default) (G.ps.getD 2 default) (G.ps.getD 3 default) (G.ps.getD 4 default) (G.ps.getD 5 default) (G.ps.getD 6 default) (G.ps.getD 7 default) (G.ps.getD 8 default) (G.ps.getD 9 default) (G.ps.getD 10 default) (G.ps.getD 11 default) (G.ps.getD 12 default) (G.ps.getD 13 default))
  line : ((G.ps.getD 1 default).endLine == (G.ps.getD 4 default).line) = true
  co : G.fd.scope.isCoroutine = false
  ge : G.fd.scope.isGenerator = false
  kind : isFun G.fd.scope = true
  cells : noCells G.fd.scope = true
  s1 : isLc G.fd.scope "self" = true
  s2 : isLc G.fd.scope "what" = true
  s3 : isLc G.fd.scope "at" = true
  s4 : isGl G.fd.scope "Exception" = true
  clo : G.fd.closure = []
  code : codeOk K G.fd = true
  glob : Nat.beq G.fd.globals mainGlobals = true
  gx : isN K mainGlobals "Exception" = true
  blt : Nat.beq G.fd.builtins builtinsNs = true
  bx : bootBuiltins "Exception" = some (.type "Exception")
theorem isN_ok {K : Frag} {a : Addr} {x : Str} (h : isN K a x = true) : nsFind (esAt K a).toArray x = none := by
  unfold isN at h
  simpa using h
theorem isLc_ok {sc : Scope} {x : Str} (h : isLc sc x = true) : sc.names.lookup x = some .local := (lk_eq ..).symm.trans (isLc_eq h)
theorem isGl_ok {sc : Scope} {x : Str} (h : isGl sc x = true) : sc.names.lookup x = some .globalImplicit := (lk_eq ..).symm.trans (isGl_eq h)
theorem gf_ok {K : Frag} {gf : Addr} {G : GfD} (x : GfGood K gf G) {B : Heap} (X : K.In B) {p : Program} {loose : List Str} {mean : ExcName → Option Value} {mg mb : Str → Option Value} (T : PyProof.Rows.Top p loose mean mg mb B) (gm : isDictAt K mainGlobals = true) : GfOK B gf G where
  C := X _ _ x.C
  N := ⟨_, ns_at X x.N, isN_ok x.n1, isN_ok x.n2, isN_ok x.n3, isN_ok x.n4⟩
  L := X _ _ x.L
  NL := ⟨_, ns_at X x.NL, x.l1, isN_ok x.l2, isN_ok x.l3, isN_ok x.l4⟩
  I := X _ _ x.I
  Ic := x.Ic
  Id := x.Id
  par := x.par
  args := x.args
  dfl := x.dfl
  D := X _ _ x.D
  Dd := x.Dd
  body := ⟨_, _, _, _, _, _, _, _, _, _, _, _, _, _, x.body, x.line⟩
  co := x.co
  ge := x.ge
  kind := isFun_eq x.kind
  cells := fun e he hc => noCells_ok x.cells (x := e.1) (by rw [← hc]; exact he)
  s1 := isLc_ok x.s1
  s2 := isLc_ok x.s2
  s3 := isLc_ok x.s3
  s4 := isGl_ok x.s4
  clo := x.clo
  code := code_at X x.code
  nolim := T.nolimit
  g1 := ⟨_, by rw [Nat.eq_of_beq_eq_true x.glob]; exact ns_at X gm, isN_ok x.gx⟩
  b1 := ⟨mb, by rw [Nat.eq_of_beq_eq_true x.blt]; exact T.b, (T.builtins _ (by decide)).trans x.bx⟩
end Mine
end
section
open PySem PySem.W PyProof.Rows
set_option maxRecDepth 100000
set_option linter.unusedSectionVars false
set_option linter.unusedVariables false
namespace Mine
noncomputable def TT (kk : Params → Frag) (P : Params) : Top := ⟨kk P, [61, 198], 542⟩
noncomputable def R_head_run' (kk : Params → Frag) : Prop := ∀ (P : Params), (List.range 14).all (fun D => headRun (TT kk P) 170 D) = true
noncomputable def R_exit_run (kk : Params → Frag) : Prop := ∀ (P : Params), restRun (TT kk P) 170 (fun _ _ => none) exitP (kS true (codes "EXIT")) (kxS true) = true
noncomputable def pItem : PV := .tup [.str (codes "ref"), .str (codes "A"), .tup [], .tup [], .none]
noncomputable def pFive : PV := .tup [.str (codes "number"), .tup [.int 5, .int 0]]
noncomputable def pCond : PV := .tup [.str (codes "rel"), .str (codes ">"), pItem, pFive]
noncomputable def othersP : PV := .tup [exitP]
noncomputable def innerP (b : Nat) : PV := match b with | 0 => .tup [exitP, .hole 0] | 1 => .tup [.hole 0, exitP] | _ => .tup [.hole 0]
noncomputable def toldP (b : Nat) : List Nat := match b with | 0 => codes "EXIT " ++ [symB] | 1 => [symB] ++ codes " EXIT" | _ => [symB]
noncomputable def around (w : Nat) (i : PV) (t : List Nat) : PV × List Nat := match w with
  | 0 => (.tup [.str (codes "if"), pCond, i, .tup []], codes "IF A > 5 THEN " ++ t ++ codes " END-IF")
  | 1 => (.tup [.str (codes "if"), pCond, othersP, i], codes "IF A > 5 THEN EXIT ELSE " ++ t ++ codes " END-IF")
  | 2 => (.tup [.str (codes "perform"), .tup [.str (codes "body"), i], .tup [.str (codes "times"), pItem]], codes "PERFORM A TIMES " ++ t ++ codes " END-PERFORM")
  | 3 => (.tup [.str (codes "arith"), pFive, .tup [.tup [pItem, .bool false, .str (codes "+")]], .tup [.tup [.str (codes "size"), othersP], .tup [.str (codes "not size"), i]]], codes "ADD 5 TO A ON SIZE ERROR EXIT NOT ON SIZE ERROR " ++ t ++ codes " END-ADD")
  | 4 => (.tup [.str (codes "read"), .str (codes "F"), .bool false, .none, .none, .tup [.tup [.str (codes "end"), i]]], codes "READ F RECORD AT END " ++ t ++ codes " END-READ")
  | 5 => (.tup [.str (codes "call"), pItem, .tup [], .tup [.tup [.str (codes "fault"), i]]], codes "CALL A ON EXCEPTION " ++ t ++ codes " END-CALL")
  | 6 => (.tup [.str (codes "search"), pItem, .none, .tup [pCond, pCond], .tup [.tup [.str (codes "when 0"), othersP], .tup [.str (codes "when 1"), i]]], codes "SEARCH A WHEN A > 5 EXIT WHEN A > 5 " ++ t ++ codes " END-SEARCH")
  | 7 => (.tup [.str (codes "evaluate"), .tup [.tup [.str (codes "worth"), pItem]], .tup [.tup [.tup [.tup [.tup [.str (codes "any")]]], i]], .tup []], codes "EVALUATE A WHEN ANY " ++ t ++ codes " END-EVALUATE")
  | _ => (.tup [.str (codes "evaluate"), .tup [.tup [.str (codes "yes")]], .tup [.tup [.tup [.tup [.tup [.str (codes "any")]]], othersP]], i], codes "EVALUATE TRUE WHEN ANY EXIT WHEN OTHER " ++ t ++ codes " END-EVALUATE")
noncomputable def R_good (kk : Params → Frag) (w b : Nat) : Prop := ∀ P, goodP (TT kk P) 170 (around w (innerP b) (toldP b)).1 (around w (innerP b) (toldP b)).2 = true
noncomputable def goodL : List (PV × List Nat) := [around 0 (innerP 2) (toldP 2), around 1 (innerP 2) (toldP 2), around 2 (innerP 2) (toldP 2), around 3 (innerP 2) (toldP 2), around 4 (innerP 2) (toldP 2), around 5 (innerP 2) (toldP 2), around 6 (innerP 2) (toldP 2), around 7 (innerP 2) (toldP 2), around 8 (innerP 2) (toldP 2), around 0 (innerP 0) (toldP 0), around 1 (innerP 0) (toldP 0), around 2 (innerP 0) (toldP 0), around 3 (innerP 0) (toldP 0), around 4 (innerP 0) (toldP 0), around 5 (innerP 0) (toldP 0), around 6 (innerP 0) (toldP 0), around 7 (innerP 0) (toldP 0), around 8 (innerP 0) (toldP 0), around 0 (innerP 1) (toldP 1), around 1 (innerP 1) (toldP 1), around 2 (innerP 1) (toldP 1), around 3 (innerP 1) (toldP 1), around 4 (innerP 1) (toldP 1), around 5 (innerP 1) (toldP 1), around 6 (innerP 1) (toldP 1), around 7 (innerP 1) (toldP 1), around 8 (innerP 1) (toldP 1)]
noncomputable def drawEnd (m z b c : Int) (τ : Sto) (k : KV) : Bool := if smallP m = true then k (.int (z.fmod m)) ([.int (z.fdiv m), .int b, .int c] :: τ) else false
abbrev R_draw_eq (kk : Params → Frag) : Prop := ∀ (P : Params) (orc : Orc) (a b c m : Int) (τ : Sto) (k : KV) (kx : KX),
  callP (TT kk P) 170 orc (.old 556) [.lst 0, .int m] ([.int a, .int b, .int c] :: τ) k kx =
   (if (a == 0) = true then
     (if (smallF 9967 && nonNegM (20 + (b + 1))) = true then (if (smallF (2 * c + 3) || smallF (9967 ^ (20 + (b + 1)).toNat)) = true then drawEnd m (((2 * c + 3) * 9967 ^ (20 + (b + 1)).toNat).fdiv 15625) (b + 1) c τ k else false) else false)
    else drawEnd m a b c τ k)
noncomputable def objAt (kk : Params → Frag) (P : Params) (a : Addr) : Obj := match (kk P).lookup a with | some o => o | none => default
noncomputable def fdAt (kk : Params → Frag) (P : Params) (a : Addr) : FuncData := match (objAt kk P a).data with | .func fd => fd | _ => default
noncomputable def stsAt (kk : Params → Frag) (P : Params) (a : Addr) : List Stmt := match (fdAt kk P a).body with | .stmts b => b | _ => []
noncomputable def rightS (kk : Params → Frag) (P : Params) : RiP := match stsAt kk P 577 with
  | [.Try [.Return (some e1) q1] [.ExceptHandler (some (.Name gn q2)) none [.Return (some (.Compare (.Name dn q3) _ [.Name mn q4] q5)) q6] q7] _ _ q8] => ⟨objAt kk P 577, fdAt kk P 577, e1, gn, dn, mn, q1, q2, q3, q4, q5, q6, q7, q8⟩
  | _ => ⟨default, default, default, default, default, default, default, default, default, default, default, default, default, default⟩
abbrev R_right_isS (kk : Params → Frag) : Prop := ∀ (P : Params), RiIs (kk P) 170 577 (rightS kk P)
noncomputable def nDep : Str := Str.ofString "depth"
abbrev R_right_bind (kk : Params → Frag) : Prop := ∀ (P : Params) (n : Int), bindP (argsOf (rightS kk P).fd) [.hole 0, .str [symB], .int n] = some [(nStm, .hole 0), (nWds, .str [symB]), (nDep, .int n)]
abbrev R_right_dn (kk : Params → Frag) : Prop := ∀ (P : Params) (n : Int), lk (rightS kk P).dn [(nStm, PV.hole 0), (nWds, PV.str [symB]), (nDep, .int n)] = some (.int n)
abbrev R_right_eq (kk : Params → Frag) : Prop := ∀ (P : Params) (n : Nat) (σ : Sto) (k : KV) (kx : KX) (lm q : Bool),
    (lvl ⟨TT kk P, 170, orcR (TT kk P).sh n⟩ lvlMax).ev (rightS kk P).e1 { scope := (rightS kk P).fd.scope, vars := [(nStm, .hole 0), (nWds, .str [symB]), (nDep, .int (n : Int))], up := [], lam := lm, q := q } σ k kx =
      (if n ≤ 12 then k (.bool (decide ((n : Int) ≤ 12))) σ else kx σ)
noncomputable def penS (kk : Params → Frag) (P : Params) : PenP := match stsAt kk P 549 with
  | [s1, .For (.Name nC p1) (.Subscript (.Name nS p2) (.Slice none (some (.Constant (.int cut) u p3)) none p4) p5) body _ p6, ret] => ⟨objAt kk P 549, fdAt kk P 549, s1, nC, nS, cut, body, ret, u, p1, p2, p3, p4, p5, p6⟩
  | _ => ⟨default, default, default, default, default, 0, default, default, default, default, default, default, default, default, default⟩
abbrev R_pen_isS (kk : Params → Frag) : Prop := ∀ (P : Params), PenIs (kk P) 549 (penS kk P)
noncomputable def nNum : Str := Str.ofString "number"
abbrev R_pen_cut (kk : Params → Frag) : Prop := ∀ (P : Params), (penS kk P).cut = 30
abbrev R_pen_bind (kk : Params → Frag) : Prop := ∀ (P : Params), bindP (argsOf (penS kk P).fd) [.hole 0] = some [((penS kk P).nS, .hole 0)]
abbrev R_pen_r0 (kk : Params → Frag) : Prop := ∀ (P : Params) (q : Bool) (z : Int) (orc : Orc), nameP ⟨TT kk P, 170, orc⟩ (penS kk P).nS (penFr (penS kk P).fd q (penBase (penS kk P).nS nNum z ++ [])) = some (.hole 0)
abbrev R_pen_r0' (kk : Params → Frag) : Prop := ∀ (P : Params) (q : Bool) (z y : Int) (orc : Orc), nameP ⟨TT kk P, 170, orc⟩ (penS kk P).nS (penFr (penS kk P).fd q (penBase (penS kk P).nS nNum z ++ [((penS kk P).nC, .int y)])) = some (.hole 0)
abbrev R_pen_r1 (kk : Params → Frag) : Prop := ∀ (P : Params) (q : Bool) (orc : Orc) (k : KF) (kx : KX), Mine.execs (lvl ⟨TT kk P, 170, orc⟩ lvlMax) [(penS kk P).s1] (penFr (penS kk P).fd q [((penS kk P).nS, .hole 0)]) [] k kx = k .next (penFr (penS kk P).fd q (penBase (penS kk P).nS nNum 17)) []
abbrev R_pen_r3 (kk : Params → Frag) : Prop := ∀ (P : Params) (q : Bool) (orc : Orc) (z : Int) (xs : List PV) (k : KF) (kx : KX), Mine.execs (lvl ⟨TT kk P, 170, orc⟩ lvlMax) [(penS kk P).ret] (penFr (penS kk P).fd q (penBase (penS kk P).nS nNum z ++ [])) [xs] k kx = k (.ret (.lst 1)) (penFr (penS kk P).fd q (penBase (penS kk P).nS nNum z ++ [])) [xs, [.int z, .int 0, .int (z.fmod 999979)]]
abbrev R_pen_r3' (kk : Params → Frag) : Prop := ∀ (P : Params) (q : Bool) (orc : Orc) (z y : Int) (xs : List PV) (k : KF) (kx : KX), Mine.execs (lvl ⟨TT kk P, 170, orc⟩ lvlMax) [(penS kk P).ret] (penFr (penS kk P).fd q (penBase (penS kk P).nS nNum z ++ [((penS kk P).nC, .int y)])) [xs] k kx = k (.ret (.lst 1)) (penFr (penS kk P).fd q (penBase (penS kk P).nS nNum z ++ [((penS kk P).nC, .int y)])) [xs, [.int z, .int 0, .int (z.fmod 999979)]]
noncomputable def penZ (z y : Int) : Int := z * 2063 + (2 * ((y.natAbs : Nat) : Int) + (if decide (y < 0) = true then 1 else 0)).fmod (10 ^ (80 : Nat))
abbrev R_pen_r2 (kk : Params → Frag) : Prop := ∀ (P : Params) (q : Bool) (orc : Orc) (z y : Int) (p1 : Pos) (σ : Sto) (k : KF) (kx : KX), assT (.Name (penS kk P).nC p1) (.int y) (penFr (penS kk P).fd q (penBase (penS kk P).nS nNum z ++ [])) (fun ρ => Mine.execs (lvl ⟨TT kk P, 170, orc⟩ lvlMax) (penS kk P).body ρ σ k kx) =
    (if (smallF z || smallF 2063) = true then k .next (penFr (penS kk P).fd q (penBase (penS kk P).nS nNum (penZ z y) ++ [((penS kk P).nC, .int y)])) σ else false)
abbrev R_pen_r2' (kk : Params → Frag) : Prop := ∀ (P : Params) (q : Bool) (orc : Orc) (z y y' : Int) (p1 : Pos) (σ : Sto) (k : KF) (kx : KX), assT (.Name (penS kk P).nC p1) (.int y) (penFr (penS kk P).fd q (penBase (penS kk P).nS nNum z ++ [((penS kk P).nC, .int y')])) (fun ρ => Mine.execs (lvl ⟨TT kk P, 170, orc⟩ lvlMax) (penS kk P).body ρ σ k kx) =
    (if (smallF z || smallF 2063) = true then k .next (penFr (penS kk P).fd q (penBase (penS kk P).nS nNum (penZ z y) ++ [((penS kk P).nC, .int y)])) σ else false)
noncomputable def lawFd (kk : Params → Frag) (P : Params) : FuncData := match (kk P).lookup 584 with | some ⟨_, _, .func fd, _⟩ => fd | _ => default
noncomputable def lawBody (kk : Params → Frag) (P : Params) : List Stmt := match (lawFd kk P).body with | .stmts b => b | _ => []
noncomputable def lawF (kk : Params → Frag) (P : Params) : LawFr := ⟨(lawFd kk P).scope, true, false⟩
noncomputable def lawS (kk : Params → Frag) (P : Params) : LawP := match lawBody kk P with
  | [stA, .For (.Name nW p1) iW [stC, .For (.Name nD p2) i1 [x1, if1] _ p3] _ p4, stP, .For (.Name _ p5) i2 ys _ p6, stE] => ⟨stA, stC, x1, if1, stP, ys.dropLast, (match ys.getLast? with | some x => x | none => default), stE, nW, nD, iW, i1, i2, p1, p2, p3, p4, p5, p6⟩
  | _ => ⟨default, default, default, default, default, default, default, default, default, default, default, default, default, default, default, default, default, default, default⟩
noncomputable def R_law_isS (kk : Params → Frag) : Prop := ∀ (P : Params), LawIs (lawBody kk P) (lawS kk P)
noncomputable def nScr : Str := Str.ofString "script"
noncomputable def good : PV → List Nat → Bool := goodIn goodL
noncomputable def R_lr_nW (kk : Params → Frag) : Prop := ∀ (P : Params), lk (lawS kk P).nW (lawF kk P).sc.names = some .local
noncomputable def R_lr_nD (kk : Params → Frag) : Prop := ∀ (P : Params), lk (lawS kk P).nD (lawF kk P).sc.names = some .local
noncomputable def R_lr_lW (kk : Params → Frag) : Prop := ∀ (P : Params) (w : Int), lk (lawS kk P).nW (lawVars [((lawS kk P).nW, PV.int w)]) = some (.int w)
noncomputable def R_lr_A (kk : Params → Frag) : Prop := ∀ (P : Params) (orc : Orc) (k : KF) (kx : KX), Mine.execs (lvl ⟨TT kk P, 170, orc⟩ lvlMax) [(lawS kk P).stA] ((lawF kk P).fr [(nScr, .hole 0)]) [] k kx = orc (.old 549) [.hole 0] [] (fun p σ => k .next ((lawF kk P).fr [(nScr, .hole 0), (nPen, p)]) σ) kx
noncomputable def R_lr_W (kk : Params → Frag) : Prop := ∀ (P : Params), evSrc ⟨TT kk P, 170, tower (TT kk P) 170 (spLaw 556 577 0) 24⟩ (lawL (TT kk P) 170 556 577 0) (lawS kk P).iW ((lawF kk P).fr [(nPen, .lst 0)]) [penP 5] (kWays [0, 2, 3]) (fun _ => false) = true
noncomputable def R_lr_0 (kk : Params → Frag) : Prop := ∀ (P : Params), ([0, 2, 3] : List Int).all (fun w => Mine.execs (lawL (TT kk P) 170 556 577 0) [(lawS kk P).stC] ((lawF kk P).fr (put (lawS kk P).nW (.int w) [(nPen, .lst 0)])) [penP 5] (k0 (TT kk P) 170 [((lawS kk P).nW, .int w)]) (fun _ => false)) = true
noncomputable def R_lr_1 (kk : Params → Frag) : Prop := ∀ (P : Params), ([0, 2, 3] : List Int).all (fun w => evSrc ⟨TT kk P, 170, tower (TT kk P) 170 (spLaw 556 577 0) 24⟩ (lawL (TT kk P) 170 556 577 0) (lawS kk P).i1 ((lawF kk P).fr (lawVars [((lawS kk P).nW, .int w)])) [penP 5] (kRng 13) (fun _ => false)) = true
noncomputable def R_lr_T1 (kk : Params → Frag) : Prop := ∀ (P : Params) (i : Nat), ([0, 2, 3] : List Int).all (fun w => Mine.execs (lawL (TT kk P) 170 556 577 i) [(lawS kk P).x1] ((lawF kk P).fr (put (lawS kk P).nD (.hole 1) (lawVars [((lawS kk P).nW, .int w)]))) [penP 5] (kA good (lawS kk P).nD [((lawS kk P).nW, .int w)]) (fun _ => false)) = true
noncomputable def R_lr_I1 (kk : Params → Frag) : Prop := ∀ (P : Params), ([0, 2, 3] : List Int).all (fun w => (List.range 13).all fun i => Mine.execs (lawL (TT kk P) 170 556 577 (i + 1)) [(lawS kk P).if1] ((lawF kk P).fr (lawVars [((lawS kk P).nD, .int ((i : Int) + 1)), ((lawS kk P).nW, .int w)])) [penP 5] (kB [((lawS kk P).nW, .int w)]) (fun _ => false)) = true
noncomputable def R_lr_P (kk : Params → Frag) : Prop := ∀ (P : Params), Mine.execs (lawL (TT kk P) 170 556 577 0) [(lawS kk P).stP] ((lawF kk P).fr [(nPen, .lst 0)]) [penP 5] (k0 (TT kk P) 170 []) (fun _ => false) = true
noncomputable def R_lr_D (kk : Params → Frag) : Prop := ∀ (P : Params), evSrc ⟨TT kk P, 170, tower (TT kk P) 170 (spLaw 556 577 0) 24⟩ (lawL (TT kk P) 170 556 577 0) (lawS kk P).i2 ((lawF kk P).fr (lawVars [])) [penP 5] (kRng 16) (fun _ => false) = true
noncomputable def R_lr_T2 (kk : Params → Frag) : Prop := ∀ (P : Params) (i : Nat), Mine.execs (lawL (TT kk P) 170 556 577 i) (lawS kk P).ys ((lawF kk P).fr (put (lawS kk P).nD (.hole 1) (lawVars []))) [penP 5] (kA good (lawS kk P).nD []) (fun _ => false) = true
noncomputable def R_lr_I2 (kk : Params → Frag) : Prop := ∀ (P : Params) (i : Nat), Mine.execs (lawL (TT kk P) 170 556 577 (i + 1)) [(lawS kk P).if2] ((lawF kk P).fr (lawVars [((lawS kk P).nD, .hole 2)])) [penP 5] (kB []) (fun _ => false) = true
noncomputable def R_lr_E (kk : Params → Frag) : Prop := ∀ (P : Params) (vs : List (Str × PV)), Mine.execs (lawL (TT kk P) 170 556 577 0) [(lawS kk P).stE] ((lawF kk P).fr vs) [penP 5] kTrue (fun _ => false) = true
noncomputable def R_kg_61 (kk : Params → Frag) : Prop := ∀ (P : Params), (isDictAt (kk P) 61 && isPlainDict (kk P) 61 && distinctS ((esAt (kk P) 61).map fun en => keyStr en.key)) = true
noncomputable def R_kg_61h (kk : Params → Frag) : Prop := ∀ (P : Params), (esAt (kk P) 61).map (·.hash) = ((esAt (kk P) 61).map fun en => PyData.keyHash P (keyStr en.key))
noncomputable def R_kg_198 (kk : Params → Frag) : Prop := ∀ (P : Params), (isDictAt (kk P) 198 && isPlainDict (kk P) 198 && distinctS ((esAt (kk P) 198).map fun en => keyStr en.key)) = true
noncomputable def R_kg_198h (kk : Params → Frag) : Prop := ∀ (P : Params), (esAt (kk P) 198).map (·.hash) = ((esAt (kk P) 198).map fun en => PyData.keyHash P (keyStr en.key))
noncomputable def shQ : Str := Str.ofString "show_statement.<locals>.<lambda>"
noncomputable def R_kg_glob (kk : Params → Frag) : Prop := ∀ (P : Params), isDictAt (kk P) mainGlobals = true
noncomputable def R_kg_sh (kk : Params → Frag) : Prop := ∀ (P : Params), shOk (kk P) 542 541 shQ = true
noncomputable def gG (kk : Params → Frag) (P : Params) : GfD := gfD (kk P) 170 157
noncomputable def R_gf_good (kk : Params → Frag) : Prop := ∀ P : Params, GfGood (kk P) 170 (gG kk P)
noncomputable def scGood (sc : Scope) : Bool := (sc.names.all fun x => match x.2 with | .cell => false | .free => false | _ => true) && isLc sc nPen && isLc sc nStm && isLc sc nWds
noncomputable def R_scg (kk : Params → Frag) : Prop := ∀ P : Params, scGood (lawF kk P).sc = true
abbrev R_hkind (kk : Params → Frag) : Prop := ∀ P : Params, (lawFd kk P).scope.kind = .function
structure Runs (kk : Params → Frag) : Prop where
  head_run' : R_head_run' kk
  exit_run : R_exit_run kk
  good_0_0 : R_good kk 0 0
  good_0_1 : R_good kk 0 1
  good_0_2 : R_good kk 0 2
  good_1_0 : R_good kk 1 0
  good_1_1 : R_good kk 1 1
  good_1_2 : R_good kk 1 2
  good_2_0 : R_good kk 2 0
  good_2_1 : R_good kk 2 1
  good_2_2 : R_good kk 2 2
  good_3_0 : R_good kk 3 0
  good_3_1 : R_good kk 3 1
  good_3_2 : R_good kk 3 2
  good_4_0 : R_good kk 4 0
  good_4_1 : R_good kk 4 1
  good_4_2 : R_good kk 4 2
  good_5_0 : R_good kk 5 0
  good_5_1 : R_good kk 5 1
  good_5_2 : R_good kk 5 2
  good_6_0 : R_good kk 6 0
  good_6_1 : R_good kk 6 1
  good_6_2 : R_good kk 6 2
  good_7_0 : R_good kk 7 0
  good_7_1 : R_good kk 7 1
  good_7_2 : R_good kk 7 2
  good_8_0 : R_good kk 8 0
  good_8_1 : R_good kk 8 1
  good_8_2 : R_good kk 8 2
  draw_eq : R_draw_eq kk
  right_isS : R_right_isS kk
  right_bind : R_right_bind kk
  right_dn : R_right_dn kk
  right_eq : R_right_eq kk
  pen_isS : R_pen_isS kk
  pen_cut : R_pen_cut kk
  pen_bind : R_pen_bind kk
  pen_r0 : R_pen_r0 kk
  pen_r0' : R_pen_r0' kk
  pen_r1 : R_pen_r1 kk
  pen_r3 : R_pen_r3 kk
  pen_r3' : R_pen_r3' kk
  pen_r2 : R_pen_r2 kk
  pen_r2' : R_pen_r2' kk
  law_isS : R_law_isS kk
  lr_nW : R_lr_nW kk
  lr_nD : R_lr_nD kk
  lr_lW : R_lr_lW kk
  lr_A : R_lr_A kk
  lr_W : R_lr_W kk
  lr_0 : R_lr_0 kk
  lr_1 : R_lr_1 kk
  lr_T1 : R_lr_T1 kk
  lr_I1 : R_lr_I1 kk
  lr_P : R_lr_P kk
  lr_D : R_lr_D kk
  lr_T2 : R_lr_T2 kk
  lr_I2 : R_lr_I2 kk
  lr_E : R_lr_E kk
  kg_61 : R_kg_61 kk
  kg_61h : R_kg_61h kk
  kg_198 : R_kg_198 kk
  kg_198h : R_kg_198h kk
  kg_glob : R_kg_glob kk
  kg_sh : R_kg_sh kk
  gf_good : R_gf_good kk
  scg : R_scg kk
  hkind : R_hkind kk
theorem head_run {kk : Params → Frag} (H : Runs kk) (P : Params) : ∀ D, D ≤ 13 → headRun (TT kk P) 170 D = true := fun D h => (List.all_eq_true.mp (H.head_run' P)) D (List.mem_range.mpr (by omega))
theorem goodL_ok {kk : Params → Frag} (H : Runs kk) (P : Params) : ∀ x ∈ goodL, goodP (TT kk P) 170 x.1 x.2 = true := by
  unfold goodL
  simp only [List.forall_mem_cons]
  exact ⟨H.good_0_2 P, H.good_1_2 P, H.good_2_2 P, H.good_3_2 P, H.good_4_2 P, H.good_5_2 P, H.good_6_2 P, H.good_7_2 P, H.good_8_2 P, H.good_0_0 P, H.good_1_0 P, H.good_2_0 P, H.good_3_0 P, H.good_4_0 P, H.good_5_0 P, H.good_6_0 P, H.good_7_0 P, H.good_8_0 P, H.good_0_1 P, H.good_1_1 P, H.good_2_1 P, H.good_3_1 P, H.good_4_1 P, H.good_5_1 P, H.good_6_1 P, H.good_7_1 P, H.good_8_1 P, fun _ h => nomatch h⟩
theorem drawEnd_ok {m z b0 b c : Int} {τ : Sto} {k : KV} (h1 : 1 ≤ m) (h16 : m ≤ 16) (hb : b0 ≤ b) (hb' : b ≤ b0 + 1)
    (hk : ∀ a' b' d, 0 ≤ d → d < m → b0 ≤ b' → b' ≤ b0 + 1 → k (.int d) ([.int a', .int b', .int c] :: τ) = true) : drawEnd m z b c τ k = true := by
  unfold drawEnd
  have hs : smallP m = true := by
    unfold smallP posI
    rw [Bool.and_eq_true]
    exact ⟨decide_eq_true (by omega), Nat.ble_eq_true_of_le (by omega)⟩
  rw [if_pos hs]
  refine hk _ _ _ ?_ ?_ hb hb'
  · rw [Int.fmod_eq_emod_of_nonneg z (by omega)]; exact Int.emod_nonneg z (by omega)
  · rw [Int.fmod_eq_emod_of_nonneg z (by omega)]; exact Int.emod_lt_of_pos z (by omega)
theorem draw_run {kk : Params → Frag} (H : Runs kk) (P : Params) : DrawRun (TT kk P) 170 556 := by
  intro orc a b c m τ k kx hb0 hb1 hc0 hc1 hm0 hm1 hk
  rw [H.draw_eq]
  by_cases ha : (a == 0) = true
  · rw [if_pos ha]
    have h1 : (smallF 9967 && nonNegM (20 + (b + 1))) = true := by
      rw [Bool.and_eq_true]
      refine ⟨by decide, ?_⟩
      unfold nonNegM
      rw [Bool.and_eq_true, decide_eq_true_eq, decide_eq_true_eq]
      omega
    have h2 : (smallF (2 * c + 3) || smallF (9967 ^ (20 + (b + 1)).toNat)) = true := by
      rw [Bool.or_eq_true]
      left
      exact Nat.ble_eq_true_of_le (by omega)
    rw [if_pos h1, if_pos h2]
    exact drawEnd_ok hm0 hm1 (by omega) (by omega) hk
  · rw [if_neg ha]
    exact drawEnd_ok hm0 hm1 (by omega) (by omega) hk
theorem right_run {kk : Params → Frag} (H : Runs kk) (P : Params) : RightRun (TT kk P) 170 577 := by
  refine ⟨rightS kk P, H.right_isS P, fun n => ⟨_, H.right_bind P n, H.right_dn P n, fun σ k kx lm q h1 h2 => ?_⟩⟩
  rw [H.right_eq]
  by_cases h : n ≤ 12
  · rw [if_pos h, decide_eq_true (by omega)]; exact h1 h
  · rw [if_neg h]; exact h2 (by omega)
theorem pen_run {kk : Params → Frag} (H : Runs kk) (P : Params) : PenRun (TT kk P) 170 549 999979 := by
  refine ⟨penS kk P, nNum, 17, H.pen_isS P, by rw [H.pen_cut]; decide, by rw [H.pen_cut]; decide, H.pen_bind P, ?_, H.pen_r1 P, ?_, ?_⟩
  · rintro q z cs orc (rfl | ⟨y, rfl⟩)
    · exact H.pen_r0 P q z orc
    · exact H.pen_r0' P q z y orc
  · rintro q orc z cs y p1 σ k kx hc
    have h2 : (smallF z || smallF 2063) = true := by rw [Bool.or_eq_true]; exact .inr (by decide)
    refine ⟨penZ z y, ?_⟩
    rcases hc with rfl | ⟨y', rfl⟩
    · rw [H.pen_r2, if_pos h2]
    · rw [H.pen_r2', if_pos h2]
  · rintro q orc z cs xs k kx (rfl | ⟨y, rfl⟩)
    · exact H.pen_r3 P q orc z xs k kx
    · exact H.pen_r3' P q orc z y xs k kx
theorem lr_lS : lk nPen [(nScr, PV.hole 0), (nPen, PV.lst 1)] = some (PV.lst 1) := by kernel_rfl
theorem k_good {kk : Params → Frag} (H : Runs kk) (P : Params) : KGood (kk P) P [61, 198] 542 537 541 shQ where
  glob := H.kg_glob P
  dicts := fun a ha => by
    have h1 := H.kg_61 P
    have h2 := H.kg_198 P
    rw [Bool.and_eq_true, Bool.and_eq_true] at h1 h2
    rcases List.mem_cons.mp ha with rfl | ha
    · exact ⟨h1.1.1, h1.1.2, H.kg_61h P, h1.2, by decide⟩
    · rcases List.mem_cons.mp ha with rfl | ha
      · exact ⟨h2.1.1, h2.1.2, H.kg_198h P, h2.2, by decide⟩
      · cases ha
  sh := H.kg_sh P
  gP := by decide
theorem all3 {f : Int → Bool} (h : ([0, 2, 3] : List Int).all f = true) : ∀ w ∈ ([0, 2, 3] : List Int), f w = true := List.all_eq_true.mp h
theorem law_run {kk : Params → Frag} (H : Runs kk) (P : Params) : LawRun (TT kk P) 170 556 577 549 (lawF kk P) nScr good (lawS kk P) where
  lS := lr_lS
  nW := H.lr_nW P
  nD := H.lr_nD P
  lW := fun w _ => H.lr_lW P w
  runA := H.lr_A P
  runW := H.lr_W P
  run0 := all3 (H.lr_0 P)
  run1 := all3 (H.lr_1 P)
  runT1 := fun w hw i _ => all3 (H.lr_T1 P i) w hw
  runI1 := fun w hw i hi => List.all_eq_true.mp (all3 (H.lr_I1 P) w hw) i (List.mem_range.mpr hi)
  runP := H.lr_P P
  runD := H.lr_D P
  runT2 := fun i _ => H.lr_T2 P i
  runI2 := fun i _ => H.lr_I2 P i
  runE := H.lr_E P
theorem sc_ok {sc : Scope} (h : scGood sc = true) : ScOK sc := by
  unfold scGood at h
  refine band4 h fun h1 h2 h3 h4 => ?_; clear h
  refine ⟨fun x k e => ?_, by rw [lk_eq]; exact isLc_ok h2, by rw [lk_eq]; exact isLc_ok h3, by rw [lk_eq]; exact isLc_ok h4⟩
  have := (List.all_eq_true.mp h1) _ (lk_mem e)
  dsimp only at this
  constructor
  · rintro rfl; cases this
  · rintro rfl; cases this
theorem law_sc {kk : Params → Frag} (H : Runs kk) (P : Params) : ScOK (lawF kk P).sc := sc_ok (H.scg P)
theorem law_final {kk : Params → Frag} (H : Runs kk) {prog : Program} {w : World} {B : Heap} {L fa sl : Addr} {cd : Value} {its : List Value} {nums : List Int} {mg mb : Str → Option Value} {p : Program} {loose : List Str} {mean : ExcName → Option Value} {name : Str} {scope : Scope} {body : List Stmt} {Q : Flow → Shared → Prop} {E : Value → Shared → Prop} {s : Shared}
    (X' : (kk w.params).In B) (T' : PyProof.Rows.Top p loose mean mg mb B) (F' : PyProof.Rows.Fr B L s.heap (fun x => List.lookup x [(nScr, Value.ref sl)].reverse)) (hl : B.IsList sl its.toArray) (hC : CodeHd B 541 537) (N' : PyProof.Rows.News B L s.heap [(537, tabObj #[])])
    (hI : PyProof.Rows.IntsAre its nums) (hn : nums.length ≤ 64) (hb : body = lawBody kk w.params) (hs : scope = (lawFd kk w.params).scope)
    (hQ : ∀ s', (∀ b o, B.get? b = some o → s'.heap.get? b = some o) → (∃ ps, s'.heap.get? 537 = some (tabObj ps)) → s'.gens = s.gens → s'.os = s.os → Q (.ret (.bool true)) s') :
    wpAny (model prog w) (callerA.deeper (PyProof.Rows.envOf name scope L fa cd)) (PySem.execs body (PyProof.Rows.envOf name scope L fa cd)) Q E s := by
  subst hb; subst hs
  have hN := N' _ (.head _)
  obtain ⟨hN1, hN2, hN3⟩ := hN
  dsimp only at hN1 hN2 hN3
  have hth : ∀ i : Nat, (fun _ : Nat => ([32] : List Nat)) i ≠ [] ∧ ((fun _ : Nat => ([32] : List Nat)) i).length ≤ 4096 := fun _ => ⟨by simp, by simp⟩
  let X : Fix := ⟨prog, w, TT kk w.params, B, 537, 170, 541, shQ, fun _ => [32], fun _ _ _ => False⟩
  have O : FixOK X := fix_ok (k_good H w.params) X' T' hN3 hC hth
  have hG : GfOK X.B X.gf (gG kk w.params) := gf_ok (H.gf_good w.params) X' T' (H.kg_glob w.params)
  have hHead : ∀ D, D ≤ 13 → headRun X.T X.gf D = true := head_run H w.params
  have hE : ∀ θ η g v, RepV (X.sw θ η) g v exitP → Con X X.T.sh g 0 v (codes "EXIT") := fun θ η g v r =>
    con_leaf O hG hHead (repV_pu (X := X.sw θ η) (θ := X.θ) (η := X.η) (fun _ _ e => e) r (by decide)) (by decide) (by decide) (H.exit_run w.params)
  have hsc : ScOK (lawF kk w.params).sc := law_sc H w.params
  have am : Amb X 505 (callerA.deeper (PyProof.Rows.envOf name (lawFd kk w.params).scope L fa cd)) (PyProof.Rows.envOf name (lawFd kk w.params).scope L fa cd) [] L (PyProof.Rows.envOf name (lawFd kk w.params).scope L fa cd) :=
    ⟨rfl, rfl, rfl, rfl, Nat.le_of_ble_eq_true rfl, Nat.le_of_ble_eq_true rfl⟩
  have hgood : ∀ p r, good p r = true → goodP X.T X.gf p r = true := goodIn_ok (goodL_ok H w.params)
  have hkind : (lawFd kk w.params).scope.kind = .function := H.hkind w.params
  have hBL : B.get? L = none := by
    cases hq : B.get? L with
    | none => rfl
    | some o => exact absurd (Nat.lt_of_lt_of_le (Heap.lt_size hq) F'.above) (Nat.lt_irrefl _)
  have hk1 : ∀ x, lk x (lawF kk w.params).sc.names ≠ some .cell := fun x e => (hsc.noCell x _ e).1 rfl
  have hk2 : ∀ x, lk x (lawF kk w.params).sc.names ≠ some .free := fun x e => (hsc.noCell x _ e).2 rfl
  have R : HR (X.sw (fun _ => [32]) (ηS sl)) ⟨fun a => B.get? a, []⟩ [] s.heap := by
    refine ⟨F'.keep, fun a o e => e, rfl, fun i a xs e => (nomatch e), List.nodup_nil, fun a ha => (nomatch ha), ⟨⟨#[], hN1, trivial, fun pos c' e => ?_⟩⟩, hN3⟩
    cases e
  have wh : Wh (X.sw (fun _ => [32]) (ηS sl)) ((lawF kk w.params).fr [(nScr, .hole 0)]) (PyProof.Rows.envOf name (lawFd kk w.params).scope L fa cd) [PyProof.Rows.envOf name (lawFd kk w.params).scope L fa cd] ⟨fun a => B.get? a, []⟩ [] s := by
    refine ⟨R, ?_, ?_⟩
    · intro env he
      have : env = PyProof.Rows.envOf name (lawFd kk w.params).scope L fa cd := by simpa using he
      subst this
      obtain ⟨o, es, n, e1, e2⟩ := Ns.dict F'.ns
      exact ⟨by show (lawFd kk w.params).scope.kind ≠ .module; rw [hkind]; decide, L, o, rfl, hBL, (fun h => nomatch h), fun e => hN2 e.symm, e1, es, n, e2⟩
    · refine ⟨hkind, rfl, rfl, fun x k e => .inl ?_, ⟨_, F'.ns, fun x q e1 e2 => ?_⟩, ⟨hBL, (fun h => nomatch h), fun e => hN2 e.symm⟩, fun x q e => ?_, fun x e => absurd e (hk1 x), fun x y a e => (nomatch e), fun z a e => (nomatch e), fun hq => (nomatch hq)⟩
      · show (lawFd kk w.params).scope.names.lookup x = _
        rw [← lk_eq]; exact e
      · have e2' : lk x [(nScr, PV.hole 0)] = some q := e2
        rw [lk] at e2'
        split at e2'
        · rename_i hx
          have := eqS_eq hx
          subst this
          cases e2'
          refine ⟨.ref sl, ?_, .hole (Γ₀ := fun _ => none) 0 (show ηS sl 0 (fun _ => none) (Value.ref sl) from ⟨rfl, rfl⟩) fun _ _ e => nomatch e⟩
          show List.lookup nScr [(nScr, Value.ref sl)] = _
          rw [List.lookup_cons]; simp
        · cases e2'
      · rcases e with ⟨e, _⟩ | ⟨e, _⟩
        · exact absurd e (hk1 x)
        · exact absurd e (hk2 x)
  refine wpAny_mono (law_all O hG hHead hE (draw_run H w.params) (right_run H w.params) hsc am (pen_run H w.params) hl hI hn (by decide) hgood (H.law_isS w.params) (law_run H w.params) wh) (fun f s' q => ?_) fun _ _ q => q.elim
  obtain ⟨⟨b, rfl, rfl⟩, q2, q3, q4, q5⟩ := q
  exact hQ s' q2 q3 q4 q5
end Mine
end
end
section
open PySem PySem.W PyProof.Rows
namespace Mine
theorem hdx.tw1005318883390151209 : True := trivial
theorem hdx.tw10121793167571375384 : True := trivial
theorem hdx.tw1017974057990222321 : True := trivial
theorem hdx.tw1019153260373610705 : True := trivial
theorem hdx.tw10205543830944778134 : True := trivial
theorem hdx.tw10217665054196928255 : True := trivial
theorem hdx.tw10227702916350360140 : True := trivial
theorem hdx.tw10283324217907189409 : True := trivial
theorem hdx.tw10297514276478950717 : True := trivial
theorem hdx.tw10393715042703082164 : True := trivial
theorem hdx.tw10483683298503720317 : True := trivial
theorem hdx.tw10492940953153682118 : True := trivial
theorem hdx.tw10512982094722640820 : True := trivial
theorem hdx.tw10518538433653634186 : True := trivial
theorem hdx.tw10589443168317414825 : True := trivial
theorem hdx.tw10599505467878662238 : True := trivial
theorem hdx.tw10602525772430000673 : True := trivial
theorem hdx.tw10641399845043899351 : True := trivial
theorem hdx.tw10655919233723434686 : True := trivial
theorem hdx.tw10669027340675136436 : True := trivial
theorem hdx.tw10740176006691553143 : True := trivial
theorem hdx.tw10782033364253952957 : True := trivial
theorem hdx.tw1082102485769527193 : True := trivial
theorem hdx.tw10901133129360472794 : True := trivial
theorem hdx.tw10905740778352272335 : True := trivial
theorem hdx.tw10951607000393433550 : True := trivial
theorem hdx.tw10986133607004362639 : True := trivial
theorem hdx.tw11022615646088314183 : True := trivial
theorem hdx.tw11031618622515954054 : True := trivial
theorem hdx.tw11065668779459185880 : True := trivial
theorem hdx.tw11078440211413924588 : True := trivial
theorem hdx.tw11185148042668281505 : True := trivial
theorem hdx.tw11233821810271452931 : True := trivial
theorem hdx.tw11251772360296863781 : True := trivial
theorem hdx.tw11297766345722585413 : True := trivial
theorem hdx.tw11364332641633417625 : True := trivial
theorem hdx.tw11371883911050253117 : True := trivial
theorem hdx.tw113851431961856068 : True := trivial
theorem hdx.tw11388591071182995016 : True := trivial
theorem hdx.tw1143833212419383424 : True := trivial
theorem hdx.tw11495857418718629223 : True := trivial
theorem hdx.tw1151294674959624821 : True := trivial
theorem hdx.tw11515147229649130612 : True := trivial
theorem hdx.tw11522366763458423193 : True := trivial
theorem hdx.tw11578074195871968587 : True := trivial
theorem hdx.tw11584205359766472284 : True := trivial
theorem hdx.tw11602720935865930676 : True := trivial
theorem hdx.tw11660785440787077306 : True := trivial
theorem hdx.tw11675466698208403116 : True := trivial
theorem hdx.tw11697588484477342707 : True := trivial
theorem hdx.tw11841441347127782364 : True := trivial
theorem hdx.tw1192885790850840728 : True := trivial
theorem hdx.tw11936222721406477323 : True := trivial
theorem hdx.tw12030032759238858242 : True := trivial
theorem hdx.tw12052765825483242615 : True := trivial
theorem hdx.tw12074549039828777048 : True := trivial
theorem hdx.tw12088185286174886481 : True := trivial
theorem hdx.tw12134989247200065487 : True := trivial
theorem hdx.tw12166505169460555372 : True := trivial
theorem hdx.tw12178819382366083031 : True := trivial
theorem hdx.tw12206552368688933907 : True := trivial
theorem hdx.tw1220838349044446691 : True := trivial
theorem hdx.tw12234156127385616618 : True := trivial
theorem hdx.tw12281017881881923306 : True := trivial
theorem hdx.tw12313045728619779818 : True := trivial
theorem hdx.tw12325224503386750664 : True := trivial
theorem hdx.tw12331383661426589313 : True := trivial
theorem hdx.tw12426778202675754560 : True := trivial
theorem hdx.tw12445566163321100736 : True := trivial
theorem hdx.tw12452461576265453900 : True := trivial
theorem hdx.tw12478788136511962927 : True := trivial
theorem hdx.tw12504418809960602757 : True := trivial
theorem hdx.tw1251214050578072604 : True := trivial
theorem hdx.tw12529615375237876898 : True := trivial
theorem hdx.tw12572793683898010428 : True := trivial
theorem hdx.tw12634603101130419267 : True := trivial
theorem hdx.tw12635588955759496997 : True := trivial
theorem hdx.tw1276945570879339878 : True := trivial
theorem hdx.tw12801157613744815678 : True := trivial
theorem hdx.tw12900576416758664460 : True := trivial
theorem hdx.tw1294143798949084492 : True := trivial
theorem hdx.tw13019106578233858662 : True := trivial
theorem hdx.tw13104435317923764781 : True := trivial
theorem hdx.tw13112909101138109313 : True := trivial
theorem hdx.tw1326228109594366679 : True := trivial
theorem hdx.tw13290664575460695550 : True := trivial
theorem hdx.tw13338566791733452661 : True := trivial
theorem hdx.tw13344463455011972175 : True := trivial
theorem hdx.tw13406769057357949175 : True := trivial
theorem hdx.tw13421030162668030679 : True := trivial
theorem hdx.tw13536076783097482858 : True := trivial
theorem hdx.tw13584252402403289962 : True := trivial
theorem hdx.tw13595457875619926604 : True := trivial
theorem hdx.tw13619925001237774164 : True := trivial
theorem hdx.tw13717530880629798888 : True := trivial
theorem hdx.tw1371935854870039326 : True := trivial
theorem hdx.tw13853881831057575859 : True := trivial
theorem hdx.tw13914514510331185930 : True := trivial
theorem hdx.tw13948280008848169235 : True := trivial
theorem hdx.tw13980627672819631719 : True := trivial
theorem hdx.tw13987880881672528783 : True := trivial
theorem hdx.tw14012388058838257954 : True := trivial
theorem hdx.tw14015681384436167552 : True := trivial
theorem hdx.tw14046126503405127149 : True := trivial
theorem hdx.tw14060117346847164662 : True := trivial
theorem hdx.tw14129734848064291003 : True := trivial
theorem hdx.tw14175279773360419805 : True := trivial
theorem hdx.tw14187988087963037607 : True := trivial
theorem hdx.tw14228575590624932211 : True := trivial
theorem hdx.tw14281804178665591459 : True := trivial
theorem hdx.tw14303011803390168540 : True := trivial
theorem hdx.tw1434740809948872380 : True := trivial
theorem hdx.tw14396167701775469794 : True := trivial
theorem hdx.tw14433594377317562107 : True := trivial
theorem hdx.tw14478423609326988682 : True := trivial
theorem hdx.tw14509752947792529248 : True := trivial
theorem hdx.tw14531365210256918122 : True := trivial
theorem hdx.tw14575163931095405474 : True := trivial
theorem hdx.tw14632186484594187632 : True := trivial
theorem hdx.tw14779928052246003348 : True := trivial
theorem hdx.tw1479831794059858176 : True := trivial
theorem hdx.tw14913751445013925080 : True := trivial
theorem hdx.tw15031074178914213187 : True := trivial
theorem hdx.tw15034822990241770971 : True := trivial
theorem hdx.tw15105042441471227236 : True := trivial
theorem hdx.tw15174282228005035574 : True := trivial
theorem hdx.tw15315506500063428510 : True := trivial
theorem hdx.tw15345905408385276938 : True := trivial
theorem hdx.tw15359015982562140800 : True := trivial
theorem hdx.tw15388619720748698437 : True := trivial
theorem hdx.tw1539625948423359316 : True := trivial
theorem hdx.tw15398732277716625270 : True := trivial
theorem hdx.tw15431676669900571147 : True := trivial
theorem hdx.tw15434174308006810282 : True := trivial
theorem hdx.tw1552349599394581083 : True := trivial
theorem hdx.tw15659053357762973569 : True := trivial
theorem hdx.tw15671598221465228534 : True := trivial
theorem hdx.tw15687922160928513878 : True := trivial
theorem hdx.tw15830262602708951874 : True := trivial
theorem hdx.tw15831210970691702606 : True := trivial
theorem hdx.tw15833562081031671975 : True := trivial
theorem hdx.tw15834383266715129711 : True := trivial
theorem hdx.tw15954137024335739287 : True := trivial
theorem hdx.tw1600260125458631901 : True := trivial
theorem hdx.tw16024769431262477413 : True := trivial
theorem hdx.tw16127838427017963456 : True := trivial
theorem hdx.tw16155006655965795993 : True := trivial
theorem hdx.tw16196218814506653375 : True := trivial
theorem hdx.tw16221956571819373800 : True := trivial
theorem hdx.tw16236336449791144082 : True := trivial
theorem hdx.tw16252849800747116556 : True := trivial
theorem hdx.tw16253362753593719779 : True := trivial
theorem hdx.tw16281044257968913310 : True := trivial
theorem hdx.tw16286876664219943258 : True := trivial
theorem hdx.tw16305224850675296298 : True := trivial
theorem hdx.tw16362415112987247143 : True := trivial
theorem hdx.tw16379262867650043668 : True := trivial
theorem hdx.tw16408230632488777019 : True := trivial
theorem hdx.tw16433662872426479686 : True := trivial
theorem hdx.tw16442587381078774434 : True := trivial
theorem hdx.tw16473633714598866148 : True := trivial
theorem hdx.tw16507055148385005355 : True := trivial
theorem hdx.tw16518533654873897811 : True := trivial
theorem hdx.tw16535174256780669495 : True := trivial
theorem hdx.tw16548396513794135620 : True := trivial
theorem hdx.tw16596626063930379043 : True := trivial
theorem hdx.tw16678223327191222261 : True := trivial
theorem hdx.tw1673595772785961460 : True := trivial
theorem hdx.tw16747530929944400022 : True := trivial
theorem hdx.tw16839776992042190373 : True := trivial
theorem hdx.tw16895206672942312801 : True := trivial
theorem hdx.tw16964379784204986463 : True := trivial
theorem hdx.tw17023795833525534565 : True := trivial
theorem hdx.tw17073587688187394439 : True := trivial
theorem hdx.tw17075150009419757640 : True := trivial
theorem hdx.tw17134451673777903396 : True := trivial
theorem hdx.tw17232349515195586196 : True := trivial
theorem hdx.tw17232792962541694011 : True := trivial
theorem hdx.tw17233892330436412615 : True := trivial
theorem hdx.tw17258631066955539169 : True := trivial
theorem hdx.tw17282606970882144060 : True := trivial
theorem hdx.tw17292223344690839085 : True := trivial
theorem hdx.tw17350970143641343967 : True := trivial
theorem hdx.tw17410701255328271796 : True := trivial
theorem hdx.tw17467691248868812252 : True := trivial
theorem hdx.tw17568867728482003588 : True := trivial
theorem hdx.tw17595401478614777575 : True := trivial
theorem hdx.tw17601081035908215487 : True := trivial
theorem hdx.tw1761263280457242910 : True := trivial
theorem hdx.tw17675035837370099154 : True := trivial
theorem hdx.tw17711619165454217612 : True := trivial
theorem hdx.tw17723654121137702211 : True := trivial
theorem hdx.tw17729327682716250715 : True := trivial
theorem hdx.tw17806877144198043587 : True := trivial
theorem hdx.tw17901021365655696678 : True := trivial
theorem hdx.tw18019414548722637370 : True := trivial
theorem hdx.tw18026616946130045295 : True := trivial
theorem hdx.tw18209906880494095197 : True := trivial
theorem hdx.tw18350826734470016196 : True := trivial
theorem hdx.tw18390342758081890369 : True := trivial
theorem hdx.tw18400836527100259688 : True := trivial
theorem hdx.tw18415692690662700267 : True := trivial
theorem hdx.tw18431967259697351972 : True := trivial
theorem hdx.tw1862717869766461714 : True := trivial
theorem hdx.tw1901344546337730168 : True := trivial
theorem hdx.tw1995874101337085491 : True := trivial
theorem hdx.tw205849958853153482 : True := trivial
theorem hdx.tw2103475244264289173 : True := trivial
theorem hdx.tw2304138374814652540 : True := trivial
theorem hdx.tw2432956855527770927 : True := trivial
theorem hdx.tw245516377530447115 : True := trivial
theorem hdx.tw2541719386938028574 : True := trivial
theorem hdx.tw2697347771269182058 : True := trivial
theorem hdx.tw2751376245015142808 : True := trivial
theorem hdx.tw2783006680324142839 : True := trivial
theorem hdx.tw2853013744300066921 : True := trivial
theorem hdx.tw2854212090634251903 : True := trivial
theorem hdx.tw2973805921160463874 : True := trivial
theorem hdx.tw2975192638350318803 : True := trivial
theorem hdx.tw2984043997054306990 : True := trivial
theorem hdx.tw3047724923153992773 : True := trivial
theorem hdx.tw3056725880364335713 : True := trivial
theorem hdx.tw3086717137963139412 : True := trivial
theorem hdx.tw314171226279846428 : True := trivial
theorem hdx.tw3192341236944561261 : True := trivial
theorem hdx.tw319792305991530512 : True := trivial
theorem hdx.tw3208793466514822611 : True := trivial
theorem hdx.tw3298644383375554705 : True := trivial
theorem hdx.tw3299699113575154979 : True := trivial
theorem hdx.tw3333921720041338052 : True := trivial
theorem hdx.tw3391634660313547014 : True := trivial
theorem hdx.tw3399416878058748289 : True := trivial
theorem hdx.tw347545360391822463 : True := trivial
theorem hdx.tw3476281904440942352 : True := trivial
theorem hdx.tw3492761726097555513 : True := trivial
theorem hdx.tw3499749315779059354 : True := trivial
theorem hdx.tw3501709826607874653 : True := trivial
theorem hdx.tw3564287663811300862 : True := trivial
theorem hdx.tw3593019715707843614 : True := trivial
theorem hdx.tw3603241132631158879 : True := trivial
theorem hdx.tw3627049306912117131 : True := trivial
theorem hdx.tw370734680809381548 : True := trivial
theorem hdx.tw3744299937423888265 : True := trivial
theorem hdx.tw3745256487264532980 : True := trivial
theorem hdx.tw3764027531234394611 : True := trivial
theorem hdx.tw3828815567933556792 : True := trivial
theorem hdx.tw3893663342687946865 : True := trivial
theorem hdx.tw3916052703709344891 : True := trivial
theorem hdx.tw3944584140546403621 : True := trivial
theorem hdx.tw3952931942233925166 : True := trivial
theorem hdx.tw398990832647445966 : True := trivial
theorem hdx.tw3997312034694123959 : True := trivial
theorem hdx.tw4005153839263176976 : True := trivial
theorem hdx.tw4141054045944905157 : True := trivial
theorem hdx.tw4238795522253843017 : True := trivial
theorem hdx.tw4250239842518720443 : True := trivial
theorem hdx.tw4332073541344451168 : True := trivial
theorem hdx.tw4346060600591594223 : True := trivial
theorem hdx.tw4355560026944110611 : True := trivial
theorem hdx.tw4360049065904520443 : True := trivial
theorem hdx.tw4438100243816028883 : True := trivial
theorem hdx.tw4530994747041326639 : True := trivial
theorem hdx.tw4537693066537608264 : True := trivial
theorem hdx.tw4556465615819868078 : True := trivial
theorem hdx.tw4627526434441176054 : True := trivial
theorem hdx.tw4815461082525084633 : True := trivial
theorem hdx.tw49296990388682444 : True := trivial
theorem hdx.tw4950585254653031142 : True := trivial
theorem hdx.tw5150076709410974968 : True := trivial
theorem hdx.tw5161685149751793296 : True := trivial
theorem hdx.tw5165046168425032473 : True := trivial
theorem hdx.tw5181138376618889655 : True := trivial
theorem hdx.tw5231109205170973173 : True := trivial
theorem hdx.tw5350543311230756584 : True := trivial
theorem hdx.tw5406008801441316737 : True := trivial
theorem hdx.tw5427716679311760638 : True := trivial
theorem hdx.tw5440585394920044528 : True := trivial
theorem hdx.tw549711235211712834 : True := trivial
theorem hdx.tw5518913457677203722 : True := trivial
theorem hdx.tw558471867837405187 : True := trivial
theorem hdx.tw5596014489341926746 : True := trivial
theorem hdx.tw5630239216004255137 : True := trivial
theorem hdx.tw5638325719076014852 : True := trivial
theorem hdx.tw5677198998247633345 : True := trivial
theorem hdx.tw5693888961822732430 : True := trivial
theorem hdx.tw5733060583114533983 : True := trivial
theorem hdx.tw5841831902796037256 : True := trivial
theorem hdx.tw5985232166639502999 : True := trivial
theorem hdx.tw6001971561257207051 : True := trivial
theorem hdx.tw6071306460606938908 : True := trivial
theorem hdx.tw6130610383737089894 : True := trivial
theorem hdx.tw6146004956232426578 : True := trivial
theorem hdx.tw6253104955452660297 : True := trivial
theorem hdx.tw6253187992163815031 : True := trivial
theorem hdx.tw6304145221730877894 : True := trivial
theorem hdx.tw635593893913733454 : True := trivial
theorem hdx.tw637591128139111178 : True := trivial
theorem hdx.tw6392203597269669241 : True := trivial
theorem hdx.tw6417378638471410451 : True := trivial
theorem hdx.tw6433729911373238517 : True := trivial
theorem hdx.tw6445625679090876641 : True := trivial
theorem hdx.tw6489065641804638096 : True := trivial
theorem hdx.tw654902100672316387 : True := trivial
theorem hdx.tw6641574594802563731 : True := trivial
theorem hdx.tw6649976812566562612 : True := trivial
theorem hdx.tw66766952702724116 : True := trivial
theorem hdx.tw6748099376715480053 : True := trivial
theorem hdx.tw682936352443621598 : True := trivial
theorem hdx.tw6909020301817934674 : True := trivial
theorem hdx.tw6982377764206668994 : True := trivial
theorem hdx.tw6991466536931224953 : True := trivial
theorem hdx.tw7036709933530115285 : True := trivial
theorem hdx.tw7085692536553069320 : True := trivial
theorem hdx.tw7121131041633636536 : True := trivial
theorem hdx.tw7182978999254074707 : True := trivial
theorem hdx.tw7208240509209418578 : True := trivial
theorem hdx.tw7239578808068180993 : True := trivial
theorem hdx.tw7343337105669707364 : True := trivial
theorem hdx.tw7382874535813935119 : True := trivial
theorem hdx.tw7384631429328008645 : True := trivial
theorem hdx.tw752177461007384568 : True := trivial
theorem hdx.tw7679074778234120773 : True := trivial
theorem hdx.tw7767355764584403046 : True := trivial
theorem hdx.tw7828176740706068276 : True := trivial
theorem hdx.tw7929344018686475116 : True := trivial
theorem hdx.tw8015430348058212607 : True := trivial
theorem hdx.tw8022705790335907359 : True := trivial
theorem hdx.tw8087485324176767001 : True := trivial
theorem hdx.tw8126802645191832046 : True := trivial
theorem hdx.tw8294542176271583782 : True := trivial
theorem hdx.tw8335194943170384599 : True := trivial
theorem hdx.tw8352499636815896096 : True := trivial
theorem hdx.tw8366657424049280243 : True := trivial
theorem hdx.tw8441336199095553518 : True := trivial
theorem hdx.tw8442850642371093264 : True := trivial
theorem hdx.tw8461092197124555767 : True := trivial
theorem hdx.tw851837672301890471 : True := trivial
theorem hdx.tw8536179944795569344 : True := trivial
theorem hdx.tw857393026579069334 : True := trivial
theorem hdx.tw8594426482672012323 : True := trivial
theorem hdx.tw8600207202693503665 : True := trivial
theorem hdx.tw8604352893467490280 : True := trivial
theorem hdx.tw8858098354521700199 : True := trivial
theorem hdx.tw8914680256476178774 : True := trivial
theorem hdx.tw8980818605159307037 : True := trivial
theorem hdx.tw8984759374764534557 : True := trivial
theorem hdx.tw9155806303806056320 : True := trivial
theorem hdx.tw9337238921331946697 : True := trivial
theorem hdx.tw9409537567691438086 : True := trivial
theorem hdx.tw9432352663938641985 : True := trivial
theorem hdx.tw9454522652109817695 : True := trivial
theorem hdx.tw9483073152180089429 : True := trivial
theorem hdx.tw9523951570799740007 : True := trivial
theorem hdx.tw9550864123062989849 : True := trivial
theorem hdx.tw9593306784295756071 : True := trivial
theorem hdx.tw9615590616997732661 : True := trivial
theorem hdx.tw9739498329565824639 : True := trivial
theorem hdx.tw9840267665152315539 : True := trivial
theorem hdx.tw9896213848734680689 : True := trivial
theorem hdx.tw9949679171357851691 : True := trivial
end Mine
set_option Elab.async true
set_option maxRecDepth 100000 in
set_option maxHeartbeats 8000000 in
theorem Mine.hdx : PySem.Challenge.rw_pq0634_02.Holds := by
  w_on; o_law; k_head; (case hw => w_witness2)
  have mine_h : Mine.Runs Mine.hdx.heap_1_39 := {
        head_run' := by grind [(show Mine.R_head_run' Mine.hdx.heap_1_39 from fun P => by kernel_rfl)],
        exit_run := by grind [(show Mine.R_exit_run Mine.hdx.heap_1_39 from fun P => by kernel_rfl)],
        good_0_0 := by grind [(show Mine.R_good Mine.hdx.heap_1_39 0 0 from fun P => by kernel_rfl)],
        good_0_1 := by grind [(show Mine.R_good Mine.hdx.heap_1_39 0 1 from fun P => by kernel_rfl)],
        good_0_2 := by grind [(show Mine.R_good Mine.hdx.heap_1_39 0 2 from fun P => by kernel_rfl)],
        good_1_0 := by grind [(show Mine.R_good Mine.hdx.heap_1_39 1 0 from fun P => by kernel_rfl)],
        good_1_1 := by grind [(show Mine.R_good Mine.hdx.heap_1_39 1 1 from fun P => by kernel_rfl)],
        good_1_2 := by grind [(show Mine.R_good Mine.hdx.heap_1_39 1 2 from fun P => by kernel_rfl)],
        good_2_0 := by grind [(show Mine.R_good Mine.hdx.heap_1_39 2 0 from fun P => by kernel_rfl)],
        good_2_1 := by grind [(show Mine.R_good Mine.hdx.heap_1_39 2 1 from fun P => by kernel_rfl)],
        good_2_2 := by grind [(show Mine.R_good Mine.hdx.heap_1_39 2 2 from fun P => by kernel_rfl)],
        good_3_0 := by grind [(show Mine.R_good Mine.hdx.heap_1_39 3 0 from fun P => by kernel_rfl)],
        good_3_1 := by grind [(show Mine.R_good Mine.hdx.heap_1_39 3 1 from fun P => by kernel_rfl)],
        good_3_2 := by grind [(show Mine.R_good Mine.hdx.heap_1_39 3 2 from fun P => by kernel_rfl)],
        good_4_0 := by grind [(show Mine.R_good Mine.hdx.heap_1_39 4 0 from fun P => by kernel_rfl)],
        good_4_1 := by grind [(show Mine.R_good Mine.hdx.heap_1_39 4 1 from fun P => by kernel_rfl)],
        good_4_2 := by grind [(show Mine.R_good Mine.hdx.heap_1_39 4 2 from fun P => by kernel_rfl)],
        good_5_0 := by grind [(show Mine.R_good Mine.hdx.heap_1_39 5 0 from fun P => by kernel_rfl)],
        good_5_1 := by grind [(show Mine.R_good Mine.hdx.heap_1_39 5 1 from fun P => by kernel_rfl)],
        good_5_2 := by grind [(show Mine.R_good Mine.hdx.heap_1_39 5 2 from fun P => by kernel_rfl)],
        good_6_0 := by grind [(show Mine.R_good Mine.hdx.heap_1_39 6 0 from fun P => by kernel_rfl)],
        good_6_1 := by grind [(show Mine.R_good Mine.hdx.heap_1_39 6 1 from fun P => by kernel_rfl)],
        good_6_2 := by grind [(show Mine.R_good Mine.hdx.heap_1_39 6 2 from fun P => by kernel_rfl)],
        good_7_0 := by grind [(show Mine.R_good Mine.hdx.heap_1_39 7 0 from fun P => by kernel_rfl)],
        good_7_1 := by grind [(show Mine.R_good Mine.hdx.heap_1_39 7 1 from fun P => by kernel_rfl)],
        good_7_2 := by grind [(show Mine.R_good Mine.hdx.heap_1_39 7 2 from fun P => by kernel_rfl)],
        good_8_0 := by grind [(show Mine.R_good Mine.hdx.heap_1_39 8 0 from fun P => by kernel_rfl)],
        good_8_1 := by grind [(show Mine.R_good Mine.hdx.heap_1_39 8 1 from fun P => by kernel_rfl)],
        good_8_2 := by grind [(show Mine.R_good Mine.hdx.heap_1_39 8 2 from fun P => by kernel_rfl)],
        draw_eq := fun P orc a b c m τ k kx => by kernel_rfl,
        right_isS := fun P => ⟨by kernel_rfl, by kernel_rfl, by kernel_rfl, by kernel_rfl⟩,
        right_bind := fun P n => by kernel_rfl,
        right_dn := fun P n => by kernel_rfl,
        right_eq := fun P n σ k kx lm q => by kernel_rfl,
        pen_isS := fun P => ⟨by kernel_rfl, by kernel_rfl, by kernel_rfl, by kernel_rfl⟩,
        pen_cut := fun P => by kernel_rfl,
        pen_bind := fun P => by kernel_rfl,
        pen_r0 := fun P q z orc => by kernel_rfl,
        pen_r0' := fun P q z y orc => by kernel_rfl,
        pen_r1 := fun P q orc k kx => by kernel_rfl,
        pen_r3 := fun P q orc z xs k kx => by kernel_rfl,
        pen_r3' := fun P q orc z y xs k kx => by kernel_rfl,
        pen_r2 := fun P q orc z y p1 σ k kx => by kernel_rfl,
        pen_r2' := fun P q orc z y y' p1 σ k kx => by kernel_rfl,
        law_isS := by grind [(show Mine.R_law_isS Mine.hdx.heap_1_39 from fun P => ⟨by kernel_rfl, by kernel_rfl, by kernel_rfl, by kernel_rfl⟩)],
        lr_nW := by grind [(show Mine.R_lr_nW Mine.hdx.heap_1_39 from fun P => by kernel_rfl)],
        lr_nD := by grind [(show Mine.R_lr_nD Mine.hdx.heap_1_39 from fun P => by kernel_rfl)],
        lr_lW := by grind [(show Mine.R_lr_lW Mine.hdx.heap_1_39 from fun P w => by kernel_rfl)],
        lr_A := by grind [(show Mine.R_lr_A Mine.hdx.heap_1_39 from fun P orc k kx => by kernel_rfl)],
        lr_W := by grind [(show Mine.R_lr_W Mine.hdx.heap_1_39 from fun P => by kernel_rfl)],
        lr_0 := by grind [(show Mine.R_lr_0 Mine.hdx.heap_1_39 from fun P => by kernel_rfl)],
        lr_1 := by grind [(show Mine.R_lr_1 Mine.hdx.heap_1_39 from fun P => by kernel_rfl)],
        lr_T1 := by grind [(show Mine.R_lr_T1 Mine.hdx.heap_1_39 from fun P i => by kernel_rfl)],
        lr_I1 := by grind [(show Mine.R_lr_I1 Mine.hdx.heap_1_39 from fun P => by kernel_rfl)],
        lr_P := by grind [(show Mine.R_lr_P Mine.hdx.heap_1_39 from fun P => by kernel_rfl)],
        lr_D := by grind [(show Mine.R_lr_D Mine.hdx.heap_1_39 from fun P => by kernel_rfl)],
        lr_T2 := by grind [(show Mine.R_lr_T2 Mine.hdx.heap_1_39 from fun P i => by kernel_rfl)],
        lr_I2 := by grind [(show Mine.R_lr_I2 Mine.hdx.heap_1_39 from fun P i => by kernel_rfl)],
        lr_E := by grind [(show Mine.R_lr_E Mine.hdx.heap_1_39 from fun P vs => by kernel_rfl)],
        kg_61 := by grind [(show Mine.R_kg_61 Mine.hdx.heap_1_39 from fun P => by kernel_rfl)],
        kg_61h := by grind [(show Mine.R_kg_61h Mine.hdx.heap_1_39 from fun P => by kernel_rfl)],
        kg_198 := by grind [(show Mine.R_kg_198 Mine.hdx.heap_1_39 from fun P => by kernel_rfl)],
        kg_198h := by grind [(show Mine.R_kg_198h Mine.hdx.heap_1_39 from fun P => by kernel_rfl)],
        kg_glob := by grind [(show Mine.R_kg_glob Mine.hdx.heap_1_39 from fun P => by kernel_rfl)],
        kg_sh := by grind [(show Mine.R_kg_sh Mine.hdx.heap_1_39 from fun P => by kernel_rfl)],
        gf_good := by grind [(show Mine.R_gf_good Mine.hdx.heap_1_39 from fun P => { C := by kernel_rfl, N := by kernel_rfl, n1 := by kernel_rfl, n2 := by kernel_rfl, n3 := by kernel_rfl, n4 := by kernel_rfl, L := by kernel_rfl, NL := by kernel_rfl, l1 := by kernel_rfl, l2 := by kernel_rfl, l3 := by kernel_rfl, l4 := by kernel_rfl, I := by kernel_rfl, Ic := by kernel_rfl, Id := by kernel_rfl, par := by kernel_rfl, args := by kernel_rfl, dfl := by kernel_rfl, D := by kernel_rfl, Dd := by kernel_rfl, body := by kernel_rfl, line := by kernel_rfl, co := by kernel_rfl, ge := by kernel_rfl, kind := by kernel_rfl, cells := by kernel_rfl, s1 := by kernel_rfl, s2 := by kernel_rfl, s3 := by kernel_rfl, s4 := by kernel_rfl, clo := by kernel_rfl, code := by kernel_rfl, glob := by kernel_rfl, gx := by kernel_rfl, blt := by kernel_rfl, bx := by kernel_rfl })],
        scg := by grind [(show Mine.R_scg Mine.hdx.heap_1_39 from fun P => by kernel_rfl)],
        hkind := fun P => by kernel_rfl }
  w_strict (
    k_go0
    refine' Mine.law_final (H := mine_h) (F' := ?mine_f) (X' := ?mine_x) (T' := ?mine_t) (hl := ?mine_l) (hC := ?mine_c) (N' := ?mine_n) (hI := ?mine_i) (hn := ?mine_len) (hb := ?mine_b) (hs := ?mine_s) (hQ := ?mine_q)
    case mine_f => assumption
    case mine_x => assumption
    case mine_t => assumption
    case mine_l => assumption
    case mine_c => assumption
    case mine_n => assumption
    case mine_i => assumption
    case mine_len => omega
    case mine_b => kernel_rfl
    case mine_s => kernel_rfl
    case mine_q =>
      intro s' h1 h2 h3 h4
      refine ⟨⟨.inl ⟨.bool true, .bool true, [], rfl, fun _ => rfl, .bool true, by kernel_rfl, fun _ => ⟨List.nodup_nil, fun _ h => nomatch h⟩⟩, h1, h4, h3.trans (by assumption)⟩, h2, trivial⟩)
theorem PySem.Challenge.cw_pq0634_02_holds : PySem.Challenge.rw_pq0634_02.Holds :=
  Mine.hdx
end
