import PyProof.Rows.All
import Wide.All
import OpenK.AllK
import Wide.FinOn
import Wide.OneHead
import Lean
import PySem.Challenge.RW_pf0343_01
set_option Elab.async false
set_option compiler.extract_closed false
set_option genSizeOf false
set_option linter.unusedVariables false
set_option linter.unusedSimpArgs false
open PySem PySem.W PyProof.Rows
namespace Mine
abbrev Tl := @if_pos
abbrev Tm := @if_neg
abbrev Tn := @wpAny_bind
abbrev To := @wpAny_mono
abbrev Tp := @decide_eq_true
abbrev Tq := @decide_eq_false
abbrev Tr := @wpAny_pure
abbrev Ts := @List.length_cons
abbrev Tt := @Exists.elim
abbrev Tu := @List.length_map
abbrev Tv := @Nat.le_refl
abbrev Tw := @List.length_append
abbrev Tx := @List.mem_cons_of_mem
abbrev Ty := @List.mem_cons_self
abbrev Tz := @List.append_assoc
abbrev T0 := @List.mem_cons
abbrev T1 := @List.map_cons
abbrev T2 := @Nat.le_trans
abbrev T3 := @Nat.le_add_right
abbrev T4 := @List.map_append
abbrev T5 := @Bool.and_eq_true_iff
abbrev T6 := @Nat.le_add_left
abbrev T7 := @List.mem_of_getElem?
abbrev T8 := @List.mem_append
abbrev T9 := @List.drop_drop
abbrev UA := @wpAny_standAt
abbrev UB := @not_not_intro
abbrev UC := @List.getElem?_eq_some_iff
abbrev UD := @List.append_nil
abbrev UE := @Heap.get?_push_of_some
abbrev UF := @wpAny_holding
abbrev UG := @Nat.zero_le
abbrev UH := @List.getElem?_map
abbrev UI := @List.getElem?_append_left
abbrev UJ := @List.takeWhile_cons
abbrev UK := @List.mem_of_mem_drop
abbrev UL := @Heap.get?_none_of_le
abbrev UM := @List.head?_drop
abbrev UN := @List.mem_singleton
abbrev UO := @List.flatten_cons
abbrev UP := @List.length_singleton
abbrev UQ := @Heap.get?_push_size
abbrev UR := @Bool.false_ne_true
abbrev US := @Option.map_eq_some_iff
abbrev UT := @List.take_of_length_le
abbrev UU := @List.mem_of_mem_take
abbrev UV := @Heap.get?_update_self
abbrev UW := @Heap.get?_update_other
abbrev UX := @List.getElem?_append_right
abbrev UY := @List.eq_nil_of_length_eq_zero
end Mine
namespace Mine
theorem Ln {t0 : Sort _} {t1 : Sort _} {t2 : Sort _} {t3 : Sort _} {t4 : Sort _} {t5 : Sort _} {t6 : Sort _} {p0 : t0 → t1 → t2 → t3 → t4 → t5 → t6 → Prop} {p1 : t0 → t1 → t2 → t3 → t4 → t5 → t6 → Prop} {p2 : t0 → t1 → t2 → t3 → t4 → t5 → t6 → Prop} {p3 : t0 → t1 → t2 → t3 → t4 → t5 → t6 → Prop} {p4 : t0 → t1 → t2 → t3 → t4 → t5 → t6 → Prop} {g : Prop} (h : ∃ a0 : t0, ∃ a1 : t1, ∃ a2 : t2, ∃ a3 : t3, ∃ a4 : t4, ∃ a5 : t5, ∃ a6 : t6, p0 a0 a1 a2 a3 a4 a5 a6 ∧ p1 a0 a1 a2 a3 a4 a5 a6 ∧ p2 a0 a1 a2 a3 a4 a5 a6 ∧ p3 a0 a1 a2 a3 a4 a5 a6 ∧ p4 a0 a1 a2 a3 a4 a5 a6) (f : ∀ a0 : t0, ∀ a1 : t1, ∀ a2 : t2, ∀ a3 : t3, ∀ a4 : t4, ∀ a5 : t5, ∀ a6 : t6, p0 a0 a1 a2 a3 a4 a5 a6 → p1 a0 a1 a2 a3 a4 a5 a6 → p2 a0 a1 a2 a3 a4 a5 a6 → p3 a0 a1 a2 a3 a4 a5 a6 → p4 a0 a1 a2 a3 a4 a5 a6 → g) : g := Tt h fun a0 h => Tt h fun a1 h => Tt h fun a2 h => Tt h fun a3 h => Tt h fun a4 h => Tt h fun a5 h => Tt h fun a6 h => f a0 a1 a2 a3 a4 a5 a6 h.1 h.2.1 h.2.2.1 h.2.2.2.1 h.2.2.2.2
theorem A4 {t0 : Sort _} {p0 : t0 → Prop} {p1 : t0 → Prop} (a0 : t0) (h0 : p0 a0) (h1 : p1 a0) : ∃ a0 : t0, p0 a0 ∧ p1 a0 := ⟨a0, h0, h1⟩
theorem B0 {t0 : Sort _} {p0 : t0 → Prop} {p1 : t0 → Prop} {p2 : t0 → Prop} (a0 : t0) (h0 : p0 a0) (h1 : p1 a0) (h2 : p2 a0) : ∃ a0 : t0, p0 a0 ∧ p1 a0 ∧ p2 a0 := ⟨a0, h0, h1, h2⟩
theorem LI {t0 : Sort _} {t1 : Sort _} {p0 : t0 → Prop} {p1 : t0 → Prop} {p2 : t0 → Prop} {p3 : t0 → Prop} {p4 : t0 → t1 → Prop} (a0 : t0) (h0 : p0 a0) (h1 : p1 a0) (h2 : p2 a0) (h3 : p3 a0) (a1 : t1) (h4 : p4 a0 a1) : ∃ a0 : t0, p0 a0 ∧ p1 a0 ∧ p2 a0 ∧ p3 a0 ∧ (∃ a1 : t1, p4 a0 a1) := ⟨a0, h0, h1, h2, h3, a1, h4⟩
theorem Cf {t0 : Sort _} {t1 : Sort _} {p0 : t0 → Prop} {p1 : t0 → Prop} {p2 : t0 → t1 → Prop} (a0 : t0) (h0 : p0 a0) (h1 : p1 a0) (a1 : t1) (h2 : p2 a0 a1) : ∃ a0 : t0, p0 a0 ∧ p1 a0 ∧ (∃ a1 : t1, p2 a0 a1) := ⟨a0, h0, h1, a1, h2⟩
theorem Dc {t0 : Sort _} {t1 : Sort _} {t2 : Sort _} {p0 : t0 → t1 → t2 → Prop} {p1 : t0 → t1 → t2 → Prop} {p2 : t0 → t1 → t2 → Prop} {p3 : t0 → t1 → t2 → Prop} {p4 : t0 → t1 → t2 → Prop} (a0 : t0) (a1 : t1) (a2 : t2) (h0 : p0 a0 a1 a2) (h1 : p1 a0 a1 a2) (h2 : p2 a0 a1 a2) (h3 : p3 a0 a1 a2) (h4 : p4 a0 a1 a2) : ∃ a0 : t0, ∃ a1 : t1, ∃ a2 : t2, p0 a0 a1 a2 ∧ p1 a0 a1 a2 ∧ p2 a0 a1 a2 ∧ p3 a0 a1 a2 ∧ p4 a0 a1 a2 := ⟨a0, a1, a2, h0, h1, h2, h3, h4⟩
theorem Di {t0 : Sort _} {t1 : Sort _} {p0 : t0 → t1 → Prop} {p1 : t0 → t1 → Prop} {p2 : t0 → t1 → Prop} (a0 : t0) (a1 : t1) (h0 : p0 a0 a1) (h1 : p1 a0 a1) (h2 : p2 a0 a1) : ∃ a0 : t0, ∃ a1 : t1, p0 a0 a1 ∧ p1 a0 a1 ∧ p2 a0 a1 := ⟨a0, a1, h0, h1, h2⟩
theorem KB {p0 : Prop} {p1 : Prop} {p2 : Prop} (h0 : p0) (h1 : p1) (h2 : p2) : p0 ∧ p1 ∧ p2 := ⟨h0, h1, h2⟩
theorem Dn {t0 : Sort _} {t1 : Sort _} {p0 : t0 → t1 → Prop} {p1 : t0 → t1 → Prop} {p2 : t0 → t1 → Prop} {p3 : t0 → t1 → Prop} (a0 : t0) (a1 : t1) (h0 : p0 a0 a1) (h1 : p1 a0 a1) (h2 : p2 a0 a1) (h3 : p3 a0 a1) : ∃ a0 : t0, ∃ a1 : t1, p0 a0 a1 ∧ p1 a0 a1 ∧ p2 a0 a1 ∧ p3 a0 a1 := ⟨a0, a1, h0, h1, h2, h3⟩
theorem N7 {t0 : Sort _} {t1 : Sort _} {p0 : t0 → t1 → Prop} (a0 : t0) (a1 : t1) (h0 : p0 a0 a1) : ∃ a0 : t0, ∃ a1 : t1, p0 a0 a1 := ⟨a0, a1, h0⟩
theorem Fv {t0 : Sort _} {t1 : Sort _} {t2 : Sort _} {t3 : Sort _} {p0 : t0 → t1 → t2 → t3 → Prop} {p1 : t0 → t1 → t2 → t3 → Prop} {p2 : t0 → t1 → t2 → t3 → Prop} (a0 : t0) (a1 : t1) (a2 : t2) (a3 : t3) (h0 : p0 a0 a1 a2 a3) (h1 : p1 a0 a1 a2 a3) (h2 : p2 a0 a1 a2 a3) : ∃ a0 : t0, ∃ a1 : t1, ∃ a2 : t2, ∃ a3 : t3, p0 a0 a1 a2 a3 ∧ p1 a0 a1 a2 a3 ∧ p2 a0 a1 a2 a3 := ⟨a0, a1, a2, a3, h0, h1, h2⟩
theorem Ht {t0 : Sort _} {t1 : Sort _} {t2 : Sort _} {p0 : t0 → t1 → t2 → Prop} (a0 : t0) (a1 : t1) (a2 : t2) (h0 : p0 a0 a1 a2) : ∃ a0 : t0, ∃ a1 : t1, ∃ a2 : t2, p0 a0 a1 a2 := ⟨a0, a1, a2, h0⟩
theorem Rx {p0 : Prop} {p1 : Prop} {p2 : Prop} {p3 : Prop} {p4 : Prop} (h0 : p0) (h1 : p1) (h2 : p2) (h3 : p3) (h4 : p4) : p0 ∧ p1 ∧ p2 ∧ p3 ∧ p4 := ⟨h0, h1, h2, h3, h4⟩
theorem Jf {t0 : Sort _} {t1 : Sort _} {t2 : Sort _} {t3 : Sort _} {p0 : t0 → t1 → t2 → t3 → Prop} {p1 : t0 → t1 → t2 → t3 → Prop} {p2 : t0 → t1 → t2 → t3 → Prop} {p3 : t0 → t1 → t2 → t3 → Prop} (a0 : t0) (a1 : t1) (a2 : t2) (a3 : t3) (h0 : p0 a0 a1 a2 a3) (h1 : p1 a0 a1 a2 a3) (h2 : p2 a0 a1 a2 a3) (h3 : p3 a0 a1 a2 a3) : ∃ a0 : t0, ∃ a1 : t1, ∃ a2 : t2, ∃ a3 : t3, p0 a0 a1 a2 a3 ∧ p1 a0 a1 a2 a3 ∧ p2 a0 a1 a2 a3 ∧ p3 a0 a1 a2 a3 := ⟨a0, a1, a2, a3, h0, h1, h2, h3⟩
theorem S8 {t0 : Sort _} {t1 : Sort _} {t2 : Sort _} {t3 : Sort _} {p0 : t0 → t1 → t2 → t3 → Prop} (a0 : t0) (a1 : t1) (a2 : t2) (a3 : t3) (h0 : p0 a0 a1 a2 a3) : ∃ a0 : t0, ∃ a1 : t1, ∃ a2 : t2, ∃ a3 : t3, p0 a0 a1 a2 a3 := ⟨a0, a1, a2, a3, h0⟩
theorem Dj {t0 : Sort _} {p0 : t0 → Prop} {p1 : t0 → Prop} {p2 : t0 → Prop} {p3 : t0 → Prop} (a0 : t0) (h0 : p0 a0) (h1 : p1 a0) (h2 : p2 a0) (h3 : p3 a0) : ∃ a0 : t0, p0 a0 ∧ p1 a0 ∧ p2 a0 ∧ p3 a0 := ⟨a0, h0, h1, h2, h3⟩
theorem HA {t0 : Sort _} {t1 : Sort _} {t2 : Sort _} {p0 : t0 → t1 → t2 → Prop} {p1 : t0 → t1 → t2 → Prop} {p2 : t0 → t1 → t2 → Prop} {p3 : t0 → t1 → t2 → Prop} (a0 : t0) (a1 : t1) (a2 : t2) (h0 : p0 a0 a1 a2) (h1 : p1 a0 a1 a2) (h2 : p2 a0 a1 a2) (h3 : p3 a0 a1 a2) : ∃ a0 : t0, ∃ a1 : t1, ∃ a2 : t2, p0 a0 a1 a2 ∧ p1 a0 a1 a2 ∧ p2 a0 a1 a2 ∧ p3 a0 a1 a2 := ⟨a0, a1, a2, h0, h1, h2, h3⟩
theorem Gb {t0 : Sort _} {t1 : Sort _} {t2 : Sort _} {p0 : t0 → t1 → t2 → Prop} {p1 : t0 → t1 → t2 → Prop} {p2 : t0 → t1 → t2 → Prop} (a0 : t0) (a1 : t1) (a2 : t2) (h0 : p0 a0 a1 a2) (h1 : p1 a0 a1 a2) (h2 : p2 a0 a1 a2) : ∃ a0 : t0, ∃ a1 : t1, ∃ a2 : t2, p0 a0 a1 a2 ∧ p1 a0 a1 a2 ∧ p2 a0 a1 a2 := ⟨a0, a1, a2, h0, h1, h2⟩
theorem EL {t0 : Sort _} {t1 : Sort _} {p0 : t0 → t1 → Prop} {p1 : t0 → t1 → Prop} (a0 : t0) (a1 : t1) (h0 : p0 a0 a1) (h1 : p1 a0 a1) : ∃ a0 : t0, ∃ a1 : t1, p0 a0 a1 ∧ p1 a0 a1 := ⟨a0, a1, h0, h1⟩
theorem Tg {p0 : Prop} {p1 : Prop} {p2 : Prop} {p3 : Prop} (h0 : p0) (h1 : p1) (h2 : p2) (h3 : p3) : p0 ∧ p1 ∧ p2 ∧ p3 := ⟨h0, h1, h2, h3⟩
theorem Q6 {t0 : Sort _} {t1 : Sort _} {p0 : t0 → t1 → Prop} {p1 : t0 → t1 → Prop} {p2 : t0 → t1 → Prop} {p3 : t0 → t1 → Prop} {p4 : t0 → t1 → Prop} (a0 : t0) (a1 : t1) (h0 : p0 a0 a1) (h1 : p1 a0 a1) (h2 : p2 a0 a1) (h3 : p3 a0 a1) (h4 : p4 a0 a1) : ∃ a0 : t0, ∃ a1 : t1, p0 a0 a1 ∧ p1 a0 a1 ∧ p2 a0 a1 ∧ p3 a0 a1 ∧ p4 a0 a1 := ⟨a0, a1, h0, h1, h2, h3, h4⟩
theorem Fk {t0 : Sort _} {t1 : Sort _} {p0 : t0 → t1 → Prop} {p1 : t0 → t1 → Prop} {p2 : t0 → t1 → Prop} {p3 : t0 → t1 → Prop} {p4 : t0 → t1 → Prop} {p5 : t0 → t1 → Prop} (a0 : t0) (a1 : t1) (h0 : p0 a0 a1) (h1 : p1 a0 a1) (h2 : p2 a0 a1) (h3 : p3 a0 a1) (h4 : p4 a0 a1) (h5 : p5 a0 a1) : ∃ a0 : t0, ∃ a1 : t1, p0 a0 a1 ∧ p1 a0 a1 ∧ p2 a0 a1 ∧ p3 a0 a1 ∧ p4 a0 a1 ∧ p5 a0 a1 := ⟨a0, a1, h0, h1, h2, h3, h4, h5⟩
theorem K8 {t0 : Sort _} {t1 : Sort _} {t2 : Sort _} {p0 : t0 → t1 → t2 → Prop} {p1 : t0 → t1 → t2 → Prop} (a0 : t0) (a1 : t1) (a2 : t2) (h0 : p0 a0 a1 a2) (h1 : p1 a0 a1 a2) : ∃ a0 : t0, ∃ a1 : t1, ∃ a2 : t2, p0 a0 a1 a2 ∧ p1 a0 a1 a2 := ⟨a0, a1, a2, h0, h1⟩
theorem H2 {t0 : Sort _} {t1 : Sort _} {t2 : Sort _} {t3 : Sort _} {p0 : t0 → t1 → t2 → t3 → Prop} {p1 : t0 → t1 → t2 → t3 → Prop} (a0 : t0) (a1 : t1) (a2 : t2) (a3 : t3) (h0 : p0 a0 a1 a2 a3) (h1 : p1 a0 a1 a2 a3) : ∃ a0 : t0, ∃ a1 : t1, ∃ a2 : t2, ∃ a3 : t3, p0 a0 a1 a2 a3 ∧ p1 a0 a1 a2 a3 := ⟨a0, a1, a2, a3, h0, h1⟩
theorem OB {t0 : Sort _} {p0 : t0 → Prop} {p1 : t0 → Prop} {p2 : t0 → Prop} {p3 : t0 → Prop} {p4 : t0 → Prop} {p5 : t0 → Prop} (a0 : t0) (h0 : p0 a0) (h1 : p1 a0) (h2 : p2 a0) (h3 : p3 a0) (h4 : p4 a0) (h5 : p5 a0) : ∃ a0 : t0, p0 a0 ∧ p1 a0 ∧ p2 a0 ∧ p3 a0 ∧ p4 a0 ∧ p5 a0 := ⟨a0, h0, h1, h2, h3, h4, h5⟩
theorem yAE {t0 : Sort _} {p0 : Prop} {p1 : t0 → Prop} (h0 : p0) (a0 : t0) (h1 : p1 a0) : p0 ∧ (∃ a0 : t0, p1 a0) := ⟨h0, a0, h1⟩
theorem PP {t0 : Sort _} {t1 : Sort _} {p0 : t0 → Prop} {p1 : t0 → Prop} {p2 : t0 → Prop} {p3 : t0 → t1 → Prop} (a0 : t0) (h0 : p0 a0) (h1 : p1 a0) (h2 : p2 a0) (a1 : t1) (h3 : p3 a0 a1) : ∃ a0 : t0, p0 a0 ∧ p1 a0 ∧ p2 a0 ∧ (∃ a1 : t1, p3 a0 a1) := ⟨a0, h0, h1, h2, a1, h3⟩
theorem N3 {t0 : Sort _} {t1 : Sort _} {t2 : Sort _} {t3 : Sort _} {t4 : Sort _} {t5 : Sort _} {p0 : t0 → t1 → t2 → t3 → t4 → t5 → Prop} (a0 : t0) (a1 : t1) (a2 : t2) (a3 : t3) (a4 : t4) (a5 : t5) (h0 : p0 a0 a1 a2 a3 a4 a5) : ∃ a0 : t0, ∃ a1 : t1, ∃ a2 : t2, ∃ a3 : t3, ∃ a4 : t4, ∃ a5 : t5, p0 a0 a1 a2 a3 a4 a5 := ⟨a0, a1, a2, a3, a4, a5, h0⟩
theorem xA {p0 : Prop} {p1 : Prop} {g : Prop} (h : p0 ∧ p1) (f : p0 → p1 → g) : g := f h.1 h.2
theorem Ku {p0 : Prop} {p1 : Prop} {p2 : Prop} {g : Prop} (h : p0 ∧ p1 ∧ p2) (f : p0 → p1 → p2 → g) : g := f h.1 h.2.1 h.2.2
theorem Tf {p0 : Prop} {p1 : Prop} {p2 : Prop} {p3 : Prop} {g : Prop} (h : p0 ∧ p1 ∧ p2 ∧ p3) (f : p0 → p1 → p2 → p3 → g) : g := f h.1 h.2.1 h.2.2.1 h.2.2.2
theorem TB {p0 : Prop} {p1 : Prop} {p2 : Prop} {p3 : Prop} {p4 : Prop} {g : Prop} (h : p0 ∧ p1 ∧ p2 ∧ p3 ∧ p4) (f : p0 → p1 → p2 → p3 → p4 → g) : g := f h.1 h.2.1 h.2.2.1 h.2.2.2.1 h.2.2.2.2
theorem NV {p0 : Prop} {p1 : Prop} {p2 : Prop} {p3 : Prop} {p4 : Prop} {p5 : Prop} {g : Prop} (h : p0 ∧ p1 ∧ p2 ∧ p3 ∧ p4 ∧ p5) (f : p0 → p1 → p2 → p3 → p4 → p5 → g) : g := f h.1 h.2.1 h.2.2.1 h.2.2.2.1 h.2.2.2.2.1 h.2.2.2.2.2
theorem Lq {p0 : Prop} {p1 : Prop} {p2 : Prop} {p3 : Prop} {p4 : Prop} {p5 : Prop} {p6 : Prop} {g : Prop} (h : p0 ∧ p1 ∧ p2 ∧ p3 ∧ p4 ∧ p5 ∧ p6) (f : p0 → p1 → p2 → p3 → p4 → p5 → p6 → g) : g := f h.1 h.2.1 h.2.2.1 h.2.2.2.1 h.2.2.2.2.1 h.2.2.2.2.2.1 h.2.2.2.2.2.2
theorem xAE {t0 : Sort _} {p0 : Prop} {p1 : t0 → Prop} {g : Prop} (h : p0 ∧ (∃ a0 : t0, p1 a0)) (f : p0 → ∀ a0 : t0, p1 a0 → g) : g := Tt h.2 fun a0 k1 => f h.1 a0 k1
theorem xE {t0 : Sort _} {p0 : t0 → Prop} {g : Prop} (h : ∃ a0 : t0, p0 a0) (f : ∀ a0 : t0, p0 a0 → g) : g := Tt h fun a0 h => f a0 h
theorem BK {t0 : Sort _} {p0 : t0 → Prop} {p1 : t0 → Prop} {g : Prop} (h : ∃ a0 : t0, p0 a0 ∧ p1 a0) (f : ∀ a0 : t0, p0 a0 → p1 a0 → g) : g := Tt h fun a0 h => f a0 h.1 h.2
theorem B1 {t0 : Sort _} {p0 : t0 → Prop} {p1 : t0 → Prop} {p2 : t0 → Prop} {g : Prop} (h : ∃ a0 : t0, p0 a0 ∧ p1 a0 ∧ p2 a0) (f : ∀ a0 : t0, p0 a0 → p1 a0 → p2 a0 → g) : g := Tt h fun a0 h => f a0 h.1 h.2.1 h.2.2
theorem FN {t0 : Sort _} {p0 : t0 → Prop} {p1 : t0 → Prop} {p2 : t0 → Prop} {p3 : t0 → Prop} {g : Prop} (h : ∃ a0 : t0, p0 a0 ∧ p1 a0 ∧ p2 a0 ∧ p3 a0) (f : ∀ a0 : t0, p0 a0 → p1 a0 → p2 a0 → p3 a0 → g) : g := Tt h fun a0 h => f a0 h.1 h.2.1 h.2.2.1 h.2.2.2
theorem Sv {t0 : Sort _} {p0 : t0 → Prop} {p1 : t0 → Prop} {p2 : t0 → Prop} {p3 : t0 → Prop} {p4 : t0 → Prop} {g : Prop} (h : ∃ a0 : t0, p0 a0 ∧ p1 a0 ∧ p2 a0 ∧ p3 a0 ∧ p4 a0) (f : ∀ a0 : t0, p0 a0 → p1 a0 → p2 a0 → p3 a0 → p4 a0 → g) : g := Tt h fun a0 h => f a0 h.1 h.2.1 h.2.2.1 h.2.2.2.1 h.2.2.2.2
theorem Q3 {t0 : Sort _} {p0 : t0 → Prop} {p1 : t0 → Prop} {p2 : t0 → Prop} {p3 : t0 → Prop} {p4 : t0 → Prop} {p5 : t0 → Prop} {g : Prop} (h : ∃ a0 : t0, p0 a0 ∧ p1 a0 ∧ p2 a0 ∧ p3 a0 ∧ p4 a0 ∧ p5 a0) (f : ∀ a0 : t0, p0 a0 → p1 a0 → p2 a0 → p3 a0 → p4 a0 → p5 a0 → g) : g := Tt h fun a0 h => f a0 h.1 h.2.1 h.2.2.1 h.2.2.2.1 h.2.2.2.2.1 h.2.2.2.2.2
theorem Q0 {t0 : Sort _} {t1 : Sort _} {p0 : t0 → Prop} {p1 : t0 → Prop} {p2 : t0 → Prop} {p3 : t0 → Prop} {p4 : t0 → t1 → Prop} {g : Prop} (h : ∃ a0 : t0, p0 a0 ∧ p1 a0 ∧ p2 a0 ∧ p3 a0 ∧ (∃ a1 : t1, p4 a0 a1)) (f : ∀ a0 : t0, p0 a0 → p1 a0 → p2 a0 → p3 a0 → ∀ a1 : t1, p4 a0 a1 → g) : g := Tt h fun a0 k1 => Tt k1.2.2.2.2 fun a1 k2 => f a0 k1.1 k1.2.1 k1.2.2.1 k1.2.2.2.1 a1 k2
theorem SR {t0 : Sort _} {t1 : Sort _} {p0 : t0 → Prop} {p1 : t0 → Prop} {p2 : t0 → Prop} {p3 : t0 → t1 → Prop} {g : Prop} (h : ∃ a0 : t0, p0 a0 ∧ p1 a0 ∧ p2 a0 ∧ (∃ a1 : t1, p3 a0 a1)) (f : ∀ a0 : t0, p0 a0 → p1 a0 → p2 a0 → ∀ a1 : t1, p3 a0 a1 → g) : g := Tt h fun a0 k1 => Tt k1.2.2.2 fun a1 k2 => f a0 k1.1 k1.2.1 k1.2.2.1 a1 k2
theorem QM {t0 : Sort _} {t1 : Sort _} {t2 : Sort _} {t3 : Sort _} {t4 : Sort _} {p0 : t0 → Prop} {p1 : t0 → Prop} {p2 : t0 → t1 → t2 → t3 → t4 → Prop} {g : Prop} (h : ∃ a0 : t0, p0 a0 ∧ p1 a0 ∧ (∃ a1 : t1, ∃ a2 : t2, ∃ a3 : t3, ∃ a4 : t4, p2 a0 a1 a2 a3 a4)) (f : ∀ a0 : t0, p0 a0 → p1 a0 → ∀ a1 : t1, ∀ a2 : t2, ∀ a3 : t3, ∀ a4 : t4, p2 a0 a1 a2 a3 a4 → g) : g := Tt h fun a0 k1 => Tt k1.2.2 fun a1 k2 => Tt k2 fun a2 k3 => Tt k3 fun a3 k4 => Tt k4 fun a4 k5 => f a0 k1.1 k1.2.1 a1 a2 a3 a4 k5
theorem Ei {t0 : Sort _} {t1 : Sort _} {p0 : t0 → Prop} {p1 : t0 → t1 → Prop} {p2 : t0 → t1 → Prop} {g : Prop} (h : ∃ a0 : t0, p0 a0 ∧ (∃ a1 : t1, p1 a0 a1 ∧ p2 a0 a1)) (f : ∀ a0 : t0, p0 a0 → ∀ a1 : t1, p1 a0 a1 → p2 a0 a1 → g) : g := Tt h fun a0 k1 => Tt k1.2 fun a1 k2 => f a0 k1.1 a1 k2.1 k2.2
theorem RS {t0 : Sort _} {t1 : Sort _} {p0 : t0 → Prop} {p1 : t0 → t1 → Prop} {p2 : t0 → t1 → Prop} {p3 : t0 → t1 → Prop} {p4 : t0 → t1 → Prop} {g : Prop} (h : ∃ a0 : t0, p0 a0 ∧ (∃ a1 : t1, p1 a0 a1 ∧ p2 a0 a1 ∧ p3 a0 a1 ∧ p4 a0 a1)) (f : ∀ a0 : t0, p0 a0 → ∀ a1 : t1, p1 a0 a1 → p2 a0 a1 → p3 a0 a1 → p4 a0 a1 → g) : g := Tt h fun a0 k1 => Tt k1.2 fun a1 k2 => f a0 k1.1 a1 k2.1 k2.2.1 k2.2.2.1 k2.2.2.2
theorem Sh {t0 : Sort _} {t1 : Sort _} {t2 : Sort _} {t3 : Sort _} {p0 : t0 → Prop} {p1 : t0 → t1 → t2 → t3 → Prop} {g : Prop} (h : ∃ a0 : t0, p0 a0 ∧ (∃ a1 : t1, ∃ a2 : t2, ∃ a3 : t3, p1 a0 a1 a2 a3)) (f : ∀ a0 : t0, p0 a0 → ∀ a1 : t1, ∀ a2 : t2, ∀ a3 : t3, p1 a0 a1 a2 a3 → g) : g := Tt h fun a0 k1 => Tt k1.2 fun a1 k2 => Tt k2 fun a2 k3 => Tt k3 fun a3 k4 => f a0 k1.1 a1 a2 a3 k4
theorem Sd {t0 : Sort _} {t1 : Sort _} {p0 : t0 → t1 → Prop} {g : Prop} (h : ∃ a0 : t0, ∃ a1 : t1, p0 a0 a1) (f : ∀ a0 : t0, ∀ a1 : t1, p0 a0 a1 → g) : g := Tt h fun a0 h => Tt h fun a1 h => f a0 a1 h
theorem B6 {t0 : Sort _} {t1 : Sort _} {p0 : t0 → t1 → Prop} {p1 : t0 → t1 → Prop} {g : Prop} (h : ∃ a0 : t0, ∃ a1 : t1, p0 a0 a1 ∧ p1 a0 a1) (f : ∀ a0 : t0, ∀ a1 : t1, p0 a0 a1 → p1 a0 a1 → g) : g := Tt h fun a0 h => Tt h fun a1 h => f a0 a1 h.1 h.2
theorem GB {t0 : Sort _} {t1 : Sort _} {p0 : t0 → t1 → Prop} {p1 : t0 → t1 → Prop} {p2 : t0 → t1 → Prop} {g : Prop} (h : ∃ a0 : t0, ∃ a1 : t1, p0 a0 a1 ∧ p1 a0 a1 ∧ p2 a0 a1) (f : ∀ a0 : t0, ∀ a1 : t1, p0 a0 a1 → p1 a0 a1 → p2 a0 a1 → g) : g := Tt h fun a0 h => Tt h fun a1 h => f a0 a1 h.1 h.2.1 h.2.2
theorem D9 {t0 : Sort _} {t1 : Sort _} {p0 : t0 → t1 → Prop} {p1 : t0 → t1 → Prop} {p2 : t0 → t1 → Prop} {p3 : t0 → t1 → Prop} {g : Prop} (h : ∃ a0 : t0, ∃ a1 : t1, p0 a0 a1 ∧ p1 a0 a1 ∧ p2 a0 a1 ∧ p3 a0 a1) (f : ∀ a0 : t0, ∀ a1 : t1, p0 a0 a1 → p1 a0 a1 → p2 a0 a1 → p3 a0 a1 → g) : g := Tt h fun a0 h => Tt h fun a1 h => f a0 a1 h.1 h.2.1 h.2.2.1 h.2.2.2
theorem RI {t0 : Sort _} {t1 : Sort _} {p0 : t0 → t1 → Prop} {p1 : t0 → t1 → Prop} {p2 : t0 → t1 → Prop} {p3 : t0 → t1 → Prop} {p4 : t0 → t1 → Prop} {g : Prop} (h : ∃ a0 : t0, ∃ a1 : t1, p0 a0 a1 ∧ p1 a0 a1 ∧ p2 a0 a1 ∧ p3 a0 a1 ∧ p4 a0 a1) (f : ∀ a0 : t0, ∀ a1 : t1, p0 a0 a1 → p1 a0 a1 → p2 a0 a1 → p3 a0 a1 → p4 a0 a1 → g) : g := Tt h fun a0 h => Tt h fun a1 h => f a0 a1 h.1 h.2.1 h.2.2.1 h.2.2.2.1 h.2.2.2.2
theorem MV {t0 : Sort _} {t1 : Sort _} {p0 : t0 → t1 → Prop} {p1 : t0 → t1 → Prop} {p2 : t0 → t1 → Prop} {p3 : t0 → t1 → Prop} {p4 : t0 → t1 → Prop} {p5 : t0 → t1 → Prop} {p6 : t0 → t1 → Prop} {p7 : t0 → t1 → Prop} {p8 : t0 → t1 → Prop} {g : Prop} (h : ∃ a0 : t0, ∃ a1 : t1, p0 a0 a1 ∧ p1 a0 a1 ∧ p2 a0 a1 ∧ p3 a0 a1 ∧ p4 a0 a1 ∧ p5 a0 a1 ∧ p6 a0 a1 ∧ p7 a0 a1 ∧ p8 a0 a1) (f : ∀ a0 : t0, ∀ a1 : t1, p0 a0 a1 → p1 a0 a1 → p2 a0 a1 → p3 a0 a1 → p4 a0 a1 → p5 a0 a1 → p6 a0 a1 → p7 a0 a1 → p8 a0 a1 → g) : g := Tt h fun a0 h => Tt h fun a1 h => f a0 a1 h.1 h.2.1 h.2.2.1 h.2.2.2.1 h.2.2.2.2.1 h.2.2.2.2.2.1 h.2.2.2.2.2.2.1 h.2.2.2.2.2.2.2.1 h.2.2.2.2.2.2.2.2
theorem S0 {t0 : Sort _} {t1 : Sort _} {t2 : Sort _} {p0 : t0 → t1 → t2 → Prop} {g : Prop} (h : ∃ a0 : t0, ∃ a1 : t1, ∃ a2 : t2, p0 a0 a1 a2) (f : ∀ a0 : t0, ∀ a1 : t1, ∀ a2 : t2, p0 a0 a1 a2 → g) : g := Tt h fun a0 h => Tt h fun a1 h => Tt h fun a2 h => f a0 a1 a2 h
theorem CB {t0 : Sort _} {t1 : Sort _} {t2 : Sort _} {p0 : t0 → t1 → t2 → Prop} {p1 : t0 → t1 → t2 → Prop} {g : Prop} (h : ∃ a0 : t0, ∃ a1 : t1, ∃ a2 : t2, p0 a0 a1 a2 ∧ p1 a0 a1 a2) (f : ∀ a0 : t0, ∀ a1 : t1, ∀ a2 : t2, p0 a0 a1 a2 → p1 a0 a1 a2 → g) : g := Tt h fun a0 h => Tt h fun a1 h => Tt h fun a2 h => f a0 a1 a2 h.1 h.2
theorem CF {t0 : Sort _} {t1 : Sort _} {t2 : Sort _} {p0 : t0 → t1 → t2 → Prop} {p1 : t0 → t1 → t2 → Prop} {p2 : t0 → t1 → t2 → Prop} {g : Prop} (h : ∃ a0 : t0, ∃ a1 : t1, ∃ a2 : t2, p0 a0 a1 a2 ∧ p1 a0 a1 a2 ∧ p2 a0 a1 a2) (f : ∀ a0 : t0, ∀ a1 : t1, ∀ a2 : t2, p0 a0 a1 a2 → p1 a0 a1 a2 → p2 a0 a1 a2 → g) : g := Tt h fun a0 h => Tt h fun a1 h => Tt h fun a2 h => f a0 a1 a2 h.1 h.2.1 h.2.2
theorem CP {t0 : Sort _} {t1 : Sort _} {t2 : Sort _} {p0 : t0 → t1 → t2 → Prop} {p1 : t0 → t1 → t2 → Prop} {p2 : t0 → t1 → t2 → Prop} {p3 : t0 → t1 → t2 → Prop} {g : Prop} (h : ∃ a0 : t0, ∃ a1 : t1, ∃ a2 : t2, p0 a0 a1 a2 ∧ p1 a0 a1 a2 ∧ p2 a0 a1 a2 ∧ p3 a0 a1 a2) (f : ∀ a0 : t0, ∀ a1 : t1, ∀ a2 : t2, p0 a0 a1 a2 → p1 a0 a1 a2 → p2 a0 a1 a2 → p3 a0 a1 a2 → g) : g := Tt h fun a0 h => Tt h fun a1 h => Tt h fun a2 h => f a0 a1 a2 h.1 h.2.1 h.2.2.1 h.2.2.2
theorem De {t0 : Sort _} {t1 : Sort _} {t2 : Sort _} {p0 : t0 → t1 → t2 → Prop} {p1 : t0 → t1 → t2 → Prop} {p2 : t0 → t1 → t2 → Prop} {p3 : t0 → t1 → t2 → Prop} {p4 : t0 → t1 → t2 → Prop} {g : Prop} (h : ∃ a0 : t0, ∃ a1 : t1, ∃ a2 : t2, p0 a0 a1 a2 ∧ p1 a0 a1 a2 ∧ p2 a0 a1 a2 ∧ p3 a0 a1 a2 ∧ p4 a0 a1 a2) (f : ∀ a0 : t0, ∀ a1 : t1, ∀ a2 : t2, p0 a0 a1 a2 → p1 a0 a1 a2 → p2 a0 a1 a2 → p3 a0 a1 a2 → p4 a0 a1 a2 → g) : g := Tt h fun a0 h => Tt h fun a1 h => Tt h fun a2 h => f a0 a1 a2 h.1 h.2.1 h.2.2.1 h.2.2.2.1 h.2.2.2.2
theorem Gc {t0 : Sort _} {t1 : Sort _} {t2 : Sort _} {t3 : Sort _} {p0 : t0 → t1 → t2 → t3 → Prop} {p1 : t0 → t1 → t2 → t3 → Prop} {g : Prop} (h : ∃ a0 : t0, ∃ a1 : t1, ∃ a2 : t2, ∃ a3 : t3, p0 a0 a1 a2 a3 ∧ p1 a0 a1 a2 a3) (f : ∀ a0 : t0, ∀ a1 : t1, ∀ a2 : t2, ∀ a3 : t3, p0 a0 a1 a2 a3 → p1 a0 a1 a2 a3 → g) : g := Tt h fun a0 h => Tt h fun a1 h => Tt h fun a2 h => Tt h fun a3 h => f a0 a1 a2 a3 h.1 h.2
theorem EP {t0 : Sort _} {t1 : Sort _} {t2 : Sort _} {t3 : Sort _} {p0 : t0 → t1 → t2 → t3 → Prop} {p1 : t0 → t1 → t2 → t3 → Prop} {p2 : t0 → t1 → t2 → t3 → Prop} {g : Prop} (h : ∃ a0 : t0, ∃ a1 : t1, ∃ a2 : t2, ∃ a3 : t3, p0 a0 a1 a2 a3 ∧ p1 a0 a1 a2 a3 ∧ p2 a0 a1 a2 a3) (f : ∀ a0 : t0, ∀ a1 : t1, ∀ a2 : t2, ∀ a3 : t3, p0 a0 a1 a2 a3 → p1 a0 a1 a2 a3 → p2 a0 a1 a2 a3 → g) : g := Tt h fun a0 h => Tt h fun a1 h => Tt h fun a2 h => Tt h fun a3 h => f a0 a1 a2 a3 h.1 h.2.1 h.2.2
theorem Rq {t0 : Sort _} {t1 : Sort _} {t2 : Sort _} {t3 : Sort _} {t4 : Sort _} {t5 : Sort _} {p0 : t0 → t1 → t2 → t3 → t4 → t5 → Prop} {g : Prop} (h : ∃ a0 : t0, ∃ a1 : t1, ∃ a2 : t2, ∃ a3 : t3, ∃ a4 : t4, ∃ a5 : t5, p0 a0 a1 a2 a3 a4 a5) (f : ∀ a0 : t0, ∀ a1 : t1, ∀ a2 : t2, ∀ a3 : t3, ∀ a4 : t4, ∀ a5 : t5, p0 a0 a1 a2 a3 a4 a5 → g) : g := Tt h fun a0 h => Tt h fun a1 h => Tt h fun a2 h => Tt h fun a3 h => Tt h fun a4 h => Tt h fun a5 h => f a0 a1 a2 a3 a4 a5 h
end Mine
namespace Mine
@[elab_as_elim] theorem rwt {α : Sort _} {a b : α} {P : α → Prop} (h : a = b) (x : P b) : P a := h ▸ x
end Mine
namespace Mine
def tN (k : Lean.Name) (a : Array Lean.Syntax) : Lean.Syntax := .node .none k a
def tQ (x : Array Lean.Syntax) : Lean.Syntax := tN `Lean.Parser.Tactic.tacticSeq #[tN `Lean.Parser.Tactic.tacticSeq1Indented #[tN `null x]]
def tI (x : Lean.Syntax) : Lean.Syntax := tQ #[tN `Lean.Parser.Tactic.intros #[Lean.mkAtom "intros", tN `null #[]], Lean.mkAtom ";", x]
def tG (x : Lean.Syntax) : Lean.Syntax := tN `group #[Lean.mkAtom "|", tQ #[x]]
def tA : Lean.Syntax := tI (tN `Lean.Parser.Tactic.first #[Lean.mkAtom "first", tN `null #[tG (tN `Lean.Parser.Tactic.tacticRfl #[Lean.mkAtom "rfl"]), tG (tN `Lean.Parser.Tactic.decide #[Lean.mkAtom "decide", tN `Lean.Parser.Tactic.optConfig #[tN `null #[]]])]])
end Mine
open Lean.Parser.Tactic in
local macro_rules
 | `(tactic| rw [$t:term]) => `(tactic| (first | refine Mine.rwt ($t ..) ?_ | rewrite [$t:term]) <;> try with_reducible rfl)
 | `(tactic| rw [$r:rwRule, $rs:rwRule,*]) => `(tactic| rw [$r] <;> rw [$rs,*])
namespace Mine
noncomputable abbrev D := PyData
structure Mv (q : Bool) (F : List Addr) (X : Addr → Prop) (h h' : Heap) : Prop where
 keep : ∀ b o, h.get? b = some o → ¬ X b → ∃ sl, h'.get? b = some { o with slots := sl }
 exact : ∀ b o, h.get? b = some o → ¬ X b → (q = true ∨ b ∉ F ∨ ∀ es n, o.data ≠ .dict es n) → h'.get? b = some o
 live : ∀ b, h.get? b ≠ none → h'.get? b ≠ none
noncomputable def No : Addr → Prop := fun _ => False
theorem Mv.refl (q : Bool) (F : List Addr) (X : Addr → Prop) (h : Heap) : Mv q F X h h :=
 ⟨fun _ o e _ => ⟨o.slots, e⟩, fun _ _ e _ _ => e, fun _ e => e⟩
theorem Mv.trans {q : Bool} {F : List Addr} {X X' : Addr → Prop} {h h₁ h₂ : Heap} (x : Mv q F X h h₁) (y : Mv q F X' h₁ h₂)
  (hX : ∀ b, X' b → X b ∨ h.get? b = none) : Mv q F X h h₂ where
 keep := fun b o e n => by
  refine xE (x.keep b o e n) fun sl e₁ => ?_
  refine xE (y.keep b _ e₁ (fun z => (hX b z).elim n fun q => by rw [q] at e; cases e)) fun sl' e₂ => ?_
  exact ⟨sl', e₂⟩
 exact := fun b o e n hq => y.exact b o (x.exact b o e n hq) (fun z => (hX b z).elim n fun q => by rw [q] at e; cases e) hq
 live := fun b e => y.live b (x.live b e)
theorem Mv.lax {q : Bool} {F : List Addr} {X : Addr → Prop} {h h' : Heap} (x : Mv q F X h h') : Mv false F X h h' :=
 ⟨x.keep, fun b o e n hq => x.exact b o e n (.inr (hq.resolve_left (by simp))), x.live⟩
theorem Mv.mono {q : Bool} {F : List Addr} {X X' : Addr → Prop} {h h' : Heap} (x : Mv q F X h h') (s : ∀ b, X b → X' b) : Mv q F X' h h' :=
 ⟨fun b o e n => x.keep b o e fun z => n (s b z), fun b o e n hq => x.exact b o e (fun z => n (s b z)) hq, x.live⟩
theorem Mv.of_keeps {q : Bool} {F : List Addr} {X : Addr → Prop} {h h' : Heap} (k : ∀ b o, h.get? b = some o → h'.get? b = some o) : Mv q F X h h' :=
 ⟨fun b o e _ => ⟨o.slots, k b o e⟩, fun b o e _ _ => k b o e, fun b e => by
  cases q : h.get? b with
  | none => exact absurd q e
  | some o => rw [k b o q]; simp⟩
theorem Mv.of_push {q : Bool} {F : List Addr} {X : Addr → Prop} {h : Heap} (o : Obj) : Mv q F X h (h.push o) :=
 .of_keeps fun _ _ e => UE _ e
theorem Mv.of_one {q : Bool} {F : List Addr} {X : Addr → Prop} {h h' : Heap} {a : Addr} (ha : X a) (hl : h'.get? a ≠ none)
  (k : ∀ b o, b ≠ a → h.get? b = some o → h'.get? b = some o) : Mv q F X h h' :=
 ⟨fun b o e n => ⟨o.slots, k b o (fun z => n (z ▸ ha)) e⟩, fun b o e n _ => k b o (fun z => n (z ▸ ha)) e, fun b e => by
  by_cases z : b = a
  ·rw [z]; exact hl
  ·cases q : h.get? b with
   | none => exact absurd q e
   | some o => rw [k b o z q]; simp⟩
theorem Mv.of_fresh {q : Bool} {F : List Addr} {X : Addr → Prop} {h h' : Heap} {a : Addr} (ha : h.get? a = none)
  (k : ∀ b o, b ≠ a → h.get? b = some o → h'.get? b = some o) : Mv q F X h h' :=
 .of_keeps fun b o e => k b o (fun z => by rw [z, ha] at e; cases e) e
structure Go (q : Bool) (F : List Addr) (X : Addr → Prop) (s s' : Shared) : Prop where
 mv : Mv q F X s.heap s'.heap
 gens : s'.gens = s.gens
 os : s'.os = s.os
 drawn : s'.drawn = s.drawn
theorem Go.refl (q : Bool) (F : List Addr) (X : Addr → Prop) (s : Shared) : Go q F X s s := ⟨.refl .., rfl, rfl, rfl⟩
theorem Go.trans {q : Bool} {F : List Addr} {X X' : Addr → Prop} {s s₁ s₂ : Shared} (x : Go q F X s s₁) (y : Go q F X' s₁ s₂)
  (hX : ∀ b, X' b → X b ∨ s.heap.get? b = none) : Go q F X s s₂ := ⟨x.mv.trans y.mv hX, y.gens.trans x.gens, y.os.trans x.os, y.drawn.trans x.drawn⟩
theorem Go.lax {q : Bool} {F : List Addr} {X : Addr → Prop} {s s' : Shared} (x : Go q F X s s') : Go false F X s s' := ⟨x.mv.lax, x.gens, x.os, x.drawn⟩
theorem Go.mono {q : Bool} {F : List Addr} {X X' : Addr → Prop} {s s' : Shared} (x : Go q F X s s') (h : ∀ b, X b → X' b) : Go q F X' s s' := ⟨x.mv.mono h, x.gens, x.os, x.drawn⟩
theorem Go.trans0 {q : Bool} {F : List Addr} {s s₁ s₂ : Shared} (x : Go q F No s s₁) (y : Go q F No s₁ s₂) : Go q F No s s₂ := x.trans y fun _ z => z.elim
theorem Go.of_toks {q : Bool} {F : List Addr} {X : Addr → Prop} (s : Shared) (t : Nat) : Go q F X s { s with toks := t } := ⟨.refl .., rfl, rfl, rfl⟩
theorem Go.of {q : Bool} {F : List Addr} {X : Addr → Prop} {s : Shared} {h' : Heap} {t : Nat} (m : Mv q F X s.heap h') : Go q F X s { s with heap := h', toks := t } := ⟨m, rfl, rfl, rfl⟩
theorem Go.of' {q : Bool} {F : List Addr} {X : Addr → Prop} {s : Shared} {h' : Heap} (m : Mv q F X s.heap h') : Go q F X s { s with heap := h' } := ⟨m, rfl, rfl, rfl⟩
mutual
inductive RD (P : Addr → Prop) (h : Heap) : Value → D → Prop
 | none : RD P h .none .none
 | bool (b) : RD P h (.bool b) (.bool b)
 | int (i t) : RD P h (.int i t) (.int i)
 | str (x t) : RD P h (.str x t) (.str x)
 | list {a vs n xs} : h.get? a = some { cls := .type "list", data := .seq vs n } → ¬ P a → RDs P h vs.toList xs → RD P h (.ref a) (.list xs)
 | tup {a vs n xs} : h.get? a = some { cls := .type "tuple", data := .seq vs n } → ¬ P a → RDs P h vs.toList xs → RD P h (.ref a) (.tuple xs)
inductive RDs (P : Addr → Prop) (h : Heap) : List Value → List D → Prop
 | nil : RDs P h [] []
 | cons {v vs d ds} : RD P h v d → RDs P h vs ds → RDs P h (v :: vs) (d :: ds)
end
section
variable {q : Bool} {F : List Addr} {X P P' : Addr → Prop} {h h' : Heap}
theorem RD.ind {m : Value → D → Prop} {ms : List Value → List D → Prop} (hn : m .none .none) (hb : ∀ b, m (.bool b) (.bool b)) (hi : ∀ i t, m (.int i t) (.int i)) (hx : ∀ x t, m (.str x t) (.str x))
  (hs : ∀ a vs n xs c, (c = "list" ∨ c = "tuple") → h.get? a = some { cls := .type c, data := .seq vs n } → ¬ P a → RDs P h vs.toList xs → ms vs.toList xs → m (.ref a) (if c = "list" then .list xs else .tuple xs))
  (h0 : ms [] []) (hc : ∀ v vs d ds, RD P h v d → m v d → RDs P h vs ds → ms vs ds → ms (v :: vs) (d :: ds)) : (∀ {v d}, RD P h v d → m v d) ∧ ∀ {vs ds}, RDs P h vs ds → ms vs ds :=
 have hl : ∀ {a vs n xs}, h.get? a = some { cls := .type "list", data := .seq vs n } → ¬ P a → RDs P h vs.toList xs → ms vs.toList xs → m (.ref a) (.list xs) := fun ho hp r ih => hs _ _ _ _ "list" (.inl rfl) ho hp r ih
 have ht : ∀ {a vs n xs}, h.get? a = some { cls := .type "tuple", data := .seq vs n } → ¬ P a → RDs P h vs.toList xs → ms vs.toList xs → m (.ref a) (.tuple xs) := fun ho hp r ih => hs _ _ _ _ "tuple" (.inr rfl) ho hp r ih
 ⟨fun r => RD.rec (motive_1 := fun v d _ => m v d) (motive_2 := fun vs ds _ => ms vs ds) hn hb hi hx hl ht h0 (fun r rs a b => hc _ _ _ _ r a rs b) r,
  fun r => RDs.rec (motive_1 := fun v d _ => m v d) (motive_2 := fun vs ds _ => ms vs ds) hn hb hi hx hl ht h0 (fun r rs a b => hc _ _ _ _ r a rs b) r⟩
theorem RD.to (k : ∀ a o, h.get? a = some o → ¬ P a → (∀ es n, o.data ≠ .dict es n) → h'.get? a = some o ∧ ¬ P' a) : (∀ {v d}, RD P h v d → RD P' h' v d) ∧ ∀ {vs ds}, RDs P h vs ds → RDs P' h' vs ds :=
 RD.ind .none .bool .int .str (fun a vs n xs c hc ho hp _ ih => by
  refine xA (k _ _ ho hp (by intro _ _ z; cases z)) fun e hp' => ?_
  rcases hc with rfl | rfl
  ·exact .list e hp' ih
  ·exact .tup e hp' ih) .nil fun _ _ _ _ _ r _ rs => .cons r rs
theorem RD.mvk (m : Mv q F X h h') (hX : ∀ b, X b → P b) : ∀ a o, h.get? a = some o → ¬ P a → (∀ es n, o.data ≠ .dict es n) → h'.get? a = some o ∧ ¬ P a := fun _ _ ho hp hd => ⟨m.exact _ _ ho (fun x => hp (hX _ x)) (.inr (.inr hd)), hp⟩
theorem RD.mv (m : Mv q F X h h') (ht : True) (hX : ∀ b, X b → P b) {v : Value} {d : D} (r : RD P h v d) : RD P h' v d := (RD.to (RD.mvk m hX)).1 r
theorem RDs.mv (m : Mv q F X h h') (ht : True) (hX : ∀ b, X b → P b) {vs : List Value} {ds : List D} (r : RDs P h vs ds) : RDs P h' vs ds := (RD.to (RD.mvk m hX)).2 r
theorem RD.lessk (hp : ∀ a, h.get? a ≠ Option.none → P' a → P a) : ∀ a o, h.get? a = some o → ¬ P a → (∀ es n, o.data ≠ .dict es n) → h.get? a = some o ∧ ¬ P' a := fun _ _ ho hn _ => ⟨ho, fun x => hn (hp _ (by rw [ho]; simp) x)⟩
theorem RD.less (hp : ∀ a, h.get? a ≠ Option.none → P' a → P a) {v : Value} {d : D} (r : RD P h v d) : RD P' h v d := (RD.to (RD.lessk hp)).1 r
theorem RDs.less (hp : ∀ a, h.get? a ≠ Option.none → P' a → P a) {vs : List Value} {ds : List D} (r : RDs P h vs ds) : RDs P' h vs ds := (RD.to (RD.lessk hp)).2 r
theorem RD.readsk : (∀ {v d}, RD P h v d → ∃ as, Reads h v d as) ∧ ∀ {vs ds}, RDs P h vs ds → ∃ as, ReadsAll h vs ds as :=
 RD.ind ⟨_, .none⟩ (fun b => ⟨_, .bool b⟩) (fun i t => ⟨_, .int i t⟩) (fun x t => ⟨_, .str x t⟩) (fun a vs n xs c hc ho _ _ ih => by
  refine xE ih fun as e => ?_; clear ih
  rcases hc with rfl | rfl
  ·exact ⟨_, .list ho rfl rfl e⟩
  ·exact ⟨_, .tuple ho rfl rfl e⟩) ⟨_, .nil⟩ fun _ _ _ _ _ ih _ ih' => by
  refine xE ih fun as e => ?_; clear ih
  refine xE ih' fun bs e' => ?_; clear ih'
  exact ⟨_, .cons e e'⟩
theorem RD.reads {v : Value} {d : D} (r : RD P h v d) : ∃ as, Reads h v d as := RD.readsk.1 r
theorem RDs.reads {vs : List Value} {ds : List D} (r : RDs P h vs ds) : ∃ as, ReadsAll h vs ds as := RD.readsk.2 r
end
section
variable {q : Bool} {F : List Addr} {X P P' : Addr → Prop} {h h' : Heap} {v : Value} {d : D} {vs : List Value} {ds : List D}
theorem HN : True := trivial
theorem RD.mv0 (r : RD P h v d) (m : Mv q F No h h') : RD P h' v d := r.mv m HN fun _ x => x.elim
theorem RDs.mv0 (r : RDs P h vs ds) (m : Mv q F No h h') : RDs P h' vs ds := r.mv m HN fun _ x => x.elim
theorem RDs.head (rs : RDs P h (v :: vs) (d :: ds)) : RD P h v d ∧ RDs P h vs ds := by
 cases rs with | cons r rs => exact ⟨r, rs⟩
theorem RDs.length (rs : RDs P h vs ds) : vs.length = ds.length := by
 induction vs generalizing ds with
 | nil => cases rs; rfl
 | cons v vs ih => cases rs with | cons r rs => simp [ih rs]
theorem RD.list_inv (r : RD P h v (.list ds)) : ∃ a items n, v = .ref a ∧ h.get? a = some { cls := .type "list", data := .seq items n } ∧ ¬ P a ∧ RDs P h items.toList ds := by
 cases r with | list ho hp r => exact (HA _ _ _ rfl ho hp r)
theorem RD.tup_inv (r : RD P h v (.tuple ds)) : ∃ a items n, v = .ref a ∧ h.get? a = some { cls := .type "tuple", data := .seq items n } ∧ RDs P h items.toList ds := by
 cases r with | tup ho _ r => exact (Gb _ _ _ rfl ho r)
theorem RD.str_inv {x : Str} (r : RD P h v (.str x)) : ∃ t, v = .str x t := by cases r with | str x t => exact ⟨t, rfl⟩
theorem RD.int_inv {i : Int} (r : RD P h v (.int i)) : ∃ t, v = .int i t := by cases r with | int x t => exact ⟨t, rfl⟩
theorem RD.bool_inv {b : Bool} (r : RD P h v (.bool b)) : v = .bool b := by cases r with | bool x => rfl
theorem RDs.get {k : Nat} (rs : RDs P h vs ds) (hk : ds[k]? = some d) : ∃ v, vs[k]? = some v ∧ RD P h v d := by
 induction vs generalizing ds k with
 | nil => cases rs; simp at hk
 | cons u vs ih =>
  cases rs with
  | cons r rs =>
   cases k with
   | zero => simp at hk; subst hk; exact (A4 u rfl r)
   | succ k => simp at hk; refine BK (ih rs hk) fun v h1 h2 => ?_; exact (A4 v (by simpa using h1) h2)
theorem RDs.append {ws : List Value} {es : List D} (rs : RDs P h vs ds) (ts : RDs P h ws es) : RDs P h (vs ++ ws) (ds ++ es) := by
 induction vs generalizing ds with
 | nil => cases rs; exact ts
 | cons u vs ih => cases rs with | cons r rs => exact .cons r (ih rs)
theorem RDs.drop {k : Nat} (rs : RDs P h vs ds) : RDs P h (vs.drop k) (ds.drop k) := by
 induction vs generalizing ds k with
 | nil => cases rs; simp; exact .nil
 | cons u vs ih =>
  cases rs with
  | cons r rs => cases k with
   | zero => exact .cons r rs
   | succ k => exact ih rs
theorem RDs.take {k : Nat} (rs : RDs P h vs ds) : RDs P h (vs.take k) (ds.take k) := by
 induction vs generalizing ds k with
 | nil => cases rs; simp; exact .nil
 | cons u vs ih =>
  cases rs with
  | cons r rs => cases k with
   | zero => exact .nil
   | succ k => exact .cons r (ih rs)
end
noncomputable abbrev Dr := Str × Int × Int
inductive Res (α : Type) where
 | fail
 | ok (a : α)
 | exc (x : Dr)
namespace Res
variable {α β γ : Type}
noncomputable def bind : Res α → (α → Res β) → Res β
 | .fail, _ => .fail
 | .ok a, f => f a
 | .exc x, _ => .exc x
@[simp] theorem bind_ok (a : α) (f : α → Res β) : (Res.ok a).bind f = f a := rfl
@[simp] theorem S2 (f : α → Res β) : (Res.fail : Res α).bind f = .fail := rfl
@[simp] theorem bind_exc (x : Dr) (f : α → Res β) : (Res.exc x : Res α).bind f = .exc x := rfl
theorem bind_assoc (r : Res α) (f : α → Res β) (g : β → Res γ) : (r.bind f).bind g = r.bind fun a => (f a).bind g := by cases r <;> rfl
end Res
noncomputable def Sat {α β : Type} (M : Model) (A : Around) (t : Sem β) (r : Res α) (R : α → β → Shared → Prop) (Ex : Dr → Value → Shared → Prop) (s : Shared) : Prop :=
 match r with
 | .ok a => wpAny M A t (fun v s' => R a v s') (fun _ _ => False) s
 | .exc x => wpAny M A t (fun _ _ => False) (fun e s' => Ex x e s') s
 | .fail => True
section
variable {α α' β β' : Type} {M : Model} {A : Around} {t : Sem β} {r : Res α} {R R' : α → β → Shared → Prop} {Ex Ex' : Dr → Value → Shared → Prop} {s : Shared}
theorem Sat.bind {k : β → Sem β'} {g : α → Res α'} {R₂ : α' → β' → Shared → Prop} (h : Sat M A t r R Ex s)
  (hk : ∀ a v s', r = .ok a → R a v s' → Sat M A (k v) (g a) R₂ Ex' s') (hx : ∀ x e s', Ex x e s' → Ex' x e s') : Sat M A (t >>= k) (r.bind g) R₂ Ex' s := by
 cases r with
 | fail => trivial
 | exc x => exact Tn (To h (fun _ _ f => f.elim) fun e s' y => hx x e s' y)
 | ok a =>
  have hk' := fun v s' => hk a v s' rfl
  show Sat M A (t >>= k) (g a) R₂ Ex' s
  cases hg : g a with
  | fail => trivial
  | ok b => exact Tn (To h (fun v s' hr => by have := hk' v s' hr; rw [hg] at this; exact this) fun _ _ f => f.elim)
  | exc x => exact Tn (To h (fun v s' hr => by have := hk' v s' hr; rw [hg] at this; exact this) fun _ _ f => f.elim)
theorem Sat.mono (h : Sat M A t r R Ex s) (hR : ∀ a v s', r = .ok a → R a v s' → R' a v s') (hx : ∀ x e s', r = .exc x → Ex x e s' → Ex' x e s') : Sat M A t r R' Ex' s := by
 cases r with
 | fail => trivial
 | ok a => exact To h (fun v s' y => hR a v s' rfl y) fun _ _ f => f
 | exc x => exact To h (fun _ _ f => f) fun e s' y => hx x e s' rfl y
theorem Sat.holding {vs : List Value} (h : Sat M A t r R Ex s) : Sat M A (holding vs t) r R Ex s := by
 cases r <;> first | trivial | exact UF h
theorem Sat.standAt {pos : Pos} {k : Unit → Sem β} (h : Sat M A (k ()) r R Ex s) : Sat M A (standAt pos >>= k) r R Ex s := by
 cases r <;> first | trivial | exact Tn (UA h)
theorem Sat.operate {vs : List Value} {t : Sem Value} {R : α → Value → Shared → Prop} (h : Sat M A t r R Ex s) : Sat M A (operate vs t) r R Ex s := by
 cases r <;> first | trivial | exact wpAny_operating h
end
end Mine
namespace Mine
inductive W where
 | d (x : D)
 | lst (i : Nat)
 | dct (i : Nat)
 | bd (kvs : List (Str × D))
inductive Cell where
 | dead
 | list (ds : List D)
 | nest (is : List Nat)
 | dict (kvs : List (Str × D))
structure Loc where
 vars : List (Option W)
 cells : List Cell
inductive RV where
 | val (d : D)
 | fr (ds : List D)
 | ex (x : Dr)
inductive Fl where
 | next
 | cont
 | ret (r : RV)
noncomputable def Cell.live : Cell → Bool
 | .dead => false
 | _ => true
noncomputable def own (env : Env) (μ : List Addr) (l : Loc) (a : Addr) : Prop :=
 a = env.locals ∨ (∃ n, (n, a) ∈ env.cells) ∨ ∃ (i : Nat) (c : Cell), μ[i]? = some a ∧ l.cells[i]? = some c ∧ c.live = true
noncomputable def Pr (N : Addr → Prop) (env : Env) (μ : List Addr) (l : Loc) (a : Addr) : Prop := N a ∨ own env μ l a
section
variable (prog : Program) (w : World)
inductive DictIs (P : Addr → Prop) (h : Heap) (a : Addr) (kvs : List (Str × D)) : Prop
 | mk (kv' : List (Str × Value)) (h1 : h.DictOf (strKind prog w) a kv') (h2 : kv'.map (·.1) = kvs.map (·.1)) (h3 : RDs P h (kv'.map (·.2)) (kvs.map (·.2))) (h4 : (a == sysModules) = false)
end
noncomputable def RW (prog : Program) (w : World) (P O : Addr → Prop) (F : List Addr) (μ : List Addr) (h : Heap) (v : Value) : W → Prop
 | .d x => RD P h v x
 | .lst i => ∃ a, μ[i]? = some a ∧ v = .ref a
 | .dct i => ∃ a, μ[i]? = some a ∧ v = .ref a
 | .bd kvs => ∃ a, v = .ref a ∧ DictIs prog w P h a kvs ∧ ¬ O a ∧ a ∉ F
noncomputable def RC (prog : Program) (w : World) (P : Addr → Prop) (F : List Addr) (μ : List Addr) (l : Loc) (h : Heap) (a : Addr) : Cell → Prop
 | .dead => True
 | .list ds => ∃ items n, h.get? a = some { cls := .type "list", data := .seq items n } ∧ RDs P h items.toList ds
 | .nest is => ∃ items n, h.get? a = some { cls := .type "list", data := .seq items n } ∧ items.toList = is.map (fun j => Value.ref (μ.getD j 0)) ∧ is.Nodup ∧ ∀ j ∈ is, j < μ.length ∧ ∃ ds, l.cells[j]? = some (Cell.list ds)
 | .dict kvs => DictIs prog w P h a kvs ∧ a ∉ F
noncomputable def G5 (env : Env) (m cm : Str → Option Value) (x : Str) : Option Value :=
 if env.kindOf x = some .local then m x else if env.kindOf x = some .cell then (if (env.cells.lookup x).isSome then cm x else none) else none
structure LR (prog : Program) (w : World) (H : Heap) (names : List Str) (N Z : Addr → Prop) (F : List Addr) (env : Env) (μ : List Addr) (l : Loc) (m cm : Str → Option Value) (h : Heap) : Prop where
 ns : h.Ns env.locals m
 cl : ∀ n c, env.cells.lookup n = some c → h.IsCell c (cm n)
 capart : env.cells.Pairwise fun x y => x.2 ≠ y.2
 clive : ∀ n c, (n, c) ∈ env.cells → ∃ v, h.IsCell c v
 vars : ∀ (i : Nat) (x : Str) (u : W), names[i]? = some x → l.vars[i]? = some (some u) → ∃ v, G5 env m cm x = some v ∧ RW prog w (Pr N env μ l) (own env μ l) F μ h v u
 cells : ∀ (i : Nat) (a : Addr) (c : Cell), μ[i]? = some a → l.cells[i]? = some c → RC prog w (Pr N env μ l) F μ l h a c
 len : μ.length = l.cells.length
 nodup : μ.Nodup
 notN : ∀ a ∈ μ, ¬ N a
 notL : ∀ a ∈ μ, a ≠ env.locals ∧ ∀ n, (n, a) ∉ env.cells
 zf : ∀ a ∈ μ, Z a
 zn : ∀ a, h.get? a = none → Z a
 hf : ∀ a, own env μ l a → H.get? a = none
 nlive : ∀ a, N a → h.get? a ≠ none
 nh : ∀ a, N a → H.get? a = none
 mlive : ∀ a ∈ μ, h.get? a ≠ none
 vlen : l.vars.length = names.length
 nnodup : names.Nodup
structure AOk (A : Around) (n : Nat) : Prop where
 hd : A.handled = none
 dep : A.depth + n < recursionLimit
 un : A.units + 100 + 4 * n < cLine
structure EOk (env : Env) (sc : Scope) : Prop where
 scope : env.scope = sc
 kind : sc.kind = .function
 gl : env.globals = mainGlobals
 bu : env.builtins = builtinsNs
 cells : ∀ x, env.kindOf x = some .cell → ∃ c, env.cells.lookup x = some c
noncomputable def FA (fs : List Env) : List Addr := fs.filterMap (·.frame)
structure Inv (H : Heap) (fs : List Env) (h : Heap) : Prop where
 base : H.StaysIn h
 frames : h.FunFrames H fs
 fns : ∀ a ∈ FA fs, ∃ m, h.Ns a m
structure Cx (prog : Program) (w : World) (H : Heap) (n : Nat) (names : List Str) (sc : Scope) (A : Around) (env : Env) (fs : List Env) (N Z : Addr → Prop) (μ : List Addr) (l : Loc) (m cm : Str → Option Value) (s : Shared) : Prop where
 a : AOk A n
 e : EOk env sc
 fr : A.frames = some fs
 inv : Inv H fs s.heap
 lr : LR prog w H names N Z (FA fs) env μ l m cm s.heap
inductive XR (C : Addr) (z h : Heap) (e : Value) (x : Dr) : Prop
 | mk (a : Addr) (o : Obj) (vs : Array Value) (d : Addr) (md : Str → Option Value) (tb : Value) (t1 t2 t3 : Tok) (h1 : e = .ref a) (h2 : z.get? a = none) (h3 : h.get? a = some o) (h4 : o.cls = .ref C) (h5 : o.dict = some d) (h6 : z.get? d = none) (h7 : d ≠ a) (h8 : o.data = .fields vs) (h9 : vs[1]? = some tb)
  (h10 : h.Ns d md) (h11 : md "why" = some (.str x.1 t1)) (h12 : md "row" = some (.int x.2.1 t2)) (h13 : md "column" = some (.int x.2.2 t3))
  (h14 : tb = .none ∨ ∃ T oT ts fl, tb = .ref T ∧ z.get? T = none ∧ T ≠ a ∧ h.get? T = some oT ∧ oT.data = .fields ts ∧ ts[3]? = some fl)
theorem XR.less {C : Addr} {z z' h : Heap} {e : Value} {x : Dr} (r : XR C z h e x) (hz : ∀ a, z.get? a = none → z'.get? a = none) : XR C z' h e x := by
 obtain ⟨a, o, vs, d, md, tb, t1, t2, t3, e1, e2, e3, e4, e5, e6, e7, e8, e9, e10, e11, e12, e13, e14⟩ := r
 refine ⟨a, o, vs, d, md, tb, t1, t2, t3, e1, hz a e2, e3, e4, e5, hz d e6, e7, e8, e9, e10, e11, e12, e13, e14.imp id ?_⟩
 intro y1_; refine EP y1_ fun T oT ts fl f1 f2 f3 => ?_; clear y1_
 exact (Fv T oT ts fl f1 (hz T f2) f3)
theorem Mv.dead {q : Bool} {F : List Addr} {X : Addr → Prop} {h h' : Heap} (m : Mv q F X h h') (a : Addr) (e : h'.get? a = none) : h.get? a = none := by
 cases q : h.get? a with
 | none => rfl
 | some o => exact absurd e (m.live a (by rw [q]; simp))
section
variable {prog : Program} {w : World} {H : Heap} {names : List Str} {N Z : Addr → Prop} {F : List Addr} {env : Env} {μ : List Addr} {l : Loc} {m cm : Str → Option Value} {h h' : Heap} {q : Bool}
theorem CO {a : Addr} {X : Addr → Prop} (hn : h.Ns a m) (x : Mv q F X h h') (hX : ¬ X a) : h'.Ns a m :=
 let ⟨o, es, ep, ho, hd, r⟩ := hn
 let ⟨_, e⟩ := x.keep a o ho hX
 (Gb _ es ep e hd r)
theorem A9 {c : Addr} {v : Option Value} {X : Addr → Prop} (hn : h.IsCell c v) (x : Mv q F X h h') (hX : ¬ X c) : h'.IsCell c v :=
 let ⟨o, ho, hd⟩ := hn
 let ⟨_, e⟩ := x.keep c o ho hX
 (A4 _ e hd)
theorem Cu {P X : Addr → Prop} {a : Addr} {kvs : List (Str × D)} (r : DictIs prog w P h a kvs) (x : Mv q F X h h') (hX : ¬ X a) (hF : a ∉ F) (ht : True) (hp : ∀ b, X b → P b) : DictIs prog w P h' a kvs := by
 obtain ⟨kv', ⟨o, es, ep, ho, r⟩, hk, hr, hs⟩ := r
 exact ⟨kv', (K8 o es ep (x.exact a o ho hX (.inr (.inl hF))) r), hk, RDs.mv x ht hp hr, hs⟩
theorem DictIs.less {P P' : Addr → Prop} {a : Addr} {kvs : List (Str × D)} (r : DictIs prog w P h a kvs) (hp : ∀ a, h.get? a ≠ none → P' a → P a) : DictIs prog w P' h a kvs := by
 obtain ⟨kv', hd, hk, hr, hs⟩ := r
 exact ⟨kv', hd, hk, RDs.less hp hr, hs⟩
theorem RW.mv {P O X : Addr → Prop} {v : Value} {u : W} (r : RW prog w P O F μ h v u) (x : Mv q F X h h') (hO : ∀ b, X b → O b) (ht : True) (hp : ∀ b, X b → P b) : RW prog w P O F μ h' v u := by
 cases u with
 | d y => exact RD.mv x ht hp r
 | lst i => exact r
 | dct i => exact r
 | bd kvs =>
  refine FN r fun a hv hd ho hf => ?_; clear r
  exact (Dj a hv (Cu hd x (fun z => ho (hO a z)) hf ht hp) ho hf)
theorem RW.less {P P' O O' : Addr → Prop} {v : Value} {u : W} (r : RW prog w P O F μ h v u) (hp : ∀ a, h.get? a ≠ none → P' a → P a) (hO : ∀ a, h.get? a ≠ none → O' a → O a) : RW prog w P' O' F μ h v u := by
 cases u with
 | d y => exact RD.less hp r
 | lst i => exact r
 | dct i => exact r
 | bd kvs =>
  refine FN r fun a hv hd ho hf => ?_; clear r
  refine (Dj a hv (hd.less hp) (fun z => ho (hO a ?_ z)) hf)
  obtain ⟨_, ⟨o, _, _, e, _⟩, _⟩ := hd
  rw [e]; simp
theorem LR.go (r : LR prog w H names N Z F env μ l m cm h) (x : Mv q F No h h') : LR prog w H names N Z F env μ l m cm h' where
 ns := CO r.ns x id
 cl := fun n c e => A9 (r.cl n c e) x id
 capart := r.capart
 clive := fun n c e => xE (r.clive n c e) fun v y => ⟨v, A9 y x id⟩
 vars := fun i y u h1 h2 => BK (r.vars i y u h1 h2) fun v h3 h4 => (A4 v h3 (h4.mv x (fun _ z => z.elim) HN fun _ z => z.elim))
 cells := fun i a c h1 h2 => by
  have h3 := r.cells i a c h1 h2
  cases c with
  | dead => trivial
  | list ds => refine B6 h3 fun items k hl hr => ?_; clear h3; exact (EL items k (x.exact _ _ hl id (.inr (.inr (by intro _ _ z; cases z)))) (hr.mv0 x))
  | nest is => refine B6 h3 fun items k hl hr => ?_; clear h3; exact (EL items k (x.exact _ _ hl id (.inr (.inr (by intro _ _ z; cases z)))) hr)
  | dict kvs => exact ⟨Cu h3.1 x id h3.2 HN fun _ z => z.elim, h3.2⟩
 len := r.len
 nodup := r.nodup
 notN := r.notN
 notL := r.notL
 zf := r.zf
 zn := fun a e => r.zn a (x.dead a e)
 hf := r.hf
 nlive := fun a e => x.live a (r.nlive a e)
 nh := r.nh
 mlive := fun a e => x.live a (r.mlive a e)
 vlen := r.vlen
 nnodup := r.nnodup
theorem FunFrames.go {fs : List Env} {X : Addr → Prop} (r : h.FunFrames H fs) (x : Mv q F X h h') (hX : ∀ a ∈ FA fs, X a → ∃ m, h'.Ns a m) : h'.FunFrames H fs := by
 induction fs with
 | nil => trivial
 | cons env fs ih =>
  refine Ku r fun hk z1_ hr => ?_; clear r; refine D9 z1_ fun L o hf hn ho hd => ?_; clear z1_
  have hm : L ∈ FA (env :: fs) := by simp [FA, List.filterMap_cons, hf]
  refine (KB hk ?_ (ih hr fun a ha => hX a (by simp only [FA, List.filterMap_cons, hf] at ha ⊢; exact Tx _ ha)))
  by_cases z : X L
  ·refine EP (hX L hm z) fun m o' es ep ho' hd' _ => ?_
   exact (Dn L o' hf hn ho' (fun vs q => by rw [hd'] at q; cases q))
  ·refine xE (x.keep L o ho z) fun sl e => ?_
   exact (Dn L _ hf hn e hd)
theorem MW {fs : List Env} (r : h.FunFrames H fs) : ∀ a ∈ FA fs, H.get? a = none := fun a ha => (r.mem ha).1
theorem Inv.go {fs : List Env} {X : Addr → Prop} (r : Inv H fs h) (x : Mv q (FA fs) X h h') (hH : ∀ a, X a → H.get? a = none) (hX : ∀ a ∈ FA fs, X a → ∃ m, h'.Ns a m) : Inv H fs h' :=
 ⟨fun b o e => x.exact b o (r.base b o e) (fun z => by rw [hH b z] at e; cases e) (.inr (.inl fun z => by rw [MW r.frames b z] at e; cases e)), FunFrames.go r.frames x hX, fun a ha => by
  by_cases z : X a
  ·exact hX a ha z
  ·refine xE (r.fns a ha) fun m y => ?_
   exact ⟨m, CO y x z⟩⟩
theorem Inv.go0 {fs : List Env} (r : Inv H fs h) (x : Mv q (FA fs) No h h') : Inv H fs h' := r.go x (fun _ z => z.elim) fun _ _ z => z.elim
end
section
variable {prog : Program} {w : World} {H : Heap} {n : Nat} {names : List Str} {sc : Scope} {A : Around} {env : Env} {fs : List Env} {N Z : Addr → Prop} {μ : List Addr} {l : Loc} {m cm : Str → Option Value} {s s' : Shared} {q : Bool}
theorem Cx.go (c : Cx prog w H n names sc A env fs N Z μ l m cm s) (g : Go q (FA fs) No s s') : Cx prog w H n names sc A env fs N Z μ l m cm s' :=
 ⟨c.a, c.e, c.fr, c.inv.go0 g.mv, c.lr.go g.mv⟩
theorem AOk.less {n' : Nat} (a : AOk A n) (h : n' ≤ n) : AOk A n' := ⟨a.hd, by have := a.dep; lia, by have := a.un; lia⟩
end
noncomputable abbrev LM := Loc → Res (Fl × Loc)
end Mine
namespace Mine
variable {prog : Program} {w : World} {C : Addr}
noncomputable def okE (q : Bool) (F : List Addr) (P : Addr → Prop) (s : Shared) : D → Value → Shared → Prop := fun d v s' => RD P s'.heap v d ∧ Go q F No s s'
noncomputable def exE (C : Addr) (F : List Addr) (s : Shared) : Dr → Value → Shared → Prop := fun x e s' => XR C s.heap s'.heap e x ∧ Go false F No s s'
noncomputable def PLive (P : Addr → Prop) (h : Heap) : Prop := ∀ a, P a → h.get? a ≠ none
theorem A0 (h : Heap) : h.get? h.objs.size = none := UL (Tv _)
theorem PLive.new {P : Addr → Prop} {h : Heap} (p : PLive P h) : ¬ P h.objs.size := fun x => p _ x (A0 h)
theorem okE.after {q : Bool} {F : List Addr} {P : Addr → Prop} {s s₁ s' : Shared} {d : D} {v : Value} (h : okE q F P s₁ d v s') (g : Go q F No s s₁) : okE q F P s d v s' := ⟨h.1, g.trans0 h.2⟩
theorem exE.after {F : List Addr} {s s₁ s' : Shared} {x : Dr} {e : Value} {q : Bool} (h : exE C F s₁ x e s') (g : Go q F No s s₁) : exE C F s x e s' :=
 ⟨h.1.less fun a z => g.mv.dead a z, g.lax.trans0 h.2⟩
noncomputable def Op1 (prog : Program) (w : World) (C : Addr) (T : Value → Sem Value) (op : D → Res D) : Prop :=
 ∀ (A : Around) (F : List Addr) (P : Addr → Prop) (s : Shared) (v : Value) (d : D), AOk A 0 → PLive P s.heap → RD P s.heap v d → Sat (model prog w) A (T v) (op d) (okE true F P s) (exE C F s) s
noncomputable def Iy (prog : Program) (w : World) (C : Addr) (T : Value → Value → Sem Value) (op : D → D → Res D) : Prop :=
 ∀ (A : Around) (F : List Addr) (P : Addr → Prop) (s : Shared) (a b : Value) (d e : D), AOk A 0 → PLive P s.heap → RD P s.heap a d → RD P s.heap b e → Sat (model prog w) A (T a b) (op d e) (okE true F P s) (exE C F s) s
section
variable {q : Bool} {F : List Addr} {P : Addr → Prop} {s : Shared} {ds : List D}
theorem okE.list {vs : Array Value} {n : Nat} (p : PLive P s.heap) (r : RDs P s.heap vs.toList ds) :
  okE q F P s (.list ds) (.ref s.heap.objs.size) { s with heap := s.heap.push { cls := .type "list", data := .seq vs n } } :=
 ⟨.list (UQ _ rfl) p.new (r.mv0 (q := true) (F := []) (Mv.of_push _)), Go.of' (Mv.of_push _)⟩
theorem okE.tup {vs : Array Value} {n : Nat} (p : PLive P s.heap) (r : RDs P s.heap vs.toList ds) :
  okE q F P s (.tuple ds) (.ref s.heap.objs.size) { s with heap := s.heap.push { cls := .type "tuple", data := .seq vs n } } :=
 ⟨.tup (UQ _ rfl) p.new (r.mv0 (q := true) (F := []) (Mv.of_push _)), Go.of' (Mv.of_push _)⟩
theorem okE.int {i : Int} {t k : Nat} : okE q F P s (.int i) (.int i t) { s with toks := k } := ⟨.int .., Go.of_toks ..⟩
theorem okE.str {x : Str} {t k : Nat} : okE q F P s (.str x) (.str x t) { s with toks := k } := ⟨.str .., Go.of_toks ..⟩
theorem okE.bool' {b : Bool} : okE q F P s (.bool b) (.bool b) s := ⟨.bool .., .refl ..⟩
theorem okE.same {v : Value} {d : D} (r : RD P s.heap v d) : okE q F P s d v s := ⟨r, .refl ..⟩
end
noncomputable def AM : D → D → Res D
 | .int a, .int b => .ok (.int (a + b))
 | .str x, .str y => if x.length + y.length ≤ sizeLine then .ok (.str (x ++ y)) else .fail
 | .list xs, .list ys => if xs.length + ys.length ≤ sizeLine then .ok (.list (xs ++ ys)) else .fail
 | .tuple (x :: xs), .tuple (y :: ys) => if (x :: xs).length + (y :: ys).length ≤ sizeLine then .ok (.tuple (x :: xs ++ y :: ys)) else .fail
 | _, _ => .fail
theorem Aa {P : Addr → Prop} {h : Heap} {items : Array Value} {ds : List D} (r : RDs P h items.toList ds) : items.size = ds.length := by
 rw [← r.length]; simp
theorem AX : Iy prog w C (binaryOp .Add) AM := by
 intro A F P s a b d e hA hP ra rb
 cases ra with
 | int i t => cases rb with
  | int j u => exact add_int okE.int
  | _ => exact trivial
 | str x t => cases rb with
  | str y u =>
   show Sat _ A _ (if x.length + y.length ≤ sizeLine then Res.ok (PyData.str (x ++ y)) else .fail) _ _ s
   by_cases hs : x.length + y.length ≤ sizeLine
   ·rw [Tl hs]; exact add_str (fun t' tk => okE.str) hs
   ·rw [Tm hs]; exact trivial
  | _ => exact trivial
 | @list la ia na xs ha hp ra => cases rb with
  | @list lb ib nb ys hb hq rb =>
   show Sat _ A _ (if xs.length + ys.length ≤ sizeLine then Res.ok (PyData.list (xs ++ ys)) else .fail) _ _ s
   by_cases hs : xs.length + ys.length ≤ sizeLine
   ·rw [Tl hs]
    refine concat_meets (A4 _ ha rfl) (A4 _ hb rfl) noFill_list_add seq_list_add PySem.F.slot_list_add PySem.F.entry_list_add (PySem.F.args_list_add_2 _ _)
     (list_addW la lb ia ib na nb none none #[] #[] (by rw [Aa ra, Aa rb]; exact hs)) (KB ha hb ?_)
    exact okE.list hP (by rw [Array.toList_append]; exact ra.append rb)
   ·rw [Tm hs]; exact trivial
  | _ => exact trivial
 | @tup la ia na xs ha hp ra => cases rb with
  | @tup lb ib nb ys hb hq rb =>
   cases xs with
   | nil => exact trivial
   | cons x xs => cases ys with
    | nil => exact trivial
    | cons y ys =>
     have h1 := Aa ra
     have h2 := Aa rb
     show Sat _ A _ (if (x :: xs).length + (y :: ys).length ≤ sizeLine then Res.ok (PyData.tuple (x :: xs ++ y :: ys)) else .fail) _ _ s
     by_cases hs : (x :: xs).length + (y :: ys).length ≤ sizeLine
     ·rw [Tl hs]
      refine PySem.P.add_tuple ha hb ?_ ?_ ?_ (by rw [h1, h2]; exact hs)
      ·intro z; simp [Array.isEmpty] at z; rw [z] at h1; simp at h1
      ·intro z; simp [Array.isEmpty] at z; rw [z] at h2; simp at h2
      ·exact okE.tup hP (by rw [Array.toList_append]; exact ra.append rb)
     ·rw [Tm hs]; exact trivial
  | _ => cases xs <;> exact trivial
 | _ => exact trivial
noncomputable def Jt : D → D → Res D
 | .int a, .int b => .ok (.int (a - b))
 | _, _ => .fail
theorem Lr : Iy prog w C (binaryOp .Sub) Jt := by
 intro A F P s a b d e hA hP ra rb
 unfold Jt
 split
 ·refine xE ra.int_inv fun t z1_ => ?_; obtain rfl := z1_
  refine xE rb.int_inv fun u z1_ => ?_; obtain rfl := z1_
  exact sub_int okE.int
 ·trivial
noncomputable def PQ : D → D → Res D
 | .int a, .int b => if Builtin.Int.intBits a ≤ 64 then .ok (.int (a * b)) else .fail
 | _, _ => .fail
theorem SG : Iy prog w C (binaryOp .Mult) PQ := by
 intro A F P s a b d e hA hP ra rb
 unfold PQ
 split
 ·refine xE ra.int_inv fun t z1_ => ?_; obtain rfl := z1_
  refine xE rb.int_inv fun u z1_ => ?_; obtain rfl := z1_
  split
  ·rename_i h; exact mul_int okE.int (IntMulOk.of_left h)
  ·trivial
 ·trivial
noncomputable def Dt : D → D → Res D
 | .int a, .int b => if b = 0 ∨ 1073741824 ≤ b.natAbs then .fail else .ok (.int (a.fdiv b))
 | _, _ => .fail
theorem E9 : Iy prog w C (binaryOp .FloorDiv) Dt := by
 intro A F P s a b d e hA hP ra rb
 unfold Dt
 split
 ·refine xE ra.int_inv fun t z1_ => ?_; obtain rfl := z1_
  refine xE rb.int_inv fun u z1_ => ?_; obtain rfl := z1_
  split
  ·trivial
  ·rename_i h; exact floordiv_int (fun z => h (.inl z)) okE.int (.inl (PyProof.noPylong_small (by lia)))
 ·trivial
noncomputable def Ch : D → D → Res D
 | .int a, .int b => if b = 0 then .fail else .ok (.int (a.fmod b))
 | _, _ => .fail
theorem Dm : Iy prog w C (binaryOp .Mod) Ch := by
 intro A F P s a b d e hA hP ra rb
 unfold Ch
 split
 ·refine xE ra.int_inv fun t z1_ => ?_; obtain rfl := z1_
  refine xE rb.int_inv fun u z1_ => ?_; obtain rfl := z1_
  split
  ·trivial
  ·rename_i h; exact mod_int h okE.int
 ·trivial
noncomputable def FO : D → D → Res D
 | .int a, .int b => if 0 ≤ b ∧ (Builtin.Int.intBits a : Int) * b ≤ 2 ^ 27 then .ok (.int (a ^ b.toNat)) else .fail
 | _, _ => .fail
theorem Nb : Iy prog w C (binaryOp .Pow) FO := by
 intro A F P s a b d e hA hP ra rb
 unfold FO
 split
 ·refine xE ra.int_inv fun t z1_ => ?_; obtain rfl := z1_
  refine xE rb.int_inv fun u z1_ => ?_; obtain rfl := z1_
  split
  ·rename_i h; exact pow_int h.1 h.2 okE.int
  ·trivial
 ·trivial
noncomputable def AZ : D → D → Res D
 | .str x, .str y => .ok (.bool (x == y))
 | .int a, .int b => .ok (.bool (a == b))
 | d, e => if SeqAt.shaped d && SeqAt.shaped e then .ok (.bool (PyData.eqv d e)) else .fail
noncomputable def A2 : D → D → Res D
 | .str x, .str y => .ok (.bool (x != y))
 | .int a, .int b => .ok (.bool (a != b))
 | d, e => if SeqAt.shaped d && SeqAt.shaped e then .ok (.bool (!PyData.eqv d e)) else .fail
theorem AOk.units {A : Around} {n : Nat} (a : AOk A n) : A.units + 64 < cLine := by have := a.un; lia
theorem Au : Iy prog w C (compareOp .Eq) AZ := by
 intro A F P s a b d e hA hP ra rb
 unfold AZ
 split
 ·refine xE ra.str_inv fun t z1_ => ?_; obtain rfl := z1_
  refine xE rb.str_inv fun u z1_ => ?_; obtain rfl := z1_
  exact eq_str okE.bool'
 ·refine xE ra.int_inv fun t z1_ => ?_; obtain rfl := z1_
  refine xE rb.int_inv fun u z1_ => ?_; obtain rfl := z1_
  exact eq_int okE.bool'
 ·split
  ·rename_i h
   have h' := T5.mp h
   refine xE ra.reads fun as ra => ?_
   refine xE rb.reads fun bs rb => ?_
   exact SeqAt.compareEq_shaped ra rb h'.1 h'.2 hA.units okE.bool'
  ·trivial
theorem B3 : Iy prog w C (compareOp .NotEq) A2 := by
 intro A F P s a b d e hA hP ra rb
 unfold A2
 split
 ·refine xE ra.str_inv fun t z1_ => ?_; obtain rfl := z1_
  refine xE rb.str_inv fun u z1_ => ?_; obtain rfl := z1_
  exact ne_str okE.bool'
 ·refine xE ra.int_inv fun t z1_ => ?_; obtain rfl := z1_
  refine xE rb.int_inv fun u z1_ => ?_; obtain rfl := z1_
  exact ne_int okE.bool'
 ·split
  ·rename_i h
   have h' := T5.mp h
   refine xE ra.reads fun as ra => ?_
   refine xE rb.reads fun bs rb => ?_
   exact SeqAt.compareNe_shaped ra rb h'.1 h'.2 hA.units okE.bool'
  ·trivial
noncomputable def DI : D → D → Res D
 | .int a, .int b => .ok (.bool (decide (a < b)))
 | _, _ => .fail
theorem Fq : Iy prog w C (compareOp .Lt) DI := by
 intro A F P s a b d e hA hP ra rb
 unfold DI
 split
 ·refine xE ra.int_inv fun t z1_ => ?_; obtain rfl := z1_
  refine xE rb.int_inv fun u z1_ => ?_; obtain rfl := z1_
  exact lt_int okE.bool'
 ·trivial
noncomputable def Rc (y : Str) : Option Nat := match y.cps.toList with
 | [c] => some c
 | _ => none
noncomputable def NO (d e : D) : Option Bool := match e with
 | .str x => (match d with
  | .str y => (Rc y).map fun c => decide (c ∈ x.cps.toList)
  | _ => none)
 | .tuple xs => if SeqAt.shaped (.tuple xs) && SeqAt.shaped d then some (xs.any fun y => PyData.eqv y d) else none
 | .list xs => if SeqAt.shaped (.list xs) && SeqAt.shaped d then some (xs.any fun y => PyData.eqv y d) else none
 | _ => none
noncomputable def DM (d e : D) : Res D := match NO d e with
 | some b => .ok (.bool b)
 | none => .fail
noncomputable def Dw (d e : D) : Res D := match NO d e with
 | some b => .ok (.bool (!b))
 | none => .fail
theorem Ik {A : Around} {n : Nat} (a : AOk A n) {xs : List D} {d : D} (h : SeqAt.shaped d = true) : A.units + 1 + min (PyData.depthAll xs) d.depth < cLine := by
 have := a.un
 have h1 := SeqAt.depth_of_shaped h
 have h2 : min (PyData.depthAll xs) d.depth ≤ d.depth := Nat.min_le_right _ _
 lia
theorem Rk {y : Str} {c : Nat} (h : y.cps.toList = [c]) : y = ⟨#[c]⟩ := by
 cases y with | mk l => cases l with | mk l => simp at h; rw [h]
theorem Rl {y : Str} {c : Nat} (h : Rc y = some c) : y = ⟨#[c]⟩ := by
 refine Rk ?_
 unfold Rc at h
 cases e : y.cps.toList with
 | nil => rw [e] at h; cases h
 | cons a l => rw [e] at h; cases l with
  | nil => cases h; rfl
  | cons b l => cases h
theorem N5 {b : Bool} {d e : D} (h : NO d e = some b) : (∃ c x, d = .str ⟨#[c]⟩ ∧ e = .str x ∧ decide (c ∈ x.cps.toList) = b) ∨ ∃ xs, (e = .tuple xs ∨ e = .list xs) ∧ SeqAt.shaped e = true ∧ SeqAt.shaped d = true ∧ (xs.any fun y => PyData.eqv y d) = b := by
 have hif : ∀ {p : Bool} {x : Bool}, (if p then some x else none) = some b → p = true ∧ x = b := fun {p x} h => by
  cases p with
  | true => exact ⟨rfl, by injection h⟩
  | false => cases h
 cases e with
 | str x => cases d with
  | str y =>
   obtain ⟨c, h1, h2⟩ := US.mp (show (Rc y).map (fun c => decide (c ∈ x.cps.toList)) = some b from h)
   exact .inl (Di c x (by rw [Rl h1]) rfl h2)
  | _ => cases h
 | tuple xs => exact have ⟨h1, h2⟩ := hif h; have h3 := T5.mp h1; .inr (Dj xs (.inl rfl) h3.1 h3.2 h2)
 | list xs => exact have ⟨h1, h2⟩ := hif h; have h3 := T5.mp h1; .inr (Dj xs (.inr rfl) h3.1 h3.2 h2)
 | _ => cases h
theorem TK {xs : List D} (h : SeqAt.shaped (.tuple xs) = true) : PyData.canLayAll0 xs = true := by have := SeqAt.canLay_of_shaped h; simpa [PyData.canLay0] using this
theorem Rv {xs : List D} (h : SeqAt.shaped (.list xs) = true) : PyData.canLayAll0 xs = true := by have := SeqAt.canLay_of_shaped h; simpa [PyData.canLay0] using this
theorem HP : Iy prog w C (compareOp .In) DM := by
 intro A F P s a b d e hA hP ra rb
 unfold DM
 cases h : NO d e with
 | none => exact trivial
 | some v =>
  rcases N5 h with ⟨c, x, rfl, rfl, rfl⟩ | ⟨xs, he, h1, h2, rfl⟩
  ·cases ra; cases rb
   exact PySem.P.in_str (by rw [StrLaws.found_one]; exact okE.bool')
  ·refine xE ra.reads fun as ra => xE rb.reads fun bs rb => ?_
   rcases he with rfl | rfl
   ·exact SeqAt.in_tuple_reads rb ra (TK h1) (SeqAt.canLay_of_shaped h2) (Ik hA h2) okE.bool'
   ·exact SeqAt.in_list_reads rb ra (Rv h1) (SeqAt.canLay_of_shaped h2) (Ik hA h2) okE.bool'
theorem J8 : Iy prog w C (compareOp .NotIn) Dw := by
 intro A F P s a b d e hA hP ra rb
 unfold Dw
 cases h : NO d e with
 | none => exact trivial
 | some v =>
  rcases N5 h with ⟨c, x, rfl, rfl, rfl⟩ | ⟨xs, he, h1, h2, rfl⟩
  ·cases ra; cases rb
   exact PySem.P.notIn_str (by rw [StrLaws.found_one]; exact okE.bool')
  ·refine xE ra.reads fun as ra => xE rb.reads fun bs rb => ?_
   rcases he with rfl | rfl
   ·exact SeqAt.notIn_tuple_reads rb ra (TK h1) (SeqAt.canLay_of_shaped h2) (Ik hA h2) okE.bool'
   ·exact SeqAt.notIn_list_reads rb ra (Rv h1) (SeqAt.canLay_of_shaped h2) (Ik hA h2) okE.bool'
noncomputable def Ck : D → Res D
 | .int a => .ok (.int (-a))
 | _ => .fail
theorem DK : Op1 prog w C (unaryOp .USub) Ck := by
 intro A F P s a d hA hP ra
 unfold Ck
 split
 ·refine xE ra.int_inv fun t z1_ => ?_; obtain rfl := z1_
  exact neg_int okE.int
 ·trivial
noncomputable def at? {α : Type} (l : List α) (i : Int) : Option α := if 0 ≤ i then l[i.toNat]? else if -(l.length : Int) ≤ i then l[(i + l.length).toNat]? else none
noncomputable def AG : D → D → Res D
 | .str x, .int i => if i.natAbs < 2 ^ 62 then (match at? x.cps.toList i with | some c => .ok (.str ⟨#[c]⟩) | none => .fail) else .fail
 | .tuple xs, .int i => if i.natAbs < 2 ^ 62 then (match at? xs i with | some d => .ok d | none => .fail) else .fail
 | .list xs, .int i => if i.natAbs < 2 ^ 62 then (match at? xs i with | some d => .ok d | none => .fail) else .fail
 | _, _ => .fail
theorem at?_seq {α : Type} {l : List α} {i : Int} {x : α} (h : at? l i = some x) : ∃ k, seqIndex? i l.length = some k ∧ l[k]? = some x := by
 unfold at? at h
 split at h
 ·rename_i h0
  have hk : i.toNat < l.length := (UC.mp h).1
  exact (A4 _ (seqIndex_of h0 (by lia)) h)
 ·rename_i h0
  split at h
  ·rename_i h1
   exact (A4 _ (seqIndex_neg (by exact Int.not_le.mp (by assumption)) h1) h)
  ·cases h
theorem Qw : Iy prog w C getItem AG := by
 intro A F P s a b d e hA hP ra rb
 unfold AG
 split
 ·refine xE ra.str_inv fun t z1_ => ?_; obtain rfl := z1_
  refine xE rb.int_inv fun u z1_ => ?_; obtain rfl := z1_
  split
  ·rename_i hb
   split
   ·rename_i c hc
    refine BK (at?_seq hc) fun k h1 h2 => ?_
    refine PySem.P.getItem_str (by simp; lia) (c := c) ?_ okE.str
    rw [Str.length, ← Array.length_toList, h1]
    simpa using h2
   ·trivial
  ·trivial
 ·obtain ⟨la, ia, na, rfl, ha, ra⟩ := ra.tup_inv
  obtain ⟨u, rfl⟩ := rb.int_inv
  split
  ·rename_i hb
   split
   ·rename_i xs i x hc
    obtain ⟨k, h1, h2⟩ := at?_seq hc
    obtain ⟨v, h3, h4⟩ := ra.get h2
    exact PySem.P.getItem_tuple ha (by lia) (by lia) (k := k) (by rw [Aa ra]; exact h1) (by simpa using h3) (okE.same h4)
   ·trivial
  ·trivial
 ·obtain ⟨la, ia, na, rfl, ha, hp, ra⟩ := ra.list_inv
  obtain ⟨u, rfl⟩ := rb.int_inv
  split
  ·rename_i hb
   split
   ·rename_i xs i x hc
    unfold at? at hc
    split at hc
    ·rename_i h0
     obtain ⟨v, h3, h4⟩ := ra.get hc
     exact wpAny_getItem_list (Cf _ ha rfl _ rfl) h0 (by lia) (by simpa using h3) (okE.same h4)
    ·split at hc
     ·rename_i h0 h1
      obtain ⟨v, h3, h4⟩ := ra.get hc
      exact wpAny_getItem_list_neg (Cf _ ha rfl _ rfl) (by exact Int.not_le.mp (by assumption)) (by rw [Aa ra]; exact h1) (by lia) (by rw [Aa ra]; simpa using h3) (okE.same h4)
     ·cases hc
   ·trivial
  ·trivial
 ·trivial
end Mine
namespace Mine
theorem Mv.up {q : Bool} {F : List Addr} {X : Addr → Prop} {h h' : Heap} (x : Mv true F X h h') : Mv q F X h h' := ⟨x.keep, fun b o e n _ => x.exact b o e n (.inl rfl), x.live⟩
theorem Go.up {q : Bool} {F : List Addr} {X : Addr → Prop} {s s' : Shared} (x : Go true F X s s') : Go q F X s s' := ⟨x.mv.up, x.gens, x.os, x.drawn⟩
theorem okE.up {q : Bool} {F : List Addr} {P : Addr → Prop} {s s' : Shared} {d : D} {v : Value} (h : okE true F P s d v s') : okE q F P s d v s' := ⟨h.1, h.2.up⟩
theorem Sat.nest {α α' β γ : Type} {M : Model} {A : Around} {t : Sem β} {k : β → Sem γ} {u : Sem γ} {r : Res α} {g : α → Res α'} {R : α → β → Shared → Prop} {R₂ : α' → γ → Shared → Prop} {Ex Ex' : Dr → Value → Shared → Prop} {s : Shared}
  (S : β → Shared → Prop) (L : ∀ Q E, wpAny M A t (fun v s' => S v s' ∧ wpAny M A (k v) Q E s') E s → wpAny M A u Q E s) (h : Sat M A t r R Ex s)
  (hS : ∀ a v s', r = .ok a → R a v s' → S v s')
  (hk : ∀ a v s', r = .ok a → R a v s' → Sat M A (k v) (g a) R₂ Ex' s') (hx : ∀ x e s', Ex x e s' → Ex' x e s') : Sat M A u (r.bind g) R₂ Ex' s := by
 cases r with
 | fail => trivial
 | exc x => exact L _ _ (To h (fun _ _ f => f.elim) fun e s' y => hx x e s' y)
 | ok a =>
  show Sat M A u (g a) R₂ Ex' s
  have hk' := fun v s' => hk a v s' rfl
  cases hg : g a with
  | fail => trivial
  | ok b => exact L _ _ (To h (fun v s' hr => ⟨hS a v s' rfl hr, by have := hk' v s' hr; rw [hg] at this; exact this⟩) fun _ _ f => f.elim)
  | exc x => exact L _ _ (To h (fun v s' hr => ⟨hS a v s' rfl hr, by have := hk' v s' hr; rw [hg] at this; exact this⟩) fun _ _ f => f.elim)
variable (prog : Program) (w : World) (H : Heap) (C : Addr)
noncomputable def SE (n : Nat) (q : Bool) (names : List Str) (sc : Scope) (e : Expr) (f : Loc → Res D) : Prop :=
 ∀ ⦃A : Around⦄ ⦃env : Env⦄ ⦃fs : List Env⦄ ⦃N Z : Addr → Prop⦄ ⦃μ : List Addr⦄ ⦃l : Loc⦄ ⦃m cm : Str → Option Value⦄ ⦃s : Shared⦄,
  Cx prog w H n names sc A env fs N Z μ l m cm s → Sat (model prog w) A (eval e env) (f l) (okE q (FA fs) (Pr N env μ l) s) (exE C (FA fs) s) s
noncomputable def ST (n : Nat) (q : Bool) (names : List Str) (sc : Scope) (e : Expr) (f : Loc → Res Bool) : Prop :=
 ∀ ⦃A : Around⦄ ⦃env : Env⦄ ⦃fs : List Env⦄ ⦃N Z : Addr → Prop⦄ ⦃μ : List Addr⦄ ⦃l : Loc⦄ ⦃m cm : Str → Option Value⦄ ⦃s : Shared⦄,
  Cx prog w H n names sc A env fs N Z μ l m cm s → Sat (model prog w) A (isTrue e env (eval e env)) (f l) (fun b c s' => c = b ∧ Go q (FA fs) No s s') (exE C (FA fs) s) s
noncomputable def QB (n : Nat) (q : Bool) (names : List Str) (sc : Scope) (es : List Expr) (f : Loc → Res (List D)) : Prop :=
 ∀ ⦃A : Around⦄ ⦃env : Env⦄ ⦃fs : List Env⦄ ⦃N Z : Addr → Prop⦄ ⦃μ : List Addr⦄ ⦃l : Loc⦄ ⦃m cm : Str → Option Value⦄ ⦃s : Shared⦄ (pos : Pos),
  Cx prog w H n names sc A env fs N Z μ l m cm s → Sat (model prog w) A (spliced (backTo pos (starEach es env))) (f l) (fun ds vs s' => RDs (Pr N env μ l) s'.heap vs ds ∧ Go q (FA fs) No s s') (exE C (FA fs) s) s
variable {prog w H C}
theorem Cx.plive {n : Nat} {names : List Str} {sc : Scope} {A : Around} {env : Env} {fs : List Env} {N Z : Addr → Prop} {μ : List Addr} {l : Loc} {m cm : Str → Option Value} {s : Shared}
  (c : Cx prog w H n names sc A env fs N Z μ l m cm s) : PLive (Pr N env μ l) s.heap := by
 rintro a (h | rfl | ⟨x, h⟩ | ⟨i, x, h, _⟩)
 ·exact c.lr.nlive a h
 ·refine CB c.lr.ns fun o _ _ e _ => ?_; rw [e]; simp
 ·refine B6 (c.lr.clive x a h) fun v o e _ => ?_; rw [e]; simp
 ·exact c.lr.mlive a (T7 h)
theorem Cx.aok {n : Nat} {names : List Str} {sc : Scope} {A : Around} {env : Env} {fs : List Env} {N Z : Addr → Prop} {μ : List Addr} {l : Loc} {m cm : Str → Option Value} {s : Shared}
  (c : Cx prog w H n names sc A env fs N Z μ l m cm s) : AOk A 0 := c.a.less (UG _)
variable {n : Nat} {q : Bool} {names : List Str} {sc : Scope}
section
variable {el er : Expr} {fl fr : Loc → Res D} {T : Value → Value → Sem Value} {op : D → D → Res D}
theorem SE.two (hl : SE prog w H C n q names sc el fl) (hr : SE prog w H C n q names sc er fr) (hop : Iy prog w C T op)
  {A : Around} {env : Env} {fs : List Env} {N Z : Addr → Prop} {μ : List Addr} {l : Loc} {m cm : Str → Option Value} {s : Shared} (cx : Cx prog w H n names sc A env fs N Z μ l m cm s) (pos : Pos) :
  Sat (model prog w) A (eval el env >>= fun a => holding [a] (eval er env) >>= fun b => standAt pos >>= fun _ => operate [a, b] (T a b)) ((fl l).bind fun d => (fr l).bind fun e => op d e) (okE q (FA fs) (Pr N env μ l) s) (exE C (FA fs) s) s := by
 refine Sat.bind (hl cx) (fun d a s₁ _ h₁ => ?_) fun _ _ _ h => h
 have cx₁ := cx.go h₁.2
 refine Sat.bind (Sat.holding (hr cx₁)) (fun e b s₂ _ h₂ => ?_) fun _ _ _ h => h.after h₁.2
 have cx₂ := cx₁.go h₂.2
 refine Sat.standAt (Sat.operate ?_)
 have g := h₁.2.trans0 h₂.2
 exact Sat.mono (hop A (FA fs) _ s₂ a b d e cx.aok cx₂.plive (h₁.1.mv0 h₂.2.mv) h₂.1) (fun _ _ _ _ h => h.up.after g) fun _ _ _ _ h => h.after g
theorem AQ {o : Operator} {pos : Pos} (hl : SE prog w H C n q names sc el fl) (hr : SE prog w H C n q names sc er fr) (hop : Iy prog w C (binaryOp o) op) :
  SE prog w H C n q names sc (.BinOp el o er pos) fun l => (fl l).bind fun d => (fr l).bind fun e => op d e := fun _ _ _ _ _ _ _ _ _ _ cx => by
 rw [eval_BinOp]; exact hl.two hr hop cx pos
theorem Gm {o : CmpOp} {pos : Pos} (hl : SE prog w H C n q names sc el fl) (hr : SE prog w H C n q names sc er fr) (hop : Iy prog w C (compareOp o) op) (hm : autoParam (behindInMarks o er = false) tA) :
  SE prog w H C n q names sc (.Compare el [o] [er] pos) fun l => (fl l).bind fun d => (fr l).bind fun e => op d e := fun _ _ _ _ _ _ _ _ _ _ cx => by
 rw [eval_Compare1, markedBehindIn_of_false hm]; exact hl.two hr hop cx pos
noncomputable def AF : D → Res Bool
 | .bool b => .ok b
 | _ => .fail
theorem D8 {A : Around} {F : List Addr} {P : Addr → Prop} {s : Shared} {v : Value} {d : D} (r : RD P s.heap v d) :
  Sat (model prog w) A (truthy v) (AF d) (fun b c s' => c = b ∧ Go q F No s s') (exE C F s) s := by
 unfold AF
 split
 ·obtain rfl := r.bool_inv
  exact wpAny_truthy_bool ⟨rfl, .refl ..⟩
 ·trivial
theorem AU {o : CmpOp} {pos : Pos} (hl : SE prog w H C n q names sc el fl) (hr : SE prog w H C n q names sc er fr) (hop : Iy prog w C (compareOp o) op) (hm : autoParam (behindInMarks o er = false) tA) :
  ST prog w H C n q names sc (.Compare el [o] [er] pos) fun l => ((fl l).bind fun d => (fr l).bind fun e => op d e).bind AF := fun {A env fs N Z μ l m cm s} cx => by
 rw [isTrue_Compare1, markedBehindIn_of_false hm]
 have h := hl.two hr hop cx pos
 have e : (eval el env >>= fun a => holding [a] (eval er env) >>= fun b => standAt pos >>= fun _ => operate [a, b] (compareOp o a b) >>= fun c => holding [c] (truthy c)) =
  ((eval el env >>= fun a => holding [a] (eval er env) >>= fun b => standAt pos >>= fun _ => operate [a, b] (compareOp o a b)) >>= fun c => holding [c] (truthy c)) := by
  simp only [bind_assoc]
 rw [e]
 refine Sat.bind h (fun d v s₁ _ h₁ => Sat.holding ?_) fun _ _ _ h => h
 exact Sat.mono (D8 h₁.1) (fun _ _ _ _ x => ⟨x.1, h₁.2.trans0 x.2⟩) fun _ _ _ _ h => h.after h₁.2
end
section
variable {e : Expr} {f : Loc → Res D}
theorem Eh {o : UnaryOp} {pos : Pos} {op : D → Res D} (h : SE prog w H C n q names sc e f) (hop : Op1 prog w C (unaryOp o) op) :
  SE prog w H C n q names sc (.UnaryOp o e pos) fun l => (f l).bind op := fun _ _ _ _ _ _ _ _ _ _ cx => by
 rw [arm_eval_UnaryOp]
 refine Sat.bind (h cx) (fun d v s₁ _ h₁ => ?_) fun _ _ _ h => h
 refine Sat.standAt (Sat.holding ?_)
 exact Sat.mono (hop _ _ _ s₁ v d cx.aok (cx.go h₁.2).plive h₁.1) (fun _ _ _ _ h => h.up.after h₁.2) fun _ _ _ _ h => h.after h₁.2
theorem QS {x : Expr} {pos : Pos} {g : Loc → Res Bool} (h : ST prog w H C n q names sc x g) : ST prog w H C n q names sc (.UnaryOp .Not x pos) fun l => (g l).bind fun b => .ok !b := fun _ _ _ _ _ _ _ _ _ _ cx => by
 rw [arm_isTrue_UnaryOp]
 refine Sat.bind (h cx) (fun d v s₁ _ h₁ => ?_) fun _ _ _ h => h
 refine xA h₁ fun z0_ g => ?_; clear h₁; obtain rfl := z0_
 exact Tr ⟨rfl, g⟩
theorem E1 (h : SE prog w H C n q names sc e f) (he : autoParam (∀ env whole, isTrue e env whole = (do let v ← whole; standAt e.pos; holding [v] (truthy v))) tA) :
  ST prog w H C n q names sc e fun l => (f l).bind AF := fun _ _ _ _ _ _ _ _ _ _ cx => by
 rw [he]
 refine Sat.bind (h cx) (fun d v s₁ _ h₁ => ?_) fun _ _ _ h => h
 refine Sat.standAt (Sat.holding ?_)
 exact Sat.mono (D8 h₁.1) (fun _ _ _ _ x => ⟨x.1, h₁.2.trans0 x.2⟩) fun _ _ _ _ h => h.after h₁.2
noncomputable def Ca (f g : Loc → Res Bool) : Loc → Res Bool := fun l => (f l).bind fun b => if b then g l else .ok false
noncomputable def Hs (f g : Loc → Res Bool) : Loc → Res Bool := fun l => (f l).bind fun b => if b then .ok true else g l
noncomputable def SA (prog : Program) (w : World) (H : Heap) (C : Addr) (n : Nat) (q : Bool) (names : List Str) (sc : Scope) (op : BoolOp) (es : List Expr) (f : Loc → Res Bool) : Prop :=
 ∀ ⦃A : Around⦄ ⦃env : Env⦄ ⦃fs : List Env⦄ ⦃N Z : Addr → Prop⦄ ⦃μ : List Addr⦄ ⦃l : Loc⦄ ⦃m cm : Str → Option Value⦄ ⦃s : Shared⦄,
  Cx prog w H n names sc A env fs N Z μ l m cm s → Sat (model prog w) A (allTrue op es env) (f l) (fun b c s' => c = b ∧ Go q (FA fs) No s s') (exE C (FA fs) s) s
theorem CQ {op : BoolOp} : SA prog w H C n q names sc op [] fun _ => .ok (op == .And) := fun _ _ _ _ _ _ _ _ _ _ cx => Tr ⟨rfl, .refl ..⟩
theorem Bz {x : Expr} {es : List Expr} {f g : Loc → Res Bool} (hf : ST prog w H C n q names sc x f) (hg : SA prog w H C n q names sc .And es g) : SA prog w H C n q names sc .And (x :: es) (Ca f g) := fun {A env fs N Z μ l m cm s} cx => by
 rw [arm_allTrue_cons]
 refine Sat.bind (hf cx) (fun d v s₁ _ h₁ => ?_) fun _ _ _ h => h
 refine xA h₁ fun z0_ g => ?_; clear h₁; obtain rfl := z0_
 cases v with
 | false => exact Tr ⟨rfl, g⟩
 | true => exact Sat.mono (hg (cx.go g)) (fun _ _ _ _ x => ⟨x.1, g.trans0 x.2⟩) fun _ _ _ _ h => h.after g
theorem EO {x : Expr} {es : List Expr} {f g : Loc → Res Bool} (hf : ST prog w H C n q names sc x f) (hg : SA prog w H C n q names sc .Or es g) : SA prog w H C n q names sc .Or (x :: es) (Hs f g) := fun {A env fs N Z μ l m cm s} cx => by
 rw [arm_allTrue_cons]
 refine Sat.bind (hf cx) (fun d v s₁ _ h₁ => ?_) fun _ _ _ h => h
 refine xA h₁ fun z0_ g => ?_; clear h₁; obtain rfl := z0_
 cases v with
 | true => exact Tr ⟨rfl, g⟩
 | false => exact Sat.mono (hg (cx.go g)) (fun _ _ _ _ x => ⟨x.1, g.trans0 x.2⟩) fun _ _ _ _ h => h.after g
theorem Bt {op : BoolOp} {es : List Expr} {pos : Pos} {f : Loc → Res Bool} (h : SA prog w H C n q names sc op es f) : ST prog w H C n q names sc (.BoolOp op es pos) f := fun _ _ _ _ _ _ _ _ _ _ cx => by
 rw [arm_isTrue_BoolOp]; exact h cx
theorem SZ {x y : Expr} {pos : Pos} {f g : Loc → Res D} (hf : SE prog w H C n q names sc x f) (hg : SE prog w H C n q names sc y g) :
  SE prog w H C n q names sc (.BoolOp .And [x, y] pos) fun l => ((f l).bind AF).bind fun b => if b then g l else .ok (.bool false) := fun {A env fs N Z μ l m cm s} cx => by
 rw [arm_eval_BoolOp]
 show Sat _ A (do let v ← eval x env; standAt pos; let t ← holding [v] (truthy v); match BoolOp.And, t with | .And, false | .Or, true => pure v | _, _ => boolOp pos .And [eval y env]) _ _ _ s
 dsimp only
 rw [Res.bind_assoc]
 refine Sat.bind (hf cx) (fun d v s₁ _ h₁ => ?_) fun _ _ _ h => h
 refine Sat.standAt (Sat.bind (Sat.holding (D8 (q := q) h₁.1)) (fun b c s₂ hb h₂ => ?_) fun _ _ _ h => h.after h₁.2)
 refine xA h₂ fun z0_ g => ?_; clear h₂; obtain rfl := z0_
 have hd : d = .bool c := by
  cases d <;> simp [AF] at hb
  rw [hb]
 cases c with
 | false => exact Tr ⟨(hd ▸ h₁.1).mv0 g.mv, h₁.2.trans0 g⟩
 | true => exact Sat.mono (hg ((cx.go h₁.2).go g)) (fun _ _ _ _ x => x.after (h₁.2.trans0 g)) fun _ _ _ _ h => h.after (h₁.2.trans0 g)
theorem S4 {x y : Expr} {pos : Pos} {f g : Loc → Res D} (hf : SE prog w H C n q names sc x f) (hg : SE prog w H C n q names sc y g) :
  SE prog w H C n q names sc (.BoolOp .Or [x, y] pos) fun l => ((f l).bind AF).bind fun b => if b then .ok (.bool true) else g l := fun {A env fs N Z μ l m cm s} cx => by
 rw [arm_eval_BoolOp]
 show Sat _ A (do let v ← eval x env; standAt pos; let t ← holding [v] (truthy v); match BoolOp.Or, t with | .And, false | .Or, true => pure v | _, _ => boolOp pos .Or [eval y env]) _ _ _ s
 dsimp only
 rw [Res.bind_assoc]
 refine Sat.bind (hf cx) (fun d v s₁ _ h₁ => ?_) fun _ _ _ h => h
 refine Sat.standAt (Sat.bind (Sat.holding (D8 (q := q) h₁.1)) (fun b c s₂ hb h₂ => ?_) fun _ _ _ h => h.after h₁.2)
 refine xA h₂ fun z0_ g => ?_; clear h₂; obtain rfl := z0_
 have hd : d = .bool c := by
  cases d <;> simp [AF] at hb
  rw [hb]
 cases c with
 | true => exact Tr ⟨(hd ▸ h₁.1).mv0 g.mv, h₁.2.trans0 g⟩
 | false => exact Sat.mono (hg ((cx.go h₁.2).go g)) (fun _ _ _ _ x => x.after (h₁.2.trans0 g)) fun _ _ _ _ h => h.after (h₁.2.trans0 g)
theorem CI {t a b : Expr} {pos : Pos} {ft : Loc → Res Bool} {fa fb : Loc → Res D} (ht : ST prog w H C n q names sc t ft) (ha : SE prog w H C n q names sc a fa) (hb : SE prog w H C n q names sc b fb) :
  SE prog w H C n q names sc (.IfExp t a b pos) fun l => (ft l).bind fun c => if c then fa l else fb l := fun {A env fs N Z μ l m cm s} cx => by
 rw [arm_eval_IfExp]
 refine Sat.bind (ht cx) (fun d v s₁ _ h₁ => ?_) fun _ _ _ h => h
 refine xA h₁ fun z0_ g => ?_; clear h₁; obtain rfl := z0_
 cases v with
 | true => exact Sat.mono (ha (cx.go g)) (fun _ _ _ _ x => x.after g) fun _ _ _ _ h => h.after g
 | false => exact Sat.mono (hb (cx.go g)) (fun _ _ _ _ x => x.after g) fun _ _ _ _ h => h.after g
noncomputable def getv (l : Loc) (i : Nat) : Res D := match l.vars[i]? with
 | some (some (.d x)) => .ok x
 | _ => .fail
theorem Bp {x : Str} {v : Value} {A : Around} {env : Env} {fs : List Env} {N Z : Addr → Prop} {μ : List Addr} {l : Loc} {m cm : Str → Option Value} {s : Shared} {Q : Value → Shared → Prop} {E : Value → Shared → Prop}
  (cx : Cx prog w H n names sc A env fs N Z μ l m cm s) (hv : G5 env m cm x = some v) (h : Q v s) : wpAny (model prog w) A (loadName env x) Q E s := by
 have hk : env.scope.kind = .function := by rw [cx.e.scope]; exact cx.e.kind
 unfold G5 at hv
 split at hv
 ·rename_i h1; exact wpAny_loadName_local hk h1 cx.lr.ns hv h
 ·split at hv
  ·rename_i h1
   split at hv
   ·rename_i h2
    refine xE (Option.isSome_iff_exists.mp h2) fun c hc => ?_
    exact wpAny_loadName_cell hk h1 hc (hv ▸ cx.lr.cl x c hc) h
   ·cases hv
  ·cases hv
theorem AB (i : Nat) {x : Str} {pos : Pos} (hi : names[i]? = some x) (hd : autoParam ((x == ("__debug__" : Str)) = false) tA) :
  SE prog w H C n q names sc (.Name x pos) fun l => getv l i := fun {A env fs N Z μ l m cm s} cx => by
 show Sat _ A _ (getv l i) _ _ s
 unfold getv
 split
 ·rename_i d hd'
  refine BK (cx.lr.vars i x _ hi hd') fun v hv hr => ?_
  exact wpAny_Name (Bp cx hv ⟨hr, .refl ..⟩) hd
 ·trivial
theorem AE {x : Str} {k} {pos : Pos} : SE prog w H C n q names sc (.Constant (.str x) k pos) fun _ => .ok (.str x) := fun _ _ _ _ _ _ _ _ _ _ cx => wpAny_mkText okE.str
theorem AH {x : Int} {k} {pos : Pos} : SE prog w H C n q names sc (.Constant (.int x) k pos) fun _ => .ok (.int x) := fun _ _ _ _ _ _ _ _ _ _ cx => wpAny_mkInt okE.int
theorem D7 {x : Bool} {k} {pos : Pos} : SE prog w H C n q names sc (.Constant (.bool x) k pos) fun _ => .ok (.bool x) := fun _ _ _ _ _ _ _ _ _ _ cx => Tr okE.bool'
end
section
variable {e : Expr} {es : List Expr} {f : Loc → Res D} {g : Loc → Res (List D)}
theorem AJ : QB prog w H C n q names sc [] fun _ => .ok [] := fun _ _ _ _ _ _ _ _ _ _ pos cx => Tr ⟨.nil, .refl ..⟩
theorem AC (h : SE prog w H C n q names sc e f) (hs : QB prog w H C n q names sc es g) (hst : autoParam (∀ env, starEach (e :: es) env = (false, eval e env) :: starEach es env) tA) :
  QB prog w H C n q names sc (e :: es) fun l => (f l).bind fun d => (g l).bind fun ds => .ok (d :: ds) := fun {A env fs N Z μ l m cm s} pos cx => by
 rw [hst]
 show Sat _ A (spliced ((false, eval e env) :: backTo pos (starEach es env))) _ _ _ s
 have e1 : spliced ((false, eval e env) :: backTo pos (starEach es env)) = (eval e env >>= fun v => holding [v] (spliced (backTo pos (starEach es env))) >>= fun vs => pure (v :: vs)) := by
  rw [spliced]; simp
 rw [e1]
 refine Sat.bind (h cx) (fun d v s₁ _ h₁ => ?_) fun _ _ _ h => h
 refine Sat.bind (Sat.holding (hs pos (cx.go h₁.2))) (fun ds vs s₂ _ h₂ => ?_) fun _ _ _ h => h.after h₁.2
 exact Tr ⟨.cons (h₁.1.mv0 h₂.2.mv) h₂.1, h₁.2.trans0 h₂.2⟩
noncomputable def AV (ds : List D) : Res D := if ds.length ≤ sizeLine then .ok (.tuple ds) else .fail
noncomputable def BB (ds : List D) : Res D := if ds.length ≤ sizeLine then .ok (.list ds) else .fail
theorem AL {k : Nat} {pos : Pos} (h : QB prog w H C n q names sc es g) : SE prog w H C n q names sc (.Tuple es k pos) fun l => (g l).bind AV := fun {A env fs N Z μ l m cm s} cx => by
 rw [arm_eval_Tuple]
 refine Sat.standAt (Sat.bind (h pos cx) (fun ds vs s₁ _ h₁ => ?_) fun _ _ _ h => h)
 unfold AV
 split
 ·rename_i hs
  exact wpAny_newTuple (okE.after (okE.tup (n := 0) (cx.go h₁.2).plive (by simpa using h₁.1)) h₁.2) (by rw [h₁.1.length]; exact hs)
 ·trivial
theorem A7 {pos : Pos} (h : QB prog w H C n q names sc es g) : SE prog w H C n q names sc (.List es pos) fun l => (g l).bind BB := fun {A env fs N Z μ l m cm s} cx => by
 rw [arm_eval_List]
 refine Sat.standAt (Sat.bind (h pos cx) (fun ds vs s₁ _ h₁ => ?_) fun _ _ _ h => h)
 unfold BB
 split
 ·rename_i hs
  exact wpAny_newList (okE.after (okE.list (n := 0) (cx.go h₁.2).plive (by simpa using h₁.1)) h₁.2) (by rw [h₁.1.length]; exact hs)
 ·trivial
end
section
variable {ev ei : Expr} {fv fi : Loc → Res D}
noncomputable def Fy : D → Res D
 | .str x => .ok (.str x)
 | .tuple x => .ok (.tuple x)
 | .list x => .ok (.list x)
 | _ => .fail
theorem EH {A : Around} {P : Addr → Prop} {s : Shared} {v : Value} {d d' : D} {Q : Bool → Shared → Prop} {E : Value → Shared → Prop} (r : RD P s.heap v d) (h : Fy d = .ok d') (hq : Q false s) : wpAny (model prog w) A (getitemInPython v) Q E s := by
 have key : ∀ {T id : String}, s.TypeIs v T → typeLookup (.type T) "__getitem__" = pure (some (.builtin id)) → wpAny (model prog w) A (getitemInPython v) Q E s := fun hT hl => by
  rw [getitemInPython_of_ne hT.not_modules]
  exact Tn (wpAny_specialOf hT hl (Tr hq))
 cases r with
 | none => simp [Fy] at h
 | bool => simp [Fy] at h
 | int => simp [Fy] at h
 | str x t => exact key (typeIs_str s x t) PySem.F.slot_str_getitem.lookup
 | list ho _ _ => exact key (A4 _ ho rfl) slot_list_getitem.lookup
 | tup ho _ _ => exact key (A4 _ ho rfl) PySem.F.slot_tuple_getitem.lookup
theorem Nd {d e x : D} (h : AG d e = .ok x) : ∃ d', Fy d = .ok d' := by
 unfold AG at h
 split at h <;> first | exact ⟨_, rfl⟩ | cases h
theorem AP {pos : Pos} (hv : SE prog w H C n q names sc ev fv) (hi : SE prog w H C n q names sc ei fi) (hns : autoParam (∀ o i, subscripted ei false o i = operate [o, i] (getItem o i)) tA) :
  SE prog w H C n q names sc (.Subscript ev ei pos) fun l => (fv l).bind fun d => (fi l).bind fun e => AG d e := fun {A env fs N Z μ l m cm s} cx => by
 rw [eval_Subscript]
 refine Sat.bind (hv cx) (fun d a s₁ _ h₁ => ?_) fun _ _ _ h => h
 have cx₁ := cx.go h₁.2
 refine Sat.bind (Sat.holding (hi cx₁)) (fun e b s₂ _ h₂ => ?_) fun _ _ _ h => h.after h₁.2
 have cx₂ := cx₁.go h₂.2
 have g := h₁.2.trans0 h₂.2
 have ra := h₁.1.mv0 h₂.2.mv
 have hop := Qw (prog := prog) (w := w) (C := C) A (FA fs) _ s₂ a b d e cx.aok cx₂.plive ra h₂.1
 refine Sat.standAt ?_
 cases hx : AG d e with
 | fail => trivial
 | exc x =>
  exfalso; unfold AG at hx
  repeat' split at hx
  all_goals cases hx
 | ok x =>
  rw [hx] at hop
  refine xE (Nd hx) fun d' hd' => ?_
  refine Tn (EH ra hd' ?_)
  rw [hns]
  refine Tn (wpAny_operating (To hop (fun v s₃ h₃ => ?_) fun _ _ f => f))
  exact Tn (wpAny_letTemporaryGo (Tr (h₃.up.after g)))
end
end Mine
namespace Mine
variable {prog : Program} {w : World} {H : Heap} {C : Addr} {n : Nat} {q : Bool} {names : List Str} {sc : Scope}
noncomputable def lowAt (k : Nat) (lo : Option Int) : Nat := lo.elim 0 (clipAt k)
noncomputable def highAt (k : Nat) (hi : Option Int) : Nat := hi.elim k (clipAt k)
noncomputable def cut {α : Type} (lo hi : Option Int) (l : List α) : List α := (l.drop (lowAt l.length lo)).take (highAt l.length hi - lowAt l.length lo)
theorem NR {α : Type} (lo hi : Option Int) (l : List α) : (cut lo hi l).length ≤ l.length := by
 unfold cut; simp only [List.length_take, List.length_drop]; lia
theorem Pk (lo hi : Option Int) (k : Nat) : Builtin.Str.strSliceIndices lo hi 1 k = (List.range (highAt k hi - lowAt k lo)).map (lowAt k lo + ·) := by
 unfold Builtin.Str.strSliceIndices
 dsimp only
 rw [Tl (by decide), Tl (by decide)]
 have h1 : ∀ v : Option Int, (match v with
   | none => (0 : Int)
   | some i => if (1 : Int) > 0 then max 0 (min (if i < 0 then i + (k : Int) else i) k) else max (-1) (min (if i < 0 then i + (k : Int) else i) (k - 1))) = ((lowAt k v : Nat) : Int) := by
  intro v; cases v with
  | none => rfl
  | some i => simp only [lowAt, Option.elim, clipAt_cast]; rfl
 have h2 : ∀ v : Option Int, (match v with
   | none => (k : Int)
   | some i => if (1 : Int) > 0 then max 0 (min (if i < 0 then i + (k : Int) else i) k) else max (-1) (min (if i < 0 then i + (k : Int) else i) (k - 1))) = ((highAt k v : Nat) : Int) := by
  intro v; cases v with
  | none => rfl
  | some i => simp only [highAt, Option.elim, clipAt_cast]; rfl
 exact (congr (congrArg (fun a b => sliceRange a b 1) (h1 lo)) (h2 hi)).trans (sliceRange_one _ _)
noncomputable def SP (prog : Program) (w : World) (H : Heap) (C : Addr) (n : Nat) (q : Bool) (names : List Str) (sc : Scope) (x : Option Expr) (f : Loc → Res (Option Int)) : Prop :=
 ∀ ⦃A : Around⦄ ⦃env : Env⦄ ⦃fs : List Env⦄ ⦃N Z : Addr → Prop⦄ ⦃μ : List Addr⦄ ⦃l : Loc⦄ ⦃m cm : Str → Option Value⦄ ⦃s : Shared⦄,
  Cx prog w H n names sc A env fs N Z μ l m cm s → Sat (model prog w) A (evalPart x env) (f l) (fun o v s' => IsPart v o ∧ Go q (FA fs) No s s') (exE C (FA fs) s) s
theorem Bd : SP prog w H C n q names sc none fun _ => .ok none := fun _ _ _ _ _ _ _ _ _ _ cx => Tr ⟨.none, .refl ..⟩
noncomputable def Ah : D → Res (Option Int)
 | .int i => .ok (some i)
 | _ => .fail
theorem Af {e : Expr} {f : Loc → Res D} (h : SE prog w H C n q names sc e f) : SP prog w H C n q names sc (some e) fun l => (f l).bind Ah := fun {A env fs N Z μ l m cm s} cx => by
 rw [evalPart_some, ← bind_pure (eval e env)]
 refine Sat.bind (h cx) (fun d v s₁ _ h₁ => ?_) fun _ _ _ h => h
 unfold Ah
 split
 ·refine xE h₁.1.int_inv fun t z1_ => ?_; obtain rfl := z1_
  exact Tr ⟨.int .., h₁.2⟩
 ·trivial
noncomputable def AY (lo hi : Option Int) : D → Res D
 | .str x => if x.cps.toList.length ≤ sizeLine then .ok (.str ⟨(cut lo hi x.cps.toList).toArray⟩) else .fail
 | .list xs => if xs.length ≤ sizeLine then .ok (.list (cut lo hi xs)) else .fail
 | .tuple xs => match lo, hi with
  | some a, none => if 1 ≤ a ∧ a ≤ xs.length ∧ xs.length ≤ sizeLine then .ok (.tuple (xs.drop a.toNat)) else .fail
  | none, some b => if 0 ≤ b ∧ b < xs.length ∧ xs.length ≤ sizeLine then .ok (.tuple (xs.take b.toNat)) else .fail
  | _, _ => .fail
 | _ => .fail
theorem Mj (b k : Nat) (hb : b ≤ k) : Builtin.Slice.sliceAdjust none (some (b : Int)) 1 (k : Int) = (0, (b : Int)) := by
 unfold Builtin.Slice.sliceAdjust
 have h1 : ¬ ((1 : Int) < 0) := by decide
 have h2 : ¬ ((b : Int) < 0) := by lia
 simp only [h1, h2, if_false]
 congr 1
 lia
theorem MM (b : Nat) : Builtin.Slice.slicePlaces 0 (b : Int) 1 = b := by
 unfold Builtin.Slice.slicePlaces
 have h1 : (1 : Int) > 0 := by decide
 simp only [h1, if_true, Int.ediv_one]
 split <;> lia
theorem HO {A : Around} {E : Value → Shared → Prop} {s : Shared} {sl : Addr} {b k : Nat} {u : Tok} {Q : Int × Int × Nat → Shared → Prop} (hs : s.heap.IsSliceOf sl .none (.int b u) .none) (hb : b ≤ k) (h : Q (0, 1, b) s) :
  wpAny (model prog w) A (Builtin.Slice.sliceApplied (.ref sl) (pure (k : Int))) Q E s := by
 refine B1 (id hs) fun os hos hcs hds => ?_
 unfold Builtin.Slice.sliceApplied Builtin.Slice.sliceFields
 refine Tn (Tn (wpAny_field hos hds (x := .none) rfl (Tn (wpAny_field hos hds (x := .int b u) rfl (Tn (wpAny_field hos hds (x := .none) rfl (Tr ?_)))))))
 refine Tn (slicePart_none ?_)
 show wpAny _ _ (if ((1 : Int) == 0) = true then _ else _) _ _ s
 rw [Tm (by decide)]
 refine Tn (slicePart_none (Tn (slicePart_int (Tn (Tr ?_)))))
 show wpAny _ _ (match Builtin.Slice.sliceAdjust none (some (b : Int)) 1 (k : Int) with | (lo, hi) => pure (lo, (1 : Int), Builtin.Slice.slicePlaces lo hi 1)) _ _ s
 rw [Mj b k hb]
 show wpAny _ _ (pure ((0 : Int), (1 : Int), Builtin.Slice.slicePlaces 0 (b : Int) 1)) _ _ s
 rw [MM b]
 exact Tr h
theorem Op (xs : Array Value) (b : Nat) : ((List.range b).filterMap fun (k : Nat) => xs[((0 : Int) + (k : Int) * 1).toNat]?).toArray = (xs.toList.take b).toArray := by
 have e : (fun (k : Nat) => xs[((0 : Int) + (k : Int) * 1).toNat]?) = fun k => xs[0 + k]? := by
  funext k
  have : ((0 : Int) + (k : Int) * 1).toNat = 0 + k := by lia
  rw [this]
 rw [e]
 have := pick_run xs 0 b
 rw [List.filterMap_map] at this
 have e2 : ((fun x => xs[x]?) ∘ fun x => 0 + x) = fun k => xs[0 + k]? := rfl
 rw [e2] at this
 rw [this, List.drop_zero]
theorem Gi {A : Around} {E : Value → Shared → Prop} {s : Shared} {t sl : Addr} {items : Array Value} {b : Nat} {u : Tok} {Q : Value → Shared → Prop} (ht : IsTup s.heap t items) (hs : s.heap.IsSliceOf sl .none (.int b u) .none) (hb : b < items.size)
  (h : Q (.ref s.heap.objs.size) { s with heap := s.heap.push { cls := .type "tuple", data := .seq (items.toList.take b).toArray } })
  (hsz : items.size ≤ sizeLine) : wpAny (model prog w) A (getItem (.ref t) (.ref sl)) Q E s := by
 have htake : sizeOk (.seq (items.toList.take b).toArray) := by
  show (items.toList.take b).toArray.size ≤ sizeLine
  rw [List.size_toArray, List.length_take, Array.length_toList]
  lia
 refine B1 (id hs) fun os hos hcs hds => ?_
 have hTs : s.TypeIs (.ref sl) "slice" := (A4 os hos hcs)
 unfold getItem
 try with_reducible refine UF ?_
 first | refine Tn (Tr ?_) | skip
 refine Tn (wpAny_sequenceKey ht.typeIs (by decide) ?_)
 refine Tn (wpAny_callSpecial?_slot (name := "__getitem__") ht.typeIs slot_tuple_getitem
  (wpAny_call_entry slot_tuple_getitem ht.typeIs entry_tuple_getitem ?_ (args_tuple_getitem _ _)))
 show wpAny _ _ (Builtin.Tuple.tupleItemsOf (.ref t) >>= _) _ _ s
 refine Tn (tupleItemsOf_ ht ?_)
 refine Tn (wpAny_typeOf hTs ?_)
 rw [Tl (by decide)]
 refine Tn (HO hs (Nat.le_of_lt hb) ?_)
 have hno : ¬ (((0 : Int) == 0 && (1 : Int) == 1 && b == items.size) = true) := by
  have : (b == items.size) = false := by rw [beq_eq_false_iff_ne]; exact Nat.ne_of_lt (by assumption)
  rw [this]; simp
 show wpAny _ _ (if ((0 : Int) == 0 && (1 : Int) == 1 && b == items.size) = true then _ else _) _ _ s
 rw [Tm hno, Op items b]
 first
  | exact Tn (m := Builtin.Tuple.tupleExact _) (wpAny_newObj_type (Tr (A4 _ rfl (Tr h))) htake)
  | exact Tn (m := Builtin.Tuple.tupleExact _) (wpAny_newObj_type (Tn (Tr (Tr ⟨_, rfl, Tr h⟩))) htake)
  | exact Tn (Tn (m := Builtin.Tuple.tupleExact _) (wpAny_newObj_type (Tr (Tr ⟨_, rfl, Tr h⟩)) htake))
  | exact Tn (Tn (m := Builtin.Tuple.tupleExact _) (wpAny_newObj_type (Tr ⟨_, rfl, Tr h⟩) htake))
theorem Qm {P : Addr → Prop} {h : Heap} {items : Array Value} {ds : List D} (r : RDs P h items.toList ds) (lo hi : Option Int) : RDs P h (slicePick items lo hi none).toList (cut lo hi ds) := by
 rw [slicePick_plain]
 simp only [List.toList_toArray]
 have e := Aa r
 rw [e]
 exact r.drop.take
theorem PR {A : Around} {F : List Addr} {P : Addr → Prop} {s : Shared} {v vl vu : Value} {d : D} {lo hi : Option Int} {sl : Addr} (hP : PLive P s.heap) (r : RD P s.heap v d) (pl : IsPart vl lo) (pu : IsPart vu hi)
  (hs : s.heap.IsSliceOf sl vl vu .none) : Sat (model prog w) A (getItem v (.ref sl)) (AY lo hi d) (okE true F P s) (exE C F s) s := by
 unfold AY
 split
 ·refine xE r.str_inv fun t z1_ => ?_; obtain rfl := z1_
  split
  ·rename_i x hx
   have hl : ∃ l : Option (Int × Tok), vl = partValue l ∧ l.map (·.1) = lo := by cases pl with | none => exact (A4 none rfl rfl) | int i t => exact (A4 (some (i, t)) rfl rfl)
   have hu : ∃ l : Option (Int × Tok), vu = partValue l ∧ l.map (·.1) = hi := by cases pu with | none => exact (A4 none rfl rfl) | int i t => exact (A4 (some (i, t)) rfl rfl)
   obtain ⟨l, rfl, hl⟩ := hl
   obtain ⟨u, rfl, hu⟩ := hu
   refine wpAny_getItem_str_slice (l := l) (u := u) (st := none) (by exact hs) rfl ?_
   unfold sliceMade slicePicked
   rw [hl, hu]
   show (if (((none : Option Int).getD 1 == 1) && (Builtin.Str.strSliceIndices lo hi 1 x.length).length == x.length) = true then _ else _ : Made).post _ s
   rewrite [Pk]
   have hk : x.length = x.cps.toList.length := by simp [Str.length]
   split
   ·rename_i hc
    have hc' : highAt x.length hi - lowAt x.length lo = x.length := by simpa using hc
    have : cut lo hi x.cps.toList = x.cps.toList := by
     unfold cut
     rw [← hk, hc']
     have h1 : highAt x.length hi ≤ x.length := by
      unfold highAt; cases hi with
      | none => exact Tv _
      | some i => simp only [Option.elim]; have := clipAt_cast x.length i; lia
     have h2 : lowAt x.length lo = 0 ∨ x.length = 0 := by lia
     rcases h2 with h2 | h2
     ·rw [h2, List.drop_zero, UT (by exact Nat.le_of_eq (Eq.symm (by assumption)))]
     ·have : x.cps.toList = [] := List.length_eq_zero_iff.mp (by lia)
      rw [this]; simp
    rw [this]
    exact okE.str (k := s.toks)
   ·have e : (Builtin.Str.strSliceIndices lo hi 1 x.length).filterMap (x.cps[·]?) = cut lo hi x.cps.toList := by
     unfold cut
     rw [← hk, Pk, pick_run]
    show Made.post (.str ⟨((Builtin.Str.strSliceIndices lo hi 1 x.length).filterMap (x.cps[·]?)).toArray⟩) _ s
    rw [e]
    refine ⟨?_, okE.str⟩
    have := NR lo hi x.cps.toList
    show (cut lo hi x.cps.toList).toArray.size ≤ sizeLine
    rw [List.size_toArray]; exact T2 (by assumption) (by assumption)
  ·trivial
 ·refine CP r.list_inv fun la ia na z3_ ha hp ra => ?_; obtain rfl := z3_
  split
  ·rename_i hx
   refine wpAny_getItem_list_slice (Cf _ ha rfl _ rfl) hs pl pu .none (by simp) (okE.list (n := 0) hP (Qm ra lo hi)) ?_
   rw [Aa ra]; exact hx
  ·trivial
 ·refine CF r.tup_inv fun la ia na z3_ ha ra => ?_; obtain rfl := z3_
  have e := Aa ra
  split
  ·rename_i i
   split
   ·rename_i hx
    cases pl with | int _ t => cases pu with | none =>
    refine xE (Int.eq_ofNat_of_zero_le (a := i) (by lia)) fun k z1_ => ?_; obtain rfl := z1_
    refine getItem_tuple_from (a := k) (u := t) (Cf _ ha rfl _ rfl) hs (by lia) (by lia) ?_ (by lia)
    exact okE.tup (n := 0) hP (by simpa using ra.drop)
   ·trivial
  ·rename_i i
   split
   ·rename_i hx
    cases pl with | none => cases pu with | int _ t =>
    refine xE (Int.eq_ofNat_of_zero_le (a := i) (by lia)) fun k z1_ => ?_; obtain rfl := z1_
    refine Gi (b := k) (u := t) (Cf _ ha rfl _ rfl) hs (by lia) ?_ (by lia)
    exact okE.tup (n := 0) hP (by simpa using ra.take)
   ·trivial
  ·trivial
 ·trivial
theorem von (x : Option Expr) (env : Env) : valueOrNone (evalOpt x env) = evalPart x env := by cases x <;> rfl
theorem O0 {lo hi : Option Int} {d x : D} (h : AY lo hi d = .ok x) : ∃ d', Fy d = .ok d' := by
 unfold AY at h
 split at h <;> first | exact ⟨_, rfl⟩ | cases h
theorem NM {lo hi : Option Int} {d : D} {x : Dr} : AY lo hi d ≠ .exc x := by
 unfold AY
 repeat' split
 all_goals (intro h; cases h)
theorem An {ev : Expr} {lower upper : Option Expr} {p pos : Pos} {fv : Loc → Res D} {fl fu : Loc → Res (Option Int)} (hv : SE prog w H C n q names sc ev fv) (hl : SP prog w H C n q names sc lower fl) (hu : SP prog w H C n q names sc upper fu) :
  SE prog w H C n q names sc (.Subscript ev (.Slice lower upper none p) pos) fun l => (fv l).bind fun d => (fl l).bind fun lo => (fu l).bind fun hi => AY lo hi d := fun {A env fs N Z μ l m cm s} cx => by
 rw [eval_Subscript, arm_eval_Slice, von, von, von]
 refine Sat.bind (hv cx) (fun d v s₁ _ h₁ => ?_) fun _ _ _ h => h
 have cx₁ := cx.go h₁.2
 have e1 : ((fl l).bind fun lo => (fu l).bind fun hi => AY lo hi d) = ((fl l).bind fun lo => (fu l).bind fun hi => Res.ok (lo, hi)).bind fun p => AY p.1 p.2 d := by
  cases fl l <;> try rfl
  cases fu l <;> rfl
 rw [e1]
 refine Sat.bind (R := fun (p : Option Int × Option Int) i s' => ∃ sl vl vu, i = .ref sl ∧ IsPart vl p.1 ∧ IsPart vu p.2 ∧ s'.heap.IsSliceOf sl vl vu .none ∧ Go q (FA fs) No s₁ s') (Ex := exE C (FA fs) s₁) (Sat.holding ?_) (fun p i s₂ _ h₂ => ?_) fun _ _ _ h => h.after h₁.2
 ·refine Sat.bind (hl cx₁) (fun lo vl s₂ _ h₂ => ?_) fun _ _ _ h => h
  refine Sat.bind (Sat.holding (hu (cx₁.go h₂.2))) (fun hi vu s₃ _ h₃ => ?_) fun _ _ _ h => h.after h₂.2
  rw [evalPart_none]
  refine Tn (UF (Tr (wpAny_newObj_type ?_)))
  exact (Dc _ vl vu rfl h₂.1 h₃.1 (Heap.IsSliceOf.new ..) ((h₂.2.trans0 h₃.2).trans0 (Go.of' (Mv.of_push _))))
 ·refine De h₂ fun sl vl vu z3_ pl pu hs g₂ => ?_; clear h₂; obtain rfl := z3_
  have cx₂ := cx₁.go g₂
  have rd := h₁.1.mv0 g₂.mv
  have g := h₁.2.trans0 g₂
  refine Sat.standAt ?_
  have hop := PR (prog := prog) (w := w) (C := C) (A := A) (F := FA fs) cx₂.plive rd pl pu hs
  cases hx : AY p.1 p.2 d with
  | fail => trivial
  | exc x => exact absurd hx NM
  | ok x =>
   rw [hx] at hop
   refine xE (O0 hx) fun d' hd' => ?_
   refine Tn (EH rd hd' ?_)
   show wpAny _ A (operate [.ref sl, v] (getItem v (.ref sl)) >>= fun r => letTemporaryGo ev v r >>= fun _ => pure r) _ _ _
   refine Tn (wpAny_operating (To hop (fun v s₃ h₃ => ?_) fun _ _ f => f))
   exact Tn (wpAny_letTemporaryGo (Tr (h₃.up.after g)))
end Mine
namespace Mine
variable {prog : Program} {w : World} {H : Heap} {C : Addr} {n : Nat} {q : Bool} {names : List Str} {sc : Scope}
structure Gl (H : Heap) (mg mb : Str → Option Value) : Prop where
 g : H.Ns mainGlobals mg
 b : H.Ns builtinsNs mb
 lim : H.NoLimit
noncomputable def FK (mg mb : Str → Option Value) (x : Str) (v : Value) : Prop := mg x = some v ∨ (mg x = none ∧ mb x = some v)
variable {mg mb : Str → Option Value}
theorem LK {h : Heap} {a : Addr} {m : Str → Option Value} (hn : H.Ns a m) (hb : H.StaysIn h) : h.Ns a m := hn.keeps hb
theorem BZ (G : Gl H mg mb) {x : Str} {v : Value} (hv : FK mg mb x v) (hk : sc.names.lookup x = some .globalImplicit)
  {A : Around} {env : Env} {fs : List Env} {N Z : Addr → Prop} {μ : List Addr} {l : Loc} {m cm : Str → Option Value} {s : Shared} (cx : Cx prog w H n names sc A env fs N Z μ l m cm s) {pos : Pos} {Q : Value → Shared → Prop} {E : Value → Shared → Prop}
  (h : Q v s) (hd : autoParam ((x == ("__debug__" : Str)) = false) tA) : wpAny (model prog w) A (eval (.Name x pos) env) Q E s := by
 have hsk : env.scope.kind = .function := by rw [cx.e.scope]; exact cx.e.kind
 have hx : env.kindOf x = some .globalImplicit := by unfold Env.kindOf; rw [cx.e.scope]; exact hk
 refine Calls.Name_function_global hsk hx ?_ hd
 have hg : s.heap.Ns env.globals mg := by rw [cx.e.gl]; exact LK G.g cx.inv.base
 have hb : s.heap.Ns env.builtins mb := by rw [cx.e.bu]; exact LK G.b cx.inv.base
 rcases hv with hv | ⟨h1, h2⟩
 ·exact Calls.loadGlobal_global hg hv h
 ·exact Calls.loadGlobal_builtin hg h1 hb h2 h
theorem RU (G : Gl H mg mb) {x : Str} {pos : Pos} {v : Value} {d : D} (hv : FK mg mb x v) (hk : sc.names.lookup x = some .globalImplicit) (hr : ∀ (P : Addr → Prop) (h : Heap), H.StaysIn h → (∀ a, P a → H.get? a = none) → RD P h v d)
  (hd : autoParam ((x == ("__debug__" : Str)) = false) tA) : SE prog w H C n q names sc (.Name x pos) fun _ => .ok d := fun _ _ _ _ _ _ _ _ _ _ cx =>
 BZ G hv hk cx ⟨hr _ _ cx.inv.base (fun a h => h.elim (cx.lr.nh a) (cx.lr.hf a)), .refl ..⟩ hd
section
variable {e e₁ e₂ : Expr} {f f₁ f₂ : Loc → Res D} {op : D → Res D} {x : Str} {p pos : Pos}
theorem Ls {P : Addr → Prop} {h : Heap} {vs : List Value} {d : D} (r : RDs P h vs [d]) : ∃ v, vs = [v] ∧ RD P h v d := by
 cases r with | cons r rs => cases rs; exact (A4 _ rfl r)
theorem Lo {P : Addr → Prop} {h : Heap} {vs : List Value} {d e : D} (r : RDs P h vs [d, e]) : ∃ v u, vs = [v, u] ∧ RD P h v d ∧ RD P h u e := by
 cases r with | cons r rs => refine BK (Ls rs) fun u z1_ r' => ?_; obtain rfl := z1_; exact (Di _ _ rfl r r')
theorem Rm (h : SE prog w H C n q names sc e f) (hst : autoParam (∀ env, starEach [e] env = (false, eval e env) :: starEach [] env) tA) :
  QB prog w H C n q names sc [e] fun l => (f l).bind fun d => .ok [d] := fun {A env fs N Z μ l m cm s} pos cx => by
 have := AC h AJ hst pos cx
 simpa using this
theorem BF (G : Gl H mg mb) {v : Value} (hv : FK mg mb x v) (hk : sc.names.lookup x = some .globalImplicit) (h : SE prog w H C n q names sc e f) (hop : Op1 prog w C (fun a => call v [a]) op)
  (hm : (∃ id, v = .builtin id) ∨ ∃ T, v = .type T)
  (hst : autoParam (∀ env, starEach [e] env = (false, eval e env) :: starEach [] env) tA) (hd : autoParam ((x == ("__debug__" : Str)) = false) tA) :
  SE prog w H C n q names sc (.Call (.Name x p) [e] [] pos) fun l => (f l).bind op := fun {A env fs N Z μ l m cm s} cx => by
 have e1 : (f l).bind op = ((f l).bind fun d => Res.ok [d]).bind fun ds => match ds with | [d] => op d | _ => .fail := by cases f l <;> rfl
 show Sat _ A _ ((f l).bind op) _ _ s
 rw [e1]
 refine Sat.nest (k := fun vs => call v vs) (S := fun _ _ => True) ?_ (Rm h hst pos cx) (fun _ _ _ _ _ => trivial) (fun ds vs s₁ hok h₁ => ?_) fun _ _ _ h => h
 ·intro Q E hh
  refine Call_Name rfl (BZ G hv hk cx ?_ hd)
  rcases hm with ⟨id, rfl⟩ | ⟨T, rfl⟩
  ·exact callWith_builtin1 (To hh (fun _ _ y => y.2) fun _ _ y => y) (hst env) rfl
  ·exact callWith_type1 (To hh (fun _ _ y => y.2) fun _ _ y => y) (hst env) rfl
 ·cases hf : f l with
  | fail => rw [hf] at hok; cases hok
  | exc y => rw [hf] at hok; cases hok
  | ok d =>
   rw [hf] at hok
   cases hok
   refine BK (Ls h₁.1) fun a z1_ ra => ?_; obtain rfl := z1_
   exact Sat.mono (hop A (FA fs) _ s₁ a d cx.aok (cx.go h₁.2).plive ra) (fun _ _ _ _ y => y.up.after h₁.2) fun _ _ _ _ y => y.after h₁.2
end
noncomputable def Ar : D → Res D
 | .str x => if x.length ≤ sizeLine then .ok (.int x.length) else .fail
 | .list xs => if xs.length ≤ sizeLine then .ok (.int xs.length) else .fail
 | .tuple xs => if xs.length ≤ sizeLine then .ok (.int xs.length) else .fail
 | _ => .fail
theorem By : Op1 prog w C (fun a => call (.builtin "len") [a]) Ar := by
 intro A F P s v d hA hP r
 unfold Ar
 split
 ·refine xE r.str_inv fun t z1_ => ?_; obtain rfl := z1_
  split
  ·rename_i h; rw [sizeLine_eq] at h; exact PySem.P.len_str (by lia) okE.int
  ·trivial
 ·refine CP r.list_inv fun a items k z3_ ho hp rs => ?_; obtain rfl := z3_
  have := Aa rs
  split
  ·rename_i h; rw [sizeLine_eq] at h; exact len_list (Cf _ ho rfl _ rfl) (by lia) (by rw [this]; exact okE.int)
  ·trivial
 ·refine CF r.tup_inv fun a items k z3_ ho rs => ?_; obtain rfl := z3_
  have := Aa rs
  split
  ·rename_i h; rw [sizeLine_eq] at h; exact PySem.P.len_tuple ho (by lia) (by rw [this]; exact okE.int)
  ·trivial
 ·trivial
noncomputable def NG : D → Res D
 | .int i => if 0 ≤ i ∧ i ≤ 0x10FFFF then .ok (.str ⟨#[i.toNat]⟩) else .fail
 | _ => .fail
theorem Sn : Op1 prog w C (fun a => call (.builtin "chr") [a]) NG := by
 intro A F P s v d hA hP r
 unfold NG
 split
 ·refine xE r.int_inv fun t z1_ => ?_; obtain rfl := z1_
  split
  ·rename_i h; exact PySem.P.chr_of_int (by simp; assumption) okE.str
  ·trivial
 ·trivial
noncomputable def L9 : D → Res D
 | .tuple xs => if xs.length ≤ sizeLine then .ok (.list xs) else .fail
 | .list xs => if xs.length ≤ sizeLine then .ok (.list xs) else .fail
 | _ => .fail
theorem Q7 : Op1 prog w C (fun a => call (.type "list") [a]) L9 := by
 intro A F P s v d hA hP r
 unfold L9
 split
 ·refine CF r.tup_inv fun a items k z3_ ho rs => ?_; obtain rfl := z3_
  have e := Aa rs
  split
  ·rename_i h
   refine call_list_seq (hsz := by rw [e]; exact h) a (.inr rfl) ho rfl rfl fun h' c' hk hD => ?_
   have m : Mv true F No s.heap h' := .of_keeps hk
   exact ⟨.list hD hP.new (rs.mv0 m), Go.of' m⟩
  ·trivial
 ·refine CP r.list_inv fun a items k z3_ ho hp rs => ?_; obtain rfl := z3_
  have e := Aa rs
  split
  ·rename_i h
   refine call_list_seq (hsz := by rw [e]; exact h) a (.inl rfl) ho rfl rfl fun h' c' hk hD => ?_
   have m : Mv true F No s.heap h' := .of_keeps hk
   exact ⟨.list hD hP.new (rs.mv0 m), Go.of' m⟩
  ·trivial
 ·trivial
noncomputable def Fx : D → Res D
 | .tuple _ => .ok (.bool true)
 | .list _ => .ok (.bool false)
 | _ => .fail
theorem NI (G : Gl H mg mb) {e : Expr} {f : Loc → Res D} {p pt pos : Pos} (hv : FK mg mb "isinstance" (.builtin "isinstance")) (ht : FK mg mb "tuple" (.type "tuple"))
  (hk : sc.names.lookup (Str.ofString "isinstance") = some .globalImplicit) (hkt : sc.names.lookup (Str.ofString "tuple") = some .globalImplicit) (h : SE prog w H C n q names sc e f)
  (hst : autoParam (∀ env, starEach [e, .Name "tuple" pt] env = [(false, eval e env), (false, eval (.Name "tuple" pt) env)]) tA) :
  SE prog w H C n q names sc (.Call (.Name "isinstance" p) [e, .Name "tuple" pt] [] pos) fun l => (f l).bind Fx := fun {A env fs N Z μ l m cm s} cx => by
 have L : ∀ Q E, wpAny (model prog w) A (eval e env) (fun a s₁ => wpAny (model prog w) A (eval (.Name "tuple" pt) env) (fun b s₂ => wpAny (model prog w) A (call (.builtin "isinstance") [a, b]) Q E s₂) E s₁) E s →
   wpAny (model prog w) A (eval (.Call (.Name "isinstance" p) [e, .Name "tuple" pt] [] pos) env) Q E s := fun Q E hh => by
  refine Call_Name rfl (BZ G hv hk cx ?_ (by decide))
  have hs1 : starEach [e, .Name "tuple" pt] env = (false, eval e env) :: starEach [.Name "tuple" pt] env := hst env
  refine callWith_builtin1 ?_ hs1 rfl
  rw [hs1]
  refine Calls.spliced_cons (To hh (fun a s₁ h₁ => ?_) fun _ _ y => y)
  refine Calls.spliced_cons (To h₁ (fun b s₂ h₂ => ?_) fun _ _ y => y)
  exact Calls.spliced_nil h₂
 have h0 := h cx
 show Sat _ A _ ((f l).bind Fx) _ _ s
 cases hf : f l with
 | fail => trivial
 | exc y =>
  rw [hf] at h0
  exact L _ _ (To h0 (fun _ _ z => z.elim) fun _ _ z => z)
 | ok d =>
  rw [hf] at h0
  show Sat _ A _ (Fx d) _ _ s
  unfold Fx
  split
  ·refine L _ _ (To h0 (fun a s₁ h₁ => BZ G ht hkt (cx.go h₁.2) ?_ (by decide)) fun _ _ z => z.elim)
   refine CF h₁.1.tup_inv fun b items k z3_ ho rs => ?_; obtain rfl := z3_
   exact IsiPair.isTuple_tuple (h₀ := s₁.heap) (Cf _ ho rfl _ rfl) (fun _ _ y => y) ⟨.bool .., h₁.2⟩
  ·refine L _ _ (To h0 (fun a s₁ h₁ => BZ G ht hkt (cx.go h₁.2) ?_ (by decide)) fun _ _ z => z.elim)
   refine CP h₁.1.list_inv fun b items k z3_ ho hp rs => ?_; obtain rfl := z3_
   exact IsiPair.isList_tuple (h₀ := s₁.heap) (Cf _ ho rfl _ rfl) (fun _ _ y => y) ⟨.bool .., h₁.2.trans0 (Go.of_toks ..)⟩
  ·trivial
noncomputable def CD : D → Res D
 | .str x => .ok (.str x)
 | _ => .fail
theorem Im {o e : Expr} {fo fe : Loc → Res D} {name : Str} {id : String} {apos pos : Pos} {op : D → D → Res D} (slot : Slot "str" name id) (ty : typeOf (.builtin id) = pure (.type "method_descriptor"))
  (ho : SE prog w H C n q names sc o fo) (he : SE prog w H C n q names sc e fe) (hop : Iy prog w C (fun a b => call (.builtin id) [a, b]) op) (hx : ∀ d e x, op d e ≠ .exc x)
  (hbase : autoParam (∀ env, attributeBase o name env (eval o env) = eval o env) tA)
  (hst : autoParam (∀ env, starEach [e] env = (false, eval e env) :: starEach [] env) tA) (hline : autoParam ((apos.endLine == pos.line) = true) tA) :
  SE prog w H C n q names sc (.Call (.Attribute o name apos) [e] [] pos) fun l => (fo l).bind fun d => (CD d).bind fun d => (fe l).bind fun e => op d e := fun {A env fs N Z μ l m cm s} cx => by
 have h0 := ho cx
 have L : ∀ Q E, wpAny (model prog w) A (eval o env) (fun ov s₁ => (∃ y t, ov = .str y t) ∧ wpAny (model prog w) A (eval e env) (fun b s₂ => wpAny (model prog w) A (call (.builtin id) [ov, b]) Q E s₂) E s₁) E s →
   wpAny (model prog w) A (eval (.Call (.Attribute o name apos) [e] [] pos) env) Q E s := fun Q E hh => by
  refine wpAny_Call_method_lateS (hbase env) (by rw [hst env]; rfl) hline (To hh (fun ov s₁ h₁ => ?_) fun _ _ y => y)
  refine xA h₁ fun z0_ h₁ => ?_; refine Sd z0_ fun y t z2_ => ?_; clear z0_; obtain rfl := z2_
  refine (Fk ("str") id PySem.F.plainAttrs_str slot ty (typeIs_str _ _ _) (fun _ e => nomatch e) ?_)
  refine callWith_method1 ?_ (hst env) rfl
  rw [hst env]
  refine Calls.spliced_cons (To h₁ (fun b s₂ h₂ => ?_) fun _ _ y => y)
  exact Calls.spliced_nil h₂
 show Sat _ A _ ((fo l).bind fun d => (CD d).bind fun d => (fe l).bind fun e => op d e) _ _ s
 cases hf : fo l with
 | fail => trivial
 | exc y =>
  rw [hf] at h0
  exact L _ _ (To h0 (fun _ _ z => z.elim) fun _ _ z => z)
 | ok d =>
  rw [hf] at h0
  show Sat _ A _ ((CD d).bind fun d => (fe l).bind fun e => op d e) _ _ s
  cases d with
  | str y =>
   have key : ∀ {a : Value} {s₁ : Shared}, okE q (FA fs) (Pr N env μ l) s (.str y) a s₁ → Sat (model prog w) A (eval e env >>= fun b => call (.builtin id) [a, b]) ((fe l).bind fun e => op (.str y) e) (okE q (FA fs) (Pr N env μ l) s) (exE C (FA fs) s) s₁ := fun {a s₁} h₁ => by
    refine Sat.bind (he (cx.go h₁.2)) (fun e b s₂ _ h₂ => ?_) fun _ _ _ h => h.after h₁.2
    exact Sat.mono (hop A (FA fs) _ s₂ a b _ e cx.aok ((cx.go h₁.2).go h₂.2).plive (h₁.1.mv0 h₂.2.mv) h₂.1) (fun _ _ _ _ y => y.up.after (h₁.2.trans0 h₂.2)) fun _ _ _ _ y => y.after (h₁.2.trans0 h₂.2)
   show Sat _ A _ ((fe l).bind fun e => op (.str y) e) _ _ s
   have he0 := fun (s₁ : Shared) (g : Go q (FA fs) No s s₁) => he (cx.go g)
   cases hfe : fe l with
   | fail => trivial
   | exc z =>
    rw [hfe] at he0
    refine L _ _ (To h0 (fun a s₁ h₁ => ?_) fun _ _ z => z.elim)
    refine xE h₁.1.str_inv fun t z1_ => ?_; obtain rfl := z1_
    exact ⟨(N7 _ _ rfl), To (he0 s₁ h₁.2) (fun _ _ z => z.elim) fun _ _ z => z.after h₁.2⟩
   | ok e' =>
    rw [hfe] at he0
    show Sat _ A _ (op (.str y) e') _ _ s
    have hop' := fun (s₂ : Shared) (a b : Value) (hp : PLive (Pr N env μ l) s₂.heap) ra rb => hop A (FA fs) (Pr N env μ l) s₂ a b (.str y) e' cx.aok hp ra rb
    cases hr : op (.str y) e' with
    | fail => trivial
    | exc z => exact absurd hr (hx _ _ _)
    | ok r =>
     rw [hr] at hop'
     refine L _ _ (To h0 (fun a s₁ h₁ => ?_) fun _ _ z => z.elim)
     have h₁' := h₁.1
     refine xE h₁.1.str_inv fun t z1_ => ?_; obtain rfl := z1_
     refine ⟨(N7 _ _ rfl), To (he0 s₁ h₁.2) (fun b s₂ h₂ => ?_) fun _ _ z => z.elim⟩
     exact To (hop' s₂ _ b ((cx.go h₁.2).go h₂.2).plive (h₁'.mv0 h₂.2.mv) h₂.1) (fun _ _ y => y.up.after (h₁.2.trans0 h₂.2)) fun _ _ z => z.elim
  | _ => trivial
noncomputable def DD : D → D → Res D
 | .str x, .str y => .ok (.int (Txt.count x y))
 | _, _ => .fail
theorem P9 : Iy prog w C (fun a b => call (.builtin "str.count") [a, b]) DD := by
 intro A F P s a b d e hA hP ra rb
 unfold DD
 split
 ·refine xE ra.str_inv fun t z1_ => ?_; obtain rfl := z1_
  refine xE rb.str_inv fun u z1_ => ?_; obtain rfl := z1_
  exact SC.count okE.int
 ·trivial
noncomputable def Fe : D → D → Res D
 | .str x, .str y => .ok (.int (Txt.find x y))
 | _, _ => .fail
theorem Qx : Iy prog w C (fun a b => call (.builtin "str.find") [a, b]) Fe := by
 intro A F P s a b d e hA hP ra rb
 unfold Fe
 split
 ·refine xE ra.str_inv fun t z1_ => ?_; obtain rfl := z1_
  refine xE rb.str_inv fun u z1_ => ?_; obtain rfl := z1_
  exact SC.find okE.int
 ·trivial
noncomputable def Cq : D → D → Res D
 | .str x, .str y => if y.length ≠ 0 ∧ x.length + 2 ≤ sizeLine then .ok (.list ((Txt.split x y).map .str)) else .fail
 | _, _ => .fail
theorem MT {P : Addr → Prop} {h : Heap} : ∀ l : List (Str × Tok), RDs P h (strValues l) ((l.map (·.1)).map .str)
 | [] => .nil
 | (x, t) :: r => .cons (.str x t) (MT r)
theorem PJ : Iy prog w C (fun a b => call (.builtin "str.split") [a, b]) Cq := by
 intro A F P s a b d e hA hP ra rb
 unfold Cq
 split
 ·refine xE ra.str_inv fun t z1_ => ?_; obtain rfl := z1_
  refine xE rb.str_inv fun u z1_ => ?_; obtain rfl := z1_
  split
  ·rename_i x y hc
   have hy : (y.length == 0) = false := by simpa using hc.1
   have fin : ∀ (l : List (Str × Tok)) (k : Nat), l.map (·.1) = Txt.split x y → okE true F P s (.list ((Txt.split x y).map .str)) (.ref s.heap.objs.size) { s with toks := k, heap := s.heap.push { cls := .type "list", data := .seq (strValues l).toArray } } := fun l k hl => by
    have r : RDs P s.heap (strValues l).toArray.toList ((Txt.split x y).map .str) := by rw [← hl]; simpa using MT l
    exact ⟨.list (UQ _ rfl) hP.new (r.mv0 (q := true) (F := []) (Mv.of_push _)), ⟨Mv.of_push _, rfl, rfl, rfl⟩⟩
   cases h1 : (decide (x.length < y.length) || decide (Builtin.Str.strKind x < Builtin.Str.strKind y))
   ·cases hf : (Builtin.Str.occurrences x y 0 x.length (x.length + 1)).isEmpty
    ·have hlen : (Builtin.Str.partsBetween x (Builtin.Str.occurrences x y 0 x.length (x.length + 1)) y.length).length ≤ sizeLine := by
      rw [length_partsBetween]
      have := StrLaws.occ_length_le x y 0 x.length (x.length + 1)
      lia
     refine call_meets PySem.F.slot_str_split (typeIs_str _ _ _) PySem.F.entry_str_split (PySem.F.args_str_split_2 _ _) (meets_str_split_sep x y t u h1 hy hf (by lia) hlen) ?_
     show wants _ _ _ { s with toks := _, heap := s.heap.push { cls := .type "list", data := .seq (strsFrom s.toks (Builtin.Str.partsBetween x (Builtin.Str.occurrences x y 0 x.length (x.length + 1)) y.length)).toArray } }
     rw [strsFrom_eq]
     exact fin (numbered s.toks _) _ ((numbered_texts _ _).trans ((Tm (ne_true_of_eq_false h1)).trans (Tm (ne_true_of_eq_false hf))).symm)
    ·exact call_meets PySem.F.slot_str_split (typeIs_str _ _ _) PySem.F.entry_str_split (PySem.F.args_str_split_2 _ _) (meets_str_split_not_found x y t u h1 hy hf)
      (fin [(x, t)] s.toks ((Tm (ne_true_of_eq_false h1)).trans (Tl hf)).symm)
   ·exact call_meets PySem.F.slot_str_split (typeIs_str _ _ _) PySem.F.entry_str_split (PySem.F.args_str_split_2 _ _) (meets_str_split_cannot_occur x y t u h1)
     (fin [(x, t)] s.toks (Tl h1).symm)
  ·trivial
 ·trivial
noncomputable def Hg : List D → Option (List Str)
 | [] => some []
 | .str x :: r => (Hg r).map (x :: ·)
 | _ => none
noncomputable def FV : D → D → Res D
 | .str x, .list ys => match Hg ys with
  | some ts => if JoinOk x ts then .ok (.str (Txt.join x ts)) else .fail
  | none => .fail
 | _, _ => .fail
theorem Mf {P : Addr → Prop} {h : Heap} : ∀ {ys : List D} {ts : List Str} {vs : List Value}, Hg ys = some ts → RDs P h vs ys → ∃ l : List (Str × Tok), vs = strValues l ∧ l.map (·.1) = ts
 | [], ts, vs, h1, h2 => by cases h2; cases h1; exact (A4 ([]) rfl rfl)
 | d :: r, ts, vs, h1, h2 => by
  cases h2 with
  | cons rd rs =>
   cases d <;> simp only [Hg] at h1 <;> try cases h1
   cases hr : Hg r with
   | none => rw [hr] at h1; cases h1
   | some us =>
    rw [hr] at h1; cases h1
    refine BK (Mf hr rs) fun l z1_ z2_ => ?_; obtain rfl := z1_; obtain rfl := z2_
    refine xE rd.str_inv fun t z1_ => ?_; obtain rfl := z1_
    exact (A4 ((_, t) :: l) rfl rfl)
theorem Qz : Iy prog w C (fun a b => call (.builtin "str.join") [a, b]) FV := by
 intro A F P s a b d e hA hP ra rb
 unfold FV
 split
 ·refine xE ra.str_inv fun t z1_ => ?_; obtain rfl := z1_
  refine CP rb.list_inv fun c items k z3_ ho hp rs => ?_; obtain rfl := z3_
  split
  ·rename_i ts hts
   split
   ·rename_i hj
    refine BK (Mf hts rs) fun l hl hm => ?_
    exact SC.join (l := l) (Cf _ ho rfl _ (by show Data.seq items k = Data.seq (strValues l).toArray k; rw [← hl])) hm hj fun t' k => okE.str
   ·trivial
  ·trivial
 ·trivial
theorem On (d e : D) (x : Dr) : DD d e ≠ .exc x := by unfold DD; split <;> (intro h; cases h)
theorem Pe (d e : D) (x : Dr) : Fe d e ≠ .exc x := by unfold Fe; split <;> (intro h; cases h)
theorem PA (d e : D) (x : Dr) : Cq d e ≠ .exc x := by unfold Cq; (repeat' split) <;> (intro h; cases h)
theorem P0 (d e : D) (x : Dr) : FV d e ≠ .exc x := by unfold FV; (repeat' split) <;> (intro h; cases h)
section
variable {o e : Expr} {fo fe : Loc → Res D} {apos pos : Pos}
theorem ND (ho : SE prog w H C n q names sc o fo) (he : SE prog w H C n q names sc e fe) (hbase : autoParam (∀ env, attributeBase o "count" env (eval o env) = eval o env) tA)
  (hst : autoParam (∀ env, starEach [e] env = (false, eval e env) :: starEach [] env) tA) (hline : autoParam ((apos.endLine == pos.line) = true) tA) :
  SE prog w H C n q names sc (.Call (.Attribute o "count" apos) [e] [] pos) fun l => (fo l).bind fun d => (CD d).bind fun d => (fe l).bind fun e => DD d e :=
 Im PySem.F.slot_str_count PySem.F.type_str_count ho he P9 On hbase hst hline
theorem Rh (ho : SE prog w H C n q names sc o fo) (he : SE prog w H C n q names sc e fe) (hbase : autoParam (∀ env, attributeBase o "find" env (eval o env) = eval o env) tA)
  (hst : autoParam (∀ env, starEach [e] env = (false, eval e env) :: starEach [] env) tA) (hline : autoParam ((apos.endLine == pos.line) = true) tA) :
  SE prog w H C n q names sc (.Call (.Attribute o "find" apos) [e] [] pos) fun l => (fo l).bind fun d => (CD d).bind fun d => (fe l).bind fun e => Fe d e :=
 Im PySem.F.slot_str_find PySem.F.type_str_find ho he Qx Pe hbase hst hline
theorem M3 (ho : SE prog w H C n q names sc o fo) (he : SE prog w H C n q names sc e fe) (hbase : autoParam (∀ env, attributeBase o "split" env (eval o env) = eval o env) tA)
  (hst : autoParam (∀ env, starEach [e] env = (false, eval e env) :: starEach [] env) tA) (hline : autoParam ((apos.endLine == pos.line) = true) tA) :
  SE prog w H C n q names sc (.Call (.Attribute o "split" apos) [e] [] pos) fun l => (fo l).bind fun d => (CD d).bind fun d => (fe l).bind fun e => Cq d e :=
 Im PySem.F.slot_str_split PySem.F.type_str_split ho he PJ PA hbase hst hline
theorem RP (ho : SE prog w H C n q names sc o fo) (he : SE prog w H C n q names sc e fe) (hbase : autoParam (∀ env, attributeBase o "join" env (eval o env) = eval o env) tA)
  (hst : autoParam (∀ env, starEach [e] env = (false, eval e env) :: starEach [] env) tA) (hline : autoParam ((apos.endLine == pos.line) = true) tA) :
  SE prog w H C n q names sc (.Call (.Attribute o "join" apos) [e] [] pos) fun l => (fo l).bind fun d => (CD d).bind fun d => (fe l).bind fun e => FV d e :=
 Im PySem.F.slot_str_join PySem.F.type_str_join ho he Qz P0 hbase hst hline
end
end Mine
namespace Mine
structure FrOk (env : Env) (fs : List Env) : Prop where
 head : ∃ outer, fs = env :: outer
 frame : env.frame = some env.locals
noncomputable def RvR (Z : Addr → Prop) (P : Addr → Prop) (C : Addr) (z h : Heap) (v : Value) : RV → Prop
 | .val d => RD P h v d
 | .fr ds => ∃ a items k, v = .ref a ∧ Z a ∧ P a ∧ h.get? a = some { cls := .type "list", data := .seq items k } ∧ RDs P h items.toList ds
 | .ex x => XR C z h v x
noncomputable def FlR (Z : Addr → Prop) (P : Addr → Prop) (C : Addr) (z h : Heap) : Fl → Flow → Prop
 | .next, .next => True
 | .cont, .cont => True
 | .ret r, .ret v => RvR Z P C z h v r
 | _, _ => False
structure Ext (env : Env) (μ : List Addr) (l : Loc) (μ' : List Addr) (l' : Loc) (h : Heap) : Prop where
 own : ∀ a, own env μ' l' a → Mine.own env μ l a ∨ h.get? a = none
 pre : μ <+: μ'
inductive okS (prog : Program) (w : World) (H : Heap) (C : Addr) (q : Bool) (names : List Str) (fs : List Env) (N Z : Addr → Prop) (env : Env) (μ : List Addr) (l : Loc) (s : Shared) (p : Fl × Loc) (flow : Flow) (s' : Shared) : Prop
 | mk (μ' : List Addr) (m' cm' : Str → Option Value) (h1 : FlR Z (Pr N env μ' p.2) C s.heap s'.heap p.1 flow) (h2 : LR prog w H names N Z (FA fs) env μ' p.2 m' cm' s'.heap) (h3 : Go q (FA fs) (own env μ l) s s') (h4 : Ext env μ l μ' p.2 s.heap)
inductive exS (C : Addr) (fs : List Env) (env : Env) (μ : List Addr) (l : Loc) (s : Shared) (x : Dr) (e : Value) (s' : Shared) : Prop
 | mk (h1 : XR C s.heap s'.heap e x) (h2 : Go false (FA fs) (own env μ l) s s') (h3 : ∃ m, s'.heap.Ns env.locals m)
variable (prog : Program) (w : World) (H : Heap) (C : Addr)
noncomputable def SS (n : Nat) (q : Bool) (names : List Str) (sc : Scope) (st : Stmt) (f : Loc → Res (Fl × Loc)) : Prop :=
 ∀ ⦃A : Around⦄ ⦃env : Env⦄ ⦃fs : List Env⦄ ⦃N Z : Addr → Prop⦄ ⦃μ : List Addr⦄ ⦃l : Loc⦄ ⦃m cm : Str → Option Value⦄ ⦃s : Shared⦄,
  Cx prog w H n names sc A env fs N Z μ l m cm s → FrOk env fs → Sat (model prog w) A (exec st env) (f l) (okS prog w H C q names fs N Z env μ l s) (exS C fs env μ l s) s
noncomputable def SB (n : Nat) (q : Bool) (names : List Str) (sc : Scope) (st : List Stmt) (f : Loc → Res (Fl × Loc)) : Prop :=
 ∀ ⦃A : Around⦄ ⦃env : Env⦄ ⦃fs : List Env⦄ ⦃N Z : Addr → Prop⦄ ⦃μ : List Addr⦄ ⦃l : Loc⦄ ⦃m cm : Str → Option Value⦄ ⦃s : Shared⦄,
  Cx prog w H n names sc A env fs N Z μ l m cm s → FrOk env fs → Sat (model prog w) A (execs st env) (f l) (okS prog w H C q names fs N Z env μ l s) (exS C fs env μ l s) s
variable {prog w H C}
variable {n : Nat} {q : Bool} {names : List Str} {sc : Scope} {A : Around} {env : Env} {fs : List Env} {N Z : Addr → Prop} {μ μ' : List Addr} {l l' : Loc} {m cm m' cm' : Str → Option Value} {s s' : Shared}
theorem F4 (cx : Cx prog w H n names sc A env fs N Z μ l m cm s) {a : Addr} (h : own env μ l a) (hf : a ∈ FA fs) : a = env.locals := by
 refine EP (cx.inv.fns a hf) fun md o es ep ho hd _ => ?_
 rcases h with h | ⟨x, h⟩ | ⟨i, c, h1, h2, h3⟩
 ·exact h
 ·refine B6 (cx.lr.clive x a h) fun v o' ho' hd' => ?_
  rw [ho] at ho'; cases ho'; rw [hd] at hd'; cases hd'
 ·have := cx.lr.cells i a c h1 h2
  cases c with
  | dead => cases h3
  | list ds => refine B6 this fun items k e _ => ?_; clear this; rw [ho] at e; cases e; cases hd
  | nest is => refine B6 this fun items k e _ => ?_; clear this; rw [ho] at e; cases e; cases hd
  | dict kvs => exact absurd hf this.2
theorem Cx.step (cx : Cx prog w H n names sc A env fs N Z μ l m cm s) (lr : LR prog w H names N Z (FA fs) env μ' l' m' cm' s'.heap) (g : Go q (FA fs) (own env μ l) s s') : Cx prog w H n names sc A env fs N Z μ' l' m' cm' s' :=
 ⟨cx.a, cx.e, cx.fr, cx.inv.go g.mv cx.lr.hf fun a hf h => by rw [F4 cx h hf]; exact ⟨m', lr.ns⟩, lr⟩
theorem Ext.refl {h : Heap} : Ext env μ l μ l h := ⟨fun _ z => .inl z, List.prefix_refl _⟩
theorem Go.own_trans {s₁ s₂ : Shared} (x : Go q (FA fs) (own env μ l) s s₁) (e : Ext env μ l μ' l' s.heap) (y : Go q (FA fs) (own env μ' l') s₁ s₂) : Go q (FA fs) (own env μ l) s s₂ := x.trans y e.own
theorem Ext.trans {h h₁ : Heap} {μ₂ : List Addr} {l₂ : Loc} {X : Addr → Prop} {F : List Addr} (x : Ext env μ l μ' l' h) (mv : Mv q F X h h₁) (y : Ext env μ' l' μ₂ l₂ h₁) : Ext env μ l μ₂ l₂ h :=
 ⟨fun a z => (y.own a z).elim (x.own a) fun e => .inr (mv.dead a e), x.pre.trans y.pre⟩
theorem okS.after {s₁ : Shared} {p : Fl × Loc} {flow : Flow} (h : okS prog w H C q names fs N Z env μ' l' s₁ p flow s') (g : Go q (FA fs) (own env μ l) s s₁) (e : Ext env μ l μ' l' s.heap) : okS prog w H C q names fs N Z env μ l s p flow s' := by
 obtain ⟨μ₂, m₂, cm₂, h1, h2, h3, h4⟩ := h
 refine ⟨μ₂, m₂, cm₂, ?_, h2, g.own_trans e h3, e.trans g.mv h4⟩
 obtain ⟨fl, l₂⟩ := p
 cases fl <;> cases flow <;> try exact h1
 rename_i r v
 cases r with
 | val d => exact h1
 | fr ds => exact h1
 | ex x => exact XR.less h1 fun a z => g.mv.dead a z
theorem exS.after {s₁ : Shared} {x : Dr} {e : Value} (h : exS C fs env μ' l' s₁ x e s') (g : Go q (FA fs) (own env μ l) s s₁) (ext : Ext env μ l μ' l' s.heap) : exS C fs env μ l s x e s' :=
 ⟨h.1.less fun a z => g.mv.dead a z, g.lax.own_trans ext h.2, h.3⟩
theorem exE.toS (cx : Cx prog w H n names sc A env fs N Z μ l m cm s) {x : Dr} {e : Value} (h : exE C (FA fs) s x e s') : exS C fs env μ l s x e s' := ⟨h.1, h.2.mono fun _ z => z.elim, _, CO cx.lr.ns h.2.mv id⟩
theorem exE.afterS {s₁ : Shared} (cx : Cx prog w H n names sc A env fs N Z μ' l' m' cm' s₁) {x : Dr} {e : Value} (h : exE C (FA fs) s₁ x e s') (g : Go q (FA fs) (own env μ l) s s₁) : exS C fs env μ l s x e s' :=
 ⟨h.1.less fun a z => g.mv.dead a z, g.lax.trans h.2 fun _ z => z.elim, _, CO cx.lr.ns h.2.mv id⟩
noncomputable def AK (f g : Loc → Res (Fl × Loc)) : LM := fun l => (f l).bind fun p => match p.1 with
 | .next => g p.2
 | fl => .ok (fl, p.2)
noncomputable def AT : LM := fun l => .ok (.next, l)
theorem AI : SB prog w H C n q names sc [] AT := fun {A env fs N Z μ l m cm s} cx fo =>
 wpAny_execs_nil ⟨μ, m, cm, trivial, cx.lr, .refl .., .refl⟩
theorem AD {st : Stmt} {rest : List Stmt} {f g : Loc → Res (Fl × Loc)} (hf : SS prog w H C n q names sc st f) (hg : SB prog w H C n q names sc rest g) : SB prog w H C n q names sc (st :: rest) (AK f g) := fun {A env fs N Z μ l m cm s} cx fo => by
 rw [execs_cons]
 refine Sat.bind (hf cx fo) (fun p flow s₁ _ h₁ => ?_) fun _ _ _ h => h
 have h₁' := h₁
 obtain ⟨μ', m', cm', h1, h2, h3, h4⟩ := h₁
 obtain ⟨fl, l₁⟩ := p
 cases fl with
 | next =>
  cases flow <;> try exact h1.elim
  exact Sat.mono (hg (cx.step h2 h3) fo) (fun _ _ _ _ h => h.after h3 h4) fun _ _ _ _ h => h.after h3 h4
 | cont =>
  cases flow <;> try exact h1.elim
  exact Tr h₁'
 | ret r =>
  cases flow <;> try exact h1.elim
  exact Tr h₁'
noncomputable def Bl (t : Loc → Res Bool) (f g : Loc → Res (Fl × Loc)) : LM := fun l => (t l).bind fun b => if b then f l else g l
theorem Ae {t : Expr} {a b : List Stmt} {pos : Pos} {ft : Loc → Res Bool} {f g : Loc → Res (Fl × Loc)} (ht : ST prog w H C n q names sc t ft) (hf : SB prog w H C n q names sc a f) (hg : SB prog w H C n q names sc b g) :
  SS prog w H C n q names sc (.If t a b pos) (Bl ft f g) := fun {A env fs N Z μ l m cm s} cx fo => by
 rw [exec_If]
 refine Sat.standAt (Sat.bind (ht cx) (fun b v s₁ _ h₁ => ?_) fun _ _ _ h => h.toS cx)
 refine xA h₁ fun z0_ g => ?_; clear h₁; obtain rfl := z0_
 have g' : Go q (FA fs) (own env μ l) s s₁ := g.mono fun _ z => z.elim
 cases v with
 | true => exact Sat.mono (hf (cx.go g) fo) (fun _ _ _ _ h => h.after g' .refl) fun _ _ _ _ h => h.after g' .refl
 | false => exact Sat.mono (hg (cx.go g) fo) (fun _ _ _ _ h => h.after g' .refl) fun _ _ _ _ h => h.after g' .refl
theorem AW {e : Expr} {pos : Pos} {f : Loc → Res D} (h : SE prog w H C n q names sc e f) : SS prog w H C n q names sc (.Return (some e) pos) fun l => (f l).bind fun d => .ok (.ret (.val d), l) := fun {A env fs N Z μ l m cm s} cx fo => by
 rw [exec_Return_some]
 refine Sat.standAt (Sat.bind (h cx) (fun d v s₁ _ h₁ => ?_) fun _ _ _ h => h.toS cx)
 have cx₁ := cx.go h₁.2
 exact Tr ⟨μ, m, cm, h₁.1, cx₁.lr, h₁.2.mono fun _ z => z.elim, .refl⟩
noncomputable def D1 (i : Nat) : LM := fun l => match l.vars[i]? with
 | some (some (.lst k)) => (match l.cells[k]? with | some (.list ds) => .ok (.ret (.fr ds), l) | _ => .fail)
 | _ => .fail
theorem Bq (i : Nat) {x : Str} {pos p : Pos} (hi : names[i]? = some x) (hd : autoParam ((x == ("__debug__" : Str)) = false) tA) : SS prog w H C n q names sc (.Return (some (.Name x p)) pos) (D1 i) := fun {A env fs N Z μ l m cm s} cx fo => by
 rw [exec_Return_some]
 unfold D1
 split
 ·rename_i k hk
  split
  ·rename_i ds hc
   refine Ei (cx.lr.vars i x _ hi hk) fun v hv a ha z4_ => ?_; obtain rfl := z4_
   refine B6 (cx.lr.cells k a _ ha hc) fun items kk ho hr => ?_
   refine Tn (UA (Tn (wpAny_Name (Bp cx hv (Tr ⟨μ, m, cm, ?_, cx.lr, .refl .., .refl⟩)) hd)))
   exact (Dc a items kk rfl (cx.lr.zf a (T7 ha)) (.inr (.inr (.inr (Di k _ ha hc rfl)))) ho hr)
  ·trivial
 ·trivial
theorem FP {pos : Pos} : SS prog w H C n q names sc (.Continue pos) fun l => .ok (.cont, l) := fun {A env fs N Z μ l m cm s} cx fo => by
 show wpAny _ A (do standAt pos; pure Flow.cont) _ _ s
 exact Tn (UA (Tr ⟨μ, m, cm, trivial, cx.lr, .refl .., .refl⟩))
end Mine
namespace Mine
variable {prog : Program} {w : World} {H : Heap} {C : Addr}
variable {n : Nat} {q : Bool} {names : List Str} {sc : Scope} {A : Around} {env : Env} {fs : List Env} {N Z : Addr → Prop} {μ μ' : List Addr} {l l' : Loc} {m cm m' cm' : Str → Option Value} {s s' : Shared}
noncomputable def Loc.setv (l : Loc) (i : Nat) (u : W) : Loc := { l with vars := l.vars.set i (some u) }
noncomputable def DG (sc : Scope) (x : Str) : Bool := sc.names.lookup x == some .local || sc.names.lookup x == some .cell
theorem LR.upd {F : List Addr} {h h' : Heap} {X : Addr → Prop} {vars' : List (Option W)} (r : LR prog w H names N Z F env μ l m cm h) (x : Mv q F X h h') (hX : ∀ a, X a → a = env.locals ∨ ∃ n, (n, a) ∈ env.cells) (ht : True)
  (ns' : h'.Ns env.locals m') (cl' : ∀ n c, env.cells.lookup n = some c → h'.IsCell c (cm' n)) (clive' : ∀ n c, (n, c) ∈ env.cells → ∃ v, h'.IsCell c v)
  (vars'' : ∀ (i : Nat) (y : Str) (u : W), names[i]? = some y → vars'[i]? = some (some u) → ∃ v, G5 env m' cm' y = some v ∧ RW prog w (Pr N env μ l) (own env μ l) F μ h' v u) (vlen' : vars'.length = names.length) :
  LR prog w H names N Z F env μ { l with vars := vars' } m' cm' h' where
 ns := ns'
 cl := cl'
 capart := r.capart
 clive := clive'
 vars := vars''
 cells := fun i a c h1 h2 => by
  have h3 := r.cells i a c h1 h2
  have nX : ¬ X a := fun z => by
   have := r.notL a (T7 h1)
   rcases hX a z with e | ⟨k, e⟩
   ·exact this.1 e
   ·exact this.2 k e
  have hp : ∀ b, X b → Pr N env μ l b := fun b z => (hX b z).elim (fun e => .inr (.inl e)) fun e => .inr (.inr (.inl e))
  cases c with
  | dead => trivial
  | list ds => refine B6 h3 fun items k hl hr => ?_; clear h3; exact (EL items k (x.exact _ _ hl nX (.inr (.inr (by intro _ _ z; cases z)))) (hr.mv x ht hp))
  | nest is => refine B6 h3 fun items k hl hr => ?_; clear h3; exact (EL items k (x.exact _ _ hl nX (.inr (.inr (by intro _ _ z; cases z)))) hr)
  | dict kvs => exact ⟨Cu h3.1 x nX h3.2 ht hp, h3.2⟩
 len := r.len
 nodup := r.nodup
 notN := r.notN
 notL := r.notL
 zf := r.zf
 zn := fun a e => r.zn a (x.dead a e)
 hf := r.hf
 nlive := fun a e => x.live a (r.nlive a e)
 nh := r.nh
 mlive := fun a e => x.live a (r.mlive a e)
 vlen := vlen'
 nnodup := r.nnodup
theorem E0 {F : List Addr} {h h' : Heap} {a : Addr} {X : Addr → Prop} (hs : Heap.SameBut a h h') (ha : X a) (hl : h'.get? a ≠ none) : Mv q F X h h' :=
 .of_one ha hl fun b o n e => (hs.2 b n).trans e
theorem Fw {α : Type} {ns : List α} (hn : ns.Nodup) : ∀ {i j : Nat} {x : α}, ns[i]? = some x → ns[j]? = some x → i = j := by
 induction ns with
 | nil => intro i j x h; simp at h
 | cons a r ih =>
  obtain ⟨h1, h2⟩ := List.nodup_cons.mp hn
  intro i j x hi hj
  cases i with
  | zero => cases j with
   | zero => rfl
   | succ j => simp at hi hj; subst hi; exact absurd (T7 hj) h1
  | succ i => cases j with
   | zero => simp at hi hj; subst hj; exact absurd (T7 hi) h1
   | succ j => simp at hi hj; rw [ih h2 hi hj]
theorem Iw (cx : Cx prog w H n names sc A env fs N Z μ l m cm s) {i : Nat} {x : Str} (hi : names[i]? = some x) (hk : DG sc x = true) {v : Value} {u : W}
  (hu : RW prog w (Pr N env μ l) (own env μ l) (FA fs) μ s.heap v u) {Q : Unit → Shared → Prop} {E : Value → Shared → Prop}
  (h : ∀ s' m' cm', LR prog w H names N Z (FA fs) env μ (l.setv i u) m' cm' s'.heap → Go q (FA fs) (own env μ l) s s' → Q () s') : wpAny (model prog w) A (storeName env x v) Q E s := by
 have hsk : env.scope.kind = .function := by rw [cx.e.scope]; exact cx.e.kind
 have hkk : env.kindOf x = some .local ∨ env.kindOf x = some .cell := by
  unfold DG at hk
  unfold Env.kindOf; rw [cx.e.scope]
  rcases Bool.or_eq_true_iff.mp hk with hk | hk
  ·exact .inl (beq_iff_eq.mp hk)
  ·exact .inr (beq_iff_eq.mp hk)
 have hlt : i < l.vars.length := by rw [cx.lr.vlen]; exact (UC.mp hi).1
 have hgv : ∀ (j : Nat) (y : Str) (t : W), names[j]? = some y → (l.vars.set i (some u))[j]? = some (some t) → (j = i ∧ t = u ∧ y = x) ∨ (j ≠ i ∧ y ≠ x ∧ l.vars[j]? = some (some t)) := fun j y t h1 h2 => by
  by_cases e : j = i
  ·subst e
   rw [hi] at h1; cases h1
   rw [List.getElem?_set_self hlt] at h2
   cases h2; exact .inl (KB rfl rfl rfl)
  ·rw [List.getElem?_set_ne (Ne.symm e)] at h2
   exact .inr (KB e (fun z => e (Fw cx.lr.nnodup h1 (z ▸ hi))) h2)
 rcases hkk with hl | hc
 ·refine wpAny_storeName_local hl cx.lr.ns (fun h' hn' hs' => ?_) (by rw [hsk]; rfl)
  have mv : Mv q (FA fs) (fun a => a = env.locals) s.heap h' := E0 hs' rfl (by refine CB hn' fun o _ _ e _ => ?_; clear hn'; rw [e]; simp)
  have ht : True := trivial
  have hne : ∀ k c, (k, c) ∈ env.cells → c ≠ env.locals := fun k c hm e => by
   subst e
   refine B6 (cx.lr.clive k _ hm) fun v o ho hd => ?_
   refine CF cx.lr.ns fun o' _ _ ho' hd' _ => ?_
   rw [ho] at ho'; cases ho'; rw [hd] at hd'; cases hd'
  refine h _ _ cm (cx.lr.upd mv (fun a e => .inl e) ht hn' (fun k c e => A9 (cx.lr.cl k c e) mv (hne k c (mem_of_lookup e))) (fun k c e => ?_) (fun j y t h1 h2 => ?_) (by rw [List.length_set]; exact cx.lr.vlen)) (Go.of (mv.mono fun a e => .inl e))
  ·refine xE (cx.lr.clive k c e) fun v y => ?_
   exact ⟨v, A9 y mv (hne k c e)⟩
  ·rcases hgv j y t h1 h2 with ⟨_, rfl, rfl⟩ | ⟨hj, hy, h3⟩
   ·refine (A4 v (by simp [G5, hl]) (hu.mv mv (fun b e => .inl e) ht fun b e => .inr (.inl e)))
   ·refine BK (cx.lr.vars j y t h1 h3) fun v' hv' hr' => ?_
    refine (A4 v' ?_ (hr'.mv mv (fun b e => .inl e) ht fun b e => .inr (.inl e)))
    unfold G5 at hv' ⊢
    split
    ·rename_i hly; rw [Tl hly] at hv'; simpa [hy] using hv'
    ·rename_i hly; rw [Tm hly] at hv'; exact hv'
 ·refine xE (cx.e.cells x hc) fun c hcl => ?_
  have hmem := mem_of_lookup hcl
  refine wpAny_storeName_cell hsk hc hcl (cx.lr.cl x c hcl) fun h' hc' hs' => ?_
  have mv : Mv q (FA fs) (fun a => a = c) s.heap h' := E0 hs' rfl (by refine BK hc' fun o e _ => ?_; clear hc'; rw [e]; simp)
  have ht : True := trivial
  have hXo : ∀ b, b = c → own env μ l b := fun b e => .inr (.inl ⟨x, e ▸ hmem⟩)
  have hne : env.locals ≠ c := fun e => by
   refine B6 (cx.lr.clive x c hmem) fun v o ho hd => ?_
   refine CF cx.lr.ns fun o' _ _ ho' hd' _ => ?_
   rw [e] at ho'; rw [ho] at ho'; cases ho'; rw [hd] at hd'; cases hd'
  have hcm : ∀ k c', env.cells.lookup k = some c' → h'.IsCell c' (if k = x then some v else cm k) := fun k c' e => by
   by_cases hkx : k = x
   ·subst hkx; rw [hcl] at e; cases e; simpa using hc'
   ·rw [Tm hkx]
    exact A9 (cx.lr.cl k c' e) mv fun z => hkx (name_of_addr cx.lr.capart (z ▸ mem_of_lookup e) hmem)
  refine h _ m (fun k => if k = x then some v else cm k) (cx.lr.upd mv (fun a e => .inr ⟨x, e ▸ hmem⟩) ht (CO cx.lr.ns mv hne) hcm (fun k c' e => ?_) (fun j y t h1 h2 => ?_) (by rw [List.length_set]; exact cx.lr.vlen)) (Go.of' (mv.mono hXo))
  ·by_cases z : c' = c
   ·subst z; exact ⟨_, hc'⟩
   ·refine xE (cx.lr.clive k c' e) fun v' y => ?_
    exact ⟨v', A9 y mv z⟩
  ·rcases hgv j y t h1 h2 with ⟨_, rfl, rfl⟩ | ⟨hj, hy, h3⟩
   ·refine (A4 v ?_ (hu.mv mv hXo ht fun b e => .inr (hXo b e)))
    have : ¬ env.kindOf y = some .local := by rw [hc]; simp
    simp [G5, this, hc, hcl]
   ·refine BK (cx.lr.vars j y t h1 h3) fun v' hv' hr' => ?_
    refine (A4 v' ?_ (hr'.mv mv hXo ht fun b e => .inr (hXo b e)))
    unfold G5 at hv' ⊢
    split
    ·rename_i hly; rw [Tl hly] at hv'; exact hv'
    ·rename_i hly
     rw [Tm hly] at hv'
     split
     ·rename_i hcy
      rw [Tl hcy] at hv'
      split
      ·rename_i hs; rw [Tl hs] at hv'; simpa [hy] using hv'
      ·rename_i hs; rw [Tm hs] at hv'; cases hv'
     ·rename_i hcy; rw [Tm hcy] at hv'; cases hv'
noncomputable def Aq (i : Nat) (f : Loc → Res D) : LM := fun l => (f l).bind fun d => .ok (.next, l.setv i (.d d))
theorem MC (cx : Cx prog w H n names sc A env fs N Z μ l m cm s) {i : Nat} {u : W} (lr : LR prog w H names N Z (FA fs) env μ (l.setv i u) m' cm' s'.heap) (g : Go q (FA fs) (own env μ l) s s') :
  okS prog w H C q names fs N Z env μ l s (.next, l.setv i u) .next s' := ⟨μ, m', cm', trivial, lr, g, fun _ z => .inl z, List.prefix_refl _⟩
theorem AO (i : Nat) {x : Str} {e : Expr} {p pos : Pos} {f : Loc → Res D} (hi : names[i]? = some x) (hk : DG sc x = true) (h : SE prog w H C n q names sc e f)
  (hs : autoParam (∀ env, swapsWith e (some (.Name x p)) pos.line env = pure false) tA) (hsw : autoParam (∀ env, swappedStores [.Name x p] e env = pure none) tA) : SS prog w H C n q names sc (.Assign [.Name x p] e pos) (Aq i f) := fun {A env fs N Z μ l m cm s} cx fo => by
 rw [exec_Assign_Name env x p e pos (hs env)]
 refine Sat.standAt (Sat.bind (h cx) (fun d v s₁ _ h₁ => ?_) fun _ _ _ h => h.toS cx)
 have cx₁ := cx.go h₁.2
 have g : Go q (FA fs) (own env μ l) s s₁ := h₁.2.mono fun _ z => z.elim
 refine Tn (UA (Tn (wpAny_bindName (Iw (q := q) cx₁ hi hk (u := .d d) h₁.1 fun s₂ m₂ cm₂ lr g₂ => Tr ?_))))
 exact okS.after (MC cx₁ lr g₂) g .refl
end Mine
namespace Mine
variable {prog : Program} {w : World} {H : Heap} {C : Addr}
variable {A : Around} {fs outer : List Env} {env : Env} {s s' : Shared} {E : Value → Shared → Prop}
inductive XN (C : Addr) (z h : Heap) (e : Value) (x : Dr) : Prop
 | mk (a : Addr) (o : Obj) (vs : Array Value) (d : Addr) (md : Str → Option Value) (T : Addr) (oT : Obj) (ts : Array Value) (fl : Value) (t1 t2 t3 : Tok) (h1 : e = .ref a) (h2 : z.get? a = none) (h3 : h.get? a = some o) (h4 : o.cls = .ref C) (h5 : o.dict = some d) (h6 : z.get? d = none) (h7 : d ≠ a) (h8 : o.data = .fields vs) (h9 : vs[1]? = some (.ref T))
  (h10 : h.Ns d md) (h11 : md "why" = some (.str x.1 t1)) (h12 : md "row" = some (.int x.2.1 t2)) (h13 : md "column" = some (.int x.2.2 t3))
  (h14 : z.get? T = none) (h15 : T ≠ a) (h16 : h.get? T = some oT) (h17 : oT.data = .fields ts) (h18 : ts[3]? = some fl)
theorem XN.xr {z h : Heap} {e : Value} {x : Dr} (r : XN C z h e x) : XR C z h e x := by
 obtain ⟨a, o, vs, d, md, T, oT, ts, fl, t1, t2, t3, e1, e2, e3, e4, e5, e6, e7, e8, e9, e10, e11, e12, e13, e14, e15, e16, e17, e18⟩ := r
 exact ⟨a, o, vs, d, md, _, t1, t2, t3, e1, e2, e3, e4, e5, e6, e7, e8, e9, e10, e11, e12, e13, .inr ⟨T, oT, ts, fl, rfl, e14, e15, e16, e17, e18⟩⟩
theorem Obj.dict_mapFields (o : Obj) (f) : (o.mapFields f).dict = o.dict := by
 obtain ⟨c, d, dt, sl⟩ := o; cases dt <;> rfl
theorem Lc {h h' : Heap} (hs : Heap.SlotsOnly (FA fs) h h') (hn : ∀ a ∈ FA fs, ∃ m, h.Ns a m) : Mv false (FA fs) No h h' where
 keep := fun b o e _ => hs.2.2 b o e
 exact := fun b o e _ hq => by
  rcases hq with hq | hq | hq
  ·cases hq
  ·rw [hs.2.1 b hq]; exact e
  ·by_cases hb : b ∈ FA fs
   ·refine EP (hn b hb) fun m o' es ep e' hd _ => ?_
    rw [e] at e'; cases e'; exact absurd hd (hq es ep)
   ·rw [hs.2.1 b hb]; exact e
 live := fun b e => by
  cases q : h.get? b with
  | none => exact absurd q e
  | some o => refine xE (hs.2.2 b o q) fun sl e => ?_; rw [e]; simp
theorem Nu {z : Heap} {e : Value} {x : Dr} (hfr : A.frames = some fs) (hf : FrOk env fs) (inv : Inv H fs s.heap) (hz : ∀ b, z.get? b ≠ none → s.heap.get? b ≠ none) (hHz : ∀ b, H.get? b ≠ none → z.get? b ≠ none) (hx : XR C z s.heap e x) :
  wpAny (model prog w) A (noteFrame e env) (fun _ s' => XN C z s'.heap e x ∧ Go false (FA fs) (fun a => z.get? a = none) s s') E s := by
 obtain ⟨⟨outer, rfl⟩, hfm⟩ := hf
 obtain ⟨a, o, vs, d, md, tb, t1, t2, t3, rfl, e2, e3, e4, e5, e6, e7, e8, e9, e10, e11, e12, e13, e14⟩ := hx
 have fin : ∀ {s₁ : Shared} {head : Value} {had : Bool} {o₁ : Obj} {vs₁ : Array Value}, s₁.heap.get? a = some o₁ → o₁.cls = .ref C → o₁.dict = some d → o₁.data = .fields vs₁ → 1 < vs₁.size → s₁.heap.Ns d md →
   Inv H (env :: outer) s₁.heap → Go false (FA (env :: outer)) (fun a => z.get? a = none) s s₁ →
   wpAny (model prog w) A (do setField (.ref a) 1 (← EntryCells.newEntry head (← frameOf env) .none (rawInt env.locals) .none (← entryPlaceOf env.locals had))) (fun _ s' => XN C z s'.heap (.ref a) x ∧ Go false (FA (env :: outer)) (fun a => z.get? a = none) s s') E s₁ := by
  intro s₁ head had o₁ vs₁ h1 h2 h3 h4 h5 h6 inv₁ g₁
  refine Tn (wpAny_frameOf_fun hfr inv₁.frames hfm fun h₂ hs₂ => ?_)
  have mv₂ : Mv false (FA (env :: outer)) No s₁.heap h₂ := Lc hs₂ inv₁.fns
  refine Tn (wpAny_entryPlaceOf fun pl hpl => ?_)
  unfold EntryCells.newEntry newFields
  refine Tn (wpAny_newObj_type ?_ (hpl.sizeOk5 _ _ _ _ _))
  have ha₂ : h₂.get? a = some o₁ := mv₂.exact a o₁ h1 id (.inr (.inr (by intro _ _ q; rw [h4] at q; cases q)))
  have ha₃ := UE (h := h₂) { cls := .type "traceback", dict := none, data := .fields ([head, .ref env.locals, .none, rawInt env.locals, .none] ++ (if pl.isEmpty then List.replicate 6 Value.none else pl)).toArray } ha₂
  refine wpAny_setField ha₃ h4 h5 ⟨?_, ?_⟩
  ·have hTa : h₂.objs.size ≠ a := Nat.ne_of_gt (Heap.lt_size ha₂)
   have hd₃ := Obj.data_mapFields h4 (·.setIfInBounds 1 (Value.ref h₂.objs.size))
   have ha₄ := UV (Obj.mapFields (·.setIfInBounds 1 (Value.ref h₂.objs.size))) ha₃ (Obj.isFreed_of_fields hd₃)
   have hdl : h₂.Ns d md := CO h6 mv₂ id
   have hdd : (h₂.push { cls := .type "traceback", dict := none, data := .fields ([head, .ref env.locals, .none, rawInt env.locals, .none] ++ (if pl.isEmpty then List.replicate 6 Value.none else pl)).toArray }).Ns d md := hdl.push _
   have hzT : z.get? h₂.objs.size = none := by
    cases q : z.get? h₂.objs.size with
    | none => rfl
    | some o' =>
     have h1 := hz h₂.objs.size (by rw [q]; simp)
     have h2 := mv₂.live _ (g₁.mv.live _ h1)
     exact absurd (A0 h₂) h2
   refine ⟨a, _, _, d, md, h₂.objs.size, { cls := .type "traceback", dict := none, data := .fields ([head, .ref env.locals, .none, rawInt env.locals, .none] ++ (if pl.isEmpty then List.replicate 6 Value.none else pl)).toArray }, _, rawInt env.locals, t1, t2, t3, rfl, e2, ha₄, (Obj.cls_mapFields ..).trans h2, (Obj.dict_mapFields ..).trans h3, e6, e7, hd₃, by simp [h5], ?_, e11, e12, e13, hzT, hTa, ?_, rfl, by simp⟩
   ·refine CF hdd fun od es ep hod hdd' r => ?_; clear hdd
    exact (Gb od es ep ((UW _ _ (Ne.symm e7)).trans hod) hdd' r)
   ·exact (UW _ _ (Ne.symm hTa)).trans (UQ _ rfl)
  ·refine ⟨?_, g₁.gens, g₁.os, g₁.drawn⟩
   have m1 : Mv false (FA (env :: outer)) (fun b => z.get? b = none) s.heap h₂ := g₁.mv.trans mv₂ fun _ y => y.elim
   have m2 : Mv false (FA (env :: outer)) (fun b => z.get? b = none) s.heap (h₂.push { cls := .type "traceback", dict := none, data := .fields ([head, .ref env.locals, .none, rawInt env.locals, .none] ++ (if pl.isEmpty then List.replicate 6 Value.none else pl)).toArray }) :=
    m1.trans (X' := No) (Mv.of_push _) fun _ y => y.elim
   have hd₃ := Obj.data_mapFields h4 (·.setIfInBounds 1 (Value.ref h₂.objs.size))
   have ha₄ := UV (Obj.mapFields (·.setIfInBounds 1 (Value.ref h₂.objs.size))) ha₃ (Obj.isFreed_of_fields hd₃)
   exact m2.trans (X' := fun b => z.get? b = none) (Mv.of_one (a := a) e2 (by rw [ha₄]; simp) fun b o' hb q => (UW _ _ (Ne.symm hb)).trans q) fun b y => .inl y
 unfold noteFrame
 simp only [hfm]
 refine Tn (wpAny_field e3 e8 e9 ?_)
 have hsz : 1 < vs.size := (Array.getElem?_eq_some_iff.mp e9).1
 rcases e14 with rfl | ⟨T, oT, ts, fl, rfl, f2, f3, f4, f5, f6⟩
 ·rw [Tm (by decide)]
  refine (fin e3 e4 e5 e8 hsz e10 inv (.refl ..) : _)
 ·rw [Tl (show (Value.ref T != Value.none) = true from by simp)]
  refine Tn (wpAny_field f4 f5 f6 ?_)
  split
  ·refine Tr ⟨⟨a, o, vs, d, md, T, oT, ts, fl, t1, t2, t3, rfl, e2, e3, e4, e5, e6, e7, e8, e9, e10, e11, e12, e13, f2, f3, f4, f5, f6⟩, .refl ..⟩
  ·refine Tn (wpAny_setField f4 f5 (Array.getElem?_eq_some_iff.mp f6).1 ?_)
   have hother : ∀ b, b ≠ T → (s.heap.update T (Obj.mapFields (·.setIfInBounds 3 Value.none))).get? b = s.heap.get? b := fun b hb => UW _ _ (Ne.symm hb)
   have hT' := UV (Obj.mapFields (·.setIfInBounds 3 Value.none)) f4 (Obj.isFreed_of_fields (Obj.data_mapFields f5 _))
   have m1 : Mv false (FA (env :: outer)) (fun b => b = T) s.heap (s.heap.update T (Obj.mapFields (·.setIfInBounds 3 Value.none))) := Mv.of_one rfl (by rw [hT']; simp) fun b o' hb q => (hother b hb).trans q
   have hTn : ∀ b, b = T → z.get? b = none := fun b q => q ▸ f2
   have hTd : d ≠ T := fun q => by
    refine CF e10 fun od es ep hod hdd _ => ?_; clear e10
    rw [q, f4] at hod; cases hod; rw [f5] at hdd; cases hdd
   refine (fin (s₁ := { s with heap := s.heap.update T (Obj.mapFields (·.setIfInBounds 3 Value.none)) }) ((hother a (Ne.symm f3)).trans e3) e4 e5 e8 hsz (CO e10 m1 hTd) ?_ (Go.of' (m1.mono hTn)) : _)
   refine inv.go m1 (fun b q => ?_) fun b hb q => ?_
   ·subst q
    cases y : H.get? b with
    | none => rfl
    | some o' =>
     exact absurd f2 (hHz b (by rw [y]; simp))
   ·subst q
    refine EP (inv.fns b hb) fun m' od es ep hod hdd _ => ?_
    rw [f4] at hod; cases hod; rw [f5] at hdd; cases hdd
end Mine
namespace Mine
variable {prog : Program} {w : World} {H : Heap} {C : Addr}
variable {A : Around} {fs outer : List Env} {env : Env} {s s' : Shared} {E : Value → Shared → Prop}
theorem FU {q : Bool} {F : List Addr} {M : Model} {z : Heap} {e : Value} {x : Dr} {fr : Option Addr} (hx : XN C z s.heap e x) :
  wpAny M A (setFlight e fr) (fun _ s' => XN C z s'.heap e x ∧ Go q F (fun a => z.get? a = none) s s') E s := by
 obtain ⟨a, o, vs, d, md, T, oT, ts, fl, t1, t2, t3, rfl, e2, e3, e4, e5, e6, e7, e8, e9, e10, e11, e12, e13, f2, f3, f4, f5, f6⟩ := hx
 unfold setFlight
 refine Tn (wpAny_field e3 e8 e9 ?_)
 rw [Tl (show (Value.ref T != Value.none) = true from by simp)]
 refine wpAny_setField f4 f5 (Array.getElem?_eq_some_iff.mp f6).1 ?_
 have hd₃ := Obj.data_mapFields f5 (·.setIfInBounds 3 (fr.elim Value.none fun f => rawInt f))
 have hT' := UV (Obj.mapFields (·.setIfInBounds 3 (fr.elim Value.none fun f => rawInt f))) f4 (Obj.isFreed_of_fields hd₃)
 have hother : ∀ b, b ≠ T → (s.heap.update T (Obj.mapFields (·.setIfInBounds 3 (fr.elim Value.none fun f => rawInt f)))).get? b = s.heap.get? b := fun b hb => UW _ _ (Ne.symm hb)
 have hTd : d ≠ T := fun q => by
  refine CF e10 fun od es ep hod hdd _ => ?_; clear e10
  rw [q, f4] at hod; cases hod; rw [f5] at hdd; cases hdd
 have m1 : Mv q F (fun b => z.get? b = none) s.heap (s.heap.update T (Obj.mapFields (·.setIfInBounds 3 (fr.elim Value.none fun f => rawInt f)))) := Mv.of_one (a := T) f2 (by rw [hT']; simp) fun b o' hb q => (hother b hb).trans q
 refine ⟨⟨a, o, vs, d, md, T, _, _, fr.elim Value.none fun f => rawInt f, t1, t2, t3, rfl, e2, (hother a (Ne.symm f3)).trans e3, e4, e5, e6, e7, e8, e9, ?_, e11, e12, e13, f2, f3, hT', hd₃, ?_⟩, Go.of' m1⟩
 ·refine CF e10 fun od es ep hod hdd r => ?_; clear e10
  exact (Gb od es ep ((hother d hTd).trans hod) hdd r)
 ·simp [(Array.getElem?_eq_some_iff.mp f6).1]
theorem Sl {q : Bool} {F : List Addr} {M : Model} {z : Heap} {e : Value} {x : Dr} (hx : XN C z s.heap e x) (h : ∀ s', XN C z s'.heap e x → Go q F (fun a => z.get? a = none) s s' → E e s') : cameBackBy M A env E e s := by
 have hx' := hx
 obtain ⟨a, o, vs, d, md, T, oT, ts, fl, t1, t2, t3, rfl, e2, e3, e4, e5, e6, e7, e8, e9, e10⟩ := hx
 unfold cameBackBy
 refine Tn (wpAny_field e3 e8 e9 ?_)
 rw [Tm (show ¬ (Value.ref T == Value.none) = true from by simp)]
 exact To (FU hx') (fun _ s' y => h s' y.1 y.2) fun _ _ y => y
theorem Go.xtrans {q : Bool} {F : List Addr} {z : Heap} {s s₁ s₂ : Shared} (x : Go q F (fun a => z.get? a = none) s s₁) (y : Go q F (fun a => z.get? a = none) s₁ s₂) : Go q F (fun a => z.get? a = none) s s₂ := x.trans y fun _ q => .inl q
theorem Ss {z : Heap} {e : Value} {x : Dr} (hfr : A.frames = some fs) (hf : FrOk env fs) (inv : Inv H fs s.heap) (hz : ∀ b, z.get? b ≠ none → s.heap.get? b ≠ none) (hHz : ∀ b, H.get? b ≠ none → z.get? b ≠ none) (hx : XR C z s.heap e x)
  (h : ∀ s', XR C z s'.heap e x → Go false (FA fs) (fun a => z.get? a = none) s s' → E e s') : notedBy (model prog w) A env (fun e s' => cameBackBy (model prog w) A env E e s') e s := by
 unfold notedBy
 refine To (Nu (E := fun _ _ => False) hfr hf inv hz hHz hx) (fun _ s₁ y => ?_) fun _ _ f => f.elim
 exact Sl y.1 fun s₂ y₂ g₂ => h s₂ y₂.xr (y.2.xtrans g₂)
theorem Mv.unframe {q : Bool} {F : List Addr} {L : Addr} {X : Addr → Prop} {h h' : Heap} (m : Mv q (L :: F) X h h') (hL : X L ∨ h.get? L = none) : Mv q F X h h' where
 keep := m.keep
 live := m.live
 exact := fun b o e n hq => m.exact b o e n (by
  rcases hq with hq | hq | hq
  ·exact .inl hq
  ·by_cases hb : b = L
   ·subst hb; rcases hL with x | x
    ·exact absurd x n
    ·rw [x] at e; cases e
   ·exact .inr (.inl (by simp [hb, hq]))
  ·exact .inr (.inr hq))
theorem RA {z : Heap} {e : Value} {x : Dr} (hfr : A.frames = some fs) (hf : FrOk env fs) (inv : Inv H fs s.heap) (hz : ∀ b, z.get? b ≠ none → s.heap.get? b ≠ none) (hHz : ∀ b, H.get? b ≠ none → z.get? b ≠ none) (hx : XR C z s.heap e x)
  {Q : Unit → Shared → Prop} (h : ∀ s', XR C z s'.heap e x → Go false (FA fs) (fun a => z.get? a = none) s s' → Q () s') : wpAny (model prog w) A (leaving env e) Q E s := by
 unfold leaving
 refine Tn (To (Nu (E := E) hfr hf inv hz hHz hx) (fun _ s₁ y => ?_) fun _ _ f => f)
 exact To (FU y.1) (fun _ s₂ y₂ => h s₂ y₂.1.xr (y.2.xtrans y₂.2)) fun _ _ f => f
end Mine
set_option maxRecDepth 100000
open Builtin Builtin.ObjectAttr
namespace Mine
noncomputable def F6 : List Value := [.type "Exception", .type "BaseException", .type "object"]
inductive ClsIs (K : Frag) (C W : Addr) : Prop
 | mk (nm q : Str) (N : Addr) (bs : List Value) (sn : List Str) (sub : List Value) (ab : Bool) (col : Option Bool) (dd : Option Addr) (k0 k1 k2 k3 k5 : Option Value) (h : K.lookup C = some (excClassObj nm q C N bs (.ref W :: F6) true sn sub ab col dd k0 k1 k2 k3 k5 "Exception.__new__"))
structure XK (K : Frag) (C W fB fW : Addr) : Prop where
 cls : ClsIs K C W
 init : findIn K (.ref C) "__init__" = some (some (.ref fB))
 fB : typeIn K (.ref fB) = some (.type "function")
 sa : findIn K (.ref C) "__setattr__" = some (some (.builtin "object.__setattr__"))
 why : findIn K (.ref C) "why" = some none
 at_ : findIn K (.ref C) "at" = some none
 row : findIn K (.ref C) "row" = some none
 column : findIn K (.ref C) "column" = some none
 ga : findIn K (.ref C) "__getattribute__" = some (some (.builtin "BaseException.__getattribute__"))
 gt : findIn K (.ref C) "__getattr__" = some none
section
variable {prog : Program} {w : World} {A : Around} {E : Value → Shared → Prop} {h : Heap} {g : Array GenState} {d : Drawn} {t : Nat} {os : OsState}
variable {nm q : Str} {C N W x : Addr} {bs : List Value} {sn : List Str} {sub : List Value} {ab : Bool} {col : Option Bool} {dd : Option Addr} {k0 k1 k2 k3 k5 : Option Value}
 {mA : Str → Option Value} {name : Str} {v : Value} {K : Frag}
theorem PK {M : Model} {o : Obj} {nameV : Value} {Q : Unit → Shared → Prop}
  (hC : h.get? C = some (excClassObj nm q C N bs (.ref W :: F6) true sn sub ab col dd k0 k1 k2 k3 k5 "Exception.__new__")) (hx : h.get? x = some o) (hc : o.cls = .ref C) (hq : Q () ⟨h, g, d, t, os⟩) :
  wpAny M A (checkBuiltinCall "object.__setattr__" ⟨[.ref x, nameV, v], []⟩) Q E ⟨h, g, d, t, os⟩ := by
 have SF := F.store_Exception
 have hcB : (Value.ref C :: .ref W :: F6).contains (.type "object") = true := by simp [F6]
 have ha := SF.args (.ref x) nameV v
 simp only [checkBuiltinCall, SF.kind, SF.split]
 refine Tn ?_
 ·unfold isInstance
  repeat (first | (with_reducible refine wpAny_loadPart_at hx ?_; rw [hc]) | (with_reducible refine wpAny_isSubtype_exc hC ?_; rw [hcB]) | wp_step)
  exact hq
noncomputable def Qc (h h' : Heap) (x C : Addr) (mA : Str → Option Value) (name : Str) (v : Value) : Prop :=
 h'.Inst x C (fun y => if y = name then some v else mA y) ∧
 (∀ b o, b ≠ x → (∀ o₀ dx, h.get? x = some o₀ → o₀.dict = some dx → b ≠ dx) → h.get? b = some o → h'.get? b = some o) ∧
 (∀ o₀, h.get? x = some o₀ → ∃ o₁, h'.get? x = some o₁ ∧ o₁.cls = o₀.cls ∧ o₁.data = o₀.data ∧ o₁.slots = o₀.slots ∧ (∀ dx, o₀.dict = some dx → o₁.dict = some dx) ∧ (o₀.dict = none → ∃ dx, o₁.dict = some dx ∧ h.get? dx = none))
theorem Oq {tk : Tok} {Q : Fin → Shared → Prop} {ns : List Str}
  (hC : h.get? C = some (excClassObj nm q C N bs (.ref W :: F6) true sn sub ab col dd k0 k1 k2 k3 k5 "Exception.__new__")) (hl : Looks (model prog w) h (typeLookup (.ref C) name) none) (I : h.Inst x C mA)
  (hq : ∀ h' tk', Qc h h' x C mA name v → Q (.done (.ret .none)) ⟨h', g, d, tk', os⟩) (hw : PySem.Within mA ns) (hsz : ns.length ≤ sizeLine) :
  wpAny (model prog w) A (Builtin.«object.__setattr__» ⟨[.ref x, .str name tk, v], []⟩) Q E ⟨h, g, d, t, os⟩ := by
 have SF := F.store_Exception
 refine FN I fun o hx hc hnc hd => ?_; clear I
 have hpass := SF.passes (.ref x)
 have hpass' : refuseLoop (.ref x) "__setattr__" (.ref C :: .ref W :: F6) = pure () := by rw [refuseLoop_ref, refuseLoop_ref]; exact hpass
 unfold Builtin.«object.__setattr__»
 repeat (first | rewrite [refuse_eq] | rewrite [hpass'] | (with_reducible refine wpAny_loadPart_at hx ?_; rw [hc]) | with_reducible refine wpAny_mroOf_exc hC ?_ | with_reducible refine hl.at ?_ | wp_step)
 rcases hd with ⟨hdn, hmA⟩ | ⟨dx, hdx, hne, hns⟩
 ·
  rw [hdn, Tm (by simp [typeHasDict])]
  split
  ·rename_i hcd
   cases hcd
  split
  ·rename_i c hcd
   exact absurd hcd (hnc c)
  ·have hx₁ : (h.push { cls := .type "dict", data := .dict #[] }).get? x = some o := UE _ hx
   have hxs : x ≠ h.objs.size := Nat.ne_of_lt (Heap.lt_size hx)
   refine Tn (wpAny_alloc' ?_)
   refine Tn (wpAny_update' hx₁ ?_)
   refine Tr ?_
   have hgd : ((h.push { cls := .type "dict", data := .dict #[] }).update x fun o => { cls := o.cls, dict := some h.objs.size, data := o.data, slots := o.slots }).get? h.objs.size
     = some { cls := .type "dict", data := .dict #[] } :=
    (Heap.get?_update_ne _ _ _ _ hxs.symm).trans (Heap.get?_push_at rfl rfl)
   have hnd : ((h.push { cls := .type "dict", data := .dict #[] }).update x fun o => { cls := o.cls, dict := some h.objs.size, data := o.data, slots := o.slots }).Ns h.objs.size (fun _ => none) :=
    (HA _ (#[]) _ hgd rfl (fun e he => absurd he (by simp)) (fun _ => rfl))
   show wpAny _ _ (storeInDict h.objs.size (.str name tk) name v) _ _ _
   unfold storeInDict newKeyGuard
   refine Tn (Tr (Tn (wpAny_nsSet1 (Heap.Ns1.of_empty hnd) fun h' hn' hs => ?_)))
   refine CF (hn'.count (Within.cons name v Within.nil)) fun oD esD epD hoD hdD hcD => ?_
   refine Tn (wpAny_lookBehind hoD (by rw [hdD]; exact pastItsLine_dict (T2 hcD (by rw [Ts, List.length_nil, sizeLine_eq]; exact T6 _ _))) ?_)
   wp_walk
   have hx' : h'.get? x = some { cls := o.cls, dict := some h.objs.size, data := o.data, slots := o.slots } := ?_
   refine hq h' _ (KB (Dj ({ cls := o.cls, dict := some h.objs.size, data := o.data, slots := o.slots }) hx' hc hnc (.inr (B0 h.objs.size rfl hxs.symm ?_))) (fun b ob hbx _ hb => ?_) (fun o₀ h₀ => by obtain rfl : o = o₀ := Option.some.inj (hx.symm.trans h₀); exact (OB _ hx' rfl rfl rfl (fun dx e => by rw [hdn] at e; cases e) (fun _ => (A4 _ rfl (A0 h))))))
   ·refine De hn' fun o' es ep e1 e2 e3 eu e4 => ?_; clear hn'
    exact (Dc o' es ep e1 e2 e3 eu (fun y => by rw [e4 y]; by_cases hy : y = name <;> simp [hy, hmA]))
   ·exact (hs.2 b (Nat.ne_of_lt (Heap.lt_size hb))).trans ((Heap.get?_update_ne _ _ _ _ hbx).trans (UE _ hb))
   ·refine (hs.2 x hxs).trans (UV _ hx₁ ?_)
    have hfr := (Heap.get?_some_iff.mp hx).2
    obtain ⟨oc, od, odt, osl⟩ := o
    cases odt <;> first | rfl | exact hfr
 ·
  rw [hdx]
  refine Tr ?_
  show wpAny _ _ (storeInDict dx (.str name tk) name v) _ _ _
  unfold storeInDict newKeyGuard
  refine Tn (Tr (Tn (wpAny_nsSet1 hns fun h' hn' hs => ?_)))
  refine CF (hn'.count (Within.cons name v hw)) fun oD esD epD hoD hdD hcD => ?_
  refine Tn (wpAny_lookBehind hoD (by rw [hdD]; exact pastItsLine_dict (T2 hcD (by rw [Ts]; exact Nat.succ_le_succ (by assumption)))) ?_)
  wp_walk
  refine hq h' _ (KB (Dj o ((hs.2 x hne.symm).trans hx) hc hnc (.inr (B0 dx hdx hne hn'))) (fun b ob _ hbd hb => ?_) (fun o₀ h₀ => (OB o₀ ((hs.2 x hne.symm).trans h₀) rfl rfl rfl (fun _ e => e) (fun e => ?_))))
  ·exact (hs.2 b (hbd o dx hx hdx)).trans hb
  ·rw [hx] at h₀; cases h₀; rw [hdx] at e; cases e
theorem NB {Q : Unit → Shared → Prop} {ns : List Str}
  (hC : h.get? C = some (excClassObj nm q C N bs (.ref W :: F6) true sn sub ab col dd k0 k1 k2 k3 k5 "Exception.__new__")) (hsa : Looks (model prog w) h (typeLookup (.ref C) "__setattr__") (some (.builtin "object.__setattr__")))
  (hl : Looks (model prog w) h (typeLookup (.ref C) name) none) (I : h.Inst x C mA)
  (hq : ∀ h' tk', Qc h h' x C mA name v → Q () ⟨h', g, d, tk', os⟩) (hw : PySem.Within mA ns) (hsz : ns.length ≤ sizeLine) :
  wpAny (model prog w) A (setAttr (.ref x) name v) Q E ⟨h, g, d, t, os⟩ := by
 have SF := F.store_Exception
 refine B1 (id I) fun o hx hc _ => ?_
 have f3 := SF.slot.bind (.ref x)
 unfold setAttr callSpecial? specialOf
 repeat (any_goals (first | assumption | (with_reducible refine wpAny_loadPart_at hx ?_; rw [hc]) | with_reducible refine hsa.at ?_ | wp_step))
 refine codeAny_call_builtin SF.slot.plain SF.entry (PK hC hx hc (Oq hC hl I (fun h' tk' st => ?_) hw hsz))
 repeat (any_goals (first | assumption | wp_step))
 exact hq h' tk' st
end
end Mine
set_option maxRecDepth 100000
open Builtin Builtin.ObjectAttr
open Sem (wp)
namespace Mine
section
variable {prog : Program} {w : World} {A : Around} {E : Value → Shared → Prop} {h : Heap} {g : Array GenState} {d : Drawn} {t : Nat} {os : OsState}
variable {nm q : Str} {C N W x : Addr} {bs : List Value} {sn : List Str} {sub : List Value} {ab : Bool} {col : Option Bool} {dd : Option Addr} {k0 k1 k2 k3 k5 : Option Value}
 {mA : Str → Option Value} {name : Str} {v : Value} {K : Frag}
theorem KE {M : Model} {rest : List Value} {Q : Unit → Shared → Prop} (hC : h.get? C = some (excClassObj nm q C N bs (.ref W :: F6) true sn sub ab col dd k0 k1 k2 k3 k5 "Exception.__new__"))
  (hq : Q () ⟨h, g, d, t, os⟩) : wpAny M A (checkBuiltinCall "Exception.__new__" ⟨.ref C :: rest, []⟩) Q E ⟨h, g, d, t, os⟩ := by
 have FX := F.excBase_Exception
 have hcont : (Value.ref C :: .ref W :: F6).contains (.type "Exception") = true := by simp [F6]
 have hstar := FX.noStar
 simp only [checkBuiltinCall, FX.newKind, FX.newSplit, FX.newRow]
 repeat (first | refine wpAny_loadPart_at hC ?_ | (refine wpAny_isSubtype_exc hC ?_; rw [hcont]) | refine wpAny_staticBase_exc hC ?_ | refine wpAny_madeBy_exc hC ?_ | simp only [bne_self_eq_false, Bool.false_eq_true, if_false] | wp_step)
 exact hq
theorem Mu {R : Result → Shared → Prop} {rest : List Value} (hC : h.get? C = some (excClassObj nm q C N bs (.ref W :: F6) true sn sub ab col dd k0 k1 k2 k3 k5 "Exception.__new__"))
  (hq : R (.ok (.ret (.ref (h.objs.size + 1)))) ⟨(h.push { cls := .type "tuple", data := .seq rest.toArray }).push
   { cls := .ref C, data := .fields #[.ref h.objs.size, .none, .none, .none, .bool false, .none] }, g, d, t, os⟩) (hrest : rest.length ≤ sizeLine) :
  codeAny (model prog w) A (.builtin "Exception.__new__" ⟨.ref C :: rest, []⟩) R ⟨h, g, d, t, os⟩ := by
 have FX := F.excBase_Exception
 have hends := FX.ends
 have hcB : (Value.ref C :: .ref W :: F6).contains (.type "Exception") = true := by simp [F6]
 have hcA : (Value.ref C :: .ref W :: F6).contains (.type "AttributeError") = false := by simp [F6]
 have hcN : (Value.ref C :: .ref W :: F6).contains (.type "NameError") = false := by simp [F6]
 refine codeAny_builtinAt FX.entry ?_
 unfold Builtin.«BaseException.__new__»
 refine PySem.wpAt_bind ?_
 show PySem.wpAt _ _ _ (stack >>= _) _ _ _
 refine PySem.wpAt_bind (PySem.wpAt_stack fun p below => PySem.wpAt_of_wpAny ?_)
 wp_walk
 refine PySem.wpAt_of_wpAny ?_
 rw [FX.owner]
 repeat (first | with_reducible refine wpAny_madeHere_exc FX.canon hC ?_ | with_reducible refine wpAny_loadPart_at hC ?_ | (with_reducible refine wpAny_isSubtype_exc hC ?_; first | rw [hcB] | rw [hcA] | rw [hcN]) | wp_step)
 show R _ _
 rw [Heap.size_push]
 exact hq
theorem I8 {M : Model} {e : Addr} {oe : Obj} {rest : List Value} {Q : Unit → Shared → Prop}
  (hC : h.get? C = some (excClassObj nm q C N bs (.ref W :: F6) true sn sub ab col dd k0 k1 k2 k3 k5 "Exception.__new__")) (he : h.get? e = some oe) (hcls : oe.cls = .ref C) (hq : Q () ⟨h, g, d, t, os⟩) :
  wpAny M A (checkBuiltinCall "Exception.__init__" ⟨.ref e :: rest, []⟩) Q E ⟨h, g, d, t, os⟩ := by
 have FX := F.excBase_Exception
 have hcB : (Value.ref C :: .ref W :: F6).contains (.type "Exception") = true := by simp [F6]
 have hshort := FX.noStar
 simp only [checkBuiltinCall, FX.initKind, FX.initSplit, FX.initRow]
 repeat (first | (with_reducible refine wpAny_loadPart_at he ?_; rw [hcls]) | with_reducible refine wpAny_loadPart_at hC ?_ | (with_reducible refine wpAny_isSubtype_exc hC ?_; rw [hcB]) | wp_step)
 refine wpAny_onRaise ?_
 rw [show ∀ (a b : String) (n : Nat), Bind.check ⟨.positional, "*", "Exception", .self, [⟨"args", .varPos, false⟩]⟩ a b n (List.map (fun x => x.fst) ({ pos := Value.ref e :: rest } : Args).kw) = pure () from
  fun a b n => check_star_args _ _ _ _ _ _]
 exact Tr hq
theorem Py {e : Addr} {oe : Obj} {vs : Array Value} {rest : List Value} {Q : Value → Shared → Prop}
  (hC : h.get? C = some (excClassObj nm q C N bs (.ref W :: F6) true sn sub ab col dd k0 k1 k2 k3 k5 "Exception.__new__")) (he : h.get? e = some oe) (hcls : oe.cls = .ref C) (hd : oe.data = .fields vs) {t0 : Addr} (h0 : vs[0]? = some (.ref t0)) (hsz : 0 < vs.size)
  (hrest : rest.length ≤ sizeLine)
  (hq : Q .none ⟨(h.push { cls := .type "tuple", data := .seq rest.toArray }).update e (Obj.mapFields (·.setIfInBounds 0 (.ref h.objs.size))), g, d, t, os⟩) :
  wpAny (model prog w) A (call (.builtin "Exception.__init__") (.ref e :: rest)) Q E ⟨h, g, d, t, os⟩ := by
 have FX := F.excBase_Exception
 have he' := UE (h := h) { cls := .type "tuple", data := .seq rest.toArray } he
 refine wpAny_call (codeAny_call_builtin FX.init.plain FX.initEntry (I8 hC he hcls ?_))
 refine Tn (wpAny_newTuple ?_ hrest)
 refine Tn (Tn (PySem.wpAny_field he' hd h0 ?_))
 refine Tn (wpAny_setField he' hd hsz ?_)
 repeat (first | wp_step)
 exact hq
theorem Ko {mN : Str → Option Value} {rest : List Value} {fI : Addr} {oI : Obj} {Q : PySem.Fin → Shared → Prop}
  (hC : h.get? C = some (excClassObj nm q C N bs (.ref W :: F6) true sn sub ab col dd k0 k1 k2 k3 k5 "Exception.__new__"))
  (hi : Looks (model prog w) h (typeLookup (.ref C) "__init__") (some (.ref fI))) (hfI : h.get? fI = some oI) (hfc : oI.cls = .type "function")
  (hq : ∀ h' e, Heap.MadeExcOf h h' e (.ref C) rest →
   wpAny (model prog w) A (call (.ref fI) (.ref e :: rest)) (fun r s' => r = .none ∧ Q (.done (.ret (.ref e))) s') E ⟨h', g, d, t, os⟩) (hrest : rest.length ≤ sizeLine) :
  wpAny (model prog w) A (Builtin.«type.__call__» ⟨.ref C :: rest, []⟩) Q E ⟨h, g, d, t, os⟩ := by
 have FX := F.excBase_Exception
 repeat (first | with_reducible refine wpAny_loadPart_at hC ?_ | with_reducible refine wpAny_madeBy_exc hC ?_ | wp_step)
 refine codeAny_call_builtin_code (Code.quiet_builtin _ FX.quiet) (KE hC ?_)
 refine Mu hC ?_ hrest
 show wpAny _ _ _ _ _ _
 have hC₁ := UE { cls := .ref C, data := .fields #[.ref h.objs.size, .none, .none, .none, .bool false, .none] }
  (UE { cls := .type "tuple", data := .seq rest.toArray } hC)
 have hfI₁ := UE { cls := .ref C, data := .fields #[.ref h.objs.size, .none, .none, .none, .bool false, .none] }
  (UE { cls := .type "tuple", data := .seq rest.toArray } hfI)
 have hi₁ : Looks (model prog w) ((h.push { cls := .type "tuple", data := .seq rest.toArray }).push { cls := .ref C, data := .fields #[.ref h.objs.size, .none, .none, .none, .bool false, .none] }) (typeLookup (.ref C) "__init__") (some (.ref fI)) :=
  hi.keeps fun b o e => UE _ (UE _ e)
 have hget : ((h.push { cls := .type "tuple", data := .seq rest.toArray }).push
   { cls := .ref C, data := .fields #[.ref h.objs.size, .none, .none, .none, .bool false, .none] }).get? (h.objs.size + 1) = some
   { cls := .ref C, data := .fields #[.ref h.objs.size, .none, .none, .none, .bool false, .none] } := by heap_get
 have hcC : (Value.ref C :: .ref W :: F6).contains (.ref C) = true := by simp
 unfold isInstance
 repeat (first | with_reducible refine wpAny_loadPart_at hget ?_ | (with_reducible refine wpAny_isSubtype_exc hC₁ ?_; rw [hcC]) | wp_step)
 refine hi₁.at ?_
 refine UF (Tn ?_)
 unfold bindSpecial
 refine Tn (wpAny_typeOf (T := "function") (A4 _ hfI₁ hfc) ?_)
 rw [Tl (by decide)]
 refine Tr (Tn (To (hq _ (h.objs.size + 1) ⟨fun b o hb => UE _ (UE _ hb), UL (Nat.le_succ _), h.objs.size, hget, UL (Tv _), ?_⟩) (fun r s' hr => ?_) fun _ _ x => x))
 ·exact UE _ (Heap.get?_push_at rfl rfl)
 ·refine xA hr fun z0_ hQ => ?_; clear hr; obtain rfl := z0_
  wp_walk
  exact hQ
theorem Pl {rest : List Value} {fI : Addr} {oI : Obj} {Q : Value → Shared → Prop}
  (hC : h.get? C = some (excClassObj nm q C N bs (.ref W :: F6) true sn sub ab col dd k0 k1 k2 k3 k5 "Exception.__new__"))
  (hi : Looks (model prog w) h (typeLookup (.ref C) "__init__") (some (.ref fI))) (hfI : h.get? fI = some oI) (hfc : oI.cls = .type "function")
  (hq : ∀ h' e, Heap.MadeExcOf h h' e (.ref C) rest →
   wpAny (model prog w) (A.under (.builtin "type.__call__" ⟨.ref C :: rest, []⟩)) (call (.ref fI) (.ref e :: rest)) (fun r s' => r = .none ∧ Q (.ref e) s') E ⟨h', g, d, t, os⟩) (hrest : rest.length ≤ sizeLine) :
  wpAny (model prog w) A (call (.ref C) rest) Q E ⟨h, g, d, t, os⟩ := by
 have f1 := tc_lookup
 have f2 := tc_bind (.ref C)
 have hT : (⟨h, g, d, t, os⟩ : Shared).TypeIs (.ref C) "type" := (A4 _ hC rfl)
 refine wpAny_call (codeAny_of_tree ?_)
 show wpAny _ _ (callAny (.ref C) _) _ _ _
 repeat (any_goals (first | assumption | with_reducible refine wpAny_loadPart_at hC ?_ | wp_step))
 refine ⟨rfl, ?_⟩
 refine codeAny_call_builtin_at (Code.quiet_builtin _ (by decide +kernel)) entry_typeCall (wpAny_check_type_call_sub hC (Ko (mN := fun _ => none) hC hi hfI hfc (fun h' e hm => ?_) hrest))
 exact hq h' e hm
end
end Mine
set_option maxRecDepth 100000
open Builtin Builtin.ObjectAttr
namespace Mine
inductive XH (S : Addr → Prop) (h : Heap) (e C : Addr) (mA : Str → Option Value) (k : Nat) : Prop
 | mk (o : Obj) (t0 : Addr) (h1 : ¬ S e) (h2 : h.get? e = some o) (h3 : o.cls = .ref C) (h4 : o.data = .fields #[.ref t0, .none, .none, .none, .bool false, .none])
  (h5 : (o.dict = none ∧ ∀ n, mA n = none) ∨ ∃ d, o.dict = some d ∧ d ≠ e ∧ ¬ S d ∧ h.Ns1 d mA) (h6 : ∃ ns : List Str, PySem.Within mA ns ∧ ns.length ≤ k)
noncomputable def KeepS (S : Addr → Prop) (h h' : Heap) : Prop := ∀ b o, S b → h.get? b = some o → h'.get? b = some o
theorem KeepS.trans {S : Addr → Prop} {h h₁ h₂ : Heap} (x : KeepS S h h₁) (y : KeepS S h₁ h₂) : KeepS S h h₂ := fun b o s e => y b o s (x b o s e)
theorem KeepS.ns {S : Addr → Prop} {h h₁ : Heap} (x : KeepS S h h₁) {L : Addr} {m : Str → Option Value} (hS : S L) (n : h.Ns L m) : h₁.Ns L m := CB n fun o es ep e r => (K8 o es ep (x _ _ hS e) r)
variable {prog : Program} {w : World} {A : Around} {E : Value → Shared → Prop} {h : Heap} {g : Array GenState} {d : Drawn} {t : Nat} {os : OsState}
variable {C W fB fW e : Addr} {mA : Str → Option Value} {K : Frag} {S : Addr → Prop} {k : Nat}
theorem OJ {name : Str} {v : Value} {Q : Unit → Shared → Prop} (xk : XK K C W fB fW) (hK : K.In h) (hS : ∀ b, S b → h.get? b ≠ none) (hn : findIn K (.ref C) name = some none) (hx : XH S h e C mA k) (hk : k ≤ 100)
  (hq : ∀ h' tk', XH S h' e C (fun y => if y = name then some v else mA y) (k + 1) → KeepS S h h' → Q () ⟨h', g, d, tk', os⟩) : wpAny (model prog w) A (setAttr (.ref e) name v) Q E ⟨h, g, d, t, os⟩ := by
 obtain ⟨nm, q, N, bs, sn, sub, ab, col, dd, k0, k1, k2, k3, k5, hC⟩ := xk.cls
 obtain ⟨o, t0, h1, h2, h3, h4, h5, ns, h6, h7⟩ := hx
 have I : h.Inst e C mA := (Dj o h2 h3 (fun c => by (intro q; rw [h4] at q; cases q)) (h5.imp id fun z_ => FN z_ fun d a b c x => (B0 d a b x)))
 have h200 : 200 ≤ sizeLine := by rw [sizeLine_eq]; exact T6 _ _
 have hsz : ns.length ≤ sizeLine := by lia
 refine NB (hK _ _ hC) (looks_findIn hK xk.sa) (looks_findIn hK hn) I (fun h' tk' st => ?_) h6 hsz
 refine Ku st fun z0_ s2 s3 => ?_; clear st; refine FN z0_ fun o' i1 i2 i3 i4 => ?_; clear z0_
 refine Q3 (s3 o h2) fun o₁ j1 j2 j3 j4 j5 j6 => ?_
 rw [i1] at j1; cases j1
 refine hq h' tk' ⟨o', t0, h1, i1, i2, j3.trans h4, ?_, _, PySem.Within.cons name v h6, by simp; assumption⟩ fun b ob hb eb => s2 b ob (fun z => h1 (z ▸ hb)) (fun o₀ dx z1 z2 z3 => ?_) eb
 ·rcases i4 with i4 | ⟨dx, i5, i6, i7⟩
  ·exact .inl i4
  ·refine .inr (Dj dx i5 i6 ?_ i7)
   rcases h5 with ⟨hd, _⟩ | ⟨d0, hd, hne, hSd, _⟩
   ·refine BK (j6 hd) fun dy e1 e2 => ?_
    rw [i5] at e1; cases e1
    exact fun z => hS _ z e2
   ·have := j5 d0 hd
    rw [i5] at this; cases this; exact hSd
 ·rw [h2] at z1; cases z1
  rcases h5 with ⟨hd, _⟩ | ⟨d0, hd, hne, hSd, _⟩
  ·rw [hd] at z2; cases z2
  ·rw [hd] at z2; cases z2; subst z3; exact hSd hb
theorem Sq {rest : List Value} {Q : Value → Shared → Prop} (xk : XK K C W fB fW) (hK : K.In h) (hS : ∀ b, S b → h.get? b ≠ none) (hx : XH S h e C mA k) (hr : rest.length ≤ sizeLine)
  (hq : ∀ h', XH S h' e C mA k → KeepS S h h' → Q .none ⟨h', g, d, t, os⟩) : wpAny (model prog w) A (call (.builtin "Exception.__init__") (.ref e :: rest)) Q E ⟨h, g, d, t, os⟩ := by
 obtain ⟨nm, q, N, bs, sn, sub, ab, col, dd, k0, k1, k2, k3, k5, hC⟩ := xk.cls
 obtain ⟨o, t0, h1, h2, h3, h4, h5, h6⟩ := hx
 have hne : h.objs.size ≠ e := Nat.ne_of_gt (Heap.lt_size h2)
 have h2' := UE (h := h) { cls := .type "tuple", data := .seq rest.toArray } h2
 have hd₃ := Obj.data_mapFields h4 (·.setIfInBounds 0 (Value.ref h.objs.size))
 have hg := UV (Obj.mapFields (·.setIfInBounds 0 (Value.ref h.objs.size))) h2' (Obj.isFreed_of_fields hd₃)
 have other : ∀ b, b ≠ e → ∀ ob, h.get? b = some ob → ((h.push { cls := .type "tuple", data := .seq rest.toArray }).update e (Obj.mapFields (·.setIfInBounds 0 (Value.ref h.objs.size)))).get? b = some ob := fun b hb ob q =>
  (UW _ _ (Ne.symm hb)).trans (UE _ q)
 refine Py (hK _ _ hC) h2 h3 h4 (t0 := t0) rfl (by simp) hr (hq _ ⟨_, h.objs.size, h1, hg, (Obj.cls_mapFields ..).trans h3, hd₃, ?_, h6⟩ fun b ob hb q => other b (fun z => h1 (z ▸ hb)) ob q)
 rcases h5 with ⟨hd, hm⟩ | ⟨d0, hd, hne', hSd, hN⟩
 ·exact .inl ⟨(Obj.dict_mapFields ..).trans hd, hm⟩
 ·refine .inr (Dj d0 ((Obj.dict_mapFields ..).trans hd) hne' hSd ?_)
  refine CB hN fun od es ep hod r => ?_; clear hN
  exact (K8 od es ep (other d0 hne' od hod) r)
inductive FnW (H : Heap) (fW : Addr) : Prop
 | mk (o : Obj) (fd : FuncData) (h1 : H.get? fW = some o) (h2 : o.data = .func fd) (h3 : fd.scope.kind = .function) (h4 : fd.scope.isCoroutine = false) (h5 : fd.scope.isGenerator = false) (h6 : fd.closure = []) (h7 : fd.globals = mainGlobals) (h8 : fd.builtins = builtinsNs) (h9 : H.CodeRec fd.code fd.qualname)
  (h10 : ∀ x ∈ fd.scope.names, x.2 ≠ .cell) (h11 : fd.scope.names.lookup ("self" : Str) = some .local) (h12 : fd.scope.names.lookup ("why" : Str) = some .local) (h13 : fd.scope.names.lookup ("Exception" : Str) = some .globalImplicit)
  (h14 : ∀ a b, bindArgs fd ⟨[a, b], []⟩ = pure [(("self" : Str), a), (("why" : Str), b)]) (p1 p2 p3 p4 p5 p6 p7 p8 p9 p10 p11 p12 p13 p14 p15 : Pos) (kk : Nat) (h15 : (p2.endLine == p5.line) = true)
  (h16 : fd.body = .stmts [.Expr (.Call (.Attribute (.Name "Exception" p1) "__init__" p2) [.Name "self" p3, .Name "why" p4] [] p5) p6,
   .Assign [.Attribute (.Name "self" p7) "why" p8] (.Name "why" p9) p10, .Assign [.Attribute (.Name "self" p11) "at" p12] (.UnaryOp .USub (.Constant (.int 1) kk p13) p14) p15])
inductive FnB (prog : Program) (w : World) (H : Heap) (fB : Addr) : Prop
 | mk (o : Obj) (fd : FuncData) (h1 : H.get? fB = some o) (h2 : o.cls = .type "function") (h2' : o.data = .func fd) (h3 : fd.scope.kind = .function) (h4 : fd.scope.isCoroutine = false) (h5 : fd.scope.isGenerator = false) (h6 : fd.closure = []) (h7 : fd.globals = mainGlobals) (h8 : fd.builtins = builtinsNs) (h9 : H.CodeRec fd.code fd.qualname)
  (h10 : ∀ x ∈ fd.scope.names, x.2 ≠ .cell) (h11 : fd.scope.names.lookup ("self" : Str) = some .local) (h12 : fd.scope.names.lookup ("why" : Str) = some .local) (h13 : fd.scope.names.lookup ("row" : Str) = some .local) (h13' : fd.scope.names.lookup ("column" : Str) = some .local)
  (h13w : fd.scope.names.lookup ("WallFault" : Str) = some .globalImplicit)
  (h14 : ∀ (A : Around) (E : Value → Shared → Prop) (Q : List (Str × Value) → Shared → Prop) (s : Shared) a b c d, H.StaysIn s.heap → Q [(("self" : Str), a), (("why" : Str), b), (("row" : Str), c), (("column" : Str), d)] s → wpAny (model prog w) A (bindArgs fd ⟨[a, b, c, d], []⟩) Q E s)
  (p1 p2 p3 p4 p5 p6 p7 p8 p9 p10 p11 p12 p13 p14 : Pos) (h15 : (p2.endLine == p5.line) = true) (h16 : fd.body = .stmts [.Expr (.Call (.Attribute (.Name "WallFault" p1) "__init__" p2) [.Name "self" p3, .Name "why" p4] [] p5) p6,
   .Assign [.Attribute (.Name "self" p7) "row" p8] (.Name "row" p9) p10, .Assign [.Attribute (.Name "self" p11) "column" p12] (.Name "column" p13) p14])
structure XE (prog : Program) (w : World) (H : Heap) (mg mb : Str → Option Value) (K : Frag) (C W fB fW : Addr) : Prop where
 xk : XK K C W fB fW
 kin : K.In H
 gl : Gl H mg mb
 exc : mg "Exception" = none ∧ mb "Exception" = some (.type "Exception")
 wal : mg "WallFault" = some (.ref W)
 fnW : FnW H fW
 mth : findCls K (.ref W) (.type "type") "__init__" = some (.val (.ref fW))
 rds : readsIn K W (.type "type") = true
 spc : specialIn K (.ref W) "__getattribute__" = some (some (.builtin "type.__getattribute__"))
 emt : findCls K (.type "Exception") (.type "type") "__init__" = some (.val (.builtin "Exception.__init__"))
 fnB : FnB prog w H fB
theorem Mb {s : Shared} {Q : Value → Shared → Prop} {a : Addr} {o : Obj} {fd : FuncData} {body : List Stmt} {vals : List Value} {binds : List (Str × Value)} (hroom : A.depth < recursionLimit)
  (ho : s.heap.get? a = some o) (hdata : o.data = .func fd) (hlim : s.heap.NoLimit) (hcd : s.heap.CodeRec fd.code fd.qualname) (hbody : fd.body = .stmts body) (hclo : fd.closure = [])
  (hbind : ∀ (Q : List (Str × Value) → Shared → Prop) (E : Value → Shared → Prop), Q binds s → wpAny (model prog w) A.in1 (bindArgs fd ⟨vals, []⟩) Q E s)
  (hco : fd.scope.isCoroutine = false) (hgen : fd.scope.isGenerator = false) (hk : fd.scope.kind = .function) (hcell : ∀ x ∈ fd.scope.names, x.2 ≠ .cell) (hl : ∀ x ∈ binds, fd.scope.names.lookup x.1 = some .local)
  (h : ∀ env h', env.scope = fd.scope → env.globals = fd.globals → env.builtins = fd.builtins → s.heap.get? env.locals = none → h'.Ns env.locals (fun x => binds.reverse.lookup x) → (∀ b o, s.heap.get? b = some o → h'.get? b = some o) → ∀ tk,
   wpAny (model prog w) (A.deeper env) (execs body env) (fun f s' => Q (match f with | .ret v => v | _ => .none) s') (fun _ _ => False) { s with heap := h', toks := tk }) :
  wpAny (model prog w) A (call (.ref a) vals) Q E s := by
 refine wpAny_call (codeAny_call_function hroom ho hdata hco hgen hbody hcd (hbind _ _ ?_))
 rw [hclo]
 refine wpAny_newFunctionEnv hcell hl (fun h' hn hs => ?_) hk
 have hk' : ∀ b ob, s.heap.get? b = some ob → h'.get? b = some ob := fun b ob e => hs.extBut b ob (Nat.ne_of_lt (Heap.lt_size e)) (UE _ e)
 refine ⟨hlim.keeps hk', codeAny_func ?_⟩
 refine To (h _ h' rfl rfl rfl (A0 _) hn hk' _) (fun _ _ y => y) fun _ _ f => f.elim
end Mine
set_option maxRecDepth 100000
open Builtin Builtin.ObjectAttr
namespace Mine
variable {prog : Program} {w : World} {A : Around} {E : Value → Shared → Prop} {h h' : Heap}
variable {C W fB fW e L : Addr} {mA : Str → Option Value} {K : Frag} {S S' : Addr → Prop} {k : Nat} {H : Heap} {mg mb : Str → Option Value}
theorem XH.more (x : XH S h e C mA k) (hL : h.get? L = none) (hk : ∀ b o, h.get? b = some o → h'.get? b = some o) : XH (fun b => S b ∨ b = L) h' e C mA k := by
 obtain ⟨o, t0, h1, h2, h3, h4, h5, h6⟩ := x
 refine ⟨o, t0, fun z => z.elim h1 fun q => ?_, hk _ _ h2, h3, h4, h5.imp id ?_, h6⟩
 ·rw [q, hL] at h2; cases h2
 ·intro y1_; obtain ⟨d, a, b, c, od, es, ep, y, r⟩ := y1_
  exact ⟨d, a, b, fun z => z.elim c fun q => by (rw [q, hL] at y; cases y), od, es, ep, hk _ _ y, r⟩
theorem XH.less (x : XH S' h e C mA k) (hS : ∀ b, S b → S' b) : XH S h e C mA k := by
 obtain ⟨o, t0, h1, h2, h3, h4, h5, h6⟩ := x
 exact ⟨o, t0, fun z => h1 (hS _ z), h2, h3, h4, h5.imp id fun z_ => FN z_ fun d a b c y => (Dj d a b (fun z => c (hS _ z)) y), h6⟩
theorem KeepS.less (x : KeepS S' h h') (hS : ∀ b, S b → S' b) : KeepS S h h' := fun b o s e => x b o (hS _ s) e
theorem K2 (hS : ∀ b, S b → h.get? b ≠ none) (hL : h'.get? L ≠ none) (hk : ∀ b o, h.get? b = some o → h'.get? b = some o) : ∀ b, S b ∨ b = L → h'.get? b ≠ none := by
 rintro b (z | rfl)
 ·cases q : h.get? b with
  | none => exact absurd q (hS b z)
  | some o => rw [hk b o q]; simp
 ·exact hL
theorem KeepS.live (x : KeepS S h h') (hS : ∀ b, S b → h.get? b ≠ none) : ∀ b, S b → h'.get? b ≠ none := fun b z => by
 cases q : h.get? b with
 | none => exact absurd q (hS b z)
 | some o => rw [x b o z q]; simp
theorem ld {M : Model} {env : Env} {s : Shared} {m : Str → Option Value} {x : Str} {v : Value} {pos : Pos} {Q : Value → Shared → Prop} (hk : env.scope.kind = .function) (hl : env.scope.names.lookup x = some .local) (hn : s.heap.Ns env.locals m) (hv : m x = some v) (h : Q v s)
  (hd : autoParam ((x == ("__debug__" : Str)) = false) tA) : wpAny M A (eval (.Name x pos) env) Q E s := wpAny_Name (wpAny_loadName_local hk hl hn hv h) hd
theorem ldg {M : Model} {env : Env} {s : Shared} {x : Str} {v : Value} {pos : Pos} {Q : Value → Shared → Prop} (hk : env.scope.kind = .function) (hl : env.scope.names.lookup x = some .globalImplicit) (hg : env.globals = mainGlobals) (hb : env.builtins = builtinsNs)
  (G : Gl s.heap mg mb) (hv : FK mg mb x v) (h : Q v s) (hd : autoParam ((x == ("__debug__" : Str)) = false) tA) : wpAny M A (eval (.Name x pos) env) Q E s := by
 refine Calls.Name_function_global hk hl ?_ hd
 rcases hv with hv | ⟨h1, h2⟩
 ·exact Calls.loadGlobal_global (by rw [hg]; exact G.g) hv h
 ·exact Calls.loadGlobal_builtin (by rw [hg]; exact G.g) h1 (by rw [hb]; exact G.b) h2 h
theorem Gl.keeps (G : Gl H mg mb) (hk : ∀ b o, H.get? b = some o → h.get? b = some o) : Gl h mg mb := ⟨G.g.keeps hk, G.b.keeps hk, G.lim.keeps hk⟩
theorem NN {s : Shared} {pl : Sem Bool} {Q : Value × List Value → Shared → Prop} (X : K.In s.heap)
  (e : findCls K (.type "Exception") (.type "type") "__init__" = some (.val (.builtin "Exception.__init__"))) (h : Q (.builtin "Exception.__init__", []) { s with toks := s.toks + 1 }) : wpAny (model prog w) A (getMethod (.type "Exception") "__init__" pl) Q E s := by
 have hstub : opaqueClassAbove (.type "Exception") = pure none := by unfold opaqueClassAbove; dsimp only; rw [show Manifest.isStub "Exception" = false by decide +kernel]; rfl
 have ht : typeOf (.type "Exception") = pure (.type "type") := by first | rfl | kernel_rfl
 have L0 : Looks (model prog w) s.heap (typeOf (.type "Exception")) (.type "type") := Looks.of_pure ht
 have hg : findIn K (.type "type") "__getattribute__" = some (some (.builtin "type.__getattribute__")) := type_tga
 unfold getMethod specialOf
 refine Tn (Tn (L0.here ((looks_findIn X hg).here ?_)))
 dsimp only
 rw [Tl canon_tga]
 refine Tn (To (Q := fun v => Q (v, [])) (E := E) ?_ (fun _ _ z => Tr z) fun _ _ z => z)
 have LO : Looks (model prog w) s.heap (opaqueClassAbove (.type "Exception")) none := Looks.of_pure hstub
 refine cls_open X LO L0 hg (looks_hook X (r := none) (by rfl)) (by show subIn K _ _ = _; rfl) e
  (Tr (by show wpAny _ _ (handedOut _) _ _ _; rw [handedOut_of (by rfl)]; exact Tr h))
theorem HG {M : Model} {env : Env} {s : Shared} {o : Expr} {name : Str} {apos pos : Pos} {args : List Expr} {Q : Value → Shared → Prop} (hbase : attributeBase o name env (eval o env) = eval o env)
  (hform : methodCallForm (args.length + ([] : List Keyword).length) (backTo pos (starEach args env)) (backToKw pos (keywordEach [] env)) = true) (hline : (apos.endLine == pos.line) = true)
  (h : wpAny M A (eval o env) (fun ov s₁ => wpAny M A (calleeOf true o env ov name) (fun fx s₂ => wpAny M A (callWith pos fx.1 fx.2 (backTo pos (starEach args env)) (backToKw pos (keywordEach [] env))) Q E s₂) E s₁) E s) :
  wpAny M A (eval (.Call (.Attribute o name apos) args [] pos) env) Q E s := by
 rw [arm_eval_Call, hbase]
 refine Tn (To h (fun ov s₁ h₁ => ?_) fun _ _ e => e)
 refine Tn (UA ?_)
 have hpos : methodCallPos true o env apos pos = pure pos := by unfold methodCallPos; simp [hline]
 unfold methodCall
 rw [hform]
 refine Tn (UF (To h₁ (fun fx s₂ h₂ => ?_) fun _ _ e => e))
 exact Tn (wpAny_of_eq hpos h₂)
noncomputable def upd (m : Str → Option Value) (n : Str) (v : Value) : Str → Option Value := fun y => if y = n then some v else m y
theorem Q5 {s : Shared} {v : Value} {Q : Value → Shared → Prop} (xe : XE prog w H mg mb K C W fB fW) (hb : H.StaysIn s.heap) (hS : ∀ b, S b → s.heap.get? b ≠ none) (hSH : ∀ b, H.get? b ≠ none → S b) (hx : XH S s.heap e C mA k) (hk : k ≤ 50) (hA : A.depth < recursionLimit)
  (hq : ∀ h' tk u, XH S h' e C (upd (upd mA "why" v) "at" (.int (-1) u)) (k + 2) → KeepS S s.heap h' → Q .none { s with heap := h', toks := tk }) : wpAny (model prog w) A (call (.ref fW) [.ref e, v]) Q E s := by
 obtain ⟨o, fd, ho, hd, hki, hco, hge, hcl, hgb, hbu, hcd, hce, n1, n2, n3, hbi, p1, p2, p3, p4, p5, p6, p7, p8, p9, p10, p11, p12, p13, p14, p15, kk, hln, hbody⟩ := xe.fnW
 refine Mb hA (hb _ _ ho) hd (xe.gl.lim.keeps hb) (hcd.keeps hb) hbody hcl (fun Q E z => by rw [hbi]; exact Tr z) hco hge hki hce (by simp [n1, n2]) fun env h₁ hs hg hbt hLn hns hk₁ tk₁ => ?_
 have hfk : env.scope.kind = .function := by rw [hs]; exact hki
 have hx₁ := hx.more hLn hk₁
 have hLl : h₁.get? env.locals ≠ none := by refine CB hns fun o _ _ e _ => ?_; clear hns; rw [e]; simp
 have hS₁ := K2 hS hLl hk₁
 have hK₁ : KeepS S s.heap h₁ := fun b o _ e => hk₁ b o e
 have hb₁ : H.StaysIn h₁ := fun b o e => hk₁ b o (hb b o e)
 have hm1 : (fun x => [(("self" : Str), Value.ref e), (("why" : Str), v)].reverse.lookup x) "self" = some (.ref e) := by rfl
 have hm2 : (fun x => [(("self" : Str), Value.ref e), (("why" : Str), v)].reverse.lookup x) "why" = some v := by rfl
 generalize hmm : (fun x => [(("self" : Str), Value.ref e), (("why" : Str), v)].reverse.lookup x) = mm at hns hm1 hm2
 have hi : interactive env = false := by unfold interactive; rw [hfk]; rfl
 refine wpAny_execs_cons (wpAny_Expr ?_ hi (by rfl))
 refine HG (by rfl) (by rfl) hln ?_
 refine ldg hfk (by rw [hs]; exact n3) (hg.trans hgb) (hbt.trans hbu) (xe.gl.keeps hb₁) (.inr xe.exc) ?_
 refine NN (xe.kin.keeps hb₁) xe.emt ?_
 refine callWith_builtin1 (rest := [.Name "why" p4]) ?_ (by rfl) (by rfl)
 refine Calls.spliced_cons (ld hfk (by rw [hs]; exact n1) hns hm1 ?_)
 refine Calls.spliced_cons (ld hfk (by rw [hs]; exact n2) hns hm2 ?_)
 refine Calls.spliced_nil ?_
 refine Sq (h := h₁) xe.xk (xe.kin.keeps hb₁) hS₁ hx₁ (by rw [sizeLine_eq]; simp) fun h₂ hx₂ hK₂ => ?_
 have hb₂ : H.StaysIn h₂ := fun b o e => hK₂ b o (.inl (hSH b (by rw [e]; simp))) (hb₁ b o e)
 have hns₂ := hK₂.ns (.inr rfl) hns
 show wpAny _ _ (execs _ env) _ _ _
 refine wpAny_execs_cons (plainObj_wpAny_Assign_Attribute ?_ (by rfl))
 refine ld hfk (by rw [hs]; exact n2) hns₂ hm2 ?_
 refine ld hfk (by rw [hs]; exact n1) hns₂ hm1 ?_
 refine OJ (h := h₂) xe.xk (xe.kin.keeps hb₂) (hK₂.live hS₁) xe.xk.why hx₂ (by lia) fun h₃ tk₃ hx₃ hK₃ => ?_
 have hb₃ : H.StaysIn h₃ := fun b o e => hK₃ b o (.inl (hSH b (by rw [e]; simp))) (hb₂ b o e)
 have hns₃ := hK₃.ns (.inr rfl) hns₂
 show wpAny _ _ (execs _ env) _ _ _
 refine wpAny_execs_cons (plainObj_wpAny_Assign_Attribute ?_ (by rfl))
 rw [arm_eval_UnaryOp]
 refine Tn (wpAny_mkInt (Tn (UA (UF (neg_int ?_)))))
 refine ld hfk (by rw [hs]; exact n1) hns₃ hm1 ?_
 refine OJ (h := h₃) xe.xk (xe.kin.keeps hb₃) ((hK₂.trans hK₃).live hS₁) xe.xk.at_ hx₃ (by lia) fun h₄ tk₄ hx₄ hK₄ => ?_
 refine wpAny_execs_nil ?_
 exact hq h₄ _ _ (hx₄.less fun b z => .inl z) (hK₁.trans (((hK₂.trans hK₃).trans hK₄).less fun b z => .inl z))
end Mine
set_option maxRecDepth 100000
open Builtin Builtin.ObjectAttr
namespace Mine
variable {prog : Program} {w : World} {A : Around} {E : Value → Shared → Prop} {h h' : Heap}
variable {C W fB fW e L : Addr} {mA : Str → Option Value} {K : Frag} {S S' : Addr → Prop} {k : Nat} {H : Heap} {mg mb : Str → Option Value}
theorem Q4 {s : Shared} {v r c : Value} {Q : Value → Shared → Prop} (xe : XE prog w H mg mb K C W fB fW) (hb : H.StaysIn s.heap) (hS : ∀ b, S b → s.heap.get? b ≠ none) (hSH : ∀ b, H.get? b ≠ none → S b) (hx : XH S s.heap e C mA k) (hk : k ≤ 20) (hA : A.depth + 1 < recursionLimit)
  (hq : ∀ h' tk u, XH S h' e C (upd (upd (upd (upd mA "why" v) "at" (.int (-1) u)) "row" r) "column" c) (k + 4) → KeepS S s.heap h' → Q .none { s with heap := h', toks := tk }) : wpAny (model prog w) A (call (.ref fB) [.ref e, v, r, c]) Q E s := by
 obtain ⟨o, fd, ho, hcls, hd, hki, hco, hge, hcl, hgb, hbu, hcd, hce, n1, n2, n3, n4, n5, hbi, p1, p2, p3, p4, p5, p6, p7, p8, p9, p10, p11, p12, p13, p14, hln, hbody⟩ := xe.fnB
 refine Mb (by exact Nat.lt_of_le_of_lt (T3 _ _) (by assumption)) (hb _ _ ho) hd (xe.gl.lim.keeps hb) (hcd.keeps hb) hbody hcl (fun Q E z => hbi _ _ _ _ _ _ _ _ hb z) hco hge hki hce (by simp [n1, n2, n3, n4]) fun env h₁ hs hg hbt hLn hns hk₁ tk₁ => ?_
 have hfk : env.scope.kind = .function := by rw [hs]; exact hki
 have hx₁ := hx.more hLn hk₁
 have hLl : h₁.get? env.locals ≠ none := by refine CB hns fun o _ _ e _ => ?_; clear hns; rw [e]; simp
 have hS₁ := K2 hS hLl hk₁
 have hK₁ : KeepS S s.heap h₁ := fun b o _ e => hk₁ b o e
 have hb₁ : H.StaysIn h₁ := fun b o e => hk₁ b o (hb b o e)
 have hm1 : (fun x => [(("self" : Str), Value.ref e), (("why" : Str), v), (("row" : Str), r), (("column" : Str), c)].reverse.lookup x) "self" = some (.ref e) := by rfl
 have hm2 : (fun x => [(("self" : Str), Value.ref e), (("why" : Str), v), (("row" : Str), r), (("column" : Str), c)].reverse.lookup x) "why" = some v := by rfl
 have hm3 : (fun x => [(("self" : Str), Value.ref e), (("why" : Str), v), (("row" : Str), r), (("column" : Str), c)].reverse.lookup x) "row" = some r := by rfl
 have hm4 : (fun x => [(("self" : Str), Value.ref e), (("why" : Str), v), (("row" : Str), r), (("column" : Str), c)].reverse.lookup x) "column" = some c := by rfl
 generalize hmm : (fun x => [(("self" : Str), Value.ref e), (("why" : Str), v), (("row" : Str), r), (("column" : Str), c)].reverse.lookup x) = mm at hns hm1 hm2 hm3 hm4
 have hi : interactive env = false := by unfold interactive; rw [hfk]; rfl
 refine wpAny_execs_cons (wpAny_Expr ?_ hi (by rfl))
 refine HG (by rfl) (by rfl) hln ?_
 refine ldg hfk (by rw [hs]; exact n5) (hg.trans hgb) (hbt.trans hbu) (xe.gl.keeps hb₁) (.inl xe.wal) ?_
 have hKin : K.In h₁ := xe.kin.keeps hb₁
 refine method_cls (s := { s with heap := h₁, toks := tk₁ }) hKin xe.spc (cls_value (s := { s with heap := h₁, toks := tk₁ }) hKin xe.rds xe.mth (by rfl) ?_)
 obtain ⟨oW, fdW, hoW, hdW, _⟩ := xe.fnW
 refine callWith_def (rest := [.Name "why" p4]) hdW ?_ (by rfl)
 refine Calls.spliced_cons (ld hfk (by rw [hs]; exact n1) hns hm1 ?_)
 refine Calls.spliced_cons (ld hfk (by rw [hs]; exact n2) hns hm2 ?_)
 refine Calls.spliced_nil ?_
 refine ⟨hb₁ _ _ hoW, ?_⟩
 refine Q5 xe hb₁ hS₁ (fun b z => .inl (hSH b z)) hx₁ (by lia) (by show A.depth + 1 < _; exact hA) fun h₂ tk₂ u hx₂ hK₂ => ?_
 have hb₂ : H.StaysIn h₂ := fun b o e => hK₂ b o (.inl (hSH b (by rw [e]; simp))) (hb₁ b o e)
 have hns₂ := hK₂.ns (.inr rfl) hns
 show wpAny _ _ (execs _ env) _ _ _
 refine wpAny_execs_cons (plainObj_wpAny_Assign_Attribute ?_ (by rfl))
 refine ld hfk (by rw [hs]; exact n3) hns₂ hm3 ?_
 refine ld hfk (by rw [hs]; exact n1) hns₂ hm1 ?_
 refine OJ (h := h₂) xe.xk (xe.kin.keeps hb₂) (hK₂.live hS₁) xe.xk.row hx₂ (by lia) fun h₃ tk₃ hx₃ hK₃ => ?_
 have hb₃ : H.StaysIn h₃ := fun b o e => hK₃ b o (.inl (hSH b (by rw [e]; simp))) (hb₂ b o e)
 have hns₃ := hK₃.ns (.inr rfl) hns₂
 show wpAny _ _ (execs _ env) _ _ _
 refine wpAny_execs_cons (plainObj_wpAny_Assign_Attribute ?_ (by rfl))
 refine ld hfk (by rw [hs]; exact n4) hns₃ hm4 ?_
 refine ld hfk (by rw [hs]; exact n1) hns₃ hm1 ?_
 refine OJ (h := h₃) xe.xk (xe.kin.keeps hb₃) ((hK₂.trans hK₃).live hS₁) xe.xk.column hx₃ (by lia) fun h₄ tk₄ hx₄ hK₄ => ?_
 refine wpAny_execs_nil ?_
 exact hq h₄ _ u (hx₄.less fun b z => .inl z) (hK₁.trans (((hK₂.trans hK₃).trans hK₄).less fun b z => .inl z))
theorem R9 {q : Bool} {F : List Addr} {s : Shared} {x : Str} {r c : Int} {t1 t2 t3 : Tok} {n : Nat} (xe : XE prog w H mg mb K C W fB fW) (hb : H.StaysIn s.heap) (hA : AOk A (n + 3)) :
  wpAny (model prog w) A (call (.ref C) [.str x t1, .int r t2, .int c t3]) (fun v s' => XR C s.heap s'.heap v (x, r, c) ∧ Go q F No s s') E s := by
 obtain ⟨nm, q', N, bs, sn, sub, ab, col, dd, k0, k1, k2, k3, k5, hC⟩ := xe.xk.cls
 have hKin : K.In s.heap := xe.kin.keeps hb
 obtain ⟨oB, fdB, hoB, hcB, _⟩ := xe.fnB
 refine Pl (hKin _ _ hC) (looks_findIn hKin xe.xk.init) (hb _ _ hoB) hcB (fun h₁ e hm => ?_) (by rw [sizeLine_eq]; simp)
 obtain ⟨hk, hnew, t0, hget, _, _⟩ := hm
 have hd := hA.dep
 refine To (Q := fun rv s' => rv = .none ∧ (XR C s.heap s'.heap (.ref e) (x, r, c) ∧ Go q F No s s')) (E := E) ?_ (fun _ _ y => y) fun _ _ y => y
 refine Q4 (S := fun b => s.heap.get? b ≠ none) (k := 0) (mA := fun _ => none) xe (fun b o z => hk b o (hb b o z)) (fun b hb' => ?_) (fun b z => ?_) ⟨_, t0, fun z => z hnew, hget, rfl, rfl, .inl ⟨rfl, fun _ => rfl⟩, [], PySem.Within.nil, by simp⟩ (by exact UG _) ?_ fun h' tk u hx hK => ?_
 ·cases q : s.heap.get? b with
  | none => exact absurd q hb'
  | some o => show h₁.get? b ≠ none; rw [hk b o q]; simp
 ·cases q : H.get? b with
  | none => exact absurd q z
  | some o => rw [hb b o q]; simp
 ·show A.depth + _ + 1 < recursionLimit
  have : (Code.builtin "type.__call__" ⟨[.ref C, .str x t1, .int r t2, .int c t3], []⟩).weight = 1 := by rfl
  lia
 ·refine ⟨rfl, ?_, Mv.of_keeps fun b o z => hK b o (by show s.heap.get? b ≠ none; rw [z]; simp) (hk b o z), rfl, rfl, rfl⟩
  obtain ⟨o, t0, h1, h2, h3, h4, h5, _⟩ := hx
  rcases h5 with ⟨_, h5⟩ | ⟨d, h5, h6, h7, h8⟩
  ·skip
   exact absurd (h5 "column") (by rw [show upd (upd (upd (upd (fun _ => none) "why" (.str x t1)) "at" (.int (-1) u)) "row" (.int r t2)) "column" (.int c t3) "column" = some (.int c t3) from Tl rfl]; simp)
  ·refine De h8 fun od es ep e1 e2 e3 e4 e5 => ?_; clear h8
   refine ⟨e, o, _, d, _, .none, t1, t2, t3, rfl, hnew, h2, h3, h5, ?_, h6, h4, rfl, (HA od es ep e1 e2 e3 e5), ?_, ?_, ?_, .inl rfl⟩
   ·exact Decidable.byContradiction fun z => h7 z
   ·rfl
   ·rfl
   ·rfl
end Mine
set_option maxRecDepth 100000
namespace Mine
variable {prog : Program} {w : World} {H : Heap} {C W fB fW : Addr} {K : Frag} {mg mb : Str → Option Value}
noncomputable def SX (prog : Program) (w : World) (H : Heap) (C : Addr) (n : Nat) (q : Bool) (names : List Str) (sc : Scope) (e : Expr) (f : Loc → Res Dr) : Prop :=
 ∀ ⦃A : Around⦄ ⦃env : Env⦄ ⦃fs : List Env⦄ ⦃N Z : Addr → Prop⦄ ⦃μ : List Addr⦄ ⦃l : Loc⦄ ⦃m cm : Str → Option Value⦄ ⦃s : Shared⦄,
  Cx prog w H n names sc A env fs N Z μ l m cm s → Sat (model prog w) A (eval e env) (f l) (fun x v s' => XR C s.heap s'.heap v x ∧ Go q (FA fs) No s s') (exE C (FA fs) s) s
section
variable {n : Nat} {q : Bool} {names : List Str} {sc : Scope}
noncomputable def EN : List D → Res Dr
 | [.str x, .int r, .int c] => .ok (x, r, c)
 | _ => .fail
theorem QK {P : Addr → Prop} {h : Heap} {vs : List Value} {ds : List D} {x : Dr} (r : RDs P h vs ds) (e : EN ds = .ok x) : ∃ t1 t2 t3, vs = [.str x.1 t1, .int x.2.1 t2, .int x.2.2 t3] := by
 unfold EN at e
 split at e
 ·cases e
  obtain ⟨v1, vs, rfl⟩ : ∃ a b, vs = a :: b := by cases r; exact (N7 _ _ rfl)
  refine xA r.head fun r1 r => ?_
  refine GB (Lo r) fun v2 v3 z2_ r2 r3 => ?_; obtain rfl := z2_
  refine xE r1.str_inv fun t1 z1_ => ?_; obtain rfl := z1_
  refine xE r2.int_inv fun t2 z1_ => ?_; obtain rfl := z1_
  refine xE r3.int_inv fun t3 z1_ => ?_; obtain rfl := z1_
  exact (Ht _ _ _ rfl)
 ·cases e
theorem LW {A : Around} {env : Env} {E : Value → Shared → Prop} {s : Shared} {pos : Pos} {e : Expr} {rest : List Expr} {Q : Value → Shared → Prop}
  {nm q : Str} {N : Addr} {bs bm : List Value} {hdct : Bool} {sn : List Str} {sub : List Value} {ab : Bool} {col : Option Bool} {dd : Option Addr} {k0 k1 k2 k3 k5 : Option Value} {newId : String}
  (h : wpAny (model prog w) A (spliced (backTo pos (starEach (e :: rest) env))) (fun vs s₁ => s₁.heap.get? C = some (excClassObj nm q C N bs bm hdct sn sub ab col dd k0 k1 k2 k3 k5 newId) ∧ wpAny (model prog w) A (call (.ref C) vs) Q E s₁) E s)
  (he : starEach (e :: rest) env = (false, eval e env) :: starEach rest env) (hplain : (backTo pos (starEach rest env)).any (·.1) = false) :
  wpAny (model prog w) A (callWith pos (.ref C) [] (backTo pos (starEach (e :: rest) env)) []) Q E s := by
 have hp : (backTo pos (starEach (e :: rest) env)).any (·.1) = false := by rw [he]; show (false || (backTo pos (starEach rest env)).any (·.1)) = false; rw [hplain]; rfl
 have h' : wpAny (model prog w) A (evalArgs (.ref C) true (backTo pos (starEach (e :: rest) env)) []) (fun a s₁ => a.kw = [] ∧ s₁.heap.get? C = some (excClassObj nm q C N bs bm hdct sn sub ab col dd k0 k1 k2 k3 k5 newId) ∧ wpAny (model prog w) A (call (.ref C) a.pos) Q E s₁) E s := by
  rw [he] at h ⊢
  exact Calls.evalArgs_plain (To h (fun vs s₁ y => ⟨rfl, y⟩) fun _ _ y => y)
 unfold callWith
 refine Tn (UF (To h' (fun a s₁ h₁ => Tn (UA ?_)) fun _ _ x => x))
 obtain ⟨apos, akw⟩ := a
 refine Ku h₁ fun hkw hC h₁ => ?_
 obtain rfl : akw = [] := hkw
 obtain ⟨hh, g, d, tk, os⟩ := s₁
 rewrite [hp]
 refine Tn (wpAny_keeperOf_exc hC ?_)
 exact Tn (To h₁ (fun r s₂ hr => Tn (UF (wpAny_point (Tr hr)))) fun _ _ y => y)
theorem F3 (xe : XE prog w H mg mb K C W fB fW) {cn : Str} (hcn : mg cn = some (.ref C)) {e : Expr} {rest : List Expr} {g : Loc → Res (List D)} {p pos : Pos} (hk : sc.names.lookup cn = some .globalImplicit)
  (h : QB prog w H C (n + 3) q names sc (e :: rest) g)
  (he : autoParam (∀ env, starEach (e :: rest) env = (false, eval e env) :: starEach rest env) tA) (hplain : autoParam (∀ env, (backTo pos (starEach rest env)).any (·.1) = false) tA) (hd : autoParam ((cn == ("__debug__" : Str)) = false) tA) :
  SX prog w H C (n + 3) q names sc (.Call (.Name cn p) (e :: rest) [] pos) fun l => (g l).bind EN := fun {A env fs N Z μ l m cm s} cx => by
 obtain ⟨nm, q', N', bs, sn, sub, ab, col, dd, k0, k1, k2, k3, k5, hC⟩ := xe.xk.cls
 refine Sat.nest (k := fun vs => call (.ref C) vs) (S := fun vs s₁ => s₁.heap.get? C = some (excClassObj nm q' C N' bs (.ref W :: F6) true sn sub ab col dd k0 k1 k2 k3 k5 "Exception.__new__")) ?_ (h pos cx) (fun ds vs s₁ _ h₁ => (cx.go h₁.2).inv.base _ _ (xe.kin _ _ hC)) (fun ds vs s₁ _ h₁ => ?_) fun _ _ _ h => h
 ·intro Q E hh
  refine Call_Name rfl (BZ xe.gl (.inl hcn) hk cx ?_ hd)
  exact LW (To hh (fun _ _ y => y) fun _ _ y => y) (he env) (hplain env)
 ·cases hx : EN ds with
  | fail => trivial
  | exc y =>
   exfalso; unfold EN at hx; split at hx <;> cases hx
  | ok x =>
   refine S0 (QK h₁.1 hx) fun t1 t2 t3 z3_ => ?_; obtain rfl := z3_
   exact To (R9 xe (cx.go h₁.2).inv.base cx.a) (fun v s₂ y => ⟨y.1.less fun a z => h₁.2.mv.dead a z, h₁.2.trans0 y.2⟩) fun _ _ f => f
theorem O9 {q : Bool} {F : List Addr} {M : Model} {A : Around} {E : Value → Shared → Prop} {s : Shared} {z : Heap} {e : Value} {x : Dr} {fr : Option Addr} (hx : XR C z s.heap e x) :
  wpAny M A (setFlight e fr) (fun _ s' => XR C z s'.heap e x ∧ Go q F (fun a => z.get? a = none) s s') E s := by
 obtain ⟨a, o, vs, d, md, tb, t1, t2, t3, rfl, e2, e3, e4, e5, e6, e7, e8, e9, e10, e11, e12, e13, e14⟩ := hx
 rcases e14 with rfl | ⟨T, oT, ts, fl, rfl, f⟩
 ·unfold setFlight
  refine Tn (wpAny_field e3 e8 e9 ?_)
  rw [Tm (by decide)]
  exact Tr ⟨⟨a, o, vs, d, md, .none, t1, t2, t3, rfl, e2, e3, e4, e5, e6, e7, e8, e9, e10, e11, e12, e13, .inl rfl⟩, .refl ..⟩
 ·exact To (FU ⟨a, o, vs, d, md, T, oT, ts, fl, t1, t2, t3, rfl, e2, e3, e4, e5, e6, e7, e8, e9, e10, e11, e12, e13, f.1, f.2.1, f.2.2.1, f.2.2.2.1, f.2.2.2.2⟩) (fun _ _ y => ⟨y.1.xr, y.2⟩) fun _ _ y => y
theorem C9 (xe : XE prog w H mg mb K C W fB fW) {e : Expr} {f : Loc → Res Dr} {pos : Pos} (h : SX prog w H C n q names sc e f) : SS prog w H C n q names sc (.Raise (some e) none pos) fun l => (f l).bind fun x => .exc x := fun {A env fs N Z μ l m cm s} cx fo => by
 obtain ⟨nm, q', N', bs, sn, sub, ab, col, dd, k0, k1, k2, k3, k5, hC⟩ := xe.xk.cls
 rw [arm_exec_Raise]
 refine Sat.standAt ?_
 show Sat _ A (raiseStmt env (some (do let v ← eval e env; standAt pos; pure v)) none) _ _ _ s
 have h0 := h cx
 unfold raiseStmt
 dsimp only
 cases hf : f l with
 | fail => trivial
 | exc x =>
  rw [hf] at h0
  refine Tn (Tn (To h0 (fun _ _ f => f.elim) fun e s' y => exE.toS cx y))
 | ok x =>
  rw [hf] at h0
  refine Tn (Tn (To h0 (fun v s₁ h₁ => Tn (UA (Tr ?_))) fun _ _ f => f.elim))
  refine xA h₁ fun hx g₁ => ?_; clear h₁
  have hC₁ := (cx.go g₁).inv.base _ _ (xe.kin _ _ hC)
  have hx' := hx
  obtain ⟨a, o, vs, d, md, tb, t1, t2, t3, rfl, e2, e3, e4, e5, e6, e7, e8, _⟩ := hx
  have hnt : ∀ {Q' : Bool → Shared → Prop}, Q' false s₁ → wpAny (model prog w) A (isType (.ref a)) Q' (exS C fs env μ l s x) s₁ := by
   intro Q' hq
   simp only [isType, loadHead]
   refine Tn (wpAny_loadPart e3 ?_)
   rw [e8]; exact Tr hq
  refine Tn (Tr ?_)
  dsimp only
  refine Tn (UF ?_)
  unfold excFromValue isExcClass
  refine Tn (Tn (hnt ?_))
  simp only [Bool.false_eq_true, if_false]
  refine Tr ?_
  simp only [Bool.false_eq_true, if_false]
  obtain ⟨hh, g, dr, tk, os⟩ := s₁
  have hty : ∀ {Q' : Value → Shared → Prop} {E' : Value → Shared → Prop}, Q' (.ref C) ⟨hh, g, dr, tk, os⟩ → wpAny (model prog w) A (typeOf (.ref a)) Q' E' ⟨hh, g, dr, tk, os⟩ := fun q => by
   show wpAny _ A (loadPart a _ >>= fun o => pure o.cls) _ _ _
   exact Tn (wpAny_loadPart_at e3 (Tr (by rw [e4]; exact q)))
  have htc : ∀ {Q' : Value → Shared → Prop} {E' : Value → Shared → Prop}, Q' (.type "type") ⟨hh, g, dr, tk, os⟩ → wpAny (model prog w) A (typeOf (.ref C)) Q' E' ⟨hh, g, dr, tk, os⟩ := fun q => by
   show wpAny _ A (loadPart C _ >>= fun o => pure o.cls) _ _ _
   exact Tn (wpAny_loadPart_at hC₁ (Tr q))
  have hcB : (Value.ref C :: .ref W :: F6).contains (.type "BaseException") = true := by simp [F6]
  unfold isInstance
  refine Tn (Tn (hty ?_))
  refine wpAny_isSubtype_exc hC₁ ?_
  rw [hcB]
  simp only [if_true]
  refine Tr ?_
  refine Tn (hnt ?_)
  simp only [Bool.false_eq_true, if_false]
  unfold raisedInstance
  refine Tn (Tn (hty ?_))
  refine Tn (htc ?_)
  simp only [beq_self_eq_true, if_true]
  refine Tr ?_
  refine Tn (To (O9 (q := false) (F := FA fs) hx') (fun _ s₂ y => ?_) fun _ _ f => f)
  exact wpAny_raiseNew_none cx.a.hd ⟨y.1, (g₁.lax.mono (X' := own env μ l) fun _ z => z.elim).trans y.2 fun _ z => .inr z, _, CO (CO cx.lr.ns g₁.mv id) y.2.mv fun z => by refine CB cx.lr.ns fun o _ _ e _ => ?_; rw [z] at e; cases e⟩
end
end Mine
namespace Mine
section
variable {α β : Type} {M : Model} {A : Around} {t : Sem β} {r : Res α} {R : α → β → Shared → Prop} {Ex : Dr → Value → Shared → Prop} {s : Shared}
theorem Sat.of_wp (h : r ≠ .fail → wpAny M A t (fun v s' => ∃ a, r = .ok a ∧ R a v s') (fun e s' => ∃ x, r = .exc x ∧ Ex x e s') s) : Sat M A t r R Ex s := by
 cases r with
 | fail => trivial
 | ok a => exact To (h (by simp)) (fun v s' z_ => BK z_ fun b e y => by cases e; exact y) fun _ _ z_ => BK z_ fun _ e _ => by cases e
 | exc x => exact To (h (by simp)) (fun v s' z_ => BK z_ fun b e y => by cases e) fun _ _ z_ => BK z_ fun _ e y => by cases e; exact y
theorem Sat.to_wp (h : Sat M A t r R Ex s) (hr : r ≠ .fail) : wpAny M A t (fun v s' => ∃ a, r = .ok a ∧ R a v s') (fun e s' => ∃ x, r = .exc x ∧ Ex x e s') s := by
 cases r with
 | fail => exact absurd rfl hr
 | ok a => exact To h (fun v s' y => (A4 a rfl y)) fun _ _ f => f.elim
 | exc x => exact To h (fun _ _ f => f.elim) fun _ _ y => (A4 x rfl y)
end
variable {prog : Program} {w : World} {H : Heap} {C : Addr}
variable {n : Nat} {q : Bool} {names : List Str} {sc : Scope} {A : Around} {env : Env} {fs : List Env} {N Z : Addr → Prop} {μ μ' : List Addr} {l l' : Loc} {m cm m' cm' : Str → Option Value} {s s' : Shared}
theorem exS.loop (cx : Cx prog w H n names sc A env fs N Z μ l m cm s) (fo : FrOk env fs) {E : Value → Shared → Prop} {x : Dr} {e : Value} {s₁ : Shared} (h : exS C fs env μ l s x e s₁) (hE : ∀ s₂, exS C fs env μ l s x e s₂ → E e s₂) :
  notedBy (model prog w) A env (fun e s' => cameBackBy (model prog w) A env E e s') e s₁ := by
 obtain ⟨hx, g, mm, hm⟩ := h
 have inv : Inv H fs s₁.heap := cx.inv.go g.mv cx.lr.hf fun a hf z => by rw [F4 cx z hf]; exact ⟨mm, hm⟩
 refine Ss cx.fr fo inv (fun b z => g.mv.live b z) (fun b z => ?_) hx fun s₂ hx₂ g₂ => hE s₂ ⟨hx₂, g.trans g₂ fun b z => .inr z, mm, CO hm g₂.mv fun z => ?_⟩
 ·cases y : H.get? b with
  | none => exact absurd y z
  | some o => rw [cx.inv.base b o y]; simp
 ·refine CB cx.lr.ns fun o _ _ e _ => ?_; rw [e] at z; cases z
noncomputable def Ao (t : Loc → Res Bool) (f : Loc → Res (Fl × Loc)) : Nat → Loc → Res (Fl × Loc)
 | 0, _ => .fail
 | k + 1, l => (t l).bind fun b => if b then (f l).bind fun p => match p.1 with
   | .next => Ao t f k p.2
   | .cont => Ao t f k p.2
   | .ret r => .ok (.ret r, p.2)
  else .ok (.next, l)
theorem Dd (fuel : Loc → Nat) {t : Expr} {body : List Stmt} {pos : Pos} {ft : Loc → Res Bool} {f : Loc → Res (Fl × Loc)} (ht : ST prog w H C n q names sc t ft) (hf : SB prog w H C n q names sc body f) :
  SS prog w H C n q names sc (.While t body [] pos) fun l => Ao ft f (fuel l) l := fun {A env fs N Z μ l m cm s} cx fo => by
 show Sat _ A _ (Ao ft f (fuel l) l) _ _ s
 obtain ⟨r, hr0⟩ : ∃ r, Ao ft f (fuel l) l = r := ⟨_, rfl⟩
 rw [hr0]
 refine Sat.of_wp fun hr => wpAny_While (codeAny_whileLoop
  (fun k s' => ∃ l' μ' m' cm', Cx prog w H n names sc A env fs N Z μ' l' m' cm' s' ∧ Go q (FA fs) (own env μ l) s s' ∧ Ext env μ l μ' l' s.heap ∧ Ao ft f k l' = r)
  ?_ (fuel l) (Jf l μ m cm cx (.refl ..) .refl hr0))
 intro k s₁ y1_; obtain ⟨l₁, μ₁, m₁, cm₁, cx₁, g₁, e₁, hk⟩ := y1_
 cases k with
 | zero => exact absurd hk.symm hr
 | succ k =>
  unfold Ao at hk
  have hne : ft l₁ ≠ .fail := fun z => by rw [z] at hk; exact hr hk.symm
  refine To ((ht cx₁).to_wp hne) (fun b s₂ hb => ?_) fun e s₂ hx => ?_
  ·refine B1 hb fun b' hb' z2_ g₂ => ?_; clear hb; obtain rfl := z2_
   rw [hb'] at hk
   have cx₂ := cx₁.go g₂
   have g₂' : Go q (FA fs) (own env μ l) s s₂ := g₁.trans g₂ fun _ z => z.elim
   cases b with
   | false =>
    simp only [Bool.false_eq_true, if_false, Res.bind_ok] at hk ⊢
    subst hk
    exact wpAny_execs_nil ⟨(.next, l₁), rfl, μ₁, m₁, cm₁, trivial, cx₂.lr, g₂', e₁⟩
   | true =>
    simp only [if_true, Res.bind_ok] at hk ⊢
    have hne : f l₁ ≠ .fail := fun z => by rw [z] at hk; exact hr hk.symm
    refine To ((hf cx₂ fo).to_wp hne) (fun fl s₃ h₃ => ?_) fun e s₃ hx => ?_
    ·obtain ⟨⟨fl', l₃⟩, hp, μ₃, m₃, cm₃, h1, h2, h3, h4⟩ := h₃
     rw [hp] at hk
     cases fl' with
     | next =>
      cases fl <;> try exact h1.elim
      exact ⟨k, Nat.lt_succ_self k, l₃, μ₃, m₃, cm₃, cx₂.step h2 h3, g₂'.own_trans e₁ h3, e₁.trans g₂'.mv h4, hk⟩
     | cont =>
      cases fl <;> try exact h1.elim
      exact ⟨k, Nat.lt_succ_self k, l₃, μ₃, m₃, cm₃, cx₂.step h2 h3, g₂'.own_trans e₁ h3, e₁.trans g₂'.mv h4, hk⟩
     | ret r' =>
      cases fl <;> try exact h1.elim
      simp only [Res.bind_ok] at hk
      subst hk
      exact (A4 _ rfl (okS.after (s₁ := s₂) (p := (.ret r', l₃)) ⟨μ₃, m₃, cm₃, h1, h2, h3, h4⟩ g₂' e₁))
    ·refine BK hx fun x hx' hx => ?_
     rw [hx'] at hk
     simp only [Res.bind_exc] at hk
     subst hk
     exact (hx.after g₂' e₁).loop cx fo fun s₄ y => (A4 x rfl y)
  ·refine BK hx fun x hx' hx => ?_
   rw [hx'] at hk
   simp only [Res.bind_exc] at hk
   subst hk
   exact ((hx.toS cx₁).after g₁ e₁).loop cx fo fun s₄ y => (A4 x rfl y)
end Mine
namespace Mine
theorem Dp : ∀ (names : List (Str × NameKind)) (k : Nat) (acc : List (Str × Addr)) (x : Str), (acc.lookup x).isSome → ((cellsFrom k names acc).lookup x).isSome
 | [], _, _, _, h => h
 | (y, kind) :: r, k, acc, x, h => by
  unfold cellsFrom
  split
  ·refine Dp r _ _ x ?_
   rw [List.lookup_cons]
   split
   ·rfl
   ·exact h
  ·exact Dp r _ _ x h
theorem Cj : ∀ (names : List (Str × NameKind)) (k : Nat) (acc : List (Str × Addr)) (x : Str), (x, NameKind.cell) ∈ names → ((cellsFrom k names acc).lookup x).isSome
 | [], _, _, _, h => by simp at h
 | (y, kind) :: r, k, acc, x, h => by
  unfold cellsFrom
  rcases T0.mp h with e | h
  ·cases e
   rw [Tl (by decide)]
   exact Dp r _ _ _ (by simp [List.lookup_cons])
  ·split
   ·exact Cj r _ _ x h
   ·exact Cj r _ _ x h
theorem E8 {α : Type} : ∀ {l : List (Str × α)} {x : Str} {c : α}, (l.map (·.1)).Nodup → (x, c) ∈ l → l.lookup x = some c
 | [], _, _, _, h => by simp at h
 | (y, u) :: r, x, c, hn, h => by
  refine xA (List.nodup_cons.mp hn) fun h1 h2 => ?_
  rw [List.lookup_cons]
  rcases T0.mp h with e | h'
  ·cases e; simp
  ·have : (x == y) = false := by
    simp only [beq_eq_false_iff_ne]
    intro e
    exact h1 (List.mem_map.mpr (A4 _ h' e))
   rw [this]
   exact E8 h2 h'
theorem Do : ∀ (names : List (Str × NameKind)) (k : Nat) (acc : List (Str × Addr)), (names.map (·.1)).Nodup → (acc.map (·.1)).Nodup → (∀ x ∈ names.map (·.1), x ∉ acc.map (·.1)) → ((cellsFrom k names acc).map (·.1)).Nodup
 | [], _, _, _, h, _ => h
 | (y, kind) :: r, k, acc, hn, ha, hd => by
  refine xA (List.nodup_cons.mp hn) fun h1 h2 => ?_
  unfold cellsFrom
  split
  ·refine Do r _ _ h2 (List.nodup_cons.mpr ⟨hd y (by simp), ha⟩) fun x hx => ?_
   simp only [T1, T0, not_or]
   exact ⟨fun e => h1 (e ▸ hx), hd x (by simp at hx ⊢; exact .inr hx)⟩
  ·exact Do r _ _ h2 ha fun x hx => hd x (by simp at hx ⊢; exact .inr hx)
theorem IN (kd : Str → Option NameKind) : ∀ (b : List (Str × Value)) (m : Str → Option Value) (x : Str), x ∉ b.map (·.1) → bindL kd b m x = m x
 | [], _, _, _ => rfl
 | (y, v) :: r, m, x, h => by
  have h1 : x ≠ y := fun e => h (by simp [e])
  have h2 : x ∉ r.map (·.1) := fun e => h (by simp at e ⊢; exact .inr e)
  unfold bindL
  rw [IN kd r _ x h2]
  split
  ·simp [h1]
  ·rfl
theorem IF (kd : Str → Option NameKind) : ∀ (b : List (Str × Value)) (m : Str → Option Value) (x : Str), x ∉ b.map (·.1) → bindC kd b m x = m x
 | [], _, _, _ => rfl
 | (y, v) :: r, m, x, h => by
  have h1 : x ≠ y := fun e => h (by simp [e])
  have h2 : x ∉ r.map (·.1) := fun e => h (by simp at e ⊢; exact .inr e)
  unfold bindC
  rw [IF kd r _ x h2]
  split
  ·rfl
  ·simp [h1]
theorem MX (kd : Str → Option NameKind) : ∀ (b : List (Str × Value)) (m : Str → Option Value) (x : Str) (v : Value), (b.map (·.1)).Nodup → (x, v) ∈ b → kd x = some .local → bindL kd b m x = some v
 | [], _, _, _, _, h, _ => by simp at h
 | (y, u) :: r, m, x, v, hn, h, hk => by
  refine xA (List.nodup_cons.mp hn) fun h1 h2 => ?_
  unfold bindL
  rcases T0.mp h with e | h
  ·cases e
   rw [IN kd r _ _ h1, Tl hk]; simp
  ·exact MX kd r _ x v h2 h hk
theorem NF (kd : Str → Option NameKind) : ∀ (b : List (Str × Value)) (m : Str → Option Value) (x : Str) (v : Value), (b.map (·.1)).Nodup → (x, v) ∈ b → kd x ≠ some .local → bindC kd b m x = some v
 | [], _, _, _, _, h, _ => by simp at h
 | (y, u) :: r, m, x, v, hn, h, hk => by
  refine xA (List.nodup_cons.mp hn) fun h1 h2 => ?_
  unfold bindC
  rcases T0.mp h with e | h
  ·cases e
   rw [IF kd r _ _ h1, Tm hk]; simp
  ·exact NF kd r _ x v h2 h hk
structure Fn (H : Heap) (a : Addr) (ps : List Str) (body : List Stmt) (sc : Scope) : Prop where
 fn : ∃ o fd, H.get? a = some o ∧ o.data = .func fd ∧ fd.body = .stmts body ∧ fd.scope = sc ∧ fd.closure = [] ∧ fd.globals = mainGlobals ∧ fd.builtins = builtinsNs ∧ H.CodeRec fd.code fd.qualname ∧
  ∀ vs : List Value, vs.length = ps.length → bindArgs fd ⟨vs, []⟩ = pure (ps.zip vs)
 kind : sc.kind = .function
 co : sc.isCoroutine = false
 gen : sc.isGenerator = false
 nd : (sc.names.map (·.1)).Nodup
 par : ∀ x ∈ ps, sc.names.lookup x = some .local ∨ sc.names.lookup x = some .cell
noncomputable def AR (prog : Program) (w : World) (P : Addr → Prop) (F μ₀ : List Addr) (h : Heap) (v : Value) : W → Prop
 | .d x => RD P h v x
 | .lst i => ∃ a, μ₀[i]? = some a ∧ v = .ref a
 | .dct _ => False
 | .bd kvs => ∃ a, v = .ref a ∧ DictIs prog w P h a kvs ∧ a ∉ μ₀ ∧ a ∉ F
noncomputable def CH (names : List Str) (ws : List W) (cs₀ : List Cell) : Loc := ⟨ws.map some ++ List.replicate (names.length - ws.length) none, cs₀⟩
noncomputable def Sm (P : Addr → Prop) (μ₀ : List Addr) (C : Addr) (z h : Heap) (v : Value) : Fl → Prop
 | .ret (.val d) => RD P h v d
 | .ret (.fr ds) => ∃ b items k, v = .ref b ∧ (z.get? b = none ∨ b ∈ μ₀) ∧ h.get? b = some { cls := .type "list", data := .seq items k } ∧ RDs (fun c => P c ∨ c = b) h items.toList ds
 | .ret (.ex x) => XR C z h v x
 | _ => v = .none
noncomputable def Pp (cs : List Cell) (k : Nat) : Prop := ∀ i, i < k → ∃ ds, cs[i]? = some (Cell.list ds)
noncomputable def TO (C : Addr) (q : Bool) (F : List Addr) (P : Addr → Prop) (μ₀ : List Addr) (s : Shared) : Fl × Loc → Value → Shared → Prop := fun p v s' =>
 Go q F (· ∈ μ₀) s s' ∧ (Pp p.2.cells μ₀.length → Sm P μ₀ C s.heap s'.heap v p.1 ∧
  ∀ (i : Nat) (a : Addr) (ds : List D), μ₀[i]? = some a → p.2.cells[i]? = some (.list ds) → ∃ items k, s'.heap.get? a = some { cls := .type "list", data := .seq items k } ∧ RDs P s'.heap items.toList ds)
noncomputable def R3 (C : Addr) (F : List Addr) (μ₀ : List Addr) (s : Shared) : Dr → Value → Shared → Prop := fun x e s' => XR C s.heap s'.heap e x ∧ Go false F (· ∈ μ₀) s s'
theorem Go.unframe {q : Bool} {F : List Addr} {L : Addr} {X : Addr → Prop} {s s' : Shared} (g : Go q (L :: F) X s s') (hL : X L ∨ s.heap.get? L = none) : Go q F X s s' := ⟨g.mv.unframe hL, g.gens, g.os, g.drawn⟩
variable {prog : Program} {w : World} {H : Heap} {C : Addr} {n : Nat} {q : Bool} {names : List Str} {sc : Scope}
theorem F0 {a : Addr} {ps : List Str} {body : List Stmt} {g : Loc → Res (Fl × Loc)} (hf : Fn H a ps body sc) (hlim : H.NoLimit) (hps : ps <+: names) (hnd : names.Nodup) (hsb : SB prog w H C n q names sc body g)
  {A : Around} {fs : List Env} {s : Shared} (hA : AOk A (n + 1)) (hfr : A.frames = some fs) (inv : Inv H fs s.heap) {P : Addr → Prop} (hP : PLive P s.heap) (hPH : ∀ a, P a → H.get? a = none)
  {ws : List W} {vs : List Value} (hw : ws.length = ps.length) (hv : vs.length = ps.length) {μ₀ : List Addr} {cs₀ : List Cell} (hlen : μ₀.length = cs₀.length) (hμ : μ₀.Nodup) (hμP : ∀ a ∈ μ₀, P a)
  (hargs : ∀ (i : Nat) (u : W) (v : Value), ws[i]? = some u → vs[i]? = some v → AR prog w P (FA fs) μ₀ s.heap v u)
  (hcs : ∀ (i : Nat) (a : Addr) (c : Cell), μ₀[i]? = some a → cs₀[i]? = some c → ∃ ds items k, c = .list ds ∧ s.heap.get? a = some { cls := .type "list", data := .seq items k } ∧ RDs P s.heap items.toList ds) :
  Sat (model prog w) A (call (.ref a) vs) (g (CH names ws cs₀)) (TO C q (FA fs) P μ₀ s) (R3 C (FA fs) μ₀ s) s := by
 refine MV hf.fn fun o fd ho hd hbody hsc hclo hgl hbu hcd hbind => ?_
 have hdep := hA.dep
 refine Sat.of_wp fun hr => wpAny_call (codeAny_call_cells (by exact Nat.lt_of_le_of_lt (T3 _ _) (by assumption)) (inv.base _ _ ho) hd (hlim.keeps inv.base) (hcd.keeps inv.base) hbody (hbind vs hv) hclo (fun x hx => ?_) (fun s₁ ic => ?_) (by rw [hsc]; exact hf.co) (by rw [hsc]; exact hf.gen) (by rw [hsc]; exact hf.kind))
 ·rw [hsc]
  rcases hf.par x.1 (List.of_mem_zip hx).1 with h | h
  ·exact .inl h
  ·exact .inr ⟨h, Cj _ _ _ _ (mem_of_lookup h)⟩
 generalize henv : callEnvC fd s.heap.objs.size a = env at ic ⊢
 have es : env.scope = sc := by subst henv; exact hsc
 have eg : env.globals = mainGlobals := by subst henv; exact hgl
 have eb : env.builtins = builtinsNs := by subst henv; exact hbu
 have eL : env.locals = s.heap.objs.size := by subst henv; rfl
 have ef : env.frame = some env.locals := by subst henv; rfl
 have ec : env.cells = cellsFrom (s.heap.objs.size + 1) sc.names [] := by subst henv; show cellsFrom _ fd.scope.names [] = _; rw [hsc]
 have hLd : s.heap.get? env.locals = none := by rw [eL]; exact A0 _
 have ekd : ∀ x, env.kindOf x = sc.names.lookup x := fun x => by unfold Env.kindOf; rw [es]
 obtain ⟨⟨⟨h₁, tk, rfl⟩, hns, hkeep, hfresh⟩, hcell, hap, habove⟩ := ic
 have hcd' : ∀ n c, (n, c) ∈ env.cells → s.heap.get? c = none := fun n c hm => UL (by have := habove n c hm; rw [eL] at this; exact Nat.le_of_lt this)
 have gk : ∀ {X : Addr → Prop}, Go q (env.locals :: FA fs) X s { s with heap := h₁, toks := tk } := ⟨Mv.of_keeps hkeep, rfl, rfl, rfl⟩
 have hdm : ∀ b, h₁.get? b = none → s.heap.get? b = none := fun b e => by
  cases y : s.heap.get? b with
  | none => rfl
  | some ob => rw [hkeep b ob y] at e; cases e
 have hown : ∀ b, own env μ₀ (CH names ws cs₀) b → b ∈ μ₀ ∨ s.heap.get? b = none := by
  rintro b (rfl | ⟨x, hm⟩ | ⟨i, c, h1, _, _⟩)
  ·exact .inr hLd
  ·exact .inr (hcd' x b hm)
  ·exact .inl (T7 h1)
 have hlessP : ∀ b, s.heap.get? b ≠ none → Pr (fun b => P b ∧ b ∉ μ₀) env μ₀ (CH names ws cs₀) b → P b := fun b hb h => by
  rcases h with h | h
  ·exact h.1
  ·rcases hown b h with h | h
   ·exact hμP b h
   ·exact absurd h hb
 have rds : ∀ {vs : List Value} {ds : List D}, RDs P s.heap vs ds → RDs (Pr (fun b => P b ∧ b ∉ μ₀) env μ₀ (CH names ws cs₀)) h₁ vs ds := fun r => (RDs.less (fun b hb h => hlessP b hb h) r).mv0 (q := true) (F := []) (Mv.of_keeps hkeep)
 have rd : ∀ {v : Value} {d : D}, RD P s.heap v d → RD (Pr (fun b => P b ∧ b ∉ μ₀) env μ₀ (CH names ws cs₀)) h₁ v d := fun r => (RD.less (fun b hb h => hlessP b hb h) r).mv0 (q := true) (F := []) (Mv.of_keeps hkeep)
 have hFA : FA (env :: fs) = env.locals :: FA fs := by simp [FA, List.filterMap_cons, ef]
 have hbm : (ps.zip vs).map (·.1) = ps := by rw [List.map_fst_zip]; exact Nat.le_of_eq (Eq.symm (by assumption))
 have hpnd : ps.Nodup := hps.sublist.nodup hnd
 have lr : LR prog w H names (fun b => P b ∧ b ∉ μ₀) (fun b => s.heap.get? b = none ∨ b ∈ μ₀) (env.locals :: FA fs) env μ₀ (CH names ws cs₀) (bindL env.kindOf (ps.zip vs) fun _ => none) (bindC env.kindOf (ps.zip vs) fun _ => none) h₁ := by
  refine ⟨hns, hcell, hap, fun n c hm => ?_, fun i x u hx hu => ?_, fun i b c h1 h2 => ?_, hlen, hμ, fun b hb z => z.2 hb, fun b hb => ⟨fun e => ?_, fun n hm => ?_⟩, fun b hb => .inr hb, fun b e => .inl (hdm b e), fun b hb => ?_, fun b hb => ?_, fun b hb => hPH b hb.1, fun b hb => ?_, ?_, hnd⟩
  ·exact ⟨_, hcell n c (E8 (by rw [ec]; exact Do _ _ _ hf.nd List.nodup_nil (by simp)) hm)⟩
  ·have hi : i < ws.length := by
    by_cases hi : i < ws.length
    ·exact hi
    ·exfalso
     simp only [CH] at hu
     rw [UX (by simp; exact Nat.le_of_not_lt (by assumption))] at hu
     have := T7 hu
     simp at this
   have hw' : ws[i]? = some u := by
    simp only [CH] at hu
    rw [UI (by simpa using hi)] at hu
    simpa using hu
   have hvi : ∃ v, vs[i]? = some v := ⟨vs[i]'(by lia), by simp [show i < vs.length by lia]⟩
   refine xE hvi fun v hvi => ?_
   have hxp : ps[i]? = some x := by
    refine xE hps fun t ht => ?_; clear hps
    rw [← ht, UI (by lia)] at hx
    exact hx
   have hmem : (x, v) ∈ ps.zip vs := T7 (i := i) (by rw [List.getElem?_zip_eq_some]; exact ⟨hxp, hvi⟩)
   have har := hargs i u v hw' hvi
   refine (A4 v ?_ ?_)
   ·unfold G5
    rcases hf.par x (T7 hxp) with hk | hk
    ·rw [Tl (by rw [ekd]; exact hk)]
     exact MX _ _ _ x v (by rw [hbm]; exact hpnd) hmem (by rw [ekd]; exact hk)
    ·rw [Tm (by rw [ekd, hk]; decide), Tl (by rw [ekd]; exact hk), Tl (by rw [ec]; exact Cj _ _ _ _ (mem_of_lookup hk))]
     exact NF _ _ _ x v (by rw [hbm]; exact hpnd) hmem (by rw [ekd, hk]; decide)
   ·cases u with
    | d y => exact rd har
    | lst j => exact har
    | dct j => exact har.elim
    | bd kvs =>
     refine FN har fun b z1_ hd hn hF => ?_; clear har; obtain rfl := z1_
     obtain ⟨kv', ⟨ob, es', ep, hob, r⟩, hk, hr, hs⟩ := hd
     refine (Dj b rfl ⟨kv', (K8 ob es' ep (hkeep _ _ hob) r), hk, rds hr, hs⟩ (fun z => ?_) (fun z => ?_))
     ·rcases hown b z with z | z
      ·exact hn z
      ·rw [hob] at z; cases z
     ·rcases T0.mp z with z | z
      ·rw [z, hLd] at hob; cases hob
      ·exact hF z
  ·refine CF (hcs i b c h1 h2) fun ds items k z3_ hg r => ?_; obtain rfl := z3_
   exact (EL items k (hkeep _ _ hg) (rds r))
  ·exact absurd hLd (e ▸ hP b (hμP b hb))
  ·exact absurd (hcd' n b hm) (hP b (hμP b hb))
  ·rcases hown b hb with hb | hb
   ·exact hPH b (hμP b hb)
   ·cases y : H.get? b with
    | none => rfl
    | some ob => rw [inv.base b ob y] at hb; cases hb
  ·cases y : s.heap.get? b with
   | none => exact absurd y (hP b hb.1)
   | some ob => rw [hkeep b ob y]; simp
  ·cases y : s.heap.get? b with
   | none => exact absurd y (hP b (hμP b hb))
   | some ob => rw [hkeep b ob y]; simp
  ·have := hps.length_le
   simp [CH]; lia
 have hA' : AOk (A.deeper env) n := ⟨hA.hd, by show A.depth + 1 + n < _; lia, by have := hA.un; show A.units + 3 + 100 + 4 * n < _; lia⟩
 have hfr' : (A.deeper env).frames = some (env :: fs) := Around.frames_deeper hfr
 have hHL : H.get? env.locals = none := by
  cases y : H.get? env.locals with
  | none => rfl
  | some ob => rw [inv.base _ ob y] at hLd; cases hLd
 have inv' : Inv H (env :: fs) h₁ := by
  refine ⟨fun b ob e => hkeep b ob (inv.base b ob e), Heap.FunFrames.cons (by rw [es, hf.kind]; decide) ef hns hHL (FunFrames.go (q := true) (F := []) inv.frames (Mv.of_keeps (X := No) hkeep) fun _ _ z => z.elim), fun b hb => ?_⟩
  rw [hFA] at hb
  rcases T0.mp hb with rfl | hb
  ·exact ⟨_, hns⟩
  ·refine xE (inv.fns b hb) fun mm hm => ?_
   exact ⟨mm, hm.keeps hkeep⟩
 have eok : EOk env sc := ⟨es, hf.kind, eg, eb, fun x hx => by
  rw [ekd] at hx
  exact Option.isSome_iff_exists.mp (by rw [ec]; exact Cj _ _ _ _ (mem_of_lookup hx))⟩
 have cx : Cx prog w H n names sc (A.deeper env) env (env :: fs) (fun b => P b ∧ b ∉ μ₀) (fun b => s.heap.get? b = none ∨ b ∈ μ₀) μ₀ (CH names ws cs₀) (bindL env.kindOf (ps.zip vs) fun _ => none) (bindC env.kindOf (ps.zip vs) fun _ => none) { s with heap := h₁, toks := tk } :=
  ⟨hA', eok, hfr', inv', by rw [hFA]; exact lr⟩
 have fo : FrOk env (env :: fs) := ⟨⟨fs, rfl⟩, ef⟩
 have back : ∀ {qq : Bool} {s' : Shared}, Go qq (FA (env :: fs)) (own env μ₀ (CH names ws cs₀)) { s with heap := h₁, toks := tk } s' → Go qq (FA fs) (· ∈ μ₀) s s' := fun {qq s'} g => by
  rw [hFA] at g
  refine Go.unframe (L := env.locals) ?_ (.inr hLd)
  exact (show Go qq (env.locals :: FA fs) (· ∈ μ₀) s { s with heap := h₁, toks := tk } from ⟨Mv.of_keeps hkeep, rfl, rfl, rfl⟩).trans g hown
 refine To ((hsb cx fo).to_wp hr) (fun fl s' hR => ?_) fun e s' hX => ?_
 ·obtain ⟨p, hp, μ', m', cm', h1, h2, h3, h4⟩ := hR
  refine (B0 p hp (back h3) (fun hall => ?_))
  have hpre : ∀ i, i < μ₀.length → μ'[i]? = μ₀[i]? := fun i hi => by
   refine xE h4.pre fun t ht => ?_
   rw [← ht, UI hi]
  have hPown : ∀ b, P b → Pr (fun b => P b ∧ b ∉ μ₀) env μ' p.2 b := fun b hb => by
   by_cases hm : b ∈ μ₀
   ·refine xE (List.mem_iff_getElem?.mp hm) fun i hi => ?_
    have hil : i < μ₀.length := (UC.mp hi).1
    refine xE (hall i hil) fun ds hds => ?_
    exact .inr (.inr (.inr (Di i _ ((hpre i hil).trans hi) hds rfl)))
   ·exact .inl ⟨hb, hm⟩
  refine ⟨?_, fun i b ds hb hds => ?_⟩
  ·obtain ⟨f1, l'⟩ := p
   cases f1 with
   | next => cases fl <;> first | exact rfl | exact h1.elim
   | cont => cases fl <;> first | exact rfl | exact h1.elim
   | ret r =>
    cases fl with
    | ret v =>
     cases r with
     | val d => exact RD.less (fun b _ hb => hPown b hb) h1
     | fr ds =>
      refine De h1 fun b items k z3_ hz hp' hg hr' => ?_; clear h1; obtain rfl := z3_
      exact (HA b items k rfl hz hg (RDs.less (fun c _ hc => hc.elim (hPown c) fun e => e ▸ hp') hr'))
     | ex x => exact XR.less h1 hdm
    | _ => exact h1.elim
  ·have hil : i < μ₀.length := (UC.mp hb).1
   refine B6 (h2.cells i b _ ((hpre i hil).trans hb) hds) fun items k hg hr' => ?_
   exact (EL items k hg (RDs.less (fun b _ hb => hPown b hb) hr'))
 ·refine BK hX fun x hx hX => ?_
  obtain ⟨hX1, hX2, mm, hX3⟩ := hX
  have inv₂ : Inv H (env :: fs) s'.heap := inv'.go hX2.mv cx.lr.hf fun b hb z => by rw [F4 cx z hb]; exact ⟨mm, hX3⟩
  refine To (RA (z := h₁) hfr' fo inv₂ (fun b z => hX2.mv.live b z) (fun b z => ?_) hX1 (Q := fun _ s'' => ∃ y, g (CH names ws cs₀) = .exc y ∧ R3 C (FA fs) μ₀ s y e s'') fun s'' hx₂ g₂ => (B0 x hx (hx₂.less hdm) ?_)) (fun _ _ y => y) fun _ _ f => f
  ·cases y : H.get? b with
   | none => exact absurd y z
   | some ob => show h₁.get? b ≠ none; rw [hkeep b ob (inv.base b ob y)]; simp
  ·exact back (hX2.trans g₂ fun b z => .inr z)
end Mine
namespace Mine
variable {prog : Program} {w : World} {H : Heap} {C : Addr} {n n' : Nat} {q : Bool} {names : List Str} {sc : Scope}
noncomputable def ARs (prog : Program) (w : World) (P : Addr → Prop) (F : List Addr) (h : Heap) (vs : List Value) (us : List W) : Prop :=
 vs.length = us.length ∧ ∀ (i : Nat) (u : W) (v : Value), us[i]? = some u → vs[i]? = some v → AR prog w P F [] h v u
theorem AR.mv {P : Addr → Prop} {F : List Addr} {h h' : Heap} {v : Value} {u : W} {q : Bool} (r : AR prog w P F [] h v u) (x : Mv q F No h h') : AR prog w P F [] h' v u := by
 cases u with
 | d y => exact RD.mv0 r x
 | lst i => exact r
 | dct i => exact r
 | bd kvs =>
  refine FN r fun a hv hd ho hf => ?_; clear r
  exact (Dj a hv (Cu hd x id hf trivial (fun _ z => z.elim)) ho hf)
noncomputable def Pg (prog : Program) (w : World) (H : Heap) (C : Addr) (n : Nat) (q : Bool) (names : List Str) (sc : Scope) (es : List Expr) (f : Loc → Res (List W)) : Prop :=
 ∀ ⦃A : Around⦄ ⦃env : Env⦄ ⦃fs : List Env⦄ ⦃N Z : Addr → Prop⦄ ⦃μ : List Addr⦄ ⦃l : Loc⦄ ⦃m cm : Str → Option Value⦄ ⦃s : Shared⦄ (pos : Pos),
  Cx prog w H n names sc A env fs N Z μ l m cm s → Sat (model prog w) A (spliced (backTo pos (starEach es env))) (f l) (fun us vs s' => ARs prog w (Pr N env μ l) (FA fs) s'.heap vs us ∧ Go q (FA fs) No s s') (exE C (FA fs) s) s
theorem Am : Pg prog w H C n q names sc [] fun _ => .ok [] := fun _ _ _ _ _ _ _ _ _ _ pos cx => Tr ⟨⟨rfl, by simp⟩, .refl ..⟩
theorem Ml {e : Expr} {es : List Expr} {f : Loc → Res W} {g : Loc → Res (List W)}
  (h : ∀ {A : Around} {env : Env} {fs : List Env} {N Z : Addr → Prop} {μ : List Addr} {l : Loc} {m cm : Str → Option Value} {s : Shared}, Cx prog w H n names sc A env fs N Z μ l m cm s →
   Sat (model prog w) A (eval e env) (f l) (fun u v s' => AR prog w (Pr N env μ l) (FA fs) [] s'.heap v u ∧ Go q (FA fs) No s s') (exE C (FA fs) s) s)
  (hs : Pg prog w H C n q names sc es g) (hst : autoParam (∀ env, starEach (e :: es) env = (false, eval e env) :: starEach es env) tA) :
  Pg prog w H C n q names sc (e :: es) fun l => (f l).bind fun u => (g l).bind fun us => .ok (u :: us) := fun {A env fs N Z μ l m cm s} pos cx => by
 rw [hst]
 show Sat _ A (spliced ((false, eval e env) :: backTo pos (starEach es env))) _ _ _ s
 have e1 : spliced ((false, eval e env) :: backTo pos (starEach es env)) = (eval e env >>= fun v => holding [v] (spliced (backTo pos (starEach es env))) >>= fun vs => pure (v :: vs)) := by
  rw [spliced]; simp
 rw [e1]
 refine Sat.bind (h cx) (fun d v s₁ _ h₁ => ?_) fun _ _ _ h => h
 refine Sat.bind (Sat.holding (hs pos (cx.go h₁.2))) (fun ds vs s₂ _ h₂ => ?_) fun _ _ _ h => h.after h₁.2
 refine Tr ⟨⟨by simp [h₂.1.1], fun i u v' hu hv => ?_⟩, h₁.2.trans0 h₂.2⟩
 cases i with
 | zero => simp at hu hv; subst hu hv; exact h₁.1.mv h₂.2.mv
 | succ i => simp at hu hv; exact h₂.1.2 i u v' hu hv
theorem Ay {e : Expr} {es : List Expr} {f : Loc → Res D} {g : Loc → Res (List W)} (h : SE prog w H C n q names sc e f) (hs : Pg prog w H C n q names sc es g) (hst : autoParam (∀ env, starEach (e :: es) env = (false, eval e env) :: starEach es env) tA) :
  Pg prog w H C n q names sc (e :: es) fun l => ((f l).bind fun d => .ok (W.d d)).bind fun u => (g l).bind fun us => .ok (u :: us) :=
 Ml (f := fun l => (f l).bind fun d => .ok (W.d d)) (fun {A env fs N Z μ l m cm s} cx => by
  have h0 := h cx
  show Sat _ A _ ((f l).bind _) _ _ s
  cases hf : f l with
  | fail => trivial
  | exc x => rw [hf] at h0; exact h0
  | ok d => rw [hf] at h0; exact h0) hs hst
noncomputable def Dx (l : Loc) (i : Nat) : Res (List (Str × D)) := match l.vars[i]? with
 | some (some (.bd kvs)) => .ok kvs
 | some (some (.dct k)) => (match l.cells[k]? with | some (.dict kvs) => .ok kvs | _ => .fail)
 | _ => .fail
theorem Gz (i : Nat) {x : Str} {pos : Pos} (hi : names[i]? = some x) (hd : (x == ("__debug__" : Str)) = false) {A : Around} {env : Env} {fs : List Env} {N Z : Addr → Prop} {μ : List Addr} {l : Loc} {m cm : Str → Option Value} {s : Shared}
  (cx : Cx prog w H n names sc A env fs N Z μ l m cm s) {kvs : List (Str × D)} (hg : Dx l i = .ok kvs) {Q : Value → Shared → Prop} {E : Value → Shared → Prop} (h : ∀ a, DictIs prog w (Pr N env μ l) s.heap a kvs → a ∉ FA fs → Q (.ref a) s) :
  wpAny (model prog w) A (eval (.Name x pos) env) Q E s := by
 unfold Dx at hg
 split at hg
 ·rename_i kvs' hv
  cases hg
  refine RS (cx.lr.vars i x _ hi hv) fun v hl a z3_ hD ho hF => ?_; obtain rfl := z3_
  exact wpAny_Name (Bp cx hl (h a hD hF)) hd
 ·rename_i k hv
  split at hg
  ·rename_i kvs' hc
   cases hg
   refine Ei (cx.lr.vars i x _ hi hv) fun v hl a ha z4_ => ?_; obtain rfl := z4_
   refine xA (cx.lr.cells k a _ ha hc) fun hD hF => ?_
   exact wpAny_Name (Bp cx hl (h a hD hF)) hd
  ·cases hg
 ·cases hg
theorem FZ (i : Nat) {x : Str} {pos : Pos} {es : List Expr} {g : Loc → Res (List W)} (hi : names[i]? = some x) (hs : Pg prog w H C n q names sc es g) (hd : autoParam ((x == ("__debug__" : Str)) = false) tA) (hst : autoParam (∀ env, starEach (.Name x pos :: es) env = (false, eval (.Name x pos) env) :: starEach es env) tA) :
  Pg prog w H C n q names sc (.Name x pos :: es) fun l => ((Dx l i).bind fun kvs => .ok (W.bd kvs)).bind fun u => (g l).bind fun us => .ok (u :: us) :=
 Ml (f := fun l => (Dx l i).bind fun kvs => .ok (W.bd kvs)) (fun {A env fs N Z μ l m cm s} cx => by
  show Sat _ A _ ((Dx l i).bind _) _ _ s
  cases hf : Dx l i with
  | fail => trivial
  | exc x => unfold Dx at hf; (repeat' split at hf) <;> cases hf
  | ok kvs => exact Gz i hi hd cx hf fun a hD hF => ⟨(Dj a rfl hD (by simp) hF), .refl ..⟩) hs hst
variable {mg mb : Str → Option Value}
section
variable {a : Addr} {ps : List Str} {body : List Stmt} {names' : List Str} {sc' : Scope} {g : Loc → Res (Fl × Loc)} {x : Str} {p pos : Pos} {e : Expr} {rest : List Expr} {ga : Loc → Res (List W)}
noncomputable def AN (g : Loc → Res (Fl × Loc)) (names' : List Str) (k : Nat) (us : List W) : Res Fl := if us.length = k then (g (CH names' us [])).bind fun p => .ok p.1 else .fail
theorem I1 (G : Gl H mg mb) (hf : Fn H a ps body sc') (hx : mg x = some (.ref a)) (hk : sc.names.lookup x = some .globalImplicit) (hps : ps <+: names') (hnd : names'.Nodup) (hsb : SB prog w H C n q names' sc' body g) (hn : n + 1 ≤ n')
  (hargs : Pg prog w H C n' q names sc (e :: rest) ga) (hst : ∀ env, starEach (e :: rest) env = (false, eval e env) :: starEach rest env) (hd : (x == ("__debug__" : Str)) = false)
  {A : Around} {env : Env} {fs : List Env} {N Z : Addr → Prop} {μ : List Addr} {l : Loc} {m cm : Str → Option Value} {s : Shared} (cx : Cx prog w H n' names sc A env fs N Z μ l m cm s) :
  Sat (model prog w) A (eval (.Call (.Name x p) (e :: rest) [] pos) env) ((ga l).bind (AN g names' ps.length)) (fun fl v s' => ∃ s₁, Go q (FA fs) No s s₁ ∧ Go q (FA fs) No s₁ s' ∧ Sm (Pr N env μ l) [] C s₁.heap s'.heap v fl) (exE C (FA fs) s) s := by
 refine GB (id hf.fn) fun o fd ho hdat _ => ?_
 refine Sat.nest (k := fun vs => call (.ref a) vs) (S := fun vs s₁ => s₁.heap.get? a = some o) ?_ (hargs pos cx) (fun us vs s₁ _ h₁ => (cx.go h₁.2).inv.base _ _ ho) (fun us vs s₁ _ h₁ => ?_) fun _ _ _ h => h
 ·intro Q E hh
  refine Call_Name rfl (BZ G (.inl hx) hk cx ?_ hd)
  exact callWith_def hdat (To hh (fun _ _ y => y) fun _ _ y => y) (hst env)
 ·unfold AN
  split
  ·rename_i hl
   have cx₁ := cx.go h₁.2
   have hc := F0 (q := q) (C := C) hf G.lim hps hnd hsb (cx₁.a.less hn) cx₁.fr cx₁.inv cx₁.plive (fun b h => h.elim (cx.lr.nh b) (cx.lr.hf b)) hl (h₁.1.1.trans hl) (μ₀ := []) (cs₀ := []) rfl List.nodup_nil (by simp) h₁.1.2 (by simp)
   refine Sat.mono (r := (g (CH names' us [])).bind fun p => .ok p.1) (R := fun fl v s' => Go q (FA fs) No s₁ s' ∧ Sm (Pr N env μ l) [] C s₁.heap s'.heap v fl) (Ex := exE C (FA fs) s₁) ?_ (fun fl v s' _ y => (B0 s₁ h₁.2 y.1 y.2)) fun _ _ _ _ y => y.after h₁.2
   cases hg : g (CH names' us []) with
   | fail => trivial
   | exc y =>
    rw [hg] at hc
    exact To hc (fun _ _ z => z) fun _ _ z => ⟨z.1, z.2.mono fun _ z => by simp at z⟩
   | ok y =>
    rw [hg] at hc
    refine To hc (fun v s' z => ⟨z.1.mono fun _ z => by simp at z, (z.2 fun i hi => by simp at hi).1⟩) fun _ _ z => z
  ·trivial
noncomputable def Bb : Fl → Res D
 | .ret (.val d) => .ok d
 | .ret (.fr ds) => .ok (.list ds)
 | _ => .fail
noncomputable def Ni : Fl → Res (List D)
 | .ret (.fr ds) => .ok ds
 | _ => .fail
noncomputable def G9 : Fl → Res Dr
 | .ret (.ex x) => .ok x
 | _ => .fail
theorem As (G : Gl H mg mb) (hf : Fn H a ps body sc') (hx : mg x = some (.ref a)) (hk : sc.names.lookup x = some .globalImplicit) (hps : ps <+: names') (hnd : names'.Nodup) (hsb : SB prog w H C n q names' sc' body g) (hn : n + 1 ≤ n')
  (hargs : Pg prog w H C n' q names sc (e :: rest) ga) (hst : autoParam (∀ env, starEach (e :: rest) env = (false, eval e env) :: starEach rest env) tA) (hd : autoParam ((x == ("__debug__" : Str)) = false) tA) :
  SE prog w H C n' q names sc (.Call (.Name x p) (e :: rest) [] pos) fun l => ((ga l).bind (AN g names' ps.length)).bind Bb := fun {A env fs N Z μ l m cm s} cx => by
 have h := I1 (p := p) (pos := pos) G hf hx hk hps hnd hsb hn hargs hst hd cx
 show Sat _ A _ (((ga l).bind (AN g names' ps.length)).bind Bb) _ _ s
 cases hr : (ga l).bind (AN g names' ps.length) with
 | fail => trivial
 | exc y => rw [hr] at h; exact h
 | ok fl =>
  rw [hr] at h
  show Sat _ A _ (Bb fl) _ _ s
  unfold Bb
  split
  ·exact To h (fun v s' z_ => B1 z_ fun s₁ g₁ g₂ r => ⟨r, g₁.trans0 g₂⟩) fun _ _ f => f
  ·refine To h (fun v s' z_ => B1 z_ fun s₁ g₁ g₂ r => ?_) fun _ _ f => f
   refine CP r fun b items k z3_ hz hg hr' => ?_; clear r; obtain rfl := z3_
   have hz : s₁.heap.get? b = none := hz.resolve_right (by simp)
   exact ⟨.list hg (fun z => (cx.go g₁).plive b z hz) (RDs.less (fun c _ z => .inl z) hr'), g₁.trans0 g₂⟩
  ·trivial
theorem It (G : Gl H mg mb) (hf : Fn H a ps body sc') (hx : mg x = some (.ref a)) (hk : sc.names.lookup x = some .globalImplicit) (hps : ps <+: names') (hnd : names'.Nodup) (hsb : SB prog w H C n q names' sc' body g) (hn : n + 1 ≤ n')
  (hargs : Pg prog w H C n' q names sc (e :: rest) ga) (hst : autoParam (∀ env, starEach (e :: rest) env = (false, eval e env) :: starEach rest env) tA) (hd : autoParam ((x == ("__debug__" : Str)) = false) tA) :
  SX prog w H C n' q names sc (.Call (.Name x p) (e :: rest) [] pos) fun l => ((ga l).bind (AN g names' ps.length)).bind G9 := fun {A env fs N Z μ l m cm s} cx => by
 have h := I1 (p := p) (pos := pos) G hf hx hk hps hnd hsb hn hargs hst hd cx
 show Sat _ A _ (((ga l).bind (AN g names' ps.length)).bind G9) _ _ s
 cases hr : (ga l).bind (AN g names' ps.length) with
 | fail => trivial
 | exc y => rw [hr] at h; exact h
 | ok fl =>
  rw [hr] at h
  show Sat _ A _ (G9 fl) _ _ s
  unfold G9
  split
  ·exact To h (fun v s' z_ => B1 z_ fun s₁ g₁ g₂ r => ⟨XR.less r fun a z => g₁.mv.dead a z, g₁.trans0 g₂⟩) fun _ _ f => f
  ·trivial
noncomputable def SF (prog : Program) (w : World) (H : Heap) (C : Addr) (n : Nat) (q : Bool) (names : List Str) (sc : Scope) (e : Expr) (f : Loc → Res (List D)) : Prop :=
 ∀ ⦃A : Around⦄ ⦃env : Env⦄ ⦃fs : List Env⦄ ⦃N Z : Addr → Prop⦄ ⦃μ : List Addr⦄ ⦃l : Loc⦄ ⦃m cm : Str → Option Value⦄ ⦃s : Shared⦄,
  Cx prog w H n names sc A env fs N Z μ l m cm s → Sat (model prog w) A (eval e env) (f l)
   (fun ds v s' => ∃ b items k, v = .ref b ∧ s.heap.get? b = none ∧ s'.heap.get? b = some { cls := .type "list", data := .seq items k } ∧ RDs (fun c => Pr N env μ l c ∨ c = b) s'.heap items.toList ds ∧ Go q (FA fs) No s s') (exE C (FA fs) s) s
theorem RE (G : Gl H mg mb) (hf : Fn H a ps body sc') (hx : mg x = some (.ref a)) (hk : sc.names.lookup x = some .globalImplicit) (hps : ps <+: names') (hnd : names'.Nodup) (hsb : SB prog w H C n q names' sc' body g) (hn : n + 1 ≤ n')
  (hargs : Pg prog w H C n' q names sc (e :: rest) ga) (hst : autoParam (∀ env, starEach (e :: rest) env = (false, eval e env) :: starEach rest env) tA) (hd : autoParam ((x == ("__debug__" : Str)) = false) tA) :
  SF prog w H C n' q names sc (.Call (.Name x p) (e :: rest) [] pos) fun l => ((ga l).bind (AN g names' ps.length)).bind Ni := fun {A env fs N Z μ l m cm s} cx => by
 have h := I1 (p := p) (pos := pos) G hf hx hk hps hnd hsb hn hargs hst hd cx
 show Sat _ A _ (((ga l).bind (AN g names' ps.length)).bind Ni) _ _ s
 cases hr : (ga l).bind (AN g names' ps.length) with
 | fail => trivial
 | exc y => rw [hr] at h; exact h
 | ok fl =>
  rw [hr] at h
  show Sat _ A _ (Ni fl) _ _ s
  unfold Ni
  split
  ·refine To h (fun v s' z_ => B1 z_ fun s₁ g₁ g₂ r => ?_) fun _ _ f => f
   refine CP r fun b items k z3_ hz hg hr' => ?_; clear r; obtain rfl := z3_
   exact (Dc b items k rfl (g₁.mv.dead b (hz.resolve_right (by simp))) hg hr' (g₁.trans0 g₂))
  ·trivial
theorem CN {es : List Expr} {pos : Pos} {g : Loc → Res (List D)} (h : QB prog w H C n q names sc es g) : SF prog w H C n q names sc (.List es pos) fun l => (g l).bind fun ds => if ds.length ≤ sizeLine then .ok ds else .fail := fun {A env fs N Z μ l m cm s} cx => by
 rw [arm_eval_List]
 refine Sat.standAt (Sat.bind (h pos cx) (fun ds vs s₁ _ h₁ => ?_) fun _ _ _ h => h)
 split
 ·rename_i hs
  refine wpAny_newList (Dc s₁.heap.objs.size vs.toArray 0 rfl (h₁.2.mv.dead _ (A0 _)) (UQ _ rfl) ?_ (h₁.2.trans0 (Go.of' (Mv.of_push _)))) (by rw [h₁.1.length]; exact hs)
  have hr := RDs.less (P' := fun c => Pr N env μ l c ∨ c = s₁.heap.objs.size) (fun c hc z => z.elim id fun e => absurd (A0 s₁.heap) (e ▸ hc)) h₁.1
  simpa using hr.mv0 (q := true) (F := []) (Mv.of_push _)
 ·trivial
end
end Mine
namespace Mine
variable {prog : Program} {w : World} {H : Heap} {C : Addr} {n n' : Nat} {q : Bool} {names : List Str} {sc : Scope}
variable {A : Around} {env : Env} {fs : List Env} {N Z : Addr → Prop} {μ : List Addr} {l : Loc} {m cm : Str → Option Value} {s : Shared}
noncomputable def Loc.setc (l : Loc) (k : Nat) (c : Cell) : Loc := ⟨l.vars, l.cells.set k c⟩
theorem EC {k : Nat} {c c' : Cell} {a : Addr} (hk : l.cells[k]? = some c) (hl : c.live = true) : own env μ (l.setc k c') a → own env μ l a := by
 rintro (h | h | ⟨i, d, h1, h2, h3⟩)
 ·exact .inl h
 ·exact .inr (.inl h)
 ·by_cases e : i = k
  ·subst e; exact .inr (.inr (Di i c h1 hk hl))
  ·exact .inr (.inr (Di i d h1 (by simpa [Loc.setc, List.getElem?_set_ne (Ne.symm e)] using h2) h3))
theorem Pr.sub {l' : Loc} {μ' : List Addr} {a : Addr} (h : own env μ' l' a → own env μ l a) : Pr N env μ' l' a → Pr N env μ l a := fun z => z.imp id h
theorem LR.setc {F : List Addr} {h h' : Heap} {X : Addr → Prop} {k : Nat} {c c' : Cell} {a : Addr} (r : LR prog w H names N Z F env μ l m cm h) (x : Mv q F X h h') (hX : ∀ b, X b → b = a)
  (ha : μ[k]? = some a) (hk : l.cells[k]? = some c) (hl : c.live = true) (hc : RC prog w (Pr N env μ (l.setc k c')) F μ (l.setc k c') h' a c')
  (hn : (∃ ds, c' = .list ds) ∨ ∀ (i : Nat) (is : List Nat), i ≠ k → l.cells[i]? = some (.nest is) → k ∉ is) : LR prog w H names N Z F env μ (l.setc k c') m cm h' := by
 have hso : ∀ b, own env μ (l.setc k c') b → own env μ l b := fun b => EC hk hl
 have hXo : ∀ b, X b → own env μ l b := fun b z => .inr (.inr (Di k c (by rw [hX b z]; exact ha) hk hl))
 have hXl : ∀ b, X b → b ≠ env.locals ∧ ∀ n, (n, b) ∉ env.cells := fun b z => hX b z ▸ r.notL a (T7 ha)
 have rds : ∀ {vs : List Value} {ds : List D}, RDs (Pr N env μ l) h vs ds → RDs (Pr N env μ (l.setc k c')) h' vs ds := fun y =>
  RDs.less (fun b _ z => Pr.sub (hso b) z) (RDs.mv x trivial (fun b z => .inr (hXo b z)) y)
 exact {
  ns := CO r.ns x fun z => (hXl _ z).1 rfl
  cl := fun n c e => A9 (r.cl n c e) x fun z => (hXl _ z).2 n (mem_of_lookup e)
  capart := r.capart
  clive := fun n c e => xE (r.clive n c e) fun v y => ⟨v, A9 y x fun z => (hXl _ z).2 n e⟩
  vars := fun i y u h1 h2 => by
   refine BK (r.vars i y u h1 h2) fun v h3 h4 => ?_
   exact (A4 v h3 (RW.less (RW.mv h4 x hXo trivial fun b z => .inr (hXo b z)) (fun b _ z => Pr.sub (hso b) z) fun b _ z => hso b z))
  cells := fun i b d h1 h2 => by
   by_cases e : i = k
   ·subst e
    rw [ha] at h1; cases h1
    have hlt : i < l.cells.length := (UC.mp hk).1
    simp only [Loc.setc, List.getElem?_set_self hlt] at h2
    cases h2; exact hc
   ·have h2' : l.cells[i]? = some d := by simpa [Loc.setc, List.getElem?_set_ne (Ne.symm e)] using h2
    have h3 := r.cells i b d h1 h2'
    have nX : ¬ X b := fun z => e (Fw r.nodup h1 (hX b z ▸ ha))
    cases d with
    | dead => trivial
    | list ds => refine B6 h3 fun items j hl' hr => ?_; clear h3; exact (EL items j (x.exact _ _ hl' nX (.inr (.inr (by intro _ _ z; cases z)))) (rds hr))
    | nest is =>
     refine D9 h3 fun items j hl' hr hnd hb => ?_; clear h3
     refine (Dn items j (x.exact _ _ hl' nX (.inr (.inr (by intro _ _ z; cases z)))) hr hnd (fun j hj => ⟨(hb j hj).1, ?_⟩))
     refine xE ((hb j hj).2) fun ds hds => ?_
     by_cases ej : j = k
     ·subst ej
      rcases hn with ⟨ds', rfl⟩ | hn
      ·exact ⟨ds', by simp [Loc.setc, List.getElem?_set_self (UC.mp hk).1]⟩
      ·exact absurd hj (hn i is e h2')
     ·exact ⟨ds, by simpa [Loc.setc, List.getElem?_set_ne (Ne.symm ej)] using hds⟩
    | dict kvs =>
     refine ⟨DictIs.less (Cu h3.1 x nX h3.2 trivial fun b z => .inr (hXo b z)) (fun b _ z => Pr.sub (hso b) z), h3.2⟩
  len := by simp [Loc.setc, r.len]
  nodup := r.nodup
  notN := r.notN
  notL := r.notL
  zf := r.zf
  zn := fun a e => r.zn a (x.dead a e)
  hf := fun b z => r.hf b (hso b z)
  nlive := fun a e => x.live a (r.nlive a e)
  nh := r.nh
  mlive := fun a e => x.live a (r.mlive a e)
  vlen := r.vlen
  nnodup := r.nnodup }
theorem LR.pr_not (r : LR prog w H names N Z F env μ l m cm h) {k : Nat} {a : Addr} (ha : μ[k]? = some a) {c : Cell} (hk : l.cells[k]? = some c) : ¬ Pr N env μ (l.setc k .dead) a := by
 rintro (z | z | ⟨x, z⟩ | ⟨i, d, h1, h2, h3⟩)
 ·exact r.notN a (T7 ha) z
 ·exact (r.notL a (T7 ha)).1 z
 ·exact (r.notL a (T7 ha)).2 x z
 ·have := Fw r.nodup h1 ha
  subst this
  have hlt : i < l.cells.length := (UC.mp hk).1
  simp only [Loc.setc, List.getElem?_set_self hlt] at h2
  cases h2; cases h3
noncomputable def Dk (l : Loc) (i : Nat) : Res (Nat × List D) := match l.vars[i]? with
 | some (some (.lst k)) => (match l.cells[k]? with | some (.list ds) => .ok (k, ds) | _ => .fail)
 | _ => .fail
theorem Ev {i k : Nat} {ds : List D} (h : Dk l i = .ok (k, ds)) : l.vars[i]? = some (some (.lst k)) ∧ l.cells[k]? = some (.list ds) := by
 unfold Dk at h
 split at h
 ·rename_i k' hv
  split at h
  ·rename_i ds' hc
   cases h; exact ⟨hv, hc⟩
  ·cases h
 ·cases h
theorem Jy {i : Nat} {x : Dr} : Dk l i ≠ .exc x := by
 unfold Dk; intro h; (repeat' split at h) <;> cases h
theorem IZ (f : Array Value → Array Value) (items : Array Value) (k : Nat) : ∃ k', Obj.mapSeq f { cls := .type "list", data := .seq items k } = { cls := .type "list", data := .seq (f items) k' } := ⟨_, rfl⟩
theorem Iu {a : Addr} {items : Array Value} {j : Nat} {f : Array Value → Array Value} {k : Nat} {ds ds' : List D} (cx : Cx prog w H n names sc A env fs N Z μ l m cm s)
  (ha : μ[k]? = some a) (hk : l.cells[k]? = some (.list ds)) (hg : s.heap.get? a = some { cls := .type "list", data := .seq items j }) (hr : RDs (Pr N env μ l) s.heap (f items).toList ds') :
  LR prog w H names N Z (FA fs) env μ (l.setc k (.list ds')) m cm (s.heap.update a (Obj.mapSeq f)) ∧ Go q (FA fs) (own env μ l) s { s with heap := s.heap.update a (Obj.mapSeq f) } := by
 refine xE (IZ f items j) fun j' e => ?_
 have hg' : (s.heap.update a (Obj.mapSeq f)).get? a = some { cls := .type "list", data := .seq (f items) j' } := by rw [← e]; exact UV _ hg (by rw [e]; rfl)
 have mv : ∀ q, Mv q (FA fs) (fun b => b = a) s.heap (s.heap.update a (Obj.mapSeq f)) := fun q => Mv.of_one rfl (by rw [hg']; simp) fun b o hb y => (UW _ _ (Ne.symm hb)).trans y
 have hown : own env μ l a := .inr (.inr (Di k _ ha hk rfl))
 refine ⟨cx.lr.setc (mv true) (fun b z => z) ha hk rfl (EL (f items) j' hg' ?_) (.inl ⟨ds', rfl⟩), Go.of' ((mv q).mono fun b z => z ▸ hown)⟩
 exact RDs.less (fun b _ z => Pr.sub (fun y => EC (l := l) hk rfl y) z) (RDs.mv (mv true) trivial (fun b z => .inr (z ▸ hown)) hr)
theorem Ext.setc {k : Nat} {c c' : Cell} {h : Heap} (hk : l.cells[k]? = some c) (hl : c.live = true) : Ext env μ l μ (l.setc k c') h := ⟨fun b z => .inl (EC hk hl z), List.prefix_refl _⟩
theorem Bx (cx : Cx prog w H n names sc A env fs N Z μ l m cm s) : interactive env = false := by unfold interactive; rw [cx.e.scope, cx.e.kind]; rfl
theorem F.ty_append : typeOf (.builtin "list.append") = pure (.type "method_descriptor") := by first | rfl | kernel_rfl
theorem F.ty_extend : typeOf (.builtin "list.extend") = pure (.type "method_descriptor") := by first | rfl | kernel_rfl
noncomputable def Cw (i : Nat) (f : Loc → Res D) : LM := fun l => (Dk l i).bind fun p => (f l).bind fun d => if p.2.length ≤ sizeLine then .ok (.next, l.setc p.1 (.list (p.2 ++ [d]))) else .fail
noncomputable def H9 : D → Res (List D)
 | .list ds => .ok ds
 | _ => .fail
noncomputable def EE (i : Nat) (f : Loc → Res D) : LM := fun l => (Dk l i).bind fun p => ((f l).bind H9).bind fun ds => if p.2.length + ds.length ≤ sizeLine then .ok (.next, l.setc p.1 (.list (p.2 ++ ds))) else .fail
section
variable {x : Str} {p1 p2 p3 p4 : Pos} {e : Expr} {f : Loc → Res D}
theorem Ax (i : Nat) (hi : names[i]? = some x) (h : SE prog w H C n q names sc e f) (hline : autoParam ((p2.endLine == p3.line) = true) tA)
  (hst : autoParam (∀ env, starEach [e] env = (false, eval e env) :: starEach [] env) tA) (hd : autoParam ((x == ("__debug__" : Str)) = false) tA)
  (hbase : autoParam (∀ env, attributeBase (.Name x p1) "append" env (eval (.Name x p1) env) = eval (.Name x p1) env) tA)
  (hsw : autoParam (∀ env, swapsWith (.Call (.Attribute (.Name x p1) "append" p2) [e] [] p3) none p4.line env = pure false) tA) :
  SS prog w H C n q names sc (.Expr (.Call (.Attribute (.Name x p1) "append" p2) [e] [] p3) p4) (Cw i f) := fun {A env fs N Z μ l m cm s} cx fo => by
 unfold Cw
 show Sat _ A _ ((Dk l i).bind _) _ _ s
 cases hgc : Dk l i with
 | fail => trivial
 | exc y => exact absurd hgc Jy
 | ok kd =>
  obtain ⟨k, ds⟩ := kd
  refine xA (Ev hgc) fun hv hc => ?_
  refine Ei (cx.lr.vars i x _ hi hv) fun v hl a ha z4_ => ?_; obtain rfl := z4_
  show Sat _ A _ ((f l).bind _) _ _ s
  have L : ∀ (Q : Flow → Shared → Prop) E, wpAny (model prog w) A (eval e env) (fun v s₁ => ∃ (items : Array Value) (n : Nat), items.size ≤ sizeLine ∧ PySem.IsL s₁.heap a items n ∧ Q .next { s₁ with heap := s₁.heap.update a (Obj.mapSeq fun xs => xs.push v) }) E s →
    wpAny (model prog w) A (exec (.Expr (.Call (.Attribute (.Name x p1) "append" p2) [e] [] p3) p4) env) Q E s := fun Q E hh => by
   refine B6 (cx.lr.cells k a _ ha hc) fun items j hg hr => ?_
   refine wpAny_Expr ?_ (Bx cx) (hsw env)
   refine wpAny_Call_method_lateS (hbase env) (by rw [hst env]; rfl) hline (wpAny_Name (Bp cx hl ?_) hd)
   refine (Fk ("list") ("list.append") PySem.F.plainAttrs_list PySem.F.slot_list_append F.ty_append (A4 _ hg rfl) (fun b e => by cases e; exact (A4 _ hg rfl)) ?_)
   rw [hst env]
   exact PySem.P.append_list hh
  have h0 := h cx
  cases hf : f l with
  | fail => trivial
  | exc y => rw [hf] at h0; exact L _ _ (To h0 (fun _ _ z => z.elim) fun _ _ z => z.toS cx)
  | ok d =>
   rw [hf] at h0
   show Sat _ A _ (if ds.length ≤ sizeLine then _ else _) _ _ s
   split
   ·rename_i hsz
    refine L _ _ (To h0 (fun v s₁ h₁ => ?_) fun _ _ z => z.elim)
    have cx₁ := cx.go h₁.2
    refine B6 (cx₁.lr.cells k a _ ha hc) fun items j hg hr => ?_
    refine (Di items j (by rw [Aa hr]; exact hsz) hg ?_)
    refine xA (Iu (q := q) (f := fun xs => xs.push v) (ds' := ds ++ [d]) cx₁ ha hc hg (by simpa using hr.append (.cons h₁.1 .nil))) fun lr g => ?_
    exact okS.after (s₁ := s₁) (μ' := μ) (l' := l) ⟨μ, m, cm, trivial, lr, g, .setc hc rfl⟩ (h₁.2.mono fun _ z => z.elim) .refl
   ·trivial
theorem Bs (i : Nat) (hi : names[i]? = some x) (h : SE prog w H C n q names sc e f) (hline : autoParam ((p2.endLine == p3.line) = true) tA)
  (hst : autoParam (∀ env, starEach [e] env = (false, eval e env) :: starEach [] env) tA) (hd : autoParam ((x == ("__debug__" : Str)) = false) tA)
  (hbase : autoParam (∀ env, attributeBase (.Name x p1) "extend" env (eval (.Name x p1) env) = eval (.Name x p1) env) tA)
  (hsw : autoParam (∀ env, swapsWith (.Call (.Attribute (.Name x p1) "extend" p2) [e] [] p3) none p4.line env = pure false) tA) :
  SS prog w H C n q names sc (.Expr (.Call (.Attribute (.Name x p1) "extend" p2) [e] [] p3) p4) (EE i f) := fun {A env fs N Z μ l m cm s} cx fo => by
 unfold EE
 show Sat _ A _ ((Dk l i).bind _) _ _ s
 cases hgc : Dk l i with
 | fail => trivial
 | exc y => exact absurd hgc Jy
 | ok kd =>
  obtain ⟨k, ds⟩ := kd
  refine xA (Ev hgc) fun hv hc => ?_
  refine Ei (cx.lr.vars i x _ hi hv) fun v hl a ha z4_ => ?_; obtain rfl := z4_
  show Sat _ A _ (((f l).bind H9).bind _) _ _ s
  have L : ∀ (Q : Flow → Shared → Prop) E, wpAny (model prog w) A (eval e env) (fun v s₁ => ∃ (b : Addr) (items items2 : Array Value) (n n2 : Nat), items.size ≤ sizeLine ∧ items.size + items2.size ≤ sizeLine + 1 ∧ ¬(!items.isEmpty && Builtin.List.listTooLong (items.size + items2.size)) = true ∧ v = .ref b ∧ PySem.IsL s₁.heap a items n ∧ PySem.IsL s₁.heap b items2 n2 ∧ Q .next { s₁ with heap := s₁.heap.update a (Obj.mapSeq fun xs => xs ++ items2) }) E s →
    wpAny (model prog w) A (exec (.Expr (.Call (.Attribute (.Name x p1) "extend" p2) [e] [] p3) p4) env) Q E s := fun Q E hh => by
   refine B6 (cx.lr.cells k a _ ha hc) fun items j hg hr => ?_
   refine wpAny_Expr ?_ (Bx cx) (hsw env)
   refine wpAny_Call_method_lateS (hbase env) (by rw [hst env]; rfl) hline (wpAny_Name (Bp cx hl ?_) hd)
   refine (Fk ("list") ("list.extend") PySem.F.plainAttrs_list PySem.F.slot_list_extend F.ty_extend (A4 _ hg rfl) (fun b e => by cases e; exact (A4 _ hg rfl)) ?_)
   rw [hst env]
   exact PySem.P.extend_list hh
  have h0 := h cx
  cases hf : f l with
  | fail => trivial
  | exc y => rw [hf] at h0; exact L _ _ (To h0 (fun _ _ z => z.elim) fun _ _ z => z.toS cx)
  | ok d =>
   rw [hf] at h0
   show Sat _ A _ ((H9 d).bind _) _ _ s
   unfold H9
   split
   ·rename_i es
    show Sat _ A _ (if ds.length + es.length ≤ sizeLine then _ else _) _ _ s
    split
    ·rename_i hsz
     refine L _ _ (To h0 (fun v s₁ h₁ => ?_) fun _ _ z => z.elim)
     have cx₁ := cx.go h₁.2
     refine B6 (cx₁.lr.cells k a _ ha hc) fun items j hg hr => ?_
     refine CP h₁.1.list_inv fun b items2 j2 z3_ hg2 hp2 hr2 => ?_; obtain rfl := z3_
     have e1 := Aa hr
     have e2 := Aa hr2
     refine ⟨b, items, items2, j, j2, by lia, by lia, ?_, rfl, hg, hg2, ?_⟩
     ·rw [e1, e2]
      unfold Builtin.List.listTooLong
      simp; lia
     refine xA (Iu (q := q) (f := fun xs => xs ++ items2) (ds' := ds ++ es) cx₁ ha hc hg (by simpa using hr.append hr2)) fun lr g => ?_
     exact okS.after (s₁ := s₁) (μ' := μ) (l' := l) ⟨μ, m, cm, trivial, lr, g, .setc hc rfl⟩ (h₁.2.mono fun _ z => z.elim) .refl
    ·trivial
   ·trivial
end
end Mine
namespace Mine
variable {prog : Program} {w : World} {H : Heap} {C : Addr} {n n' : Nat} {q : Bool} {names : List Str} {sc : Scope}
variable {A : Around} {env : Env} {fs : List Env} {N Z : Addr → Prop} {μ : List Addr} {l : Loc} {m cm : Str → Option Value} {s : Shared}
theorem NA {e : Expr} {pos : Pos} {f : Loc → Res Dr} (h : SX prog w H C n q names sc e f) : SS prog w H C n q names sc (.Return (some e) pos) fun l => (f l).bind fun x => .ok (.ret (.ex x), l) := fun {A env fs N Z μ l m cm s} cx fo => by
 rw [exec_Return_some]
 refine Sat.standAt (Sat.bind (h cx) (fun x v s₁ _ h₁ => ?_) fun _ _ _ h => h.toS cx)
 exact Tr ⟨μ, m, cm, h₁.1, (cx.go h₁.2).lr, h₁.2.mono fun _ z => z.elim, .refl⟩
noncomputable def Cg : D → D → Res D
 | .int a, .int b => .ok (.int (a + b))
 | _, _ => .fail
theorem Cb : Iy prog w C (inplaceOp .Add) Cg := by
 intro A F P s a b d e hA hP ra rb
 unfold Cg
 split
 ·refine xE ra.int_inv fun t z1_ => ?_; obtain rfl := z1_
  refine xE rb.int_inv fun u z1_ => ?_; obtain rfl := z1_
  exact iadd_int okE.int
 ·trivial
noncomputable def Nt : D → D → Res D
 | .int a, .int b => .ok (.int (a - b))
 | _, _ => .fail
theorem Rj : Iy prog w C (inplaceOp .Sub) Nt := by
 intro A F P s a b d e hA hP ra rb
 unfold Nt
 split
 ·refine xE ra.int_inv fun t z1_ => ?_; obtain rfl := z1_
  refine xE rb.int_inv fun u z1_ => ?_; obtain rfl := z1_
  exact isub_int okE.int
 ·trivial
noncomputable def F5 (i : Nat) (op : D → D → Res D) (f : Loc → Res D) : LM := fun l => ((getv l i).bind fun d => (f l).bind fun e => op d e).bind fun d => .ok (.next, l.setv i (.d d))
theorem DH (i : Nat) {x : Str} {e : Expr} {o : Operator} {op : D → D → Res D} {p pos : Pos} {f : Loc → Res D} (hi : names[i]? = some x) (hk : DG sc x = true) (hop : Iy prog w C (inplaceOp o) op) (h : SE prog w H C n q names sc e f) :
  SS prog w H C n q names sc (.AugAssign (.Name x p) o e pos) (F5 i op f) := fun {A env fs N Z μ l m cm s} cx fo => by
 rw [exec_AugAssign_Name]
 refine Sat.standAt ?_
 show Sat _ A _ (((getv l i).bind _).bind _) _ _ s
 unfold getv
 split
 ·rename_i d hd'
  refine BK (cx.lr.vars i x _ hi hd') fun v hv hr => ?_
  rw [Res.bind_assoc]
  refine Sat.bind (R := fun d' v' s' => d' = d ∧ v' = v ∧ s' = s) (Ex := exS C fs env μ l s) (Bp cx hv (KB rfl rfl rfl)) (fun d' v' s' _ h₁ => ?_) fun _ _ _ h => h
  refine Ku h₁ fun z0_ z1_ z2_ => ?_; clear h₁; obtain rfl := z0_; obtain rfl := z1_; obtain rfl := z2_
  rw [Res.bind_assoc]
  refine Sat.bind (Sat.holding (h cx)) (fun e' b s₂ _ h₂ => ?_) fun _ _ _ h => h.toS cx
  have cx₂ := cx.go h₂.2
  refine Sat.standAt (Sat.bind (Sat.operate (hop A (FA fs) _ s₂ v' b d' e' cx.aok cx₂.plive (RD.mv0 hr h₂.2.mv) h₂.1)) (fun r c s₃ _ h₃ => ?_) fun _ _ _ h => h.afterS cx₂ (h₂.2.mono fun _ z => z.elim))
  have g := h₂.2.trans0 h₃.2.up
  have cx₃ := cx₂.go h₃.2
  refine Tn (UA (Tn (wpAny_bindName (Iw (q := q) cx₃ hi hk (u := .d r) h₃.1 fun s₄ m₄ cm₄ lr g₂ => Tr ?_))))
  exact okS.after (MC cx₃ lr g₂) (g.mono fun _ z => z.elim) .refl
 ·trivial
noncomputable def Loc.newc (l : Loc) (i : Nat) (u : Nat → W) (c : Cell) : Loc := ⟨l.vars.set i (some (u l.cells.length)), l.cells ++ [c]⟩
theorem LR.new {F : List Addr} {h h' : Heap} {b : Addr} {c : Cell} (r : LR prog w H names N Z F env μ l m cm h) (x : Mv q F No h h') (hb : h.get? b = none) (hl : h'.get? b ≠ none)
  (hc : RC prog w (fun a => Pr N env μ l a ∨ a = b) F μ ⟨l.vars, l.cells ++ [c]⟩ h' b c) (hcn : ∀ is, c = .nest is → is = []) (hz : Z b) (hH : H.get? b = none) : LR prog w H names N Z F env (μ ++ [b]) ⟨l.vars, l.cells ++ [c]⟩ m cm h' := by
 have hbμ : b ∉ μ := fun z => r.mlive b z hb
 have hown : ∀ a, own env (μ ++ [b]) ⟨l.vars, l.cells ++ [c]⟩ a → own env μ l a ∨ a = b := by
  rintro a (z | z | ⟨i, d, h1, h2, h3⟩)
  ·exact .inl (.inl z)
  ·exact .inl (.inr (.inl z))
  ·by_cases hi : i < μ.length
   ·rw [UI hi] at h1
    rw [UI (by rw [← r.len]; exact hi)] at h2
    exact .inl (.inr (.inr (Di i d h1 h2 h3)))
   ·rw [UX (by exact Nat.le_of_not_lt (by assumption))] at h1
    have := T7 h1
    simp at this
    exact .inr this
 have hPr : ∀ a, Pr N env (μ ++ [b]) ⟨l.vars, l.cells ++ [c]⟩ a → Pr N env μ l a ∨ a = b := fun a z => z.elim (fun z => .inl (.inl z)) fun z => (hown a z).imp .inr id
 have less : ∀ a, h.get? a ≠ none → Pr N env (μ ++ [b]) ⟨l.vars, l.cells ++ [c]⟩ a → Pr N env μ l a := fun a ha z => (hPr a z).resolve_right fun e => ha (e ▸ hb)
 have lessO : ∀ a, h.get? a ≠ none → own env (μ ++ [b]) ⟨l.vars, l.cells ++ [c]⟩ a → own env μ l a := fun a ha z => (hown a z).resolve_right fun e => ha (e ▸ hb)
 have rds : ∀ {vs : List Value} {ds : List D}, RDs (Pr N env μ l) h vs ds → RDs (Pr N env (μ ++ [b]) ⟨l.vars, l.cells ++ [c]⟩) h' vs ds := fun y => (RDs.less less y).mv0 x
 exact {
  ns := CO r.ns x id
  cl := fun n c e => A9 (r.cl n c e) x id
  capart := r.capart
  clive := fun n c e => xE (r.clive n c e) fun v y => ⟨v, A9 y x id⟩
  vars := fun i y u h1 h2 => by
   refine BK (r.vars i y u h1 h2) fun v h3 h4 => ?_
   refine (A4 v h3 ?_)
   have h5 := RW.mv (RW.less h4 less lessO) x (fun _ z => z.elim) trivial fun _ z => z.elim
   cases u with
   | d y => exact h5
   | lst j =>
    refine BK h5 fun a ha hv => ?_; clear h5
    exact (A4 a (by rw [UI (UC.mp ha).1]; exact ha) hv)
   | dct j =>
    refine BK h5 fun a ha hv => ?_; clear h5
    exact (A4 a (by rw [UI (UC.mp ha).1]; exact ha) hv)
   | bd kvs => exact h5
  cells := fun i a d h1 h2 => by
   by_cases hi : i < μ.length
   ·rw [UI hi] at h1
    simp only at h2
    rw [UI (by rw [← r.len]; exact hi)] at h2
    have h3 := r.cells i a d h1 h2
    cases d with
    | dead => trivial
    | list ds => refine B6 h3 fun items j hl' hr => ?_; clear h3; exact (EL items j (x.exact _ _ hl' id (.inr (.inr (by intro _ _ z; cases z)))) (rds hr))
    | nest is =>
     refine D9 h3 fun items j hl' hr hnd hb' => ?_; clear h3
     refine (Dn items j (x.exact _ _ hl' id (.inr (.inr (by intro _ _ z; cases z)))) ?_ hnd (fun j hj => ?_))
     ·rw [hr]
      refine List.map_congr_left fun j hj => ?_
      have := (hb' j hj).1
      simp [List.getD, UI this]
     ·refine xAE (hb' j hj) fun h4 ds h5 => ?_
      exact (yAE (by simp; exact Nat.lt_succ_of_lt (by assumption)) ds (by simp only; rw [UI (by rw [← r.len]; exact h4)]; exact h5))
    | dict kvs => exact ⟨Cu (DictIs.less h3.1 less) x id h3.2 trivial fun _ z => z.elim, h3.2⟩
   ·have hlen := (UC.mp h1).1
    simp at hlen
    have hi' : i = μ.length := by lia
    subst hi'
    simp at h1
    rw [r.len] at h2
    simp at h2
    subst h1 h2
    cases c with
    | dead => trivial
    | list ds => refine B6 hc fun items j hl' hr => ?_; clear hc; exact (EL items j hl' (RDs.less (fun a _ z => hPr a z) hr))
    | nest is =>
     obtain rfl := hcn is rfl
     refine GB hc fun items j hl' hr _ => ?_; clear hc
     exact (Dn items j hl' (by simpa using hr) List.nodup_nil (by simp))
    | dict kvs => exact ⟨DictIs.less hc.1 (fun a _ z => hPr a z), hc.2⟩
  len := by simp [r.len]
  nodup := by
   rw [List.nodup_append]
   exact (KB r.nodup (by simp) (fun a ha c hc => by simp at hc; subst hc; intro y1_; obtain rfl := y1_; exact hbμ ha))
  notN := fun a ha => by
   rcases T8.mp ha with ha | ha
   ·exact r.notN a ha
   ·simp at ha; subst ha; exact fun z => r.nlive a z hb
  notL := fun a ha => by
   rcases T8.mp ha with ha | ha
   ·exact r.notL a ha
   ·simp at ha; subst ha
    refine ⟨fun e => ?_, fun n hm => ?_⟩
    ·refine CB r.ns fun o _ _ e' _ => ?_; rw [e, e'] at hb; cases hb
    ·refine B6 (r.clive n a hm) fun v o e' _ => ?_; rw [e'] at hb; cases hb
  zf := fun a ha => by
   rcases T8.mp ha with ha | ha
   ·exact r.zf a ha
   ·simp at ha; subst ha; exact hz
  zn := fun a e => r.zn a (x.dead a e)
  hf := fun a z => by
   rcases hown a z with z | z
   ·exact r.hf a z
   ·exact z ▸ hH
  nlive := fun a e => x.live a (r.nlive a e)
  nh := r.nh
  mlive := fun a ha => by
   rcases T8.mp ha with ha | ha
   ·exact x.live a (r.mlive a ha)
   ·simp at ha; subst ha; exact hl
  vlen := r.vlen
  nnodup := r.nnodup }
theorem N8 {b : Addr} {c : Cell} (hlen : μ.length = l.cells.length) {a : Addr} : own env (μ ++ [b]) ⟨l.vars, l.cells ++ [c]⟩ a → own env μ l a ∨ a = b := by
 rintro (z | z | ⟨i, d, h1, h2, h3⟩)
 ·exact .inl (.inl z)
 ·exact .inl (.inr (.inl z))
 ·by_cases hi : i < μ.length
  ·rw [UI hi] at h1
   rw [UI (by rw [← hlen]; exact hi)] at h2
   exact .inl (.inr (.inr (Di i d h1 h2 h3)))
  ·rw [UX (by exact Nat.le_of_not_lt (by assumption))] at h1
   have := T7 h1
   simp at this
   exact .inr this
theorem F2 {b : Addr} (cx : Cx prog w H n names sc A env fs N Z μ l m cm s) (hb : s.heap.get? b = none) : H.get? b = none := by
 cases y : H.get? b with
 | none => rfl
 | some o => rw [cx.inv.base b o y] at hb; cases hb
theorem L5 {b : Addr} {c : Cell} {u : Nat → W} {s₁ : Shared} (cx : Cx prog w H n names sc A env fs N Z μ l m cm s) (g : Go q (FA fs) No s s₁) (hb : s.heap.get? b = none) (hl : s₁.heap.get? b ≠ none)
  (hc : RC prog w (fun a => Pr N env μ l a ∨ a = b) (FA fs) μ ⟨l.vars, l.cells ++ [c]⟩ s₁.heap b c) (hcn : ∀ is, c = .nest is → is = []) (hu : u l.cells.length = .lst l.cells.length ∨ u l.cells.length = .dct l.cells.length)
  {i : Nat} {x : Str} (hi : names[i]? = some x) (hk : DG sc x = true) {Q : Unit → Shared → Prop} {E : Value → Shared → Prop}
  (h : ∀ s₂ m₂ cm₂, LR prog w H names N Z (FA fs) env (μ ++ [b]) (l.newc i u c) m₂ cm₂ s₂.heap → Go q (FA fs) (own env μ l) s s₂ → Ext env μ l (μ ++ [b]) (l.newc i u c) s.heap → Q () s₂) :
  wpAny (model prog w) A (storeName env x (.ref b)) Q E s₁ := by
 have lr := cx.lr.new g.mv hb hl hc hcn (cx.lr.zn b hb) (F2 cx hb)
 have cx₁ : Cx prog w H n names sc A env fs N Z (μ ++ [b]) ⟨l.vars, l.cells ++ [c]⟩ m cm s₁ := ⟨cx.a, cx.e, cx.fr, cx.inv.go0 g.mv, lr⟩
 have hbi : (μ ++ [b])[l.cells.length]? = some b := by rw [← cx.lr.len]; simp
 refine Iw (q := q) cx₁ hi hk (u := u l.cells.length) (by rcases hu with e | e <;> rw [e] <;> exact (A4 b hbi rfl)) fun s₂ m₂ cm₂ lr₂ g₂ => h s₂ m₂ cm₂ lr₂ ?_ ?_
 ·exact (g.mono (X' := own env μ l) fun _ z => z.elim).trans g₂ fun a z => (N8 (c := c) (l := l) cx.lr.len z).imp id fun e : a = b => by rw [e]; exact hb
 ·exact ⟨fun a z => (N8 (c := c) (l := l) cx.lr.len z).imp id fun e : a = b => by rw [e]; exact hb, List.prefix_append _ _⟩
noncomputable def FL (i : Nat) (f : Loc → Res (List D)) : LM := fun l => (f l).bind fun ds => .ok (.next, l.newc i .lst (.list ds))
theorem C7 (i : Nat) {x : Str} {e : Expr} {p pos : Pos} {f : Loc → Res (List D)} (hi : names[i]? = some x) (hk : DG sc x = true) (h : SF prog w H C n q names sc e f)
  (hs : autoParam (∀ env, swapsWith e (some (.Name x p)) pos.line env = pure false) tA) (hsw : autoParam (∀ env, swappedStores [.Name x p] e env = pure none) tA) : SS prog w H C n q names sc (.Assign [.Name x p] e pos) (FL i f) := fun {A env fs N Z μ l m cm s} cx fo => by
 rw [exec_Assign_Name env x p e pos (hs env)]
 refine Sat.standAt (Sat.bind (h cx) (fun ds v s₁ _ h₁ => ?_) fun _ _ _ h => h.toS cx)
 refine De h₁ fun b items k z3_ hb hg hr g => ?_; clear h₁; obtain rfl := z3_
 refine Tn (UA (Tn (wpAny_bindName (L5 (q := q) (u := .lst) (c := .list ds) cx g hb (by rw [hg]; simp) (EL items k hg hr) (by intro _ z; cases z) (.inl rfl) hi hk fun s₂ m₂ cm₂ lr g₂ ext => Tr ?_))))
 exact ⟨_, m₂, cm₂, trivial, lr, g₂, ext⟩
noncomputable def MQ (i : Nat) : LM := fun l => .ok (.next, l.newc i .lst (.nest []))
theorem Nm (i : Nat) {x : Str} {lp p pos : Pos} (hi : names[i]? = some x) (hk : DG sc x = true)
  (hs : autoParam (∀ env, swapsWith (.List [] lp) (some (.Name x p)) pos.line env = pure false) tA) : SS prog w H C n q names sc (.Assign [.Name x p] (.List [] lp) pos) (MQ i) := fun {A env fs N Z μ l m cm s} cx fo => by
 rw [exec_Assign_Name env x p _ pos (hs env)]
 have h := CN (pos := lp) (AJ (prog := prog) (w := w) (H := H) (C := C) (n := n) (q := q) (names := names) (sc := sc)) cx
 have h : wpAny (model prog w) A (eval (.List [] lp) env) _ (fun _ _ => False) s := h
 refine Tn (UA (Tn (To h (fun v s₁ h₁ => ?_) fun _ _ f => f.elim)))
 refine De h₁ fun b items k z3_ hb hg hr g => ?_; clear h₁; obtain rfl := z3_
 have hi0 : items.toList = [] := by cases hh : items.toList with
  | nil => rfl
  | cons a r => rw [hh] at hr; cases hr
 refine Tn (UA (Tn (wpAny_bindName (L5 (q := q) (u := .lst) (c := .nest []) cx g hb (by rw [hg]; simp) (Dn items k hg (by simpa using hi0) List.nodup_nil (by simp)) (by intro _ z; cases z; rfl) (.inl rfl) hi hk fun s₂ m₂ cm₂ lr g₂ ext => Tr ?_))))
 exact ⟨_, m₂, cm₂, trivial, lr, g₂, ext⟩
end Mine
namespace Mine
variable {prog : Program} {w : World} {H : Heap} {C : Addr} {n n' : Nat} {q : Bool} {names : List Str} {sc : Scope}
variable {A : Around} {env : Env} {fs : List Env} {N Z : Addr → Prop} {μ : List Addr} {l : Loc} {m cm : Str → Option Value} {s : Shared}
noncomputable def Kb (k : Nat) (ds : List D) : Option W → Option W
 | some (.lst j) => if j = k then some (.d (.list ds)) else some (.lst j)
 | u => u
noncomputable def Qg (l : Loc) (k : Nat) : Bool := l.cells.all fun c => match c with
 | .nest is => !is.contains k
 | _ => true
noncomputable def frz (i : Nat) (l : Loc) : Loc := match Dk l i with
 | .ok (k, ds) => if Qg l k then ⟨l.vars.map (Kb k ds), l.cells.set k .dead⟩ else l
 | _ => l
theorem O4 {k : Nat} (h : Qg l k = true) {i : Nat} {is : List Nat} (e : l.cells[i]? = some (.nest is)) : k ∉ is := by
 have := List.all_eq_true.mp h _ (T7 e)
 simpa using this
theorem LR.frz {F : List Addr} {h : Heap} (i : Nat) (r : LR prog w H names N Z F env μ l m cm h) : LR prog w H names N Z F env μ (frz i l) m cm h ∧ ∀ a, own env μ (frz i l) a → own env μ l a := by
 unfold Mine.frz
 split
 ·rename_i k ds hg
  split
  ·rename_i hnn
   refine xA (Ev hg) fun hv hc => ?_
   have hkl : k < μ.length := by rw [r.len]; exact (UC.mp hc).1
   obtain ⟨a, ha⟩ : ∃ a, μ[k]? = some a := ⟨μ[k], by simp [hkl]⟩
   have r' := r.setc (Mv.refl true F No h) (fun b z => z.elim) ha hc rfl (c' := .dead) trivial (.inr fun j is _ e => O4 hnn e)
   refine ⟨{ r' with vars := fun j y u h1 h2 => ?_, vlen := by simpa using r.vlen }, fun b z => EC (l := l) hc rfl z⟩
   simp only [UH, US] at h2
   refine BK h2 fun u0 hu0 hu => ?_; clear h2
   have same : ∀ u1, u0 = some u1 → u = u1 → ∃ v, G5 env m cm y = some v ∧ RW prog w (Pr N env μ (l.setc k .dead)) (own env μ (l.setc k .dead)) F μ h v u := fun u1 e1 e2 => by
    subst e2 e1
    exact r'.vars j y u h1 hu0
   cases u0 with
   | none => simp [Kb] at hu
   | some u1 =>
    cases u1 with
    | lst j' =>
     simp only [Kb] at hu
     split at hu
     ·rename_i hj
      cases hu
      subst hj
      refine Ei (r.vars j y _ h1 hu0) fun v hl a' ha' z4_ => ?_; obtain rfl := z4_
      rw [ha] at ha'; cases ha'
      refine B6 (r.cells j' a _ ha hc) fun items kk hgg hr => ?_
      exact (A4 _ hl (.list hgg (r.pr_not ha hc) (RDs.less (fun b _ z => Pr.sub (fun y => EC (l := l) hc rfl y) z) hr)))
     ·cases hu; exact same _ rfl rfl
    | d x => simp only [Kb] at hu; cases hu; exact same _ rfl rfl
    | dct x => simp only [Kb] at hu; cases hu; exact same _ rfl rfl
    | bd x => simp only [Kb] at hu; cases hu; exact same _ rfl rfl
  ·exact ⟨r, fun _ z => z⟩
 ·exact ⟨r, fun _ z => z⟩
theorem okS.wider {l₁ : Loc} {s' : Shared} {p : Fl × Loc} {flow : Flow} (ho : ∀ a, own env μ l₁ a → own env μ l a) (h : okS prog w H C q names fs N Z env μ l₁ s p flow s') : okS prog w H C q names fs N Z env μ l s p flow s' := by
 obtain ⟨μ', m', cm', h1, h2, h3, h4⟩ := h
 exact ⟨μ', m', cm', h1, h2, h3.mono ho, fun a z => (h4.own a z).imp (ho a) id, h4.pre⟩
theorem exS.wider {l₁ : Loc} {s' : Shared} {x : Dr} {e : Value} (ho : ∀ a, own env μ l₁ a → own env μ l a) (h : exS C fs env μ l₁ s x e s') : exS C fs env μ l s x e s' := ⟨h.1, h.2.mono ho, h.3⟩
theorem JJ (i : Nat) {b : List Stmt} {g : Loc → Res (Fl × Loc)} (h : SB prog w H C n q names sc b g) : SB prog w H C n q names sc b fun l => g (frz i l) := fun {A env fs N Z μ l m cm s} cx fo => by
 refine xA (cx.lr.frz i) fun lr ho => ?_
 exact Sat.mono (h ⟨cx.a, cx.e, cx.fr, cx.inv, lr⟩ fo) (fun _ _ _ _ y => y.wider ho) fun _ _ _ _ y => y.wider ho
theorem O2 {P : Addr → Prop} {h : Heap} (h3 : 1 < h.objs.size) : DictIs prog w P (h.push { cls := .type "dict", data := .dict #[] }) h.objs.size [] :=
 ⟨[], Heap.DictOf.new h, rfl, .nil, beq_eq_false_iff_ne.mpr fun e => by rw [e] at h3; exact absurd h3 (by decide)⟩
noncomputable def JU (i : Nat) : LM := fun l => .ok (.next, l.newc i .dct (.dict []))
theorem RY (cx : Cx prog w H n names sc A env fs N Z μ l m cm s) {b : Addr} (hb : b ∈ FA fs) : s.heap.get? b ≠ none := by
 refine Gc (cx.inv.fns b hb) fun _ o _ _ e _ => ?_; rw [e]; simp
theorem JV {mg mb : Str → Option Value} (G : Gl H mg mb) (i : Nat) {x : Str} {lp p pos : Pos} (hi : names[i]? = some x) (hk : DG sc x = true)
  (hs : autoParam (∀ env, swapsWith (.Dict [] [] lp) (some (.Name x p)) pos.line env = pure false) tA) : SS prog w H C n q names sc (.Assign [.Name x p] (.Dict [] [] lp) pos) (JU i) := fun {A env fs N Z μ l m cm s} cx fo => by
 rw [exec_Assign_Name env x p _ pos (hs env)]
 refine Tn (UA (Tn (wpAny_Dict_empty ?_)))
 have h3 : 1 < s.heap.objs.size := by
  have := (LK G.g cx.inv.base).lt
  exact Nat.lt_trans (by decide : 1 < mainGlobals) this
 refine Tn (UA (Tn (wpAny_bindName (L5 (q := q) (u := .dct) (c := .dict []) cx (Go.of' (Mv.of_push _)) (A0 _) (by rw [UQ _ rfl]; simp)
  ⟨O2 h3, fun z => RY cx z (A0 _)⟩ (by intro _ z; cases z) (.inr rfl) hi hk fun s₂ m₂ cm₂ lr g₂ ext => Tr ?_))))
 exact ⟨_, m₂, cm₂, trivial, lr, g₂, ext⟩
noncomputable def B4 (kvs : List (Str × D)) (k : Str) : Option D := (kvs.find? fun kv => kv.1 = k).map (·.2)
theorem Ha {P : Addr → Prop} {h : Heap} {k : Str} : ∀ {kv' : List (Str × Value)} {kvs : List (Str × D)}, kv'.map (·.1) = kvs.map (·.1) → RDs P h (kv'.map (·.2)) (kvs.map (·.2)) →
  (valueAt kv' k).isSome = (B4 kvs k).isSome ∧ ∀ d, B4 kvs k = some d → ∃ v, valueAt kv' k = some v ∧ RD P h v d
 | [], [], _, _ => ⟨rfl, by simp [B4]⟩
 | [], _ :: _, h, _ => by simp at h
 | _ :: _, [], h, _ => by simp at h
 | (x, v) :: r, (y, d) :: r', h, rs => by
  simp only [T1, List.cons.injEq] at h
  obtain ⟨rfl, h⟩ := h
  obtain ⟨r1, rs⟩ := RDs.head rs
  have ih := Ha (k := k) h rs
  by_cases e : x = k
  ·subst e
   exact ⟨by simp [valueAt, B4], fun d' hd => by simp [B4] at hd; subst hd; exact (A4 v (by simp [valueAt]) r1)⟩
  ·have e1 : valueAt ((x, v) :: r) k = valueAt r k := by simp [valueAt, List.find?_cons, e]
   have e2 : B4 ((x, d) :: r') k = B4 r' k := by simp [B4, List.find?_cons, e]
   rw [e1, e2]; exact ih
section
variable {x : Str} {p pos : Pos} {e : Expr} {f : Loc → Res D}
noncomputable def Mi (neg : Bool) (i : Nat) (f : Loc → Res D) : Loc → Res D := fun l => (f l).bind fun d => match d with
 | .str k => (Dx l i).bind fun kvs => .ok (.bool ((B4 kvs k).isSome != neg))
 | _ => .fail
theorem Qd {i : Nat} {x : Dr} : Dx l i ≠ .exc x := by unfold Dx; intro h; (repeat' split at h) <;> cases h
theorem TA (neg : Bool) (i : Nat) (hi : names[i]? = some x) (h : SE prog w H C n q names sc e f) (hd : autoParam ((x == ("__debug__" : Str)) = false) tA) :
  SE prog w H C n q names sc (.Compare e [if neg then .NotIn else .In] [.Name x p] pos) (Mi neg i f) := fun {A env fs N Z μ l m cm s} cx => by
 rw [eval_Compare1, markedBehindIn_of_false (by cases neg <;> rfl)]
 unfold Mi
 refine Sat.bind (h cx) (fun d a s₁ _ h₁ => ?_) fun _ _ _ h => h
 have cx₁ := cx.go h₁.2
 cases d with
 | str k =>
  refine xE h₁.1.str_inv fun t z1_ => ?_; obtain rfl := z1_
  show Sat _ A _ ((Dx l i).bind _) _ _ s₁
  cases hg : Dx l i with
  | fail => trivial
  | exc y => exact absurd hg Qd
  | ok kvs =>
   refine Tn (UF (Gz i hi hd cx₁ hg fun b hD hF => ?_))
   obtain ⟨kv', hd', hk, hr, hs⟩ := hD
   refine xA (Ha (k := k) hk hr) fun l1 _ => ?_
   refine Tn (UA (wpAny_operating ?_))
   have hkey : (PySem.strKind prog w).is k (.str k t) = true := by show Value.isStrOf k (.str k t) = true; simp [Value.isStrOf]
   cases neg with
   | false => exact wpAny_in_of hkey hs hd'.mapOf ⟨by rw [l1]; simpa using .bool _, h₁.2.trans0 (Go.of_toks ..)⟩
   | true => exact wpAny_notIn_of hkey hs hd'.mapOf ⟨by rw [l1]; simpa using .bool _, h₁.2.trans0 (Go.of_toks ..)⟩
 | _ => trivial
theorem M0 (neg : Bool) (i : Nat) (hi : names[i]? = some x) (h : SE prog w H C n q names sc e f) (hd : autoParam ((x == ("__debug__" : Str)) = false) tA) :
  ST prog w H C n q names sc (.Compare e [if neg then .NotIn else .In] [.Name x p] pos) fun l => (Mi neg i f l).bind AF := fun {A env fs N Z μ l m cm s} cx => by
 have h0 := TA (pos := pos) (p := p) neg i hi h hd cx
 rw [isTrue_Compare1]
 rw [eval_Compare1] at h0
 have e : (eval e env >>= fun a => holding [a] (markedBehindIn (if neg then .NotIn else .In) (.Name x p) (eval (.Name x p) env)) >>= fun b => standAt pos >>= fun _ => operate [a, b] (compareOp (if neg then .NotIn else .In) a b) >>= fun c => holding [c] (truthy c)) =
  ((eval e env >>= fun a => holding [a] (markedBehindIn (if neg then .NotIn else .In) (.Name x p) (eval (.Name x p) env)) >>= fun b => standAt pos >>= fun _ => operate [a, b] (compareOp (if neg then .NotIn else .In) a b)) >>= fun c => holding [c] (truthy c)) := by
  simp only [bind_assoc]
 rw [e]
 refine Sat.bind h0 (fun d v s₁ _ h₁ => Sat.holding ?_) fun _ _ _ h => h
 exact Sat.mono (D8 h₁.1) (fun _ _ _ _ x => ⟨x.1, h₁.2.trans0 x.2⟩) fun _ _ _ _ h => h.after h₁.2
noncomputable def Kz (i : Nat) (f : Loc → Res D) : Loc → Res D := fun l => (Dx l i).bind fun kvs => (f l).bind fun d => match d with
 | .str k => (match B4 kvs k with | some d => .ok d | none => .fail)
 | _ => .fail
theorem OQ (i : Nat) (hi : names[i]? = some x) (h : SE prog w H C n q names sc e f) (hns : autoParam (∀ o i, subscripted e false o i = operate [o, i] (getItem o i)) tA) (hd : autoParam ((x == ("__debug__" : Str)) = false) tA) :
  SE prog w H C n q names sc (.Subscript (.Name x p) e pos) (Kz i f) := fun {A env fs N Z μ l m cm s} cx => by
 rw [eval_Subscript]
 unfold Kz
 show Sat _ A _ ((Dx l i).bind _) _ _ s
 cases hg : Dx l i with
 | fail => trivial
 | exc y => exact absurd hg Qd
 | ok kvs =>
  have h0 := h cx
  show Sat _ A _ ((f l).bind _) _ _ s
  cases hf : f l with
  | fail => trivial
  | exc y => rw [hf] at h0; exact Tn (Gz i hi hd cx hg fun b hD hF => Tn (UF (To h0 (fun _ _ z => z.elim) fun _ _ z => z)))
  | ok d =>
   rw [hf] at h0
   cases d with
   | str k =>
    show Sat _ A _ (match B4 kvs k with | some d => .ok d | none => .fail) _ _ s
    cases hk : B4 kvs k with
    | none => trivial
    | some r =>
     refine Tn (Gz i hi hd cx hg fun b hD hF => Tn (UF (To h0 (fun v s₁ h₁ => ?_) fun _ _ z => z.elim)))
     refine xE h₁.1.str_inv fun t z1_ => ?_; obtain rfl := z1_
     have hD₁ := Cu hD h₁.2.mv id hF trivial fun _ z => z.elim
     obtain ⟨kv', hd', hkk, hr, hs⟩ := hD₁
     refine BK ((Ha (k := k) hkk hr).2 r hk) fun v hv rv => ?_
     refine Tn (UA (Tn ?_))
     have hT : s₁.TypeIs (.ref b) "dict" := hd'.typeIs
     rw [getitemInPython_of_ne hT.not_modules]
     refine Tn (wpAny_specialOf hT slot_dict_getitem.lookup (Tr ?_))
     show wpAny _ A (subscripted e false (.ref b) (.str k t) >>= _) _ _ s₁
     rw [hns]
     have hkey : (PySem.strKind prog w).is k (.str k t) = true := by show Value.isStrOf k (.str k t) = true; simp [Value.isStrOf]
     refine Tn (wpAny_operating (wpAny_getItem_of hkey hd'.mapOf hv ?_))
     exact Tn (wpAny_letTemporaryGo (Tr ⟨rv, h₁.2.trans0 (Go.of_toks ..)⟩))
   | _ => trivial
end
end Mine
namespace Mine
variable {prog : Program} {w : World} {H : Heap} {C : Addr} {n n' : Nat} {q : Bool} {names : List Str} {sc : Scope}
variable {A : Around} {env : Env} {fs : List Env} {N Z : Addr → Prop} {μ : List Addr} {l : Loc} {m cm : Str → Option Value} {s : Shared}
noncomputable def Ib (l : Loc) (i : Nat) : Res (Nat × List (Str × D)) := match l.vars[i]? with
 | some (some (.dct k)) => (match l.cells[k]? with | some (.dict kvs) => .ok (k, kvs) | _ => .fail)
 | _ => .fail
theorem QF {i k : Nat} {kvs : List (Str × D)} (h : Ib l i = .ok (k, kvs)) : l.vars[i]? = some (some (.dct k)) ∧ l.cells[k]? = some (.dict kvs) := by
 unfold Ib at h
 split at h
 ·rename_i k' hv
  split at h
  ·rename_i ds' hc
   cases h; exact ⟨hv, hc⟩
  ·cases h
 ·cases h
theorem Rp {i : Nat} {x : Dr} : Ib l i ≠ .exc x := by
 unfold Ib; intro h; (repeat' split at h) <;> cases h
noncomputable def R7 : D → Res Str
 | .str k => .ok k
 | _ => .fail
noncomputable def Hd (i : Nat) (fk fv : Loc → Res D) : LM := fun l => (Ib l i).bind fun p => (fv l).bind fun d => ((fk l).bind R7).bind fun k =>
 if (B4 p.2 k).isSome = false ∧ p.2.length ≤ sizeLine then .ok (.next, l.setc p.1 (.dict (p.2 ++ [(k, d)]))) else .fail
theorem Nv {kv' : List (Str × Value)} {k : Str} {v : Value} (h : (valueAt kv' k).isSome = false) : stored kv' k v = kv' ++ [(k, v)] := by
 unfold stored
 rw [Tm]
 intro z
 unfold valueAt at h
 simp only [Option.isSome_map, Option.isSome_eq_false_iff, Option.isNone_iff_eq_none, List.find?_eq_none] at h
 refine BK (List.any_eq_true.mp z) fun y hy hk => ?_
 exact h y hy hk
theorem OC (i : Nat) {x : Str} {p p' pos : Pos} {ke ve : Expr} {fk fv : Loc → Res D} (hi : names[i]? = some x) (hk : SE prog w H C n q names sc ke fk) (hv : SE prog w H C n q names sc ve fv)
  (hsw : autoParam (∀ env, swapsWith ve (some (.Subscript (.Name x p) ke p')) pos.line env = pure false) tA) (hd : autoParam ((x == ("__debug__" : Str)) = false) tA) :
  SS prog w H C n q names sc (.Assign [.Subscript (.Name x p) ke p'] ve pos) (Hd i fk fv) := fun {A env fs N Z μ l m cm s} cx fo => by
 unfold Hd
 show Sat _ A _ ((Ib l i).bind _) _ _ s
 cases hg : Ib l i with
 | fail => trivial
 | exc y => exact absurd hg Rp
 | ok kd =>
  obtain ⟨k, kvs⟩ := kd
  refine xA (QF hg) fun hvv hc => ?_
  refine Ei (cx.lr.vars i x _ hi hvv) fun v hl a ha z4_ => ?_; obtain rfl := z4_
  show Sat _ A _ ((fv l).bind _) _ _ s
  refine Sat.of_wp fun hr => ?_
  have hne1 : fv l ≠ .fail := fun z => by rw [z] at hr; exact hr rfl
  refine wpAny_Assign_Subscript (To ((hv cx).to_wp hne1) (fun vv s₁ h₁ => ?_) fun e s₁ z_ => BK z_ fun y hy hx => (A4 y (by rw [hy]; rfl) (hx.toS cx))) (hsw env)
  refine BK h₁ fun d hd' h₁ => ?_
  rw [hd'] at hr ⊢
  have cx₁ := cx.go h₁.2
  refine wpAny_Name (Bp cx₁ hl ?_) hd
  have hne2 : fk l ≠ .fail := fun z => by rw [z] at hr; exact hr rfl
  refine To ((hk cx₁).to_wp hne2) (fun kv s₂ h₂ => ?_) fun e s₂ z_ => BK z_ fun y hy hx => (A4 y (by rw [hy]; rfl) (hx.afterS cx₁ (h₁.2.mono fun _ z => z.elim)))
  refine BK h₂ fun dk hdk h₂ => ?_
  rw [hdk] at hr ⊢
  cases dk with
  | str key =>
   simp only [Res.bind_ok, R7] at hr ⊢
   split at hr
   ·rename_i hcnd
    rw [Tl hcnd]
    refine xE h₂.1.str_inv fun t z1_ => ?_; obtain rfl := z1_
    have cx₂ := cx₁.go h₂.2
    refine xA (cx₂.lr.cells k a _ ha hc) fun hD hF => ?_
    obtain ⟨kv', hdo, hkk, hrr, hs⟩ := hD
    refine xA (Ha (k := key) hkk hrr) fun l1 _ => ?_
    have hkey : (PySem.strKind prog w).is key (.str key t) = true := by show Value.isStrOf key (.str key t) = true; simp [Value.isStrOf]
    have hlen : kv'.length = kvs.length := by have := congrArg List.length hkk; simpa using this
    refine wpAny_setItem_pairs hkey hdo (fun h' hd₃ hs₃ => ?_) (by rw [hlen]; exact hcnd.2)
    rw [Nv (by rw [l1]; exact hcnd.1)] at hd₃
    have hown : own env μ l a := .inr (.inr (Di k _ ha hc rfl))
    have mv : ∀ qq, Mv qq (FA fs) (fun b => b = a) s₂.heap h' := fun qq => E0 hs₃ rfl (by refine CB hd₃ fun o _ _ e _ => ?_; clear hd₃; rw [e]; simp)
    have g := h₁.2.trans0 h₂.2
    have r1 : RDs (Pr N env μ l) s₂.heap ((kv' ++ [(key, vv)]).map (·.2)) ((kvs ++ [(key, d)]).map (·.2)) := by
     simp only [T4, T1, List.map_nil]
     exact hrr.append (.cons (h₁.1.mv0 h₂.2.mv) .nil)
    have lr := cx₂.lr.setc (c' := .dict (kvs ++ [(key, d)])) (mv true) (fun b z => z) ha hc rfl
     ⟨⟨_, hd₃, by simp [hkk], RDs.less (fun b _ z => Pr.sub (fun y => EC (l := l) hc rfl y) z) (RDs.mv (mv true) trivial (fun b z => .inr (z ▸ hown)) r1), hs⟩, hF⟩
     (.inr fun j is _ e hm => by refine D9 (cx₂.lr.cells j _ _ (List.getElem?_eq_getElem (by rw [cx₂.lr.len]; exact (UC.mp e).1)) e) fun _ _ _ _ _ hb => ?_; refine xAE (hb k hm) fun _ ds hds => ?_; rw [hc] at hds; cases hds)
    exact (A4 _ rfl (okS.after (s₁ := s₂) (μ' := μ) (l' := l) ⟨μ, m, cm, trivial, lr, Go.of ((mv q).mono fun b z => z ▸ hown), .setc hc rfl⟩ (g.mono fun _ z => z.elim) .refl))
   ·exact absurd rfl hr
  | _ => exact absurd rfl hr
theorem Ic {ds : List D} {d r : D} (h : AG (.list ds) d = .ok r) : ∃ ii : Int, d = .int ii ∧ ii.natAbs < 2 ^ 62 ∧ at? ds ii = some r := by
 cases d with
 | int ii =>
  simp only [AG] at h
  split at h
  ·rename_i hb
   split at h
   ·rename_i y hy
    cases h; exact (B0 ii rfl hb hy)
   ·cases h
  ·cases h
 | _ => simp [AG] at h
noncomputable def MR (i : Nat) (f : Loc → Res D) : Loc → Res D := fun l => (Dk l i).bind fun p => (f l).bind fun d => AG (.list p.2) d
theorem RJ (i : Nat) {x : Str} {p pos : Pos} {e : Expr} {f : Loc → Res D} (hi : names[i]? = some x) (h : SE prog w H C n q names sc e f)
  (hns : autoParam (∀ o i, subscripted e false o i = operate [o, i] (getItem o i)) tA) (hd : autoParam ((x == ("__debug__" : Str)) = false) tA) : SE prog w H C n q names sc (.Subscript (.Name x p) e pos) (MR i f) := fun {A env fs N Z μ l m cm s} cx => by
 unfold MR
 show Sat _ A _ ((Dk l i).bind _) _ _ s
 cases hgc : Dk l i with
 | fail => trivial
 | exc y => exact absurd hgc Jy
 | ok kd =>
  obtain ⟨k, ds⟩ := kd
  refine xA (Ev hgc) fun hv hc => ?_
  refine Ei (cx.lr.vars i x _ hi hv) fun v hl a ha z4_ => ?_; obtain rfl := z4_
  rw [eval_Subscript]
  show Sat _ A _ ((f l).bind _) _ _ s
  have h0 := h cx
  cases hf : f l with
  | fail => trivial
  | exc y => rw [hf] at h0; exact Tn (wpAny_Name (Bp cx hl (Tn (UF (To h0 (fun _ _ z => z.elim) fun _ _ z => z)))) hd)
  | ok d =>
   rw [hf] at h0
   show Sat _ A _ (AG (.list ds) d) _ _ s
   cases hx : AG (.list ds) d with
   | fail => trivial
   | exc y => exfalso; unfold AG at hx; (repeat' split at hx) <;> cases hx
   | ok r =>
    refine Tn (wpAny_Name (Bp cx hl (Tn (UF (To h0 (fun iv s₁ h₁ => ?_) fun _ _ z => z.elim)))) hd)
    have cx₁ := cx.go h₁.2
    refine B6 (cx₁.lr.cells k a _ ha hc) fun items j hg hr => ?_
    have hT : s₁.TypeIs (.ref a) "list" := (A4 _ hg rfl)
    refine Tn (UA (Tn ?_))
    rw [getitemInPython_of_ne hT.not_modules]
    refine Tn (wpAny_specialOf hT slot_list_getitem.lookup (Tr ?_))
    show wpAny _ A (subscripted e false (.ref a) iv >>= _) _ _ s₁
    rw [hns]
    refine B1 (Ic hx) fun ii z1_ hb hc' => ?_; obtain rfl := z1_
    refine xE h₁.1.int_inv fun u z1_ => ?_; obtain rfl := z1_
    unfold at? at hc'
    split at hc'
    ·rename_i h0
     refine BK (hr.get hc') fun v h3 h4 => ?_
     refine Tn (wpAny_operating (wpAny_getItem_list (Cf _ hg rfl _ rfl) h0 (by lia) (by simpa using h3) ?_))
     exact Tn (wpAny_letTemporaryGo (Tr ⟨h4, h₁.2⟩))
    ·split at hc'
     ·rename_i h0 h1
      refine BK (hr.get hc') fun v h3 h4 => ?_
      refine Tn (wpAny_operating (wpAny_getItem_list_neg (Cf _ hg rfl _ rfl) (by exact Int.not_le.mp (by assumption)) (by rw [Aa hr]; exact h1) (by lia) (by rw [Aa hr]; simpa using h3) ?_))
      exact Tn (wpAny_letTemporaryGo (Tr ⟨h4, h₁.2⟩))
     ·cases hc'
theorem HH {E : Value → Shared → Prop} {a : Addr} {items : Array Value} {j : Nat} {t : Tok} {v : Value} {Q : Unit → Shared → Prop} (hg : s.heap.get? a = some { cls := .type "list", data := .seq items j }) (hn : 0 < items.size)
  (h : Q () { s with heap := s.heap.update a (Obj.mapSeq (·.setIfInBounds (items.size - 1) v)) }) : wpAny (model prog w) A (setItem (.ref a) (.int (-1) t) v) Q E s := by
 have hT : s.TypeIs (.ref a) "list" := (A4 _ hg rfl)
 unfold setItem
 try with_reducible refine UF ?_
 first | refine Tn (Tr ?_) | skip
 refine Tn (wpAny_sequenceKey hT (by decide) ?_)
 refine Tn (wpAny_callSpecial?_slot (name := "__setitem__") hT slot_list_setitem
  (wpAny_call_entry slot_list_setitem hT entry_list_setitem ?_ (args_list_setitem _ _ _)))
 show wpAny _ _ (Builtin.List.listSubscript? (.int (-1) t) >>= _) _ _ s
 refine Tn (wpAny_listSubscript_int (fitsIndex_neg (by decide) (by decide)) ?_)
 have hidx : seqIndex? (-1) items.size = some (items.size - 1) := by
  have := seqIndex_neg (k := -1) (n := items.size) (by decide) (by lia)
  rw [this]; congr 1; lia
 have hx' : items[items.size - 1]? = some items[items.size - 1] := Array.getElem?_eq_getElem (by lia)
 show wpAny _ _ ((Builtin.List.listItems (.ref a) >>= fun xs => pure ((seqIndex? (-1) xs.size).bind fun i => xs[i]?.map (i, ·))) >>= _) _ _ s
 refine Tn (Tn ?_)
 show wpAny _ _ (seqItems? (.ref a) >>= _) _ _ s
 refine Tn (wpAny_seqItems hg rfl (Tr (Tr ?_)))
 rw [hidx]
 simp only [Option.bind_some, hx', Option.map_some]
 show wpAny _ _ (setSeqItemAt a (items.size - 1) v >>= _) _ _ s
 refine Tn (wpAny_setSeqItemAt hg rfl ?_)
 first
  | exact Tn (Tr (Tr (A4 .none rfl (Tr h))))
  | exact Tr ⟨.none, rfl, Tr h⟩
noncomputable def MO (i : Nat) (fi fv : Loc → Res D) : LM := fun l => (Dk l i).bind fun p => (fv l).bind fun d => (fi l).bind fun k => match k with
 | .int (-1) => if p.2.length = 0 then .fail else .ok (.next, l.setc p.1 (.list (p.2.set (p.2.length - 1) d)))
 | _ => .fail
theorem RDs.set {P : Addr → Prop} {h : Heap} {v : Value} {d : D} : ∀ {vs : List Value} {ds : List D} (k : Nat), RDs P h vs ds → RD P h v d → RDs P h (vs.set k v) (ds.set k d)
 | [], _, _, r, _ => by cases r; exact .nil
 | u :: vs, _, k, r, rv => by
  cases r with
  | cons r rs =>
   cases k with
   | zero => exact .cons rv rs
   | succ k => exact .cons r (RDs.set k rs rv)
theorem RX (i : Nat) {x : Str} {p p' pos : Pos} {ie ve : Expr} {fi fv : Loc → Res D} (hi : names[i]? = some x) (hk : SE prog w H C n q names sc ie fi) (hv : SE prog w H C n q names sc ve fv)
  (hsw : autoParam (∀ env, swapsWith ve (some (.Subscript (.Name x p) ie p')) pos.line env = pure false) tA) (hd : autoParam ((x == ("__debug__" : Str)) = false) tA) :
  SS prog w H C n q names sc (.Assign [.Subscript (.Name x p) ie p'] ve pos) (MO i fi fv) := fun {A env fs N Z μ l m cm s} cx fo => by
 unfold MO
 show Sat _ A _ ((Dk l i).bind _) _ _ s
 cases hg : Dk l i with
 | fail => trivial
 | exc y => exact absurd hg Jy
 | ok kd =>
  obtain ⟨k, ds⟩ := kd
  refine xA (Ev hg) fun hvv hc => ?_
  refine Ei (cx.lr.vars i x _ hi hvv) fun v hl a ha z4_ => ?_; obtain rfl := z4_
  show Sat _ A _ ((fv l).bind _) _ _ s
  refine Sat.of_wp fun hr => ?_
  have hne1 : fv l ≠ .fail := fun z => by rw [z] at hr; exact hr rfl
  refine wpAny_Assign_Subscript (To ((hv cx).to_wp hne1) (fun vv s₁ h₁ => ?_) fun e s₁ z_ => BK z_ fun y hy hx => (A4 y (by rw [hy]; rfl) (hx.toS cx))) (hsw env)
  refine BK h₁ fun d hd' h₁ => ?_
  rw [hd'] at hr ⊢
  have cx₁ := cx.go h₁.2
  refine wpAny_Name (Bp cx₁ hl ?_) hd
  have hne2 : fi l ≠ .fail := fun z => by rw [z] at hr; exact hr rfl
  refine To ((hk cx₁).to_wp hne2) (fun kv s₂ h₂ => ?_) fun e s₂ z_ => BK z_ fun y hy hx => (A4 y (by rw [hy]; rfl) (hx.afterS cx₁ (h₁.2.mono fun _ z => z.elim)))
  refine BK h₂ fun dk hdk h₂ => ?_
  rw [hdk] at hr ⊢
  simp only [Res.bind_ok] at hr ⊢
  split at hr
  ·split at hr
   ·exact absurd rfl hr
   ·rename_i hz
    rw [Tm hz]
    refine xE h₂.1.int_inv fun t z1_ => ?_; obtain rfl := z1_
    have cx₂ := cx₁.go h₂.2
    refine B6 (cx₂.lr.cells k a _ ha hc) fun items j hgg hrr => ?_
    have hsz := Aa hrr
    refine HH hgg (by lia) ?_
    have g := h₁.2.trans0 h₂.2
    refine xA (Iu (q := q) (f := fun xs => xs.setIfInBounds (items.size - 1) vv) (ds' := ds.set (ds.length - 1) d) cx₂ ha hc hgg (by
     rw [Array.toList_setIfInBounds, hsz]; exact hrr.set _ (h₁.1.mv0 h₂.2.mv))) fun lr g' => ?_
    exact (A4 _ rfl (okS.after (s₁ := s₂) (μ' := μ) (l' := l) ⟨μ, m, cm, trivial, lr, g', .setc hc rfl⟩ (g.mono fun _ z => z.elim) .refl))
  ·exact absurd rfl hr
end Mine
namespace Mine
variable {prog : Program} {w : World} {H : Heap} {C : Addr} {n n' : Nat} {q : Bool} {names : List Str} {sc : Scope}
variable {A : Around} {env : Env} {fs : List Env} {N Z : Addr → Prop} {μ : List Addr} {l : Loc} {m cm : Str → Option Value} {s : Shared}
inductive okA (prog : Program) (w : World) (H : Heap) (q : Bool) (names : List Str) (fs : List Env) (N Z : Addr → Prop) (env : Env) (μ : List Addr) (l : Loc) (s : Shared) (l' : Loc) (u : Unit) (s' : Shared) : Prop
 | mk (h1 : l'.cells = l.cells) (m' cm' : Str → Option Value) (h2 : LR prog w H names N Z (FA fs) env μ l' m' cm' s'.heap) (h3 : Go q (FA fs) (own env μ l) s s')
theorem Eg {l' : Loc} (h : l'.cells = l.cells) : own env μ l' = own env μ l := by unfold own; rw [h]
theorem My {l' : Loc} (h : l'.cells = l.cells) : Pr N env μ l' = Pr N env μ l := by unfold Pr; rw [Eg h]
noncomputable def AS (prog : Program) (w : World) (H : Heap) (C : Addr) (n : Nat) (q : Bool) (names : List Str) (sc : Scope) (t : Expr) (f : D → Loc → Res Loc) : Prop :=
 ∀ ⦃A : Around⦄ ⦃env : Env⦄ ⦃fs : List Env⦄ ⦃N Z : Addr → Prop⦄ ⦃μ : List Addr⦄ ⦃l : Loc⦄ ⦃m cm : Str → Option Value⦄ ⦃s : Shared⦄ (v : Value) (d : D),
  Cx prog w H n names sc A env fs N Z μ l m cm s → RD (Pr N env μ l) s.heap v d → Sat (model prog w) A (assign t env v) (f d l) (okA prog w H q names fs N Z env μ l s) (fun _ _ _ => False) s
noncomputable def Ry (prog : Program) (w : World) (H : Heap) (C : Addr) (n : Nat) (q : Bool) (names : List Str) (sc : Scope) (ts : List Expr) (f : List D → Loc → Res Loc) : Prop :=
 ∀ ⦃A : Around⦄ ⦃env : Env⦄ ⦃fs : List Env⦄ ⦃N Z : Addr → Prop⦄ ⦃μ : List Addr⦄ ⦃l : Loc⦄ ⦃m cm : Str → Option Value⦄ ⦃s : Shared⦄ (vs : List Value) (ds : List D),
  Cx prog w H n names sc A env fs N Z μ l m cm s → RDs (Pr N env μ l) s.heap vs ds → Sat (model prog w) A (assignInOrder ((assignEach ts env).map (·.2)) vs) (f ds l) (okA prog w H q names fs N Z env μ l s) (fun _ _ _ => False) s
theorem okA.step {l' : Loc} {s' : Shared} (cx : Cx prog w H n names sc A env fs N Z μ l m cm s) (h : okA prog w H q names fs N Z env μ l s l' () s') : ∃ m' cm', Cx prog w H n names sc A env fs N Z μ l' m' cm' s' ∧ Go q (FA fs) (own env μ l) s s' := by
 obtain ⟨hc, m', cm', lr, g⟩ := h
 exact (EL m' cm' (cx.step lr g) g)
theorem BX (i : Nat) {x : Str} {p : Pos} (hi : names[i]? = some x) (hk : DG sc x = true) : AS prog w H C n q names sc (.Name x p) fun d l => .ok (l.setv i (.d d)) := fun {A env fs N Z μ l m cm s} v d cx r =>
 wpAny_assign_Name (Iw (q := q) cx hi hk (u := .d d) r fun s' m' cm' lr g => ⟨rfl, m', cm', lr, g⟩)
theorem Qr : Ry prog w H C n q names sc [] fun ds l => match ds with | [] => .ok l | _ => .fail := fun {A env fs N Z μ l m cm s} vs ds cx r => by
 cases ds with
 | nil => cases r; exact Tr ⟨rfl, m, cm, cx.lr, .refl ..⟩
 | cons d ds => trivial
theorem QV {t : Expr} {ts : List Expr} {f : D → Loc → Res Loc} {g : List D → Loc → Res Loc} (h : AS prog w H C n q names sc t f) (hs : Ry prog w H C n q names sc ts g)
  (he : autoParam (∀ env, assignEach (t :: ts) env = (false, assign t env) :: assignEach ts env) tA) :
  Ry prog w H C n q names sc (t :: ts) fun ds l => match ds with | d :: ds => (f d l).bind fun l => g ds l | [] => .fail := fun {A env fs N Z μ l m cm s} vs ds cx r => by
 cases ds with
 | nil => trivial
 | cons d ds =>
  obtain ⟨v, vs, rfl⟩ : ∃ a b, vs = a :: b := by cases r; exact (N7 _ _ rfl)
  refine xA r.head fun r1 r => ?_
  rw [he]
  show Sat _ A (holding vs (assign t env v) >>= fun _ => assignInOrder ((assignEach ts env).map (·.2)) vs) _ _ _ s
  refine Sat.bind (Sat.holding (h v d cx r1)) (fun l₁ _ s₁ _ h₁ => ?_) fun _ _ _ f => f
  refine B6 (okA.step cx h₁) fun m₁ cm₁ cx₁ g₁ => ?_
  have r' := RDs.mv g₁.mv trivial (fun b z => .inr z) r
  rw [← My h₁.1] at r'
  refine Sat.mono (hs vs ds cx₁ r') (fun l₂ _ s₂ _ h₂ => ?_) fun _ _ _ _ f => f
  obtain ⟨hc, m₂, cm₂, lr, g₂⟩ := h₂
  refine ⟨hc.trans h₁.1, m₂, cm₂, lr, ?_⟩
  rw [Eg h₁.1] at g₂
  exact g₁.trans g₂ fun _ z => .inl z
noncomputable def Ea (f : List D → Loc → Res Loc) (k : Nat) (d : D) (l : Loc) : Res Loc := match d with
 | .tuple ds => if ds.length = k then f ds l else .fail
 | _ => .fail
theorem Fu {ts : List Expr} {k : Nat} {p : Pos} {f : List D → Loc → Res Loc} (h : Ry prog w H C n q names sc ts f) (hstar : autoParam (∀ env, (assignEach ts env).findIdx? (·.1) = none) tA) (hlen : autoParam (∀ env, (assignEach ts env).length = ts.length) tA) :
  AS prog w H C n q names sc (.Tuple ts k p) (Ea f ts.length) := fun {A env fs N Z μ l m cm s} v d cx r => by
 unfold Ea
 split
 ·rename_i ds
  split
  ·rename_i hl
   refine CF r.tup_inv fun a items j z3_ hg rs => ?_; obtain rfl := z3_
   have hsz := Aa rs
   refine Sat.of_wp fun hr => wpAny_assign_Tuple cx.a.hd (Cf _ hg rfl _ rfl) (by rw [hlen, hsz, hl]) (hstar env) fun h' hx => ?_
   have g : Go q (FA fs) No s { s with heap := h' } := Go.of' (Mv.of_fresh (A0 _) hx)
   have rs' := rs.mv0 g.mv
   refine To ((h items.toList ds (cx.go g) rs').to_wp hr) (fun _ s₁ z_ => BK z_ fun l' e h₁ => (A4 l' e ?_)) fun _ _ z_ => BK z_ fun _ _ f => f.elim
   obtain ⟨hc, m₂, cm₂, lr, g₂⟩ := h₁
   exact ⟨hc, m₂, cm₂, lr, (g.mono fun _ z => z.elim).trans g₂ fun _ z => .inl z⟩
  ·trivial
 ·trivial
theorem Oy {t value : Expr} {pos : Pos} {env : Env} (hs : swapsWith value (some t) pos.line env = pure false) (hsw : swappedStores [t] value env = pure none) (ht : assignEach [t] env = [(false, assign t env)]) :
  exec (.Assign [t] value pos) env = (do standAt pos; let v ← eval value env; assignAll v [assign t env]; pure .next) := by
 rw [arm_exec_Assign, hsw, ht]
 show (do standAt pos; if ← swapsWith value (some t) pos.line env then _ else _) = _
 rw [hs]; rfl
theorem Ga {t e : Expr} {pos : Pos} {f : Loc → Res D} {g : D → Loc → Res Loc} (h : SE prog w H C n q names sc e f) (ht : AS prog w H C n q names sc t g)
  (hs : autoParam (∀ env, swapsWith e (some t) pos.line env = pure false) tA) (hsw : autoParam (∀ env, swappedStores [t] e env = pure none) tA) (hte : autoParam (∀ env, assignEach [t] env = [(false, assign t env)]) tA) :
  SS prog w H C n q names sc (.Assign [t] e pos) fun l => (f l).bind fun d => (g d l).bind fun l => Res.ok (Fl.next, l) := fun {A env fs N Z μ l m cm s} cx fo => by
 rw [Oy (hs env) (hsw env) (hte env)]
 refine Sat.standAt (Sat.bind (h cx) (fun d v s₁ _ h₁ => ?_) fun _ _ _ h => h.toS cx)
 have cx₁ := cx.go h₁.2
 have ha := ht v d cx₁ h₁.1
 refine Sat.of_wp fun hr => ?_
 have hne : g d l ≠ .fail := fun z => by rw [z] at hr; exact hr rfl
 show wpAny _ A (assignAll v [assign t env] >>= fun _ => pure Flow.next) _ _ s₁
 rw [show assignAll v [assign t env] = assign t env v from rfl]
 refine Tn ?_
 refine To (Q := fun _ s₂ => ∃ l', g d l = .ok l' ∧ okA prog w H q names fs N Z env μ l s₁ l' () s₂) ?_ (fun _ s₂ h₂ => Tr ?_) fun _ _ f => f
 ·exact To (ha.to_wp hne) (fun _ s₂ h₂ => h₂) fun _ _ z_ => BK z_ fun _ _ f => f.elim
 ·obtain ⟨l', e, hc, m₂, cm₂, lr, g₂⟩ := h₂
  refine (A4 (.next, l') (by rw [e]; rfl) (okS.after (s₁ := s₁) (μ' := μ) (l' := l) ⟨μ, m₂, cm₂, trivial, lr, g₂, fun a z => .inl (by rw [Eg hc] at z; exact z), List.prefix_refl _⟩ (h₁.2.mono fun _ z => z.elim) .refl))
end Mine
namespace Mine
variable {prog : Program} {w : World} {H : Heap} {C : Addr} {n n' : Nat} {q : Bool} {names : List Str} {sc : Scope}
variable {A : Around} {env : Env} {fs : List Env} {N Z : Addr → Prop} {μ : List Addr} {l : Loc} {m cm : Str → Option Value} {s : Shared}
variable {mg mb : Str → Option Value}
noncomputable def Ow (i : Nat) (g : Loc → Res (Fl × Loc)) (names' : List Str) (k : Nat) (fa : Loc → Res (List D)) : LM := fun l => (Dk l i).bind fun p => (fa l).bind fun ds =>
 if ds.length + 1 = k then (g (CH names' (.lst 0 :: ds.map .d) [.list p.2])).bind fun r => match r.1, r.2.cells with
  | .next, .list ds' :: _ => .ok (.next, l.setc p.1 (.list ds'))
  | _, _ => .fail
 else .fail
theorem QG {fa : Addr} {ps : List Str} {body : List Stmt} {names' : List Str} {sc' : Scope} {g : Loc → Res (Fl × Loc)} {y : Str} {p1 p2 p3 p4 : Pos} {rest : List Expr} {ga : Loc → Res (List D)} (i : Nat) {x : Str} (G : Gl H mg mb)
  (hf : Fn H fa ps body sc') (hy : mg y = some (.ref fa)) (hk : sc.names.lookup y = some .globalImplicit) (hps : ps <+: names') (hnd : names'.Nodup) (hsb : SB prog w H C n q names' sc' body g) (hn : n + 1 ≤ n')
  (hi : names[i]? = some x) (hargs : QB prog w H C n' q names sc rest ga)
  (hst : autoParam (∀ env, starEach (.Name x p2 :: rest) env = (false, eval (.Name x p2) env) :: starEach rest env) tA) (hd : autoParam ((x == ("__debug__" : Str)) = false) tA) (hd' : autoParam ((y == ("__debug__" : Str)) = false) tA)
  (hsw : autoParam (∀ env, swapsWith (.Call (.Name y p1) (.Name x p2 :: rest) [] p3) none p4.line env = pure false) tA) :
  SS prog w H C n' q names sc (.Expr (.Call (.Name y p1) (.Name x p2 :: rest) [] p3) p4) (Ow i g names' ps.length ga) := fun {A env fs N Z μ l m cm s} cx fo => by
 unfold Ow
 show Sat _ A _ ((Dk l i).bind _) _ _ s
 cases hgc : Dk l i with
 | fail => trivial
 | exc y => exact absurd hgc Jy
 | ok kd =>
  obtain ⟨k, ds⟩ := kd
  refine xA (Ev hgc) fun hv hc => ?_
  refine Ei (cx.lr.vars i x _ hi hv) fun v hl a ha z4_ => ?_; obtain rfl := z4_
  refine GB (id hf.fn) fun o fd ho hdat _ => ?_
  show Sat _ A _ ((ga l).bind _) _ _ s
  refine Sat.of_wp fun hr => ?_
  have hne : ga l ≠ .fail := fun z => by rw [z] at hr; exact hr rfl
  refine wpAny_Expr ?_ (Bx cx) (hsw env)
  refine Call_Name rfl (BZ G (.inl hy) hk cx ?_ hd')
  refine callWith_def hdat ?_ (hst env)
  rw [hst env]
  show wpAny _ A (spliced ((false, eval (.Name x p2) env) :: backTo p3 (starEach rest env))) _ _ s
  refine Calls.spliced_cons (wpAny_Name (Bp cx hl ?_) hd)
  refine To ((hargs p3 cx).to_wp hne) (fun vs s₁ z_ => BK z_ fun as has h₁ => ?_) fun e s₁ z_ => BK z_ fun y hy hx => (A4 y (by rw [hy]; rfl) (hx.toS cx))
  have cx₁ := cx.go h₁.2
  refine ⟨cx₁.inv.base _ _ ho, ?_⟩
  rw [has] at hr ⊢
  simp only [Res.bind_ok] at hr ⊢
  split at hr
  ·rename_i hl2
   rw [Tl hl2]
   have hown : own env μ l a := .inr (.inr (Di k _ ha hc rfl))
   refine B6 (cx₁.lr.cells k a _ ha hc) fun items j hgg hrr => ?_
   have hc0 := F0 (q := q) (C := C) hf G.lim hps hnd hsb (cx₁.a.less hn) cx₁.fr cx₁.inv cx₁.plive (fun b h => h.elim (cx.lr.nh b) (cx.lr.hf b)) (ws := .lst 0 :: as.map .d) (vs := .ref a :: vs) (by simpa using hl2) (by simpa [h₁.1.length] using hl2)
    (μ₀ := [a]) (cs₀ := [.list ds]) rfl (by simp) (fun b hb => by simp at hb; subst hb; exact .inr hown) (fun i u v hu hv => by
     cases i with
     | zero => simp at hu hv; subst hu hv; exact (A4 a rfl rfl)
     | succ i =>
      simp only [List.getElem?_cons_succ, UH, US] at hu hv
      refine BK hu fun d hd z2_ => ?_; clear hu; obtain rfl := z2_
      refine BK (h₁.1.get hd) fun v' hv' rv => ?_
      rw [hv] at hv'; cases hv'
      exact rv)
    (fun i b c hb hc' => by
     cases i with
     | zero => simp at hb hc'; subst hb hc'; exact (Gb ds items j rfl hgg hrr)
     | succ i => simp at hb)
   have hne2 : g (CH names' (.lst 0 :: as.map .d) [.list ds]) ≠ .fail := fun z => by rw [z] at hr; exact hr rfl
   refine To (hc0.to_wp hne2) (fun rv s₂ z_ => BK z_ fun p hp h₂ => ?_) fun e s₂ z_ => BK z_ fun y hy hx => (A4 y (by rw [hy]; rfl) ?_)
   ·rw [hp] at hr ⊢
    obtain ⟨f1, l'⟩ := p
    simp only [Res.bind_ok] at hr ⊢
    cases f1 with
    | cont => exact absurd rfl hr
    | ret r => exact absurd rfl hr
    | next =>
     cases hcells : l'.cells with
     | nil => rw [hcells] at hr; exact absurd rfl hr
     | cons c0 r1 =>
      cases c0 with
      | dead => rw [hcells] at hr; exact absurd rfl hr
      | nest _ => rw [hcells] at hr; exact absurd rfl hr
      | dict _ => rw [hcells] at hr; exact absurd rfl hr
      | list ds' =>
       refine xA h₂ fun g₂ h₂ => ?_
       have hc0' : l'.cells[0]? = some (.list ds') := by rw [hcells]; rfl
       refine xA (h₂ (fun i hi => by simp at hi; subst hi; exact ⟨ds', hc0'⟩)) fun hret hlist => ?_
       have hret : rv = .none := hret
       subst hret
       refine B6 (hlist 0 a ds' rfl hc0') fun items' j' hgg' hrr' => ?_
       have lr := cx₁.lr.setc (c' := .list ds') g₂.mv (fun b z => by simpa using z) ha hc rfl (EL items' j' hgg' (RDs.less (fun b _ z => Pr.sub (fun y => EC (l := l) hc rfl y) z) hrr')) (.inl ⟨ds', rfl⟩)
       exact (A4 (.next, l.setc k (.list ds')) rfl (okS.after (s₁ := s₁) (μ' := μ) (l' := l) ⟨μ, m, cm, trivial, lr, g₂.mono fun b z => by simp at z; exact z ▸ hown, .setc hc rfl⟩ (h₁.2.mono fun _ z => z.elim) .refl))
   ·refine xA hx fun hx1 hx2 => ?_; clear hx
    refine ⟨hx1.less fun b z => h₁.2.mv.dead b z, (h₁.2.lax.mono (X' := own env μ l) fun _ z => z.elim).trans hx2 fun b z => .inl (by simp at z; exact z ▸ hown), _, CO cx₁.lr.ns hx2.mv fun z => ?_⟩
    simp at z
    exact (cx.lr.notL a (T7 ha)).1 z.symm
  ·exact absurd rfl hr
noncomputable def Kp (l : Loc) (i : Nat) : Res (Nat × List Nat) := match l.vars[i]? with
 | some (some (.lst k)) => (match l.cells[k]? with | some (.nest is) => .ok (k, is) | _ => .fail)
 | _ => .fail
theorem L4 {i k : Nat} {is : List Nat} (h : Kp l i = .ok (k, is)) : l.vars[i]? = some (some (.lst k)) ∧ l.cells[k]? = some (.nest is) := by
 unfold Kp at h
 split at h
 ·rename_i k' hv
  split at h
  ·rename_i ds' hc
   cases h; exact ⟨hv, hc⟩
  ·cases h
 ·cases h
noncomputable def OU (i j : Nat) : LM := fun l => match Kp l i, Dk l j with
 | .ok (k, is), .ok (t, _) => if is.length ≤ sizeLine ∧ t ∉ is then .ok (.next, l.setc k (.nest (is ++ [t]))) else .fail
 | _, _ => .fail
section
variable {x y : Str} {p1 p2 p3 p4 py : Pos}
theorem Nc (i j : Nat) (hi : names[i]? = some x) (hj : names[j]? = some y) (hline : autoParam ((p2.endLine == p3.line) = true) tA)
  (hst : autoParam (∀ env, starEach [.Name y py] env = (false, eval (.Name y py) env) :: starEach [] env) tA) (hd : autoParam ((x == ("__debug__" : Str)) = false) tA) (hd' : autoParam ((y == ("__debug__" : Str)) = false) tA)
  (hbase : autoParam (∀ env, attributeBase (.Name x p1) "append" env (eval (.Name x p1) env) = eval (.Name x p1) env) tA)
  (hsw : autoParam (∀ env, swapsWith (.Call (.Attribute (.Name x p1) "append" p2) [.Name y py] [] p3) none p4.line env = pure false) tA) :
  SS prog w H C n q names sc (.Expr (.Call (.Attribute (.Name x p1) "append" p2) [.Name y py] [] p3) p4) (OU i j) := fun {A env fs N Z μ l m cm s} cx fo => by
 unfold OU
 show Sat _ A _ (match Kp l i, Dk l j with | .ok (k, is), .ok (t, _) => _ | _, _ => _) _ _ s
 split
 ·rename_i k is t ds hgn hgc
  split
  ·rename_i hcnd
   refine xA (L4 hgn) fun hv hc => ?_
   refine xA (Ev hgc) fun hv' hc' => ?_
   refine Ei (cx.lr.vars i x _ hi hv) fun v hl a ha z4_ => ?_; obtain rfl := z4_
   refine Ei (cx.lr.vars j y _ hj hv') fun v hl' b hb z4_ => ?_; obtain rfl := z4_
   refine D9 (cx.lr.cells k a _ ha hc) fun items jj hg hit hnd hall => ?_
   have hisz : items.size = is.length := by have := congrArg List.length hit; simpa using this
   refine wpAny_Expr ?_ (Bx cx) (hsw env)
   refine wpAny_Call_method_lateS (hbase env) (by rw [hst env]; rfl) hline (wpAny_Name (Bp cx hl ?_) hd)
   refine (Fk ("list") ("list.append") PySem.F.plainAttrs_list PySem.F.slot_list_append F.ty_append (A4 _ hg rfl) (fun b e => by cases e; exact (A4 _ hg rfl)) ?_)
   rw [hst env]
   refine PySem.P.append_list (wpAny_Name (Bp cx hl' (Di items jj (by rw [hisz]; exact hcnd.1) hg ?_)) hd')
   refine xE (IZ (fun xs => xs.push (.ref b)) items jj) fun j' e => ?_
   have hg' : (s.heap.update a (Obj.mapSeq fun xs => xs.push (.ref b))).get? a = some { cls := .type "list", data := .seq (items.push (.ref b)) j' } := by rw [← e]; exact UV _ hg (by rw [e]; rfl)
   have mv : ∀ q, Mv q (FA fs) (fun b => b = a) s.heap (s.heap.update a (Obj.mapSeq fun xs => xs.push (.ref b))) := fun q => Mv.of_one rfl (by rw [hg']; simp) fun b o hb y => (UW _ _ (Ne.symm hb)).trans y
   have hown : own env μ l a := .inr (.inr (Di k _ ha hc rfl))
   have htk : t ≠ k := fun e => by rw [e, hc] at hc'; cases hc'
   have hkn : ∀ (i : Nat) (is : List Nat), i ≠ k → l.cells[i]? = some (.nest is) → k ∉ is := fun i' is' _ e hm => by
    refine D9 (cx.lr.cells i' _ _ (List.getElem?_eq_getElem (by rw [cx.lr.len]; exact (UC.mp e).1)) e) fun _ _ _ _ _ hb' => ?_
    refine xAE (hb' k hm) fun _ ds' hds => ?_; rw [hc] at hds; cases hds
   have htl : t < μ.length := (UC.mp hb).1
   have lr := cx.lr.setc (c' := .nest (is ++ [t])) (mv true) (fun b z => z) ha hc rfl (Dn (items.push (.ref b)) j' hg' (by simp [hit, List.getD, hb]) (by
     rw [List.nodup_append]; exact (KB hnd (by simp) (fun u hu z hz => by simp at hz; subst hz; intro y1_; obtain rfl := y1_; exact hcnd.2 hu))) (fun u hu => by
     rcases T8.mp hu with hu | hu
     ·refine xAE (hall u hu) fun h1 ds' h2 => ?_
      have : u ≠ k := fun e => by rw [e, hc] at h2; cases h2
      exact (yAE h1 ds' (by simpa [Loc.setc, List.getElem?_set_ne (Ne.symm this)] using h2))
     ·simp at hu; subst hu
      exact (yAE htl ds (by simpa [Loc.setc, List.getElem?_set_ne (Ne.symm htk)] using hc')))) (.inr hkn)
   exact ⟨μ, m, cm, trivial, lr, Go.of' ((mv q).mono fun b z => z ▸ hown), .setc hc rfl⟩
  ·trivial
 ·trivial
noncomputable def Jz (i : Nat) (f : Loc → Res D) : LM := fun l => match Kp l i with
 | .ok (_, is) => (match is.getLast? with
  | some t => (match l.cells[t]? with
   | some (.list ds) => (f l).bind fun d => if ds.length ≤ sizeLine then .ok (.next, l.setc t (.list (ds ++ [d]))) else .fail
   | _ => .fail)
  | none => .fail)
 | _ => .fail
variable {e ie : Expr} {f : Loc → Res D} {ps : Pos}
theorem Pv (i : Nat) (hi : names[i]? = some x) (hie : SE prog w H C n q names sc ie fun _ => .ok (.int (-1))) (h : SE prog w H C n q names sc e f) (hline : autoParam ((p2.endLine == p3.line) = true) tA)
  (hst : autoParam (∀ env, starEach [e] env = (false, eval e env) :: starEach [] env) tA) (hd : autoParam ((x == ("__debug__" : Str)) = false) tA)
  (hns : autoParam (∀ o i, subscripted ie false o i = operate [o, i] (getItem o i)) tA)
  (hbase : autoParam (∀ env, attributeBase (.Subscript (.Name x p1) ie ps) "append" env (eval (.Subscript (.Name x p1) ie ps) env) = eval (.Subscript (.Name x p1) ie ps) env) tA)
  (hsw : autoParam (∀ env, swapsWith (.Call (.Attribute (.Subscript (.Name x p1) ie ps) "append" p2) [e] [] p3) none p4.line env = pure false) tA) :
  SS prog w H C n q names sc (.Expr (.Call (.Attribute (.Subscript (.Name x p1) ie ps) "append" p2) [e] [] p3) p4) (Jz i f) := fun {A env fs N Z μ l m cm s} cx fo => by
 unfold Jz
 show Sat _ A _ (match Kp l i with | .ok (_, is) => _ | _ => _) _ _ s
 split
 ·rename_i k is hgn
  split
  ·rename_i t hlast
   split
   ·rename_i ds hct
    refine xA (L4 hgn) fun hv hc => ?_
    refine Ei (cx.lr.vars i x _ hi hv) fun v hl a ha z4_ => ?_; obtain rfl := z4_
    have htm : t ∈ is := List.mem_of_getLast? hlast
    refine Sat.of_wp fun hr => ?_
    have hne : f l ≠ .fail := fun z => by rw [z] at hr; exact hr rfl
    refine wpAny_Expr ?_ (Bx cx) (hsw env)
    refine wpAny_Call_method_lateS (hbase env) (by rw [hst env]; rfl) hline ?_
    rw [eval_Subscript]
    refine Tn (wpAny_Name (Bp cx hl ?_) hd)
    refine Tn (UF (To (hie cx) (fun iv s₁ h₁ => ?_) fun _ _ f => f.elim))
    refine xE h₁.1.int_inv fun u z1_ => ?_; obtain rfl := z1_
    have cx₁ := cx.go h₁.2
    refine D9 (cx₁.lr.cells k a _ ha hc) fun items jj hg hit hnd hall => ?_
    refine xA (hall t htm) fun htl _ => ?_
    obtain ⟨b, hb⟩ : ∃ b, μ[t]? = some b := ⟨μ[t], by simp [htl]⟩
    have hisz : items.size = is.length := by have := congrArg List.length hit; simpa using this
    have hpos : 0 < is.length := List.length_pos_of_mem htm
    have hlastv : items[((-1 : Int) + items.size).toNat]? = some (.ref b) := by
     have e1 : ((-1 : Int) + items.size).toNat = is.length - 1 := by lia
     rw [e1, ← Array.getElem?_toList, hit, UH]
     rw [List.getLast?_eq_getElem?] at hlast
     rw [hlast]
     simp [List.getD, hb]
    have hT : s₁.TypeIs (.ref a) "list" := (A4 _ hg rfl)
    refine Tn (UA (Tn ?_))
    rw [getitemInPython_of_ne hT.not_modules]
    refine Tn (wpAny_specialOf hT slot_list_getitem.lookup (Tr ?_))
    show wpAny _ A (subscripted ie false (.ref a) (.int (-1) u) >>= _) _ _ s₁
    rw [hns]
    refine Tn (wpAny_operating (wpAny_getItem_list_neg (Cf _ hg rfl _ rfl) (by decide) (by lia) (by decide) hlastv ?_))
    refine Tn (wpAny_letTemporaryGo (Tr ?_))
    refine B6 (cx₁.lr.cells t b _ hb hct) fun items2 j2 hg2 hr2 => ?_
    refine (Fk ("list") ("list.append") PySem.F.plainAttrs_list PySem.F.slot_list_append F.ty_append (A4 _ hg2 rfl) (fun b e => by cases e; exact (A4 _ hg2 rfl)) ?_)
    rw [hst env]
    refine PySem.P.append_list (To ((h cx₁).to_wp hne) (fun v s₂ z_ => BK z_ fun d hd h₂ => ?_) fun e s₂ z_ => BK z_ fun y hy hx => (A4 y (by rw [hy]; rfl) (hx.afterS cx₁ (h₁.2.mono fun _ z => z.elim))))
    rw [hd] at hr ⊢
    simp only [Res.bind_ok] at hr ⊢
    split at hr
    ·rename_i hsz
     rw [Tl hsz]
     have cx₂ := cx₁.go h₂.2
     refine B6 (cx₂.lr.cells t b _ hb hct) fun items3 j3 hg3 hr3 => ?_
     refine (Di items3 j3 (by rw [Aa hr3]; exact hsz) hg3 ?_)
     refine xA (Iu (q := q) (f := fun xs => xs.push v) (ds' := ds ++ [d]) cx₂ hb hct hg3 (by simpa using hr3.append (.cons h₂.1 .nil))) fun lr g => ?_
     exact (A4 _ rfl (okS.after (s₁ := s₂) (μ' := μ) (l' := l) ⟨μ, m, cm, trivial, lr, g, .setc hct rfl⟩ ((h₁.2.trans0 h₂.2).mono fun _ z => z.elim) .refl))
    ·exact absurd rfl hr
   ·trivial
  ·trivial
 ·trivial
end
end Mine
namespace Mine
section
variable {P : Addr → Prop} {h h' : Heap} {wr : List Addr}
theorem RD.walk (k : ∀ b o, b ∉ wr → h.get? b = some o → h'.get? b = some o) (hw : ∀ b ∈ wr, P b) {v : Value} {d : D} (r : RD P h v d) : RD P h' v d :=
 (RD.to fun _ _ ho hp _ => ⟨k _ _ (fun z => hp (hw _ z)) ho, hp⟩).1 r
theorem RDs.walk (k : ∀ b o, b ∉ wr → h.get? b = some o → h'.get? b = some o) (hw : ∀ b ∈ wr, P b) {vs : List Value} {ds : List D} (r : RDs P h vs ds) : RDs P h' vs ds :=
 (RD.to fun _ _ ho hp _ => ⟨k _ _ (fun z => hp (hw _ z)) ho, hp⟩).2 r
end
section
variable {P P' X : Addr → Prop} {h h' : Heap} {q : Bool} {F : List Addr}
theorem RDs.ml (m : Mv q F X h h') (hX : ∀ b, X b → P b) (hp : ∀ a, h.get? a ≠ none → P' a → P a) {vs : List Value} {ds : List D} (r : RDs P h vs ds) : RDs P' h' vs ds :=
 (RD.to fun _ _ ho hn hd => ⟨m.exact _ _ ho (fun x => hn (hX _ x)) (.inr (.inr hd)), fun x => hn (hp _ (by rw [ho]; simp) x)⟩).2 r
end
noncomputable def M5 (o : Obj) : Prop := (∀ es n, o.data ≠ .dict es n) ∧ ∀ v, o.data ≠ .cell v
variable {prog : Program} {w : World} {H : Heap} {C : Addr} {n n' : Nat} {q : Bool} {names : List Str} {sc : Scope}
variable {A : Around} {env : Env} {fs : List Env} {N N' Z : Addr → Prop} {μ : List Addr} {l : Loc} {m cm : Str → Option Value} {s s' : Shared} {wr : List Addr}
theorem LR.walk {F : List Addr} {h h' : Heap} (r : LR prog w H names N' Z F env μ l m cm h) (k : ∀ b o, b ∉ wr → h.get? b = some o → h'.get? b = some o) (hwN : ∀ b ∈ wr, N' b) (hwd : ∀ b ∈ wr, ∃ o, h.get? b = some o ∧ M5 o)
  (hN : ∀ a, N a → N' a) (zn' : ∀ a, h'.get? a = none → Z a) (nl : ∀ a, N a → h'.get? a ≠ none) : LR prog w H names N Z F env μ l m cm h' := by
 have nd : ∀ {a : Addr} {o : Obj}, h.get? a = some o → ((∃ es n, o.data = .dict es n) ∨ ∃ v, o.data = .cell v) → a ∉ wr := fun {a o} e hd z => by
  refine B1 (hwd a z) fun o' e' h1 h2 => ?_
  rw [e] at e'; cases e'
  rcases hd with ⟨es, n, hd⟩ | ⟨v, hd⟩
  ·exact h1 es n hd
  ·exact h2 v hd
 have hP : ∀ b ∈ wr, Pr N' env μ l b := fun b hb => .inl (hwN b hb)
 have hPN : ∀ b, Pr N env μ l b → Pr N' env μ l b := fun b z => z.imp (hN b) id
 have rds : ∀ {vs : List Value} {ds : List D}, RDs (Pr N' env μ l) h vs ds → RDs (Pr N env μ l) h' vs ds := fun y => RDs.less (fun b _ z => hPN b z) (RDs.walk k hP y)
 have dic : ∀ {a : Addr} {kvs : List (Str × D)}, DictIs prog w (Pr N' env μ l) h a kvs → DictIs prog w (Pr N env μ l) h' a kvs := fun {a kvs} ⟨kv', ⟨o, es, ep, ho, hx, hd, r⟩, hk, hr, hs⟩ =>
  ⟨kv', (HA o es ep (k _ _ (nd ho (.inl (N7 es ep hd))) ho) hx hd r), hk, rds hr, hs⟩
 have cell : ∀ {c : Addr} {v : Option Value}, h.IsCell c v → h'.IsCell c v := fun {c v} ⟨o, ho, hd⟩ => ⟨o, k _ _ (nd ho (.inr ⟨v, hd⟩)) ho, hd⟩
 exact {
  ns := CF r.ns fun o es ep ho hd x => (Gb o es ep (k _ _ (nd ho (.inl (N7 es ep hd))) ho) hd x)
  cl := fun n c e => cell (r.cl n c e)
  capart := r.capart
  clive := fun n c e => xE (r.clive n c e) fun v y => ⟨v, cell y⟩
  vars := fun i y u h1 h2 => by
   refine BK (r.vars i y u h1 h2) fun v h3 h4 => ?_
   refine (A4 v h3 ?_)
   cases u with
   | d x => exact RD.less (fun b _ z => hPN b z) (RD.walk k hP h4)
   | lst j => exact h4
   | dct j => exact h4
   | bd kvs => refine FN h4 fun a hv hd ho hF => ?_; clear h4; exact (Dj a hv (dic hd) ho hF)
  cells := fun i a c h1 h2 => by
   have h3 := r.cells i a c h1 h2
   have nw : a ∉ wr := fun z => r.notN a (T7 h1) (hwN a z)
   cases c with
   | dead => trivial
   | list ds => refine B6 h3 fun items j hl' hr => ?_; clear h3; exact (EL items j (k _ _ nw hl') (rds hr))
   | nest is => refine B6 h3 fun items j hl' hr => ?_; clear h3; exact (EL items j (k _ _ nw hl') hr)
   | dict kvs => exact ⟨dic h3.1, h3.2⟩
  len := r.len
  nodup := r.nodup
  notN := fun a ha z => r.notN a ha (hN a z)
  notL := r.notL
  zf := r.zf
  zn := zn'
  hf := r.hf
  nlive := nl
  nh := fun a z => r.nh a (hN a z)
  mlive := fun a ha => by
   have nw : a ∉ wr := fun z => r.notN a ha (hwN a z)
   cases e : h.get? a with
   | none => exact absurd e (r.mlive a ha)
   | some o => rw [k a o nw e]; simp
  vlen := r.vlen
  nnodup := r.nnodup }
theorem LR.moreN {F : List Addr} {h h' : Heap} (r : LR prog w H names N Z F env μ l m cm h) (x : Mv q F No h h') (hd : ∀ b ∈ wr, h.get? b = none) (hl : ∀ b ∈ wr, h'.get? b ≠ none) (hH : ∀ b ∈ wr, H.get? b = none) :
  LR prog w H names (fun a => N a ∨ a ∈ wr) Z F env μ l m cm h' := by
 have hPN : ∀ b, h.get? b ≠ none → Pr (fun a => N a ∨ a ∈ wr) env μ l b → Pr N env μ l b := fun b hb z => by
  rcases z with (z | z) | z
  ·exact .inl z
  ·exact absurd (hd b z) hb
  ·exact .inr z
 have rds : ∀ {vs : List Value} {ds : List D}, RDs (Pr N env μ l) h vs ds → RDs (Pr (fun a => N a ∨ a ∈ wr) env μ l) h' vs ds := fun y => (RDs.less hPN y).mv0 x
 exact {
  ns := CO r.ns x id
  cl := fun n c e => A9 (r.cl n c e) x id
  capart := r.capart
  clive := fun n c e => xE (r.clive n c e) fun v y => ⟨v, A9 y x id⟩
  vars := fun i y u h1 h2 => by
   refine BK (r.vars i y u h1 h2) fun v h3 h4 => ?_
   exact (A4 v h3 (RW.mv (RW.less h4 hPN fun b _ z => z) x (fun _ z => z.elim) trivial fun _ z => z.elim))
  cells := fun i a c h1 h2 => by
   have h3 := r.cells i a c h1 h2
   cases c with
   | dead => trivial
   | list ds => refine B6 h3 fun items k hl' hr => ?_; clear h3; exact (EL items k (x.exact _ _ hl' id (.inr (.inr (by intro _ _ z; cases z)))) (rds hr))
   | nest is => refine B6 h3 fun items k hl' hr => ?_; clear h3; exact (EL items k (x.exact _ _ hl' id (.inr (.inr (by intro _ _ z; cases z)))) hr)
   | dict kvs => exact ⟨Cu (DictIs.less h3.1 hPN) x id h3.2 trivial fun _ z => z.elim, h3.2⟩
  len := r.len
  nodup := r.nodup
  notN := fun a ha z => z.elim (r.notN a ha) fun z => r.mlive a ha (hd a z)
  notL := r.notL
  zf := r.zf
  zn := fun a e => r.zn a (x.dead a e)
  hf := r.hf
  nlive := fun a e => e.elim (fun e => x.live a (r.nlive a e)) (hl a)
  nh := fun a e => e.elim (r.nh a) (hH a)
  mlive := fun a e => x.live a (r.mlive a e)
  vlen := r.vlen
  nnodup := r.nnodup }
theorem Mv.walk {F : List Addr} {X : Addr → Prop} {h h₁ h₂ : Heap} (x : Mv q F X h h₁) (hd : ∀ b ∈ wr, h.get? b = none) (k : ∀ b o, b ∉ wr → h₁.get? b = some o → h₂.get? b = some o) : Mv q F X h h₂ where
 keep := fun b o e n => xE (x.keep b o e n) fun sl y => ⟨sl, k b _ (fun z => by rw [hd b z] at e; cases e) y⟩
 exact := fun b o e n hq => k b o (fun z => by rw [hd b z] at e; cases e) (x.exact b o e n hq)
 live := fun b e => by
  have h1 := x.live b e
  cases y : h₁.get? b with
  | none => exact absurd y h1
  | some o => rw [k b o (fun z => e (hd b z)) y]; simp
inductive IterR (prog : Program) (w : World) (A : Around) (P : Addr → Prop) (s s' : Shared) (es : List D) (it : Value) (tgt : Expr) : Prop
 | mk (I : Addr) (fp wr : List Addr) (Pw : Nat → Value → Prop) (St : Nat → Heap → Prop) (vs : List Value) (ds : List D) (h1 : it = .ref I) (h2 : Walks prog w A I fp wr es.length Pw St) (h3 : St 0 s'.heap) (h4 : ∀ b ∈ wr, s.heap.get? b = none) (h5 : ∀ b ∈ fp, ¬ P b)
  (h6 : ∀ i h, St i h → ∀ b ∈ fp, ∃ o, h.get? b = some o ∧ M5 o) (h7 : ∀ i h, St i h → ∀ b ∈ wr, ∃ o, h.get? b = some o ∧ o.cls ≠ .type "list")
  (h8 : ∀ (v : Value) (i : Nat) (s : Shared) (Q : Unit → Shared → Prop) (E : Value → Shared → Prop), St i s.heap → Q () s → wpAny (model prog w) A (letOwnedTupleGo tgt (.ref I) v) Q E s)
  (h9 : RDs (fun a => P a ∨ a ∈ wr) s'.heap vs ds) (h10 : ∀ (P' : Addr → Prop) h, RDs P' h vs ds → ∀ i v, Pw i v → ∃ d, es[i]? = some d ∧ RD P' h v d)
noncomputable def SI (prog : Program) (w : World) (H : Heap) (C : Addr) (n : Nat) (q : Bool) (names : List Str) (sc : Scope) (e : Expr) (tgt : Expr) (f : Loc → Res (List D)) : Prop :=
 ∀ ⦃A : Around⦄ ⦃env : Env⦄ ⦃fs : List Env⦄ ⦃N Z : Addr → Prop⦄ ⦃μ : List Addr⦄ ⦃l : Loc⦄ ⦃m cm : Str → Option Value⦄ ⦃s : Shared⦄,
  Cx prog w H n names sc A env fs N Z μ l m cm s → f l ≠ .fail → wpAny (model prog w) A (eval e env) (fun x s₁ => wpAny (model prog w) A (pyIter x)
   (fun it s₂ => ∃ es, f l = .ok es ∧ IterR prog w A (Pr N env μ l) s s₂ es it tgt ∧ Go q (FA fs) No s s₂) (fun e s' => ∃ x, f l = .exc x ∧ exE C (FA fs) s x e s') s₁) (fun e s' => ∃ x, f l = .exc x ∧ exE C (FA fs) s x e s') s
noncomputable def BW (g : D → Loc → Res Loc) (f : Loc → Res (Fl × Loc)) : List D → Loc → Res (Fl × Loc)
 | [], l => .ok (.next, l)
 | d :: es, l => (g d l).bind fun l => (f l).bind fun p => match p.1 with
  | .next => BW g f es p.2
  | .cont => BW g f es p.2
  | .ret r => .ok (.ret r, p.2)
noncomputable def wN (N : Addr → Prop) (wr : List Addr) : Addr → Prop := fun a => N a ∨ a ∈ wr
noncomputable def TX (M : Model) (A : Around) (env : Env) (Q : Flow → Shared → Prop) (E : Value → Shared → Prop) : Result → Shared → Prop := fun r s' => match r with
 | .ok f => Q f s'
 | .error e => cameBackBy M A env E e s'
inductive LpI (prog : Program) (w : World) (H : Heap) (n : Nat) (q : Bool) (names : List Str) (sc : Scope) (A : Around) (env : Env) (fs : List Env) (N Z : Addr → Prop) (fp : List Addr) (St : Nat → Heap → Prop) (len : Nat) (vs : List Value) (ds : List D) (μ : List Addr) (l : Loc) (s : Shared) (T : Nat → Loc → Prop) (k : Nat) (s' : Shared) : Prop
 | mk (i : Nat) (l' : Loc) (μ' : List Addr) (m' cm' : Str → Option Value) (h1 : i ≤ len) (h2 : k = len + 1 - i) (h3 : Cx prog w H n names sc A env fs N Z μ' l' m' cm' s') (h4 : Go q (FA fs) (own env μ l) s s') (h5 : Ext env μ l μ' l' s.heap) (h6 : St i s'.heap)
  (h7 : RDs (Pr N env μ' l') s'.heap vs ds) (h8 : ∀ b ∈ fp, ¬ own env μ' l' b) (h9 : T i l')
theorem Li {h : Heap} {b : Addr} {p : Obj → Prop} (e : ∃ o, h.get? b = some o ∧ p o) : h.get? b ≠ none := by
 refine BK e fun o e _ => ?_; rw [e]; simp
theorem Hp {wr : List Addr} {h h' : Heap} (hw : ∀ b ∈ wr, h'.get? b ≠ none) (hk : ∀ b o, b ∉ wr → h.get? b = some o → h'.get? b = some o) {b : Addr} (hb : h.get? b ≠ none) : h'.get? b ≠ none := by
 by_cases z : b ∈ wr
 ·exact hw b z
 ·cases y : h.get? b with
  | none => exact absurd y hb
  | some o => rw [hk b o z y]; simp
theorem QQ {wr : List Addr} {z h : Heap} {rr : RV} {v : Value} (hwl : ∀ b ∈ wr, ∃ o, h.get? b = some o ∧ o.cls ≠ .type "list") (h1 : FlR Z (Pr (wN N wr) env μ l) C z h (.ret rr) (.ret v)) : FlR Z (Pr N env μ l) C z h (.ret rr) (.ret v) := by
 have le : ∀ b, h.get? b ≠ none → Pr N env μ l b → Pr (wN N wr) env μ l b := fun b _ z => z.imp .inl id
 cases rr with
 | val d => exact RD.less le h1
 | ex x => exact h1
 | fr ds' =>
  refine De h1 fun a items kk hv hz hp hg hrr => ?_; clear h1
  refine (Dc a items kk hv hz ?_ hg (RDs.less le hrr))
  rcases hp with (z | z) | z
  ·exact .inl z
  ·refine BK (hwl a z) fun o e hcl => ?_
   rw [hg] at e; cases e; exact absurd rfl hcl
  ·exact .inr z
theorem NJ {tgt : Expr} {body : List Stmt} {g : D → Loc → Res Loc} {f : Loc → Res (Fl × Loc)} {es : List D} {I : Addr} {fp wr : List Addr} {St : Nat → Heap → Prop} {vs : List Value} {ds : List D} {s₂ : Shared} {r : Res (Fl × Loc)}
  (cx : Cx prog w H n names sc A env fs N Z μ l m cm s) (fo : FrOk env fs) (hf : SB prog w H C n q names sc body f) (sub : ∀ b ∈ wr, b ∈ fp) (frame : ∀ i h h', St i h → (∀ b ∈ fp, ∀ o, h.get? b = some o → h'.get? b = some o) → St i h')
  (st0 : St 0 s₂.heap) (hwd : ∀ b ∈ wr, s.heap.get? b = none) (hfpP : ∀ b ∈ fp, ¬ Pr N env μ l b) (hfp : ∀ i h, St i h → ∀ b ∈ fp, ∃ o, h.get? b = some o ∧ M5 o) (hwl : ∀ i h, St i h → ∀ b ∈ wr, ∃ o, h.get? b = some o ∧ o.cls ≠ .type "list")
  (hrd : RDs (wN (Pr N env μ l) wr) s₂.heap vs ds) (g₀ : Go q (FA fs) No s s₂)
  (item : ∀ ⦃i : Nat⦄ ⦃μ₁ : List Addr⦄ ⦃l₁ : Loc⦄ ⦃m₁ cm₁ : Str → Option Value⦄ ⦃s₁ : Shared⦄ ⦃d : D⦄ ⦃K : Shared → Prop⦄ ⦃Q : Option Value → Shared → Prop⦄ ⦃E₁ E₂ E₃ : Value → Shared → Prop⦄, i < es.length → es[i]? = some d → St i s₁.heap → g d l₁ ≠ .fail →
   (∀ h' tk, (∀ b o, b ∉ wr → s₁.heap.get? b = some o → h'.get? b = some o) → St (i + 1) h' → Cx prog w H n names sc A env fs (wN N wr) Z μ₁ l₁ m₁ cm₁ { s₁ with heap := h', toks := tk } ∧ RDs (Pr (wN N wr) env μ₁ l₁) h' vs ds) →
   (∀ h' tk s₃ l₃, (∀ b o, b ∉ wr → s₁.heap.get? b = some o → h'.get? b = some o) → St (i + 1) h' → g d l₁ = .ok l₃ → okA prog w H q names fs (wN N wr) Z env μ₁ l₁ { s₁ with heap := h', toks := tk } l₃ () s₃ → K s₃) →
   (∀ v s', wpAny (model prog w) A (letOwnedTupleGo tgt (.ref I) v) (fun _ s₁' => wpAny (model prog w) A (assign tgt env v) (fun _ s₂ => K s₂) E₁ s₁') E₂ s' → Q (some v) s') → wpAny (model prog w) A (pyNext (.ref I)) Q E₃ s₁)
  (done : ∀ (s : Shared) (Q : Option Value → Shared → Prop) (E : Value → Shared → Prop), St es.length s.heap → (∀ h' tk, (∀ b o, b ∉ wr → s.heap.get? b = some o → h'.get? b = some o) → Q none { s with heap := h', toks := tk }) → wpAny (model prog w) A (pyNext (.ref I)) Q E s)
  (hr0 : BW g f es l = r) (hr : r ≠ .fail) :
  codeAny (model prog w) A (.forLoop tgt (.ref I) body [] env) (TX (model prog w) A env (fun fl s' => ∃ a, r = .ok a ∧ okS prog w H C q names fs N Z env μ l s a fl s') (fun e s' => ∃ x, r = .exc x ∧ exS C fs env μ l s x e s')) s₂ := by
 have hwH : ∀ b ∈ wr, H.get? b = none := fun b hb => F2 cx (hwd b hb)
 have lr₂ : LR prog w H names (wN N wr) Z (FA fs) env μ l m cm s₂.heap := cx.lr.moreN g₀.mv hwd (fun b hb => Li (hfp 0 _ st0 b (sub b hb))) hwH
 have hrd₂ : RDs (Pr (wN N wr) env μ l) s₂.heap vs ds := by
  refine RDs.less (fun b hb z => ?_) hrd
  rcases z with (z | z) | z
  ·exact .inl (.inl z)
  ·exact .inr z
  ·exact .inl (.inr z)
 refine codeAny_forLoop_any (LpI prog w H n q names sc A env fs (wN N wr) Z fp St es.length vs ds μ l s fun i l' => BW g f (es.drop i) l' = r) ?_ (es.length + 1)
  ⟨0, l, μ, m, cm, UG _, rfl, ⟨cx.a, cx.e, cx.fr, cx.inv.go0 g₀.mv, lr₂⟩, g₀.mono fun _ z => z.elim, .refl, st0, hrd₂, fun b hb z => hfpP b hb (.inr z), hr0⟩
 intro k s₁ y
 obtain ⟨i, l₁, μ₁, m₁, cm₁, hile, hk0, cx₁, g₁, e₁, st₁, hr₁, hd₁, hk⟩ := y
 have hwd₁ : ∀ b ∈ wr, ∃ o, s₁.heap.get? b = some o ∧ M5 o := fun b hb => hfp i _ st₁ b (sub b hb)
 have gw : ∀ {h' : Heap} {tk : Nat}, (∀ b o, b ∉ wr → s₁.heap.get? b = some o → h'.get? b = some o) → Go q (FA fs) (own env μ l) s { s₁ with heap := h', toks := tk } := fun hk' => ⟨g₁.mv.walk hwd hk', g₁.gens, g₁.os, g₁.drawn⟩
 by_cases hlt : i < es.length
 ·have hdrop := List.drop_eq_getElem_cons hlt
  rw [hdrop] at hk
  unfold BW at hk
  have hne1 : g es[i] l₁ ≠ .fail := fun z => by rw [z] at hk; exact hr hk.symm
  have step : ∀ h' tk, (∀ b o, b ∉ wr → s₁.heap.get? b = some o → h'.get? b = some o) → St (i + 1) h' → Cx prog w H n names sc A env fs (wN N wr) Z μ₁ l₁ m₁ cm₁ { s₁ with heap := h', toks := tk } ∧ RDs (Pr (wN N wr) env μ₁ l₁) h' vs ds := fun h' tk hk' st' => by
   have hwl' : ∀ b ∈ wr, h'.get? b ≠ none := fun b hb => Li (hfp _ _ st' b (sub b hb))
   have mvw : Mv q (FA fs) (· ∈ wr) s₁.heap h' := ⟨fun b o e n => ⟨o.slots, hk' b o n e⟩, fun b o e n _ => hk' b o n e, fun b => Hp hwl' hk'⟩
   exact ⟨⟨cx.a, cx.e, cx.fr, cx₁.inv.go mvw hwH fun b hb z => by
     refine EP (cx₁.inv.fns b hb) fun mm o es' ep e hd _ => ?_
     refine B1 (hwd₁ b z) fun o' e' hn1 _ => ?_
     rw [e] at e'; cases e'; exact absurd hd (hn1 _ _),
    cx₁.lr.walk hk' (fun b hb => .inr hb) hwd₁ (fun _ z => z) (fun a e => cx₁.lr.zn a (Classical.byContradiction fun z => Hp hwl' hk' z e)) fun a z => Hp hwl' hk' (cx₁.lr.nlive a z)⟩, RDs.walk hk' (fun b hb => .inl (.inr hb)) hr₁⟩
  refine item (μ₁ := μ₁) (m₁ := m₁) (cm₁ := cm₁) hlt (List.getElem?_eq_getElem hlt) st₁ hne1 step (fun h' tk s₃ l₃ hk' st' hl₃ h₃ => ?_) fun v s' h => h
  rw [hl₃] at hk
  refine xA (step h' tk hk' st') fun cx₂ hr₂ => ?_
  refine B6 (okA.step cx₂ h₃) fun m₃ cm₃ cx₃ g₃ => ?_
  have hc₃ := h₃.1
  have e₃ : Ext env μ l μ₁ l₃ s.heap := ⟨fun a z => e₁.own a (by rw [Eg hc₃] at z; exact z), e₁.pre⟩
  have g₃' : Go q (FA fs) (own env μ l) s s₃ := (gw hk').trans g₃ fun b z => e₁.own b z
  have frm : ∀ {X : Addr → Prop} {ha hb : Heap} {j : Nat} {qq : Bool}, Mv qq (FA fs) X ha hb → (∀ b ∈ fp, ¬ X b) → St j ha → St j hb := fun {X ha hb j qq} mv hX st => frame _ _ _ st fun b hbf o e => by
   refine BK (hfp j _ st b hbf) fun o' e' hn => ?_
   rw [e] at e'; cases e'
   exact mv.exact b o e (hX b hbf) (.inr (.inr hn.1))
  have st₃ : St (i + 1) s₃.heap := frm g₃.mv hd₁ st'
  have hr₃ : RDs (Pr (wN N wr) env μ₁ l₃) s₃.heap vs ds := by
   rw [My hc₃]; exact RDs.mv g₃.mv trivial (fun b z => .inr z) hr₂
  have hd₃ : ∀ b ∈ fp, ¬ own env μ₁ l₃ b := fun b hb => by rw [Eg hc₃]; exact hd₁ b hb
  have hne2 : f l₃ ≠ .fail := fun z => by
   have hk : ((f l₃).bind _) = r := hk
   rw [z] at hk; exact hr hk.symm
  refine To ((hf cx₃ fo).to_wp hne2) (fun fl s₄ z_ => BK z_ fun p hp h₄ => ?_) fun e s₄ z_ => BK z_ fun x hx hX => ?_
  ·obtain ⟨f1, l₄⟩ := p
   obtain ⟨μ₄, m₄, cm₄, h1, h2, h3, h4⟩ := h₄
   have st₄ : St (i + 1) s₄.heap := frm h3.mv hd₃ st₃
   have hk : ((f l₃).bind _) = r := hk
   rw [hp] at hk
   have again : BW g f (es.drop (i + 1)) l₄ = r → ∃ k', k' < k ∧ LpI prog w H n q names sc A env fs (wN N wr) Z fp St es.length vs ds μ l s (fun i l' => BW g f (es.drop i) l' = r) k' s₄ := fun hk =>
    ⟨es.length + 1 - (i + 1), by rw [hk0]; lia, i + 1, l₄, μ₄, m₄, cm₄, hlt, rfl, cx₃.step h2 h3, g₃'.own_trans e₃ h3, e₃.trans g₃'.mv h4, st₄,
     RDs.ml h3.mv (fun b z => .inr z) (fun b hb z => z.imp id fun z => (h4.own b z).resolve_right hb) hr₃,
     fun b hb z => (h4.own b z).elim (hd₃ b hb) fun e => Li (hfp _ _ st₃ b hb) e, hk⟩
   cases f1 with
   | next => cases fl <;> first | exact again hk | exact h1.elim
   | cont => cases fl <;> first | exact again hk | exact h1.elim
   | ret rr =>
    cases fl with
    | ret v =>
     have lrN := h2.walk (N := N) (h' := s₄.heap) (fun b o _ e => e) (fun b hb => .inr hb) (fun b hb => hfp _ _ st₄ b (sub b hb)) (fun _ z => .inl z) h2.zn fun a z => h2.nlive a (.inl z)
     exact (A4 (.ret rr, l₄) hk.symm (okS.after (s₁ := s₃) (μ' := μ₁) (l' := l₃) ⟨μ₄, m₄, cm₄, QQ (hwl _ _ st₄) h1, lrN, h3, h4⟩ g₃' e₃))
    | _ => exact h1.elim
  ·have hk : ((f l₃).bind _) = r := hk
   rw [hx] at hk
   exact (hX.after g₃' e₃).loop cx fo fun s₅ y => (A4 x hk.symm y)
 ·have hieq : i = es.length := by lia
  subst hieq
  refine done s₁ _ _ st₁ fun h' tk hk' => ?_
  rw [List.drop_length] at hk
  refine wpAny_execs_nil ⟨(.next, l₁), hk.symm, μ₁, m₁, cm₁, trivial, cx₁.lr.walk (N := N) hk' (fun b hb => .inr hb) hwd₁ (fun _ z => .inl z) (fun a e => ?_) fun a z => ?_, gw hk', e₁⟩
  ·by_cases z : a ∈ wr
   ·exact cx.lr.zn a (hwd a z)
   ·refine cx₁.lr.zn a ?_
    cases y : s₁.heap.get? a with
    | none => rfl
    | some o => rw [hk' a o z y] at e; cases e
  ·have nw : a ∉ wr := fun y => cx.lr.nlive a z (hwd a y)
   cases y : s₁.heap.get? a with
   | none => exact absurd y (cx₁.lr.nlive a (.inl z))
   | some o => rw [hk' a o nw y]; simp
theorem Fp {t e : Expr} {body : List Stmt} {pos : Pos} {fi : Loc → Res (List D)} {g : D → Loc → Res Loc} {f : Loc → Res (Fl × Loc)} (hi : SI prog w H C n q names sc e t fi) (ht : AS prog w H C n q names sc t g) (hf : SB prog w H C n q names sc body f)
  (hs : autoParam (∀ env x, foldedSetIterable e env x = pure x) tA) :
  SS prog w H C n q names sc (.For t e body [] pos) fun l => (fi l).bind fun es => BW g f es l := fun {A env fs N Z μ l m cm s} cx fo => by
 show Sat _ A _ ((fi l).bind fun es => BW g f es l) _ _ s
 refine Sat.of_wp fun hr => ?_
 have lift : ∀ {e : Value} {s' : Shared}, (∃ x, fi l = .exc x ∧ exE C (FA fs) s x e s') → ∃ x, (fi l).bind (fun es => BW g f es l) = .exc x ∧ exS C fs env μ l s x e s' := fun z_ => BK z_ fun x h1 h2 => (A4 x (by rw [h1]; rfl) (h2.toS cx))
 refine wpAny_For (To (hi cx fun z => by rw [z] at hr; exact hr rfl) (fun x s₁ h₁ => To h₁ (fun it s₂ h₂ => ?_) fun _ _ z => lift z) fun _ _ z => lift z) (hs env)
 refine B1 h₂ fun es hes hI g₀ => ?_; clear h₂
 rw [hes] at hr ⊢
 obtain ⟨I, fp, wr, Pw, St, vs, ds, hit, W, st0, hwd, hfpP, hfp, hwl, hgo, hrd, hel⟩ := hI
 rw [hit]
 exact NJ cx fo hf W.sub W.frame st0 hwd hfpP hfp hwl hrd g₀ (fun i μ₁ l₁ m₁ cm₁ s₁ d K Q E₁ E₂ E₃ hlt hd st₁ hne hst hK hQ =>
  W.item i s₁ _ _ hlt st₁ fun v h' tk hPv st' hk' => hQ _ _ (xA (hst h' tk hk' st') fun cx₂ hr₂ => BK (hel _ h' hr₂ i v hPv) fun d' hd' rv => by
   rw [hd] at hd'; cases hd'
   exact hgo v (i + 1) _ _ _ st' (To ((ht v d cx₂ rv).to_wp hne) (fun _ s₃ z_ => BK z_ fun l₃ hl₃ h₃ => hK h' tk s₃ l₃ hk' st' hl₃ h₃) fun _ _ z_ => BK z_ fun _ _ f => f.elim))) W.done rfl hr
end Mine
namespace Mine
variable {prog : Program} {w : World} {H : Heap} {C : Addr} {n n' : Nat} {q : Bool} {names : List Str} {sc : Scope}
variable {A : Around} {env : Env} {fs : List Env} {N N' Z : Addr → Prop} {μ : List Addr} {l : Loc} {m cm : Str → Option Value} {s s' : Shared} {wr : List Addr}
variable {mg mb : Str → Option Value}
theorem RDs.getv {P : Addr → Prop} {h : Heap} : ∀ {vs : List Value} {ds : List D} {k : Nat} {v : Value}, RDs P h vs ds → vs[k]? = some v → ∃ d, ds[k]? = some d ∧ RD P h v d
 | [], _, _, _, _, h => by simp at h
 | _ :: _, _, k, v, r, h => by
  cases r with
  | cons r rs =>
   cases k with
   | zero => simp at h; subst h; exact (A4 _ rfl r)
   | succ k => simp at h; refine BK (RDs.getv rs h) fun d h1 h2 => ?_; exact (A4 d (by simpa using h1) h2)
theorem Bv {o : Obj} {vs : Array Value} (h : o.data = .fields vs) : M5 o := ⟨fun es n z => (by rw [h] at z; cases z), fun v z => (by rw [h] at z; cases z)⟩
theorem EG {o : Obj} {vs : Array Value} {n : Nat} (h : o.data = .seq vs n) : M5 o := ⟨fun es n z => (by rw [h] at z; cases z), fun v z => (by rw [h] at z; cases z)⟩
noncomputable def Bh : D → Res (List D)
 | .list ds => .ok ds
 | .tuple ds => .ok ds
 | .str x => .ok (x.cps.toList.map fun c => .str ⟨#[c]⟩)
 | _ => .fail
theorem E3 {e tgt : Expr} {f : Loc → Res D} (h : SE prog w H C n q names sc e f) (hT : (∀ I v, letOwnedTupleGo tgt I v = pure ()) ∨ ∀ l x, f l = .ok (.str x) → False) : SI prog w H C n q names sc e tgt fun l => (f l).bind Bh := fun {A env fs N Z μ l m cm s} cx hne => by
 have hne' : f l ≠ .fail := fun z => hne (by show (f l).bind Bh = _; rw [z]; rfl)
 refine To ((h cx).to_wp hne') (fun v s₁ z_ => BK z_ fun d hd h₁ => ?_) fun e s₁ z_ => BK z_ fun x hx y => (A4 x (by show (f l).bind Bh = _; rw [hx]; rfl) y)
 show wpAny _ A _ (fun it s₂ => ∃ es, (f l).bind Bh = .ok es ∧ _) _ s₁
 have hne2 : Bh d ≠ .fail := fun z => hne (by show (f l).bind Bh = _; rw [hd]; exact z)
 have cx₁ := cx.go h₁.2
 have dd : ∀ o : Obj, s.heap.get? s₁.heap.objs.size = none := fun _ => h₁.2.mv.dead _ (A0 _)
 have hpl := cx₁.plive
 rw [hd]
 have rr : ∀ {o : Obj} {vs : List Value} {ds : List D}, RDs (Pr N env μ l) s₁.heap vs ds → RDs (fun a => Pr N env μ l a ∨ a ∈ [s₁.heap.objs.size]) (s₁.heap.push o) vs ds := fun {o vs ds} r =>
  RDs.ml (q := true) (F := []) (X := No) (Mv.of_push o) (fun _ z => z.elim) (fun b hb z => z.elim id fun z => by simp at z; subst z; exact absurd (A0 _) hb) r
 have gp : ∀ o : Obj, Go q (FA fs) No s { s₁ with heap := s₁.heap.push o } := fun o => h₁.2.trans0 (Go.of' (Mv.of_push _))
 cases d with
 | list ds =>
  refine CP h₁.1.list_inv fun a items k z3_ hg hp rs => ?_; obtain rfl := z3_
  have hsz := Aa rs
  have hne3 : a ≠ s₁.heap.objs.size := fun z => by rw [z, A0] at hg; cases hg
  refine wpAny_pyIter_list (Cf _ hg rfl _ rfl) (B0 ds rfl ⟨s₁.heap.objs.size, [s₁.heap.objs.size, a], [s₁.heap.objs.size], _, _, items.toList, ds, rfl, hsz ▸ Walks.list cx.a.hd _ a hne3 items,
   ⟨(B0 _ (UQ _ rfl) rfl rfl), (Cf _ (UE _ hg) rfl _ rfl)⟩, fun b hb => by simp at hb; subst hb; exact dd default, fun b hb z => ?_, fun i h st b hb => ?_, fun i h st b hb => ?_, fun v i s Q E st hq => letGo_listiter st.1 hq, rr rs, fun P' h rs' i v hv => RDs.getv rs' (by simpa using hv)⟩ (gp _))
  ·simp at hb
   rcases hb with rfl | rfl
   ·exact hpl _ z (A0 _)
   ·exact hp z
  ·simp at hb
   refine xA st fun z0_ z1_ => ?_; clear st; refine B1 z0_ fun o e _ hd => ?_; clear z0_; obtain ⟨o', e', _, kk, hd'⟩ := z1_
   rcases hb with rfl | rfl
   ·exact (A4 o e (Bv hd))
   ·exact (A4 o' e' (EG hd'))
  ·simp at hb; subst hb
   refine xA st fun z0_ _ => ?_; clear st; refine B1 z0_ fun o e hc _ => ?_; clear z0_
   exact (A4 o e (by rw [hc]; simp))
 | tuple ds =>
  refine CF h₁.1.tup_inv fun a items k z3_ hg rs => ?_; obtain rfl := z3_
  have hp : ¬ Pr N env μ l a := by cases h₁.1 with | tup _ hp _ => exact hp
  have hsz := Aa rs
  have hne3 : a ≠ s₁.heap.objs.size := fun z => by rw [z, A0] at hg; cases hg
  refine wpAny_pyIter_tuple (Cf _ hg rfl _ rfl) (B0 ds rfl ⟨s₁.heap.objs.size, [s₁.heap.objs.size, a], [s₁.heap.objs.size], _, _, items.toList, ds, rfl, hsz ▸ Walks.tuple cx.a.hd _ a hne3 items,
   ⟨(B0 _ (UQ _ rfl) rfl rfl), (Cf _ (UE _ hg) rfl _ rfl)⟩, fun b hb => by simp at hb; subst hb; exact dd default, fun b hb z => ?_, fun i h st b hb => ?_, fun i h st b hb => ?_, fun v i s Q E st hq => letGo_tupleiter st.1 hq, rr rs, fun P' h rs' i v hv => RDs.getv rs' (by simpa using hv)⟩ (gp _))
  ·simp at hb
   rcases hb with rfl | rfl
   ·exact hpl _ z (A0 _)
   ·exact hp z
  ·simp at hb
   refine xA st fun z0_ z1_ => ?_; clear st; refine B1 z0_ fun o e _ hd => ?_; clear z0_; obtain ⟨o', e', _, kk, hd'⟩ := z1_
   rcases hb with rfl | rfl
   ·exact (A4 o e (Bv hd))
   ·exact (A4 o' e' (EG hd'))
  ·simp at hb; subst hb
   refine xA st fun z0_ _ => ?_; clear st; refine B1 z0_ fun o e hc _ => ?_; clear z0_
   exact (A4 o e (by rw [hc]; simp))
 | str x =>
  refine xE h₁.1.str_inv fun t z1_ => ?_; obtain rfl := z1_
  have hT := hT.resolve_right fun z => z l x hd
  have key : ∀ (ty : String) (hty : ty ≠ "list") (W : Walks prog w A s₁.heap.objs.size [s₁.heap.objs.size] [s₁.heap.objs.size] x.cps.size (SignAt x) (fun i h => h.IsStrIter s₁.heap.objs.size ty x t i)),
    ∃ es, (Res.ok (PyData.str x)).bind Bh = .ok es ∧ IterR prog w A (Pr N env μ l) s { s₁ with heap := s₁.heap.push { cls := .type ty, data := .fields #[.str x t, .int 0 0] } } es (.ref s₁.heap.objs.size) tgt ∧ Go q (FA fs) No s { s₁ with heap := s₁.heap.push { cls := .type ty, data := .fields #[.str x t, .int 0 0] } } := fun ty hty W => by
   have W' : Walks prog w A s₁.heap.objs.size [s₁.heap.objs.size] [s₁.heap.objs.size] (x.cps.toList.map fun c => (.str ⟨#[c]⟩ : D)).length (SignAt x) (fun i h => h.IsStrIter s₁.heap.objs.size ty x t i) := by simpa using W
   refine (B0 _ rfl ⟨s₁.heap.objs.size, [s₁.heap.objs.size], [s₁.heap.objs.size], _, _, [], [], rfl, W', (B0 _ (UQ _ rfl) rfl rfl), fun b hb => by simp at hb; subst hb; exact dd default, fun b hb z => ?_, fun i h st b hb => ?_, fun i h st b hb => ?_, fun v i s Q E st hq => by rw [hT]; exact Tr hq, .nil, fun P' h _ i v hv => ?_⟩ (gp _))
   ·simp at hb; subst hb; exact hpl _ z (A0 _)
   ·simp at hb; subst hb
    refine B1 st fun o e _ hd => ?_; clear st
    exact (A4 o e (Bv hd))
   ·simp at hb; subst hb
    refine B1 st fun o e hc _ => ?_; clear st
    exact (A4 o e (by rw [hc]; simpa using hty))
   ·refine B6 hv fun c u hc z3_ => ?_; clear hv; obtain rfl := z3_
    exact (A4 (.str ⟨#[c]⟩) (by simp [hc]) (.str _ _))
  cases ha : x.cps.all (· < 128)
  ·exact wpAny_pyIter_wide ha (key _ (by decide) (Walks.strWide cx.a.hd _ x t))
  ·exact wpAny_pyIter_ascii ha (key _ (by decide) (Walks.strAscii cx.a.hd _ x t))
 | _ => exact absurd rfl hne2
noncomputable def B7 : List D → Res (List D)
 | [.int b] => if b.natAbs < 2 ^ 62 then .ok ((List.range b.toNat).map fun i : Nat => .int (i : Int)) else .fail
 | [.int a, .int b] => if a.natAbs < 2 ^ 62 ∧ b.natAbs < 2 ^ 62 then .ok ((List.range (b - a).toNat).map fun i : Nat => .int (a + (i : Int))) else .fail
 | _ => .fail
theorem NH {tgt : Expr} (hT : ∀ I v, letOwnedTupleGo tgt I v = pure ()) {s₁ : Shared} (cx : Cx prog w H n names sc A env fs N Z μ l m cm s) {E : Value → Shared → Prop} (g : Go q (FA fs) No s s₁) {r : Addr} {a b : Int} {t u v : Tok} (hr : IsRange s₁.heap r a b 1 t u v) (ha : a.natAbs < 2 ^ 62) (hb : b.natAbs < 2 ^ 62) :
  wpAny (model prog w) A (pyIter (.ref r)) (fun it s₂ => IterR prog w A (Pr N env μ l) s s₂ ((List.range (b - a).toNat).map fun i : Nat => .int (a + (i : Int))) it tgt ∧ Go q (FA fs) No s s₂) E s₁ := by
 refine wpAny_pyIter_range hr (small_one (by lia) (by lia) (by lia) (by lia)) ?_
 have hsz := rangeSize_nat a b
 rw [hsz]
 have cx₁ := cx.go g
 have W' : Walks prog w A s₁.heap.objs.size [s₁.heap.objs.size] [s₁.heap.objs.size] ((List.range (b - a).toNat).map fun i : Nat => (.int (a + (i : Int)) : D)).length (fun i v => i < (b - a).toNat ∧ ∃ t, v = .int (a + i * 1) t) (fun i h => IsRangeIter h s₁.heap.objs.size (a + (i : Nat) * 1) (((b - a).toNat : Int) - (i : Nat)) 1) := by
  rw [Tu, List.length_range]; exact (Walks.range (prog := prog) (w := w) cx.a.hd s₁.heap.objs.size a 1 (b - a).toNat).bound
 refine ⟨⟨s₁.heap.objs.size, [s₁.heap.objs.size], [s₁.heap.objs.size], _, _, [], [], rfl, W', ?_, fun b hb => by simp at hb; subst hb; exact g.mv.dead _ (A0 _), fun b hb z => ?_, fun i h st b hb => ?_, fun i h st b hb => ?_,
  fun v i s Q E st hq => by rw [hT]; exact Tr hq, .nil, fun P' h _ i v hv => ?_⟩, g.trans0 (Go.of' (Mv.of_push _))⟩
 ·have e1 : (a + ((0 : Nat) : Int) * 1) = a := by simp
  have e2 : ((((b - a).toNat : Nat) : Int) - ((0 : Nat) : Int)) = ((b - a).toNat : Int) := by simp
  show IsRangeIter _ _ (a + ((0 : Nat) : Int) * 1) ((((b - a).toNat : Nat) : Int) - ((0 : Nat) : Int)) 1
  rw [e1, e2]
  exact UQ _ rfl
 ·simp at hb; subst hb; exact cx₁.plive _ z (A0 _)
 ·simp at hb; subst hb
  exact (A4 _ st (Bv rfl))
 ·simp at hb; subst hb
  exact (A4 _ st (by simp))
 ·refine xAE hv fun hi t z2_ => ?_; clear hv; obtain rfl := z2_
  exact (A4 (.int (a + i)) (by simp [hi]) (by simpa using RD.int _ _))
theorem Jk {x : Str} {p pos : Pos} {e tgt : Expr} {rest : List Expr} {f : Loc → Res (List D)} (G : Gl H mg mb) (hv : FK mg mb x (.type "range")) (hk : sc.names.lookup x = some .globalImplicit) (h : QB prog w H C n q names sc (e :: rest) f)
  (hT : ∀ I v, letOwnedTupleGo tgt I v = pure ()) (hst : autoParam (∀ env, starEach (e :: rest) env = (false, eval e env) :: starEach rest env) tA) (hplain : autoParam (∀ env, (backTo pos (starEach rest env)).any (·.1) = false) tA) (hd : autoParam ((x == ("__debug__" : Str)) = false) tA) :
  SI prog w H C n q names sc (.Call (.Name x p) (e :: rest) [] pos) tgt fun l => (f l).bind B7 := fun {A env fs N Z μ l m cm s} cx hne => by
 have hne' : f l ≠ .fail := fun z => hne (by show (f l).bind B7 = _; rw [z]; rfl)
 refine Call_Name rfl (BZ G hv hk cx ?_ hd)
 refine callWith_type1 (To ((h pos cx).to_wp hne') (fun vs s₁ z_ => BK z_ fun ds hds h₁ => ?_) fun e s₁ z_ => BK z_ fun x hx y => (A4 x (by show (f l).bind B7 = _; rw [hx]; rfl) y)) (hst env) (hplain env)
 have hne2 : B7 ds ≠ .fail := fun z => hne (by show (f l).bind B7 = _; rw [hds]; exact z)
 show wpAny _ A _ (fun x s₁ => wpAny _ A (pyIter x) (fun it s₂ => ∃ es, (f l).bind B7 = .ok es ∧ _) _ s₁) _ s₁
 rw [hds]
 simp only [Res.bind_ok]
 unfold B7 at hne2 ⊢
 split at hne2
 ·split at hne2
  ·rename_i b hb
   rw [Tl hb]
   refine BK (Ls h₁.1) fun v z1_ rv => ?_; obtain rfl := z1_
   refine xE rv.int_inv fun t z1_ => ?_; obtain rfl := z1_
   refine call_range_1 (To (NH (q := q) hT cx (h₁.2.trans0 (Go.of (Mv.of_push _))) (IsRange.new ..) (by decide) hb) (fun it s₂ y => (A4 _ rfl ?_)) fun _ _ f => f)
   simpa using y
  ·exact absurd rfl hne2
 ·split at hne2
  ·rename_i a b hb
   rw [Tl hb]
   refine GB (Lo h₁.1) fun v u z2_ rv ru => ?_; obtain rfl := z2_
   refine xE rv.int_inv fun t z1_ => ?_; obtain rfl := z1_
   refine xE ru.int_inv fun t' z1_ => ?_; obtain rfl := z1_
   exact call_range_2 (To (NH (q := q) hT cx (h₁.2.trans0 (Go.of (Mv.of_push _))) (IsRange.new ..) hb.1 hb.2) (fun it s₂ y => (A4 _ rfl y)) fun _ _ f => f)
  ·exact absurd rfl hne2
 ·exact absurd rfl hne2
end Mine
namespace Mine
variable {prog : Program} {w : World} {H : Heap} {C : Addr} {n n' : Nat} {q : Bool} {names : List Str} {sc : Scope}
variable {A : Around} {env : Env} {fs : List Env} {N N' Z : Addr → Prop} {μ : List Addr} {l : Loc} {m cm : Str → Option Value} {s s' : Shared} {wr : List Addr}
variable {mg mb : Str → Option Value}
inductive IterT (prog : Program) (w : World) (A : Around) (P : Addr → Prop) (s s' : Shared) (es : List (List D)) (it : Value) : Prop
 | mk (I : Addr) (fp wr : List Addr) (Pw : Nat → Array Value → Prop) (St : Nat → Heap → Prop) (Mid : Nat → Addr → Heap → Prop) (vs : List Value) (ds : List D) (h1 : it = .ref I) (h2 : WalksT prog w A I fp wr es.length Pw St Mid) (h3 : St 0 s'.heap) (h4 : ∀ b ∈ wr, s.heap.get? b = none) (h5 : ∀ b ∈ fp, ¬ P b)
  (h6 : ∀ i h, St i h → ∀ b ∈ fp, ∃ o, h.get? b = some o ∧ M5 o) (h7 : ∀ i h, St i h → ∀ b ∈ wr, ∃ o, h.get? b = some o ∧ o.cls ≠ .type "list")
  (h9 : RDs (fun a => P a ∨ a ∈ wr) s'.heap vs ds) (h10 : ∀ (P' : Addr → Prop) h, RDs P' h vs ds → ∀ i vals, Pw i vals → ∃ d, es[i]? = some d ∧ RDs P' h vals.toList d)
noncomputable def ST2 (prog : Program) (w : World) (H : Heap) (C : Addr) (n : Nat) (q : Bool) (names : List Str) (sc : Scope) (e : Expr) (f : Loc → Res (List (List D))) : Prop :=
 ∀ ⦃A : Around⦄ ⦃env : Env⦄ ⦃fs : List Env⦄ ⦃N Z : Addr → Prop⦄ ⦃μ : List Addr⦄ ⦃l : Loc⦄ ⦃m cm : Str → Option Value⦄ ⦃s : Shared⦄,
  Cx prog w H n names sc A env fs N Z μ l m cm s → f l ≠ .fail → wpAny (model prog w) A (eval e env) (fun x s₁ => wpAny (model prog w) A (pyIter x)
   (fun it s₂ => ∃ es, f l = .ok es ∧ IterT prog w A (Pr N env μ l) s s₂ es it ∧ Go q (FA fs) No s s₂) (fun e s' => ∃ x, f l = .exc x ∧ exE C (FA fs) s x e s') s₁) (fun e s' => ∃ x, f l = .exc x ∧ exE C (FA fs) s x e s') s
theorem Nk {h h' : Heap} {T : Addr} {vals : Array Value} (hT : h.IsTuple T vals) (k : ∀ o, h.get? T = some o → h'.get? T = some o) : h'.IsTuple T vals := let ⟨o, e, r⟩ := hT; ⟨o, k o e, r⟩
theorem OE {e : Expr} {ts : List Expr} {kk : Nat} {tp : Pos} {body : List Stmt} {pos : Pos} {fi : Loc → Res (List (List D))} {g : List D → Loc → Res Loc} {f : Loc → Res (Fl × Loc)} (hi : ST2 prog w H C n q names sc e fi) (ht : Ry prog w H C n q names sc ts g) (hstar : autoParam (∀ env, (assignEach ts env).findIdx? (·.1) = none) tA) (hlen : autoParam (∀ env, (assignEach ts env).length = ts.length) tA) (hf : SB prog w H C n q names sc body f)
  (hs : autoParam (∀ env x, foldedSetIterable e env x = pure x) tA) :
  SS prog w H C n q names sc (.For (.Tuple ts kk tp) e body [] pos) fun l => (fi l).bind fun es => BW (Ea g ts.length) f (es.map .tuple) l := fun {A env fs N Z μ l m cm s} cx fo => by
 show Sat _ A _ ((fi l).bind fun es => BW (Ea g ts.length) f (es.map .tuple) l) _ _ s
 refine Sat.of_wp fun hr => ?_
 have lift : ∀ {e : Value} {s' : Shared}, (∃ x, fi l = .exc x ∧ exE C (FA fs) s x e s') → ∃ x, (fi l).bind (fun es => BW (Ea g ts.length) f (es.map .tuple) l) = .exc x ∧ exS C fs env μ l s x e s' := fun z_ => BK z_ fun x h1 h2 => (A4 x (by rw [h1]; rfl) (h2.toS cx))
 refine wpAny_For (To (hi cx fun z => by rw [z] at hr; exact hr rfl) (fun x s₁ h₁ => To h₁ (fun it s₂ h₂ => ?_) fun _ _ z => lift z) fun _ _ z => lift z) (hs env)
 refine B1 h₂ fun es hes hI g₀ => ?_; clear h₂
 rw [hes] at hr ⊢
 obtain ⟨I, fp, wr, Pw, St, Mid, vs, ds, hit, W, st0, hwd, hfpP, hfp, hwl, hrd, hel⟩ := hI
 rw [hit]
 refine NJ (es := es.map .tuple) cx fo hf W.sub W.frame st0 hwd hfpP hfp hwl hrd g₀ (fun i μ₁ l₁ m₁ cm₁ s₁ d K Q E₁ E₂ E₃ hlt hd st₁ hne hst hK hQ => ?_) (by rw [Tu]; exact W.done) rfl hr
 rw [Tu] at hlt
 refine W.item i s₁ _ _ hlt st₁ fun T vals h₀ tk hPv hTs hT hM hk₀ => hQ _ _ (W.go ts kk tp i T _ _ _ hM fun h' st' hk₁ => ?_)
 have hTw := W.apart i T h₀ hM
 have hk' : ∀ b o, b ∉ wr → s₁.heap.get? b = some o → h'.get? b = some o := fun b o n e => hk₁ b o n (hk₀ b o n e)
 refine xA (hst h' tk hk' st') fun cx₂ hr₂ => BK (hel _ h' hr₂ i vals hPv) fun dd hdd rv => ?_
 have hde : d = .tuple dd := by rw [UH, hdd] at hd; cases hd; rfl
 have hdl : dd.length = ts.length := by
  by_cases z : dd.length = ts.length
  ·exact z
  ·exact absurd (by rw [hde]; simp [Ea, z]) hne
 have htup : Ea g ts.length d l₁ = g dd l₁ := by rw [hde]; simp [Ea, hdl]
 rw [htup] at hne
 refine wpAny_assign_Tuple cx.a.hd (Nk hT fun o e => hk₁ T o hTw e) (by rw [hlen, ← hdl, ← rv.length]; simp) (hstar env) fun h₂ hx₂ => ?_
 have gx : Go q (FA fs) No { s₁ with heap := h', toks := tk } { s₁ with heap := h₂, toks := tk } := Go.of' (Mv.of_fresh (A0 _) hx₂)
 refine To ((ht vals.toList dd (cx₂.go gx) (rv.mv0 gx.mv)).to_wp hne) (fun _ s₃ z_ => BK z_ fun l₃ hl₃ h₃ => hK h' tk s₃ l₃ hk' st' (htup.trans hl₃) ?_) fun _ _ z_ => BK z_ fun _ _ f => f.elim
 obtain ⟨hc, m₂, cm₂, lr, g₂⟩ := h₃
 exact ⟨hc, m₂, cm₂, lr, (gx.mono fun _ z => z.elim).trans g₂ fun _ z => .inl z⟩
end Mine
namespace Mine
variable {prog : Program} {w : World} {H : Heap} {C : Addr} {n n' : Nat} {q : Bool} {names : List Str} {sc : Scope}
variable {A : Around} {env : Env} {fs : List Env} {N N' Z : Addr → Prop} {μ : List Addr} {l : Loc} {m cm : Str → Option Value} {s s' : Shared} {wr : List Addr}
variable {mg mb : Str → Option Value}
theorem KA {a b : Nat} (h : a ≠ b) : @Ne Addr a b := h
noncomputable def Gh : List D → Res (List (List D))
 | [.list ds] => .ok ((List.range ds.length).zip ds |>.map fun p => [.int (p.1 : Int), p.2])
 | _ => .fail
theorem Qe {x : Str} {p pos : Pos} {e : Expr} {f : Loc → Res D} (G : Gl H mg mb) (hv : FK mg mb x (.type "enumerate")) (hk : sc.names.lookup x = some .globalImplicit) (h : SE prog w H C n q names sc e f)
  (hst : autoParam (∀ env, starEach [e] env = (false, eval e env) :: starEach [] env) tA) (hd : autoParam ((x == ("__debug__" : Str)) = false) tA) :
  ST2 prog w H C n q names sc (.Call (.Name x p) [e] [] pos) fun l => (f l).bind fun d => Gh [d] := fun {A env fs N Z μ l m cm s} cx hne => by
 have hne' : f l ≠ .fail := fun z => hne (by show (f l).bind _ = _; rw [z]; rfl)
 refine Call_Name rfl (BZ G hv hk cx ?_ hd)
 refine callWith_type1 ?_ (hst env) rfl
 rw [hst env]
 refine Calls.spliced_cons (To ((h cx).to_wp hne') (fun v s₁ z_ => BK z_ fun d hds h₁ => Calls.spliced_nil ?_) fun e s₁ z_ => BK z_ fun x hx y => (A4 x (by show (f l).bind _ = _; rw [hx]; rfl) y))
 have hne2 : Gh [d] ≠ .fail := fun z => hne (by show (f l).bind _ = _; rw [hds]; exact z)
 show wpAny _ A _ (fun x s₁ => wpAny _ A (pyIter x) (fun it s₂ => ∃ es, (f l).bind (fun d => Gh [d]) = .ok es ∧ _) _ s₁) _ s₁
 rw [hds]
 cases d with
 | list ds =>
  refine CP h₁.1.list_inv fun a items k z3_ hg hp rs => ?_; obtain rfl := z3_
  have hsz := Aa rs
  have cx₁ := cx.go h₁.2
  have ha : @LT.lt Nat _ a s₁.heap.objs.size := Heap.lt_size hg
  refine call_enumerate_1 hg fun h' hen hit hsz' hk' => ?_
  refine wpAny_pyIter_enum hen ?_
  have gk : Go q (FA fs) No s₁ { s₁ with heap := h' } := Go.of' (Mv.of_keeps hk')
  have d0 : ∀ b, s₁.heap.objs.size ≤ b → s.heap.get? b = none := fun b hb => h₁.2.mv.dead _ (UL hb)
  have hlen : ((List.range ds.length).zip ds |>.map fun p => [(.int (p.1 : Int) : D), p.2]).length = items.size := by simp [hsz]
  have W0 := WalksT.enumerate (prog := prog) (w := w) cx.a.hd (s₁.heap.objs.size + 1) s₁.heap.objs.size a (KA (by lia)) (KA (by lia)) (KA (by exact Nat.ne_of_lt (by assumption))) items
  rw [← hlen] at W0
  refine (B0 _ rfl ⟨s₁.heap.objs.size + 1, [s₁.heap.objs.size + 1, s₁.heap.objs.size, a], [s₁.heap.objs.size + 1, s₁.heap.objs.size], _, _, _, items.toList, ds, rfl,
   W0,
   (KB ⟨_, hen⟩ hit (Cf _ (hk' _ _ hg) rfl _ rfl)), fun b hb => ?_, fun b hb z => ?_, fun i h st b hb => ?_, fun i h st b hb => ?_, ?_, fun P' h rs' i vals hv => ?_⟩ (h₁.2.trans0 gk))
  ·simp at hb; rcases hb with rfl | rfl
   ·exact d0 _ (by exact Nat.le_succ _)
   ·exact d0 _ (Tv _)
  ·simp at hb; rcases hb with rfl | rfl | rfl
   ·exact cx₁.plive _ z (UL (by exact Nat.le_succ _))
   ·exact cx₁.plive _ z (A0 _)
   ·exact hp z
  ·simp at hb
   refine Ku st fun z0_ z1_ z2_ => ?_; clear st; refine xE z0_ fun old he => ?_; clear z0_; refine B1 z1_ fun o e _ hd => ?_; clear z1_; obtain ⟨o', e', _, kk, hd'⟩ := z2_
   rcases hb with rfl | rfl | rfl
   ·exact (A4 _ he (Bv (vs := #[.none, .bool false, .ref s₁.heap.objs.size, rawInt (i : Nat), .none, old]) rfl))
   ·exact (A4 o e (Bv hd))
   ·exact (A4 o' e' (EG hd'))
  ·simp at hb
   refine Ku st fun z0_ z1_ _ => ?_; clear st; refine xE z0_ fun old he => ?_; clear z0_; refine B1 z1_ fun o e hc hd => ?_; clear z1_
   rcases hb with rfl | rfl
   ·exact (A4 _ he (by simp))
   ·exact (A4 o e (by rw [hc]; simp))
  ·refine RDs.ml (q := true) (F := []) (X := No) (Mv.of_keeps hk') (fun _ z => z.elim) (fun b hb z => z.elim id fun z => ?_) rs
   simp at z
   rcases z with rfl | rfl
   ·exact absurd (UL (by exact Nat.le_succ _)) hb
   ·exact absurd (A0 _) hb
  ·refine B6 hv fun t x hx z3_ => ?_; clear hv; obtain rfl := z3_
   refine BK (RDs.getv rs' (by simpa using hx)) fun d hd rd => ?_
   have hi : i < ds.length := (UC.mp hd).1
   have hz : ((List.range ds.length).zip ds)[i]? = some (i, d) := by rw [List.getElem?_zip_eq_some]; exact ⟨by simp [hi], hd⟩
   exact (A4 ([.int (i : Int), d]) (by rw [UH, hz]; rfl) (.cons (.int _ _) (.cons rd .nil)))
 | _ => exact absurd rfl hne2
noncomputable def Mr : List D → Res (List (List D))
 | [.list ds, .list es] => .ok (ds.zip es |>.map fun p => [p.1, p.2])
 | _ => .fail
theorem RF {x : Str} {p pos : Pos} {e e₂ : Expr} {f : Loc → Res (List D)} (G : Gl H mg mb) (hv : FK mg mb x (.type "zip")) (hk : sc.names.lookup x = some .globalImplicit) (h : QB prog w H C n q names sc [e, e₂] f)
  (hst : autoParam (∀ env, starEach [e, e₂] env = (false, eval e env) :: starEach [e₂] env) tA) (hplain : autoParam (∀ env, (backTo pos (starEach [e₂] env)).any (·.1) = false) tA) (hd : autoParam ((x == ("__debug__" : Str)) = false) tA) :
  ST2 prog w H C n q names sc (.Call (.Name x p) [e, e₂] [] pos) fun l => (f l).bind Mr := fun {A env fs N Z μ l m cm s} cx hne => by
 have hne' : f l ≠ .fail := fun z => hne (by show (f l).bind _ = _; rw [z]; rfl)
 refine Call_Name rfl (BZ G hv hk cx ?_ hd)
 refine callWith_type1 (To ((h pos cx).to_wp hne') (fun vs s₁ z_ => BK z_ fun dd hds h₁ => ?_) fun e s₁ z_ => BK z_ fun x hx y => (A4 x (by show (f l).bind _ = _; rw [hx]; rfl) y)) (hst env) (hplain env)
 have hne2 : Mr dd ≠ .fail := fun z => hne (by show (f l).bind _ = _; rw [hds]; exact z)
 show wpAny _ A _ (fun x s₁ => wpAny _ A (pyIter x) (fun it s₂ => ∃ es, (f l).bind Mr = .ok es ∧ _) _ s₁) _ s₁
 rw [hds]
 simp only [Res.bind_ok]
 unfold Mr at hne2 ⊢
 split at hne2
 ·rename_i ds es
  refine GB (Lo h₁.1) fun v u z2_ rv ru => ?_; obtain rfl := z2_
  refine CP rv.list_inv fun a items k z3_ hg hp rs => ?_; obtain rfl := z3_
  refine CP ru.list_inv fun a₂ items₂ k₂ z3_ hg₂ hp₂ rs₂ => ?_; obtain rfl := z3_
  have hsz := Aa rs
  have hsz₂ := Aa rs₂
  have cx₁ := cx.go h₁.2
  have ha : @LT.lt Nat _ a s₁.heap.objs.size := Heap.lt_size hg
  have ha₂ : @LT.lt Nat _ a₂ s₁.heap.objs.size := Heap.lt_size hg₂
  refine call_zip_2 (Cf _ hg rfl _ rfl) (Cf _ hg₂ rfl _ rfl) fun h' hz hTI hTO h1 h2 hsz' hk' => ?_
  refine wpAny_pyIter_zip hz ?_
  have gk : Go q (FA fs) No s₁ { s₁ with heap := h' } := Go.of' (Mv.of_keeps hk')
  have d0 : ∀ b, s₁.heap.objs.size ≤ b → s.heap.get? b = none := fun b hb => h₁.2.mv.dead _ (UL hb)
  have hlen : (ds.zip es |>.map fun p => [p.1, p.2]).length = min items.size items₂.size := by simp [hsz, hsz₂]
  have W0 := WalksT.zip2 (prog := prog) (w := w) cx.a.hd (s₁.heap.objs.size + 4) (s₁.heap.objs.size + 2) (s₁.heap.objs.size + 3) s₁.heap.objs.size (s₁.heap.objs.size + 1) a a₂
    ⟨KA (by lia), KA (by lia), KA (by lia), KA (by lia), KA (by lia), KA (by lia), KA (by lia), KA (by lia), KA (by lia), KA (by lia), KA (by lia), KA (by lia), KA (by exact Nat.ne_of_lt (by assumption)), KA (by lia), KA (by lia), KA (by lia), KA (by exact Nat.ne_of_lt (by assumption)), KA (by lia)⟩ items items₂
  rw [← hlen] at W0
  refine (B0 _ rfl ⟨s₁.heap.objs.size + 4, [s₁.heap.objs.size + 4, s₁.heap.objs.size + 2, s₁.heap.objs.size + 3, s₁.heap.objs.size, s₁.heap.objs.size + 1, a, a₂], [s₁.heap.objs.size + 4, s₁.heap.objs.size + 3, s₁.heap.objs.size, s₁.heap.objs.size + 1], _, _, _, items.toList ++ items₂.toList, ds ++ es, rfl,
   W0,
   ⟨hz, hTI, (N7 _ _ hTO), h1, h2, (Cf _ (hk' _ _ hg) rfl _ rfl), (Cf _ (hk' _ _ hg₂) rfl _ rfl)⟩, fun b hb => ?_, fun b hb z => ?_, fun i h st b hb => ?_, fun i h st b hb => ?_, ?_, fun P' h rs' i vals hv => ?_⟩ (h₁.2.trans0 gk))
  ·refine d0 b ?_
   simp only [T0, List.not_mem_nil, or_false] at hb
   rcases hb with rfl | rfl | rfl | rfl <;> lia
  ·have key : b = a ∨ b = a₂ ∨ @LE.le Nat _ s₁.heap.objs.size b := by
    simp only [T0, List.not_mem_nil, or_false] at hb
    rcases hb with rfl | rfl | rfl | rfl | rfl | rfl | rfl <;> first | exact .inl rfl | exact .inr (.inl rfl) | exact .inr (.inr (by lia))
   rcases key with rfl | rfl | hb
   ·exact hp z
   ·exact hp₂ z
   ·exact cx₁.plive _ z (UL hb)
  ·refine Lq st fun z1 z2 z2_ z3_ z4_ z5_ z6_ => ?_; clear st; refine Sd z2_ fun _ _ z3 => ?_; clear z2_; refine B1 z3_ fun o e _ hd => ?_; clear z3_; refine B1 z4_ fun o2 e2 _ hd2 => ?_; clear z4_; obtain ⟨o', e', _, kk, hd'⟩ := z5_; obtain ⟨o'', e'', _, kk', hd''⟩ := z6_
   simp at hb
   rcases hb with rfl | rfl | rfl | rfl | rfl | rfl | rfl
   ·exact (A4 _ z1 (Bv rfl))
   ·exact (A4 _ z2 (EG rfl))
   ·exact (A4 _ z3 (EG rfl))
   ·exact (A4 _ e (Bv hd))
   ·exact (A4 _ e2 (Bv hd2))
   ·exact (A4 _ e' (EG hd'))
   ·exact (A4 _ e'' (EG hd''))
  ·refine NV st fun z1 z2 z2_ z3_ z4_ _ => ?_; clear st; refine Sd z2_ fun _ _ z3 => ?_; clear z2_; refine B1 z3_ fun o e hc hd => ?_; clear z3_; refine B1 z4_ fun o2 e2 hc2 hd2 => ?_; clear z4_
   simp at hb
   rcases hb with rfl | rfl | rfl | rfl
   ·exact (A4 _ z1 (by simp))
   ·exact (A4 _ z3 (by simp))
   ·exact (A4 _ e (by rw [hc]; simp))
   ·exact (A4 _ e2 (by rw [hc2]; simp))
  ·refine RDs.ml (q := true) (F := []) (X := No) (Mv.of_keeps hk') (fun _ z => z.elim) (fun b hb z => z.elim id fun z => ?_) (rs.append rs₂)
   refine absurd (UL ?_) hb
   simp only [T0, List.not_mem_nil, or_false] at z
   rcases z with rfl | rfl | rfl | rfl <;> lia
  ·refine GB hv fun x y hx hy z4_ => ?_; clear hv; obtain rfl := z4_
   have hlx : i < items.toList.length := by simpa using (Array.getElem?_eq_some_iff.mp hx).1
   refine BK (RDs.getv (k := i) rs' (by rw [UI hlx]; simpa using hx)) fun d hd rd => ?_
   refine BK (RDs.getv (k := items.toList.length + i) rs' (by rw [UX (by exact T3 _ _)]; simpa using hy)) fun d₂ hd₂ rd₂ => ?_
   have hdl : ds.length = items.toList.length := by simp [hsz]
   rw [UI (by lia)] at hd
   rw [UX (by lia)] at hd₂
   have : items.toList.length + i - ds.length = i := by lia
   rw [this] at hd₂
   have hz : (ds.zip es)[i]? = some (d, d₂) := by rw [List.getElem?_zip_eq_some]; exact ⟨hd, hd₂⟩
   exact (A4 ([d, d₂]) (by rw [UH, hz]; rfl) (.cons rd (.cons rd₂ .nil)))
 ·exact absurd rfl hne2
end Mine
set_option maxRecDepth 100000
open Builtin Builtin.ObjectAttr
namespace Mine
section
variable {prog : Program} {w : World} {A : Around} {E : Value → Shared → Prop} {h : Heap} {g : Array GenState} {d : Drawn} {t : Nat} {os : OsState}
variable {nm q : Str} {C N W x : Addr} {bs : List Value} {sn : List Str} {sub : List Value} {ab : Bool} {col : Option Bool} {dd : Option Addr} {k0 k1 k2 k3 k5 : Option Value}
 {mA : Str → Option Value} {name : Str} {v : Value} {K : Frag}
theorem Pf {M : Model} {o : Obj} {nameV : Value} {Q : Unit → Shared → Prop} (hC : h.get? C = some (excClassObj nm q C N bs (.ref W :: F6) true sn sub ab col dd k0 k1 k2 k3 k5 "Exception.__new__"))
  (hx : h.get? x = some o) (hc : o.cls = .ref C) (hq : Q () ⟨h, g, d, t, os⟩) : wpAny M A (checkBuiltinCall "BaseException.__getattribute__" ⟨[.ref x, nameV], []⟩) Q E ⟨h, g, d, t, os⟩ := by
 have hk : builtinKind "BaseException.__getattribute__" = some .slot := by decide +kernel
 have hsplit : splitId "BaseException.__getattribute__" = some ("BaseException", "__getattribute__") := by decide +kernel
 have hcB : (Value.ref C :: .ref W :: F6).contains (.type "BaseException") = true := by simp [F6]
 have ha := F.args_bexc_ga (.ref x) nameV
 simp only [checkBuiltinCall, hk, hsplit]
 refine Tn ?_
 ·unfold isInstance
  repeat (first | (with_reducible refine wpAny_loadPart_at hx ?_; rw [hc]) | (with_reducible refine wpAny_isSubtype_exc hC ?_; rw [hcB]) | wp_step)
  exact hq
theorem Q1 {o : Obj} {expr : Bool} {Q : Value → Shared → Prop} (hC : h.get? C = some (excClassObj nm q C N bs (.ref W :: F6) true sn sub ab col dd k0 k1 k2 k3 k5 "Exception.__new__"))
  (hx : h.get? x = some o) (hc : o.cls = .ref C) (hga : Looks (model prog w) h (typeLookup (.ref C) "__getattribute__") (some (.builtin "BaseException.__getattribute__"))) (hgt : Looks (model prog w) h (typeLookup (.ref C) "__getattr__") none)
  (hf : Looks (model prog w) h (find (.ref x) (.ref C) name) (.value v)) (hh : handedIn v = true) (hq : Q v ⟨h, g, d, t + 1, os⟩) : wpAny (model prog w) A (getAttr (.ref x) name expr) Q E ⟨h, g, d, t, os⟩ := by
 have FB := F.attrBase_Exception
 have f3 := FB.ga.bind (.ref x)
 have hty : Looks (model prog w) h (typeOf (.ref x)) (.ref C) := hc ▸ (Looks.ld hx).andThen .now
 unfold getAttr getAttrBy
 refine Tn (wpAny_mkText (UF (Tn (hty.at (Tn (hga.at ?_))))))
 show wpAny _ _ (if (onTheHeap (.ref C) && Value.builtin "BaseException.__getattribute__" == Value.builtin "object.__getattribute__") = true then _ else _) _ _ _
 rw [show (onTheHeap (.ref C) && Value.builtin "BaseException.__getattribute__" == Value.builtin "object.__getattribute__") = false from by
  rw [show (Value.builtin "BaseException.__getattribute__" == Value.builtin "object.__getattribute__") = false from by decide +kernel, Bool.and_false], Tm (by decide)]
 unfold getAttrByItsOwn hookBefore
 refine Tn ?_
 rw [Tl (by rfl)]
 refine hgt.at ?_
 refine Tn (wpAny_attempt (UF ?_))
 unfold callGetattribute
 rw [show (expr && onTheHeap (Value.builtin "BaseException.__getattribute__")) = false from Bool.and_false _, Tm (by decide)]
 unfold boundAndCalled
 rw [f3]
 refine Tn (Tr ?_)
 show wpAny _ _ (call (.builtin "BaseException.__getattribute__") [.ref x, .str name t]) _ _ _
 refine wpAny_call (codeAny_call_builtin FB.ga.plain F.entry_bexc_ga (Pf hC hx hc ?_))
 refine Tn (Tr (Tn (wpAny_of_eq (a := name) (by rfl) (Tn (hty.at (Tn (hf.at ?_)))))))
 refine Tr ?_
 show wpAny _ _ (handedOut v) _ _ _
 rw [handedOut_of hh]; exact Tr hq
end
end Mine
set_option maxRecDepth 100000
open Builtin.ObjectAttr
namespace Mine
variable {prog : Program} {w : World} {H : Heap} {C W fB fW : Addr} {K : Frag} {mg mb : Str → Option Value}
theorem Oc {o : Obj} {es : Array DictEntry} {ep : Nat} {md : Str → Option Value} {name : Str} {v : Value} (hd : o.data = .dict es ep) (hf : ∀ name, nsFind es name = md name) (hv : md name = some v) : lookIn name o = some (some v) := by
 unfold lookIn
 rw [hd]
 have := hf name
 rw [hv] at this
 unfold nsFind findBy at this
 rw [US] at this
 refine BK this fun e he z2_ => ?_; clear this; obtain rfl := z2_
 dsimp only
 rw [Array.find?_toList, he]
theorem SK {h : Heap} {M : Model} {x d : Addr} {o : Obj} {vs : Array Value} {md : Str → Option Value} {name : Str} {v : Value} (xk : XK K C W fB fW) (hK : K.In h) (hx : h.get? x = some o) (hc : o.cls = .ref C) (hd : o.dict = some d) (hdat : o.data = .fields vs) (hn : h.Ns d md)
  (hf : findIn K (.ref C) name = some none) (hv : md name = some v) : Looks M h (find (.ref x) (.ref C) name) (.value v) := by
 refine CP hn fun od es ep hod hdd hk hm => ?_; clear hn
 obtain ⟨nm, q, N, bs, sn, sub, ab, col, dd, k0, k1, k2, k3, k5, hC⟩ := xk.cls
 refine looks_find (ox := o) (od := some od) hK ⟨hx, hc, by unfold notCls; rw [hdat], by rw [hd]; exact hod⟩ ?_
 have hcl : clsIn K C = some { name := nm, bases := bs, mro := .ref C :: .ref W :: F6, ns := N, qualname := q, hasDict := true, slotNames := sn, subclasses := sub, abstract := ab, collection := col, hasDel := false } := by unfold clsIn; rw [hC]
 unfold findObj
 rw [hcl, hf]
 show Option.bind (lookIn name od) _ = _
 rw [Oc hdd hm hv]; rfl
section
variable {n : Nat} {q : Bool} {names : List Str} {sc : Scope}
noncomputable def KO (f : Loc → Res D) : LM := fun l => match f l with
 | .ok d => .ok (.ret (.val d), l)
 | .exc x => .ok (.ret (.val (.tuple [.str x.1, .int x.2.1, .int x.2.2])), ⟨l.vars.map fun _ => none, l.cells⟩)
 | .fail => .fail
theorem Qf (xe : XE prog w H mg mb K C W fB fW) {e : Expr} {cn fn : Str} {p3 hp a1 a2 a3 a4 a5 a6 tp rp ep pos : Pos} {k : Nat} {f : Loc → Res D} (hcn : mg cn = some (.ref C)) (hk : sc.names.lookup cn = some .globalImplicit) (hfn : sc.names.lookup fn = some .local)
  (h : SE prog w H C n false names sc e f) (hd : autoParam ((cn == ("__debug__" : Str)) = false) tA) (hd' : autoParam ((fn == ("__debug__" : Str)) = false) tA) :
  SS prog w H C n false names sc (.Try [.Return (some e) p3] [.ExceptHandler (some (.Name cn hp)) (some fn) [.Return (some (.Tuple [.Attribute (.Name fn a1) "why" a2, .Attribute (.Name fn a3) "row" a4, .Attribute (.Name fn a5) "column" a6] k tp)) rp] ep] [] [] pos) (KO f) := fun {A env fs N Z μ l m cm s} cx fo => by
 obtain ⟨nm, q', N', bs, sn, sub, ab, col, dd, k0, k1, k2, k3, k5, hC⟩ := xe.xk.cls
 have hfk : env.scope.kind = .function := by rw [cx.e.scope]; exact cx.e.kind
 have hkf : env.kindOf fn = some .local := by unfold Env.kindOf; rw [cx.e.scope]; exact hfn
 have hnc : (env.scope.kind == .class || (env.scope.kind == .module && env.locals != env.globals)) = false := by rw [hfk]; rfl
 refine Sat.of_wp fun hr => ?_
 have hne : f l ≠ .fail := fun z => hr (by unfold KO; rw [z])
 refine wpAny_Try_except ?_
 rw [execs_cons, exec_Return_some]
 refine Tn (Tn (UA (Tn (To ((h cx).to_wp hne) (fun v s₁ z_ => BK z_ fun d hd h₁ => Tr (Tr ?_)) fun e s₁ z_ => BK z_ fun x hx h₁ => ?_))))
 ·exact ⟨(.ret (.val d), l), by unfold KO; rw [hd], μ, m, cm, h₁.1, (cx.go h₁.2).lr, h₁.2.mono fun _ z => z.elim, .refl⟩
 ·refine xA h₁ fun hX g₁ => ?_; clear h₁
  have hHz : ∀ b, H.get? b ≠ none → s.heap.get? b ≠ none := fun b z => by
   cases y : H.get? b with
   | none => exact absurd y z
   | some o => rw [cx.inv.base b o y]; simp
  refine To (Nu (E := fun _ _ => False) cx.fr fo (cx.inv.go0 g₁.mv) (fun b z => g₁.mv.live b z) hHz hX) (fun _ s₂ h₂ => ?_) fun _ _ f => f.elim
  refine xA h₂ fun hX₂ g₂ => ?_; clear h₂
  refine To (FU (q := false) (F := FA fs) hX₂) (fun _ s₃ h₃ => ?_) fun _ _ f => f
  refine xA h₃ fun hX₃ g₃ => ?_; clear h₃
  have gs₃ : Go false (FA fs) No s s₃ := ⟨((g₁.mv.trans g₂.mv (X' := fun a => s.heap.get? a = none) fun b z => .inr z).trans g₃.mv (X' := fun a => s.heap.get? a = none) fun b z => .inr z), (g₃.gens.trans (g₂.gens.trans g₁.gens)), (g₃.os.trans (g₂.os.trans g₁.os)), (g₃.drawn.trans (g₂.drawn.trans g₁.drawn))⟩
  have cx₃ := cx.go gs₃
  have hX₃' := hX₃.xr
  obtain ⟨a, o, vs, d, md, tb, t1, t2, t3, rfl, e2, e3, e4, e5, e6, e7, e8, e9, e10, e11, e12, e13, e14⟩ := hX₃'
  have hC₃ := cx₃.inv.base _ _ (xe.kin _ _ hC)
  refine wpAny_handleBy_cons (codeAny_handlers_test ?_) (by intro q; cases q)
  refine ldg hfk (by rw [cx.e.scope]; exact hk) cx.e.gl cx.e.bu (xe.gl.keeps cx₃.inv.base) (.inl hcn) ?_ hd
  obtain ⟨hh, g, dr, tk, os⟩ := s₃
  refine wpAny_excMatches_sub_self hC₃ e3 e4 (by simp [F6]) ?_
  refine codeAny_handlers_suite_as ?_
  refine To (FU (q := false) (F := FA fs) hX₃) (fun _ s₄ h₄ => ?_) fun _ _ f => f
  refine xA h₄ fun hX₄ g₄ => ?_; clear h₄
  have gs₄ : Go false (FA fs) No s s₄ := ⟨gs₃.mv.trans g₄.mv (X' := fun a => s.heap.get? a = none) fun b z => .inr z, g₄.gens.trans gs₃.gens, g₄.os.trans gs₃.os, g₄.drawn.trans gs₃.drawn⟩
  have cx₄ := cx.go gs₄
  have hX₄' := hX₄.xr
  obtain ⟨a', o, vs, d, md, tb, t1, t2, t3, he, e2, e3, e4, e5, e6, e7, e8, e9, e10, e11, e12, e13, e14⟩ := hX₄'
  cases he
  refine wpAny_storeName_local hkf cx₄.lr.ns (fun h₅ hn₅ hs₅ => ?_) hnc
  have hLd : ∀ b, s.heap.get? b = none → b ≠ env.locals := fun b z y => by refine CB cx.lr.ns fun o' _ _ e' _ => ?_; rw [y, e'] at z; cases z
  have hLs : s.heap.get? env.locals ≠ none := by refine CB cx.lr.ns fun o' _ _ e' _ => ?_; rw [e']; simp
  have ex : h₅.get? a = some o := (hs₅.2 a (hLd a e2)).trans e3
  have hdL : d ≠ env.locals := hLd d e6
  have en : h₅.Ns d md := e10.sameBut hs₅ hdL
  have mv₅ : Mv false (FA fs) (own env μ l) s.heap h₅ := (gs₄.mv.mono fun _ z => z.elim).trans (X' := fun b => b = env.locals) (E0 hs₅ rfl (by refine CB hn₅ fun o' _ _ e' _ => ?_; clear hn₅; rw [e']; simp)) fun b z => .inl (.inl z)
  have hb₅ : H.StaysIn h₅ := (cx.inv.go mv₅ cx.lr.hf fun b hb z => by rw [F4 cx z hb]; exact ⟨_, hn₅⟩).base
  have hK₅ : K.In h₅ := xe.kin.keeps hb₅
  have attr : ∀ {nme : Str} {v : Value} {pa pn : Pos} {s₆ : Shared} {Q : Value → Shared → Prop} {E : Value → Shared → Prop} {AA : Around}, s₆.heap = h₅ → findIn K (.ref C) nme = some none → md nme = some v → handedIn v = true →
    (∀ tk, Q v { s₆ with toks := tk }) → wpAny (model prog w) AA (eval (.Attribute (.Name fn pa) nme pn) env) Q E s₆ := fun {nme v pa pn s₆ Q E AA} hh hf hv hhi hq => by
   obtain ⟨hh', g', dr', tk', os'⟩ := s₆
   dsimp only at hh; subst hh
   rw [arm_eval_Attribute]
   refine Tn ?_
   show wpAny _ AA (eval (.Name fn pa) env) _ _ _
   refine ld hfk (by rw [cx.e.scope]; exact hfn) hn₅ (Tl rfl) ?_ hd'
   refine Tn (UA (Tn (UF ?_)))
   refine Q1 (hb₅ _ _ (xe.kin _ _ hC)) ex e4 (looks_findIn hK₅ xe.xk.ga) (looks_findIn hK₅ xe.xk.gt) (SK xe.xk hK₅ ex e4 e5 e8 en hf hv) hhi ?_
   exact Tn (wpAny_letTemporaryGo (Tr (hq _)))
  rw [execs_cons, exec_Return_some]
  refine Tn (Tn (UA (Tn ?_)))
  rw [arm_eval_Tuple]
  refine Tn (UA (Tn ?_))
  show wpAny _ _ (spliced [(false, eval (.Attribute (.Name fn a1) "why" a2) env), (false, eval (.Attribute (.Name fn a3) "row" a4) env), (false, eval (.Attribute (.Name fn a5) "column" a6) env)]) _ _ _
  refine Calls.spliced_cons (attr rfl xe.xk.why e11 rfl fun _ => ?_)
  refine Calls.spliced_cons (attr rfl xe.xk.row e12 rfl fun _ => ?_)
  refine Calls.spliced_cons (attr rfl xe.xk.column e13 rfl fun _ => ?_)
  refine Calls.spliced_nil (wpAny_newTuple (Tr (Tr ?_)) (by rw [sizeLine_eq]; simp))
  have hT : ∀ vs, (h₅.push { cls := .type "tuple", data := .seq vs }).get? h₅.objs.size = some { cls := .type "tuple", data := .seq vs } := fun vs => UQ _ rfl
  refine wpAny_nameGoes hkf (hn₅.push _) hnc fun h₇ m₇ hn₇ hs₇ => ?_
  have hTL : h₅.objs.size ≠ env.locals := fun z => by
   have := hn₅.lt; rw [← z] at this; exact Nat.lt_irrefl _ this
  have mv₇ : Mv false (FA fs) (own env μ l) s.heap h₇ := (mv₅.trans (X' := No) (Mv.of_push _) fun _ z => z.elim).trans (X' := fun b => b = env.locals) (E0 hs₇ rfl (by refine CB hn₇ fun o' _ _ e' _ => ?_; clear hn₇; rw [e']; simp)) fun b z => .inl (.inl z)
  have hdead : s.heap.get? h₅.objs.size = none := mv₅.dead _ (A0 _)
  have mvL : Mv true (FA fs) (fun b => b = env.locals) s₄.heap h₇ := ((E0 hs₅ rfl (by refine CB hn₅ fun o' _ _ e' _ => ?_; clear hn₅; rw [e']; simp) : Mv true (FA fs) (fun b => b = env.locals) s₄.heap h₅).trans (X' := No) (Mv.of_push _) fun _ z => z.elim).trans (X' := fun b => b = env.locals) (E0 hs₇ rfl (by refine CB hn₇ fun o' _ _ e' _ => ?_; clear hn₇; rw [e']; simp)) fun b z => .inl z
  have hcn' : ∀ n c, (n, c) ∈ env.cells → c ≠ env.locals := fun n c hm z => by
   refine B6 (cx.lr.clive n c hm) fun v o' e' hd' => ?_
   refine CF cx.lr.ns fun o'' _ _ e'' hd'' _ => ?_
   rw [z, e''] at e'; cases e'; rw [hd''] at hd'; cases hd'
  have lr₇ := cx₄.lr.upd (m' := m₇) (cm' := cm) (vars' := l.vars.map fun _ => none) mvL (fun b z => .inl z) trivial hn₇ (fun n c e => A9 (cx₄.lr.cl n c e) mvL fun z => hcn' n c (mem_of_lookup e) z)
   (fun n c e => xE (cx₄.lr.clive n c e) fun v y => ⟨v, A9 y mvL fun z => hcn' n c e z⟩) (fun i y u _ h2 => by simp at h2) (by simpa using cx.lr.vlen)
  refine ⟨(.ret (.val (.tuple [.str x.1, .int x.2.1, .int x.2.2])), ⟨l.vars.map fun _ => none, l.cells⟩), by unfold KO; rw [hx], μ, m₇, cm, ?_, lr₇, ⟨mv₇, gs₄.gens, gs₄.os, gs₄.drawn⟩, fun b z => .inl z, List.prefix_refl _⟩
  refine RD.tup (h := h₇) ((hs₇.2 _ hTL).trans (hT _)) (fun z => cx.plive _ z hdead) ?_
  exact .cons (.str _ _) (.cons (.int _ _) (.cons (.int _ _) .nil))
end
end Mine
namespace Mine
variable {prog : Program} {w : World} {H : Heap} {C : Addr} {n n' : Nat} {names : List Str} {sc : Scope}
variable {A : Around} {env : Env} {fs : List Env} {N N' Z : Addr → Prop} {μ : List Addr} {l : Loc} {m cm : Str → Option Value} {s s' : Shared}
theorem RD.fn {P P' : Addr → Prop} {h : Heap} {v : Value} {d d' : D} (r : RD P h v d) (r' : RD P' h v d') : d = d' :=
 (RD.ind (m := fun v d => ∀ d', RD P' h v d' → d = d') (ms := fun vs ds => ∀ ds', RDs P' h vs ds' → ds = ds') (fun _ r => by cases r; rfl) (fun _ _ r => by cases r; rfl) (fun _ _ _ r => by cases r; rfl) (fun _ _ _ r => by cases r; rfl)
  (fun a vs n xs c hc ho _ _ ih d' r => by
   rcases hc with rfl | rfl <;> cases r with
   | list h2 _ r' => first | (rw [ho] at h2; injection h2 with h2; injection h2 with _ _ e; cases e; rw [ih _ r']; rfl) | (rw [ho] at h2; simp at h2)
   | tup h2 _ r' => first | (rw [ho] at h2; injection h2 with h2; injection h2 with _ _ e; cases e; rw [ih _ r']; rfl) | (rw [ho] at h2; simp at h2)) (fun _ r => by cases r; rfl) fun _ _ _ _ _ ih _ ih' _ r => by
   cases r with | cons r rs => rw [ih _ r, ih' _ rs]).1 r _ r'
noncomputable def GZ (scope sc : Scope) : Scope := { scope with names := scope.names.map fun (n, k) => if (k == .free && sc.kind == .function && sc.names.lookup n == some .cell) then (n, .cell) else (n, k) }
noncomputable def D5 (scope : Scope) : List Str := (scope.names.filter fun x => x.2 == .free).map (·.1)
theorem EW {env : Env} : ∀ (names : List (Str × NameKind)) (acc : List (Str × Addr)), (∀ x ∈ names, x.2 = .free → ∃ c, env.cells.lookup x.1 = some c) →
  ∃ cl, (forIn names acc fun (x : Str × NameKind) (r : List (Str × Addr)) => (if (x.2 == NameKind.free) = true then do let c ← cellOf env x.1; pure (ForInStep.yield ((x.1, c) :: r)) else pure (ForInStep.yield r) : Sem (ForInStep (List (Str × Addr))))) = pure cl ∧
   (∀ p ∈ cl, p ∈ acc ∨ env.cells.lookup p.1 = some p.2) ∧ cl.map (·.1) = ((names.filter fun x => x.2 == .free).map (·.1)).reverse ++ acc.map (·.1)
 | [], acc, _ => (B0 acc rfl (fun p hp => .inl hp) (by simp))
 | (x, k) :: r, acc, h => by
  by_cases hk : k = .free
  ·subst hk
   refine xE (h (x, .free) (by simp) rfl) fun c hc => ?_
   refine B1 (EW (env := env) r ((x, c) :: acc) fun y hy => h y (Tx _ hy)) fun cl e h1 h2 => ?_
   refine (B0 cl ?_ (fun p hp => ?_) (by rw [h2]; simp))
   ·rw [List.forIn_cons]
    simp only [beq_self_eq_true, if_true]
    unfold cellOf
    rw [hc]
    exact e
   ·rcases h1 p hp with h1 | h1
    ·rcases T0.mp h1 with rfl | h1
     ·exact .inr hc
     ·exact .inl h1
    ·exact .inr h1
  ·refine B1 (EW (env := env) r acc fun y hy => h y (Tx _ hy)) fun cl e h1 h2 => ?_
   have hkf : (k == NameKind.free) = false := by simpa using hk
   refine (B0 cl ?_ h1 (by rw [h2]; simp [hkf]))
   rw [List.forIn_cons]
   simp only [hkf, Bool.false_eq_true, if_false]
   exact e
theorem EV {scope : Scope} {env : Env} (h : ∀ x ∈ scope.names, x.2 = .free → ∃ c, env.cells.lookup x.1 = some c) :
  ∃ cl, closureFor scope env = pure cl ∧ (∀ p ∈ cl, env.cells.lookup p.1 = some p.2) ∧ cl.map (·.1) = (D5 scope).reverse := by
 refine B1 (EW scope.names [] h) fun cl e h1 h2 => ?_
 refine (B0 cl ?_ (fun p hp => ?_) (by rw [h2]; simp [D5]))
 ·unfold closureFor
  rw [show ∀ (x : Sem (List (Str × Addr))), (x >>= fun cs => pure cs) = x from fun x => bind_pure x]
  exact e
 ·rcases h1 p hp with h1 | h1
  ·simp at h1
  ·exact h1
theorem FunFrames.at {h h' : Heap} : ∀ {fs : List Env}, h.FunFrames H fs → (∀ a ∈ FA fs, ∀ o, h.get? a = some o → h'.get? a = some o) → h'.FunFrames H fs
 | [], _, _ => trivial
 | env :: fs, r, k => by
  refine Ku r fun hk z1_ hr => ?_; clear r; refine D9 z1_ fun L o hf hn ho hd => ?_; clear z1_
  have hm : L ∈ FA (env :: fs) := by simp [FA, List.filterMap_cons, hf]
  exact (KB hk (Dn L o hf hn (k L hm o ho) hd) (FunFrames.at hr fun a ha => k a (by simp only [FA, List.filterMap_cons, hf] at ha ⊢; exact Tx _ ha)))
noncomputable def inV (l : Loc) (j : Nat) : Option W := match l.vars[j]? with
 | some (some (.d x)) => some (.d x)
 | _ => none
noncomputable def Hv (l : Loc) (idx : List Nat) (d : D) : Loc := ⟨some (.d d) :: idx.map (inV l), []⟩
structure CS (names : List Str) (sc scope : Scope) (x : Str) (ys : List Str) (idx : List Nat) : Prop where
 kind : scope.kind = .function
 nc : ∀ y ∈ scope.names, y.2 ≠ .cell
 nl : ∀ y ∈ scope.names, y.2 = .local → scope.names.lookup y.1 = some .local
 lx : scope.names.lookup x = some .local
 xr : (GZ scope sc).names.lookup x = some .local
 free : D5 scope = ys
 nd : (x :: ys).Nodup
 cell : ∀ y ∈ ys, sc.names.lookup y = some .cell ∧ (GZ scope sc).names.lookup y = some .cell
 only : ∀ y, (GZ scope sc).names.lookup y = some .cell → y ∈ ys
 idx : idx.length = ys.length ∧ ∀ (i j : Nat) (y : Str), ys[i]? = some y → idx[i]? = some j → names[j]? = some y
theorem Ny {scope : Scope} {env : Env} (h : env.scope = sc) : relabel scope env = GZ scope sc := by subst h; rfl
theorem OF {scope : Scope} {x : Str} {ys : List Str} {idx : List Nat} (cs : CS names sc scope x ys idx) {s₂ s₃ : Shared} {wr : List Addr} {cl : List (Str × Addr)} {Cc : Addr} {m₃ : Str → Option Value} {v : Value} {d : D}
  (cx₂ : Cx prog w H n names sc A env fs N Z μ l m cm s₂) (hcl : ∀ p ∈ cl, env.cells.lookup p.1 = some p.2) (hcn : cl.map (·.1) = (D5 scope).reverse) (hwN : ∀ b ∈ wr, N b) (hwd : ∀ b ∈ wr, ∃ o, s₂.heap.get? b = some o ∧ M5 o)
  (hC : s₂.heap.objs.size ≤ Cc) (hns : s₃.heap.Ns Cc m₃) (hm : m₃ x = some v) (hk : ∀ b o, b ∉ wr → s₂.heap.get? b = some o → s₃.heap.get? b = some o)
  (hrd : RD (fun b => Pr N env μ l b ∨ b = Cc) s₃.heap v d) :
  Cx prog w H n (x :: ys) (GZ scope sc) A (compEnvC scope cl Cc env) fs (fun a => Pr N env μ l a ∧ a ∉ wr) (fun _ => True) [] (Hv l idx d) m₃ cm s₃ := by
 have hCd : s₂.heap.get? Cc = none := UL hC
 have hwH : ∀ b ∈ wr, H.get? b = none := fun b hb => cx₂.lr.nh b (hwN b hb)
 have hHs : ∀ b o, H.get? b = some o → s₃.heap.get? b = some o := fun b o e => hk b o (fun z => by rw [hwH b z] at e; cases e) (cx₂.inv.base b o e)
 have hdc : ∀ {a : Addr} {o : Obj}, s₂.heap.get? a = some o → ((∃ es n, o.data = .dict es n) ∨ ∃ v, o.data = .cell v) → s₃.heap.get? a = some o := fun {a o} e hd => hk a o (fun z => by
  refine B1 (hwd a z) fun o' e' h1 h2 => ?_
  rw [e] at e'; cases e'
  rcases hd with ⟨es, n, hd⟩ | ⟨v, hd⟩
  ·exact h1 es n hd
  ·exact h2 v hd) e
 have hPk : ∀ b, (Pr N env μ l b ∧ b ∉ wr) → s₃.heap.get? b ≠ none := fun b hb => by
  have h1 := cx₂.plive b hb.1
  cases y : s₂.heap.get? b with
  | none => exact absurd y h1
  | some o => rw [hk b o hb.2 y]; simp
 have hcell : ∀ k c, (k, c) ∈ cl → (k, c) ∈ env.cells := fun k c hm => mem_of_lookup (hcl (k, c) hm)
 have hIs : ∀ {c : Addr} {v : Option Value}, s₂.heap.IsCell c v → s₃.heap.IsCell c v := fun {c v} ⟨o, ho, hd⟩ => ⟨o, hdc ho (.inr ⟨v, hd⟩), hd⟩
 have hown : ∀ b, own (compEnvC scope cl Cc env) [] (Hv l idx d) b → b = Cc ∨ own env μ l b := by
  rintro b (h | ⟨k, h⟩ | ⟨i, c, h1, _, _⟩)
  ·exact .inl h
  ·exact .inr (.inr (.inl ⟨k, hcell k b h⟩))
  ·simp at h1
 have hpr : ∀ b, Pr (fun a => Pr N env μ l a ∧ a ∉ wr) (compEnvC scope cl Cc env) [] (Hv l idx d) b → Pr N env μ l b ∨ b = Cc := fun b z => by
  rcases z with z | z
  ·exact .inl z.1
  ·rcases hown b z with z | z
   ·exact .inr z
   ·exact .inl (.inr z)
 have hclnd : (cl.map (·.1)).Nodup := by rw [hcn, (List.reverse_perm _).nodup_iff, cs.free]; exact (List.nodup_cons.mp cs.nd).2
 have hclm : ∀ y ∈ ys, ∃ c, (y, c) ∈ cl := fun y hy => by
  have : y ∈ cl.map (·.1) := by rw [hcn, cs.free]; simpa using hy
  refine BK (List.mem_map.mp this) fun p hp z2_ => ?_; obtain rfl := z2_
  exact ⟨p.2, hp⟩
 have rdO : ∀ {v : Value} {d' : D}, RD (Pr N env μ l) s₂.heap v d' → RD (Pr (fun a => Pr N env μ l a ∧ a ∉ wr) (compEnvC scope cl Cc env) [] (Hv l idx d)) s₃.heap v d' := fun {v d'} r =>
  RD.less (P := fun b => Pr N env μ l b ∨ b = Cc) (fun b _ z => hpr b z) (RD.walk hk (fun b hb => .inl (.inl (hwN b hb))) (RD.less (fun b hb z => z.elim id fun z => absurd hCd (z ▸ hb)) r))
 have hsc : (compEnvC scope cl Cc env).scope = GZ scope sc := Ny cx₂.e.scope
 have hko : ∀ y, (compEnvC scope cl Cc env).kindOf y = (GZ scope sc).names.lookup y := fun y => by unfold Env.kindOf; rw [hsc]
 have hkO : ∀ y, env.kindOf y = sc.names.lookup y := fun y => by unfold Env.kindOf; rw [cx₂.e.scope]
 refine ⟨cx₂.a, ⟨hsc, by show (GZ scope sc).kind = _; exact cs.kind, cx₂.e.gl, cx₂.e.bu, fun y hy => ?_⟩, cx₂.fr, ⟨hHs, FunFrames.at cx₂.inv.frames fun a ha o e => ?_, fun a ha => ?_⟩, ?_⟩
 ·rw [hko] at hy
  refine xE (hclm y (cs.only y hy)) fun c hc => ?_
  exact ⟨c, E8 hclnd hc⟩
 ·refine EP (cx₂.inv.fns a ha) fun mm o' es ep e' hd _ => ?_
  rw [e] at e'; cases e'
  exact hdc e (.inl (N7 es ep hd))
 ·refine EP (cx₂.inv.fns a ha) fun mm o' es ep e' hd r => ?_
  exact (Fv mm o' es ep (hdc e' (.inl (N7 es ep hd))) hd r)
 refine {
  ns := hns
  cl := fun k c e => hIs (cx₂.lr.cl k c (hcl (k, c) (mem_of_lookup e)))
  capart := ?_
  clive := fun k c hm => xE (cx₂.lr.clive k c (hcell k c hm)) fun v y => ⟨v, hIs y⟩
  vars := fun i y u hy hu => ?_
  cells := fun i a c h1 _ => by simp at h1
  len := rfl
  nodup := List.nodup_nil
  notN := by simp
  notL := by simp
  zf := by simp
  zn := fun _ _ => trivial
  hf := fun b hb => ?_
  nlive := hPk
  nh := fun b hb => hb.1.elim (cx₂.lr.nh b) (cx₂.lr.hf b)
  mlive := by simp
  vlen := by simp [Hv, cs.idx.1]
  nnodup := cs.nd }
 ·show cl.Pairwise fun x y => x.2 ≠ y.2
  have hnp : cl.Pairwise fun x y => x.1 ≠ y.1 := by
   have := hclnd
   unfold List.Nodup at this
   rwa [List.pairwise_map] at this
  exact hnp.imp_of_mem fun {a b} ha hb hne e => hne (name_of_addr cx₂.lr.capart (hcell a.1 a.2 ha) (by rw [e]; exact hcell b.1 b.2 hb))
 ·cases i with
  | zero =>
   simp at hy; subst hy
   simp [Hv] at hu; subst hu
   exact (A4 v (by unfold G5; rw [Tl (by rw [hko]; exact cs.xr)]; exact hm) (RD.less (fun b _ z => hpr b z) hrd))
  | succ i =>
   simp only [List.getElem?_cons_succ] at hy
   simp only [Hv, List.getElem?_cons_succ, UH, US] at hu
   refine BK hu fun j hj hu => ?_
   have hnj := cs.idx.2 i j y hy hj
   have hmem := T7 hy
   refine xA (cs.cell y hmem) fun k1 k2 => ?_
   unfold inV at hu
   split at hu
   ·rename_i dx hv
    cases hu
    refine BK (cx₂.lr.vars j y _ hnj hv) fun v' hl' hr' => ?_
    refine xE (hclm y hmem) fun c hc => ?_
    refine (A4 v' ?_ (rdO hr'))
    unfold G5 at hl' ⊢
    rw [Tm (by rw [hkO, k1]; decide), Tl (by rw [hkO]; exact k1)] at hl'
    rw [Tm (by rw [hko, k2]; decide), Tl (by rw [hko]; exact k2), Tl (by show (cl.lookup y).isSome; rw [E8 hclnd hc]; rfl)]
    split at hl'
    ·exact hl'
    ·cases hl'
   ·cases hu
 ·rcases hown b hb with rfl | hb
  ·exact F2 cx₂ hCd
  ·exact cx₂.lr.hf b hb
end Mine
namespace Mine
variable {prog : Program} {w : World} {H : Heap} {C : Addr} {n n' : Nat} {q : Bool} {names : List Str} {sc : Scope}
variable {A : Around} {env : Env} {fs : List Env} {N N' Z : Addr → Prop} {μ : List Addr} {l : Loc} {m cm : Str → Option Value} {s s' : Shared}
noncomputable def BO (p : D → Res Bool) : List D → Res (List D)
 | [] => .ok []
 | d :: es => match p d with
  | .ok b => (BO p es).bind fun r => .ok (if b then d :: r else r)
  | _ => .fail
theorem Hk {p : D → Res Bool} : ∀ {es : List D} {x : Dr}, BO p es ≠ .exc x
 | [], _, h => by cases h
 | d :: es, x, h => by
  unfold BO at h
  split at h
  ·cases hr : BO p es with
   | fail => rw [hr] at h; cases h
   | ok r => rw [hr] at h; cases h
   | exc y => exact absurd hr Hk
  ·cases h
theorem IP {p : D → Res Bool} : ∀ {es ds : List D}, BO p es = .ok ds → ∀ d ∈ es, ∃ b, p d = .ok b
 | [], _, _, _, h => by simp at h
 | e :: es, ds, hf, d, h => by
  unfold BO at hf
  cases hp : p e with
  | fail => rw [hp] at hf; cases hf
  | exc x => rw [hp] at hf; cases hf
  | ok b =>
   rw [hp] at hf
   simp only [Res.bind_ok] at hf
   cases hr : BO p es with
   | fail => rw [hr] at hf; cases hf
   | exc x => rw [hr] at hf; cases hf
   | ok r =>
    rcases T0.mp h with rfl | h
    ·exact ⟨b, hp⟩
    ·exact IP hr d h
open Classical in
theorem Jc {P P' : Addr → Prop} {h h' : Heap} {p : D → Res Bool} {g : Value → Bool} : ∀ {vs : List Value} {es ds : List D}, (∀ v d, RD P h v d → ∀ b, p d = .ok b → g v = b) → RDs P h vs es → RDs P' h' vs es → BO p es = .ok ds → RDs P' h' (vs.filter g) ds
 | [], _, ds, hg, .nil, _, hf => by cases hf; exact .nil
 | v :: vs, e :: es, ds, hg, .cons r rs, .cons r' rs', hf => by
  unfold BO at hf
  cases hp : p e with
  | fail => rw [hp] at hf; cases hf
  | exc x => rw [hp] at hf; cases hf
  | ok b =>
   rw [hp] at hf
   simp only [Res.bind_ok] at hf
   cases hr : BO p es with
   | fail => rw [hr] at hf; cases hf
   | exc x => rw [hr] at hf; cases hf
   | ok r0 =>
    rw [hr] at hf
    cases hf
    have ih := Jc hg rs rs' hr
    have hb := hg v e r b hp
    cases b with
    | true => simp only [List.filter_cons, hb, if_true]; exact .cons r' ih
    | false => simp only [List.filter_cons, hb]; simpa using ih
theorem Ey {P : Addr → Prop} {h : Heap} : ∀ {vs : List Value} {es : List D}, vs.length = es.length → (∀ (i : Nat) (v : Value), vs[i]? = some v → ∃ d, es[i]? = some d ∧ RD P h v d) → RDs P h vs es
 | [], [], _, _ => .nil
 | [], _ :: _, h, _ => by simp at h
 | _ :: _, [], h, _ => by simp at h
 | v :: vs, e :: es, hl, hg => by
  refine BK (hg 0 v rfl) fun d hd r => ?_
  simp at hd; subst hd
  exact .cons r (Ey (by simpa using hl) fun i u hu => by refine BK (hg (i + 1) u (by simpa using hu)) fun d hd r => ?_; exact (A4 d (by simpa using hd) r))
theorem K7 : ∀ {vs ys : List Value}, Paired (fun a b => b = a) vs ys → ys = vs
 | _, _, .nil => rfl
 | _, _, .cons h t => by rw [h, K7 t]
theorem OR {P : Addr → Prop} {s₂ : Shared} {es : List D} {it : Value} {tgt : Expr} {wr : List Addr} (cx : Cx prog w H n names sc A env fs N Z μ l m cm s) (g₀ : Go q (FA fs) No s s₂) (hwd : ∀ b ∈ wr, s.heap.get? b = none) (hl : ∀ b ∈ wr, s₂.heap.get? b ≠ none) :
  Cx prog w H n names sc A env fs (fun a => N a ∨ a ∈ wr) Z μ l m cm s₂ :=
 ⟨cx.a, cx.e, cx.fr, cx.inv.go0 g₀.mv, cx.lr.moreN g₀.mv hwd hl fun b hb => F2 cx (hwd b hb)⟩
theorem HD {s s' : Shared} {F : List Addr} (g : Go true F No s s') : Keeps s s' := by
 obtain ⟨h, gn, d, t, os⟩ := s
 obtain ⟨h', gn', d', t', os'⟩ := s'
 obtain ⟨mv, h1, h2, h3⟩ := g
 dsimp only at h1 h2 h3
 subst h1 h2 h3
 exact (EL h' t' rfl (fun b o e => mv.exact b o e id (.inl rfl)))
section
variable {E : Value → Shared → Prop}
theorem OT {elt iter : Expr} {x : Str} {px : Pos} {ifs : List Expr} {scope : Scope} {cl : List (Str × Addr)} {pos : Pos} {Q : Value → Shared → Prop}
  (hclos : closureFor scope env = pure cl) (hcell : ∀ y ∈ scope.names, y.2 ≠ .cell) (hkind : scope.kind = .function)
  (hnames : ∀ y ∈ scope.names, y.2 = .local → scope.names.lookup y.1 = some .local) (hx : scope.names.lookup x = some .local)
  (h : wpAny (model prog w) A (eval iter env) (fun xv s₁ => wpAny (model prog w) A (pyIter xv) (fun it s₂ => ∃ (p : Value → Bool) (F : Value → Value → Prop) (I : Addr) (fp wr : List Addr) (n : Nat) (P : Nat → Value → Prop) (St : Nat → Heap → Prop), it = .ref I ∧ Walks prog w A I fp wr n P St ∧ n ≤ sizeLine ∧ St 0 s₂.heap ∧ (∀ b ∈ fp, b < s₂.heap.objs.size) ∧
   QuietOnC prog w A env scope cl x ifs elt wr P p F s₂ ∧
   (∀ D h' tk ys (vs : List Value), s₂.heap.get? D = none → h'.PlainList D ys → vs.length = n → (∀ (j : Nat) (v : Value), vs[j]? = some v → P j v) → Paired F (vs.filter p) ys.toList →
    (∀ b o, b ∉ wr → s₂.heap.get? b = some o → h'.get? b = some o) → Q (.ref D) { s₂ with heap := h', toks := tk })) E s₁) E s)
  (hs : ∀ x, foldedSetIterable iter env x = pure x) :
  wpAny (model prog w) A (eval (.ListComp elt [⟨.Name x px, iter, ifs, 0⟩] scope pos) env) Q E s := by
 rw [eval_ListComp]
 refine wpAny_comprehension_free (use := none) rfl hs hclos hkind hnames (To h (fun xv s₁ h₁ => To h₁ (fun it s₂ h₂ => ?_) fun _ _ e => e) fun _ _ e => e)
 obtain ⟨p, F, I, fp, wr, n, P, St, rfl, W, hsz, hst, hfp, hq, hQ⟩ := h₂
 refine comp_block_walkC (RR := fun acc C => compPost (model prog w) A E none Q acc C) W hsz p F hcell hkind hx hst hfp hq ?_
 intro D C h' tk m' ys vs hD hC hDC hn hl hpl hlen hP hF hk
 exact (A4 m' hn (fun h'' hs'' => hQ D h'' tk ys vs hD (hpl.extBut hs''.extBut hDC) hlen hP hF fun b o hbf e => hs''.extBut b o (by intro y1_; obtain rfl := y1_; rw [hC] at e; cases e) (hk b o hbf e)))
theorem Of {elt iter : Expr} {x y : Str} {px py : Pos} {ifs : List Expr} {scope : Scope} {cl : List (Str × Addr)} {pos spos : Pos} {Q : Flow → Shared → Prop}
  (hsw : swapsWith (.ListComp elt [⟨.Name x px, iter, ifs, 0⟩] scope pos) (some (.Name y py)) spos.line env = pure true)
  (hclos : closureFor scope env = pure cl) (hcell : ∀ z ∈ scope.names, z.2 ≠ .cell) (hkind : scope.kind = .function)
  (hnames : ∀ z ∈ scope.names, z.2 = .local → scope.names.lookup z.1 = some .local) (hx : scope.names.lookup x = some .local)
  (hy : env.kindOf y = some .local) (hp : (env.scope.kind == .class || (env.scope.kind == .module && env.locals != env.globals)) = false)
  (h : wpAny (model prog w) A (eval iter env) (fun xv s₁ => wpAny (model prog w) A (pyIter xv) (fun it s₂ => ∃ (p : Value → Bool) (F : Value → Value → Prop) (I : Addr) (fp wr : List Addr) (n : Nat) (P : Nat → Value → Prop) (St : Nat → Heap → Prop) (m : Str → Option Value), it = .ref I ∧ Walks prog w A I fp wr n P St ∧ n ≤ sizeLine ∧ St 0 s₂.heap ∧ (∀ b ∈ fp, b < s₂.heap.objs.size) ∧
   env.locals ∉ wr ∧ s₂.heap.Ns env.locals m ∧ QuietOnC prog w A env scope cl x ifs elt wr P p F s₂ ∧
   (∀ D h' tk ys (vs : List Value), s₂.heap.get? D = none → h'.PlainList D ys → vs.length = n → (∀ (j : Nat) (v : Value), vs[j]? = some v → P j v) → Paired F (vs.filter p) ys.toList →
    h'.Ns env.locals (fun z => if z = y then some (.ref D) else m z) → (∀ b o, b ≠ env.locals → b ∉ wr → s₂.heap.get? b = some o → h'.get? b = some o) → Q .next { s₂ with heap := h', toks := tk })) E s₁) E s)
  (hs : ∀ x, foldedSetIterable iter env x = pure x) :
  wpAny (model prog w) A (exec (.Assign [.Name y py] (.ListComp elt [⟨.Name x px, iter, ifs, 0⟩] scope pos) spos) env) Q E s := by
 rw [exec_Assign_Name_used _ _ _ _ hsw]
 refine Tn (UA (Tn ?_))
 show wpAny _ A (do let _ ← comprehension (.ListComp elt [⟨.Name x px, iter, ifs, 0⟩] scope pos) scope env _ (newList []) false (eval iter env) (some (assign (.Name y py) env))) _ _ s
 refine Tn (To (wpAny_comprehension_free (use := some (assign (.Name y py) env)) (Q := fun _ s' => Q .next s') rfl hs hclos hkind hnames
  (To h (fun xv s₁ h₁ => To h₁ (fun it s₂ h₂ => ?_) fun _ _ e => e) fun _ _ e => e)) (fun _ s' hq => Tr (Tr hq)) fun _ _ e => e)
 obtain ⟨p, F, I, fp, wr, n, P, St, m, rfl, W, hsz, hst, hfp, hLf, hn, hq, hQ⟩ := h₂
 refine comp_block_walkC (RR := fun acc C => compPost (model prog w) A E (some (assign (.Name y py) env)) (fun _ s' => Q .next s') acc C) W hsz p F hcell hkind hx hst hfp hq ?_
 intro D C h' tk m' ys vs hD hC hDC hnC hlD hplD hlen hP hF hk
 have hLC : env.locals ≠ C := by intro y1_; obtain rfl := y1_; refine CB hn fun o _ _ ho _ => ?_; clear hn; rw [hC] at ho; cases ho
 have hLD : env.locals ≠ D := by intro y1_; obtain rfl := y1_; refine CB hn fun o _ _ ho _ => ?_; clear hn; rw [hD] at ho; cases ho
 show wpAny _ A (assign (.Name y py) env (.ref D)) _ _ _
 refine wpAny_assign_Name (wpAny_storeName_local hy (hn.at' fun o e => hk _ o hLf e) (fun h₂ hn₂ hs₂ => ?_) hp)
 refine (A4 m' (hnC.sameBut hs₂ (Ne.symm hLC)) (fun h₃ hs₃ => ?_))
 exact hQ D h₃ _ ys vs hD ((hplD.extBut hs₂.extBut (Ne.symm hLD)).extBut hs₃.extBut hDC) hlen hP hF (hn₂.sameBut hs₃ hLC) fun b o hbL hbf e =>
  hs₃.extBut b o (by intro y1_; obtain rfl := y1_; rw [hC] at e; cases e) (hs₂.extBut b o hbL (hk b o hbf e))
end
noncomputable def Bu (fi : Loc → Res (List D)) (ft : Loc → Res Bool) (idx : List Nat) : Loc → Res (List D) := fun l => (fi l).bind fun es => if es.length ≤ sizeLine then BO (fun d => ft (Hv l idx d)) es else .fail
open Classical in
theorem K4 {scope : Scope} {x : Str} {ys : List Str} {idx : List Nat} {px p : Pos} {c : Expr} {ft : Loc → Res Bool} (cs : CS names sc scope x ys idx) (ht : ST prog w H C n true (x :: ys) (GZ scope sc) c ft) (hd : (x == ("__debug__" : Str)) = false)
  (cx : Cx prog w H n names sc A env fs N Z μ l m cm s) {cl : List (Str × Addr)} (hcl : ∀ p ∈ cl, env.cells.lookup p.1 = some p.2) (hcn : cl.map (·.1) = (D5 scope).reverse)
  {s₂ : Shared} {es ds : List D} {it : Value} (hI : IterR prog w A (Pr N env μ l) s s₂ es it (.Name x px)) (g₀ : Go q (FA fs) No s s₂) (hf : BO (fun d => ft (Hv l idx d)) es = .ok ds) :
  ∃ pp I fp wr P St, it = .ref I ∧ Walks prog w A I fp wr es.length P St ∧ St 0 s₂.heap ∧ (∀ b ∈ fp, b < s₂.heap.objs.size) ∧ (∀ b ∈ wr, s.heap.get? b = none) ∧ QuietOnC prog w A env scope cl x [c] (.Name x p) wr P pp (fun a b => b = a) s₂ ∧
   ∀ (h' : Heap) (vs : List Value) (ys' : List Value), vs.length = es.length → (∀ (j : Nat) (v : Value), vs[j]? = some v → P j v) → Paired (fun a b => b = a) (vs.filter pp) ys' → (∀ b o, b ∉ env.locals :: wr → s₂.heap.get? b = some o → h'.get? b = some o) → RDs (fun a => Pr N env μ l a ∨ a ∈ wr) h' ys' ds := by
 obtain ⟨I, fp, wr, Pw, St, vs0, ds0, rfl, W, st0, hwd, hfpP, hfp, hwl, hgo, hrd, hel⟩ := hI
 have hwl₂ : ∀ b ∈ wr, s₂.heap.get? b ≠ none := fun b hb => by refine BK (hfp 0 _ st0 b (W.sub b hb)) fun o e _ => ?_; rw [e]; simp
 have cx₂ : Cx prog w H n names sc A env fs (fun a => N a ∨ a ∈ wr) Z μ l m cm s₂ := OR (P := fun _ => True) (es := []) (it := .none) (tgt := c) cx g₀ hwd hwl₂
 have hPe : ∀ b, Pr (fun a => N a ∨ a ∈ wr) env μ l b ↔ (Pr N env μ l b ∨ b ∈ wr) := fun b => by unfold Pr; constructor <;> (intro z; rcases z with (z | z) | z <;> simp [z])
 refine ⟨fun v => decide (∃ d, RD (fun a => Pr N env μ l a ∨ a ∈ wr) s₂.heap v d ∧ ft (Hv l idx d) = .ok true), I, fp, wr, Pw, St, rfl, W, st0, fun b hb => ?_, hwd, ⟨?_, ?_⟩, ?_⟩
 ·refine BK (hfp 0 _ st0 b hb) fun o e _ => ?_; exact Heap.lt_size e
 ·intro Cc i v s₃ m₃ E' hC hP hns hm hk htk
  refine BK (hel _ s₂.heap hrd i v hP) fun d hde hr => ?_
  refine xE (IP hf d (T7 hde)) fun b hb => ?_
  have hCd : s₂.heap.get? Cc = none := UL hC
  have hr₃ : RD (fun b => Pr (fun a => N a ∨ a ∈ wr) env μ l b ∨ b = Cc) s₃.heap v d := by
   refine RD.walk hk (fun b hb => .inl (.inl (.inr hb))) (RD.less (fun b hbb z => ?_) hr)
   rcases z with z | z
   ·exact (hPe b).mp z
   ·exact absurd hCd (z ▸ hbb)
  have cx₃ := OF cs cx₂ hcl hcn (fun b hb => .inr hb) (fun b hb => hfp 0 _ st0 b (W.sub b hb)) hC hns hm hk hr₃
  have h0 := ht cx₃
  rw [hb] at h0
  rw [List.forIn_cons]
  refine Tn ?_
  rw [Tl rfl]
  refine Tn (To h0 (fun ok s₄ z_ => xA z_ fun hok g₄ => Tr ?_) fun _ _ f => f.elim)
  show wpAny _ A (forIn [] ok _) _ _ s₄
  rw [List.forIn_nil]
  refine Tr ⟨?_, HD g₄⟩
  subst hok
  cases ok with
  | true => exact (Tp (A4 d hr hb)).symm
  | false =>
   symm
   refine Tq ?_
   intro y1_; refine BK y1_ fun d' hr' hb' => ?_; clear y1_
   rw [RD.fn hr' hr, hb] at hb'
   cases hb'
 ·intro Cc i v s₃ m₃ E' hC hP hp hns hm hk htk
  have hfk : (compEnvC scope cl Cc env).scope.kind = .function := by show (relabel scope env).kind = _; exact cs.kind
  refine wpAny_Name (wpAny_loadName_local hfk ?_ hns hm ⟨rfl, HD (F := []) (.refl ..)⟩) hd
  unfold Env.kindOf
  show (relabel scope env).names.lookup x = _
  rw [Ny cx.e.scope]
  exact cs.xr
 ·intro h' vs ys' hlen hP hpair hk
  rw [K7 hpair]
  have r1 : RDs (fun a => Pr N env μ l a ∨ a ∈ wr) s₂.heap vs es := Ey hlen fun i v hv => hel _ s₂.heap hrd i v (hP i v hv)
  have r2 : RDs (fun a => Pr N env μ l a ∨ a ∈ wr) h' vs es := Ey hlen fun i v hv => hel _ h' (RDs.walk hk (fun b hb => (T0.mp hb).elim (fun e => .inl (.inr (.inl e))) fun hb => .inr hb) hrd) i v (hP i v hv)
  refine Jc (fun v d hr b hb => ?_) r1 r2 hf
  cases b with
  | true => exact Tp (A4 d hr hb)
  | false =>
   refine Tq ?_
   intro y1_; refine BK y1_ fun d' hr' hb' => ?_; clear y1_
   rw [RD.fn hr' hr, hb] at hb'
   cases hb'
theorem Gn {scope : Scope} {x : Str} {ys : List Str} {idx : List Nat} (cs : CS names sc scope x ys idx) (cx : Cx prog w H n names sc A env fs N Z μ l m cm s) : ∀ y ∈ scope.names, y.2 = .free → ∃ c, env.cells.lookup y.1 = some c := fun y hy hf => by
 refine cx.e.cells y.1 ?_
 unfold Env.kindOf
 rw [cx.e.scope]
 refine (cs.cell y.1 ?_).1
 rw [← cs.free]
 exact List.mem_map.mpr (A4 y (List.mem_filter.mpr ⟨hy, by rw [hf]; rfl⟩) rfl)
theorem LZ {scope : Scope} {x : Str} {ys : List Str} {idx : List Nat} {px p pos : Pos} {c iter : Expr} {fi : Loc → Res (List D)} {ft : Loc → Res Bool} (cs : CS names sc scope x ys idx) (hi : SI prog w H C n q names sc iter (.Name x px) fi)
  (ht : ST prog w H C n true (x :: ys) (GZ scope sc) c ft) (hs : autoParam (∀ env x, foldedSetIterable iter env x = pure x) tA) (hd : autoParam ((x == ("__debug__" : Str)) = false) tA) :
  SE prog w H C n q names sc (.ListComp (.Name x p) [⟨.Name x px, iter, [c], 0⟩] scope pos) fun l => (Bu fi ft idx l).bind fun ds => .ok (.list ds) := fun {A env fs N Z μ l m cm s} cx => by
 refine B1 (EV (Gn cs cx)) fun cl hclos hcl hcn => ?_
 show Sat _ A _ ((Bu fi ft idx l).bind _) _ _ s
 refine Sat.of_wp fun hr => ?_
 have hne : fi l ≠ .fail := fun z => hr (by unfold Bu; rw [z]; rfl)
 have key : ∀ it s₂, (∃ es, fi l = .ok es ∧ IterR prog w A (Pr N env μ l) s s₂ es it (.Name x px) ∧ Go q (FA fs) No s s₂) → ∃ es ds, IterR prog w A (Pr N env μ l) s s₂ es it (.Name x px) ∧ Go q (FA fs) No s s₂ ∧ es.length ≤ sizeLine ∧ BO (fun d => ft (Hv l idx d)) es = .ok ds ∧ Bu fi ft idx l = .ok ds := fun it s₂ z_ => B1 z_ fun es he hI g₀ => by
  unfold Bu at hr ⊢
  rw [he] at hr ⊢
  simp only [Res.bind_ok] at hr ⊢
  split at hr
  ·rename_i hsz
   cases hfm : BO (fun d => ft (Hv l idx d)) es with
   | fail => rw [hfm] at hr; exact absurd rfl hr
   | exc y => exact absurd hfm Hk
   | ok ds => exact (Q6 es ds hI g₀ hsz hfm (by rw [Tl hsz]))
  ·exact absurd rfl hr
 have lift : ∀ {e : Value} {s' : Shared}, (∃ x, fi l = .exc x ∧ exE C (FA fs) s x e s') → ∃ x, (Bu fi ft idx l).bind (fun ds => Res.ok (PyData.list ds)) = .exc x ∧ exE C (FA fs) s x e s' := fun z_ => BK z_ fun x h1 h2 => (A4 x (by unfold Bu; rw [h1]; rfl) h2)
 refine OT hclos cs.nc cs.kind cs.nl cs.lx (To (hi cx hne) (fun xv s₁ h₁ => To h₁ (fun it s₂ h₂ => ?_) fun _ _ z => lift z) fun _ _ z => lift z) (hs env)
 refine RI (key it s₂ h₂) fun es ds hI g₀ hsz hfm hcm => ?_
 obtain ⟨pp, I, fp, wr, P, St, rfl, W, st0, hfp, hwd, hQ, hfin⟩ := K4 (p := p) cs ht hd cx hcl hcn hI g₀ hfm
 refine ⟨pp, _, I, fp, wr, _, P, St, rfl, W, hsz, st0, hfp, hQ, fun D h' tk ys' vs hD hpl hlen hP hF hk => ?_⟩
 refine xE hpl fun kk hpl => ?_
 have r := hfin h' vs ys'.toList hlen hP hF fun b o n e => hk b o (fun z => n (Tx _ z)) e
 refine (B0 (.list ds) (by rw [hcm]; rfl) (.list hpl (fun z => ?_) (RDs.less (fun b _ z => .inl z) r)) ⟨g₀.mv.walk hwd hk, g₀.gens, g₀.os, g₀.drawn⟩)
 exact cx.plive _ z (g₀.mv.dead _ hD)
noncomputable def Kt (i : Nat) (fi : Loc → Res (List D)) (ft : Loc → Res Bool) (idx : List Nat) : LM := fun l => (Bu fi ft idx l).bind fun ds => .ok (.next, l.setv i (.d (.list ds)))
theorem Qv (i : Nat) {scope : Scope} {x y : Str} {ys : List Str} {idx : List Nat} {px py p pos spos : Pos} {c iter : Expr} {fi : Loc → Res (List D)} {ft : Loc → Res Bool} (hiy : names[i]? = some y) (hyk : sc.names.lookup y = some .local) (cs : CS names sc scope x ys idx) (hi : SI prog w H C n q names sc iter (.Name x px) fi)
  (ht : ST prog w H C n true (x :: ys) (GZ scope sc) c ft) (hsw : ∀ env : Env, env.scope = sc → swapsWith (.ListComp (.Name x p) [⟨.Name x px, iter, [c], 0⟩] scope pos) (some (.Name y py)) spos.line env = pure true)
  (hs : autoParam (∀ env x, foldedSetIterable iter env x = pure x) tA) (hd : autoParam ((x == ("__debug__" : Str)) = false) tA) :
  SS prog w H C n q names sc (.Assign [.Name y py] (.ListComp (.Name x p) [⟨.Name x px, iter, [c], 0⟩] scope pos) spos) (Kt i fi ft idx) := fun {A env fs N Z μ l m cm s} cx fo => by
 refine B1 (EV (Gn cs cx)) fun cl hclos hcl hcn => ?_
 have hfk : env.scope.kind = .function := by rw [cx.e.scope]; exact cx.e.kind
 have hkO : ∀ z, env.kindOf z = sc.names.lookup z := fun z => by unfold Env.kindOf; rw [cx.e.scope]
 unfold Kt
 show Sat _ A _ ((Bu fi ft idx l).bind _) _ _ s
 refine Sat.of_wp fun hr => ?_
 have hne : fi l ≠ .fail := fun z => hr (by unfold Bu; rw [z]; rfl)
 have lift : ∀ {e : Value} {s' : Shared}, (∃ x, fi l = .exc x ∧ exE C (FA fs) s x e s') → ∃ x, (Bu fi ft idx l).bind (fun ds => Res.ok (Fl.next, l.setv i (.d (.list ds)))) = .exc x ∧ exS C fs env μ l s x e s' := fun z_ => BK z_ fun x h1 h2 => (A4 x (by unfold Bu; rw [h1]; rfl) (h2.toS cx))
 refine Of (hsw env cx.e.scope) hclos cs.nc cs.kind cs.nl cs.lx (by rw [hkO]; exact hyk) (by rw [hfk]; rfl) (To (hi cx hne) (fun xv s₁ h₁ => To h₁ (fun it s₂ h₂ => ?_) fun _ _ z => lift z) fun _ _ z => lift z) (hs env)
 refine B1 h₂ fun es he hI g₀ => ?_; clear h₂
 obtain ⟨ds, hsz, hfm, hcm⟩ : ∃ ds, es.length ≤ sizeLine ∧ BO (fun d => ft (Hv l idx d)) es = .ok ds ∧ Bu fi ft idx l = .ok ds := by
  unfold Bu at hr ⊢
  rw [he] at hr ⊢
  simp only [Res.bind_ok] at hr ⊢
  split at hr
  ·rename_i hsz
   cases hfm : BO (fun d => ft (Hv l idx d)) es with
   | fail => rw [hfm] at hr; exact absurd rfl hr
   | exc y => exact absurd hfm Hk
   | ok ds => exact (B0 ds hsz rfl (by rw [Tl hsz]))
  ·exact absurd rfl hr
 obtain ⟨pp, I, fp, wr, P, St, rfl, W, st0, hfp, hwd, hQ, hfin⟩ := K4 (p := p) cs ht hd cx hcl hcn hI g₀ hfm
 have cxs := cx.go g₀
 have hLw : env.locals ∉ wr := fun z => by refine CB cx.lr.ns fun o _ _ e _ => ?_; rw [hwd _ z] at e; cases e
 refine ⟨pp, _, I, fp, wr, _, P, St, m, rfl, W, hsz, st0, hfp, hLw, cxs.lr.ns, hQ, fun D h' tk ys' vs hD hpl hlen hP hF hns hk => ?_⟩
 refine xE hpl fun kk hpl => ?_
 have r := hfin h' vs ys'.toList hlen hP hF fun b o n e => hk b o (fun z => n (z ▸ Ty)) (fun z => n (Tx _ z)) e
 have mv : Mv q (FA fs) (fun b => b = env.locals) s.heap h' := by
  refine ⟨fun b o e n => ?_, fun b o e n hq => ?_, fun b e => ?_⟩
  ·refine xE (g₀.mv.keep b o e id) fun sl e' => ?_
   exact ⟨sl, hk b _ n (fun z => by rw [hwd b z] at e; cases e) e'⟩
  ·exact hk b o n (fun z => by rw [hwd b z] at e; cases e) (g₀.mv.exact b o e id hq)
  ·by_cases z : b = env.locals
   ·rw [z]; refine CB hns fun o _ _ e' _ => ?_; clear hns; rw [e']; simp
   ·have h1 := g₀.mv.live b e
    cases y : s₂.heap.get? b with
    | none => exact absurd y h1
    | some o => rw [hk b o z (fun z => e (hwd b z)) y]; simp
 have hcn' : ∀ n c, (n, c) ∈ env.cells → c ≠ env.locals := fun n c hm z => by
  refine B6 (cx.lr.clive n c hm) fun v o' e' hd' => ?_
  refine CF cx.lr.ns fun o'' _ _ e'' hd'' _ => ?_
  rw [z, e''] at e'; cases e'; rw [hd''] at hd'; cases hd'
 have hil : i < l.vars.length := by rw [cx.lr.vlen]; exact (UC.mp hiy).1
 have lr := cx.lr.upd (cm' := cm) (vars' := l.vars.set i (some (.d (.list ds)))) mv (fun b z => .inl z) trivial hns (fun n c e => A9 (cx.lr.cl n c e) mv fun z => hcn' n c (mem_of_lookup e) z)
  (fun n c e => xE (cx.lr.clive n c e) fun v z => ⟨v, A9 z mv fun z => hcn' n c e z⟩) (fun j y' u h1 h2 => by
   by_cases e : j = i
   ·subst e
    rw [hiy] at h1; cases h1
    rw [List.getElem?_set_self hil] at h2; cases h2
    refine (A4 (.ref D) (by unfold G5; rw [Tl (by rw [hkO]; exact hyk)]; simp) (.list hpl (fun z => cx.plive _ z (g₀.mv.dead _ hD)) (RDs.less (fun b _ z => .inl z) r)))
   ·rw [List.getElem?_set_ne (Ne.symm e)] at h2
    refine BK (cx.lr.vars j y' u h1 h2) fun v' hv' hr' => ?_
    refine (A4 v' ?_ (hr'.mv mv (fun b z => .inl z) trivial fun b z => .inr (.inl z)))
    have hne' : y' ≠ y := fun z => e (Fw cx.lr.nnodup h1 (z ▸ hiy))
    unfold G5 at hv' ⊢
    split
    ·rename_i hly; rw [Tl hly] at hv'; simpa [hne'] using hv'
    ·rename_i hly; rw [Tm hly] at hv'; exact hv') (by simpa using cx.lr.vlen)
 exact ⟨(.next, l.setv i (.d (.list ds))), by rw [hcm]; rfl, μ, _, cm, trivial, lr, ⟨mv.mono fun b z => .inl z, g₀.gens, g₀.os, g₀.drawn⟩, fun b z => .inl z, List.prefix_refl _⟩
end Mine
namespace Mine
variable {prog : Program} {w : World} {H : Heap} {C : Addr} {n n' : Nat} {q : Bool} {names : List Str} {sc : Scope}
variable {A : Around} {env : Env} {fs : List Env} {N N' Z : Addr → Prop} {μ : List Addr} {l : Loc} {m cm : Str → Option Value} {s s' : Shared}
variable {mg mb : Str → Option Value}
noncomputable def Du (l : Loc) : List Nat → Option (List D)
 | [] => some []
 | i :: is => match l.cells[i]?, Du l is with
  | some (.list ds), some r => some (.list ds :: r)
  | _, _ => none
noncomputable def frzN (i : Nat) (l : Loc) : Loc := match Kp l i with
 | .ok (_, is) => (match Du l is with
  | some ds => ⟨((l.vars.map fun u => match u with | some (.d x) => some (.d x) | _ => none).set i (some (.d (.list ds)))), l.cells.map fun _ => .dead⟩
  | none => l)
 | _ => l
theorem LR.frzN {F : List Addr} {h : Heap} (i : Nat) (r : LR prog w H names N Z F env μ l m cm h) : LR prog w H names N Z F env μ (frzN i l) m cm h ∧ ∀ a, own env μ (frzN i l) a → own env μ l a := by
 unfold Mine.frzN
 split
 ·rename_i k is hg
  split
  ·rename_i ds hds
   refine xA (L4 hg) fun hv hc => ?_
   have hso : ∀ vv : List (Option W), ∀ b, own env μ ⟨vv, l.cells.map fun _ => Cell.dead⟩ b → own env μ l b := fun vv b z => by
    rcases z with z | z | ⟨j, c, h1, h2, h3⟩
    ·exact .inl z
    ·exact .inr (.inl z)
    ·simp only [UH, US] at h2
     refine BK h2 fun _ _ z2_ => ?_; clear h2; obtain rfl := z2_; cases h3
   have hnp : ∀ vv : List (Option W), ∀ b ∈ μ, ¬ Pr N env μ ⟨vv, l.cells.map fun _ => Cell.dead⟩ b := fun vv b hb z => by
    rcases z with z | z | ⟨x, z⟩ | ⟨j, c, h1, h2, h3⟩
    ·exact r.notN b hb z
    ·exact (r.notL b hb).1 z
    ·exact (r.notL b hb).2 x z
    ·simp only [UH, US] at h2
     refine BK h2 fun _ _ z2_ => ?_; clear h2; obtain rfl := z2_; cases h3
   refine ⟨?_, hso _⟩
   have less : ∀ vv : List (Option W), ∀ b, Pr N env μ ⟨vv, l.cells.map fun _ => Cell.dead⟩ b → Pr N env μ l b := fun vv b z => z.imp id (hso vv b)
   have hil : i < l.vars.length := (UC.mp hv).1
   exact { r with
    vars := fun j y u h1 h2 => by
     by_cases e : j = i
     ·subst e
      rw [List.getElem?_set_self (by simpa using hil)] at h2
      cases h2
      refine Ei (r.vars j y _ h1 hv) fun v hl a ha z4_ => ?_; obtain rfl := z4_
      refine D9 (r.cells k a _ ha hc) fun items kk hgg hit hnd hall => ?_
      refine (A4 _ hl (.list hgg (hnp _ a (T7 ha)) ?_))
      rw [hit]
      clear hit hnd hg hc
      induction is generalizing ds with
      | nil => cases hds; exact .nil
      | cons t is ih =>
       unfold Du at hds
       split at hds
       ·rename_i ds' r0 ht hr
        cases hds
        refine xA (hall t (by simp)) fun h3 _ => ?_
        have hb : μ[t]? = some (μ.getD t 0) := by simp [List.getD, h3]
        refine B6 (r.cells t _ _ hb ht) fun it2 k2 hg2 hr2 => ?_
        exact .cons (.list hg2 (hnp _ _ (T7 hb)) (RDs.less (fun b _ z => less _ b z) hr2)) (RDs.less (fun b _ z => z) (ih r0 hr fun j hj => hall j (Tx _ hj)))
       ·cases hds
     ·rw [List.getElem?_set_ne (Ne.symm e)] at h2
      simp only [UH, US] at h2
      refine BK h2 fun u0 hu0 hu => ?_; clear h2
      cases u0 with
      | none => simp at hu
      | some u1 =>
       cases u1 with
       | d x =>
        simp at hu; subst hu
        refine BK (r.vars j y _ h1 hu0) fun v hl hr => ?_
        exact (A4 v hl (RD.less (fun b _ z => less _ b z) hr))
       | lst _ => simp at hu
       | dct _ => simp at hu
       | bd _ => simp at hu
    cells := fun j a c h1 h2 => by
     simp only [UH, US] at h2
     refine BK h2 fun _ _ z2_ => ?_; clear h2; obtain rfl := z2_; trivial
    len := by simp [r.len]
    hf := fun b z => r.hf b (hso _ b z)
    vlen := by simpa using r.vlen }
  ·exact ⟨r, fun _ z => z⟩
 ·exact ⟨r, fun _ z => z⟩
theorem Qk (i : Nat) {b : List Stmt} {g : Loc → Res (Fl × Loc)} (h : SB prog w H C n q names sc b g) : SB prog w H C n q names sc b fun l => g (frzN i l) := fun {A env fs N Z μ l m cm s} cx fo => by
 refine xA (cx.lr.frzN i) fun lr ho => ?_
 exact Sat.mono (h ⟨cx.a, cx.e, cx.fr, cx.inv, lr⟩ fo) (fun _ _ _ _ y => y.wider ho) fun _ _ _ _ y => y.wider ho
theorem PU {a : Addr} {body : List Stmt} {names' : List Str} {sc' : Scope} {g : Loc → Res (Fl × Loc)} {x : Str} {p pos : Pos} (G : Gl H mg mb) (hf : Fn H a [] body sc') (hx : mg x = some (.ref a)) (hk : sc.names.lookup x = some .globalImplicit) (hnd : names'.Nodup) (hsb : SB prog w H C n q names' sc' body g) (hn : n + 1 ≤ n')
  (hd : autoParam ((x == ("__debug__" : Str)) = false) tA) : SE prog w H C n' q names sc (.Call (.Name x p) [] [] pos) fun _ => (AN g names' 0 []).bind Bb := fun {A env fs N Z μ l m cm s} cx => by
 refine GB (id hf.fn) fun o fd ho hdat _ => ?_
 have hc := F0 (q := q) (C := C) hf G.lim (List.nil_prefix) hnd hsb (cx.a.less hn) cx.fr cx.inv cx.plive (fun b h => h.elim (cx.lr.nh b) (cx.lr.hf b)) (ws := []) (vs := []) rfl rfl (μ₀ := []) (cs₀ := []) rfl List.nodup_nil (by simp) (by simp) (by simp)
 refine Sat.of_wp fun hr => ?_
 have hne : g (CH names' [] []) ≠ .fail := fun z => hr (by show (AN g names' 0 []).bind Bb = _; unfold AN; simp [z])
 refine Call_Name rfl (BZ G (.inl hx) hk cx ?_ hd)
 show wpAny _ A (callWith pos (.ref a) [] [] []) _ _ s
 refine Calls.callWith_function (o := o) (fd := fd) (args := []) ?_
 refine PySem.evalArgs_none ⟨⟨cx.inv.base _ _ ho, hdat⟩, ?_⟩
 refine To (hc.to_wp hne) (fun v s₁ z_ => BK z_ fun p hp h₁ => ?_) fun e s₁ z_ => BK z_ fun x hx h₁ => (A4 x (by show (AN g names' 0 []).bind Bb = _; unfold AN; simp [hx]) ⟨h₁.1, h₁.2.mono fun _ z => by simp at z⟩)
 have e1 : (AN g names' 0 []).bind Bb = Bb p.1 := by unfold AN; simp [hp]
 have hr' : Bb p.1 ≠ .fail := by rw [← e1]; exact hr
 show ∃ a, (AN g names' 0 []).bind Bb = .ok a ∧ _
 rw [e1]
 have g₁ : Go q (FA fs) No s s₁ := h₁.1.mono fun _ z => by simp at z
 have r := (h₁.2 fun i hi => by simp at hi).1
 unfold Bb at hr' ⊢
 split at hr'
 ·rename_i d hd'
  rw [hd'] at r
  exact (B0 d rfl r g₁)
 ·rename_i ds hd'
  rw [hd'] at r
  refine CP r fun b items k z3_ hz hg hr' => ?_; clear r; obtain rfl := z3_
  have hz : s.heap.get? b = none := hz.resolve_right (by simp)
  exact (B0 (.list ds) rfl (.list hg (fun z => cx.plive b z hz) (RDs.less (fun c _ z => .inl z) hr')) g₁)
 ·exact absurd rfl hr'
noncomputable def Dh (f : D → Res D) : List D → Res (List D)
 | [] => .ok []
 | d :: es => match f d with
  | .ok (.str x) => (Dh f es).bind fun r => .ok (.str x :: r)
  | _ => .fail
theorem OA {p : D → Res D} : ∀ {es : List D} {x : Dr}, Dh p es ≠ .exc x
 | [], _, h => by cases h
 | d :: es, x, h => by
  unfold Dh at h
  split at h
  ·cases hr : Dh p es with
   | fail => rw [hr] at h; cases h
   | ok r => rw [hr] at h; cases h
   | exc y => exact absurd hr OA
  ·cases h
theorem LC {p : D → Res D} : ∀ {es ds : List D}, Dh p es = .ok ds → ∀ d ∈ es, ∃ x, p d = .ok (.str x)
 | [], _, _, _, h => by simp at h
 | e :: es, ds, hf, d, h => by
  unfold Dh at hf
  split at hf
  ·rename_i x hp
   cases hr : Dh p es with
   | fail => rw [hr] at hf; cases hf
   | exc x => rw [hr] at hf; cases hf
   | ok r =>
    rcases T0.mp h with rfl | h
    ·exact ⟨x, hp⟩
    ·exact LC hr d h
  ·cases hf
theorem OH {P P' : Addr → Prop} {h h' : Heap} {p : D → Res D} : ∀ {vs ys : List Value} {es ds : List D}, RDs P h vs es → Paired (fun v y => ∃ d x t, RD P h v d ∧ p d = .ok (.str x) ∧ y = .str x t) vs ys → Dh p es = .ok ds → RDs P' h' ys ds
 | [], _, [], ds, .nil, .nil, hf => by cases hf; exact .nil
 | v :: vs, y :: ys, e :: es, ds, .cons r rs, .cons hp hps, hf => by
  unfold Dh at hf
  split at hf
  ·rename_i x hx
   cases hr : Dh p es with
   | fail => rw [hr] at hf; cases hf
   | exc x => rw [hr] at hf; cases hf
   | ok r0 =>
    rw [hr] at hf
    cases hf
    refine CF hp fun d x' t hr' hx' z5_ => ?_; clear hp; obtain rfl := z5_
    rw [RD.fn hr' r, hx] at hx'
    cases hx'
    exact .cons (.str _ _) (OH rs hps hr)
  ·cases hf
noncomputable def CR (fi : Loc → Res (List D)) (fe : Loc → Res D) (idx : List Nat) : Loc → Res (List D) := fun l => (fi l).bind fun es => if es.length ≤ sizeLine then Dh (fun d => fe (Hv l idx d)) es else .fail
theorem Nf {scope : Scope} {x : Str} {ys : List Str} {idx : List Nat} {px pos : Pos} {elt iter : Expr} {fi : Loc → Res (List D)} {fe : Loc → Res D} (cs : CS names sc scope x ys idx) (hi : SI prog w H C n q names sc iter (.Name x px) fi)
  (he : SE prog w H C n true (x :: ys) (GZ scope sc) elt fe) (hs : autoParam (∀ env x, foldedSetIterable iter env x = pure x) tA) :
  SE prog w H C n q names sc (.ListComp elt [⟨.Name x px, iter, [], 0⟩] scope pos) fun l => (CR fi fe idx l).bind fun ds => .ok (.list ds) := fun {A env fs N Z μ l m cm s} cx => by
 refine B1 (EV (Gn cs cx)) fun cl hclos hcl hcn => ?_
 show Sat _ A _ ((CR fi fe idx l).bind _) _ _ s
 refine Sat.of_wp fun hr => ?_
 have hne : fi l ≠ .fail := fun z => hr (by unfold CR; rw [z]; rfl)
 have lift : ∀ {e : Value} {s' : Shared}, (∃ x, fi l = .exc x ∧ exE C (FA fs) s x e s') → ∃ x, (CR fi fe idx l).bind (fun ds => Res.ok (PyData.list ds)) = .exc x ∧ exE C (FA fs) s x e s' := fun z_ => BK z_ fun x h1 h2 => (A4 x (by unfold CR; rw [h1]; rfl) h2)
 refine OT hclos cs.nc cs.kind cs.nl cs.lx (To (hi cx hne) (fun xv s₁ h₁ => To h₁ (fun it s₂ h₂ => ?_) fun _ _ z => lift z) fun _ _ z => lift z) (hs env)
 refine B1 h₂ fun es hes hI g₀ => ?_; clear h₂
 obtain ⟨ds, hsz, hfm, hcm⟩ : ∃ ds, es.length ≤ sizeLine ∧ Dh (fun d => fe (Hv l idx d)) es = .ok ds ∧ CR fi fe idx l = .ok ds := by
  unfold CR at hr ⊢
  rw [hes] at hr ⊢
  simp only [Res.bind_ok] at hr ⊢
  split at hr
  ·rename_i hsz
   cases hfm : Dh (fun d => fe (Hv l idx d)) es with
   | fail => rw [hfm] at hr; exact absurd rfl hr
   | exc y => exact absurd hfm OA
   | ok ds => exact (B0 ds hsz rfl (by rw [Tl hsz]))
  ·exact absurd rfl hr
 obtain ⟨I, fp, wr, Pw, St, vs0, ds0, rfl, W, st0, hwd, hfpP, hfp, hwl, hgo, hrd, hel⟩ := hI
 have hwl₂ : ∀ b ∈ wr, s₂.heap.get? b ≠ none := fun b hb => by refine BK (hfp 0 _ st0 b (W.sub b hb)) fun o e _ => ?_; rw [e]; simp
 have cx₂ : Cx prog w H n names sc A env fs (fun a => N a ∨ a ∈ wr) Z μ l m cm s₂ := OR (P := fun _ => True) (es := []) (it := .none) (tgt := elt) cx g₀ hwd hwl₂
 have hPe : ∀ b, Pr (fun a => N a ∨ a ∈ wr) env μ l b ↔ (Pr N env μ l b ∨ b ∈ wr) := fun b => by unfold Pr; constructor <;> (intro z; rcases z with (z | z) | z <;> simp [z])
 refine ⟨fun _ => true, fun v y => ∃ d x t, RD (fun a => Pr N env μ l a ∨ a ∈ wr) s₂.heap v d ∧ fe (Hv l idx d) = .ok (.str x) ∧ y = .str x t, I, fp, wr, _, Pw, St, rfl, W, hsz, st0, fun b hb => ?_, ⟨?_, ?_⟩, fun D h' tk ys' vs hD hpl hlen hP hF hk => ?_⟩
 ·refine BK (hfp 0 _ st0 b hb) fun o e _ => ?_; exact Heap.lt_size e
 ·intro Cc i v s₃ m₃ E' hC hP hns hm hk htk
  rw [List.forIn_nil]
  exact Tr ⟨rfl, HD (F := []) (.refl ..)⟩
 ·intro Cc i v s₃ m₃ E' hC hP hp hns hm hk htk
  refine BK (hel _ s₂.heap hrd i v hP) fun d hde hr' => ?_
  refine xE (LC hfm d (T7 hde)) fun x' hx' => ?_
  have hCd : s₂.heap.get? Cc = none := UL hC
  have hr₃ : RD (fun b => Pr (fun a => N a ∨ a ∈ wr) env μ l b ∨ b = Cc) s₃.heap v d := by
   refine RD.walk hk (fun b hb => .inl (.inl (.inr hb))) (RD.less (fun b hbb z => ?_) hr')
   rcases z with z | z
   ·exact (hPe b).mp z
   ·exact absurd hCd (z ▸ hbb)
  have cx₃ := OF cs cx₂ hcl hcn (fun b hb => .inr hb) (fun b hb => hfp 0 _ st0 b (W.sub b hb)) hC hns hm hk hr₃
  have h0 := he cx₃
  rw [hx'] at h0
  refine To h0 (fun y s₄ z_ => xA z_ fun ry g₄ => ?_) fun _ _ f => f.elim
  refine xE ry.str_inv fun t z1_ => ?_; obtain rfl := z1_
  exact ⟨(Gb d x' t hr' hx' rfl), HD g₄⟩
 ·have hF' : Paired (fun v y => ∃ d x t, RD (fun a => Pr N env μ l a ∨ a ∈ wr) s₂.heap v d ∧ fe (Hv l idx d) = .ok (.str x) ∧ y = .str x t) vs ys'.toList := by
   have : vs.filter (fun _ => true) = vs := List.filter_eq_self.mpr fun _ _ => rfl
   rwa [this] at hF
  have r1 : RDs (fun a => Pr N env μ l a ∨ a ∈ wr) s₂.heap vs es := Ey hlen fun i v hv => hel _ s₂.heap hrd i v (hP i v hv)
  refine xE hpl fun kk hpl => ?_
  refine (B0 (.list ds) (by rw [hcm]; rfl) (.list hpl (fun z => cx.plive _ z (g₀.mv.dead _ hD)) (OH r1 hF' hfm)) ⟨g₀.mv.walk hwd hk, g₀.gens, g₀.os, g₀.drawn⟩)
end Mine
namespace Mine
variable {prog : Program} {w : World} {H : Heap} {C W fB fW : Addr} {K : Frag} {n n' : Nat} {q : Bool} {names : List Str} {sc : Scope}
variable {mg mb : Str → Option Value}
noncomputable def Rs (k : Nat) : Option Stmt := PySem.Challenge.pw_pf0343_01.main.body[k]?
noncomputable def BT (k : Nat) : List Stmt := match Rs k with
 | some (.FunctionDef _ _ b _ _ _ _ _ _ _) => b
 | _ => []
noncomputable def Cr (k : Nat) : Scope := match Rs k with
 | some (.FunctionDef _ _ _ _ _ _ s _ _ _) => s
 | _ => default
noncomputable def GFn (H : Heap) (mg : Str → Option Value) (x : Str) (ps : List Str) (k : Nat) : Prop := ∃ a, mg x = some (.ref a) ∧ Fn H a ps (BT k) (Cr k)
noncomputable def GFn.ad {x : Str} {ps : List Str} {k : Nat} (g : GFn H mg x ps k) : Addr := g.choose
theorem GFn.nm {x : Str} {ps : List Str} {k : Nat} (g : GFn H mg x ps k) : mg x = some (.ref g.ad) := g.choose_spec.1
theorem GFn.fn {x : Str} {ps : List Str} {k : Nat} (g : GFn H mg x ps k) : Fn H g.ad ps (BT k) (Cr k) := g.choose_spec.2
noncomputable def GD (H : Heap) (mg mb : Str → Option Value) (x : Str) (d : D) : Prop := ∃ v, FK mg mb x v ∧ ∀ (P : Addr → Prop) (h : Heap), H.StaysIn h → (∀ a, P a → H.get? a = none) → RD P h v d
theorem ON (G : Gl H mg mb) {x : Str} {d : D} {pos : Pos} (g : GD H mg mb x d) (hk : sc.names.lookup x = some .globalImplicit) (hd : autoParam ((x == ("__debug__" : Str)) = false) tA) :
  SE prog w H C n q names sc (.Name x pos) fun _ => .ok d := by
 refine BK g fun v hv hr => ?_; clear g
 exact RU G hv hk hr hd
noncomputable def GY : D → Res D
 | .str _ => .fail
 | d => .ok d
theorem SE.weak {e : Expr} {f g : Loc → Res D} (h : SE prog w H C n q names sc e f) (hg : ∀ l, g l = f l ∨ g l = .fail) : SE prog w H C n q names sc e g := fun {A env fs N Z μ l m cm s} cx => by
 rcases hg l with e | e <;> rw [e]
 ·exact h cx
 ·trivial
theorem Nz {e tgt : Expr} {f : Loc → Res D} (h : SE prog w H C n q names sc e f) : SI prog w H C n q names sc e tgt fun l => ((f l).bind GY).bind Bh :=
 E3 (f := fun l => (f l).bind GY) (h.weak fun l => by
  show (f l).bind GY = f l ∨ (f l).bind GY = .fail
  rcases f l with _ | d | x
  ·exact .inl rfl
  ·cases d <;> first | exact .inl rfl | exact .inr rfl
  ·exact .inl rfl) (.inr fun l x e => by
  cases hf : f l with
  | fail => rw [hf] at e; cases e
  | exc x => rw [hf] at e; cases e
  | ok d => rw [hf] at e; cases d <;> cases e)
noncomputable def DE (ds : List D) (l : Loc) : Res Loc := match ds with | [] => .ok l | _ => .fail
noncomputable def Az (f : D → Loc → Res Loc) (g : List D → Loc → Res Loc) (ds : List D) (l : Loc) : Res Loc := match ds with | d :: ds => (f d l).bind fun l => g ds l | [] => .fail
theorem EI : Ry prog w H C n q names sc [] DE := fun _ _ _ _ _ _ _ _ _ _ vs ds cx r => Qr (C := C) vs ds cx r
theorem BS {t : Expr} {ts : List Expr} {f : D → Loc → Res Loc} {g : List D → Loc → Res Loc} (h : AS prog w H C n q names sc t f) (hs : Ry prog w H C n q names sc ts g)
  (he : autoParam (∀ env, assignEach (t :: ts) env = (false, assign t env) :: assignEach ts env) tA) : Ry prog w H C n q names sc (t :: ts) (Az f g) := fun _ _ _ _ _ _ _ _ _ _ vs ds cx r => QV (C := C) h hs he vs ds cx r
noncomputable def B5 (i : Nat) (l : Loc) : Nat := match l.vars[i]? with
 | some (some (.d (.str x))) => x.cps.size + 2
 | some (some (.d (.list xs))) => xs.length + 2
 | _ => 0
noncomputable def Ta (names : List Str) (sc scope : Scope) (x : Str) (ys : List Str) (idx : List Nat) : Bool :=
 scope.kind == .function && scope.names.all (fun y => y.2 != .cell) && scope.names.all (fun y => y.2 != .local || scope.names.lookup y.1 == some .local) &&
 scope.names.lookup x == some .local && (GZ scope sc).names.lookup x == some .local && D5 scope == ys && decide (x :: ys).Nodup &&
 ys.all (fun y => sc.names.lookup y == some .cell && (GZ scope sc).names.lookup y == some .cell) &&
 (GZ scope sc).names.all (fun y => y.2 != .cell || ys.contains y.1) && idx.length == ys.length && (idx.zip ys).all fun p => names[p.1]? == some p.2
theorem mem_of_lookup {α β : Type} [BEq α] [LawfulBEq α] {y : α} {b : β} : ∀ {l : List (α × β)}, l.lookup y = some b → (y, b) ∈ l
 | (a, c) :: r, h => by
  rw [List.lookup_cons] at h
  cases e : (y == a) with
  | true => rw [e] at h; cases h; rw [eq_of_beq e]; exact .head _
  | false => rw [e] at h; exact .tail _ (mem_of_lookup h)
theorem CS.of {scope : Scope} {x : Str} {ys : List Str} {idx : List Nat} (h : Ta names sc scope x ys idx = true) : CS names sc scope x ys idx := by
 simp only [Ta, Bool.and_eq_true, List.all_eq_true, beq_iff_eq, bne_iff_ne, ne_eq, Bool.or_eq_true, decide_eq_true_eq, List.contains_iff_mem] at h
 refine xA h fun z0_ h11 => ?_; clear h; refine xA z0_ fun z0_ h10 => ?_; refine xA z0_ fun z0_ h9 => ?_; obtain ⟨⟨⟨⟨⟨⟨⟨h1, h2⟩, h3⟩, h4⟩, h5⟩, h6⟩, h7⟩, h8⟩ := z0_
 refine ⟨h1, h2, fun y hy e => (h3 y hy).resolve_left (fun z => z e), h4, h5, h6, h7, h8, fun y e => (h9 _ (mem_of_lookup e)).resolve_left (fun z => z rfl), h10, fun i j y hi hj => ?_⟩
 refine h11 (j, y) (List.mem_iff_getElem?.mpr ⟨i, ?_⟩)
 rw [List.getElem?_zip_eq_some]
 exact ⟨hj, hi⟩
noncomputable def TZ (sc scope : Scope) (t : Str) (a b : Nat) : Bool := sc.kind == .function && sc.names.lookup t == some .local && a == b && !(scope.names.any fun p => p.1 == t && (p.2 == .local || p.2 == .cell))
theorem Qo {elt : Expr} {gs : List Comprehension} {scope : Scope} {t : Str} {p p' : Pos} {line : Nat} (h : autoParam (TZ sc scope t p'.line p.line = true) tA) :
  ∀ env : Env, env.scope = sc → swapsWith (.ListComp elt gs scope p) (some (.Name t p')) line env = pure true := by
 intro env y1_; obtain rfl := y1_
 simp only [TZ, Bool.and_eq_true, beq_iff_eq] at h
 refine xA h fun z0_ h4 => ?_; clear h; refine xA z0_ fun z0_ h3 => ?_; refine xA z0_ fun h1 h2 => ?_; clear z0_
 have e1 : env.blockKind = .function := by unfold Env.blockKind; rw [h1]; rfl
 have e2 : env.kindOf t = some .local := h2
 show (pure (env.blockKind == .function && env.kindOf t == some .local && p'.line == p.line && !(scope.names.any fun p => p.1 == t && (p.2 == .local || p.2 == .cell))) : Sem Bool) = _
 rw [e1, e2, h3, h4]
 simp
end Mine
set_option maxHeartbeats 4000000
namespace Mine
noncomputable def CE : D := .str "abcdefghijklmnopqrstuvwxyzABCDEFGHIJKLMNOPQRSTUVWXYZ0123456789_.:*+-/"
noncomputable def B8 : D := .tuple [.str "{", .str "}", .str "(", .str ")", .str "[", .str "]", .str ",", .str "=", .str "<", .str ">", .str "&", .str "|", .str "^", .str "!", .str "@", .str "$", .str "==", .str "!=", .str "<=", .str ">=", .str "<<", .str ">>", .str ".", .str "/", .str ":"]
noncomputable def CA : D := .tuple [.str "a", .str ":", .str " ", .str "=", .str "\"", .str "\n", .str ".", .str ":", .str "::", .str "/", .str "*", .str "+", .str "-", .str "_", .str "\\\n", .str "Z", .str "0", .str "z9", .str "A", .str "{", .str "}", .str "!", .str "<", .str ">", .str "&", .str "|", .str "^", .str "@", .str "=", .str "$", .str "#", .str ";", .str "\t", .str "\r", .str "\\", .str "\"", .str "(", .str ")", .str "[", .str "]", .str ","]
noncomputable def DT : D := .tuple [.str "a:b: :c ::", .str "::1 ./ .:", .str "\"q r\";x#z\n", .str "\\\n/: :. .", .str "!=<<=>>>=\t", .str "\r\n\"\"/ /", .str "\n \"u\n\"", .str "b\\ \n"]
noncomputable abbrev sR (x : Str) : Res D := .ok (.str x)
noncomputable abbrev iR (i : Int) : Res D := .ok (.int i)
noncomputable abbrev b2 (o : D → D → Res D) (a b : Res D) : Res D := a.bind fun d => b.bind fun e => o d e
noncomputable abbrev cR (a : Res D) (b : Res (List D)) : Res (List D) := a.bind fun d => b.bind fun ds => .ok (d :: ds)
noncomputable abbrev wR (a : Res D) : Res W := a.bind fun d => .ok (W.d d)
noncomputable abbrev cU (a : Res W) (b : Res (List W)) : Res (List W) := a.bind fun u => b.bind fun us => .ok (u :: us)
noncomputable abbrev retM (f : Loc → Res D) : LM := fun l => (f l).bind fun d => .ok (.ret (.val d), l)
noncomputable abbrev nR : Res (List D) := .ok []
noncomputable def FD : List Str := ["sign"]
noncomputable def A3 : List Str := ["sign"]
theorem FE : A3.Nodup := by decide +kernel
theorem Es : FD <+: A3 := ⟨_, rfl⟩
noncomputable def Br : LM :=
 AK ((retM fun l => b2 DM (getv l 0) (sR "abcdefghijklmnopqrstuvwxyzABCDEFGHIJKLMNOPQRSTUVWXYZ0123456789_.:*+-/"))) <|
 AT
noncomputable def JI : List Str := ["text", "at"]
noncomputable def CJ : List Str := ["text", "at"]
theorem NY : CJ.Nodup := by decide +kernel
theorem ML : JI <+: CJ := ⟨_, rfl⟩
noncomputable def D2 : Loc → Res Bool :=
 fun l => Ca (fun l => (b2 DI (getv l 1) ((getv l 0).bind Ar)).bind AF) (fun l => Ca (fun l => (((cU (wR (b2 AG (getv l 0) (getv l 1))) (.ok [])).bind (AN Br A3 1)).bind Bb).bind AF) (fun l => Res.ok true) l) l
noncomputable def Dz : LM :=
 AK (F5 1 Cg (fun l => iR 1)) <|
 AT
noncomputable def Ll : LM :=
 AK ((retM fun l => getv l 1)) <|
 AT
noncomputable def F1 : LM :=
 AK ((fun l => Ao D2 Dz (B5 0 l) l)) <|
 Ll
noncomputable def GF : List Str := ["text", "at", "row", "column"]
noncomputable def names_string_end : List Str := ["text", "at", "row", "column", "behind"]
theorem Kd : names_string_end.Nodup := by decide +kernel
theorem JM : GF <+: names_string_end := ⟨_, rfl⟩
noncomputable def f_string_end_b1 : LM :=
 AK ((retM fun l => b2 AM (getv l 4) (iR 1))) <|
 AT
noncomputable def f_string_end_r1 : LM :=
 AK (F5 4 Cg (fun l => iR 1)) <|
 AT
noncomputable def f_string_end_t1 : Loc → Res Bool :=
 fun l => Ca (fun l => (b2 DI (getv l 4) ((getv l 0).bind Ar)).bind AF) (fun l => Ca (fun l => (b2 A2 (b2 AG (getv l 0) (getv l 4)) (sR "\n")).bind AF) (fun l => Res.ok true) l) l
noncomputable def f_string_end_b2 : LM :=
 AK (Bl (fun l => (b2 AZ (b2 AG (getv l 0) (getv l 4)) (sR "\"")).bind AF) f_string_end_b1 AT) <|
 f_string_end_r1
noncomputable def Ii : LM :=
 AK ((fun l => ((cR (sR "unterminated string") (cR (getv l 2) (cR (getv l 3) (nR)))).bind EN).bind fun x => .exc x)) <|
 AT
noncomputable def D3 : LM :=
 AK (Aq 4 (fun l => b2 AM (getv l 1) (iR 1))) <|
 AK ((fun l => Ao f_string_end_t1 f_string_end_b2 (B5 0 l) l)) <|
 Ii
noncomputable def JK : List Str := ["tokens", "run", "row", "column"]
noncomputable def Cn : List Str := ["tokens", "run", "row", "column", "is_cut"]
theorem Js : Cn.Nodup := by decide +kernel
theorem ID : JK <+: Cn := ⟨_, rfl⟩
noncomputable def HU : LM :=
 AK (Cw 0 (fun l => (cR (sR "sign") (cR (sR ":") (cR (getv l 2) (cR (getv l 3) (nR))))).bind AV)) <|
 AK (Aq 1 (fun l => (getv l 1).bind fun d => ((iR 1).bind Ah).bind fun lo => (Res.ok none).bind fun hi => AY lo hi d)) <|
 AK (F5 3 Cg (fun l => iR 1)) <|
 AT
noncomputable def HX : LM :=
 AK (Aq 1 (fun l => (getv l 1).bind fun d => (Res.ok none).bind fun lo => (((iR 1).bind Ck).bind Ah).bind fun hi => AY lo hi d)) <|
 AT
noncomputable def HE : LM :=
 AK (Cw 0 (fun l => (cR (sR "word") (cR (getv l 1) (cR (getv l 2) (cR (getv l 3) (nR))))).bind AV)) <|
 AT
noncomputable def HB : LM :=
 AK (Cw 0 (fun l => (cR (sR "sign") (cR (getv l 1) (cR (getv l 2) (cR (getv l 3) (nR))))).bind AV)) <|
 AT
noncomputable def Le : LM :=
 AK (Bl (fun l => (b2 A2 (getv l 1) (sR "")).bind AF) HE AT) <|
 AT
noncomputable def HZ : LM :=
 AK (Cw 0 (fun l => (cR (sR "sign") (cR (sR ":") (cR (getv l 2) (cR (b2 AM (getv l 3) ((getv l 1).bind Ar)) (nR))))).bind AV)) <|
 AT
noncomputable def HT : LM :=
 AK (Bl (fun l => (getv l 4).bind AF) HZ AT) <|
 AT
noncomputable def G4 : LM :=
 AK (Bl (fun l => Hs (fun l => (b2 AZ (getv l 1) (sR ".")).bind AF) (fun l => Hs (fun l => (b2 AZ (getv l 1) (sR "/")).bind AF) (fun l => Res.ok false) l) l) HB Le) <|
 HT
noncomputable def HK : LM :=
 AK (Aq 4 (fun l => ((b2 AZ ((getv l 1).bind fun d => (((iR 1).bind Ck).bind Ah).bind fun lo => (Res.ok none).bind fun hi => AY lo hi d) (sR ":")).bind AF).bind fun b => if b then (b2 A2 ((getv l 1).bind fun d => (((iR 2).bind Ck).bind Ah).bind fun lo => (Res.ok none).bind fun hi => AY lo hi d) (sR "::")) else .ok (.bool false))) <|
 AK (Bl (fun l => (getv l 4).bind AF) HX AT) <|
 G4
noncomputable def Fz : LM :=
 AK (Bl (fun l => Ca (fun l => (b2 AZ (b2 AG (getv l 1) (iR 0)) (sR ":")).bind AF) (fun l => Ca (fun l => (b2 A2 ((getv l 1).bind fun d => (Res.ok none).bind fun lo => ((iR 2).bind Ah).bind fun hi => AY lo hi d) (sR "::")).bind AF) (fun l => Res.ok true) l) l) HU AT) <|
 HK
noncomputable def Fb : List Str := ["text"]
noncomputable def Bg : List Str := ["text", "tokens", "at", "row", "begin", "sign", "column", "behind"]
theorem J4 : Bg.Nodup := by decide +kernel
theorem Ie : Fb <+: Bg := ⟨_, rfl⟩
noncomputable def CZ : Loc → Res Bool :=
 fun l => Ca (fun l => (b2 DI (getv l 7) ((getv l 0).bind Ar)).bind AF) (fun l => Ca (fun l => (b2 A2 (b2 AG (getv l 0) (getv l 7)) (sR "\n")).bind AF) (fun l => Res.ok true) l) l
noncomputable def f_read_tokens_b1 : LM :=
 AK (F5 7 Cg (fun l => iR 1)) <|
 AT
noncomputable def Hu : LM :=
 AK ((fun l => ((cR (b2 AM (b2 AM (sR "unexpected character '") (getv l 5)) (sR "'")) (cR (getv l 3) (cR (getv l 6) (nR)))).bind EN).bind fun x => .exc x)) <|
 AT
noncomputable def H6 : LM :=
 AK (Cw 1 (fun l => (cR (sR "sign") (cR (getv l 5) (cR (getv l 3) (cR (getv l 6) (nR))))).bind AV)) <|
 AT
noncomputable def Eo : LM :=
 AK (Bl (fun l => (b2 Dw (getv l 5) (sR " \t\r")).bind AF) Hu AT) <|
 AT
noncomputable def H4 : LM :=
 AK (Aq 7 (fun l => b2 AM (getv l 2) (iR 2))) <|
 AK (Cw 1 (fun l => (cR (sR "sign") (cR ((getv l 0).bind fun d => ((getv l 2).bind Ah).bind fun lo => ((getv l 7).bind Ah).bind fun hi => AY lo hi d) (cR (getv l 3) (cR (getv l 6) (nR))))).bind AV)) <|
 AT
noncomputable def Et : LM :=
 AK (Bl (fun l => (b2 DM (getv l 5) (sR "{}()[],=<>&|^!@$")).bind AF) H6 Eo) <|
 AT
noncomputable def H3 : LM :=
 AK (Aq 7 (fun l => ((cU (wR (getv l 0)) (cU (wR (getv l 2)) (.ok []))).bind (AN F1 CJ 2)).bind Bb)) <|
 AK (Ow 1 Fz Cn 4 (fun l => cR ((getv l 0).bind fun d => ((getv l 2).bind Ah).bind fun lo => ((getv l 7).bind Ah).bind fun hi => AY lo hi d) (cR (getv l 3) (cR (getv l 6) (nR))))) <|
 AT
noncomputable def Ep : LM :=
 AK (Bl (fun l => (b2 DM ((getv l 0).bind fun d => ((getv l 2).bind Ah).bind fun lo => ((b2 AM (getv l 2) (iR 2)).bind Ah).bind fun hi => AY lo hi d) ((cR (sR "==") (cR (sR "!=") (cR (sR "<=") (cR (sR ">=") (cR (sR "<<") (cR (sR ">>") (nR))))))).bind AV)).bind AF) H4 Et) <|
 AT
noncomputable def f_read_tokens_b9 : LM :=
 AK (Aq 7 (fun l => ((cU (wR (getv l 0)) (cU (wR (getv l 2)) (cU (wR (getv l 3)) (cU (wR (getv l 6)) (.ok []))))).bind (AN D3 names_string_end 4)).bind Bb)) <|
 AK (Cw 1 (fun l => (cR (sR "string") (cR ((getv l 0).bind fun d => ((b2 AM (getv l 2) (iR 1)).bind Ah).bind fun lo => ((b2 Jt (getv l 7) (iR 1)).bind Ah).bind fun hi => AY lo hi d) (cR (getv l 3) (cR (getv l 6) (nR))))).bind AV)) <|
 AT
noncomputable def f_read_tokens_b10 : LM :=
 AK (Bl (fun l => (((cU (wR (getv l 5)) (.ok [])).bind (AN Br A3 1)).bind Bb).bind AF) H3 Ep) <|
 AT
noncomputable def Gw : LM :=
 AK (F5 7 Cg (fun l => iR 1)) <|
 AK (F5 3 Cg (fun l => iR 1)) <|
 AK (Aq 4 (fun l => getv l 7)) <|
 AT
noncomputable def Gr : LM :=
 AK (Bl (fun l => (b2 AZ (getv l 5) (sR "\"")).bind AF) f_read_tokens_b9 f_read_tokens_b10) <|
 AT
noncomputable def Gx : LM :=
 AK ((fun l => Ao CZ f_read_tokens_b1 (B5 0 l) l)) <|
 AT
noncomputable def G6 : LM :=
 AK (Bl (fun l => Ca (fun l => (b2 AZ (getv l 5) (sR "\\")).bind AF) (fun l => Ca (fun l => (b2 AZ ((getv l 0).bind fun d => ((getv l 7).bind Ah).bind fun lo => ((b2 AM (getv l 7) (iR 1)).bind Ah).bind fun hi => AY lo hi d) (sR "\n")).bind AF) (fun l => Res.ok true) l) l) Gw Gr) <|
 AT
noncomputable def Hh : LM :=
 AK (Cw 1 (fun l => (cR (sR "end") (cR (getv l 5) (cR (getv l 3) (cR (getv l 6) (nR))))).bind AV)) <|
 AT
noncomputable def HR : LM :=
 AK (Bl (fun l => (b2 AZ (getv l 5) (sR "#")).bind AF) Gx G6) <|
 AT
noncomputable def C3 : LM :=
 AK (Cw 1 (fun l => (cR (sR "end") (cR (getv l 5) (cR (getv l 3) (cR (getv l 6) (nR))))).bind AV)) <|
 AK (F5 3 Cg (fun l => iR 1)) <|
 AK (Aq 4 (fun l => getv l 7)) <|
 AT
noncomputable def C4 : LM :=
 AK (Bl (fun l => (b2 AZ (getv l 5) (sR ";")).bind AF) Hh HR) <|
 AT
noncomputable def Eb : LM :=
 AK (Aq 2 (fun l => getv l 7)) <|
 AT
noncomputable def Bo : Loc → Res Bool :=
 fun l => (b2 DI (getv l 2) ((getv l 0).bind Ar)).bind AF
noncomputable def BJ : LM :=
 AK (Aq 5 (fun l => b2 AG (getv l 0) (getv l 2))) <|
 AK (Aq 6 (fun l => b2 AM (b2 Jt (getv l 2) (getv l 4)) (iR 1))) <|
 AK (Aq 7 (fun l => b2 AM (getv l 2) (iR 1))) <|
 AK (Bl (fun l => (b2 AZ (getv l 5) (sR "\n")).bind AF) C3 C4) <|
 Eb
noncomputable def DP : LM :=
 AK (Cw 1 (fun l => (cR (sR "eof") (cR (sR "") (cR (getv l 3) (cR (b2 AM (b2 Jt (getv l 2) (getv l 4)) (iR 1)) (nR))))).bind AV)) <|
 AK (D1 1) <|
 AT
noncomputable def f_read_tokens : LM :=
 AK (FL 1 (fun l => (nR).bind fun ds => if ds.length ≤ sizeLine then .ok ds else .fail)) <|
 AK (Aq 2 (fun l => iR 0)) <|
 AK (Aq 3 (fun l => iR 1)) <|
 AK (Aq 4 (fun l => iR 0)) <|
 AK ((fun l => Ao Bo BJ (B5 0 l) l)) <|
 DP
noncomputable def Ft : List Str := ["token"]
noncomputable def At : List Str := ["token"]
theorem I9 : At.Nodup := by decide +kernel
theorem Ig : Ft <+: At := ⟨_, rfl⟩
noncomputable def Hn : LM :=
 AK ((retM fun l => sR "end of file")) <|
 AT
noncomputable def Hq : LM :=
 AK ((retM fun l => sR "newline")) <|
 AT
noncomputable def Hm : LM :=
 AK ((retM fun l => sR ";")) <|
 AT
noncomputable def Hr : LM :=
 AK (Bl (fun l => (b2 AZ (b2 AG (getv l 0) (iR 1)) (sR "\n")).bind AF) Hq AT) <|
 Hm
noncomputable def Hl : LM :=
 AK ((retM fun l => b2 AM (b2 AM (sR "'") (b2 AG (getv l 0) (iR 1))) (sR "'"))) <|
 AT
noncomputable def H0 : LM :=
 AK (Bl (fun l => (b2 AZ (b2 AG (getv l 0) (iR 0)) (sR "end")).bind AF) Hr AT) <|
 Hl
noncomputable def DW : LM :=
 AK (Bl (fun l => (b2 AZ (b2 AG (getv l 0) (iR 0)) (sR "eof")).bind AF) Hn AT) <|
 H0
noncomputable def GQ : List Str := ["token", "what"]
noncomputable def Ak : List Str := ["token", "what", "why"]
theorem Da : Ak.Nodup := by decide +kernel
theorem DA : GQ <+: Ak := ⟨_, rfl⟩
noncomputable def BN : LM :=
 AK (Aq 2 (fun l => b2 AM (b2 AM (b2 AM (sR "syntax error, unexpected ") (((cU (wR (getv l 0)) (.ok [])).bind (AN DW At 1)).bind Bb)) (sR ", expecting ")) (getv l 1))) <|
 AK ((fun l => ((cR (getv l 2) (cR (b2 AG (getv l 0) (iR 2)) (cR (b2 AG (getv l 0) (iR 3)) (nR)))).bind EN).bind fun x => .ok (.ret (.ex x), l))) <|
 AT
noncomputable def HY : List Str := ["tokens", "at"]
noncomputable def Ba : List Str := ["tokens", "at", "ahead"]
theorem LG : Ba.Nodup := by decide +kernel
theorem KG : HY <+: Ba := ⟨_, rfl⟩
noncomputable def Jn : LM :=
 AK ((retM fun l => Res.ok (.bool false))) <|
 AT
noncomputable def JF : LM :=
 AK ((retM fun l => Res.ok (.bool true))) <|
 AT
noncomputable def Ja : LM :=
 AK (Aq 2 (fun l => b2 AG (getv l 0) (b2 Jt (getv l 1) (iR 1)))) <|
 AK ((retM fun l => ((b2 AZ (b2 AG (getv l 2) (iR 0)) (sR "end")).bind AF).bind fun b => if b then .ok (.bool true) else (b2 DM ((getv l 2).bind fun d => (Res.ok none).bind fun lo => ((iR 2).bind Ah).bind fun hi => AY lo hi d) ((cR ((cR (sR "sign") (cR (sR "{") (nR))).bind AV) (cR ((cR (sR "sign") (cR (sR "}") (nR))).bind AV) (nR))).bind AV)))) <|
 AT
noncomputable def FY : LM :=
 AK (Bl (fun l => (b2 AZ (getv l 1) (iR 0)).bind AF) JF AT) <|
 Ja
noncomputable def B9 : LM :=
 AK (Bl (fun l => Hs (fun l => (b2 A2 (b2 AG (b2 AG (getv l 0) (getv l 1)) (iR 0)) (sR "word")).bind AF) (fun l => Hs (fun l => (b2 A2 (b2 AG (b2 AG (getv l 0) (getv l 1)) (iR 1)) (sR "define")).bind AF) (fun l => Res.ok false) l) l) Jn AT) <|
 FY
noncomputable def Gq : List Str := ["tokens", "at"]
noncomputable def Bk : List Str := ["tokens", "at", "depth", "token"]
theorem LQ : Bk.Nodup := by decide +kernel
theorem KH : Gq <+: Bk := ⟨_, rfl⟩
noncomputable def JY : LM :=
 AK ((retM fun l => getv l 1)) <|
 AT
noncomputable def I4 : LM :=
 AK (F5 2 Cg (fun l => iR 1)) <|
 AT
noncomputable def J9 : LM :=
 AK ((retM fun l => getv l 1)) <|
 AT
noncomputable def Jh : LM :=
 AK (F5 2 Nt (fun l => iR 1)) <|
 AT
noncomputable def JS : LM :=
 AK (Bl (fun l => (b2 AZ (getv l 2) (iR 0)).bind AF) J9 AT) <|
 Jh
noncomputable def Fi : LM :=
 AK (F5 1 Cg (fun l => iR 1)) <|
 AT
noncomputable def J3 : LM :=
 AK (Bl (fun l => (b2 AZ ((getv l 3).bind fun d => (Res.ok none).bind fun lo => ((iR 2).bind Ah).bind fun hi => AY lo hi d) ((cR (sR "sign") (cR (sR "}") (nR))).bind AV)).bind AF) JS AT) <|
 Fi
noncomputable def Ff : LM :=
 AK (Bl (fun l => (b2 AZ ((getv l 3).bind fun d => (Res.ok none).bind fun lo => ((iR 2).bind Ah).bind fun hi => AY lo hi d) ((cR (sR "sign") (cR (sR "{") (nR))).bind AV)).bind AF) I4 AT) <|
 J3
noncomputable def Cz : Loc → Res Bool :=
 fun l => (b2 A2 (b2 AG (b2 AG (getv l 0) (getv l 1)) (iR 0)) (sR "eof")).bind AF
noncomputable def CW : LM :=
 AK (Aq 3 (fun l => b2 AG (getv l 0) (getv l 1))) <|
 AK (Bl (fun l => Ca (fun l => (b2 AZ (b2 AG (getv l 3) (iR 0)) (sR "end")).bind AF) (fun l => Ca (fun l => (b2 AZ (getv l 2) (iR 0)).bind AF) (fun l => Res.ok true) l) l) JY AT) <|
 Ff
noncomputable def FM : LM :=
 AK ((retM fun l => getv l 1)) <|
 AT
noncomputable def Dg : LM :=
 AK (Aq 2 (fun l => iR 0)) <|
 AK ((fun l => Ao Cz CW (B5 0 l) l)) <|
 FM
noncomputable def G0 : List Str := ["word", "known"]
noncomputable def Bi : List Str := ["word", "known", "cut"]
theorem LX : Bi.Nodup := by decide +kernel
theorem KR : G0 <+: Bi := ⟨_, rfl⟩
noncomputable def I3 : LM :=
 AK ((retM fun l => getv l 0)) <|
 AT
noncomputable def I2 : LM :=
 AK ((retM fun l => (getv l 0).bind fun d => (Res.ok none).bind fun lo => ((getv l 2).bind Ah).bind fun hi => AY lo hi d)) <|
 AT
noncomputable def CU : LM :=
 AK (Aq 2 (fun l => (getv l 0).bind fun d => (CD d).bind fun d => (sR ":").bind fun e => Fe d e)) <|
 AK (Bl (fun l => Hs (fun l => (Mi false 1 (fun l => getv l 0) l).bind AF) (fun l => Hs (fun l => (b2 DI (getv l 2) (iR 1)).bind AF) (fun l => Res.ok false) l) l) I3 AT) <|
 I2
noncomputable def IH : List Str := ["tokens", "known"]
noncomputable def A6 : List Str := ["tokens", "known", "found", "at", "token", "name", "used"]
theorem IL : A6.Nodup := by decide +kernel
theorem He : IH <+: A6 := ⟨_, rfl⟩
noncomputable def GP : LM :=
 AK (Cw 2 (fun l => getv l 4)) <|
 AK ((fun l => .ok (.cont, l))) <|
 AT
noncomputable def KQ : LM :=
 AK ((fun l => ((cR (sR "syntax error, unexpected '$'") (cR (b2 AG (getv l 4) (iR 2)) (cR (b2 AG (getv l 4) (iR 3)) (nR)))).bind EN).bind fun x => .exc x)) <|
 AT
noncomputable def GN : LM :=
 AK ((fun l => (((cU (wR (getv l 5)) (cU (wR (sR "string")) (.ok []))).bind (AN BN Ak 2)).bind G9).bind fun x => .exc x)) <|
 AT
noncomputable def GM : LM :=
 AK ((fun l => ((cR (b2 AM (b2 AM (sR "unknown identifier '") (getv l 6)) (sR "'")) (cR (b2 AG (getv l 5) (iR 2)) (cR (b2 AG (getv l 5) (iR 3)) (nR)))).bind EN).bind fun x => .exc x)) <|
 AT
noncomputable def GU : LM :=
 AK (Ow 2 Fz Cn 4 (fun l => cR ((b2 AG (getv l 5) (iR 1)).bind fun d => (((getv l 6).bind Ar).bind Ah).bind fun lo => (Res.ok none).bind fun hi => AY lo hi d) (cR (b2 AG (getv l 5) (iR 2)) (cR (b2 AM (b2 AG (getv l 5) (iR 3)) ((getv l 6).bind Ar)) (nR))))) <|
 AT
noncomputable def Kg : LM :=
 AK (F5 3 Cg (fun l => iR 1)) <|
 AT
noncomputable def F8 : LM :=
 AK (EE 2 (fun l => Kz 1 (fun l => getv l 6) l)) <|
 AK (Bl (fun l => (b2 A2 (getv l 6) (b2 AG (getv l 5) (iR 1))).bind AF) GU AT) <|
 Kg
noncomputable def GX : LM :=
 AK (Aq 6 (fun l => ((cU (wR (b2 AG (getv l 5) (iR 1))) (cU ((Dx l 1).bind fun kvs => .ok (W.bd kvs)) (.ok []))).bind (AN CU Bi 2)).bind Bb)) <|
 AK (Bl (fun l => (Mi true 1 (fun l => getv l 6) l).bind AF) GM AT) <|
 F8
noncomputable def KM : LM :=
 AK (Aq 5 (fun l => b2 AG (getv l 0) (getv l 3))) <|
 AK (Bl (fun l => (b2 A2 (b2 AG (getv l 5) (iR 0)) (sR "word")).bind AF) GN AT) <|
 GX
noncomputable def F9 : LM :=
 AK (Bl (fun l => (b2 AZ (getv l 3) ((getv l 0).bind Ar)).bind AF) KQ AT) <|
 KM
noncomputable def Cl : Loc → Res Bool :=
 fun l => (b2 DI (getv l 3) ((getv l 0).bind Ar)).bind AF
noncomputable def Bn : LM :=
 AK (Aq 4 (fun l => b2 AG (getv l 0) (getv l 3))) <|
 AK (F5 3 Cg (fun l => iR 1)) <|
 AK (Bl (fun l => Hs (fun l => (b2 A2 (b2 AG (getv l 4) (iR 0)) (sR "sign")).bind AF) (fun l => Hs (fun l => (b2 A2 (b2 AG (getv l 4) (iR 1)) (sR "$")).bind AF) (fun l => Res.ok false) l) l) GP AT) <|
 F9
noncomputable def EX : LM :=
 AK (D1 2) <|
 AT
noncomputable def B2 : LM :=
 AK (FL 2 (fun l => (nR).bind fun ds => if ds.length ≤ sizeLine then .ok ds else .fail)) <|
 AK (Aq 3 (fun l => iR 0)) <|
 AK ((fun l => Ao Cl Bn (B5 0 l) l)) <|
 EX
noncomputable def Ks : List Str := ["tokens"]
noncomputable def names_expand : List Str := ["tokens", "found", "known", "at", "many", "name", "behind"]
theorem Oz : names_expand.Nodup := by decide +kernel
theorem NP : Ks <+: names_expand := ⟨_, rfl⟩
noncomputable def MN : LM :=
 AK (Aq 4 (fun l => iR 2)) <|
 AT
noncomputable def Df : LM :=
 AK (EE 1 (fun l => ((cU (wR ((getv l 0).bind fun d => ((getv l 3).bind Ah).bind fun lo => ((b2 AM (getv l 3) (getv l 4)).bind Ah).bind fun hi => AY lo hi d)) (cU ((Dx l 2).bind fun kvs => .ok (W.bd kvs)) (.ok []))).bind (AN B2 A6 2)).bind Bb)) <|
 AK (F5 3 Cg (fun l => getv l 4)) <|
 AK ((fun l => .ok (.cont, l))) <|
 AT
noncomputable def IG : LM :=
 AK (Aq 4 (fun l => iR 1)) <|
 AK (Bl (fun l => Ca (fun l => (b2 AZ (b2 AG (b2 AG (getv l 0) (getv l 3)) (iR 0)) (sR "sign")).bind AF) (fun l => Ca (fun l => (b2 AZ (b2 AG (b2 AG (getv l 0) (getv l 3)) (iR 1)) (sR "$")).bind AF) (fun l => Res.ok true) l) l) MN AT) <|
 Df
noncomputable def IY : LM :=
 AK ((fun l => (((cU (wR (getv l 5)) (cU (wR (sR "string")) (.ok []))).bind (AN BN Ak 2)).bind G9).bind fun x => .exc x)) <|
 AT
noncomputable def IO : LM :=
 AK ((fun l => ((cR (b2 AM (b2 AM (sR "redefinition of symbol '") (b2 AG (getv l 5) (iR 1))) (sR "'")) (cR (b2 AG (getv l 5) (iR 2)) (cR (b2 AG (getv l 5) (iR 3)) (nR)))).bind EN).bind fun x => .exc x)) <|
 AT
noncomputable def Mm : LM :=
 AK ((fun l => (((cU (wR (b2 AG (getv l 0) (b2 AM (getv l 3) (iR 2)))) (cU (wR (sR "'='")) (.ok []))).bind (AN BN Ak 2)).bind G9).bind fun x => .exc x)) <|
 AT
noncomputable def IC : LM :=
 AK ((fun l => (((cU (wR (b2 AG (getv l 0) (getv l 6))) (cU (wR (sR "expression")) (.ok []))).bind (AN BN Ak 2)).bind G9).bind fun x => .exc x)) <|
 AT
noncomputable def Mt : LM :=
 AK (F5 3 Cg (fun l => iR 1)) <|
 AT
noncomputable def IK : LM :=
 AK (Hd 2 (fun l => b2 AG (getv l 5) (iR 1)) (fun l => ((cU (wR ((getv l 0).bind fun d => ((b2 AM (getv l 3) (iR 3)).bind Ah).bind fun lo => ((getv l 6).bind Ah).bind fun hi => AY lo hi d)) (cU ((Dx l 2).bind fun kvs => .ok (W.bd kvs)) (.ok []))).bind (AN B2 A6 2)).bind Bb)) <|
 AK (Aq 3 (fun l => getv l 6)) <|
 AK (Bl (fun l => (b2 AZ (b2 AG (b2 AG (getv l 0) (getv l 3)) (iR 0)) (sR "end")).bind AF) Mt AT) <|
 AT
noncomputable def ME : LM :=
 AK (Aq 6 (fun l => ((cU (wR (getv l 0)) (cU (wR (b2 AM (getv l 3) (iR 3))) (.ok []))).bind (AN Dg Bk 2)).bind Bb)) <|
 AK (Bl (fun l => (b2 AZ (getv l 6) (b2 AM (getv l 3) (iR 3))).bind AF) IC AT) <|
 IK
noncomputable def FW : LM :=
 AK (Bl (fun l => Hs (fun l => (b2 A2 (b2 AG (b2 AG (getv l 0) (b2 AM (getv l 3) (iR 2))) (iR 0)) (sR "sign")).bind AF) (fun l => Hs (fun l => (b2 A2 (b2 AG (b2 AG (getv l 0) (b2 AM (getv l 3) (iR 2))) (iR 1)) (sR "=")).bind AF) (fun l => Res.ok false) l) l) Mm AT) <|
 ME
noncomputable def IV : LM :=
 AK (Bl (fun l => (Mi false 2 (fun l => b2 AG (getv l 5) (iR 1)) l).bind AF) IO AT) <|
 FW
noncomputable def NL : LM :=
 AK (Aq 5 (fun l => b2 AG (getv l 0) (b2 AM (getv l 3) (iR 1)))) <|
 AK (Bl (fun l => (b2 A2 (b2 AG (getv l 5) (iR 0)) (sR "word")).bind AF) IY AT) <|
 IV
noncomputable def Bw : Loc → Res Bool :=
 fun l => (b2 DI (getv l 3) ((getv l 0).bind Ar)).bind AF
noncomputable def BE : LM :=
 AK (Bl (fun l => ((((cU (wR (getv l 0)) (cU (wR (getv l 3)) (.ok []))).bind (AN B9 Ba 2)).bind Bb).bind AF).bind fun b => .ok !b) IG AT) <|
 NL
noncomputable def IM : LM :=
 AK (D1 1) <|
 AT
noncomputable def f_expand : LM :=
 AK (FL 1 (fun l => (nR).bind fun ds => if ds.length ≤ sizeLine then .ok ds else .fail)) <|
 AK (JU 2) <|
 AK (Aq 3 (fun l => iR 0)) <|
 AK ((fun l => Ao Bw BE (B5 0 l) l)) <|
 IM
noncomputable def IT : List Str := ["number"]
noncomputable def BM : List Str := ["number", "rest", "out", "turn", "place"]
theorem Mz : BM.Nodup := by decide +kernel
theorem LN : IT <+: BM := ⟨_, rfl⟩
noncomputable def DV : LM :=
 AK (Aq 4 (fun l => b2 Ch (b2 AM (getv l 1) (b2 PQ (iR 7) (getv l 3))) (iR 42))) <|
 AK (Aq 1 (fun l => b2 Dt (getv l 1) (iR 42))) <|
 AK (Cw 2 (fun l => ((b2 AZ (getv l 4) (iR 41)).bind AF).bind fun c => if c then ((b2 Ch (getv l 0) (iR 55296)).bind NG) else (b2 AG (Res.ok CA) (getv l 4)))) <|
 AT
noncomputable def GT : LM :=
 (fun l => (AK ((retM fun l => (sR "").bind fun d => (CD d).bind fun d => (getv l 2).bind fun e => FV d e)) <|
 AT) (frz 2 l))
noncomputable def CV : LM :=
 AK (Aq 1 (fun l => b2 Ch (getv l 0) (b2 FO (iR 42) (iR 6)))) <|
 AK (FL 2 (fun l => (nR).bind fun ds => if ds.length ≤ sizeLine then .ok ds else .fail)) <|
 AK ((fun l => ((cR (iR 6) (nR)).bind B7).bind fun es => BW (fun d l => .ok (l.setv 3 (.d d))) DV es l)) <|
 GT
noncomputable def HM : List Str := ["text"]
noncomputable def names_law_place : List Str := ["text"]
theorem DC : names_law_place.Nodup := by decide +kernel
theorem Cm : HM <+: names_law_place := ⟨_, rfl⟩
noncomputable def f_law_place : LM :=
 AK ((retM fun l => (cR (b2 AM ((getv l 0).bind fun d => (CD d).bind fun d => (sR "\n").bind fun e => DD d e) (iR 1)) (cR (b2 AM ((b2 AG ((getv l 0).bind fun d => (CD d).bind fun d => (sR "\n").bind fun e => Cq d e) ((iR 1).bind Ck)).bind Ar) (iR 1)) (nR))).bind AV)) <|
 AT
noncomputable def IW : List Str := ["part"]
noncomputable def names_law_sort : List Str := ["part"]
theorem IA : names_law_sort.Nodup := by decide +kernel
theorem HF : IW <+: names_law_sort := ⟨_, rfl⟩
noncomputable def Ke : LM :=
 AK ((retM fun l => sR "sign")) <|
 AT
noncomputable def KF : LM :=
 AK ((retM fun l => sR "end")) <|
 AT
noncomputable def Kh : LM :=
 AK ((retM fun l => sR "blank")) <|
 AT
noncomputable def f_law_sort_b4 : LM :=
 AK ((retM fun l => ((b2 DM (sR "\n") (getv l 0)).bind AF).bind fun c => if c then (sR "") else (sR "blank"))) <|
 AT
noncomputable def f_law_sort_b5 : LM :=
 AK ((retM fun l => (Ca (fun l => (b2 AZ ((getv l 0).bind fun d => (CD d).bind fun d => (sR "\"").bind fun e => DD d e) (iR 2)).bind AF) (fun l => Ca (fun l => (b2 AZ (b2 AG (getv l 0) ((iR 1).bind Ck)) (sR "\"")).bind AF) (fun l => Ca (fun l => (b2 Dw (sR "\n") (getv l 0)).bind AF) (fun l => Res.ok true) l) l) l).bind fun c => if c then (sR "string") else (sR ""))) <|
 AT
noncomputable def DY : Loc → Res Bool :=
 fun l => (b2 Dw (getv l 0) (Res.ok CE)).bind AF
noncomputable def KT : LM :=
 AK ((retM fun l => sR "")) <|
 AT
noncomputable def KK : LM :=
 AK ((retM fun l => sR "")) <|
 AT
noncomputable def Km : LM :=
 AK ((retM fun l => (Ca (fun l => (b2 AZ (b2 AG (getv l 0) ((iR 1).bind Ck)) (sR ":")).bind AF) (fun l => Ca (fun l => (b2 A2 ((getv l 0).bind fun d => (((iR 2).bind Ck).bind Ah).bind fun lo => (Res.ok none).bind fun hi => AY lo hi d) (sR "::")).bind AF) (fun l => Res.ok true) l) l).bind fun c => if c then (sR "") else (sR "word"))) <|
 AT
noncomputable def Ki : LM :=
 AK (Bl (fun l => Ca (fun l => (b2 AZ (b2 AG (getv l 0) (iR 0)) (sR ":")).bind AF) (fun l => Ca (fun l => (b2 A2 ((getv l 0).bind fun d => (Res.ok none).bind fun lo => ((iR 2).bind Ah).bind fun hi => AY lo hi d) (sR "::")).bind AF) (fun l => Res.ok true) l) l) KK AT) <|
 Km
noncomputable def f_law_sort_r3 : LM :=
 AK (Bl (fun l => (b2 A2 ((Bu (fun l => (getv l 0).bind Bh) DY [] l).bind fun ds => .ok (.list ds)) ((nR).bind BB)).bind AF) KT AT) <|
 Ki
noncomputable def f_law_sort_r4 : LM :=
 AK (Bl (fun l => (b2 AZ (b2 AG (getv l 0) (iR 0)) (sR "\"")).bind AF) f_law_sort_b5 AT) <|
 f_law_sort_r3
noncomputable def KD : LM :=
 AK (Bl (fun l => (b2 AZ (b2 AG (getv l 0) (iR 0)) (sR "#")).bind AF) f_law_sort_b4 AT) <|
 f_law_sort_r4
noncomputable def Ka : LM :=
 AK (Bl (fun l => (b2 DM (getv l 0) ((cR (sR " ") (cR (sR "\t") (cR (sR "\r") (cR (sR "\\\n") (nR))))).bind AV)).bind AF) Kh AT) <|
 KD
noncomputable def KY : LM :=
 AK (Bl (fun l => (b2 DM (getv l 0) ((cR (sR "\n") (cR (sR ";") (nR))).bind AV)).bind AF) KF AT) <|
 Ka
noncomputable def f_law_sort : LM :=
 AK (Bl (fun l => (b2 DM (getv l 0) (Res.ok B8)).bind AF) Ke AT) <|
 KY
noncomputable def IE : List Str := ["text"]
noncomputable def names_law_read : List Str := ["text", "tokens", "at", "fits", "why", "part", "sort"]
theorem Mp : names_law_read.Nodup := by decide +kernel
theorem Lu : IE <+: names_law_read := ⟨_, rfl⟩
noncomputable def f_law_read_c1 : Loc → Res Bool :=
 fun l => (b2 A2 (((cU (wR ((getv l 2).bind fun d => ((getv l 1).bind Ah).bind fun lo => ((getv l 0).bind Ah).bind fun hi => AY lo hi d)) (.ok [])).bind (AN f_law_sort names_law_sort 1)).bind Bb) (sR "")).bind AF
noncomputable def f_law_read_b1 : LM :=
 AK (Aq 4 (fun l => ((b2 AZ (b2 AG (getv l 0) (getv l 2)) (sR "\"")).bind AF).bind fun c => if c then (sR "unterminated string") else (b2 AM (b2 AM (sR "unexpected character '") (b2 AG (getv l 0) (getv l 2))) (sR "'")))) <|
 AK ((retM fun l => b2 AM ((cR (getv l 4) (nR)).bind AV) (((cU (wR ((getv l 0).bind fun d => (Res.ok none).bind fun lo => ((getv l 2).bind Ah).bind fun hi => AY lo hi d)) (.ok [])).bind (AN f_law_place names_law_place 1)).bind Bb))) <|
 AT
noncomputable def KW : LM :=
 AK (Cw 1 (fun l => b2 AM ((cR (getv l 6) (cR (((b2 AZ (getv l 6) (sR "string")).bind AF).bind fun c => if c then ((getv l 5).bind fun d => ((iR 1).bind Ah).bind fun lo => (((iR 1).bind Ck).bind Ah).bind fun hi => AY lo hi d) else (getv l 5)) (nR))).bind AV) (((cU (wR ((getv l 0).bind fun d => (Res.ok none).bind fun lo => ((getv l 2).bind Ah).bind fun hi => AY lo hi d)) (.ok [])).bind (AN f_law_place names_law_place 1)).bind Bb))) <|
 AT
noncomputable def GC : LM :=
 AK (Aq 2 (fun l => b2 AG (getv l 3) ((iR 1).bind Ck))) <|
 AT
noncomputable def KU : LM :=
 AK (Aq 5 (fun l => (getv l 0).bind fun d => ((getv l 2).bind Ah).bind fun lo => ((b2 AG (getv l 3) ((iR 1).bind Ck)).bind Ah).bind fun hi => AY lo hi d)) <|
 AK (Aq 6 (fun l => ((cU (wR (getv l 5)) (.ok [])).bind (AN f_law_sort names_law_sort 1)).bind Bb)) <|
 AK (Bl (fun l => (b2 A2 (getv l 6) (sR "blank")).bind AF) KW AT) <|
 GC
noncomputable def Ci : Loc → Res Bool :=
 fun l => (b2 DI (getv l 2) ((getv l 0).bind Ar)).bind AF
noncomputable def CL : LM :=
 AK (Kt 3 (fun l => (cR (b2 AM (getv l 2) (iR 1)) (cR (b2 AM ((getv l 0).bind Ar) (iR 1)) (nR))).bind B7) f_law_read_c1 [2, 0]) <|
 AK (Bl (fun l => (b2 AZ (getv l 3) ((nR).bind BB)).bind AF) f_law_read_b1 AT) <|
 KU
noncomputable def DZ : LM :=
 (fun l => (AK ((retM fun l => b2 AM (getv l 1) ((cR (b2 AM ((cR (sR "eof") (cR (sR "") (nR))).bind AV) (((cU (wR (getv l 0)) (.ok [])).bind (AN f_law_place names_law_place 1)).bind Bb)) (nR)).bind BB))) <|
 AT) (frz 1 l))
noncomputable def E6 : LM :=
 AK (FL 1 (fun l => (nR).bind fun ds => if ds.length ≤ sizeLine then .ok ds else .fail)) <|
 AK (Aq 2 (fun l => iR 0)) <|
 AK ((fun l => Ao Ci CL (B5 0 l) l)) <|
 DZ
noncomputable def IB : List Str := ["text"]
noncomputable def BD : List Str := ["text"]
theorem Fc : BD.Nodup := by decide +kernel
theorem E5 : IB <+: BD := ⟨_, rfl⟩
noncomputable def CG : LM :=
 AK (KO (fun l => ((cU (wR (getv l 0)) (.ok [])).bind (AN f_read_tokens Bg 1)).bind Bb)) <|
 AT
noncomputable def Gv : List Str := ["tokens"]
noncomputable def BQ : List Str := ["tokens"]
theorem Lh : BQ.Nodup := by decide +kernel
theorem KV : Gv <+: BQ := ⟨_, rfl⟩
noncomputable def CT : LM :=
 AK (KO (fun l => ((cU (wR (getv l 0)) (.ok [])).bind (AN f_expand names_expand 1)).bind Bb)) <|
 AT
noncomputable def FH : List Str := []
noncomputable def A8 : List Str := ["due", "text", "sign"]
theorem FI : A8.Nodup := by decide +kernel
noncomputable def Ec : LM :=
 AK (Cw 0 (fun l => (cR (sR "sign") (cR (getv l 2) (cR (iR 1) (cR (b2 AM ((getv l 1).bind Ar) (iR 2)) (nR))))).bind AV)) <|
 AK (Aq 1 (fun l => b2 AM (b2 AM (getv l 1) (sR " ")) (getv l 2))) <|
 AT
noncomputable def Ee : LM :=
 AK (Cw 0 (fun l => (cR (sR "eof") (cR (sR "") (cR (iR 1) (cR (b2 AM ((getv l 1).bind Ar) (iR 1)) (nR))))).bind AV)) <|
 (fun l => (AK ((retM fun l => b2 AZ (((cU (wR (getv l 1)) (.ok [])).bind (AN CG BD 1)).bind Bb) (getv l 0))) <|
 AT) (frz 0 l))
noncomputable def Be : LM :=
 AK (FL 0 (fun l => (cR ((cR (sR "word") (cR (Res.ok CE) (cR (iR 1) (cR (iR 1) (nR))))).bind AV) (nR)).bind fun ds => if ds.length ≤ sizeLine then .ok ds else .fail)) <|
 AK (Aq 1 (fun l => Res.ok CE)) <|
 AK ((fun l => ((Res.ok B8).bind Bh).bind fun es => BW (fun d l => .ok (l.setv 2 (.d d))) Ec es l)) <|
 Ee
noncomputable def Hf : List Str := ["number", "many"]
noncomputable def Bj : List Str := ["number", "many", "items", "_", "way", "name"]
theorem Ld : Bj.Nodup := by decide +kernel
theorem KZ : Hf <+: Bj := ⟨_, rfl⟩
noncomputable def Jv : LM :=
 AK (Cw 2 (fun l => (cR (sR "word") (cR (sR "10.0.0.1") (nR))).bind AV)) <|
 AT
noncomputable def Jj : LM :=
 AK (EE 2 (fun l => (cR ((cR (sR "sign") (cR (sR "$") (nR))).bind AV) (cR ((cR (sR "string") (cR (sR "b") (nR))).bind AV) (nR))).bind BB)) <|
 AT
noncomputable def JG : LM :=
 AK (EE 2 (fun l => (cR ((cR (sR "word") (cR (sR "x") (nR))).bind AV) (cR ((cR (sR "word") (cR (sR "define") (nR))).bind AV) (cR ((cR (sR "sign") (cR (sR "=") (nR))).bind AV) (nR)))).bind BB)) <|
 AT
noncomputable def J2 : LM :=
 AK (Bl (fun l => (b2 AZ (getv l 4) (iR 6)).bind AF) Jv Jj) <|
 AT
noncomputable def Jo : LM :=
 AK (EE 2 (fun l => (cR ((cR (sR "sign") (cR (sR "{") (nR))).bind AV) (cR ((cR (sR "word") (cR (sR "u") (nR))).bind AV) (cR ((cR (sR "end") (cR (sR "\n") (nR))).bind AV) (cR ((cR (sR "sign") (cR (sR "$") (nR))).bind AV) (cR (getv l 5) (cR ((cR (sR "end") (cR (sR ";") (nR))).bind AV) (nR))))))).bind BB)) <|
 AK (EE 2 (fun l => (cR ((cR (sR "sign") (cR (sR "{") (nR))).bind AV) (cR ((cR (sR "sign") (cR (sR "}") (nR))).bind AV) (cR ((cR (sR "sign") (cR (sR "}") (nR))).bind AV) (nR)))).bind BB)) <|
 AT
noncomputable def Je : LM :=
 AK (Bl (fun l => (b2 AZ (getv l 4) (iR 5)).bind AF) JG J2) <|
 AT
noncomputable def I6 : LM :=
 AK (Cw 2 (fun l => (cR (sR "string") (cR (sR "s $a # {") (nR))).bind AV)) <|
 AT
noncomputable def JT : LM :=
 AK (Bl (fun l => (b2 AZ (getv l 4) (iR 4)).bind AF) Jo Je) <|
 AT
noncomputable def f_law_items_b9 : LM :=
 AK (EE 2 (fun l => (cR ((cR (sR "sign") (cR (sR "$") (nR))).bind AV) (cR (getv l 5) (nR))).bind BB)) <|
 AT
noncomputable def f_law_items_b10 : LM :=
 AK (Bl (fun l => (b2 AZ (getv l 4) (iR 3)).bind AF) I6 JT) <|
 AT
noncomputable def f_law_items_b11 : LM :=
 AK (Aq 4 (fun l => b2 Ch (getv l 0) (iR 8))) <|
 AK (Aq 5 (fun l => (cR (sR "word") (cR (b2 AM (b2 AG (sR "pqab") (b2 Ch (b2 Dt (getv l 0) (iR 8)) (iR 4))) (((b2 AZ (getv l 4) (iR 0)).bind AF).bind fun c => if c then (sR ":80") else (sR ""))) (nR))).bind AV)) <|
 AK (Aq 0 (fun l => b2 Dt (getv l 0) (iR 32))) <|
 AK (Bl (fun l => (b2 DI (getv l 4) (iR 3)).bind AF) f_law_items_b9 f_law_items_b10) <|
 AT
noncomputable def f_law_items_r1 : LM :=
 AK (D1 2) <|
 AT
noncomputable def f_law_items : LM :=
 AK (FL 2 (fun l => (nR).bind fun ds => if ds.length ≤ sizeLine then .ok ds else .fail)) <|
 AK ((fun l => ((cR (getv l 1) (nR)).bind B7).bind fun es => BW (fun d l => .ok (l.setv 3 (.d d))) f_law_items_b11 es l)) <|
 f_law_items_r1
noncomputable def IU : List Str := ["number"]
noncomputable def BV : List Str := ["number", "form", "defect", "values", "end", "named", "head", "closing"]
theorem NC : BV.Nodup := by decide +kernel
theorem Lj : IU <+: BV := ⟨_, rfl⟩
noncomputable def Kk : LM :=
 AK (Cw 3 (fun l => (cR (sR "sign") (cR (sR "$") (nR))).bind AV)) <|
 AT
noncomputable def GW : LM :=
 AK (FL 3 (fun l => (nR).bind fun ds => if ds.length ≤ sizeLine then .ok ds else .fail)) <|
 AT
noncomputable def GJ : LM :=
 AK (Bl (fun l => (b2 AZ (getv l 2) (iR 3)).bind AF) Kk AT) <|
 AT
noncomputable def GK : LM :=
 AK ((retM fun l => (cR ((cR ((nR).bind BB) (cR (getv l 3) (cR (getv l 4) (nR)))).bind AV) (nR)).bind BB)) <|
 AT
noncomputable def GO : LM :=
 AK ((retM fun l => (cR ((cR (getv l 6) (cR (getv l 3) (cR (getv l 4) (nR)))).bind AV) (nR)).bind BB)) <|
 AT
noncomputable def GI : LM :=
 AK (Aq 7 (fun l => b2 AM ((cR ((cR (sR "sign") (cR (sR "}") (nR))).bind AV) (nR)).bind BB) (((b2 AZ (b2 Ch (b2 Dt (getv l 0) (iR 1728)) (iR 2)) (iR 0)).bind AF).bind fun c => if c then (getv l 4) else ((nR).bind BB)))) <|
 AK ((retM fun l => (cR ((cR ((nR).bind BB) (cR ((cR ((cR (sR "sign") (cR (sR "{") (nR))).bind AV) (nR)).bind BB) (cR ((nR).bind BB) (nR)))).bind AV) (cR ((cR (getv l 6) (cR (getv l 3) (cR (getv l 7) (nR)))).bind AV) (nR))).bind BB)) <|
 AT
noncomputable def GL : LM :=
 AK (Aq 5 (fun l => (cR (((b2 AZ (getv l 2) (iR 0)).bind AF).bind fun c => if c then (sR "string") else (sR "word")) (cR (b2 AG (sR "abc") (b2 Ch (b2 Dt (getv l 0) (iR 8)) (iR 3))) (nR))).bind AV)) <|
 AK (Aq 6 (fun l => (cR ((cR (sR "word") (cR (sR "define") (nR))).bind AV) (cR (getv l 5) (cR ((cR (sR "sign") (cR (((b2 AZ (getv l 2) (iR 1)).bind AF).bind fun c => if c then (sR "!") else (sR "=")) (nR))).bind AV) (nR)))).bind BB)) <|
 AK (Bl (fun l => (b2 DI (getv l 1) (iR 7)).bind AF) GO AT) <|
 GI
noncomputable def ES : LM :=
 (fun l => (AK (Aq 4 (fun l => (cR ((cR (sR "end") (cR (b2 AG (sR "\n;") (b2 Ch (b2 Dt (getv l 0) (iR 864)) (iR 2))) (nR))).bind AV) (nR)).bind BB)) <|
 AK (Bl (fun l => (b2 DI (getv l 1) (iR 3)).bind AF) GK AT) <|
 GL) (frz 3 l))
noncomputable def Cs : LM :=
 AK (Aq 1 (fun l => b2 Ch (getv l 0) (iR 8))) <|
 AK (Aq 2 (fun l => b2 Ch (b2 Dt (getv l 0) (iR 24)) (iR 12))) <|
 AK (FL 3 (fun l => ((cU (wR (b2 Ch (b2 Dt (getv l 0) (b2 FO (iR 2) (iR 12))) (b2 FO (iR 2) (iR 20)))) (cU (wR (b2 AM (iR 1) (b2 Ch (b2 Dt (getv l 0) (iR 288)) (iR 3)))) (.ok []))).bind (AN f_law_items Bj 2)).bind Ni)) <|
 AK (Bl (fun l => (b2 AZ (getv l 2) (iR 2)).bind AF) GW GJ) <|
 ES
noncomputable def FT : List Str := ["numbers"]
noncomputable def Bf : List Str := ["numbers", "is_so", "rows", "braces", "number", "head", "values", "closing"]
theorem Ji : Bf.Nodup := by decide +kernel
theorem Ih : FT <+: Bf := ⟨_, rfl⟩
noncomputable def DN : LM :=
 AK (EE 2 (fun l => ((cU (wR (getv l 4)) (.ok [])).bind (AN Cs BV 1)).bind Bb)) <|
 AT
noncomputable def Ce : Loc → Res Bool :=
 fun l => (b2 A2 (b2 AG (getv l 0) (iR 0)) (sR "end")).bind AF
noncomputable def El : LM :=
 AK ((fun l => (MR 2 (fun l => (iR 1).bind Ck) l).bind fun d => ((Ea (Az (fun d l => .ok (l.setv 5 (.d d))) (Az (fun d l => .ok (l.setv 6 (.d d))) (Az (fun d l => .ok (l.setv 7 (.d d))) DE))) 3) d l).bind fun l => Res.ok (Fl.next, l))) <|
 AK (MO 2 (fun l => (iR 1).bind Ck) (fun l => (cR (getv l 5) (cR (getv l 6) (cR ((Bu (fun l => (getv l 7).bind Bh) Ce [] l).bind fun ds => .ok (.list ds)) (nR)))).bind AV)) <|
 AK (D1 2) <|
 AT
noncomputable def Db : LM :=
 AK (Aq 1 (fun l => (cR (sR "sign") (cR (sR "=") (nR))).bind AV)) <|
 AK (FL 2 (fun l => (cR ((cR ((cR ((cR (sR "word") (cR (sR "define") (nR))).bind AV) (cR ((cR (sR "word") (cR (sR "p") (nR))).bind AV) (cR (getv l 1) (nR)))).bind BB) (cR ((cR ((cR (sR "word") (cR (sR "1") (nR))).bind AV) (nR)).bind BB) (cR ((cR ((cR (sR "end") (cR (sR ";") (nR))).bind AV) (nR)).bind BB) (nR)))).bind AV) (nR)).bind fun ds => if ds.length ≤ sizeLine then .ok ds else .fail)) <|
 AK (Aq 3 (fun l => (cR ((cR (sR "sign") (cR (sR "$") (nR))).bind AV) (cR ((cR (sR "word") (cR (sR "p") (nR))).bind AV) (cR ((cR (sR "sign") (cR (sR "{") (nR))).bind AV) (cR ((cR (sR "end") (cR (sR "\n") (nR))).bind AV) (cR ((cR (sR "sign") (cR (sR "}") (nR))).bind AV) (nR)))))).bind BB)) <|
 AK (Cw 2 (fun l => (cR ((cR ((cR (sR "word") (cR (sR "define") (nR))).bind AV) (cR ((cR (sR "word") (cR (sR "q") (nR))).bind AV) (cR (getv l 1) (nR)))).bind BB) (cR (getv l 3) (cR ((cR ((cR (sR "end") (cR (sR "\n") (nR))).bind AV) (nR)).bind BB) (nR)))).bind AV)) <|
 AK (Cw 2 (fun l => (cR ((nR).bind BB) (cR ((cR ((cR (sR "sign") (cR (sR "$") (nR))).bind AV) (cR ((cR (sR "word") (cR (sR "q") (nR))).bind AV) (cR ((cR (sR "sign") (cR (sR "$") (nR))).bind AV) (cR ((cR (sR "word") (cR (sR "p") (nR))).bind AV) (nR))))).bind BB) (cR ((cR ((cR (sR "end") (cR (sR ";") (nR))).bind AV) (nR)).bind BB) (nR)))).bind AV)) <|
 AK ((fun l => ((getv l 0).bind Bh).bind fun es => BW (fun d l => .ok (l.setv 4 (.d d))) DN es l)) <|
 El
noncomputable def Fr : List Str := ["rows"]
noncomputable def BI : List Str := ["rows", "text", "made", "head", "values", "closing", "tokens", "sort", "word"]
theorem JP : BI.Nodup := by decide +kernel
theorem Ij : Fr <+: BI := ⟨_, rfl⟩
noncomputable def Ej : LM :=
 AK (Aq 1 (fun l => b2 AM (getv l 1) (sR "#}"))) <|
 AT
noncomputable def Ed : LM :=
 AK (Aq 1 (fun l => b2 AM (getv l 1) (sR " "))) <|
 AT
noncomputable def Hy : LM :=
 AK (Cw 6 (fun l => b2 AM ((cR (getv l 7) (cR (getv l 8) (nR))).bind AV) (((cU (wR (getv l 1)) (.ok [])).bind (AN f_law_place names_law_place 1)).bind Bb))) <|
 AK (Aq 1 (fun l => b2 AM (getv l 1) (((b2 AZ (getv l 7) (sR "string")).bind AF).bind fun c => if c then (b2 AM (b2 AM (sR "\"") (getv l 8)) (sR "\"")) else (getv l 8)))) <|
 AK (Bl (fun l => (b2 A2 (getv l 8) (sR "\n")).bind AF) Ed AT) <|
 AT
noncomputable def DR : LM :=
 AK (Bl (fun l => (b2 AZ (getv l 8) (sR "\n")).bind AF) Ej AT) <|
 Hy
noncomputable def H8 : LM :=
 AK (OU 2 6) <|
 AT
noncomputable def DO : LM :=
 AK (FL 6 (fun l => (nR).bind fun ds => if ds.length ≤ sizeLine then .ok ds else .fail)) <|
 AK ((fun l => (((b2 AM (b2 AM (getv l 3) (getv l 4)) (getv l 5)).bind GY).bind Bh).bind fun es => BW (Ea (Az (fun d l => .ok (l.setv 7 (.d d))) (Az (fun d l => .ok (l.setv 8 (.d d))) DE)) 2) DR es l)) <|
 H8
noncomputable def Em : LM :=
 AK (Jz 2 (fun l => b2 AM ((cR (sR "eof") (cR (sR "") (nR))).bind AV) (((cU (wR (getv l 1)) (.ok [])).bind (AN f_law_place names_law_place 1)).bind Bb))) <|
 (fun l => (AK ((retM fun l => (cR (getv l 1) (cR (getv l 2) (nR))).bind AV)) <|
 AT) (frzN 2 l))
noncomputable def CK : LM :=
 AK (Aq 1 (fun l => sR "")) <|
 AK (MQ 2) <|
 AK ((fun l => (((getv l 0).bind GY).bind Bh).bind fun es => BW (Ea (Az (fun d l => .ok (l.setv 3 (.d d))) (Az (fun d l => .ok (l.setv 4 (.d d))) (Az (fun d l => .ok (l.setv 5 (.d d))) DE))) 3) DO es l)) <|
 Em
noncomputable def G3 : List Str := ["token", "what"]
noncomputable def Ai : List Str := ["token", "what", "word"]
theorem D0 : Ai.Nodup := by decide +kernel
theorem DX : G3 <+: Ai := ⟨_, rfl⟩
noncomputable def JN : LM :=
 AK (Aq 2 (fun l => ((b2 AZ (b2 AG (getv l 0) (iR 1)) (sR "\n")).bind AF).bind fun c => if c then (sR "newline") else (sR ";"))) <|
 AT
noncomputable def Fd : LM :=
 AK (Aq 2 (fun l => sR "end of file")) <|
 AT
noncomputable def Fm : LM :=
 AK (Bl (fun l => (b2 AZ (b2 AG (getv l 0) (iR 0)) (sR "end")).bind AF) JN AT) <|
 AT
noncomputable def Jq : LM :=
 AK ((retM fun l => b2 AM ((cR (b2 AM (b2 AM (b2 AM (sR "syntax error, unexpected ") (getv l 2)) (sR ", expecting ")) (getv l 1)) (nR)).bind AV) ((getv l 0).bind fun d => ((iR 2).bind Ah).bind fun lo => (Res.ok none).bind fun hi => AY lo hi d))) <|
 AT
noncomputable def BR : LM :=
 AK (Aq 2 (fun l => b2 AM (b2 AM (sR "'") (b2 AG (getv l 0) (iR 1))) (sR "'"))) <|
 AK (Bl (fun l => (b2 AZ (b2 AG (getv l 0) (iR 0)) (sR "eof")).bind AF) Fd Fm) <|
 Jq
noncomputable def IJ : List Str := ["tokens", "known"]
noncomputable def BL : List Str := ["tokens", "known", "out", "is_name", "k", "token", "name"]
theorem IQ : BL.Nodup := by decide +kernel
theorem Gy : IJ <+: BL := ⟨_, rfl⟩
noncomputable def Kf : LM :=
 AK ((retM fun l => ((cU (wR (getv l 5)) (cU (wR (sR "string")) (.ok []))).bind (AN BR Ai 2)).bind Bb)) <|
 AT
noncomputable def GS : LM :=
 AK ((retM fun l => b2 AM ((cR (b2 AM (b2 AM (sR "unknown identifier '") (getv l 6)) (sR "'")) (nR)).bind AV) ((getv l 5).bind fun d => ((iR 2).bind Ah).bind fun lo => (Res.ok none).bind fun hi => AY lo hi d))) <|
 AT
noncomputable def GH : LM :=
 AK (Cw 2 (fun l => (cR (sR "sign") (cR (sR ":") (cR (b2 AG (getv l 5) (iR 2)) (cR (b2 AM (b2 AG (getv l 5) (iR 3)) ((getv l 6).bind Ar)) (nR))))).bind AV)) <|
 AK (Cw 2 (fun l => (cR (sR "word") (cR ((b2 AG (getv l 5) (iR 1)).bind fun d => ((b2 AM ((getv l 6).bind Ar) (iR 1)).bind Ah).bind fun lo => (Res.ok none).bind fun hi => AY lo hi d) (cR (b2 AG (getv l 5) (iR 2)) (cR (b2 AM (b2 AM (b2 AG (getv l 5) (iR 3)) ((getv l 6).bind Ar)) (iR 1)) (nR))))).bind AV)) <|
 AT
noncomputable def Kj : LM :=
 AK (Aq 3 (fun l => Res.ok (.bool false))) <|
 AT
noncomputable def GA : LM :=
 AK (EE 2 (fun l => Kz 1 (fun l => getv l 6) l)) <|
 AK (Bl (fun l => (b2 A2 (getv l 6) (b2 AG (getv l 5) (iR 1))).bind AF) GH AT) <|
 Kj
noncomputable def KS : LM :=
 AK (Aq 6 (fun l => b2 AG ((b2 AG (getv l 5) (iR 1)).bind fun d => (CD d).bind fun d => (sR ":").bind fun e => Cq d e) (iR 0))) <|
 AK (Bl (fun l => (Mi true 1 (fun l => getv l 6) l).bind AF) GS AT) <|
 GA
noncomputable def KJ : LM :=
 AK ((retM fun l => b2 AM ((cR (sR "syntax error, unexpected '$'") (nR)).bind AV) ((getv l 5).bind fun d => ((iR 2).bind Ah).bind fun lo => (Res.ok none).bind fun hi => AY lo hi d))) <|
 AT
noncomputable def KP : LM :=
 AK (Aq 3 (fun l => Res.ok (.bool true))) <|
 AT
noncomputable def GE : LM :=
 AK (Cw 2 (fun l => getv l 5)) <|
 AT
noncomputable def GR : LM :=
 AK (Bl (fun l => (b2 AZ (b2 AM (getv l 4) (iR 1)) ((getv l 0).bind Ar)).bind AF) KJ KP) <|
 AT
noncomputable def GV : LM :=
 AK (Bl (fun l => (b2 A2 (b2 AG (getv l 5) (iR 0)) (sR "word")).bind AF) Kf AT) <|
 KS
noncomputable def Kl : LM :=
 AK (Bl (fun l => (b2 A2 ((getv l 5).bind fun d => (Res.ok none).bind fun lo => ((iR 2).bind Ah).bind fun hi => AY lo hi d) ((cR (sR "sign") (cR (sR "$") (nR))).bind AV)).bind AF) GE GR) <|
 AT
noncomputable def Aj : LM :=
 AK (Bl (fun l => (getv l 3).bind AF) GV Kl) <|
 AT
noncomputable def EZ : LM :=
 AK (D1 2) <|
 AT
noncomputable def CX : LM :=
 AK (FL 2 (fun l => (nR).bind fun ds => if ds.length ≤ sizeLine then .ok ds else .fail)) <|
 AK (Aq 3 (fun l => Res.ok (.bool false))) <|
 AK ((fun l => ((getv l 0).bind fun d => Gh [d]).bind fun es => BW (Ea (Az (fun d l => .ok (l.setv 4 (.d d))) (Az (fun d l => .ok (l.setv 5 (.d d))) DE)) 2) Aj (es.map .tuple) l)) <|
 EZ
noncomputable def Jm : List Str := ["rows", "made"]
noncomputable def BU : List Str := ["rows", "made", "known", "out", "row", "tokens", "head", "values", "closing", "flat", "name"]
theorem NZ : BU.Nodup := by decide +kernel
theorem Mo : Jm <+: BU := ⟨_, rfl⟩
noncomputable def L7 : LM :=
 AK ((retM fun l => getv l 9)) <|
 AT
noncomputable def L3 : LM :=
 AK (EE 3 (fun l => getv l 9)) <|
 AK ((fun l => .ok (.cont, l))) <|
 AT
noncomputable def G1 : LM :=
 AK (Aq 9 (fun l => ((cU (wR (getv l 5)) (cU ((Dx l 2).bind fun kvs => .ok (W.bd kvs)) (.ok []))).bind (AN CX BL 2)).bind Bb)) <|
 AK (Bl (fun l => ((getv l 9).bind Fx).bind AF) L7 AT) <|
 L3
noncomputable def HI : LM :=
 AK ((retM fun l => ((cU (wR (b2 AG (getv l 5) (iR 1))) (cU (wR (sR "string")) (.ok []))).bind (AN BR Ai 2)).bind Bb)) <|
 AT
noncomputable def G7 : LM :=
 AK ((retM fun l => b2 AM ((cR (b2 AM (b2 AM (sR "redefinition of symbol '") (getv l 10)) (sR "'")) (nR)).bind AV) ((b2 AG (getv l 5) (iR 1)).bind fun d => ((iR 2).bind Ah).bind fun lo => (Res.ok none).bind fun hi => AY lo hi d))) <|
 AT
noncomputable def HV : LM :=
 AK ((retM fun l => ((cU (wR (b2 AG (getv l 5) (iR 2))) (cU (wR (sR "'='")) (.ok []))).bind (AN BR Ai 2)).bind Bb)) <|
 AT
noncomputable def HL : LM :=
 AK ((retM fun l => ((cU (wR (b2 AG (getv l 5) (iR 3))) (cU (wR (sR "expression")) (.ok []))).bind (AN BR Ai 2)).bind Bb)) <|
 AT
noncomputable def LJ : LM :=
 AK ((retM fun l => getv l 9)) <|
 AT
noncomputable def Cy : Loc → Res Bool :=
 fun l => Hs (fun l => (b2 A2 (b2 AG (getv l 0) (iR 0)) (sR "end")).bind AF) (fun l => Hs (fun l => (b2 DM ((cR (sR "sign") (cR (sR "}") (nR))).bind AV) (getv l 1)).bind AF) (fun l => Res.ok false) l) l
noncomputable def Lz : LM :=
 AK (Hd 2 (fun l => getv l 10) (fun l => getv l 9)) <|
 AK (EE 3 (fun l => (Bu (fun l => ((getv l 5).bind fun d => ((b2 AM (iR 3) ((getv l 7).bind Ar)).bind Ah).bind fun lo => (Res.ok none).bind fun hi => AY lo hi d).bind Bh) Cy [8] l).bind fun ds => .ok (.list ds))) <|
 AT
noncomputable def Gs : LM :=
 AK (Aq 9 (fun l => ((cU (wR ((getv l 5).bind fun d => ((iR 3).bind Ah).bind fun lo => ((b2 AM (iR 3) ((getv l 7).bind Ar)).bind Ah).bind fun hi => AY lo hi d)) (cU ((Dx l 2).bind fun kvs => .ok (W.bd kvs)) (.ok []))).bind (AN CX BL 2)).bind Bb)) <|
 AK (Bl (fun l => ((getv l 9).bind Fx).bind AF) LJ AT) <|
 Lz
noncomputable def G2 : LM :=
 AK (Bl (fun l => (b2 AZ (getv l 7) ((nR).bind BB)).bind AF) HL AT) <|
 Gs
noncomputable def HW : LM :=
 AK (Bl (fun l => (b2 AZ (b2 AG (b2 AG (getv l 6) (iR 2)) (iR 1)) (sR "!")).bind AF) HV AT) <|
 G2
noncomputable def Gu : LM :=
 AK (Bl (fun l => (Mi false 2 (fun l => getv l 10) l).bind AF) G7 AT) <|
 HW
noncomputable def LU : LM :=
 AK (Aq 10 (fun l => b2 AG (b2 AG (getv l 6) (iR 1)) (iR 1))) <|
 AK (Bl (fun l => (b2 AZ (b2 AG (b2 AG (getv l 6) (iR 1)) (iR 0)) (sR "string")).bind AF) HI AT) <|
 Gu
noncomputable def BP : LM :=
 AK ((fun l => (getv l 4).bind fun d => ((Ea (Az (fun d l => .ok (l.setv 6 (.d d))) (Az (fun d l => .ok (l.setv 7 (.d d))) (Az (fun d l => .ok (l.setv 8 (.d d))) DE))) 3) d l).bind fun l => Res.ok (Fl.next, l))) <|
 AK (Bl (fun l => (b2 AZ (getv l 6) ((nR).bind BB)).bind AF) G1 AT) <|
 LU
noncomputable def Hi : LM :=
 AK (D1 3) <|
 AT
noncomputable def Ct : LM :=
 AK (JU 2) <|
 AK (FL 3 (fun l => (nR).bind fun ds => if ds.length ≤ sizeLine then .ok ds else .fail)) <|
 AK ((fun l => ((cR (getv l 0) (cR (getv l 1) (nR))).bind Mr).bind fun es => BW (Ea (Az (fun d l => .ok (l.setv 4 (.d d))) (Az (fun d l => .ok (l.setv 5 (.d d))) DE)) 2) BP (es.map .tuple) l)) <|
 Hi
noncomputable def QC : List Str := ["script"]
noncomputable def DJ : List Str := ["script", "numbers", "text", "rows", "made", "tokens", "part"]
theorem SQ : DJ.Nodup := by decide +kernel
theorem Ra : QC <+: DJ := ⟨_, rfl⟩
noncomputable def PY : LM :=
 AK ((retM fun l => Res.ok (.bool false))) <|
 AT
noncomputable def HJ : LM :=
 AK (Bl (fun l => (b2 A2 (((cU (wR (getv l 2)) (.ok [])).bind (AN CG BD 1)).bind Bb) (((cU (wR (getv l 2)) (.ok [])).bind (AN E6 names_law_read 1)).bind Bb)).bind AF) PY AT) <|
 AT
noncomputable def JL : LM :=
 AK (EE 5 (fun l => getv l 6)) <|
 AT
noncomputable def Pq : LM :=
 AK ((retM fun l => Res.ok (.bool false))) <|
 AT
noncomputable def JR : LM :=
 AK ((retM fun l => b2 AZ (((cU (wR (getv l 5)) (.ok [])).bind (AN CT BQ 1)).bind Bb) (((cU (wR (getv l 3)) (cU (wR (getv l 4)) (.ok []))).bind (AN Ct BU 2)).bind Bb))) <|
 AT
noncomputable def Mx : LM :=
 (fun l => (AK (Bl (fun l => Hs (fun l => (b2 A2 (((cU (wR (getv l 2)) (.ok [])).bind (AN CG BD 1)).bind Bb) (getv l 5)).bind AF) (fun l => Hs (fun l => (((AN Be A8 0 []).bind Bb).bind AF).bind fun b => .ok !b) (fun l => Res.ok false) l) l) Pq AT) <|
 JR) (frz 5 l))
noncomputable def QE : LM :=
 AK (Aq 3 (fun l => ((cU (wR (getv l 1)) (.ok [])).bind (AN Db Bf 1)).bind Bb)) <|
 AK ((fun l => (((cU (wR (getv l 3)) (.ok [])).bind (AN CK BI 1)).bind Bb).bind fun d => ((Ea (Az (fun d l => .ok (l.setv 2 (.d d))) (Az (fun d l => .ok (l.setv 4 (.d d))) DE)) 2) d l).bind fun l => Res.ok (Fl.next, l))) <|
 AK (FL 5 (fun l => (nR).bind fun ds => if ds.length ≤ sizeLine then .ok ds else .fail)) <|
 AK ((fun l => ((getv l 4).bind Bh).bind fun es => BW (fun d l => .ok (l.setv 6 (.d d))) JL es l)) <|
 Mx
noncomputable def OX : LM :=
 AK (Aq 1 (fun l => (getv l 0).bind fun d => (Res.ok none).bind fun lo => ((iR 5).bind Ah).bind fun hi => AY lo hi d)) <|
 AK ((fun l => ((b2 AM ((Res.ok DT).bind L9) ((CR (fun l => (getv l 1).bind Bh) (fun l => ((cU (wR (getv l 0)) (.ok [])).bind (AN CV BM 1)).bind Bb) [] l).bind fun ds => .ok (.list ds))).bind Bh).bind fun es => BW (fun d l => .ok (l.setv 2 (.d d))) HJ es l)) <|
 QE
structure TF (prog : Program) (w : World) (H : Heap) (C : Addr) (mg mb : Str → Option Value) (K : Frag) (W fB fW : Addr) : Prop where
 G : Gl H mg mb
 xe : XE prog w H mg mb K C W fB fW
 bad : mg "BadText" = some (.ref C)
 len : FK mg mb "len" (.builtin "len")
 chr : FK mg mb "chr" (.builtin "chr")
 lst : FK mg mb "list" (.type "list")
 rng : FK mg mb "range" (.type "range")
 enm : FK mg mb "enumerate" (.type "enumerate")
 zip : FK mg mb "zip" (.type "zip")
 isi : FK mg mb "isinstance" (.builtin "isinstance")
 tup : FK mg mb "tuple" (.type "tuple")
 d_law_word : GD H mg mb "_law_word" CE
 d_law_signs : GD H mg mb "_law_signs" B8
 d_law_parts : GD H mg mb "_law_parts" CA
 d_law_own : GD H mg mb "_law_own" DT
 k_is_word_sign : GFn H mg "is_word_sign" FD 4
 k_run_end : GFn H mg "run_end" JI 5
 k_string_end : GFn H mg "string_end" GF 6
 k_put_run : GFn H mg "put_run" JK 7
 k_read_tokens : GFn H mg "read_tokens" Fb 8
 k_token_words : GFn H mg "token_words" Ft 9
 k_unexpected : GFn H mg "unexpected" GQ 10
 k_is_define : GFn H mg "is_define" HY 11
 k_value_end : GFn H mg "value_end" Gq 12
 k_name_used : GFn H mg "name_used" G0 13
 k_replaced : GFn H mg "replaced" IH 14
 k_expand : GFn H mg "expand" Ks 15
 k_law_text : GFn H mg "_law_text" IT 21
 k_law_place : GFn H mg "_law_place" HM 22
 k_law_sort : GFn H mg "_law_sort" IW 23
 k_law_read : GFn H mg "_law_read" IE 24
 k_law_told : GFn H mg "_law_told" IB 25
 k_law_grown : GFn H mg "_law_grown" Gv 26
 k_law_are_signs_read : GFn H mg "_law_are_signs_read" FH 27
 k_law_items : GFn H mg "_law_items" Hf 28
 k_law_rows : GFn H mg "_law_rows" IU 29
 k_law_program : GFn H mg "_law_program" FT 30
 k_law_written : GFn H mg "_law_written" Fr 31
 k_law_fault : GFn H mg "_law_fault" G3 32
 k_law_flat : GFn H mg "_law_flat" IJ 33
 k_law_due : GFn H mg "_law_due" Jm 34
 k_law : GFn H mg "law" QC 35
section
variable {prog : Program} {w : World} {H : Heap} {C W fB fW : Addr} {K : Frag} {n : Nat} {q : Bool} {names : List Str} {sc : Scope} {mg mb : Str → Option Value}
theorem EU {pos : Pos} (T : TF prog w H C mg mb K W fB fW) (hk : sc.names.lookup (Str.ofString "_law_word") = some .globalImplicit) : SE prog w H C n q names sc (.Name "_law_word" pos) fun _ => .ok CE := ON T.G T.d_law_word hk
theorem FS {pos : Pos} (T : TF prog w H C mg mb K W fB fW) (hk : sc.names.lookup (Str.ofString "_law_signs") = some .globalImplicit) : SE prog w H C n q names sc (.Name "_law_signs" pos) fun _ => .ok B8 := ON T.G T.d_law_signs hk
theorem J1 {pos : Pos} (T : TF prog w H C mg mb K W fB fW) (hk : sc.names.lookup (Str.ofString "_law_parts") = some .globalImplicit) : SE prog w H C n q names sc (.Name "_law_parts" pos) fun _ => .ok CA := ON T.G T.d_law_parts hk
theorem LF {pos : Pos} (T : TF prog w H C mg mb K W fB fW) (hk : sc.names.lookup (Str.ofString "_law_own") = some .globalImplicit) : SE prog w H C n q names sc (.Name "_law_own" pos) fun _ => .ok DT := ON T.G T.d_law_own hk
end
end Mine
set_option maxHeartbeats 4000000
namespace Mine
variable {prog : Program} {w : World} {H : Heap} {C W fB fW : Addr} {K : Frag} {n : Nat} {q : Bool} {mg mb : Str → Option Value}
theorem FF (T : TF prog w H C mg mb K W fB fW) : SB prog w H C 0 q A3 (Cr 4) (BT 4) Br :=
 (AD (AW (Gm (AB 0 rfl) AE HP))
 AI)
theorem NW (T : TF prog w H C mg mb K W fB fW) : SB prog w H C 1 q CJ (Cr 5) (BT 5) F1 :=
 (AD (Dd (B5 0) (Bt (Bz (AU (AB 1 rfl) (BF T.G T.len rfl (AB 0 rfl) By (.inl ⟨_, rfl⟩)) Fq) (Bz (E1 (As T.G T.k_is_word_sign.fn T.k_is_word_sign.nm rfl Es FE (FF T) (by exact Tv _) (Ay (AP (AB 0 rfl) (AB 1 rfl)) Am))) CQ)))
 (AD (DH 1 rfl rfl Cb AH)
 AI))
 (AD (AW (AB 1 rfl))
 AI))
theorem KN (T : TF prog w H C mg mb K W fB fW) : SB prog w H C 3 q names_string_end (Cr 6) (BT 6) D3 :=
 (AD (AO 4 rfl rfl (AQ (AB 1 rfl) AH AX))
 (AD (Dd (B5 0) (Bt (Bz (AU (AB 4 rfl) (BF T.G T.len rfl (AB 0 rfl) By (.inl ⟨_, rfl⟩)) Fq) (Bz (AU (AP (AB 0 rfl) (AB 4 rfl)) AE B3) CQ)))
 (AD (Ae (AU (AP (AB 0 rfl) (AB 4 rfl)) AE Au)
 (AD (AW (AQ (AB 4 rfl) AH AX))
 AI)
 AI)
 (AD (DH 4 rfl rfl Cb AH)
 AI)))
 (AD (C9 T.xe (F3 T.xe T.bad rfl (AC AE (AC (AB 2 rfl) (AC (AB 3 rfl) AJ)))))
 AI)))
theorem Jb (T : TF prog w H C mg mb K W fB fW) : SB prog w H C 0 q Cn (Cr 7) (BT 7) Fz :=
 (AD (Ae (Bt (Bz (AU (AP (AB 1 rfl) AH) AE Au) (Bz (AU (An (AB 1 rfl) Bd (Af AH)) AE B3) CQ)))
 (AD (Ax 0 rfl (AL (AC AE (AC AE (AC (AB 2 rfl) (AC (AB 3 rfl) AJ))))))
 (AD (AO 1 rfl rfl (An (AB 1 rfl) (Af AH) Bd))
 (AD (DH 3 rfl rfl Cb AH)
 AI)))
 AI)
 (AD (AO 4 rfl rfl (SZ (Gm (An (AB 1 rfl) (Af (Eh AH DK)) Bd) AE Au) (Gm (An (AB 1 rfl) (Af (Eh AH DK)) Bd) AE B3)))
 (AD (Ae (E1 (AB 4 rfl))
 (AD (AO 1 rfl rfl (An (AB 1 rfl) Bd (Af (Eh AH DK))))
 AI)
 AI)
 (AD (Ae (Bt (EO (AU (AB 1 rfl) AE Au) (EO (AU (AB 1 rfl) AE Au) CQ)))
 (AD (Ax 0 rfl (AL (AC AE (AC (AB 1 rfl) (AC (AB 2 rfl) (AC (AB 3 rfl) AJ))))))
 AI)
 (AD (Ae (AU (AB 1 rfl) AE B3)
 (AD (Ax 0 rfl (AL (AC AE (AC (AB 1 rfl) (AC (AB 2 rfl) (AC (AB 3 rfl) AJ))))))
 AI)
 AI)
 AI))
 (AD (Ae (E1 (AB 4 rfl))
 (AD (Ax 0 rfl (AL (AC AE (AC AE (AC (AB 2 rfl) (AC (AQ (AB 3 rfl) (BF T.G T.len rfl (AB 1 rfl) By (.inl ⟨_, rfl⟩)) AX) AJ))))))
 AI)
 AI)
 AI)))))
theorem I5 (T : TF prog w H C mg mb K W fB fW) : SB prog w H C 4 q Bg (Cr 8) (BT 8) f_read_tokens :=
 (AD (C7 1 rfl rfl (CN AJ))
 (AD (AO 2 rfl rfl AH)
 (AD (AO 3 rfl rfl AH)
 (AD (AO 4 rfl rfl AH)
 (AD (Dd (B5 0) (AU (AB 2 rfl) (BF T.G T.len rfl (AB 0 rfl) By (.inl ⟨_, rfl⟩)) Fq)
 (AD (AO 5 rfl rfl (AP (AB 0 rfl) (AB 2 rfl)))
 (AD (AO 6 rfl rfl (AQ (AQ (AB 2 rfl) (AB 4 rfl) Lr) AH AX))
 (AD (AO 7 rfl rfl (AQ (AB 2 rfl) AH AX))
 (AD (Ae (AU (AB 5 rfl) AE Au)
 (AD (Ax 1 rfl (AL (AC AE (AC (AB 5 rfl) (AC (AB 3 rfl) (AC (AB 6 rfl) AJ))))))
 (AD (DH 3 rfl rfl Cb AH)
 (AD (AO 4 rfl rfl (AB 7 rfl))
 AI)))
 (AD (Ae (AU (AB 5 rfl) AE Au)
 (AD (Ax 1 rfl (AL (AC AE (AC (AB 5 rfl) (AC (AB 3 rfl) (AC (AB 6 rfl) AJ))))))
 AI)
 (AD (Ae (AU (AB 5 rfl) AE Au)
 (AD (Dd (B5 0) (Bt (Bz (AU (AB 7 rfl) (BF T.G T.len rfl (AB 0 rfl) By (.inl ⟨_, rfl⟩)) Fq) (Bz (AU (AP (AB 0 rfl) (AB 7 rfl)) AE B3) CQ)))
 (AD (DH 7 rfl rfl Cb AH)
 AI))
 AI)
 (AD (Ae (Bt (Bz (AU (AB 5 rfl) AE Au) (Bz (AU (An (AB 0 rfl) (Af (AB 7 rfl)) (Af (AQ (AB 7 rfl) AH AX))) AE Au) CQ)))
 (AD (DH 7 rfl rfl Cb AH)
 (AD (DH 3 rfl rfl Cb AH)
 (AD (AO 4 rfl rfl (AB 7 rfl))
 AI)))
 (AD (Ae (AU (AB 5 rfl) AE Au)
 (AD (AO 7 rfl rfl (As T.G T.k_string_end.fn T.k_string_end.nm rfl JM Kd (KN T) (by exact Tv _) (Ay (AB 0 rfl) (Ay (AB 2 rfl) (Ay (AB 3 rfl) (Ay (AB 6 rfl) Am))))))
 (AD (Ax 1 rfl (AL (AC AE (AC (An (AB 0 rfl) (Af (AQ (AB 2 rfl) AH AX)) (Af (AQ (AB 7 rfl) AH Lr))) (AC (AB 3 rfl) (AC (AB 6 rfl) AJ))))))
 AI))
 (AD (Ae (E1 (As T.G T.k_is_word_sign.fn T.k_is_word_sign.nm rfl Es FE (FF T) (by exact T6 _ _) (Ay (AB 5 rfl) Am)))
 (AD (AO 7 rfl rfl (As T.G T.k_run_end.fn T.k_run_end.nm rfl ML NY (NW T) (by exact T6 _ _) (Ay (AB 0 rfl) (Ay (AB 2 rfl) Am))))
 (AD (QG 1 T.G T.k_put_run.fn T.k_put_run.nm rfl ID Js (Jb T) (by exact T6 _ _) rfl (AC (An (AB 0 rfl) (Af (AB 2 rfl)) (Af (AB 7 rfl))) (AC (AB 3 rfl) (AC (AB 6 rfl) AJ))))
 AI))
 (AD (Ae (AU (An (AB 0 rfl) (Af (AB 2 rfl)) (Af (AQ (AB 2 rfl) AH AX))) (AL (AC AE (AC AE (AC AE (AC AE (AC AE (AC AE AJ))))))) HP)
 (AD (AO 7 rfl rfl (AQ (AB 2 rfl) AH AX))
 (AD (Ax 1 rfl (AL (AC AE (AC (An (AB 0 rfl) (Af (AB 2 rfl)) (Af (AB 7 rfl))) (AC (AB 3 rfl) (AC (AB 6 rfl) AJ))))))
 AI))
 (AD (Ae (AU (AB 5 rfl) AE HP)
 (AD (Ax 1 rfl (AL (AC AE (AC (AB 5 rfl) (AC (AB 3 rfl) (AC (AB 6 rfl) AJ))))))
 AI)
 (AD (Ae (AU (AB 5 rfl) AE J8)
 (AD (C9 T.xe (F3 T.xe T.bad rfl (AC (AQ (AQ AE (AB 5 rfl) AX) AE AX) (AC (AB 3 rfl) (AC (AB 6 rfl) AJ)))))
 AI)
 AI)
 AI))
 AI))
 AI))
 AI))
 AI))
 AI))
 AI))
 AI))
 (AD (AO 2 rfl rfl (AB 7 rfl))
 AI))))))
 (AD (Ax 1 rfl (AL (AC AE (AC AE (AC (AB 3 rfl) (AC (AQ (AQ (AB 2 rfl) (AB 4 rfl) Lr) AH AX) AJ))))))
 (AD (Bq 1 rfl)
 AI)))))))
theorem JO (T : TF prog w H C mg mb K W fB fW) : SB prog w H C 0 q At (Cr 9) (BT 9) DW :=
 (AD (Ae (AU (AP (AB 0 rfl) AH) AE Au)
 (AD (AW AE)
 AI)
 AI)
 (AD (Ae (AU (AP (AB 0 rfl) AH) AE Au)
 (AD (Ae (AU (AP (AB 0 rfl) AH) AE Au)
 (AD (AW AE)
 AI)
 AI)
 (AD (AW AE)
 AI))
 AI)
 (AD (AW (AQ (AQ AE (AP (AB 0 rfl) AH) AX) AE AX))
 AI)))
theorem DU (T : TF prog w H C mg mb K W fB fW) : SB prog w H C 3 q Ak (Cr 10) (BT 10) BN :=
 (AD (AO 2 rfl rfl (AQ (AQ (AQ AE (As T.G T.k_token_words.fn T.k_token_words.nm rfl Ig I9 (JO T) (by exact T6 _ _) (Ay (AB 0 rfl) Am)) AX) AE AX) (AB 1 rfl) AX))
 (AD (NA (F3 T.xe T.bad rfl (AC (AB 2 rfl) (AC (AP (AB 0 rfl) AH) (AC (AP (AB 0 rfl) AH) AJ)))))
 AI))
theorem MA (T : TF prog w H C mg mb K W fB fW) : SB prog w H C 0 q Ba (Cr 11) (BT 11) B9 :=
 (AD (Ae (Bt (EO (AU (AP (AP (AB 0 rfl) (AB 1 rfl)) AH) AE B3) (EO (AU (AP (AP (AB 0 rfl) (AB 1 rfl)) AH) AE B3) CQ)))
 (AD (AW D7)
 AI)
 AI)
 (AD (Ae (AU (AB 1 rfl) AH Au)
 (AD (AW D7)
 AI)
 AI)
 (AD (AO 2 rfl rfl (AP (AB 0 rfl) (AQ (AB 1 rfl) AH Lr)))
 (AD (AW (S4 (Gm (AP (AB 2 rfl) AH) AE Au) (Gm (An (AB 2 rfl) Bd (Af AH)) (AL (AC (AL (AC AE (AC AE AJ))) (AC (AL (AC AE (AC AE AJ))) AJ))) HP)))
 AI))))
theorem Lb (T : TF prog w H C mg mb K W fB fW) : SB prog w H C 0 q Bk (Cr 12) (BT 12) Dg :=
 (AD (AO 2 rfl rfl AH)
 (AD (Dd (B5 0) (AU (AP (AP (AB 0 rfl) (AB 1 rfl)) AH) AE B3)
 (AD (AO 3 rfl rfl (AP (AB 0 rfl) (AB 1 rfl)))
 (AD (Ae (Bt (Bz (AU (AP (AB 3 rfl) AH) AE Au) (Bz (AU (AB 2 rfl) AH Au) CQ)))
 (AD (AW (AB 1 rfl))
 AI)
 AI)
 (AD (Ae (AU (An (AB 3 rfl) Bd (Af AH)) (AL (AC AE (AC AE AJ))) Au)
 (AD (DH 2 rfl rfl Cb AH)
 AI)
 AI)
 (AD (Ae (AU (An (AB 3 rfl) Bd (Af AH)) (AL (AC AE (AC AE AJ))) Au)
 (AD (Ae (AU (AB 2 rfl) AH Au)
 (AD (AW (AB 1 rfl))
 AI)
 AI)
 (AD (DH 2 rfl rfl Rj AH)
 AI))
 AI)
 (AD (DH 1 rfl rfl Cb AH)
 AI))))))
 (AD (AW (AB 1 rfl))
 AI)))
theorem Ly (T : TF prog w H C mg mb K W fB fW) : SB prog w H C 0 q Bi (Cr 13) (BT 13) CU :=
 (AD (AO 2 rfl rfl (Rh (AB 0 rfl) AE))
 (AD (Ae (Bt (EO (M0 false 1 rfl (AB 0 rfl)) (EO (AU (AB 2 rfl) AH Fq) CQ)))
 (AD (AW (AB 0 rfl))
 AI)
 AI)
 (AD (AW (An (AB 0 rfl) Bd (Af (AB 2 rfl))))
 AI)))
theorem IS (T : TF prog w H C mg mb K W fB fW) : SB prog w H C 4 q A6 (Cr 14) (BT 14) B2 :=
 (AD (C7 2 rfl rfl (CN AJ))
 (AD (AO 3 rfl rfl AH)
 (AD (Dd (B5 0) (AU (AB 3 rfl) (BF T.G T.len rfl (AB 0 rfl) By (.inl ⟨_, rfl⟩)) Fq)
 (AD (AO 4 rfl rfl (AP (AB 0 rfl) (AB 3 rfl)))
 (AD (DH 3 rfl rfl Cb AH)
 (AD (Ae (Bt (EO (AU (AP (AB 4 rfl) AH) AE B3) (EO (AU (AP (AB 4 rfl) AH) AE B3) CQ)))
 (AD (Ax 2 rfl (AB 4 rfl))
 (AD FP
 AI))
 AI)
 (AD (Ae (AU (AB 3 rfl) (BF T.G T.len rfl (AB 0 rfl) By (.inl ⟨_, rfl⟩)) Au)
 (AD (C9 T.xe (F3 T.xe T.bad rfl (AC AE (AC (AP (AB 4 rfl) AH) (AC (AP (AB 4 rfl) AH) AJ)))))
 AI)
 AI)
 (AD (AO 5 rfl rfl (AP (AB 0 rfl) (AB 3 rfl)))
 (AD (Ae (AU (AP (AB 5 rfl) AH) AE B3)
 (AD (C9 T.xe (It T.G T.k_unexpected.fn T.k_unexpected.nm rfl DA Da (DU T) (by exact Tv _) (Ay (AB 5 rfl) (Ay AE Am))))
 AI)
 AI)
 (AD (AO 6 rfl rfl (As T.G T.k_name_used.fn T.k_name_used.nm rfl KR LX (Ly T) (by exact T6 _ _) (Ay (AP (AB 5 rfl) AH) (FZ 1 rfl Am))))
 (AD (Ae (M0 true 1 rfl (AB 6 rfl))
 (AD (C9 T.xe (F3 T.xe T.bad rfl (AC (AQ (AQ AE (AB 6 rfl) AX) AE AX) (AC (AP (AB 5 rfl) AH) (AC (AP (AB 5 rfl) AH) AJ)))))
 AI)
 AI)
 (AD (Bs 2 rfl (OQ 1 rfl (AB 6 rfl)))
 (AD (Ae (AU (AB 6 rfl) (AP (AB 5 rfl) AH) B3)
 (AD (QG 2 T.G T.k_put_run.fn T.k_put_run.nm rfl ID Js (Jb T) (by exact T6 _ _) rfl (AC (An (AP (AB 5 rfl) AH) (Af (BF T.G T.len rfl (AB 6 rfl) By (.inl ⟨_, rfl⟩))) Bd) (AC (AP (AB 5 rfl) AH) (AC (AQ (AP (AB 5 rfl) AH) (BF T.G T.len rfl (AB 6 rfl) By (.inl ⟨_, rfl⟩)) AX) AJ))))
 AI)
 AI)
 (AD (DH 3 rfl rfl Cb AH)
 AI))))))))))))
 (AD (Bq 2 rfl)
 AI))))
theorem Ol (T : TF prog w H C mg mb K W fB fW) : SB prog w H C 5 q names_expand (Cr 15) (BT 15) f_expand :=
 (AD (C7 1 rfl rfl (CN AJ))
 (AD (JV T.G 2 rfl rfl)
 (AD (AO 3 rfl rfl AH)
 (AD (Dd (B5 0) (AU (AB 3 rfl) (BF T.G T.len rfl (AB 0 rfl) By (.inl ⟨_, rfl⟩)) Fq)
 (AD (Ae (QS (E1 (As T.G T.k_is_define.fn T.k_is_define.nm rfl KG LG (MA T) (by exact T6 _ _) (Ay (AB 0 rfl) (Ay (AB 3 rfl) Am)))))
 (AD (AO 4 rfl rfl AH)
 (AD (Ae (Bt (Bz (AU (AP (AP (AB 0 rfl) (AB 3 rfl)) AH) AE Au) (Bz (AU (AP (AP (AB 0 rfl) (AB 3 rfl)) AH) AE Au) CQ)))
 (AD (AO 4 rfl rfl AH)
 AI)
 AI)
 (AD (Bs 1 rfl (As T.G T.k_replaced.fn T.k_replaced.nm rfl He IL (IS T) (by exact Tv _) (Ay (An (AB 0 rfl) (Af (AB 3 rfl)) (Af (AQ (AB 3 rfl) (AB 4 rfl) AX))) (FZ 2 rfl Am))))
 (AD (DH 3 rfl rfl Cb (AB 4 rfl))
 (AD FP
 AI)))))
 AI)
 (AD (AO 5 rfl rfl (AP (AB 0 rfl) (AQ (AB 3 rfl) AH AX)))
 (AD (Ae (AU (AP (AB 5 rfl) AH) AE B3)
 (AD (C9 T.xe (It T.G T.k_unexpected.fn T.k_unexpected.nm rfl DA Da (DU T) (by exact Nat.le_succ _) (Ay (AB 5 rfl) (Ay AE Am))))
 AI)
 AI)
 (AD (Ae (M0 false 2 rfl (AP (AB 5 rfl) AH))
 (AD (C9 T.xe (F3 T.xe T.bad rfl (AC (AQ (AQ AE (AP (AB 5 rfl) AH) AX) AE AX) (AC (AP (AB 5 rfl) AH) (AC (AP (AB 5 rfl) AH) AJ)))))
 AI)
 AI)
 (AD (Ae (Bt (EO (AU (AP (AP (AB 0 rfl) (AQ (AB 3 rfl) AH AX)) AH) AE B3) (EO (AU (AP (AP (AB 0 rfl) (AQ (AB 3 rfl) AH AX)) AH) AE B3) CQ)))
 (AD (C9 T.xe (It T.G T.k_unexpected.fn T.k_unexpected.nm rfl DA Da (DU T) (by exact Nat.le_succ _) (Ay (AP (AB 0 rfl) (AQ (AB 3 rfl) AH AX)) (Ay AE Am))))
 AI)
 AI)
 (AD (AO 6 rfl rfl (As T.G T.k_value_end.fn T.k_value_end.nm rfl KH LQ (Lb T) (by exact T6 _ _) (Ay (AB 0 rfl) (Ay (AQ (AB 3 rfl) AH AX) Am))))
 (AD (Ae (AU (AB 6 rfl) (AQ (AB 3 rfl) AH AX) Au)
 (AD (C9 T.xe (It T.G T.k_unexpected.fn T.k_unexpected.nm rfl DA Da (DU T) (by exact Nat.le_succ _) (Ay (AP (AB 0 rfl) (AB 6 rfl)) (Ay AE Am))))
 AI)
 AI)
 (AD (OC 2 rfl (AP (AB 5 rfl) AH) (As T.G T.k_replaced.fn T.k_replaced.nm rfl He IL (IS T) (by exact Tv _) (Ay (An (AB 0 rfl) (Af (AQ (AB 3 rfl) AH AX)) (Af (AB 6 rfl))) (FZ 2 rfl Am))))
 (AD (AO 3 rfl rfl (AB 6 rfl))
 (AD (Ae (AU (AP (AP (AB 0 rfl) (AB 3 rfl)) AH) AE Au)
 (AD (DH 3 rfl rfl Cb AH)
 AI)
 AI)
 AI)))))))))))
 (AD (Bq 1 rfl)
 AI)))))
theorem M6 (T : TF prog w H C mg mb K W fB fW) : SB prog w H C 0 q BM (Cr 21) (BT 21) CV :=
 (AD (AO 1 rfl rfl (AQ (AB 0 rfl) (AQ AH AH Nb) Dm))
 (AD (C7 2 rfl rfl (CN AJ))
 (AD (Fp (Jk T.G T.rng rfl (AC AH AJ) (fun _ _ => rfl)) (BX (C := C) 3 rfl rfl)
 (AD (AO 4 rfl rfl (AQ (AQ (AB 1 rfl) (AQ AH (AB 3 rfl) SG) AX) AH Dm))
 (AD (AO 1 rfl rfl (AQ (AB 1 rfl) AH E9))
 (AD (Ax 2 rfl (CI (AU (AB 4 rfl) AH Au) (BF T.G T.chr rfl (AQ (AB 0 rfl) AH Dm) Sn (.inl ⟨_, rfl⟩)) (AP (J1 T rfl) (AB 4 rfl))))
 AI))))
 (JJ 2 (AD (AW (RP AE (AB 2 rfl)))
 AI)))))
theorem DF (T : TF prog w H C mg mb K W fB fW) : SB prog w H C 0 q names_law_place (Cr 22) (BT 22) f_law_place :=
 (AD (AW (AL (AC (AQ (ND (AB 0 rfl) AE) AH AX) (AC (AQ (BF T.G T.len rfl (AP (M3 (AB 0 rfl) AE) (Eh AH DK)) By (.inl ⟨_, rfl⟩)) AH AX) AJ))))
 AI)
theorem IR (T : TF prog w H C mg mb K W fB fW) : SB prog w H C 0 q names_law_sort (Cr 23) (BT 23) f_law_sort :=
 (AD (Ae (AU (AB 0 rfl) (FS T rfl) HP)
 (AD (AW AE)
 AI)
 AI)
 (AD (Ae (AU (AB 0 rfl) (AL (AC AE (AC AE AJ))) HP)
 (AD (AW AE)
 AI)
 AI)
 (AD (Ae (AU (AB 0 rfl) (AL (AC AE (AC AE (AC AE (AC AE AJ))))) HP)
 (AD (AW AE)
 AI)
 AI)
 (AD (Ae (AU (AP (AB 0 rfl) AH) AE Au)
 (AD (AW (CI (AU AE (AB 0 rfl) HP) AE AE))
 AI)
 AI)
 (AD (Ae (AU (AP (AB 0 rfl) AH) AE Au)
 (AD (AW (CI (Bt (Bz (AU (ND (AB 0 rfl) AE) AH Au) (Bz (AU (AP (AB 0 rfl) (Eh AH DK)) AE Au) (Bz (AU AE (AB 0 rfl) J8) CQ)))) AE AE))
 AI)
 AI)
 (AD (Ae (AU (LZ (CS.of (ys := []) (idx := []) rfl) (E3 (AB 0 rfl) (.inl fun _ _ => rfl)) (AU (AB 0 rfl) (EU T rfl) J8)) (A7 AJ) B3)
 (AD (AW AE)
 AI)
 AI)
 (AD (Ae (Bt (Bz (AU (AP (AB 0 rfl) AH) AE Au) (Bz (AU (An (AB 0 rfl) Bd (Af AH)) AE B3) CQ)))
 (AD (AW AE)
 AI)
 AI)
 (AD (AW (CI (Bt (Bz (AU (AP (AB 0 rfl) (Eh AH DK)) AE Au) (Bz (AU (An (AB 0 rfl) (Af (Eh AH DK)) Bd) AE B3) CQ))) AE AE))
 AI))))))))
theorem Mg (T : TF prog w H C mg mb K W fB fW) : SB prog w H C 1 q names_law_read (Cr 24) (BT 24) E6 :=
 (AD (C7 1 rfl rfl (CN AJ))
 (AD (AO 2 rfl rfl AH)
 (AD (Dd (B5 0) (AU (AB 2 rfl) (BF T.G T.len rfl (AB 0 rfl) By (.inl ⟨_, rfl⟩)) Fq)
 (AD (Qv 3 rfl rfl (CS.of (ys := ["at", "text"]) (idx := [2, 0]) rfl) (Jk T.G T.rng rfl (AC (AQ (AB 2 rfl) AH AX) (AC (AQ (BF T.G T.len rfl (AB 0 rfl) By (.inl ⟨_, rfl⟩)) AH AX) AJ)) (fun _ _ => rfl)) (AU (As T.G T.k_law_sort.fn T.k_law_sort.nm rfl HF IA (IR T) (by exact Tv _) (Ay (An (AB 2 rfl) (Af (AB 1 rfl)) (Af (AB 0 rfl))) Am)) AE B3) Qo)
 (AD (Ae (AU (AB 3 rfl) (A7 AJ) Au)
 (AD (AO 4 rfl rfl (CI (AU (AP (AB 0 rfl) (AB 2 rfl)) AE Au) AE (AQ (AQ AE (AP (AB 0 rfl) (AB 2 rfl)) AX) AE AX)))
 (AD (AW (AQ (AL (AC (AB 4 rfl) AJ)) (As T.G T.k_law_place.fn T.k_law_place.nm rfl Cm DC (DF T) (by exact Tv _) (Ay (An (AB 0 rfl) Bd (Af (AB 2 rfl))) Am)) AX))
 AI))
 AI)
 (AD (AO 5 rfl rfl (An (AB 0 rfl) (Af (AB 2 rfl)) (Af (AP (AB 3 rfl) (Eh AH DK)))))
 (AD (AO 6 rfl rfl (As T.G T.k_law_sort.fn T.k_law_sort.nm rfl HF IA (IR T) (by exact Tv _) (Ay (AB 5 rfl) Am)))
 (AD (Ae (AU (AB 6 rfl) AE B3)
 (AD (Ax 1 rfl (AQ (AL (AC (AB 6 rfl) (AC (CI (AU (AB 6 rfl) AE Au) (An (AB 5 rfl) (Af AH) (Af (Eh AH DK))) (AB 5 rfl)) AJ))) (As T.G T.k_law_place.fn T.k_law_place.nm rfl Cm DC (DF T) (by exact Tv _) (Ay (An (AB 0 rfl) Bd (Af (AB 2 rfl))) Am)) AX))
 AI)
 AI)
 (AD (AO 2 rfl rfl (AP (AB 3 rfl) (Eh AH DK)))
 AI)))))))
 (JJ 1 (AD (AW (AQ (AB 1 rfl) (A7 (AC (AQ (AL (AC AE (AC AE AJ))) (As T.G T.k_law_place.fn T.k_law_place.nm rfl Cm DC (DF T) (by exact Tv _) (Ay (AB 0 rfl) Am)) AX) AJ)) AX))
 AI)))))
theorem Fs (T : TF prog w H C mg mb K W fB fW) : SB prog w H C 5 false BD (Cr 25) (BT 25) CG :=
 (AD (Qf T.xe T.bad rfl rfl (As T.G T.k_read_tokens.fn T.k_read_tokens.nm rfl Ie J4 (I5 T) (by exact Tv _) (Ay (AB 0 rfl) Am)))
 AI)
theorem Lg (T : TF prog w H C mg mb K W fB fW) : SB prog w H C 6 false BQ (Cr 26) (BT 26) CT :=
 (AD (Qf T.xe T.bad rfl rfl (As T.G T.k_expand.fn T.k_expand.nm rfl NP Oz (Ol T) (by exact Tv _) (Ay (AB 0 rfl) Am)))
 AI)
theorem FJ (T : TF prog w H C mg mb K W fB fW) : SB prog w H C 6 false A8 (Cr 27) (BT 27) Be :=
 (AD (C7 0 rfl rfl (CN (AC (AL (AC AE (AC (EU T rfl) (AC AH (AC AH AJ))))) AJ)))
 (AD (AO 1 rfl rfl (EU T rfl))
 (AD (Fp (E3 (FS T rfl) (.inl fun _ _ => rfl)) (BX (C := C) 2 rfl rfl)
 (AD (Ax 0 rfl (AL (AC AE (AC (AB 2 rfl) (AC AH (AC (AQ (BF T.G T.len rfl (AB 1 rfl) By (.inl ⟨_, rfl⟩)) AH AX) AJ))))))
 (AD (AO 1 rfl rfl (AQ (AQ (AB 1 rfl) AE AX) (AB 2 rfl) AX))
 AI)))
 (AD (Ax 0 rfl (AL (AC AE (AC AE (AC AH (AC (AQ (BF T.G T.len rfl (AB 1 rfl) By (.inl ⟨_, rfl⟩)) AH AX) AJ))))))
 (JJ 0 (AD (AW (Gm (As T.G T.k_law_told.fn T.k_law_told.nm rfl E5 Fc (Fs T) (by exact Tv _) (Ay (AB 1 rfl) Am)) (AB 0 rfl) Au))
 AI))))))
theorem LS (T : TF prog w H C mg mb K W fB fW) : SB prog w H C 0 q Bj (Cr 28) (BT 28) f_law_items :=
 (AD (C7 2 rfl rfl (CN AJ))
 (AD (Fp (Jk T.G T.rng rfl (AC (AB 1 rfl) AJ) (fun _ _ => rfl)) (BX (C := C) 3 rfl rfl)
 (AD (AO 4 rfl rfl (AQ (AB 0 rfl) AH Dm))
 (AD (AO 5 rfl rfl (AL (AC AE (AC (AQ (AP AE (AQ (AQ (AB 0 rfl) AH E9) AH Dm)) (CI (AU (AB 4 rfl) AH Au) AE AE) AX) AJ))))
 (AD (AO 0 rfl rfl (AQ (AB 0 rfl) AH E9))
 (AD (Ae (AU (AB 4 rfl) AH Fq)
 (AD (Bs 2 rfl (A7 (AC (AL (AC AE (AC AE AJ))) (AC (AB 5 rfl) AJ))))
 AI)
 (AD (Ae (AU (AB 4 rfl) AH Au)
 (AD (Ax 2 rfl (AL (AC AE (AC AE AJ))))
 AI)
 (AD (Ae (AU (AB 4 rfl) AH Au)
 (AD (Bs 2 rfl (A7 (AC (AL (AC AE (AC AE AJ))) (AC (AL (AC AE (AC AE AJ))) (AC (AL (AC AE (AC AE AJ))) (AC (AL (AC AE (AC AE AJ))) (AC (AB 5 rfl) (AC (AL (AC AE (AC AE AJ))) AJ))))))))
 (AD (Bs 2 rfl (A7 (AC (AL (AC AE (AC AE AJ))) (AC (AL (AC AE (AC AE AJ))) (AC (AL (AC AE (AC AE AJ))) AJ)))))
 AI))
 (AD (Ae (AU (AB 4 rfl) AH Au)
 (AD (Bs 2 rfl (A7 (AC (AL (AC AE (AC AE AJ))) (AC (AL (AC AE (AC AE AJ))) (AC (AL (AC AE (AC AE AJ))) AJ)))))
 AI)
 (AD (Ae (AU (AB 4 rfl) AH Au)
 (AD (Ax 2 rfl (AL (AC AE (AC AE AJ))))
 AI)
 (AD (Bs 2 rfl (A7 (AC (AL (AC AE (AC AE AJ))) (AC (AL (AC AE (AC AE AJ))) AJ))))
 AI))
 AI))
 AI))
 AI))
 AI))
 AI)))))
 (AD (Bq 2 rfl)
 AI)))
theorem Md (T : TF prog w H C mg mb K W fB fW) : SB prog w H C 1 q BV (Cr 29) (BT 29) Cs :=
 (AD (AO 1 rfl rfl (AQ (AB 0 rfl) AH Dm))
 (AD (AO 2 rfl rfl (AQ (AQ (AB 0 rfl) AH E9) AH Dm))
 (AD (C7 3 rfl rfl (RE T.G T.k_law_items.fn T.k_law_items.nm rfl KZ Ld (LS T) (by exact Tv _) (Ay (AQ (AQ (AB 0 rfl) (AQ AH AH Nb) E9) (AQ AH AH Nb) Dm) (Ay (AQ AH (AQ (AQ (AB 0 rfl) AH E9) AH Dm) AX) Am))))
 (AD (Ae (AU (AB 2 rfl) AH Au)
 (AD (C7 3 rfl rfl (CN AJ))
 AI)
 (AD (Ae (AU (AB 2 rfl) AH Au)
 (AD (Ax 3 rfl (AL (AC AE (AC AE AJ))))
 AI)
 AI)
 AI))
 (JJ 3 (AD (AO 4 rfl rfl (A7 (AC (AL (AC AE (AC (AP AE (AQ (AQ (AB 0 rfl) AH E9) AH Dm)) AJ))) AJ)))
 (AD (Ae (AU (AB 1 rfl) AH Fq)
 (AD (AW (A7 (AC (AL (AC (A7 AJ) (AC (AB 3 rfl) (AC (AB 4 rfl) AJ)))) AJ)))
 AI)
 AI)
 (AD (AO 5 rfl rfl (AL (AC (CI (AU (AB 2 rfl) AH Au) AE AE) (AC (AP AE (AQ (AQ (AB 0 rfl) AH E9) AH Dm)) AJ))))
 (AD (AO 6 rfl rfl (A7 (AC (AL (AC AE (AC AE AJ))) (AC (AB 5 rfl) (AC (AL (AC AE (AC (CI (AU (AB 2 rfl) AH Au) AE AE) AJ))) AJ)))))
 (AD (Ae (AU (AB 1 rfl) AH Fq)
 (AD (AW (A7 (AC (AL (AC (AB 6 rfl) (AC (AB 3 rfl) (AC (AB 4 rfl) AJ)))) AJ)))
 AI)
 AI)
 (AD (AO 7 rfl rfl (AQ (A7 (AC (AL (AC AE (AC AE AJ))) AJ)) (CI (AU (AQ (AQ (AB 0 rfl) AH E9) AH Dm) AH Au) (AB 4 rfl) (A7 AJ)) AX))
 (AD (AW (A7 (AC (AL (AC (A7 AJ) (AC (A7 (AC (AL (AC AE (AC AE AJ))) AJ)) (AC (A7 AJ) AJ)))) (AC (AL (AC (AB 6 rfl) (AC (AB 3 rfl) (AC (AB 7 rfl) AJ)))) AJ))))
 AI))))))))))))
theorem J6 (T : TF prog w H C mg mb K W fB fW) : SB prog w H C 2 q Bf (Cr 30) (BT 30) Db :=
 (AD (AO 1 rfl rfl (AL (AC AE (AC AE AJ))))
 (AD (C7 2 rfl rfl (CN (AC (AL (AC (A7 (AC (AL (AC AE (AC AE AJ))) (AC (AL (AC AE (AC AE AJ))) (AC (AB 1 rfl) AJ)))) (AC (A7 (AC (AL (AC AE (AC AE AJ))) AJ)) (AC (A7 (AC (AL (AC AE (AC AE AJ))) AJ)) AJ)))) AJ)))
 (AD (AO 3 rfl rfl (A7 (AC (AL (AC AE (AC AE AJ))) (AC (AL (AC AE (AC AE AJ))) (AC (AL (AC AE (AC AE AJ))) (AC (AL (AC AE (AC AE AJ))) (AC (AL (AC AE (AC AE AJ))) AJ)))))))
 (AD (Ax 2 rfl (AL (AC (A7 (AC (AL (AC AE (AC AE AJ))) (AC (AL (AC AE (AC AE AJ))) (AC (AB 1 rfl) AJ)))) (AC (AB 3 rfl) (AC (A7 (AC (AL (AC AE (AC AE AJ))) AJ)) AJ)))))
 (AD (Ax 2 rfl (AL (AC (A7 AJ) (AC (A7 (AC (AL (AC AE (AC AE AJ))) (AC (AL (AC AE (AC AE AJ))) (AC (AL (AC AE (AC AE AJ))) (AC (AL (AC AE (AC AE AJ))) AJ))))) (AC (A7 (AC (AL (AC AE (AC AE AJ))) AJ)) AJ)))))
 (AD (Fp (E3 (AB 0 rfl) (.inl fun _ _ => rfl)) (BX (C := C) 4 rfl rfl)
 (AD (Bs 2 rfl (As T.G T.k_law_rows.fn T.k_law_rows.nm rfl Lj NC (Md T) (by exact Tv _) (Ay (AB 4 rfl) Am)))
 AI))
 (AD (Ga (RJ 2 rfl (Eh AH DK)) (Fu (C := C) (BS (C := C) (BX (C := C) 5 rfl rfl) (BS (C := C) (BX (C := C) 6 rfl rfl) (BS (C := C) (BX (C := C) 7 rfl rfl) (EI (C := C)))))))
 (AD (RX 2 rfl (Eh AH DK) (AL (AC (AB 5 rfl) (AC (AB 6 rfl) (AC (LZ (CS.of (ys := []) (idx := []) rfl) (E3 (AB 7 rfl) (.inl fun _ _ => rfl)) (AU (AP (AB 0 rfl) AH) AE B3)) AJ)))))
 (AD (Bq 2 rfl)
 AI)))))))))
theorem Jx (T : TF prog w H C mg mb K W fB fW) : SB prog w H C 1 q BI (Cr 31) (BT 31) CK :=
 (AD (AO 1 rfl rfl AE)
 (AD (Nm 2 rfl rfl)
 (AD (Fp (Nz (AB 0 rfl)) (Fu (C := C) (BS (C := C) (BX (C := C) 3 rfl rfl) (BS (C := C) (BX (C := C) 4 rfl rfl) (BS (C := C) (BX (C := C) 5 rfl rfl) (EI (C := C))))))
 (AD (C7 6 rfl rfl (CN AJ))
 (AD (Fp (Nz (AQ (AQ (AB 3 rfl) (AB 4 rfl) AX) (AB 5 rfl) AX)) (Fu (C := C) (BS (C := C) (BX (C := C) 7 rfl rfl) (BS (C := C) (BX (C := C) 8 rfl rfl) (EI (C := C)))))
 (AD (Ae (AU (AB 8 rfl) AE Au)
 (AD (AO 1 rfl rfl (AQ (AB 1 rfl) AE AX))
 AI)
 AI)
 (AD (Ax 6 rfl (AQ (AL (AC (AB 7 rfl) (AC (AB 8 rfl) AJ))) (As T.G T.k_law_place.fn T.k_law_place.nm rfl Cm DC (DF T) (by exact Tv _) (Ay (AB 1 rfl) Am)) AX))
 (AD (AO 1 rfl rfl (AQ (AB 1 rfl) (CI (AU (AB 7 rfl) AE Au) (AQ (AQ AE (AB 8 rfl) AX) AE AX) (AB 8 rfl)) AX))
 (AD (Ae (AU (AB 8 rfl) AE B3)
 (AD (AO 1 rfl rfl (AQ (AB 1 rfl) AE AX))
 AI)
 AI)
 AI)))))
 (AD (Nc 2 6 rfl rfl)
 AI))))
 (AD (Pv 2 rfl (Eh AH DK) (AQ (AL (AC AE (AC AE AJ))) (As T.G T.k_law_place.fn T.k_law_place.nm rfl Cm DC (DF T) (by exact Tv _) (Ay (AB 1 rfl) Am)) AX))
 (Qk 2 (AD (AW (AL (AC (AB 1 rfl) (AC (AB 2 rfl) AJ))))
 AI))))))
theorem Dy (T : TF prog w H C mg mb K W fB fW) : SB prog w H C 0 q Ai (Cr 32) (BT 32) BR :=
 (AD (AO 2 rfl rfl (AQ (AQ AE (AP (AB 0 rfl) AH) AX) AE AX))
 (AD (Ae (AU (AP (AB 0 rfl) AH) AE Au)
 (AD (AO 2 rfl rfl AE)
 AI)
 (AD (Ae (AU (AP (AB 0 rfl) AH) AE Au)
 (AD (AO 2 rfl rfl (CI (AU (AP (AB 0 rfl) AH) AE Au) AE AE))
 AI)
 AI)
 AI))
 (AD (AW (AQ (AL (AC (AQ (AQ (AQ AE (AB 2 rfl) AX) AE AX) (AB 1 rfl) AX) AJ)) (An (AB 0 rfl) (Af AH) Bd) AX))
 AI)))
theorem IX (T : TF prog w H C mg mb K W fB fW) : SB prog w H C 1 q BL (Cr 33) (BT 33) CX :=
 (AD (C7 2 rfl rfl (CN AJ))
 (AD (AO 3 rfl rfl D7)
 (AD (OE (Qe T.G T.enm rfl (AB 0 rfl)) (BS (C := C) (BX (C := C) 4 rfl rfl) (BS (C := C) (BX (C := C) 5 rfl rfl) (EI (C := C)))) (fun _ => rfl) (fun _ => rfl)
 (AD (Ae (E1 (AB 3 rfl))
 (AD (Ae (AU (AP (AB 5 rfl) AH) AE B3)
 (AD (AW (As T.G T.k_law_fault.fn T.k_law_fault.nm rfl DX D0 (Dy T) (by exact Tv _) (Ay (AB 5 rfl) (Ay AE Am))))
 AI)
 AI)
 (AD (AO 6 rfl rfl (AP (M3 (AP (AB 5 rfl) AH) AE) AH))
 (AD (Ae (M0 true 1 rfl (AB 6 rfl))
 (AD (AW (AQ (AL (AC (AQ (AQ AE (AB 6 rfl) AX) AE AX) AJ)) (An (AB 5 rfl) (Af AH) Bd) AX))
 AI)
 AI)
 (AD (Bs 2 rfl (OQ 1 rfl (AB 6 rfl)))
 (AD (Ae (AU (AB 6 rfl) (AP (AB 5 rfl) AH) B3)
 (AD (Ax 2 rfl (AL (AC AE (AC AE (AC (AP (AB 5 rfl) AH) (AC (AQ (AP (AB 5 rfl) AH) (BF T.G T.len rfl (AB 6 rfl) By (.inl ⟨_, rfl⟩)) AX) AJ))))))
 (AD (Ax 2 rfl (AL (AC AE (AC (An (AP (AB 5 rfl) AH) (Af (AQ (BF T.G T.len rfl (AB 6 rfl) By (.inl ⟨_, rfl⟩)) AH AX)) Bd) (AC (AP (AB 5 rfl) AH) (AC (AQ (AQ (AP (AB 5 rfl) AH) (BF T.G T.len rfl (AB 6 rfl) By (.inl ⟨_, rfl⟩)) AX) AH AX) AJ))))))
 AI))
 AI)
 (AD (AO 3 rfl rfl D7)
 AI))))))
 (AD (Ae (AU (An (AB 5 rfl) Bd (Af AH)) (AL (AC AE (AC AE AJ))) B3)
 (AD (Ax 2 rfl (AB 5 rfl))
 AI)
 (AD (Ae (AU (AQ (AB 4 rfl) AH AX) (BF T.G T.len rfl (AB 0 rfl) By (.inl ⟨_, rfl⟩)) Au)
 (AD (AW (AQ (AL (AC AE AJ)) (An (AB 5 rfl) (Af AH) Bd) AX))
 AI)
 (AD (AO 3 rfl rfl D7)
 AI))
 AI))
 AI))
 AI))
 (AD (Bq 2 rfl)
 AI))))
theorem Ng (T : TF prog w H C mg mb K W fB fW) : SB prog w H C 2 q BU (Cr 34) (BT 34) Ct :=
 (AD (JV T.G 2 rfl rfl)
 (AD (C7 3 rfl rfl (CN AJ))
 (AD (OE (RF T.G T.zip rfl (AC (AB 0 rfl) (AC (AB 1 rfl) AJ))) (BS (C := C) (BX (C := C) 4 rfl rfl) (BS (C := C) (BX (C := C) 5 rfl rfl) (EI (C := C)))) (fun _ => rfl) (fun _ => rfl)
 (AD (Ga (AB 4 rfl) (Fu (C := C) (BS (C := C) (BX (C := C) 6 rfl rfl) (BS (C := C) (BX (C := C) 7 rfl rfl) (BS (C := C) (BX (C := C) 8 rfl rfl) (EI (C := C)))))))
 (AD (Ae (AU (AB 6 rfl) (A7 AJ) Au)
 (AD (AO 9 rfl rfl (As T.G T.k_law_flat.fn T.k_law_flat.nm rfl Gy IQ (IX T) (by exact Tv _) (Ay (AB 5 rfl) (FZ 2 rfl Am))))
 (AD (Ae (E1 (NI T.G T.isi T.tup rfl rfl (AB 9 rfl)))
 (AD (AW (AB 9 rfl))
 AI)
 AI)
 (AD (Bs 3 rfl (AB 9 rfl))
 (AD FP
 AI))))
 AI)
 (AD (AO 10 rfl rfl (AP (AP (AB 6 rfl) AH) AH))
 (AD (Ae (AU (AP (AP (AB 6 rfl) AH) AH) AE Au)
 (AD (AW (As T.G T.k_law_fault.fn T.k_law_fault.nm rfl DX D0 (Dy T) (by exact Nat.le_succ _) (Ay (AP (AB 5 rfl) AH) (Ay AE Am))))
 AI)
 AI)
 (AD (Ae (M0 false 2 rfl (AB 10 rfl))
 (AD (AW (AQ (AL (AC (AQ (AQ AE (AB 10 rfl) AX) AE AX) AJ)) (An (AP (AB 5 rfl) AH) (Af AH) Bd) AX))
 AI)
 AI)
 (AD (Ae (AU (AP (AP (AB 6 rfl) AH) AH) AE Au)
 (AD (AW (As T.G T.k_law_fault.fn T.k_law_fault.nm rfl DX D0 (Dy T) (by exact Nat.le_succ _) (Ay (AP (AB 5 rfl) AH) (Ay AE Am))))
 AI)
 AI)
 (AD (Ae (AU (AB 7 rfl) (A7 AJ) Au)
 (AD (AW (As T.G T.k_law_fault.fn T.k_law_fault.nm rfl DX D0 (Dy T) (by exact Nat.le_succ _) (Ay (AP (AB 5 rfl) AH) (Ay AE Am))))
 AI)
 AI)
 (AD (AO 9 rfl rfl (As T.G T.k_law_flat.fn T.k_law_flat.nm rfl Gy IQ (IX T) (by exact Tv _) (Ay (An (AB 5 rfl) (Af AH) (Af (AQ AH (BF T.G T.len rfl (AB 7 rfl) By (.inl ⟨_, rfl⟩)) AX))) (FZ 2 rfl Am))))
 (AD (Ae (E1 (NI T.G T.isi T.tup rfl rfl (AB 9 rfl)))
 (AD (AW (AB 9 rfl))
 AI)
 AI)
 (AD (OC 2 rfl (AB 10 rfl) (AB 9 rfl))
 (AD (Bs 3 rfl (LZ (CS.of (ys := ["closing"]) (idx := [8]) rfl) (E3 (An (AB 5 rfl) (Af (AQ AH (BF T.G T.len rfl (AB 7 rfl) By (.inl ⟨_, rfl⟩)) AX)) Bd) (.inl fun _ _ => rfl)) (Bt (EO (AU (AP (AB 0 rfl) AH) AE B3) (EO (AU (AL (AC AE (AC AE AJ))) (AB 1 rfl) HP) CQ)))))
 AI))))))))))))
 (AD (Bq 3 rfl)
 AI))))
theorem Sw (T : TF prog w H C mg mb K W fB fW) : SB prog w H C 7 false DJ (Cr 35) (BT 35) OX :=
 (AD (AO 1 rfl rfl (An (AB 0 rfl) Bd (Af AH)))
 (AD (Fp (E3 (AQ (BF T.G T.lst rfl (LF T rfl) Q7 (.inr ⟨_, rfl⟩)) (Nf (CS.of (ys := []) (idx := []) rfl) (E3 (AB 1 rfl) (.inl fun _ _ => rfl)) (As T.G T.k_law_text.fn T.k_law_text.nm rfl LN Mz (M6 T) (by exact T6 _ _) (Ay (AB 0 rfl) Am))) AX) (.inl fun _ _ => rfl)) (BX (C := C) 2 rfl rfl)
 (AD (Ae (AU (As T.G T.k_law_told.fn T.k_law_told.nm rfl E5 Fc (Fs T) (by exact Nat.le_succ _) (Ay (AB 2 rfl) Am)) (As T.G T.k_law_read.fn T.k_law_read.nm rfl Lu Mp (Mg T) (by exact T6 _ _) (Ay (AB 2 rfl) Am)) B3)
 (AD (AW D7)
 AI)
 AI)
 AI))
 (AD (AO 3 rfl rfl (As T.G T.k_law_program.fn T.k_law_program.nm rfl Ih Ji (J6 T) (by exact T6 _ _) (Ay (AB 1 rfl) Am)))
 (AD (Ga (As T.G T.k_law_written.fn T.k_law_written.nm rfl Ij JP (Jx T) (by exact T6 _ _) (Ay (AB 3 rfl) Am)) (Fu (C := C) (BS (C := C) (BX (C := C) 2 rfl rfl) (BS (C := C) (BX (C := C) 4 rfl rfl) (EI (C := C))))))
 (AD (C7 5 rfl rfl (CN AJ))
 (AD (Fp (E3 (AB 4 rfl) (.inl fun _ _ => rfl)) (BX (C := C) 6 rfl rfl)
 (AD (Bs 5 rfl (AB 6 rfl))
 AI))
 (JJ 5 (AD (Ae (Bt (EO (AU (As T.G T.k_law_told.fn T.k_law_told.nm rfl E5 Fc (Fs T) (by exact Nat.le_succ _) (Ay (AB 2 rfl) Am)) (AB 5 rfl) B3) (EO (QS (E1 (PU T.G T.k_law_are_signs_read.fn T.k_law_are_signs_read.nm rfl FI (FJ T) (by exact Tv _)))) CQ)))
 (AD (AW D7)
 AI)
 AI)
 (AD (AW (Gm (As T.G T.k_law_grown.fn T.k_law_grown.nm rfl KV Lh (Lg T) (by exact Tv _) (Ay (AB 5 rfl) Am)) (As T.G T.k_law_due.fn T.k_law_due.nm rfl Mo NZ (Ng T) (by exact T6 _ _) (Ay (AB 3 rfl) (Ay (AB 4 rfl) Am))) Au))
 AI)))))))))
end Mine
namespace Mine
noncomputable abbrev T := List Nat
noncomputable def S (l : T) : Str := ⟨l.toArray⟩
noncomputable abbrev C1 (c : Nat) : Str := S [c]
theorem MH (l : T) : (S l).cps.toList = l := rfl
theorem Ds (l : T) : (S l).length = l.length := by show l.toArray.size = _; simp
theorem QA {a b : T} : S a = S b ↔ a = b := ⟨fun h => by have := congrArg (fun s : Str => s.cps.toList) h; exact this, fun h => h ▸ rfl⟩
theorem S_beq (a b : T) : (S a == S b) = decide (a = b) := by
 rw [show (S a == S b) = decide (S a = S b) from rfl]; exact decide_eq_decide.mpr QA
theorem S_bne (a b : T) : (S a != S b) = !decide (a = b) := by rw [bne, S_beq]
theorem S_app (a b : T) : S a ++ S b = S (a ++ b) := by show (⟨a.toArray ++ b.toArray⟩ : Str) = _; rw [S]; simp
theorem bind_ok' {α β : Type} (a : α) (f : α → Res β) : (Res.ok a).bind f = f a := rfl
theorem szl : sizeLine = 16777216 := rfl
theorem small (n : Nat) (h : n ≤ 16777216) : ((n : Int)).natAbs < 2 ^ 62 := by
 rw [Int.natAbs_natCast]; lia
theorem at?_nat {α : Type} (l : List α) (n : Nat) : at? l (n : Int) = l[n]? := by
 unfold at?; rw [Tl (Int.natCast_nonneg n), Int.toNat_natCast]
theorem opItem_at {x : T} {n c : Nat} (h : x[n]? = some c) (hx : x.length ≤ sizeLine) : AG (.str (S x)) (.int n) = .ok (.str (C1 c)) := by
 have hn : n < x.length := (UC.mp h).1
 show (if _ then _ else _) = _
 rw [Tl (small n (by have := szl; lia)), MH, at?_nat, h]; rfl
theorem opLen_S {x : T} (hx : x.length ≤ sizeLine) : Ar (.str (S x)) = .ok (.int x.length) := by
 show (if _ then _ else _) = _
 rw [Ds, Tl hx]
theorem opCut_S (lo hi : Option Int) {x : T} (hx : x.length ≤ sizeLine) : AY lo hi (.str (S x)) = .ok (.str (S (cut lo hi x))) := by
 show (if _ then _ else _) = _
 rw [MH, Tl hx]; rfl
noncomputable def Rz : T := [97, 98, 99, 100, 101, 102, 103, 104, 105, 106, 107, 108, 109, 110, 111, 112, 113, 114, 115, 116, 117, 118, 119, 120, 121, 122, 65, 66, 67, 68, 69, 70, 71, 72, 73, 74, 75, 76, 77, 78, 79, 80, 81, 82, 83, 84, 85, 86, 87, 88, 89, 90, 48, 49, 50, 51, 52, 53, 54, 55, 56, 57, 95, 46, 58, 42, 43, 45, 47]
noncomputable def isW (c : Nat) : Bool := decide (c ∈ Rz)
theorem SY : CE = .str (S Rz) := by unfold CE; kernel_rfl
theorem GG (c : Nat) : AN Br A3 1 [.d (.str (C1 c))] = .ok (.ret (.val (.bool (isW c)))) := by kernel_rfl
theorem clipAt_nat (k n : Nat) (h : n ≤ k) : clipAt k (n : Int) = n := by unfold clipAt; rw [Tm (by lia)]; lia
theorem whileM_stop {t : Loc → Res Bool} {f : Loc → Res (Fl × Loc)} {l : Loc} (k : Nat) (h : t l = .ok false) : Ao t f (k + 1) l = .ok (.next, l) := by
 rw [Ao, h]; rfl
theorem whileM_go {t : Loc → Res Bool} {f : Loc → Res (Fl × Loc)} {l l' : Loc} {fl : Fl} (k : Nat) (h : t l = .ok true) (hf : f l = .ok (fl, l')) (hfl : fl = .next ∨ fl = .cont) : Ao t f (k + 1) l = Ao t f k l' := by
 rw [Ao, h, bind_ok', Tl rfl, hf]; rcases hfl with rfl | rfl <;> rfl
theorem DQ {t : Loc → Res Bool} {f : Loc → Res (Fl × Loc)} {l : Loc} {x : Dr} (k : Nat) (h : t l = .ok true) (hf : f l = .exc x) : Ao t f (k + 1) l = .exc x := by
 rw [Ao, h, bind_ok', Tl rfl, hf]; rfl
theorem whileM_ret {t : Loc → Res Bool} {f : Loc → Res (Fl × Loc)} {l l' : Loc} {r : RV} (k : Nat) (h : t l = .ok true) (hf : f l = .ok (.ret r, l')) : Ao t f (k + 1) l = .ok (.ret r, l') := by
 rw [Ao, h, bind_ok', Tl rfl, hf]; rfl
theorem seq_next {f g : Loc → Res (Fl × Loc)} {l l' : Loc} (h : f l = .ok (.next, l')) : AK f g l = g l' := by unfold AK; rw [h]; rfl
theorem seq_exc {f g : Loc → Res (Fl × Loc)} {l : Loc} {x : Dr} (h : f l = .exc x) : AK f g l = .exc x := by unfold AK; rw [h]; rfl
theorem seq_ret {f g : Loc → Res (Fl × Loc)} {l l' : Loc} {r : RV} (h : f l = .ok (.ret r, l')) : AK f g l = .ok (.ret r, l') := by unfold AK; rw [h]; rfl
theorem M1 {f g : Loc → Res (Fl × Loc)} {l l' : Loc} (h : f l = .ok (.cont, l')) : AK f g l = .ok (.cont, l') := by unfold AK; rw [h]; rfl
theorem OV {fk fv : Loc → Res D} {l : Loc} {i k : Nat} {kvs : List (Str × D)} {d : D} {w : Str} (hg : Ib l i = .ok (k, kvs)) (hv : fv l = .ok d) (hk : fk l = .ok (.str w)) (hn : (B4 kvs w).isSome = false) (hl : kvs.length ≤ sizeLine) :
  Hd i fk fv l = .ok (.next, l.setc k (.dict (kvs ++ [(w, d)]))) := by
 unfold Hd; rw [hg, bind_ok', hv, bind_ok', hk]; exact Tl ⟨hn, hl⟩
theorem seq_nop {f : Loc → Res (Fl × Loc)} {l : Loc} : AK f AT l = f l := by
 unfold AK
 cases f l with
 | fail => rfl
 | exc x => rfl
 | ok p => obtain ⟨fl, l'⟩ := p; cases fl <;> rfl
theorem if_t {t : Loc → Res Bool} {f g : Loc → Res (Fl × Loc)} {l : Loc} {b : Bool} (h : t l = .ok b) (hb : b = true) : Bl t f g l = f l := by unfold Bl; rw [h, hb]; rfl
theorem if_f {t : Loc → Res Bool} {f g : Loc → Res (Fl × Loc)} {l : Loc} {b : Bool} (h : t l = .ok b) (hb : b = false) : Bl t f g l = g l := by unfold Bl; rw [h, hb]; rfl
theorem and_t {f g : Loc → Res Bool} {l : Loc} (h : f l = .ok true) : Ca f g l = g l := by unfold Ca; rw [h]; rfl
theorem and_f {f g : Loc → Res Bool} {l : Loc} (h : f l = .ok false) : Ca f g l = .ok false := by unfold Ca; rw [h]; rfl
theorem or_t {f g : Loc → Res Bool} {l : Loc} (h : f l = .ok true) : Hs f g l = .ok true := by unfold Hs; rw [h]; rfl
theorem or_f {f g : Loc → Res Bool} {l : Loc} (h : f l = .ok false) : Hs f g l = g l := by unfold Hs; rw [h]; rfl
theorem set_ok {f : Loc → Res D} {l : Loc} {i : Nat} {d : D} (h : f l = .ok d) : Aq i f l = .ok (.next, l.setv i (.d d)) := by unfold Aq; rw [h]; rfl
theorem Qp {f : Loc → Res D} {l : Loc} {i : Nat} {x : Dr} (h : f l = .exc x) : Aq i f l = .exc x := by unfold Aq; rw [h]; rfl
theorem app_ok {f : Loc → Res D} {l : Loc} {i k : Nat} {ts : List D} {d : D} (hc : Dk l i = .ok (k, ts)) (h : f l = .ok d) (ht : ts.length ≤ sizeLine) : Cw i f l = .ok (.next, l.setc k (.list (ts ++ [d]))) := by
 unfold Cw; rw [hc, bind_ok', h, bind_ok', Tl ht]
theorem ext_ok {f : Loc → Res D} {l : Loc} {i k : Nat} {ts ds : List D} (hc : Dk l i = .ok (k, ts)) (h : f l = .ok (.list ds)) (ht : ts.length + ds.length ≤ sizeLine) : EE i f l = .ok (.next, l.setc k (.list (ts ++ ds))) := by
 unfold EE; rw [hc, bind_ok', h]; exact Tl ht
theorem QJ {g : Loc → Res (Fl × Loc)} {names' : List Str} {n i k : Nat} {fa : Loc → Res (List D)} {l : Loc} {ts ts' ds : List D} {vs : List (Option W)} {cs : List Cell} (hc : Dk l i = .ok (k, ts)) (h : fa l = .ok ds) (hn : ds.length + 1 = n)
  (hg : g (CH names' (.lst 0 :: ds.map .d) [.list ts]) = .ok (.next, ⟨vs, .list ts' :: cs⟩)) : Ow i g names' n fa l = .ok (.next, l.setc k (.list ts')) := by
 unfold Ow; rw [hc, bind_ok', h, bind_ok', Tl hn, hg]; rfl
theorem for_next {g : D → Loc → Res Loc} {f : Loc → Res (Fl × Loc)} {d : D} {es : List D} {l l' l2 : Loc} (hg : g d l = .ok l') (hf : f l' = .ok (.next, l2)) : BW g f (d :: es) l = BW g f es l2 := by
 rw [BW, hg, bind_ok', hf]; rfl
theorem M9 {g : D → Loc → Res Loc} {f : Loc → Res (Fl × Loc)} {d : D} {es : List D} {l l' l2 : Loc} (hg : g d l = .ok l') (hf : f l' = .ok (.cont, l2)) : BW g f (d :: es) l = BW g f es l2 := by
 rw [BW, hg, bind_ok', hf]; rfl
theorem HQ {g : D → Loc → Res Loc} {f : Loc → Res (Fl × Loc)} {d : D} {es : List D} {l l' l2 : Loc} {r : RV} (hg : g d l = .ok l') (hf : f l' = .ok (.ret r, l2)) : BW g f (d :: es) l = .ok (.ret r, l2) := by
 rw [BW, hg, bind_ok', hf]; rfl
theorem Lf {f : Loc → Res (List D)} {l : Loc} {i : Nat} {ds : List D} (h : f l = .ok ds) : FL i f l = .ok (.next, l.newc i .lst (.list ds)) := by unfold FL; rw [h]; rfl
theorem callF_ret {g : Loc → Res (Fl × Loc)} {names : List Str} {k : Nat} {us : List W} {fl : Fl} {l' : Loc} (h : g (CH names us []) = .ok (fl, l')) (hk : us.length = k) : AN g names k us = .ok fl := by unfold AN; rw [Tl hk, h]; rfl
theorem callF_exc {g : Loc → Res (Fl × Loc)} {names : List Str} {k : Nat} {us : List W} {x : Dr} (h : g (CH names us []) = .exc x) (hk : us.length = k) : AN g names k us = .exc x := by unfold AN; rw [Tl hk, h]; rfl
theorem opLt_len (a n : Nat) : (DI (.int a) (.int n)).bind AF = .ok (decide (a < n)) := by
 show Res.ok (decide ((a : Int) < (n : Int))) = _
 rw [decide_eq_decide.mpr Int.ofNat_lt]
noncomputable def rl (x : T) (at_ : Nat) : Loc := ⟨[some (.d (.str (S x))), some (.d (.int at_))], []⟩
theorem Lk (x : T) (hx : x.length ≤ sizeLine) : ∀ (r : T) (k at_ : Nat), r.length < k → x.drop at_ = r → at_ ≤ x.length →
  Ao D2 Dz k (rl x at_) = .ok (.next, rl x (at_ + (r.takeWhile isW).length)) := by
 intro r
 induction r with
 | nil =>
  intro k a hk hd ha
  obtain ⟨k, rfl⟩ : ∃ j, k = j + 1 := ⟨k - 1, by lia⟩
  refine whileM_stop k (and_f ?_)
  have : x.length ≤ a := by simpa using hd
  show (((Ar (.str (S x))).bind fun e => DI (.int a) e).bind AF) = _
  rw [opLen_S hx, bind_ok', opLt_len, Tq (by exact Nat.not_lt.mpr (by assumption))]
 | cons c r ih =>
  intro k a hk hd ha
  obtain ⟨k, rfl⟩ : ∃ j, k = j + 1 := ⟨k - 1, by simp at hk; lia⟩
  have hlt : a < x.length := by
   have := congrArg List.length hd; simp at this; lia
  have hc : x[a]? = some c := by rw [← UM, hd]; rfl
  have h1 : (((Ar (.str (S x))).bind fun e => DI (.int a) e).bind AF) = .ok true := by
   rw [opLen_S hx, bind_ok', opLt_len, Tp hlt]
  have h2 : (((((AG (.str (S x)) (.int a)).bind fun d => .ok (W.d d)).bind fun u => (Res.ok []).bind fun us => .ok (u :: us)).bind (AN Br A3 1)).bind Bb).bind AF = .ok (isW c) := by
   rw [opItem_at hc hx]
   show ((AN Br A3 1 [.d (.str (C1 c))]).bind Bb).bind AF = _
   rw [GG]; rfl
  cases hw : isW c with
  | false =>
   rw [hw] at h2
   refine (whileM_stop (t := D2) (f := Dz) (l := rl x a) k ((and_t h1).trans (and_f h2))).trans ?_
   rw [UJ, hw]; rfl
  | true =>
   rw [hw] at h2
   refine (whileM_go (t := D2) (f := Dz) (l := rl x a) k ((and_t h1).trans ((and_t h2))) (l' := rl x (a + 1)) (fl := .next) rfl (.inl rfl)).trans ?_
   rw [ih k (a + 1) (by simp at hk; assumption) (by rw [← T9, hd]; rfl) hlt, UJ, hw, Tl rfl, Ts, Nat.add_assoc, Nat.add_comm 1]
theorem P4 (x : T) (hx : x.length ≤ sizeLine) (a : Nat) (ha : a ≤ x.length) : AN F1 CJ 2 [.d (.str (S x)), .d (.int a)] = .ok (.ret (.val (.int ((a + ((x.drop a).takeWhile isW).length : Nat) : Int)))) :=
 callF_ret (l' := rl x (a + ((x.drop a).takeWhile isW).length)) ((seq_next (Lk x hx (x.drop a) (x.length + 2) a (by simp; lia) rfl ha)).trans rfl) rfl
end Mine
namespace Mine
theorem ls58 : ":" = S [58] := by kernel_rfl
theorem ls5858 : "::" = S [58, 58] := by kernel_rfl
theorem ls46 : "." = S [46] := by kernel_rfl
theorem ls47 : "/" = S [47] := by kernel_rfl
theorem ls0 : "" = S [] := by kernel_rfl
theorem Hc : "\n" = S [10] := by kernel_rfl
theorem ls34 : "\"" = S [34] := by kernel_rfl
noncomputable def tok (s w : Str) (r c : Int) : D := .tuple [.str s, .str w, .int r, .int c]
noncomputable def Al : Str := "sign"
noncomputable def Ac : Str := "word"
noncomputable def BH : Str := "end"
noncomputable def Ap : Str := "string"
noncomputable def CC : Str := "eof"
noncomputable def Dq : Str := "blank"
theorem Gt {α : Type} (n : Nat) (l : List α) (h : n ≤ l.length) : cut (some (n : Int)) none l = l.drop n := by
 unfold cut lowAt highAt
 simp only [Option.elim]
 rw [clipAt_nat _ _ h, UT (by simp)]
theorem P8 {α : Type} (n : Nat) (l : List α) (h : n ≤ l.length) : cut none (some (n : Int)) l = l.take n := by
 unfold cut lowAt highAt
 simp only [Option.elim]
 rw [clipAt_nat _ _ h, List.drop_zero, Nat.sub_zero]
theorem JW (k n : Nat) (h : k ≤ n) : clipAt k (n : Int) = k := by unfold clipAt; rw [Tm (by lia)]; lia
theorem Il {α : Type} (n : Nat) (l : List α) : cut none (some (n : Int)) l = l.take n := by
 by_cases h : n ≤ l.length
 ·exact P8 n l h
 ·unfold cut lowAt highAt
  simp only [Option.elim]
  rw [JW _ _ (by lia), List.drop_zero, Nat.sub_zero, List.take_length, UT (by lia)]
theorem Io {α : Type} (a b : Nat) (l : List α) (ha : a ≤ l.length) : cut (some (a : Int)) (some (b : Int)) l = (l.drop a).take (b - a) := by
 unfold cut lowAt highAt
 simp only [Option.elim]
 rw [clipAt_nat _ _ ha]
 by_cases h : b ≤ l.length
 ·rw [clipAt_nat _ _ h]
 ·rw [JW _ _ (by lia), UT (by simp), UT (by simp; lia)]
theorem FC (k n : Nat) (h : 0 < n) : clipAt k (-(n : Int)) = k - n := by unfold clipAt; rw [Tl (by lia)]; lia
theorem J5 {α : Type} (n : Nat) (h : 0 < n) (l : List α) : cut (some (-(n : Int))) none l = l.drop (l.length - n) := by
 unfold cut lowAt highAt
 simp only [Option.elim]
 rw [FC _ _ h, UT (by simp)]
theorem M4 {α : Type} (n : Nat) (h : 0 < n) (l : List α) : cut none (some (-(n : Int))) l = l.take (l.length - n) := by
 unfold cut lowAt highAt
 simp only [Option.elim]
 rw [FC _ _ h, List.drop_zero, Nat.sub_zero]
noncomputable def Aw (r : T) : Bool := decide (r.drop (r.length - 1) = [58]) && !decide (r.drop (r.length - 2) = [58, 58])
noncomputable def Ab (r : T) : Bool := decide (r.take 1 = [58]) && !decide (r.take 2 = [58, 58])
noncomputable def EB (r : T) (row col : Int) : List D := if r = [46] ∨ r = [47] then [tok Al (S r) row col] else if r = [] then [] else [tok Ac (S r) row col]
noncomputable def EY (r : T) (row col : Int) : List D := if Aw r then EB (r.take (r.length - 1)) row col ++ [tok Al (S [58]) row (col + (r.take (r.length - 1)).length)] else EB r row col
noncomputable def EA (r : T) (row col : Int) : List D := if Ab r then tok Al (S [58]) row col :: EY r.tail row (col + 1) else EY r row col
noncomputable def pr (run : T) (row col : Int) (ct : Option W) (ts : List D) : Loc := ⟨[some (.lst 0), some (.d (.str (S run))), some (.d (.int row)), some (.d (.int col)), ct], [.list ts]⟩
section
variable {run : T} {row col : Int} {ct : Option W} {ts : List D}
theorem TL (hr : run.length ≤ sizeLine) (ht : ts.length ≤ sizeLine) : HU (pr run row col ct ts) = .ok (.next, pr run.tail row (col + 1) ct (ts ++ [tok Al (S [58]) row col])) := by
 refine (seq_next (l' := pr run row col ct (ts ++ [tok Al ":" row col])) (show (if ts.length ≤ sizeLine then _ else _) = _ from Tl ht)).trans ?_
 rw [ls58]
 refine (seq_next (l' := pr run.tail row col ct (ts ++ [tok Al (S [58]) row col])) ?_).trans rfl
 show (AY (some ((1 : Nat) : Int)) none (.str (S run))).bind _ = _
 rw [opCut_S _ _ hr]
 cases run with
 | nil => rfl
 | cons a r => rw [Gt 1 _ (by simp)]; rfl
theorem TS (hr : run.length ≤ sizeLine) : HX (pr run row col ct ts) = .ok (.next, pr (run.take (run.length - 1)) row col ct ts) := by
 refine (seq_next (l' := pr (run.take (run.length - 1)) row col ct ts) ?_).trans rfl
 show (AY none (some (-((1 : Nat) : Int))) (.str (S run))).bind _ = _
 rw [opCut_S _ _ hr, M4 1 (by decide)]; rfl
theorem TE (ht : ts.length ≤ sizeLine) : HE (pr run row col ct ts) = .ok (.next, pr run row col ct (ts ++ [tok Ac (S run) row col])) :=
 (seq_next (l' := pr run row col ct (ts ++ [tok Ac (S run) row col])) (show (if ts.length ≤ sizeLine then _ else _) = _ from Tl ht)).trans rfl
theorem R1 (ht : ts.length ≤ sizeLine) : HB (pr run row col ct ts) = .ok (.next, pr run row col ct (ts ++ [tok Al (S run) row col])) :=
 (seq_next (l' := pr run row col ct (ts ++ [tok Al (S run) row col])) (show (if ts.length ≤ sizeLine then _ else _) = _ from Tl ht)).trans rfl
theorem TD (hr : run.length ≤ sizeLine) (ht : ts.length ≤ sizeLine) : HZ (pr run row col ct ts) = .ok (.next, pr run row col ct (ts ++ [tok Al (S [58]) row (col + run.length)])) := by
 refine (seq_next (l' := pr run row col ct (ts ++ [tok Al ":" row (col + run.length)])) ?_).trans (by rw [ls58]; rfl)
 unfold Cw
 show (Res.ok (0, ts)).bind _ = _
 rw [bind_ok']
 show ((((((((Ar (.str (S run))).bind fun e => AM (.int col) e).bind fun d => (Res.ok []).bind fun ds => .ok (d :: ds)).bind fun ds => .ok (.int row :: ds)).bind fun ds => .ok (.str ":" :: ds)).bind fun ds => Res.ok (.str "sign" :: ds)).bind AV).bind fun d => if ts.length ≤ sizeLine then Res.ok (Fl.next, (pr run row col ct ts).setc 0 (.list (ts ++ [d]))) else .fail) = _
 rw [opLen_S hr]
 exact Tl ht
theorem Rw (hr : run.length ≤ sizeLine) (ht : ts.length + 1 ≤ sizeLine) : G4 (pr run row col ct ts) = HT (pr run row col ct (ts ++ EB run row col)) := by
 have ht' : ts.length ≤ sizeLine := by exact Nat.le_of_succ_le (by assumption)
 refine seq_next ?_
 have h1 : (((getv (pr run row col ct ts) 1).bind fun d => (Res.ok (.str ".")).bind fun e => AZ d e).bind AF) = .ok (decide (run = [46])) := by
  show Res.ok (S run == ".") = _
  rw [ls46, S_beq]
 have h2 : (((getv (pr run row col ct ts) 1).bind fun d => (Res.ok (.str "/")).bind fun e => AZ d e).bind AF) = .ok (decide (run = [47])) := by
  show Res.ok (S run == "/") = _
  rw [ls47, S_beq]
 have h3 : (((getv (pr run row col ct ts) 1).bind fun d => (Res.ok (.str "")).bind fun e => A2 d e).bind AF) = .ok (!decide (run = [])) := by
  show Res.ok (S run != "") = _
  rw [ls0, S_bne]
 unfold EB
 by_cases c1 : run = [46]
 ·rw [Tl (.inl c1)]
  rw [Tp c1] at h1
  exact (if_t (or_t h1) rfl).trans (R1 ht')
 ·rw [Tq c1] at h1
  by_cases c2 : run = [47]
  ·rw [Tl (.inr c2)]
   rw [Tp c2] at h2
   exact (if_t ((or_f h1).trans (or_t h2)) rfl).trans (R1 ht')
  ·rw [Tm (fun z => z.elim c1 c2)]
   rw [Tq c2] at h2
   refine (if_f ((or_f h1).trans (or_f h2)) rfl).trans ?_
   ·by_cases c3 : run = []
    ·rw [Tl c3, UD]
     rw [Tp c3] at h3
     exact (seq_next (if_f h3 rfl)).trans rfl
    ·rw [Tm c3]
     rw [Tq c3] at h3
     exact (seq_next ((if_t h3 rfl).trans (TE ht'))).trans rfl
theorem Ph (hr : run.length ≤ sizeLine) (ht : ts.length + 2 ≤ sizeLine) : ∃ vs, HK (pr run row col ct ts) = .ok (.next, ⟨vs, [.list (ts ++ EY run row col)]⟩) := by
 have h1 : (Aq 4 (fun l => ((((getv l 1).bind fun d => (((Res.ok (.int 1)).bind Ck).bind Ah).bind fun lo => (Res.ok none).bind fun hi => AY lo hi d).bind fun d => (Res.ok (.str ":")).bind fun e => AZ d e).bind AF).bind fun b => if b then (((getv l 1).bind fun d => (((Res.ok (.int 2)).bind Ck).bind Ah).bind fun lo => (Res.ok none).bind fun hi => AY lo hi d).bind fun d => (Res.ok (.str "::")).bind fun e => A2 d e) else .ok (.bool false))) (pr run row col ct ts)
   = .ok (.next, pr run row col (some (.d (.bool (Aw run)))) ts) := by
  unfold Aq
  show (((((AY (some (-((1 : Nat) : Int))) none (.str (S run)))).bind fun d => (Res.ok (.str ":")).bind fun e => AZ d e).bind AF).bind fun b => if b then ((AY (some (-((2 : Nat) : Int))) none (.str (S run))).bind fun d => (Res.ok (.str "::")).bind fun e => A2 d e) else .ok (.bool false)).bind (fun d => Res.ok (Fl.next, (pr run row col ct ts).setv 4 (.d d))) = _
  rw [opCut_S _ _ hr, opCut_S _ _ hr, J5 1 (by decide), J5 2 (by decide), ls58, ls5858]
  unfold Aw
  show ((Res.ok (S (run.drop (run.length - 1)) == S [58])).bind fun b => if b = true then Res.ok (PyData.bool (S (run.drop (run.length - 2)) != S [58, 58])) else .ok (PyData.bool false)).bind (fun d => Res.ok (Fl.next, (pr run row col ct ts).setv 4 (.d d))) = _
  rw [S_beq, S_bne]
  cases decide (run.drop (run.length - 1) = [58]) <;> rfl
 unfold EY
 cases hl : Aw run with
 | false =>
  rw [hl] at h1
  refine ⟨(pr run row col (some (.d (.bool false))) ts).vars, (seq_next h1).trans ((seq_next (if_f rfl rfl)).trans ((Rw hr (by exact Nat.le_of_succ_le (by assumption))).trans ((seq_next (if_f rfl rfl)).trans ?_)))⟩
  simp only [Bool.false_eq_true, if_false]; rfl
 | true =>
  rw [hl] at h1
  have hm : (EB (run.take (run.length - 1)) row col).length ≤ 1 := by unfold EB; split; simp; split <;> simp
  have hr' : (run.take (run.length - 1)).length ≤ sizeLine := by rw [List.length_take]; lia
  refine ⟨(pr (run.take (run.length - 1)) row col (some (.d (.bool true))) ts).vars, (seq_next h1).trans ((seq_next ((if_t rfl rfl).trans (TS hr))).trans ((Rw hr' (by exact Nat.le_of_succ_le (by assumption))).trans ((seq_next ((if_t rfl rfl).trans (TD hr' (by rw [Tw]; lia)))).trans ?_)))⟩
  simp only [if_true, ← Tz]; rfl
theorem MY (hr : run.length ≤ sizeLine) (hne : run ≠ []) (ht : ts.length + 3 ≤ sizeLine) : ∃ vs, Fz (pr run row col none ts) = .ok (.next, ⟨vs, [.list (ts ++ EA run row col)]⟩) := by
 refine Sd (List.exists_cons_of_ne_nil hne) fun a r z2_ => ?_; obtain rfl := z2_
 have h1 : (((getv (pr (a :: r) row col none ts) 1).bind fun d => (Res.ok (.int 0)).bind fun e => AG d e).bind fun d => (Res.ok (.str ":")).bind fun e => AZ d e).bind AF = .ok (decide ((a :: r).take 1 = [58])) := by
  show ((AG (.str (S (a :: r))) (.int ((0 : Nat) : Int))).bind fun d => (Res.ok (.str ":")).bind fun e => AZ d e).bind AF = _
  rw [opItem_at (c := a) rfl hr, ls58]
  exact congrArg Res.ok (S_beq _ _)
 have h2 : (((getv (pr (a :: r) row col none ts) 1).bind fun d => (Res.ok none).bind fun lo => ((Res.ok (.int 2)).bind Ah).bind fun hi => AY lo hi d).bind fun d => (Res.ok (.str "::")).bind fun e => A2 d e).bind AF = .ok (!decide ((a :: r).take 2 = [58, 58])) := by
  show ((AY none (some ((2 : Nat) : Int)) (.str (S (a :: r)))).bind fun d => (Res.ok (.str "::")).bind fun e => A2 d e).bind AF = _
  rw [opCut_S _ _ hr, Il, ls5858]
  exact congrArg Res.ok (S_bne _ _)
 unfold EA Ab
 by_cases c1 : (a :: r).take 1 = [58]
 ·rw [Tp c1] at h1 ⊢
  by_cases c2 : (a :: r).take 2 = [58, 58]
  ·rw [Tp c2] at h2 ⊢
   refine xE (Ph (run := a :: r) (row := row) (col := col) (ct := none) hr (ts := ts) (by exact Nat.le_of_succ_le (by assumption))) fun vs e => ?_
   exact ⟨vs, (seq_next (if_f ((and_t h1).trans (and_f h2)) rfl)).trans e⟩
  ·rw [Tq c2] at h2 ⊢
   refine xE (Ph (run := r) (row := row) (col := col + 1) (ct := none) (ts := ts ++ [tok Al (S [58]) row col]) (by simp at hr; exact Nat.le_of_succ_le (by assumption)) (by rw [Tw]; simp; assumption)) fun vs e => ?_
   refine ⟨vs, (seq_next ((if_t ((and_t h1).trans ((and_t h2))) rfl).trans (TL hr (by exact T2 (T3 _ _) (by assumption))))).trans (e.trans ?_)⟩
   simp
 ·rw [Tq c1] at h1 ⊢
  refine xE (Ph (run := a :: r) (row := row) (col := col) (ct := none) hr (ts := ts) (by exact Nat.le_of_succ_le (by assumption))) fun vs e => ?_
  exact ⟨vs, (seq_next (if_f (and_f h1) rfl)).trans e⟩
end
end Mine
namespace Mine
theorem Q2 (c k : Nat) : (C1 c == S [k]) = decide (c = k) := by
 rw [S_beq]; exact decide_eq_decide.mpr ⟨fun h => by injection h, fun h => by rw [h]⟩
theorem neC (c k : Nat) : (C1 c != S [k]) = !decide (c = k) := by rw [bne, Q2]
theorem CM {x : T} {a c : Nat} {t : T} (h : x.drop a = c :: t) : x[a]? = some c ∧ a < x.length ∧ x.drop (a + 1) = t := by
 refine (KB (by rw [← UM, h]; rfl) ?_ (by rw [← T9, h]; rfl))
 have := congrArg List.length h; simp at this; lia
noncomputable def BA : T → Option Nat
 | [] => none
 | c :: r => if c = 10 then none else if c = 34 then some 0 else (BA r).map (· + 1)
noncomputable def sl (x : T) (at_ row col : Int) (b : Nat) : Loc := ⟨[some (.d (.str (S x))), some (.d (.int at_)), some (.d (.int row)), some (.d (.int col)), some (.d (.int b))], []⟩
theorem Id (x : T) (hx : x.length ≤ sizeLine) (at_ row col : Int) : ∀ (r : T) (k b : Nat), r.length < k → x.drop b = r → b ≤ x.length →
  match BA r with
  | some n => ∃ l, Ao f_string_end_t1 f_string_end_b2 k (sl x at_ row col b) = .ok (.ret (.val (.int ((b + n + 1 : Nat) : Int))), l)
  | none => ∃ b', Ao f_string_end_t1 f_string_end_b2 k (sl x at_ row col b) = .ok (.next, sl x at_ row col b') := by
 intro r
 induction r with
 | nil =>
  intro k b hk hd hb
  obtain ⟨k, rfl⟩ : ∃ j, k = j + 1 := ⟨k - 1, by lia⟩
  refine ⟨b, whileM_stop k (and_f ?_)⟩
  have : x.length ≤ b := by simpa using hd
  show (((Ar (.str (S x))).bind fun e => DI (.int b) e).bind AF) = _
  rw [opLen_S hx, bind_ok', opLt_len, Tq (by exact Nat.not_lt.mpr (by assumption))]
 | cons c r ih =>
  intro k b hk hd hb
  obtain ⟨k, rfl⟩ : ∃ j, k = j + 1 := ⟨k - 1, by simp at hk; lia⟩
  refine Ku (CM hd) fun hc hlt hr => ?_
  have h1 : (((Ar (.str (S x))).bind fun e => DI (.int b) e).bind AF) = .ok true := by
   rw [opLen_S hx, bind_ok', opLt_len, Tp hlt]
  have h2 : ((AG (.str (S x)) (.int b)).bind fun d => (Res.ok (.str "\n")).bind fun e => A2 d e).bind AF = .ok (!decide (c = 10)) := by
   rw [opItem_at hc hx, Hc]; exact congrArg Res.ok (neC c 10)
  have h3 : ((AG (.str (S x)) (.int b)).bind fun d => (Res.ok (.str "\"")).bind fun e => AZ d e).bind AF = .ok (decide (c = 34)) := by
   rw [opItem_at hc hx, ls34]; exact congrArg Res.ok (Q2 c 34)
  unfold BA
  by_cases c1 : c = 10
  ·rw [Tl c1]
   rw [Tp c1] at h2
   exact ⟨b, whileM_stop (t := f_string_end_t1) (l := sl x at_ row col b) k ((and_t h1).trans (and_f h2))⟩
  ·rw [Tm c1]
   rw [Tq c1] at h2
   have ht : f_string_end_t1 (sl x at_ row col b) = .ok true := (and_t h1).trans (and_t h2)
   by_cases c2 : c = 34
   ·rw [Tl c2]
    rw [Tp c2] at h3
    exact ⟨_, whileM_ret (t := f_string_end_t1) (f := f_string_end_b2) (l := sl x at_ row col b) k ht (seq_ret ((if_t h3 rfl).trans (seq_ret rfl)))⟩
   ·rw [Tm c2]
    rw [Tq c2] at h3
    have hb : f_string_end_b2 (sl x at_ row col b) = .ok (.next, sl x at_ row col (b + 1)) := (seq_next (if_f h3 rfl)).trans rfl
    have hw := whileM_go (t := f_string_end_t1) (f := f_string_end_b2) (l := sl x at_ row col b) k ht hb (.inl rfl)
    have := ih k (b + 1) (by simp at hk; assumption) hr hlt
    cases hs : BA r with
    | none => rw [hs] at this; refine xE this fun b' e => ?_; clear this; exact ⟨b', hw.trans e⟩
    | some n =>
     rw [hs] at this; refine xE this fun l e => ?_; clear this
     exact ⟨l, hw.trans (e.trans (by rw [Nat.add_assoc b 1 n, Nat.add_comm 1 n]))⟩
theorem M8 (x : T) (hx : x.length ≤ sizeLine) (a : Nat) (row col : Int) {c : Nat} {t : T} (ha : x.drop a = c :: t) : AN D3 names_string_end 4 [.d (.str (S x)), .d (.int a), .d (.int row), .d (.int col)] =
  match BA t with
  | some n => .ok (.ret (.val (.int ((a + n + 2 : Nat) : Int))))
  | none => .exc ("unterminated string", row, col) := by
 refine Ku (CM ha) fun _ hlt hr => ?_
 have h := Id x hx a row col t (x.length + 2) (a + 1) (by rw [← hr]; simp; lia) hr hlt
 have h0 : (Aq 4 fun l => (getv l 1).bind fun d => (Res.ok (.int 1)).bind fun e => AM d e) ⟨[some (.d (.str (S x))), some (.d (.int a)), some (.d (.int row)), some (.d (.int col)), none], []⟩ = .ok (.next, sl x a row col (a + 1)) := rfl
 cases hs : BA t with
 | none =>
  rw [hs] at h; refine xE h fun b' e => ?_; clear h
  exact callF_exc ((seq_next h0).trans ((seq_next e).trans rfl)) rfl
 | some n =>
  rw [hs] at h; refine xE h fun l e => ?_; clear h
  exact callF_ret (l' := l) ((seq_next h0).trans ((seq_ret e).trans (by rw [show a + 1 + n + 1 = a + n + 2 by lia]))) rfl
end Mine
namespace Mine
theorem SM : ";" = S [59] := by kernel_rfl
theorem Sj : "#" = S [35] := by kernel_rfl
theorem TQ : "\\" = S [92] := by kernel_rfl
noncomputable def twoL : List T := [[61, 61], [33, 61], [60, 61], [62, 61], [60, 60], [62, 62]]
noncomputable def oneL : T := [123, 125, 40, 41, 91, 93, 44, 61, 60, 62, 38, 124, 94, 33, 64, 36]
noncomputable def badSign (c : Nat) : Str := Str.ofString "unexpected character '" ++ C1 c ++ "'"
noncomputable def big (c : Nat) (t : T) (row col : Int) : Sum Str (Nat × List D × Bool) :=
 if c = 10 then .inr (1, [tok BH (S [10]) row col], true) else
 if c = 59 then .inr (1, [tok BH (S [59]) row col], false) else
 if c = 35 then .inr (1 + (t.takeWhile (· != 10)).length, [], false) else
 if c = 92 ∧ t.take 1 = [10] then .inr (2, [], true) else
 if c = 34 then (match BA t with | some n => .inr (n + 2, [tok Ap (S (t.take n)) row col], false) | none => .inl "unterminated string") else
 if isW c = true then .inr (((c :: t).takeWhile isW).length, EA ((c :: t).takeWhile isW) row col, false) else
 if (c :: t).take 2 ∈ twoL then .inr (2, [tok Al (S ((c :: t).take 2)) row col], false) else
 if c ∈ oneL then .inr (1, [tok Al (S [c]) row col], false) else
 if c ∈ [32, 9, 13] then .inr (1, [], false) else .inl (badSign c)
noncomputable def rt (x : T) (a : Nat) (row bg : Int) (sg cl bh : Option W) (ts : List D) : Loc := ⟨[some (.d (.str (S x))), some (.lst 0), some (.d (.int a)), some (.d (.int row)), some (.d (.int bg)), sg, cl, bh], [.list ts]⟩
noncomputable abbrev rp (x : T) (a : Nat) (row bg : Int) (c : Nat) (col : Int) (b : Nat) (ts : List D) : Loc := rt x a row bg (some (.d (.str (C1 c)))) (some (.d (.int col))) (some (.d (.int b))) ts
theorem strEnd_lt : ∀ {t : T} {n : Nat}, BA t = some n → n < t.length
 | [], _, h => by cases h
 | c :: r, n, h => by
  unfold BA at h
  split at h
  ·cases h
  ·split at h
   ·cases h; simp
   ·cases hr : BA r with
    | none => rw [hr] at h; cases h
    | some m => rw [hr] at h; cases h; have := strEnd_lt hr; simp; assumption
theorem takeWhile_len {p : Nat → Bool} : ∀ l : T, (l.takeWhile p).length ≤ l.length
 | [] => Tv _
 | a :: l => by rw [UJ]; split <;> simp [takeWhile_len l]
section
variable {x : T} {a : Nat} {row bg col : Int} {c : Nat} {t : T} {ts : List D}
theorem Oj (hx : x.length ≤ sizeLine) : ∀ (r : T) (k b : Nat), r.length < k → x.drop b = r → b ≤ x.length →
  Ao CZ f_read_tokens_b1 k (rp x a row bg c col b ts) = .ok (.next, rp x a row bg c col (b + (r.takeWhile (· != 10)).length) ts) := by
 intro r
 induction r with
 | nil =>
  intro k b hk hd hb
  obtain ⟨k, rfl⟩ : ∃ j, k = j + 1 := ⟨k - 1, by lia⟩
  refine whileM_stop k (and_f ?_)
  have : x.length ≤ b := by simpa using hd
  show (((Ar (.str (S x))).bind fun e => DI (.int b) e).bind AF) = _
  rw [opLen_S hx, bind_ok', opLt_len, Tq (by exact Nat.not_lt.mpr (by assumption))]
 | cons d r ih =>
  intro k b hk hd hb
  obtain ⟨k, rfl⟩ : ∃ j, k = j + 1 := ⟨k - 1, by simp at hk; lia⟩
  refine Ku (CM hd) fun hc hlt hr => ?_
  have h1 : (((Ar (.str (S x))).bind fun e => DI (.int b) e).bind AF) = .ok true := by
   rw [opLen_S hx, bind_ok', opLt_len, Tp hlt]
  have h2 : ((AG (.str (S x)) (.int b)).bind fun d => (Res.ok (.str "\n")).bind fun e => A2 d e).bind AF = .ok (!decide (d = 10)) := by
   rw [opItem_at hc hx, Hc]; exact congrArg Res.ok (neC d 10)
  rw [UJ]
  by_cases c1 : d = 10
  ·rw [Tp c1] at h2
   rw [c1]
   exact whileM_stop (t := CZ) (l := rp x a row bg c col b ts) k ((and_t h1).trans (and_f h2))
  ·rw [Tq c1] at h2
   rw [show (d != 10) = true from bne_iff_ne.mpr c1, Tl rfl]
   refine (whileM_go (t := CZ) (f := f_read_tokens_b1) (l := rp x a row bg c col b ts) (l' := rp x a row bg c col (b + 1) ts) (fl := .next) k ((and_t h1).trans (and_t h2)) rfl (.inl rfl)).trans ?_
   rw [ih k (b + 1) (by simp at hk; assumption) hr hlt, Ts, Nat.add_assoc, Nat.add_comm 1]
theorem Qi {k : Nat} {s : String} (hs : Str.ofString s = S [k]) (b : Nat) : (((getv (rp x a row bg c col b ts) 5).bind fun d => (Res.ok (.str (Str.ofString s))).bind fun e => AZ d e).bind AF) = .ok (decide (c = k)) := by
 rw [hs]; exact congrArg Res.ok (Q2 c k)
theorem Gk {l : T} (h : ∀ c ∈ l, c < 1114112) : SeqAt.shaped (.str (S l)) = true := by
 have : PyData.strOk (S l) = true := by
  unfold PyData.strOk S; simpa using h
 unfold SeqAt.shaped PyData.canLay0; rw [this]; rfl
noncomputable def Out (x : T) (a : Nat) (row bg : Int) (c : Nat) (col : Int) (ts : List D) (o : Sum Str (Nat × List D × Bool)) (r : Res (Fl × Loc)) : Prop := match o with
 | .inl w => r = .exc (w, row, col)
 | .inr (n, us, nl) => r = .ok (.next, rp x a (if nl then row + 1 else row) (if nl then ((a + n : Nat) : Int) else bg) c col (a + n) (ts ++ us))
theorem Out.of {o : Sum Str (Nat × List D × Bool)} {r r' : Res (Fl × Loc)} (h : r = r') (z : Out x a row bg c col ts o r') : Out x a row bg c col ts o r := h ▸ z
theorem Out.yes {p : Prop} [Decidable p] {o o' : Sum Str (Nat × List D × Bool)} {r : Res (Fl × Loc)} (h : p) (z : Out x a row bg c col ts o r) : Out x a row bg c col ts (if p then o else o') r := by rw [Tl h]; exact z
theorem Out.no {p : Prop} [Decidable p] {o o' : Sum Str (Nat × List D × Bool)} {r : Res (Fl × Loc)} (h : ¬ p) (z : Out x a row bg c col ts o' r) : Out x a row bg c col ts (if p then o else o') r := by rw [Tm h]; exact z
theorem Jp {xs : List D} {d : D} (h1 : SeqAt.shaped (.tuple xs) = true) (h2 : SeqAt.shaped d = true) : DM d (.tuple xs) = .ok (.bool (xs.any fun y => PyData.eqv y d)) := by
 have e : NO d (.tuple xs) = if SeqAt.shaped (.tuple xs) && SeqAt.shaped d then some (xs.any fun y => PyData.eqv y d) else none := by cases d <;> rfl
 unfold DM; rw [e, h1, h2]; rfl
theorem Sc (l : T) : ([.str "==", .str "!=", .str "<=", .str ">=", .str "<<", .str ">>"] : List D).any (fun y => PyData.eqv y (.str (S l))) = decide (l ∈ twoL) := by
 have e : ∀ (s : String) (k : T), Str.ofString s = S k → PyData.eqv (.str (Str.ofString s)) (.str (S l)) = decide (l = k) := fun s k h => by
  rw [h]; show (S k == S l) = _; rw [S_beq]; exact decide_eq_decide.mpr eq_comm
 simp only [List.any_cons, List.any_nil, e "==" [61, 61] (by kernel_rfl), e "!=" [33, 61] (by kernel_rfl), e "<=" [60, 61] (by kernel_rfl), e ">=" [62, 61] (by kernel_rfl), e "<<" [60, 60] (by kernel_rfl), e ">>" [62, 62] (by kernel_rfl)]
 unfold twoL
 simp only [T0, List.not_mem_nil, or_false, Bool.or_false, Bool.decide_or]
theorem PH : Out x a row bg c col ts (if c ∈ [32, 9, 13] then .inr (1, [], false) else .inl (badSign c)) (Eo (rp x a row bg c col (a + 1) ts)) := by
 have h : (((getv (rp x a row bg c col (a + 1) ts) 5).bind fun d => (Res.ok (.str " \t\r")).bind fun e => Dw d e).bind AF) = .ok (!decide (c ∈ [32, 9, 13])) := by kernel_rfl
 by_cases q : c ∈ [32, 9, 13]
 ·rw [Tp q] at h
  refine .yes q (.of (seq_nop.trans (if_f h rfl)) ?_)
  show Res.ok _ = Res.ok _
  rw [UD]; rfl
 ·rw [Tq q] at h
  refine .no q (.of (seq_nop.trans (if_t h rfl)) (seq_exc ?_))
  show ((((AM (.str "unexpected character '") (.str (C1 c))).bind fun d => (Res.ok (.str "'")).bind fun e => AM d e).bind fun d => (Res.ok [.int row, .int col]).bind fun ds => .ok (d :: ds)).bind EN).bind (fun x => Res.exc x) = _
  kernel_rfl
theorem Si (ht : ts.length + 3 ≤ sizeLine) : Out x a row bg c col ts (if c ∈ oneL then .inr (1, [tok Al (S [c]) row col], false) else if c ∈ [32, 9, 13] then .inr (1, [], false) else .inl (badSign c)) (Et (rp x a row bg c col (a + 1) ts)) := by
 have h : (((getv (rp x a row bg c col (a + 1) ts) 5).bind fun d => (Res.ok (.str "{}()[],=<>&|^!@$")).bind fun e => DM d e).bind AF) = .ok (decide (c ∈ oneL)) := by kernel_rfl
 by_cases q : c ∈ oneL
 ·rw [Tp q] at h
  exact .yes q (.of (seq_nop.trans ((if_t h rfl).trans (seq_next (app_ok (k := 0) (d := tok Al (C1 c) row col) rfl rfl (by exact T2 (T3 _ _) (by assumption)))))) rfl)
 ·rw [Tq q] at h
  exact .no q (.of (seq_nop.trans (if_f h rfl)) PH)
theorem cut_at (hx : x.length ≤ sizeLine) (hd : x.drop a = c :: t) (n : Nat) : AY (some (a : Int)) (some ((a + n : Nat) : Int)) (.str (S x)) = .ok (.str (S ((c :: t).take n))) := by
 rw [opCut_S _ _ hx, Io _ _ _ (by have := (CM hd).2.1; exact Nat.le_of_lt (by assumption)), hd, Nat.add_sub_cancel_left]
theorem SW (hx : x.length ≤ sizeLine) (hv : ∀ d ∈ x, d < 1114112) (hd : x.drop a = c :: t) (ht : ts.length + 3 ≤ sizeLine) :
  Out x a row bg c col ts (if (c :: t).take 2 ∈ twoL then .inr (2, [tok Al (S ((c :: t).take 2)) row col], false) else if c ∈ oneL then .inr (1, [tok Al (S [c]) row col], false) else if c ∈ [32, 9, 13] then .inr (1, [], false) else .inl (badSign c)) (Ep (rp x a row bg c col (a + 1) ts)) := by
 have hs : SeqAt.shaped (.str (S ((c :: t).take 2))) = true := Gk fun d z => hv d (UK (hd ▸ UU z))
 have h : ((AY (some (a : Int)) (some ((a + 2 : Nat) : Int)) (.str (S x))).bind fun d => (Res.ok (.tuple [.str "==", .str "!=", .str "<=", .str ">=", .str "<<", .str ">>"])).bind fun e => DM d e).bind AF = .ok (decide ((c :: t).take 2 ∈ twoL)) := by
  rw [cut_at hx hd, bind_ok', bind_ok', Jp (by decide +kernel) hs, Sc]; rfl
 by_cases q : (c :: t).take 2 ∈ twoL
 ·rw [Tp q] at h
  refine .yes q (.of (seq_nop.trans ((if_t h rfl).trans ((seq_next (set_ok (d := .int ((a + 2 : Nat) : Int)) rfl)).trans (seq_next (app_ok (k := 0) (d := tok Al (S ((c :: t).take 2)) row col) rfl ?_ (by exact T2 (T3 _ _) (by assumption))))))) rfl)
  show ((((AY (some (a : Int)) (some ((a + 2 : Nat) : Int)) (.str (S x))).bind fun d => (Res.ok [.int row, .int col]).bind fun ds => .ok (d :: ds)).bind fun ds => .ok (.str Al :: ds)).bind AV) = _
  rw [cut_at hx hd]; rfl
 ·rw [Tq q] at h
  exact .no q (.of (seq_nop.trans (if_f h rfl)) (Si ht))
theorem NU (run : T) (row col : Int) : (EA run row col).length ≤ 3 := by
 have h1 : ∀ (r : T) (a b : Int), (EB r a b).length ≤ 1 := fun r a b => by unfold EB; split; simp; split <;> simp
 have h2 : ∀ (r : T) (a b : Int), (EY r a b).length ≤ 2 := fun r a b => by
  unfold EY; split
  ·rw [Tw]; have := h1 (r.take (r.length - 1)) a b; simp; assumption
  ·have := h1 r a b; lia
 unfold EA; split
 ·have := h2 run.tail row (col + 1); simp; assumption
 ·have := h2 run row col; lia
theorem tw_take (p : Nat → Bool) : ∀ l : T, l.take (l.takeWhile p).length = l.takeWhile p
 | [] => rfl
 | a :: l => by
  rw [UJ]
  split
  ·rw [Ts, List.take_succ_cons, tw_take p l]
  ·rfl
theorem Qt (hx : x.length ≤ sizeLine) (hv : ∀ d ∈ x, d < 1114112) (hd : x.drop a = c :: t) (ht : ts.length + 3 ≤ sizeLine) :
  Out x a row bg c col ts (if isW c = true then .inr (((c :: t).takeWhile isW).length, EA ((c :: t).takeWhile isW) row col, false) else
   if (c :: t).take 2 ∈ twoL then .inr (2, [tok Al (S ((c :: t).take 2)) row col], false) else if c ∈ oneL then .inr (1, [tok Al (S [c]) row col], false) else if c ∈ [32, 9, 13] then .inr (1, [], false) else .inl (badSign c)) (f_read_tokens_b10 (rp x a row bg c col (a + 1) ts)) := by
 have h : ((AN Br A3 1 [.d (.str (C1 c))]).bind Bb).bind AF = .ok (isW c) := by rw [GG]; rfl
 by_cases q : isW c = true
 ·rw [q] at h
  have hlen : ((c :: t).takeWhile isW).length ≤ (c :: t).length := takeWhile_len _
  have hl : (c :: t).length ≤ x.length := by rw [← hd]; simp
  refine xE (MY (run := (c :: t).takeWhile isW) (row := row) (col := col) (ts := ts) (by lia) (by rw [UJ, q]; simp) ht) fun vs hp => ?_
  have hlt := (CM hd).2.1
  refine .yes q (.of (seq_nop.trans ((if_t h rfl).trans ((seq_next (set_ok (d := .int ((a + ((c :: t).takeWhile isW).length : Nat) : Int)) ?_)).trans (seq_next (QJ (k := 0) (ds := [.str (S ((c :: t).takeWhile isW)), .int row, .int col]) rfl ?_ rfl hp))))) rfl)
  ·show (AN F1 CJ 2 [.d (.str (S x)), .d (.int a)]).bind Bb = _
   rw [P4 x hx a (by exact Nat.le_of_lt (by assumption)), hd]; rfl
  ·show ((AY (some (a : Int)) (some ((a + ((c :: t).takeWhile isW).length : Nat) : Int)) (.str (S x))).bind fun d => (Res.ok [.int row, .int col]).bind fun ds => .ok (d :: ds)) = _
   rw [cut_at hx hd, tw_take]; rfl
 ·rw [Bool.not_eq_true] at q
  rw [q] at h
  exact .no (by rw [q]; exact UR) (.of (seq_nop.trans (if_f h rfl)) (SW hx hv hd ht))
end
end Mine
namespace Mine
section
variable {x : T} {a : Nat} {row bg col : Int} {c : Nat} {t : T} {ts : List D}
theorem big_eq : big c t row col =
 if c = 10 then .inr (1, [tok BH (S [10]) row col], true) else
 if c = 59 then .inr (1, [tok BH (S [59]) row col], false) else
 if c = 35 then .inr (1 + (t.takeWhile (· != 10)).length, [], false) else
 if c = 92 ∧ t.take 1 = [10] then .inr (2, [], true) else
 if c = 34 then (match BA t with | some n => .inr (n + 2, [tok Ap (S (t.take n)) row col], false) | none => .inl "unterminated string") else
 if isW c = true then .inr (((c :: t).takeWhile isW).length, EA ((c :: t).takeWhile isW) row col, false) else
 if (c :: t).take 2 ∈ twoL then .inr (2, [tok Al (S ((c :: t).take 2)) row col], false) else
 if c ∈ oneL then .inr (1, [tok Al (S [c]) row col], false) else
 if c ∈ [32, 9, 13] then .inr (1, [], false) else .inl (badSign c) := rfl
theorem Sy (hx : x.length ≤ sizeLine) (hv : ∀ d ∈ x, d < 1114112) (hd : x.drop a = c :: t) (ht : ts.length + 3 ≤ sizeLine) :
  Out x a row bg c col ts (big c t row col) (Bl (fun l => ((getv l 5).bind fun d => (Res.ok (.str "\n")).bind fun e => AZ d e).bind AF) C3 C4 (rp x a row bg c col (a + 1) ts)) := by
 obtain ⟨hc, hlt, hr⟩ := CM hd
 have ht' : ts.length ≤ sizeLine := by exact T2 (T3 _ _) (by assumption)
 rw [big_eq]
 by_cases c1 : c = 10
 ·subst c1
  exact .yes rfl (.of ((if_t (Qi Hc _) (Tp rfl)).trans ((seq_next (app_ok (k := 0) (d := tok BH (C1 10) row col) rfl rfl ht')).trans rfl)) rfl)
 refine .no c1 (.of (if_f (Qi Hc _) (Tq c1)) ?_)
 by_cases c2 : c = 59
 ·subst c2
  exact .yes rfl (.of (seq_nop.trans ((if_t (Qi SM _) (Tp rfl)).trans ((seq_next (app_ok (k := 0) (d := tok BH (C1 59) row col) rfl rfl ht')).trans rfl))) rfl)
 refine .no c2 (.of (seq_nop.trans (if_f (Qi SM _) (Tq c2))) ?_)
 by_cases c3 : c = 35
 ·refine .yes c3 (.of (seq_nop.trans ((if_t (Qi Sj _) (Tp c3)).trans (seq_nop.trans (Oj hx t (x.length + 2) (a + 1) (by rw [← hr]; simp; lia) hr hlt)))) ?_)
  show Res.ok _ = Res.ok _
  rw [UD, Nat.add_assoc]; rfl
 refine .no c3 (.of (seq_nop.trans (if_f (Qi Sj _) (Tq c3))) ?_)
 have h4 : Ca (fun l => ((getv l 5).bind fun d => (Res.ok (.str "\\")).bind fun e => AZ d e).bind AF) (fun l => Ca (fun l => (((getv l 0).bind fun d => ((getv l 7).bind Ah).bind fun lo => (((getv l 7).bind fun d => (Res.ok (.int 1)).bind fun e => AM d e).bind Ah).bind fun hi => AY lo hi d).bind fun d => (Res.ok (.str "\n")).bind fun e => AZ d e).bind AF) (fun l => Res.ok true) l) (rp x a row bg c col (a + 1) ts) = .ok (decide (c = 92 ∧ t.take 1 = [10])) := by
  by_cases q : c = 92
  ·refine (and_t ((Qi TQ _).trans (congrArg Res.ok (Tp q)))).trans ?_
   have e : ((AY (some ((a + 1 : Nat) : Int)) (some ((a + 1 + 1 : Nat) : Int)) (.str (S x))).bind fun d => (Res.ok (.str "\n")).bind fun e => AZ d e).bind AF = .ok (decide (t.take 1 = [10])) := by
    rw [opCut_S _ _ hx, Io _ _ _ (by exact Nat.succ_le_of_lt (by assumption)), hr, Nat.add_sub_cancel_left, Hc]; exact congrArg Res.ok (S_beq _ _)
   by_cases q' : t.take 1 = [10]
   ·rw [Tp (p := c = 92 ∧ _) ⟨q, q'⟩]
    rw [Tp q'] at e
    exact and_t e
   ·rw [Tq (p := c = 92 ∧ _) (fun z => q' z.2)]
    rw [Tq q'] at e
    exact and_f e
  ·rw [Tq (p := c = 92 ∧ _) (fun z => q z.1)]
   exact and_f ((Qi TQ _).trans (congrArg Res.ok (Tq q)))
 by_cases c4 : c = 92 ∧ t.take 1 = [10]
 ·refine .yes c4 (.of (seq_nop.trans ((if_t h4 (Tp c4)).trans (show _ = Res.ok (Fl.next, rp x a (row + 1) ((a + 2 : Nat) : Int) c col (a + 2) ts) from rfl))) ?_)
  show Res.ok _ = Res.ok _
  rw [UD]; rfl
 refine .no c4 (.of (seq_nop.trans (if_f h4 (Tq c4))) ?_)
 by_cases c5 : c = 34
 ·have he : (AN D3 names_string_end 4 [.d (.str (S x)), .d (.int a), .d (.int row), .d (.int col)]).bind Bb = _ := congrArg (fun r => Res.bind r Bb) (M8 x hx a row col hd)
  refine .yes c5 (.of (seq_nop.trans (if_t (Qi ls34 _) (Tp c5))) ?_)
  cases hs : BA t with
  | none =>
   rw [hs] at he
   exact seq_exc (Qp he)
  | some n =>
   rw [hs] at he
   refine (seq_next (set_ok he)).trans ((seq_next (app_ok (k := 0) (d := tok Ap (S (t.take n)) row col) rfl ?_ ht')).trans rfl)
   have e1 : (((a + n + 2 : Nat) : Int) - 1) = ((a + 1 + n : Nat) : Int) := by lia
   show ((((AY (some ((a + 1 : Nat) : Int)) (some (((a + n + 2 : Nat) : Int) - 1)) (.str (S x))).bind fun d => (Res.ok [.int row, .int col]).bind fun ds => .ok (d :: ds)).bind fun ds => .ok (.str Ap :: ds)).bind AV) = _
   rw [e1, opCut_S _ _ hx, Io _ _ _ (by exact Nat.succ_le_of_lt (by assumption)), hr, Nat.add_sub_cancel_left]; rfl
 refine .no c5 (.of (seq_nop.trans (if_f (Qi ls34 _) (Tq c5))) ?_)
 exact Qt hx hv hd ht
theorem S6 (hx : x.length ≤ sizeLine) (hv : ∀ d ∈ x, d < 1114112) (hd : x.drop a = c :: t) (ht : ts.length + 3 ≤ sizeLine) (sg cl bh : Option W) :
  match big c t row ((a : Int) - bg + 1) with
  | .inl w => BJ (rt x a row bg sg cl bh ts) = .exc (w, row, (a : Int) - bg + 1)
  | .inr (n, us, nl) => ∃ s1 s2 s3, BJ (rt x a row bg sg cl bh ts) = .ok (.next, rt x (a + n) (if nl then row + 1 else row) (if nl then ((a + n : Nat) : Int) else bg) s1 s2 s3 (ts ++ us)) := by
 have hc := (CM hd).1
 have h1 : BJ (rt x a row bg sg cl bh ts) = AK (Bl (fun l => ((getv l 5).bind fun d => (Res.ok (.str "\n")).bind fun e => AZ d e).bind AF) C3 C4) Eb (rp x a row bg c ((a : Int) - bg + 1) (a + 1) ts) :=
  (seq_next (set_ok (d := .str (C1 c)) (by show AG (.str (S x)) (.int a) = _; exact opItem_at hc hx))).trans ((seq_next (set_ok (d := .int ((a : Int) - bg + 1)) rfl)).trans ((seq_next (set_ok (d := .int ((a + 1 : Nat) : Int)) rfl)).trans rfl))
 have h2 := Sy (row := row) (bg := bg) (col := (a : Int) - bg + 1) hx hv hd ht
 rw [h1]
 generalize big c t row ((a : Int) - bg + 1) = o at h2 ⊢
 match o with
 | .inl w => exact seq_exc h2
 | .inr (n, us, nl) => exact (Ht _ _ _ ((seq_next h2).trans ((seq_next (set_ok (d := .int ((a + n : Nat) : Int)) rfl)).trans rfl)))
noncomputable def readG : Nat → T → Int → Int → List D → Res (List D × Int × Int)
 | 0, _, _, _, _ => .fail
 | _ + 1, [], row, col, ts => .ok (ts, row, col)
 | k + 1, c :: t, row, col, ts => match big c t row col with
  | .inl w => .exc (w, row, col)
  | .inr (n, us, nl) => readG k ((c :: t).drop n) (if nl then row + 1 else row) (if nl then 1 else col + n) (ts ++ us)
inductive BigOk (t : T) : Sum Str (Nat × List D × Bool) → Prop
 | inl {w : Str} : BigOk t (.inl w)
 | inr {n : Nat} {us : List D} {nl : Bool} (h1 : 1 ≤ n) (h2 : n ≤ t.length + 1) (h3 : us.length ≤ 3) : BigOk t (.inr (n, us, nl))
theorem E7 {t : T} {p : Prop} [Decidable p] {A B : Sum Str (Nat × List D × Bool)} (ha : p → BigOk t A) (hb : BigOk t B) : BigOk t (if p then A else B) := by
 by_cases q : p
 ·rw [Tl q]; exact ha q
 ·rw [Tm q]; exact hb
theorem bo1 {us : List D} {nl : Bool} (h : us.length ≤ 3) : BigOk t (.inr (1, us, nl)) := .inr (Tv _) (T6 ..) h
theorem bo2 {p : Prop} {us : List D} {nl : Bool} (hp : t = [] → ¬p) (h : us.length ≤ 3) : p → BigOk t (.inr (2, us, nl)) := fun q => by
 cases t with
 | nil => exact absurd q (hp rfl)
 | cons b t => exact .inr (by decide) (by simp) h
theorem So : ∀ o : Option Nat, (∀ m, o = some m → m < t.length) → BigOk t (match o with | some n => .inr (n + 2, [tok Ap (S (t.take n)) row col], false) | none => .inl "unterminated string")
 | none, _ => .inl
 | some m, h => by have := h m rfl; exact .inr (by exact T6 _ _) (by lia) (by simp)
theorem Sk (q : isW c = true) : BigOk t (.inr (((c :: t).takeWhile isW).length, EA ((c :: t).takeWhile isW) row col, false)) := by
 have h1 := takeWhile_len (p := isW) t
 have h2 := NU ((c :: t).takeWhile isW) row col
 rw [UJ, q] at h2 ⊢
 exact .inr (T6 ..) (Nat.succ_le_succ h1) h2
theorem R8 : BigOk t (big c t row col) := by
 rw [big_eq]
 refine E7 (fun _ => bo1 (by simp)) (E7 (fun _ => bo1 (by simp)) (E7 (fun _ => .inr (by exact T3 _ _) ?_ (by simp)) (E7 (bo2 (fun h => by rw [h]; simp) (by simp)) (E7 (fun _ => So _ fun m => strEnd_lt) (E7 Sk (E7 (bo2 (fun h => by rw [h]; unfold twoL; simp) (by simp)) (E7 (fun _ => bo1 (by simp)) (E7 (fun _ => bo1 (by simp)) .inl))))))))
 have := takeWhile_len (p := (· != 10)) t
 lia
theorem TM {n : Nat} {us : List D} {nl : Bool} (h : big c t row col = .inr (n, us, nl)) : 1 ≤ n ∧ n ≤ t.length + 1 ∧ us.length ≤ 3 := by
 have := R8 (c := c) (t := t) (row := row) (col := col)
 rw [h] at this
 cases this with
 | inr h1 h2 h3 => exact (KB h1 h2 h3)
theorem read_loop (hx : x.length ≤ sizeLine) (hv : ∀ d ∈ x, d < 1114112) : ∀ (k a : Nat) (row bg : Int) (sg cl bh : Option W) (ts : List D), (x.drop a).length < k → a ≤ x.length → ts.length + 3 * (x.drop a).length ≤ sizeLine →
  match readG k (x.drop a) row ((a : Int) - bg + 1) ts with
  | .ok (ts', row', col') => ∃ s1 s2 s3 bg', Ao Bo BJ k (rt x a row bg sg cl bh ts) = .ok (.next, rt x x.length row' bg' s1 s2 s3 ts') ∧ col' = (x.length : Int) - bg' + 1 ∧ ts'.length ≤ ts.length + 3 * (x.drop a).length
  | .exc e => Ao Bo BJ k (rt x a row bg sg cl bh ts) = .exc e
  | .fail => False := by
 intro k
 induction k with
 | zero => intro a row bg sg cl bh ts h; lia
 | succ k ih =>
  intro a row bg sg cl bh ts hk ha hs
  have htest : Bo (rt x a row bg sg cl bh ts) = .ok (decide (a < x.length)) := by
   show (((Ar (.str (S x))).bind fun e => DI (.int a) e).bind AF) = _
   rw [opLen_S hx, bind_ok', opLt_len]
  cases hd : x.drop a with
  | nil =>
   have : x.length ≤ a := by simpa using hd
   have e : a = x.length := by exact Nat.le_antisymm (by assumption) (by assumption)
   rw [Tq (by exact Nat.not_lt.mpr (by assumption))] at htest
   refine (Fv sg cl bh bg ?_ (by rw [e]) (by exact T3 _ _))
   rw [whileM_stop k htest, e]
  | cons c t =>
   have hlt := (CM hd).2.1
   rw [Tp hlt] at htest
   rw [hd] at hs hk
   simp only [Ts] at hs hk
   have ht := S6 (row := row) (bg := bg) (ts := ts) hx hv hd (by lia) sg cl bh
   unfold readG
   cases hb : big c t row ((a : Int) - bg + 1) with
   | inl w =>
    rw [hb] at ht
    exact DQ k htest ht
   | inr p =>
    obtain ⟨n, us, nl⟩ := p
    obtain ⟨n1, n2, n3⟩ := TM hb
    rw [hb] at ht
    obtain ⟨sg', cl', bh', ht⟩ := ht
    have hw := whileM_go k htest ht (.inl rfl)
    have hl : (x.drop (a + n)).length + n = t.length + 1 := by rw [← T9, hd]; simp; exact Nat.sub_add_cancel (by assumption)
    have hlx : x.length = a + (t.length + 1) := by have := congrArg List.length hd; simp at this; lia
    have := ih (a + n) (if nl then row + 1 else row) (if nl then ((a + n : Nat) : Int) else bg) sg' cl' bh' (ts ++ us) (by lia) (by lia) (by rw [Tw]; lia)
    rw [← T9, hd, show ((a + n : Nat) : Int) - (if nl then ((a + n : Nat) : Int) else bg) + 1 = if nl then 1 else ((a : Int) - bg + 1) + n by cases nl <;> simp <;> lia] at this
    show match readG k ((c :: t).drop n) (if nl then row + 1 else row) (if nl then 1 else (a : Int) - bg + 1 + n) (ts ++ us) with | .ok (ts', row', col') => _ | .exc e => _ | .fail => _
    revert this
    cases readG k ((c :: t).drop n) (if nl then row + 1 else row) (if nl then 1 else (a : Int) - bg + 1 + n) (ts ++ us) with
    | fail => exact id
    | exc e => exact fun h => hw.trans h
    | ok p =>
     obtain ⟨ts', row', col'⟩ := p
     intro y1_; obtain ⟨sg, cl, bh, bg', h1, h2, h3⟩ := y1_
     refine (Fv sg cl bh bg' (hw.trans h1) h2 ?_)
     rw [Tw] at h3
     have : ((c :: t).drop n).length + n = t.length + 1 := by simp; exact Nat.sub_add_cancel (by assumption)
     simp only [Ts]; lia
noncomputable def readT (x : T) : Res (List D) := (readG (x.length + 2) x 1 1 []).bind fun p => .ok (p.1 ++ [tok CC (S []) p.2.1 p.2.2])
theorem read_tokens_ (hx : 3 * x.length + 3 ≤ sizeLine) (hv : ∀ d ∈ x, d < 1114112) : AN f_read_tokens Bg 1 [.d (.str (S x))] = (readT x).bind fun ts => .ok (.ret (.fr ts)) := by
 have h := read_loop (by lia) hv (x.length + 2) 0 1 0 none none none [] (by simp) (by exact UG _) (by simp; exact T2 (T3 _ _) (by assumption))
 rw [List.drop_zero, show ((0 : Nat) : Int) - 0 + 1 = 1 from rfl] at h
 unfold readT
 revert h
 cases readG (x.length + 2) x 1 1 [] with
 | fail => exact fun z => z.elim
 | exc e => exact fun z => callF_exc ((seq_exc z : AK (fun l => Ao Bo BJ (B5 0 l) l) DP (rt x 0 1 0 none none none []) = .exc e)) rfl
 | ok p =>
  obtain ⟨ts', row', col'⟩ := p
  intro y1_; obtain ⟨sg, cl, bh, bg', h1, h2, h3⟩ := y1_
  have e : AK (fun l => Ao Bo BJ (B5 0 l) l) DP (rt x 0 1 0 none none none []) = .ok (.ret (.fr (ts' ++ [tok CC "" row' ((x.length : Int) - bg' + 1)])), rt x x.length row' bg' sg cl bh (ts' ++ [tok CC "" row' ((x.length : Int) - bg' + 1)])) :=
   (seq_next h1).trans ((seq_next (app_ok (k := 0) (d := tok CC "" row' ((x.length : Int) - bg' + 1)) rfl rfl (by simp at h3; lia))).trans rfl)
  refine (callF_ret e rfl).trans ?_
  rw [ls0, ← h2]; rfl
end
end Mine
namespace Mine
noncomputable def ET (c : Nat) : T → Nat → List Nat
 | [], _ => []
 | a :: r, i => if a = c then i :: ET c r (i + 1) else ET c r (i + 1)
theorem MI (x : T) (c limit i free : Nat) (found : Array Nat) (h1 : found.size < limit) (h2 : free ≤ i) :
  StrLaws.occBody (S x) (S [c]) x.length limit i (found, free) = if x[i]? = some c then pure (ForInStep.yield (found.push i, i + 1)) else pure (ForInStep.yield (found, free)) := by
 have e := StrLaws.subAt_one (S x) c i
 rw [MH] at e
 have hl : (S x).length = x.length := Ds x
 unfold StrLaws.occBody
 by_cases q : x[i]? = some c
 ·rw [Tl q, Tl]
  ·rfl
  ·refine xA (e.mpr q) fun a b => ?_
   exact ⟨⟨⟨h1, h2⟩, hl ▸ a⟩, b⟩
 ·rw [Tm q, Tm]
  exact fun z => q (e.mp ⟨hl.symm ▸ z.1.2, z.2⟩)
theorem SV (x : T) (c limit : Nat) : ∀ (l : T) (i free : Nat) (found : Array Nat), x.drop i = l → i ≤ x.length → free ≤ i → found.size + l.length < limit →
  (forIn (List.range' i (l.length + 1)) (found, free) (StrLaws.occBody (S x) (S [c]) x.length limit)).run.fst.toList = found.toList ++ ET c l i := by
 intro l
 induction l with
 | nil =>
  intro i free found hd hi hf hs
  have : x[i]? = none := List.getElem?_eq_none (by simpa using hd)
  rw [List.length_nil, List.range'_succ, List.forIn_cons, MI x c limit i free found (by simpa using hs) hf, this, Tm (by simp)]
  simp [ET]
 | cons a r ih =>
  intro i free found hd hi hf hs
  refine Ku (CM hd) fun ha hlt hr => ?_
  simp only [Ts] at hs
  rw [Ts, List.range'_succ, List.forIn_cons, MI x c limit i free found (by exact Nat.lt_of_le_of_lt (T3 _ _) (by assumption)) hf, ha]
  unfold ET
  by_cases q : a = c
  ·rw [Tl (by rw [q]), Tl q]
   refine (ih (i + 1) (i + 1) (found.push i) hr hlt (Tv _) (by simp; lia)).trans ?_
   simp
  ·rw [Tm (fun z => q (Option.some.inj z)), Tm q]
   exact ih (i + 1) free found hr hlt (by exact T2 ‹_› (T3 _ _)) (by lia)
theorem OL (x : T) (c : Nat) : Builtin.Str.occurrences (S x) (S [c]) 0 (S x).length ((S x).length + 1) = ET c x 0 := by
 rw [StrLaws.occ_eq, Ds]
 exact (SV x c (x.length + 1) x 0 0 #[] rfl (UG _) (Tv _) (by simp)).trans (by simp)
theorem JX (c : Nat) : ∀ (l : T) (i : Nat), (ET c l i).length = l.count c
 | [], _ => rfl
 | a :: r, i => by
  unfold ET
  rw [List.count_cons]
  by_cases q : a = c
  ·rw [Tl q, Ts, JX c r, Tl (by simp [q])]
  ·rw [Tm q, JX c r, Tm (by simp [q])]; rfl
theorem count_S (x : T) (c : Nat) : Txt.count (S x) (S [c]) = (x.count c : Int) := by
 unfold Txt.count; rw [OL, JX]
noncomputable def adv1 (p : Int × Int) (c : Nat) : Int × Int := if c = 10 then (p.1 + 1, 1) else (p.1, p.2 + 1)
noncomputable def place (l : T) : Int × Int := l.foldl adv1 (1, 1)
noncomputable def tailLen : T → Nat → Nat
 | [], n => n
 | c :: r, n => tailLen r (if c = 10 then 0 else n + 1)
theorem JE : ∀ (l : T) (row : Int) (n : Nat), l.foldl adv1 (row, (n : Int) + 1) = (row + l.count 10, (tailLen l n : Int) + 1)
 | [], row, n => by simp [tailLen]
 | c :: r, row, n => by
  rw [List.foldl_cons, List.count_cons]
  unfold tailLen adv1
  by_cases q : c = 10
  ·rw [Tl q, Tl q, Tl (by simp [q])]
   refine (JE r (row + 1) 0).trans ?_
   rw [Int.natCast_add, Int.add_assoc, Int.add_comm 1]; rfl
  ·rw [Tm q, Tm q, Tm (by simp [q])]
   exact JE r row (n + 1)
theorem Pb (l : T) : place l = ((l.count 10 : Int) + 1, (tailLen l 0 : Int) + 1) := by
 rw [Int.add_comm]; exact JE l 1 0
theorem LV (x : T) : ∀ (l : T) (i st : Nat), x.drop i = l → st ≤ i → i ≤ x.length → x.length - ((ET 10 l i).map (· + 1)).getLastD st = tailLen l (i - st)
 | [], i, st, hd, h1, h2 => by
  have : x.length ≤ i := by simpa using hd
  unfold ET tailLen
  show x.length - st = i - st
  lia
 | c :: r, i, st, hd, h1, h2 => by
  refine Ku (CM hd) fun _ hlt hr => ?_
  unfold ET tailLen
  by_cases q : c = 10
  ·rw [Tl q, Tl q, T1]
   have := LV x r (i + 1) (i + 1) hr (Tv _) hlt
   rw [Nat.sub_self] at this
   rw [← this]
   cases (ET 10 r (i + 1)).map (· + 1) <;> rfl
  ·rw [Tm q, Tm q]
   have := LV x r (i + 1) st hr (by exact T2 ‹_› (T3 _ _)) hlt
   rw [this]; congr 1; lia
theorem M7 {α β : Type} (f : α × β → Str) (d : α) (e : β) : ∀ (l : List α) (m : List β), l.length = m.length → ((d :: l).zip (m ++ [e]))[l.length]? = some (l.getLastD d, e)
 | [], [], _ => rfl
 | a :: l, b :: m, h => by
  have := M7 f a e l m (by simpa using h)
  rw [List.cons_append, List.zip_cons_cons, Ts, List.getElem?_cons_succ, this]
  cases l <;> rfl
theorem Nj (x : T) : ∃ parts y, Txt.split (S x) (S [10]) = parts ∧ parts ≠ [] ∧ parts[parts.length - 1]? = some (S y) ∧ y.length = tailLen x 0 := by
 unfold Txt.split
 have hk : decide (Builtin.Str.strKind (S x) < Builtin.Str.strKind (S [10])) = false := by
  have : Builtin.Str.strKind (S [10]) = 1 := by decide +kernel
  rw [this]
  refine Tq ?_
  unfold Builtin.Str.strKind; split
  ·decide
  ·split <;> decide
 rw [hk, Bool.or_false]
 have e := LV x x 0 0 rfl (Tv _) (UG _)
 by_cases q : (S x).length < (S [10]).length
 ·rw [Tl (Tp q)]
  have : x = [] := by
   have : x.length < 1 := by rw [Ds] at q; exact q
   exact UY (by lia)
  subst this
  exact (Dn _ ([]) rfl (by simp) rfl rfl)
 ·rw [Tm (fun z => q (of_decide_eq_true z)), OL]
  by_cases q2 : (ET 10 x 0).isEmpty = true
  ·rw [Tl q2]
   refine (Dn _ x rfl (by simp) rfl ?_)
   rw [List.isEmpty_iff.mp q2] at e
   simpa using e
  ·rw [Tm q2]
   unfold Builtin.Str.partsBetween
   have hz := M7 (fun p : Nat × Nat => Builtin.Str.strSub (S x) p.1 p.2) 0 (S x).length ((ET 10 x 0).map (· + (S [10]).length)) (ET 10 x 0) (by simp)
   have hlen : ((0 :: (ET 10 x 0).map (· + (S [10]).length)).zip (ET 10 x 0 ++ [(S x).length])).length = (ET 10 x 0).length + 1 := by simp
   refine (Dn _ (x.drop (((ET 10 x 0).map (· + 1)).getLastD 0)) rfl ?_ ?_ ?_)
   ·exact fun z => by have := congrArg List.length z; rw [Tu, hlen] at this; simp at this
   ·rw [Tu, hlen, Nat.add_sub_cancel, UH]
    rw [Tu] at hz
    rw [hz]
    show some (Builtin.Str.strSub (S x) (((ET 10 x 0).map (· + 1)).getLastD 0) (S x).length) = _
    congr 1
    have := StrLaws.strSub_toList (S x) (((ET 10 x 0).map (· + 1)).getLastD 0) (S x).length
    rw [Ds, MH, UT (by simp)] at this
    rw [Ds]
    refine (congrArg (fun l : T => (S l)) this.symm).symm ▸ ?_
    unfold S; rfl
   ·simpa using e
theorem Gf : ∀ (l : T) (n : Nat), tailLen l n ≤ n + l.length
 | [], n => Tv _
 | c :: r, n => by
  unfold tailLen
  by_cases q : c = 10
  ·rw [Tl q]; have := Gf r 0; rw [Ts]; lia
  ·rw [Tm q]; have := Gf r (n + 1); rw [Ts]; lia
theorem law_place_ (x : T) (hx : x.length + 2 ≤ sizeLine) : AN f_law_place names_law_place 1 [.d (.str (S x))] = .ok (.ret (.val (.tuple [.int (place x).1, .int (place x).2]))) := by
 refine D9 (Nj x) fun parts y h1 h2 h3 h4 => ?_
 have hl : x.length ≤ sizeLine := by exact T2 (T3 _ _) (by assumption)
 have e1 : (DD (.str (S x)) (.str "\n")) = .ok (.int (x.count 10 : Int)) := by rw [Hc]; exact congrArg (fun i => Res.ok (PyData.int i)) (count_S x 10)
 have e2 : Cq (.str (S x)) (.str "\n") = .ok (.list (parts.map .str)) := by
  rw [Hc, ← h1]
  exact Tl ⟨by decide, by rw [Ds]; exact hx⟩
 have hp : 0 < parts.length := List.length_pos_iff.mpr h2
 have hy : y.length ≤ x.length := by
  rw [h4]
  have := Gf x 0; lia
 have e3 : AG (.list (parts.map .str)) (.int (-1)) = .ok (.str (S y)) := by
  show (if (-1 : Int).natAbs < 2 ^ 62 then (match at? (parts.map PyData.str) (-1) with | some d => Res.ok d | none => .fail) else .fail) = _
  rw [Tl (by decide)]
  have : at? (parts.map PyData.str) (-1) = some (.str (S y)) := by
   unfold at?
   rw [Tm (by decide), Tl (by rw [Tu]; lia), Tu, show ((-1 : Int) + (parts.length : Int)).toNat = parts.length - 1 by lia, UH, h3]; rfl
  rw [this]
 refine callF_ret (l' := CH names_law_place [.d (.str (S x))] []) ?_ rfl
 refine seq_nop.trans ?_
 show ((((DD (.str (S x)) (.str "\n")).bind fun d => (Res.ok (.int 1)).bind fun e => AM d e).bind fun d => (((((Cq (.str (S x)) (.str "\n")).bind fun d => ((Res.ok (.int 1)).bind Ck).bind fun e => AG d e).bind Ar).bind fun d => (Res.ok (.int 1)).bind fun e => AM d e).bind fun d => (Res.ok []).bind fun ds => .ok (d :: ds)).bind fun ds => .ok (d :: ds)).bind AV).bind (fun d => Res.ok (Fl.ret (.val d), CH names_law_place [.d (.str (S x))] [])) = _
 rewrite [e1, e2]
 show ((((((AG (.list (parts.map .str)) (.int (-1))).bind Ar).bind fun d => (Res.ok (.int 1)).bind fun e => AM d e).bind fun d => (Res.ok []).bind fun ds => .ok (d :: ds)).bind fun ds => Res.ok (.int (x.count 10 + 1) :: ds)).bind AV).bind (fun d => Res.ok (Fl.ret (.val d), CH names_law_place [.d (.str (S x))] [])) = _
 rewrite [e3, bind_ok', opLen_S (by exact T2 (by assumption) (by assumption)), Pb, h4]; rfl
end Mine
namespace Mine
noncomputable def signsL : List T := [[123], [125], [40], [41], [91], [93], [44], [61], [60], [62], [38], [124], [94], [33], [64], [36], [61, 61], [33, 61], [60, 61], [62, 61], [60, 60], [62, 62], [46], [47], [58]]
noncomputable def endsL : List T := [[10], [59]]
noncomputable def blanksL : List T := [[32], [9], [13], [92, 10]]
noncomputable def sortOf (p : T) : Str :=
 if p ∈ signsL then Al else if p ∈ endsL then BH else if p ∈ blanksL then Dq else
 if p.take 1 = [35] then (if 10 ∈ p then S [] else Dq) else
 if p.take 1 = [34] then (if p.count 34 = 2 ∧ p.drop (p.length - 1) = [34] ∧ ¬ 10 ∈ p then Ap else S []) else
 if p.filter (fun c => !isW c) ≠ [] then S [] else
 if Ab p = true then S [] else if Aw p = true then S [] else Ac
noncomputable def PF (ks : List T) : List D := ks.map fun k => .str (S k)
theorem QT (l : T) : ∀ ks : List T, (PF ks).any (fun y => PyData.eqv y (.str (S l))) = decide (l ∈ ks)
 | [] => rfl
 | k :: ks => by
  show ((S k == S l) || (PF ks).any (fun y => PyData.eqv y (.str (S l)))) = _
  rw [QT l ks, S_beq, decide_eq_decide.mpr (eq_comm (a := k)), ← Bool.decide_or]
  exact decide_eq_decide.mpr (T0).symm
theorem La {l : T} {ks : List T} (h1 : SeqAt.shaped (.tuple (PF ks)) = true) (h2 : ∀ c ∈ l, c < 1114112) : (DM (.str (S l)) (.tuple (PF ks))).bind AF = .ok (decide (l ∈ ks)) := by
 rw [Jp h1 (Gk h2), QT]; rfl
theorem Gp {p : D → Res Bool} {g : Nat → D} {b : Nat → Bool} (h : ∀ c, p (g c) = .ok (b c)) : ∀ l : T, BO p (l.map g) = .ok ((l.filter b).map g)
 | [] => rfl
 | c :: l => by
  rw [T1, BO, h c]
  show (BO p (l.map g)).bind _ = _
  rw [Gp h l, List.filter_cons, bind_ok']
  cases b c <;> rfl
theorem M2 {q : T} {z : Nat} (hx : (q ++ [z]).length ≤ sizeLine) : AG (.str (S (q ++ [z]))) (.int (-1)) = .ok (.str (C1 z)) := by
 show (if (-1 : Int).natAbs < 2 ^ 62 then (match at? (S (q ++ [z])).cps.toList (-1) with | some c => Res.ok (PyData.str ⟨#[c]⟩) | none => .fail) else .fail) = _
 have : at? (q ++ [z]) (-1) = some z := by
  unfold at?
  have hl : (q ++ [z]).length = q.length + 1 := by simp
  rw [Tm (by decide), Tl (by rw [hl]; lia), hl, show ((-1 : Int) + ((q.length + 1 : Nat) : Int)).toNat = q.length by lia]; simp
 rw [Tl (by decide), MH, this]; rfl
theorem Qn {q : T} {z k : Nat} : (q ++ [z]).drop ((q ++ [z]).length - 1) = [k] ↔ z = k := by simp
theorem LH {l : T} (h : ∀ c ∈ l, c < 1114112) : SeqAt.shaped (.list (l.map fun c => (.str (C1 c) : D))) = true := by
 have e : ∀ l : T, (∀ c ∈ l, c < 1114112) → PyData.canLayAll0 (l.map fun c => (.str (C1 c) : D)) = true ∧ PyData.depthAll (l.map fun c => (.str (C1 c) : D)) = 0 := fun l => by
  induction l with
  | nil => exact fun _ => ⟨rfl, rfl⟩
  | cons a r ih =>
   intro h
   refine xA (ih fun c hc => h c (Tx _ hc)) fun h1 h2 => ?_
   have h3 := T5.mp (Gk (l := [a]) fun c hc => h c (by simp at hc; simp [hc]))
   refine ⟨?_, ?_⟩
   ·rw [T1, PyData.canLayAll0, h3.1, h1]; rfl
   ·rw [T1, PyData.depthAll, h2]; rfl
 refine xA (e l h) fun h1 h2 => ?_
 unfold SeqAt.shaped
 rw [PyData.canLay0, h1, PyData.depth, h2]; rfl
noncomputable def Giv (p : T) (s : Str) (r : Res (Fl × Loc)) : Prop := r = .ok (.ret (.val (.str s)), ⟨[some (.d (.str (S p)))], []⟩)
theorem Giv.yes {p : T} {q : Prop} [Decidable q] {s s' : Str} {r : Res (Fl × Loc)} (h : q) (z : Giv p s r) : Giv p (if q then s else s') r := by rw [Tl h]; exact z
theorem Giv.no {p : T} {q : Prop} [Decidable q] {s s' : Str} {r : Res (Fl × Loc)} (h : ¬ q) (z : Giv p s' r) : Giv p (if q then s else s') r := by rw [Tm h]; exact z
theorem Giv.of {p : T} {s : Str} {r r' : Res (Fl × Loc)} (h : r = r') (z : Giv p s r') : Giv p s r := h ▸ z
noncomputable def ol (p : T) : Loc := ⟨[some (.d (.str (S p)))], []⟩
theorem Ma {p : T} (hx : p.length ≤ sizeLine) (hne : p ≠ []) (hv : ∀ c ∈ p, c < 1114112) : Giv p (sortOf p) (f_law_sort (ol p)) := by
 refine Sd (List.exists_cons_of_ne_nil hne) fun a r z2_ => ?_; obtain rfl := z2_
 generalize hp : a :: r = p at *
 obtain ⟨q, z, hq⟩ : ∃ q z, p = q ++ [z] := ⟨p.dropLast, p.getLast hne, (List.dropLast_concat_getLast hne).symm⟩
 have h0 : AG (.str (S p)) (.int ((0 : Nat) : Int)) = .ok (.str (C1 a)) := opItem_at (by rw [← hp]; rfl) hx
 have hm : AG (.str (S p)) (.int (-1)) = .ok (.str (C1 z)) := by rw [hq]; exact M2 (hq ▸ hx)
 have ht1 : ∀ k, decide (a = k) = decide (p.take 1 = [k]) := fun k => decide_eq_decide.mpr (by rw [← hp]; simp)
 have hl1 : ∀ k, decide (z = k) = decide (p.drop (p.length - 1) = [k]) := fun k => decide_eq_decide.mpr (by rw [hq]; exact Qn.symm)
 unfold sortOf
 have t1 : ((Res.ok (.str (S p))).bind fun d => (Res.ok B8).bind fun e => DM d e).bind AF = .ok (decide (p ∈ signsL)) := by
  rw [show B8 = .tuple (PF signsL) by unfold B8; kernel_rfl]; exact La (by decide +kernel) hv
 by_cases c1 : p ∈ signsL
 ·exact .yes c1 (seq_ret ((if_t t1 (Tp c1)).trans rfl))
 refine .no c1 (.of (seq_next ((if_f t1 (Tq c1)).trans rfl)) ?_)
 have t2 : ((Res.ok (.str (S p))).bind fun d => (Res.ok (.tuple [.str "\n", .str ";"])).bind fun e => DM d e).bind AF = .ok (decide (p ∈ endsL)) := by
  rw [Hc, SM]; exact La (ks := endsL) (by decide +kernel) hv
 by_cases c2 : p ∈ endsL
 ·exact .yes c2 (seq_ret ((if_t t2 (Tp c2)).trans rfl))
 refine .no c2 (.of (seq_next ((if_f t2 (Tq c2)).trans rfl)) ?_)
 have t3 : ((Res.ok (.str (S p))).bind fun d => (Res.ok (.tuple [.str " ", .str "\t", .str "\r", .str "\\\n"])).bind fun e => DM d e).bind AF = .ok (decide (p ∈ blanksL)) := by
  rw [show (PyData.tuple [.str " ", .str "\t", .str "\r", .str "\\\n"]) = .tuple (PF blanksL) by kernel_rfl]; exact La (by decide +kernel) hv
 by_cases c3 : p ∈ blanksL
 ·exact .yes c3 (seq_ret ((if_t t3 (Tp c3)).trans rfl))
 refine .no c3 (.of (seq_next ((if_f t3 (Tq c3)).trans rfl)) ?_)
 have t4 : ((AG (.str (S p)) (.int ((0 : Nat) : Int))).bind fun d => (Res.ok (.str "#")).bind fun e => AZ d e).bind AF = .ok (decide (p.take 1 = [35])) := by
  rw [h0, Sj, ← ht1]; exact congrArg Res.ok (Q2 a 35)
 have n10 : ((Res.ok (.str "\n")).bind fun d => (Res.ok (.str (S p))).bind fun e => DM d e).bind AF = .ok (decide (10 ∈ p)) := by rw [Hc]; rfl
 by_cases c4 : p.take 1 = [35]
 ·refine .yes c4 (seq_ret ((if_t t4 (Tp c4)).trans (seq_ret ?_)))
  show (((((Res.ok (.str "\n")).bind fun d => (Res.ok (.str (S p))).bind fun e => DM d e).bind AF).bind fun c => if c then Res.ok (.str "") else Res.ok (.str "blank")).bind fun d => Res.ok (Fl.ret (.val d), ol p)) = _
  rw [n10, ls0]
  by_cases q : 10 ∈ p
  ·rw [Tp q, Tl q]; rfl
  ·rw [Tq q, Tm q]; rfl
 refine .no c4 (.of (seq_next ((if_f t4 (Tq c4)).trans rfl)) ?_)
 have t5 : ((AG (.str (S p)) (.int ((0 : Nat) : Int))).bind fun d => (Res.ok (.str "\"")).bind fun e => AZ d e).bind AF = .ok (decide (p.take 1 = [34])) := by
  rw [h0, ls34, ← ht1]; exact congrArg Res.ok (Q2 a 34)
 by_cases c5 : p.take 1 = [34]
 ·refine .yes c5 (seq_ret ((if_t t5 (Tp c5)).trans (seq_ret ?_)))
  have s1 : ((DD (.str (S p)) (.str "\"")).bind fun d => (Res.ok (.int 2)).bind fun e => AZ d e).bind AF = .ok (decide (p.count 34 = 2)) := by
   rw [ls34]
   show Res.ok (Txt.count (S p) (S [34]) == 2) = _
   rw [count_S]
   exact congrArg Res.ok (decide_eq_decide.mpr (by lia))
  have s2 : ((AG (.str (S p)) (.int (-1))).bind fun d => (Res.ok (.str "\"")).bind fun e => AZ d e).bind AF = .ok (decide (p.drop (p.length - 1) = [34])) := by
   rw [hm, ls34, ← hl1]; exact congrArg Res.ok (Q2 z 34)
  have s3 : ((Res.ok (.str "\n")).bind fun d => (Res.ok (.str (S p))).bind fun e => Dw d e).bind AF = .ok (!decide (10 ∈ p)) := by rw [Hc]; rfl
  show ((((((DD (.str (S p)) (.str "\"")).bind fun d => (Res.ok (.int 2)).bind fun e => AZ d e).bind AF).bind fun b => if b then (((AG (.str (S p)) (.int (-1))).bind fun d => (Res.ok (.str "\"")).bind fun e => AZ d e).bind AF).bind fun b => if b then (((Res.ok (.str "\n")).bind fun d => (Res.ok (.str (S p))).bind fun e => Dw d e).bind AF).bind fun b => if b then Res.ok true else .ok false else .ok false else .ok false).bind fun c => if c then Res.ok (.str "string") else Res.ok (.str "")).bind fun d => Res.ok (Fl.ret (.val d), ol p)) = _
  rw [s1, s2, s3, ls0]
  by_cases q1 : p.count 34 = 2
  ·by_cases q2 : p.drop (p.length - 1) = [34]
   ·by_cases q3 : 10 ∈ p
    ·rw [Tp q1, Tp q2, Tp q3, Tm (fun y => y.2.2 q3)]; rfl
    ·rw [Tp q1, Tp q2, Tq q3, Tl ⟨q1, q2, q3⟩]; rfl
   ·rw [Tp q1, Tq q2, Tm (fun y => q2 y.2.1)]; rfl
  ·rw [Tq q1, Tm (fun y => q1 y.1)]; rfl
 refine .no c5 (.of (seq_next ((if_f t5 (Tq c5)).trans rfl)) ?_)
 have t6 : (((Bu (fun l => (getv l 0).bind Bh) DY [] (ol p)).bind fun ds => .ok (.list ds)).bind fun d => ((Res.ok []).bind BB).bind fun e => A2 d e).bind AF = .ok (decide (p.filter (fun c => !isW c) ≠ [])) := by
  have e1 : Bu (fun l => (getv l 0).bind Bh) DY [] (ol p) = .ok ((p.filter (fun c => !isW c)).map fun c => .str (C1 c)) := by
   unfold Bu
   show (if (p.map fun c => (.str ⟨#[c]⟩ : D)).length ≤ sizeLine then BO (fun d => DY (Hv (ol p) [] d)) (p.map fun c => (.str ⟨#[c]⟩ : D)) else .fail) = _
   rw [Tl (by rw [Tu]; exact hx)]
   refine Gp (b := fun c => !isW c) (fun c => ?_) p
   show (Dw (.str (C1 c)) CE).bind AF = _
   rw [SY]; rfl
  rw [e1]
  have sh := LH (l := p.filter (fun c => !isW c)) fun c hc => hv c (List.mem_filter.mp hc).1
  show (if (SeqAt.shaped (.list ((p.filter (fun c => !isW c)).map fun c => .str (C1 c))) && SeqAt.shaped (.list [])) = true then Res.ok (PyData.bool (!PyData.eqv (.list ((p.filter (fun c => !isW c)).map fun c => .str (C1 c))) (.list []))) else .fail).bind AF = _
  rw [sh]
  cases p.filter (fun c => !isW c) <;> rfl
 by_cases c6 : p.filter (fun c => !isW c) ≠ []
 ·refine .yes c6 (seq_ret ((if_t t6 (Tp c6)).trans ?_))
  show Res.ok (Fl.ret (.val (.str "")), _) = _
  rw [ls0]; rfl
 refine .no c6 (.of (seq_next ((if_f t6 (Tq c6)).trans rfl)) ?_)
 have u1 : ((AG (.str (S p)) (.int ((0 : Nat) : Int))).bind fun d => (Res.ok (.str ":")).bind fun e => AZ d e).bind AF = .ok (decide (p.take 1 = [58])) := by
  rw [h0, ls58, ← ht1]; exact congrArg Res.ok (Q2 a 58)
 have u2 : ((AY none (some ((2 : Nat) : Int)) (.str (S p))).bind fun d => (Res.ok (.str "::")).bind fun e => A2 d e).bind AF = .ok (!decide (p.take 2 = [58, 58])) := by
  rw [opCut_S _ _ hx, Il, ls5858]; exact congrArg Res.ok (S_bne _ _)
 have t7 : Ca (fun l => (((getv l 0).bind fun d => (Res.ok (.int 0)).bind fun e => AG d e).bind fun d => (Res.ok (.str ":")).bind fun e => AZ d e).bind AF) (fun l => Ca (fun l => (((getv l 0).bind fun d => (Res.ok none).bind fun lo => ((Res.ok (.int 2)).bind Ah).bind fun hi => AY lo hi d).bind fun d => (Res.ok (.str "::")).bind fun e => A2 d e).bind AF) (fun l => Res.ok true) l) (ol p) = .ok (Ab p) := by
  unfold Ab
  by_cases q1 : p.take 1 = [58]
  ·rw [Tp q1] at u1 ⊢
   by_cases q2 : p.take 2 = [58, 58]
   ·rw [Tp q2] at u2 ⊢; exact (and_t u1).trans (and_f u2)
   ·rw [Tq q2] at u2 ⊢; exact (and_t u1).trans (and_t u2)
  ·rw [Tq q1] at u1 ⊢; exact and_f u1
 by_cases c7 : Ab p = true
 ·refine .yes c7 (seq_ret ((if_t t7 c7).trans ?_))
  show Res.ok (Fl.ret (.val (.str "")), _) = _
  rw [ls0]; rfl
 refine .no c7 (.of (seq_next ((if_f t7 (Bool.not_eq_true _ ▸ c7)).trans rfl)) ?_)
 have v1 : ((AG (.str (S p)) (.int (-1))).bind fun d => (Res.ok (.str ":")).bind fun e => AZ d e).bind AF = .ok (decide (p.drop (p.length - 1) = [58])) := by
  rw [hm, ls58, ← hl1]; exact congrArg Res.ok (Q2 z 58)
 have v2 : ((AY (some (-((2 : Nat) : Int))) none (.str (S p))).bind fun d => (Res.ok (.str "::")).bind fun e => A2 d e).bind AF = .ok (!decide (p.drop (p.length - 2) = [58, 58])) := by
  rw [opCut_S _ _ hx, J5 2 (by decide), ls5858]; exact congrArg Res.ok (S_bne _ _)
 refine .of seq_nop ?_
 show Giv p _ ((((((AG (.str (S p)) (.int (-1))).bind fun d => (Res.ok (.str ":")).bind fun e => AZ d e).bind AF).bind fun b => if b then (((AY (some (-((2 : Nat) : Int))) none (.str (S p))).bind fun d => (Res.ok (.str "::")).bind fun e => A2 d e).bind AF).bind fun b => if b then Res.ok true else .ok false else .ok false).bind fun c => if c then Res.ok (.str "") else Res.ok (.str "word")).bind fun d => Res.ok (Fl.ret (.val d), ol p))
 rw [v1, v2, ls0]
 unfold Aw
 by_cases q1 : p.drop (p.length - 1) = [58]
 ·by_cases q2 : p.drop (p.length - 2) = [58, 58]
  ·rw [Tp q1, Tp q2]; rfl
  ·rw [Tp q1, Tq q2]; rfl
 ·rw [Tq q1]; rfl
theorem law_sort_ {p : T} (hx : p.length ≤ sizeLine) (hne : p ≠ []) (hv : ∀ c ∈ p, c < 1114112) : AN f_law_sort names_law_sort 1 [.d (.str (S p))] = .ok (.ret (.val (.str (sortOf p)))) :=
 callF_ret (Ma hx hne hv) rfl
end Mine
namespace Mine
noncomputable def one (c : Nat) (t : T) : Option Nat :=
 if c = 10 then some 1 else
 if c = 59 then some 1 else
 if c = 35 then some (1 + (t.takeWhile (· != 10)).length) else
 if c = 92 ∧ t.take 1 = [10] then some 2 else
 if c = 34 then (match BA t with | some n => some (n + 2) | none => none) else
 if isW c = true then (if Ab ((c :: t).takeWhile isW) = true then some 1 else if Aw ((c :: t).takeWhile isW) = true then some (((c :: t).takeWhile isW).length - 1) else some ((c :: t).takeWhile isW).length) else
 if (c :: t).take 2 ∈ twoL then some 2 else
 if c ∈ oneL then some 1 else
 if c ∈ [32, 9, 13] then some 1 else none
noncomputable def nul : Str := S []
noncomputable def fits (r : T) : List Nat := (List.range r.length).filter fun i => decide (sortOf (r.take (i + 1)) ≠ nul)
theorem II {p : Nat → Bool} : ∀ (n i : Nat), i < n → p i = true → (∀ j, i < j → j < n → p j = false) → ((List.range n).filter p).getLast? = some i
 | 0, _, h, _, _ => absurd h (Nat.not_lt_zero _)
 | n + 1, i, h, hp, hj => by
  rw [List.range_succ, List.filter_append]
  by_cases q : i = n
  ·subst q
   rw [List.filter_cons, Tl hp]; simp
  ·have := hj n (by lia) (by exact Nat.lt_succ_self _)
   rw [List.filter_cons, Tm (by rw [this]; simp), List.filter_nil, UD]
   exact II n i (by lia) hp fun j h1 h2 => hj j h1 (by exact Nat.lt_succ_of_lt (by assumption))
theorem MS {p : Nat → Bool} {n : Nat} (h : ∀ j, j < n → p j = false) : (List.range n).filter p = [] :=
 List.filter_eq_nil_iff.mpr fun a ha => by rw [h a (List.mem_range.mp ha)]; simp
theorem Cd {c : Nat} {t : T} {n : Nat} (h0 : n < t.length + 1) (h1 : sortOf (c :: t.take n) ≠ nul) (h2 : ∀ j, n < j → j < t.length + 1 → sortOf (c :: t.take j) = nul) : (fits (c :: t)).getLast? = some n :=
 II _ _ h0 (Tp h1) fun j a b => Tq fun z => z (h2 j a b)
theorem Kw {c : Nat} {t : T} (h : ∀ j, j < t.length + 1 → sortOf (c :: t.take j) = nul) : fits (c :: t) = [] :=
 MS fun j a => Tq fun z => z (h j a)
theorem k1 : Al ≠ nul := by decide +kernel
theorem k2 : BH ≠ nul := by decide +kernel
theorem k3 : Dq ≠ nul := by decide +kernel
theorem k4 : Ap ≠ nul := by decide +kernel
theorem k5 : Ac ≠ nul := by decide +kernel
theorem Om {c b : Nat} {q : T} (h1 : c :: b :: q ∉ twoL) (h2 : c :: b :: q ≠ [92, 10]) (h3 : c ≠ 35) (h4 : c ≠ 34) (h5 : isW c = false) : sortOf (c :: b :: q) = nul := by
 unfold sortOf
 rw [Tm, Tm, Tm, Tm, Tm, Tl]
 ·rfl
 ·rw [List.filter_cons, h5]; simp
 ·simpa using h4
 ·simpa using h3
 ·unfold blanksL; simpa using h2
 ·unfold endsL; simp
 ·unfold twoL at h1; unfold signsL; simp at h1 ⊢; exact h1
theorem sort_sign {p : T} (h : p ∈ signsL) : sortOf p = Al := by unfold sortOf; rw [Tl h]
theorem two_sign {p : T} (h : p ∈ twoL) : p ∈ signsL := (show ∀ p ∈ twoL, p ∈ signsL by decide) p h
theorem one_sign {c : Nat} (h : c ∈ oneL) : [c] ∈ signsL := (show ∀ c ∈ oneL, [c] ∈ signsL by decide) c h
theorem JC {t : T} {j : Nat} (h0 : 0 < j) (h : j < t.length + 1) : ∃ b q, t.take j = b :: q ∧ t.head? = some b ∧ q.length = j - 1 := by
 cases t with
 | nil => simp at h; lia
 | cons b t => cases j with
  | zero => exact absurd ‹_ < _› (Nat.lt_irrefl _)
  | succ j => exact (Di b (t.take j) rfl rfl (by simp at h ⊢; lia))
theorem Mk {c : Nat} (h1 : [c] ∉ signsL) (h2 : c ≠ 10) (h3 : c ≠ 59) (h4 : c ∉ [32, 9, 13]) (h5 : c ≠ 35) (h6 : c ≠ 34) (h7 : isW c = false) : sortOf [c] = nul := by
 unfold sortOf
 rw [Tm h1, Tm, Tm, Tm, Tm, Tl]
 ·rfl
 ·rw [List.filter_cons, h7]; simp
 ·simpa using h6
 ·simpa using h5
 ·unfold blanksL; simp at h4 ⊢; exact h4
 ·unfold endsL; simp; exact ⟨h2, h3⟩
theorem QZ {c : Nat} (h : [c] ∈ signsL) (hw : isW c = false) : c ∈ oneL := (show ∀ p ∈ signsL, p.length = 1 → isW (p.headD 0) = false → p.headD 0 ∈ oneL by decide) [c] h rfl hw
theorem sort_rem {q : T} : sortOf (35 :: q) = if 10 ∈ q then nul else Dq := by
 unfold sortOf
 rw [Tm, Tm, Tm, Tl (show (35 :: q).take 1 = [35] from rfl)]
 ·by_cases h : 10 ∈ q
  ·rw [Tl h, Tl (Tx _ h)]; rfl
  ·rw [Tm h, Tm (fun z => (T0.mp z).elim (by decide) h)]
 ·unfold blanksL; simp
 ·unfold endsL; simp
 ·unfold signsL; simp
theorem sort_str {q : T} : sortOf (34 :: q) = if q ≠ [] ∧ BA q = some (q.length - 1) then Ap else nul := by
 have e : ∀ q : T, ((34 :: q).count 34 = 2 ∧ (34 :: q).drop ((34 :: q).length - 1) = [34] ∧ ¬ 10 ∈ (34 :: q)) ↔ (q ≠ [] ∧ BA q = some (q.length - 1)) := by
  intro q
  induction q with
  | nil => simp
  | cons b q ih =>
   unfold BA
   cases q with
   | nil =>
    by_cases h1 : b = 10
    ·subst h1; simp
    ·by_cases h2 : b = 34
     ·subst h2; simp
     ·simp [h1, h2, BA]
   | cons d q =>
    by_cases h1 : b = 10
    ·subst h1; simp
    ·by_cases h2 : b = 34
     ·subst h2
      simp
      intro h3 h4 h5
      have : 34 ∈ (d :: q) := by
       have := UK (l := d :: q) (i := q.length) (a := 34) (by rw [h4]; simp)
       exact this
      have := List.count_pos_iff.mpr this
      lia
     ·have h3 : (34 :: b :: d :: q).count 34 = (34 :: d :: q).count 34 := by simp [h2]
      have h4 : (34 :: b :: d :: q).drop ((34 :: b :: d :: q).length - 1) = (34 :: d :: q).drop ((34 :: d :: q).length - 1) := by simp
      have h5 : 10 ∈ (34 :: b :: d :: q) ↔ 10 ∈ (34 :: d :: q) := by simp [Ne.symm h1]
      rw [h3, h4, h5, ih, Tm h1, Tm h2]
      cases BA (d :: q) <;> simp
 unfold sortOf
 rw [Tm, Tm, Tm, Tm, Tl (show (34 :: q).take 1 = [34] from rfl)]
 ·by_cases h : q ≠ [] ∧ BA q = some (q.length - 1)
  ·rw [Tl h, Tl ((e q).mpr h)]
  ·rw [Tm h, Tm fun z => h ((e q).mp z)]; rfl
 ·simp
 ·unfold blanksL; simp
 ·unfold endsL; simp
 ·unfold signsL; simp
theorem strEnd_take : ∀ (t : T) (j : Nat), BA (t.take j) = match BA t with | some n => if n < j then some n else none | none => none
 | [], j => by simp [BA]
 | c :: r, 0 => by
  rw [List.take_zero]
  cases BA (c :: r) <;> simp [BA]
 | c :: r, j + 1 => by
  rw [List.take_succ_cons, BA, BA]
  by_cases h1 : c = 10
  ·rw [Tl h1, Tl h1]
  ·rw [Tm h1, Tm h1]
   by_cases h2 : c = 34
   ·rw [Tl h2, Tl h2]; simp
   ·rw [Tm h2, Tm h2, strEnd_take r j]
    cases BA r with
    | none => rfl
    | some n =>
     show (if n < j then some n else none).map (· + 1) = if n + 1 < j + 1 then some (n + 1) else none
     by_cases h : n < j
     ·rw [Tl h, Tl (by exact Nat.succ_lt_succ (by assumption))]; rfl
     ·rw [Tm h, Tm (by lia)]; rfl
end Mine
namespace Mine
noncomputable def dots : List T := [[46], [47], [58]]
theorem Kx {p : T} (hne : p ≠ []) (hw : ∀ c ∈ p, isW c = true) : sortOf p = if p ∈ dots then Al else if Ab p = true then nul else if Aw p = true then nul else Ac := by
 have ns : ∀ q ∈ signsL, (∀ c ∈ q, isW c = true) → q ∈ dots := by decide
 have ne : ∀ q ∈ endsL, ¬ ∀ c ∈ q, isW c = true := by decide
 have nb : ∀ q ∈ blanksL, ¬ ∀ c ∈ q, isW c = true := by decide
 have hd : ∀ k, isW k = false → p.take 1 ≠ [k] := fun k hk z => by
  have : k ∈ p := UU (i := 1) (by rw [z]; simp)
  rw [hw k this] at hk; cases hk
 unfold sortOf
 by_cases h : p ∈ dots
 ·rw [Tl h, Tl ((show ∀ q ∈ dots, q ∈ signsL by decide) p h)]
 ·rw [Tm h, Tm fun z => h (ns p z hw), Tm fun z => ne p z hw, Tm fun z => nb p z hw, Tm (hd 35 (by decide)), Tm (hd 34 (by decide)), Tm]
  ·rfl
  ·rw [Decidable.not_not]; exact List.filter_eq_nil_iff.mpr fun c hc => by rw [hw c hc]; simp
theorem MU {c : Nat} {q : T} (hw : isW c = true) (hq : ∃ d ∈ q, isW d = false) : sortOf (c :: q) = nul := by
 refine BK hq fun d hd hdw => ?_; clear hq
 have hne : c ≠ 35 ∧ c ≠ 34 ∧ c ≠ 10 ∧ c ≠ 59 ∧ c ≠ 32 ∧ c ≠ 9 ∧ c ≠ 13 ∧ c ≠ 92 := by
  refine ⟨?_, ?_, ?_, ?_, ?_, ?_, ?_, ?_⟩ <;> (intro y1_; obtain rfl := y1_; revert hw; decide)
 have hs : c :: q ∉ signsL := fun z => by
  have : ∀ p ∈ signsL, isW (p.headD 0) = true → p.length = 1 := by decide
  have := this _ z hw
  cases q with
  | nil => cases hd
  | cons => simp at this
 unfold sortOf
 rw [Tm hs, Tm, Tm, Tm, Tm, Tl]
 ·rfl
 ·intro z
  have := List.filter_eq_nil_iff.mp z d (Tx _ hd)
  rw [hdw] at this; exact this rfl
 ·simpa using hne.2.1
 ·simpa using hne.1
 ·unfold blanksL; simp [hne]
 ·unfold endsL; simp [hne]
theorem tw_all (p : Nat → Bool) : ∀ (l : T), ∀ c ∈ l.takeWhile p, p c = true
 | [], c, h => by cases h
 | a :: l, c, h => by
  rw [UJ] at h
  by_cases q : p a = true
  ·rw [Tl q] at h
   rcases T0.mp h with rfl | h
   ·exact q
   ·exact tw_all p l c h
  ·rw [Tm q] at h; cases h
theorem Qa (p : Nat → Bool) (l : T) (m : Nat) (h : m ≤ (l.takeWhile p).length) : l.take m = (l.takeWhile p).take m := by
 rw [← tw_take p l, List.take_take, Nat.min_eq_left h]
theorem tw_gt (p : Nat → Bool) : ∀ (l : T) (m : Nat), (l.takeWhile p).length < m → m ≤ l.length → ∃ d ∈ l.take m, p d = false
 | [], m, h, h' => by simp at h h'; lia
 | a :: l, 0, h, _ => by lia
 | a :: l, m + 1, h, h' => by
  rw [List.take_succ_cons]
  rw [UJ] at h
  cases q : p a with
  | false => exact (A4 a (Ty ..) q)
  | true =>
   rw [Tl q, Ts] at h
   refine BK (tw_gt p l m (by exact Nat.lt_of_succ_lt_succ (by assumption)) (by simpa using h')) fun d hd e => ?_
   exact (A4 d (Tx _ hd) e)
noncomputable def runOne (run : T) : Nat := if Ab run = true then 1 else if Aw run = true then run.length - 1 else run.length
theorem run_one {c : Nat} {q : T} (hw : ∀ d ∈ c :: q, isW d = true) : ∃ n, runOne (c :: q) = n + 1 ∧ n < q.length + 1 ∧ sortOf (c :: q.take n) = (if c :: q.take n ∈ dots then Al else Ac) ∧ ∀ j, n < j → j < q.length + 1 → sortOf (c :: q.take j) = nul := by
 have hj : ∀ j, ∀ d ∈ c :: q.take j, isW d = true := fun j d hd => by
  rcases T0.mp hd with rfl | hd
  ·exact hw _ (Ty ..)
  ·exact hw _ (Tx _ (UU hd))
 have sw := fun j => Kx (p := c :: q.take j) (by simp) (hj j)
 have nd : ∀ j, 0 < j → j < q.length + 1 → c :: q.take j ∉ dots := fun j h h' z => by
  refine B6 (JC h h') fun b r e _ => ?_
  rw [e] at z; unfold dots at z; simp at z
 unfold runOne
 by_cases h1 : Ab (c :: q) = true
 ·rw [Tl h1]
  have hc : c = 58 := by unfold Ab at h1; simp at h1; exact h1.1
  refine (Dj 0 rfl (by exact Nat.succ_pos _) ?_ (fun j a b => ?_))
  ·rw [sw 0, List.take_zero, hc]; decide +kernel
  ·rw [sw j, Tm (nd j a b), Tl]
   refine GB (JC a b) fun d r e hd _ => ?_
   rw [e]
   cases q with
   | nil => simp at hd
   | cons d' q =>
    simp at hd; subst hd
    unfold Ab at h1 ⊢; simpa using h1
 ·rw [Tm h1]
  by_cases h2 : Aw (c :: q) = true
  ·rw [Tl h2]
   cases q with
   | nil =>
    exfalso; apply h1
    unfold Aw at h2; unfold Ab; simpa using h2
   | cons b q =>
    refine (Dj q.length rfl (by rw [Ts]; lia) ?_ (fun j a hb => ?_))
    ·obtain ⟨u, y, z, e⟩ : ∃ u y z, c :: b :: q = u ++ [y, z] := by
      have : ∀ (l : T) (a b : Nat), ∃ u y z, a :: b :: l = u ++ [y, z] := fun l => by
       induction l with
       | nil => exact fun a b => (Ht ([]) a b rfl)
       | cons d l ih => exact fun a b => by refine S0 (ih b d) fun u y z e => ?_; exact (Ht (a :: u) y z (by rw [e]; rfl))
      exact this q c b
     have e' : c :: (b :: q).take q.length = u ++ [y] := by
      have : c :: (b :: q).take q.length = (c :: b :: q).take (q.length + 1) := rfl
      rw [this, e]
      have : q.length + 1 = u.length + 1 := by have := congrArg List.length e; simp at this; lia
      rw [this, List.take_append, UT (by exact Nat.le_succ _), Nat.add_sub_cancel_left]; rfl
     have hzy : z = 58 ∧ y ≠ 58 := by
      rw [e] at h2
      unfold Aw at h2
      simp at h2
      exact ⟨h2.1, fun hy => h2.2.elim (fun k => k hy) fun k => k h2.1⟩
     have hl : Aw (u ++ [y]) = false := by
      unfold Aw; simp [hzy.2]
     rw [sw q.length, e']
     by_cases hd : u ++ [y] ∈ dots
     ·rw [Tl hd, Tl hd]
     ·rw [Tm hd, Tm hd, Tm, Tm (by rw [hl]; exact UR)]
      intro hf
      apply h1
      cases u with
      | nil =>
       unfold Ab at hf; simp at hf; exact absurd hf hzy.2
      | cons a0 u =>
       rw [e]
       cases u with
       | nil =>
        unfold Ab at hf ⊢; simp at hf ⊢; exact hf
       | cons a1 u => unfold Ab at hf ⊢; simpa using hf
    ·have : j = q.length + 1 := by simp at hb; lia
     subst this
     rw [sw, Tm (nd _ (by exact Nat.succ_pos _) hb)]
     have : (b :: q).take (q.length + 1) = b :: q := UT (by simp)
     rw [this, Tm h1, Tl h2]
  ·rw [Tm h2]
   refine (Dj q.length rfl (by exact Nat.lt_succ_self _) ?_ (fun j a b => by lia))
   rw [sw, List.take_length, Tm h1, Tm h2]
theorem Oh (c : Nat) (t : T) : match one c t with
  | some n => ∃ m, n = m + 1 ∧ (fits (c :: t)).getLast? = some m ∧ sortOf (c :: t.take m) ≠ nul
  | none => fits (c :: t) = [] := by
 have long : isW c = false → c ≠ 35 → c ≠ 34 → ∀ j, 0 < j → j < t.length + 1 → c :: t.take j ∉ twoL → c :: t.take j ≠ [92, 10] → sortOf (c :: t.take j) = nul := fun h1 h2 h3 j a b h4 h5 => by
  refine B6 (JC a b) fun d r e _ => ?_
  rw [e] at h4 h5 ⊢
  exact Om h4 h5 h2 h3 h1
 have two2 : ∀ j, 1 < j → j < t.length + 1 → c :: t.take j ∉ twoL := fun j a b z => by
  have : ∀ p ∈ twoL, p.length = 2 := by decide
  have := this _ z
  simp at this; lia
 have two1 : ∀ j, 0 < j → j < t.length + 1 → (c :: t).take 2 ∉ twoL → c :: t.take j ∉ twoL := fun j a b h z => by
  by_cases q : j = 1
  ·subst q; exact h z
  ·exact two2 j (by lia) b z
 have nl : ∀ j, ¬ (c = 92 ∧ t.take 1 = [10]) → c :: t.take j ≠ [92, 10] := fun j h z => by
  have h1 : c = 92 := by injection z
  have h2 : t.take j = [10] := by injection z
  refine h ⟨h1, ?_⟩
  have := congrArg (List.take 1) h2
  rw [List.take_take] at this
  cases j with
  | zero => simp at h2
  | succ j => rw [Nat.min_eq_left (by exact T6 _ _)] at this; exact this
 unfold one
 by_cases c1 : c = 10
 ·subst c1
  rw [Tl rfl]
  refine (B0 0 rfl (Cd (by exact Nat.succ_pos _) (show sortOf [10] ≠ nul by decide +kernel) fun j a b => long (by decide) (by decide) (by decide) j a b (fun z => ?_) (nl j fun z => absurd z.1 (by decide))) (show sortOf [10] ≠ nul by decide +kernel))
  exact (show ∀ p ∈ twoL, p.headD 0 ≠ 10 by decide) _ z rfl
 rw [Tm c1]
 by_cases c2 : c = 59
 ·subst c2
  rw [Tl rfl]
  refine (B0 0 rfl (Cd (by exact Nat.succ_pos _) (show sortOf [59] ≠ nul by decide +kernel) fun j a b => long (by decide) (by decide) (by decide) j a b (fun z => ?_) (nl j fun z => absurd z.1 (by decide))) (show sortOf [59] ≠ nul by decide +kernel))
  exact (show ∀ p ∈ twoL, p.headD 0 ≠ 59 by decide) _ z rfl
 rw [Tm c2]
 by_cases c3 : c = 35
 ·subst c3
  rw [Tl rfl]
  have hn : ∀ j, j ≤ (t.takeWhile (· != 10)).length → 10 ∉ t.take j := fun j h z => by
   rw [Qa _ _ _ h] at z
   have := tw_all (· != 10) t 10 (UU z)
   simp at this
  have hs : sortOf (35 :: t.take (t.takeWhile (· != 10)).length) ≠ nul := by
   rw [sort_rem, Tm (hn _ (Tv _))]; exact k3
  refine (B0 ((t.takeWhile (· != 10)).length) (Nat.add_comm ..) (Cd (by have := takeWhile_len (p := (· != 10)) t; exact Nat.lt_succ_of_le (by assumption)) hs fun j a b => ?_) hs)
  refine BK (tw_gt (· != 10) t j a (by exact Nat.le_of_lt_succ (by assumption))) fun d hd e => ?_
  have : d = 10 := by simpa using e
  rw [sort_rem, Tl (this ▸ hd)]
 rw [Tm c3]
 by_cases c4 : c = 92 ∧ t.take 1 = [10]
 ·rw [Tl c4]
  refine xA c4 fun z0_ h => ?_; clear c4; obtain rfl := z0_
  have hl : 1 < t.length + 1 := by cases t <;> simp at h ⊢
  have hs : sortOf (92 :: t.take 1) ≠ nul := by rw [h]; decide +kernel
  refine (B0 1 rfl (Cd hl hs fun j a b => long (by decide) (by decide) (by decide) j (by exact Nat.lt_of_le_of_lt (T6 _ _) (by assumption)) b (two2 j a b) fun z => ?_) hs)
  have := congrArg List.length z
  simp at this; lia
 rw [Tm c4]
 by_cases c5 : c = 34
 ·subst c5
  rw [Tl rfl]
  have hk : ∀ j, j < t.length + 1 → sortOf (34 :: t.take j) = if 0 < j ∧ BA t = some (j - 1) then Ap else nul := fun j b => by
   have hl : (t.take j).length = j := by simp; lia
   rw [sort_str, hl, strEnd_take]
   by_cases q : 0 < j ∧ BA t = some (j - 1)
   ·rw [Tl q, Tl]
    refine ⟨fun z => by rw [z] at hl; simp at hl; lia, ?_⟩
    rw [q.2]; exact Tl (by lia)
   ·rw [Tm q, Tm]
    intro y1_; refine xA y1_ fun z1 z2 => ?_; clear y1_
    apply q
    refine ⟨Nat.pos_of_ne_zero fun z => z1 (by rw [z]; rfl), ?_⟩
    cases hs : BA t with
    | none => rw [hs] at z2; cases z2
    | some n =>
     rw [hs] at z2
     have z3 : (if n < j then some n else none) = some (j - 1) := z2
     by_cases g : n < j
     ·rwa [Tl g] at z3
     ·rw [Tm g] at z3; cases z3
  cases hs : BA t with
  | none => exact Kw fun j b => by rw [hk j b, hs, Tm (fun z => by cases z.2)]
  | some n =>
   have hn := strEnd_lt hs
   have h1 : sortOf (34 :: t.take (n + 1)) ≠ nul := by rw [hk _ (by exact Nat.succ_lt_succ (by assumption)), Tl ⟨by exact Nat.succ_pos _, hs⟩]; exact k4
   exact (B0 (n + 1) rfl (Cd (by exact Nat.succ_lt_succ (by assumption)) h1 fun j a b => by rw [hk j b, hs, Tm]; intro y1_; refine xA y1_ fun _ z => ?_; clear y1_; cases z; lia) h1)
 rw [Tm c5]
 by_cases c6 : isW c = true
 ·rw [Tl c6]
  have hr : (c :: t).takeWhile isW = c :: t.takeWhile isW := by rw [UJ, Tl c6]
  refine FN (run_one (c := c) (q := t.takeWhile isW) fun d hd => tw_all isW (c :: t) d (hr ▸ hd)) fun n h1 h2 h3 h4 => ?_
  rw [hr]
  show match (if Ab (c :: t.takeWhile isW) = true then some 1 else if Aw (c :: t.takeWhile isW) = true then some ((c :: t.takeWhile isW).length - 1) else some (c :: t.takeWhile isW).length) with | some n => _ | none => _
  have e : (if Ab (c :: t.takeWhile isW) = true then some 1 else if Aw (c :: t.takeWhile isW) = true then some ((c :: t.takeWhile isW).length - 1) else some (c :: t.takeWhile isW).length) = some (n + 1) := by
   rw [← h1]; unfold runOne; split; rfl; split <;> rfl
  rw [e]
  have hlt := takeWhile_len (p := isW) t
  have h5 : sortOf (c :: t.take n) ≠ nul := by
   rw [Qa isW t n (by exact Nat.le_of_lt_succ (by assumption)), h3]; split; exact k1; exact k5
  refine (B0 n rfl (Cd (by lia) h5 fun j a b => ?_) h5)
  by_cases q : j < (t.takeWhile isW).length + 1
  ·rw [Qa isW t j (by exact Nat.le_of_lt_succ (by assumption))]; exact h4 j a q
  ·exact MU c6 (tw_gt isW t j (by lia) (by exact Nat.le_of_lt_succ (by assumption)))
 rw [Tm c6]
 have c6' : isW c = false := by simpa using c6
 by_cases c7 : (c :: t).take 2 ∈ twoL
 ·rw [Tl c7]
  have hs : sortOf (c :: t.take 1) ≠ nul := by rw [sort_sign (show c :: t.take 1 ∈ signsL from two_sign c7)]; exact k1
  have hl : 1 < t.length + 1 := by
   cases t with
   | nil => exact absurd c7 (by unfold twoL; simp)
   | cons => simp
  exact (B0 1 rfl (Cd hl hs fun j a b => long c6' c3 c5 j (by exact Nat.lt_of_le_of_lt (T6 _ _) (by assumption)) b (two2 j a b) (nl j c4)) hs)
 rw [Tm c7]
 by_cases c8 : c ∈ oneL
 ·rw [Tl c8]
  have hs : sortOf (c :: t.take 0) ≠ nul := by rw [List.take_zero, sort_sign (one_sign c8)]; exact k1
  exact (B0 0 rfl (Cd (by exact Nat.succ_pos _) hs fun j a b => long c6' c3 c5 j a b (two1 j a b c7) (nl j c4)) hs)
 rw [Tm c8]
 by_cases c9 : c ∈ [32, 9, 13]
 ·rw [Tl c9]
  have hs : sortOf (c :: t.take 0) ≠ nul := (show ∀ d ∈ [32, 9, 13], sortOf [d] ≠ nul by decide +kernel) c c9
  exact (B0 0 rfl (Cd (by exact Nat.succ_pos _) hs fun j a b => long c6' c3 c5 j a b (two1 j a b c7) (nl j c4)) hs)
 rw [Tm c9]
 refine Kw fun j b => ?_
 by_cases q : j = 0
 ·subst q
  exact Mk (fun z => c8 (QZ z c6')) c1 c2 c9 c3 c5 c6'
 ·exact long c6' c3 c5 j (by exact Nat.pos_of_ne_zero (by assumption)) b (two1 j (by exact Nat.pos_of_ne_zero (by assumption)) b c7) (nl j c4)
end Mine
namespace Mine
noncomputable def mid (p : T) : T := cut (some 1) (some (-1)) p
noncomputable def tokOf (p : T) (q : Int × Int) : List D := if sortOf p = Dq then [] else [tok (sortOf p) (S (if sortOf p = Ap then mid p else p)) q.1 q.2]
noncomputable def whyOf (c : Nat) : Str := if c = 34 then "unterminated string" else badSign c
inductive Lex : T → Int × Int → List D → Res (List D × Int × Int) → Prop
 | nil {p : Int × Int} {ts : List D} : Lex [] p ts (.ok (ts, p.1, p.2))
 | bad {c : Nat} {t : T} {p : Int × Int} {ts : List D} (h : one c t = none) : Lex (c :: t) p ts (.exc (whyOf c, p.1, p.2))
 | go {c : Nat} {t : T} {p : Int × Int} {ts : List D} {n : Nat} {r : Res (List D × Int × Int)} (h : one c t = some (n + 1)) (k : Lex (t.drop n) ((c :: t.take n).foldl adv1 p) (ts ++ tokOf (c :: t.take n) p) r) : Lex (c :: t) p ts r
noncomputable def lr (x : T) (a : Nat) (u3 u4 u5 u6 : Option W) (ts : List D) : Loc := ⟨[some (.d (.str (S x))), some (.lst 0), some (.d (.int a)), u3, u4, u5, u6], [.list ts]⟩
theorem MP (f : Nat → Int) (l : List Nat) : SeqAt.shaped (.list (l.map fun i => (.int (f i) : D))) = true := by
 have e : ∀ l : List Nat, PyData.canLayAll0 (l.map fun i => (.int (f i) : D)) = true ∧ PyData.depthAll (l.map fun i => (.int (f i) : D)) = 0 := fun l => by
  induction l with
  | nil => exact ⟨rfl, rfl⟩
  | cons a r ih => exact ⟨by rw [T1, PyData.canLayAll0, ih.1]; rfl, by rw [T1, PyData.depthAll, ih.2]; rfl⟩
 unfold SeqAt.shaped
 rw [PyData.canLay0, (e l).1, PyData.depth, (e l).2]; rfl
theorem item_last {g : Nat → D} {l : List Nat} {z : Nat} (h : l.getLast? = some z) : AG (.list (l.map g)) (.int (-1)) = .ok (g z) := by
 show (if (-1 : Int).natAbs < 2 ^ 62 then (match at? (l.map g) (-1) with | some d => Res.ok d | none => .fail) else .fail) = _
 have hl : 0 < l.length := by cases l with | nil => simp at h | cons => simp
 have : at? (l.map g) (-1) = some (g z) := by
  unfold at?
  rw [Tm (by decide), Tl (by rw [Tu]; lia), Tu, show ((-1 : Int) + (l.length : Int)).toNat = l.length - 1 by lia, UH, ← List.getLast?_eq_getElem?, h]; rfl
 rw [Tl (by decide), this]
theorem Ri {fi : Loc → Res (List D)} {ft : Loc → Res Bool} {idx : List Nat} {l : Loc} {i : Nat} {es ds : List D} (h1 : fi l = .ok es) (hl : es.length ≤ sizeLine) (h2 : BO (fun d => ft (Hv l idx d)) es = .ok ds) : Kt i fi ft idx l = .ok (.next, l.setv i (.d (.list ds))) := by
 unfold Kt Bu; rw [h1, bind_ok', Tl hl, h2]; rfl
theorem neS (s t : Str) : (s != t) = decide (s ≠ t) := by
 rw [bne, show (s == t) = decide (s = t) from rfl]
 by_cases h : s = t <;> simp [h]
section
variable {x : T} {a : Nat} {c : Nat} {t : T} {ts : List D} {u3 u4 u5 u6 : Option W}
theorem place_take (hd : x.drop a = c :: t) (n : Nat) : place (x.take (a + (n + 1))) = (c :: t.take n).foldl adv1 (place (x.take a)) := by
 unfold place
 have : x.take (a + (n + 1)) = x.take a ++ (c :: t).take (n + 1) := by rw [List.take_add, hd]
 rw [this, List.foldl_append]; rfl
theorem place_at (hx : x.length + 2 ≤ sizeLine) (ha : a ≤ x.length) : ((((AY none (some (a : Int)) (.str (S x))).bind fun d => .ok (W.d d)).bind fun u => (Res.ok []).bind fun us => .ok (u :: us)).bind (AN f_law_place names_law_place 1)).bind Bb = .ok (.tuple [.int (place (x.take a)).1, .int (place (x.take a)).2]) := by
 rw [opCut_S _ _ (by exact T2 (T3 _ _) (by assumption)), P8 _ _ ha]
 show (AN f_law_place names_law_place 1 [.d (.str (S (x.take a)))]).bind Bb = _
 rw [law_place_ _ (by simp; lia)]; rfl
theorem Ou (hx : x.length + 2 ≤ sizeLine) (hv : ∀ d ∈ x, d < 1114112) (hd : x.drop a = c :: t) :
  Kt 3 (fun l => (((getv l 2).bind fun d => (Res.ok (.int 1)).bind fun e => AM d e).bind fun d => ((((getv l 0).bind Ar).bind fun d => (Res.ok (.int 1)).bind fun e => AM d e).bind fun d => (Res.ok []).bind fun ds => .ok (d :: ds)).bind fun ds => .ok (d :: ds)).bind B7) f_law_read_c1 [2, 0] (lr x a u3 u4 u5 u6 ts)
   = .ok (.next, lr x a (some (.d (.list ((fits (c :: t)).map fun i => .int ((a + 1 + i : Nat) : Int))))) u4 u5 u6 ts) := by
 have hlt := (CM hd).2.1
 have hl : x.length = a + (t.length + 1) := by have := congrArg List.length hd; simp at this; lia
 have e1 : ((((getv (lr x a u3 u4 u5 u6 ts) 2).bind fun d => (Res.ok (.int 1)).bind fun e => AM d e).bind fun d => ((((getv (lr x a u3 u4 u5 u6 ts) 0).bind Ar).bind fun d => (Res.ok (.int 1)).bind fun e => AM d e).bind fun d => (Res.ok []).bind fun ds => .ok (d :: ds)).bind fun ds => .ok (d :: ds)).bind B7) = .ok ((List.range (t.length + 1)).map fun i => .int ((a + 1 + i : Nat) : Int)) := by
  show ((((Ar (.str (S x))).bind fun d => (Res.ok (.int 1)).bind fun e => AM d e).bind fun d => (Res.ok []).bind fun ds => .ok (d :: ds)).bind fun ds => Res.ok (.int ((a : Int) + 1) :: ds)).bind B7 = _
  rw [opLen_S (by exact T2 (T3 _ _) (by assumption))]
  have h62 : ∀ n : Nat, n ≤ sizeLine → ((n : Int) + 1).natAbs < 2 ^ 62 := fun n h => by rw [show (n : Int) + 1 = ((n + 1 : Nat) : Int) from rfl, Int.natAbs_natCast]; have := szl; lia
  refine (Tl (c := ((a : Int) + 1).natAbs < 2 ^ 62 ∧ ((x.length : Int) + 1).natAbs < 2 ^ 62) ⟨h62 _ (by lia), h62 _ (by exact T2 (T3 _ _) (by assumption))⟩).trans ?_
  rw [show (((x.length : Int) + 1) - ((a : Int) + 1)).toNat = t.length + 1 by lia]
  rfl
 have e2 : ∀ i, f_law_read_c1 (Hv (lr x a u3 u4 u5 u6 ts) [2, 0] (.int ((a + 1 + i : Nat) : Int))) = .ok (decide (sortOf ((c :: t).take (i + 1)) ≠ nul)) := fun i => by
  show ((((((AY (some (a : Int)) (some ((a + 1 + i : Nat) : Int)) (.str (S x))).bind fun d => .ok (W.d d)).bind fun u => (Res.ok []).bind fun us => .ok (u :: us)).bind (AN f_law_sort names_law_sort 1)).bind Bb).bind fun d => (Res.ok (.str "")).bind fun e => A2 d e).bind AF = _
  rw [show a + 1 + i = a + (i + 1) by lia, cut_at (by exact T2 (T3 _ _) (by assumption)) hd]
  show (((AN f_law_sort names_law_sort 1 [.d (.str (S ((c :: t).take (i + 1))))]).bind Bb).bind fun d => (Res.ok (.str "")).bind fun e => A2 d e).bind AF = _
  rw [law_sort_ (by simp; lia) (by simp) fun d z => hv d (UK (hd ▸ UU z)), ls0]
  show Res.ok (sortOf ((c :: t).take (i + 1)) != nul) = _
  exact congrArg Res.ok (neS _ _)
 refine (Ri e1 (by rw [Tu, List.length_range]; lia) (Gp e2 _)).trans ?_
 rfl
theorem fits_test (l : List Nat) : (((getv (lr x a (some (.d (.list (l.map fun i => .int ((a + 1 + i : Nat) : Int))))) u4 u5 u6 ts) 3).bind fun d => ((Res.ok []).bind BB).bind fun e => AZ d e).bind AF) = .ok (decide (l = [])) := by
 have sh := MP (fun i => ((a + 1 + i : Nat) : Int)) l
 show (if (SeqAt.shaped (.list (l.map fun i => (.int ((a + 1 + i : Nat) : Int) : D))) && SeqAt.shaped (.list [])) = true then Res.ok (PyData.bool (PyData.eqv (.list (l.map fun i => (.int ((a + 1 + i : Nat) : Int) : D))) (.list []))) else .fail).bind AF = _
 rw [sh]
 cases l <;> rfl
theorem law_turn (hx : x.length + 2 ≤ sizeLine) (hv : ∀ d ∈ x, d < 1114112) (hd : x.drop a = c :: t) (ht : ts.length ≤ sizeLine) :
  match one c t with
  | none => ∃ l, CL (lr x a u3 u4 u5 u6 ts) = .ok (.ret (.val (.tuple [.str (whyOf c), .int (place (x.take a)).1, .int (place (x.take a)).2])), l)
  | some n => ∃ m v3 v4 v5 v6, n = m + 1 ∧ m < t.length + 1 ∧ CL (lr x a u3 u4 u5 u6 ts) = .ok (.next, lr x (a + (m + 1)) v3 v4 v5 v6 (ts ++ tokOf (c :: t.take m) (place (x.take a)))) := by
 obtain ⟨hc, hlt, hr⟩ := CM hd
 have hf := Oh c t
 have h1 := Ou (u3 := u3) (u4 := u4) (u5 := u5) (u6 := u6) (ts := ts) hx hv hd
 cases ho : one c t with
 | none =>
  rw [ho] at hf
  have h2 := fits_test (x := x) (a := a) (u4 := u4) (u5 := u5) (u6 := u6) (ts := ts) (fits (c :: t))
  rw [Tp hf] at h2
  refine ⟨lr x a (some (.d (.list ((fits (c :: t)).map fun i => .int ((a + 1 + i : Nat) : Int))))) (some (.d (.str (whyOf c)))) u5 u6 ts, (seq_next h1).trans (seq_ret ((if_t h2 rfl).trans ((seq_next (set_ok (d := .str (whyOf c)) ?_)).trans (seq_ret ?_))))⟩
  ·show ((((AG (.str (S x)) (.int a)).bind fun d => (Res.ok (.str "\"")).bind fun e => AZ d e).bind AF).bind fun c => if c then Res.ok (.str "unterminated string") else (((Res.ok (.str "unexpected character '")).bind fun d => (AG (.str (S x)) (.int a)).bind fun e => AM d e).bind fun d => (Res.ok (.str "'")).bind fun e => AM d e)) = _
   rw [opItem_at hc (by exact T2 (T3 _ _) (by assumption)), ls34]
   show ((Res.ok (C1 c == S [34])).bind fun b => if b = true then Res.ok (PyData.str "unterminated string") else _) = _
   rw [Q2]
   unfold whyOf
   by_cases q : c = 34
   ·rw [Tp q, Tl q]; rfl
   ·rw [Tq q, Tm q]; kernel_rfl
  ·show ((Res.ok (.tuple [.str (whyOf c)])).bind fun d => (((((AY none (some (a : Int)) (.str (S x))).bind fun d => .ok (W.d d)).bind fun u => (Res.ok []).bind fun us => .ok (u :: us)).bind (AN f_law_place names_law_place 1)).bind Bb).bind fun e => AM d e).bind _ = _
   rw [place_at hx (by exact Nat.le_of_lt (by assumption))]; rfl
 | some n =>
  rw [ho] at hf
  obtain ⟨m, rfl, hm, hs⟩ := hf
  have hne : fits (c :: t) ≠ [] := fun z => by rw [z] at hm; cases hm
  have h2 := fits_test (x := x) (a := a) (u4 := u4) (u5 := u5) (u6 := u6) (ts := ts) (fits (c :: t))
  rw [Tq hne] at h2
  have hmt : m < t.length + 1 := by
   have := List.mem_of_getLast? hm
   unfold fits at this
   have := List.mem_range.mp (List.mem_filter.mp this).1
   simpa using this
  have hl : x.length = a + (t.length + 1) := by have := congrArg List.length hd; simp at this; lia
  have hi := item_last (g := fun i => .int ((a + 1 + i : Nat) : Int)) hm
  have hpart : (c :: t).take (m + 1) = c :: t.take m := rfl
  have hps : ∀ d ∈ c :: t.take m, d < 1114112 := fun d z => by
   have z' : d ∈ x.drop a := by rw [hd]; exact UU (i := m + 1) z
   exact hv d (UK z')
  have g5 : Aq 5 (fun l => (getv l 0).bind fun d => ((getv l 2).bind Ah).bind fun lo => (((getv l 3).bind fun d => ((Res.ok (.int 1)).bind Ck).bind fun e => AG d e).bind Ah).bind fun hi => AY lo hi d) (lr x a (some (.d (.list ((fits (c :: t)).map fun i => .int ((a + 1 + i : Nat) : Int))))) u4 u5 u6 ts) = .ok (.next, lr x a (some (.d (.list ((fits (c :: t)).map fun i => .int ((a + 1 + i : Nat) : Int))))) u4 (some (.d (.str (S (c :: t.take m))))) u6 ts) := by
   refine (set_ok (d := .str (S (c :: t.take m))) ?_).trans rfl
   show (((AG (.list ((fits (c :: t)).map fun i => .int ((a + 1 + i : Nat) : Int))) (.int (-1))).bind Ah).bind fun hi => AY (some (a : Int)) hi (.str (S x))) = _
   rw [hi]
   show AY (some (a : Int)) (some ((a + 1 + m : Nat) : Int)) (.str (S x)) = _
   rw [show a + 1 + m = a + (m + 1) by lia, cut_at (by exact T2 (T3 _ _) (by assumption)) hd]; rfl
  have hsz : (c :: t.take m).length ≤ sizeLine := by simp; lia
  have g6 : Aq 6 (fun l => ((((getv l 5).bind fun d => .ok (W.d d)).bind fun u => (Res.ok []).bind fun us => .ok (u :: us)).bind (AN f_law_sort names_law_sort 1)).bind Bb) (lr x a (some (.d (.list ((fits (c :: t)).map fun i => .int ((a + 1 + i : Nat) : Int))))) u4 (some (.d (.str (S (c :: t.take m))))) u6 ts) = .ok (.next, lr x a (some (.d (.list ((fits (c :: t)).map fun i => .int ((a + 1 + i : Nat) : Int))))) u4 (some (.d (.str (S (c :: t.take m))))) (some (.d (.str (sortOf (c :: t.take m))))) ts) := by
   refine (set_ok (d := .str (sortOf (c :: t.take m))) ?_).trans rfl
   show (AN f_law_sort names_law_sort 1 [.d (.str (S (c :: t.take m)))]).bind Bb = _
   rw [law_sort_ hsz (by simp) hps]; rfl
  have gb : (((getv (lr x a (some (.d (.list ((fits (c :: t)).map fun i => .int ((a + 1 + i : Nat) : Int))))) u4 (some (.d (.str (S (c :: t.take m))))) (some (.d (.str (sortOf (c :: t.take m))))) ts) 6).bind fun d => (Res.ok (.str "blank")).bind fun e => A2 d e).bind AF) = .ok (decide (sortOf (c :: t.take m) ≠ Dq)) := congrArg Res.ok (neS _ _)
  have fin : ∀ ts', GC (lr x a (some (.d (.list ((fits (c :: t)).map fun i => .int ((a + 1 + i : Nat) : Int))))) u4 (some (.d (.str (S (c :: t.take m))))) (some (.d (.str (sortOf (c :: t.take m))))) ts') = .ok (.next, lr x (a + (m + 1)) (some (.d (.list ((fits (c :: t)).map fun i => .int ((a + 1 + i : Nat) : Int))))) u4 (some (.d (.str (S (c :: t.take m))))) (some (.d (.str (sortOf (c :: t.take m))))) ts') := fun ts' => by
   refine seq_nop.trans ((set_ok (d := .int ((a + (m + 1) : Nat) : Int)) ?_).trans rfl)
   refine hi.trans ?_
   rw [show a + 1 + m = a + (m + 1) by lia]
  refine ⟨m, some (.d (.list ((fits (c :: t)).map fun i => .int ((a + 1 + i : Nat) : Int)))), u4, some (.d (.str (S (c :: t.take m)))), some (.d (.str (sortOf (c :: t.take m)))), rfl, hmt, (seq_next h1).trans ((seq_next (if_f h2 rfl)).trans ((seq_next g5).trans ((seq_next g6).trans ?_)))⟩
  unfold tokOf
  by_cases q : sortOf (c :: t.take m) = Dq
  ·rw [Tl q, UD]
   rw [Tq (UB q)] at gb
   exact (seq_next (if_f gb rfl)).trans (fin ts)
  ·rw [Tm q]
   rw [Tp (p := sortOf (c :: t.take m) ≠ Dq) q] at gb
   refine (seq_next ((if_t gb rfl).trans (seq_nop.trans (app_ok (k := 0) (d := tok (sortOf (c :: t.take m)) (S (if sortOf (c :: t.take m) = Ap then mid (c :: t.take m) else c :: t.take m)) (place (x.take a)).1 (place (x.take a)).2) rfl ?_ ht)))).trans (fin _)
   have hp := place_at (x := x) (a := a) hx (by exact Nat.le_of_lt (by assumption))
   show (((((((Res.ok (sortOf (c :: t.take m) == "string")).bind fun c_1 => if c_1 then (AY (some 1) (some (-1)) (.str (S (c :: t.take m)))) else Res.ok (.str (S (c :: t.take m)))).bind fun d => (Res.ok []).bind fun ds => .ok (d :: ds)).bind fun ds => Res.ok (.str (sortOf (c :: t.take m)) :: ds)).bind AV).bind fun d => ((((((AY none (some (a : Int)) (.str (S x))).bind fun d => .ok (W.d d)).bind fun u => (Res.ok []).bind fun us => .ok (u :: us)).bind (AN f_law_place names_law_place 1)).bind Bb).bind fun e => AM d e))) = _
   rw [hp, show (sortOf (c :: t.take m) == "string") = decide (sortOf (c :: t.take m) = Ap) from rfl]
   by_cases qs : sortOf (c :: t.take m) = Ap
   ·rw [Tp qs, Tl qs]
    show ((((AY (some 1) (some (-1)) (.str (S (c :: t.take m)))).bind fun d => (Res.ok []).bind fun ds => .ok (d :: ds)).bind fun ds => Res.ok (.str (sortOf (c :: t.take m)) :: ds)).bind AV).bind _ = _
    rw [opCut_S _ _ hsz]; rfl
   ·rw [Tq qs, Tm qs]; rfl
theorem Od (p : T) (q : Int × Int) : (tokOf p q).length ≤ 1 := by unfold tokOf; split <;> simp
noncomputable def Ro (x : T) (n : Nat) (o : Res (Fl × Loc)) (res : Res (List D × Int × Int)) : Prop := match res with
 | .ok (ts', row, col) => ∃ v3 v4 v5 v6, o = .ok (.next, lr x x.length v3 v4 v5 v6 ts') ∧ ts'.length ≤ n ∧ (row, col) = place x
 | .exc (w, row, col) => ∃ l, o = .ok (.ret (.val (.tuple [.str w, .int row, .int col])), l)
 | .fail => False
theorem QO (hx : x.length + 2 ≤ sizeLine) (hv : ∀ d ∈ x, d < 1114112) {r : T} {p : Int × Int} {us : List D} {res : Res (List D × Int × Int)} (L : Lex r p us res) :
  ∀ (k a : Nat) (u3 u4 u5 u6 : Option W), x.drop a = r → a ≤ x.length → p = place (x.take a) → r.length < k → us.length + r.length ≤ sizeLine →
  Ro x (us.length + r.length) (Ao Ci CL k (lr x a u3 u4 u5 u6 us)) res := by
 have htest : ∀ a u3 u4 u5 u6 ts, Ci (lr x a u3 u4 u5 u6 ts) = .ok (decide (a < x.length)) := fun a u3 u4 u5 u6 ts => by
  show (((Ar (.str (S x))).bind fun e => DI (.int a) e).bind AF) = _
  rw [opLen_S (by exact T2 (T3 _ _) (by assumption)), bind_ok', opLt_len]
 induction L with
 | @nil p ts =>
  intro k a u3 u4 u5 u6 hd ha hp hk hs
  obtain ⟨k, rfl⟩ : ∃ j, k = j + 1 := ⟨k - 1, by lia⟩
  have h1 : x.length ≤ a := by simpa using hd
  have h2 : a = x.length := by exact Nat.le_antisymm (by assumption) (by assumption)
  have h3 := htest a u3 u4 u5 u6 ts
  rw [Tq (by exact Nat.not_lt.mpr (by assumption))] at h3
  refine (Fv u3 u4 u5 u6 ?_ (by exact T3 _ _) ?_)
  ·rw [whileM_stop k h3, h2]
  ·rw [hp, h2, List.take_length]
 | @bad c t p ts h =>
  intro k a u3 u4 u5 u6 hd ha hp hk hs
  obtain ⟨k, rfl⟩ : ∃ j, k = j + 1 := ⟨k - 1, by simp at hk; lia⟩
  have h3 := htest a u3 u4 u5 u6 ts
  rw [Tp (CM hd).2.1] at h3
  have h4 := law_turn (u3 := u3) (u4 := u4) (u5 := u5) (u6 := u6) (ts := ts) hx hv hd (by exact T2 (T3 _ _) (by assumption))
  rw [h] at h4
  obtain ⟨l, h4⟩ := h4
  rw [hp]
  exact ⟨l, whileM_ret k h3 h4⟩
 | @go c t p ts n r h k' ih =>
  intro k a u3 u4 u5 u6 hd ha hp hk hs
  obtain ⟨k, rfl⟩ : ∃ j, k = j + 1 := ⟨k - 1, by simp at hk; lia⟩
  have h3 := htest a u3 u4 u5 u6 ts
  rw [Tp (CM hd).2.1] at h3
  have h4 := law_turn (u3 := u3) (u4 := u4) (u5 := u5) (u6 := u6) (ts := ts) hx hv hd (by exact T2 (T3 _ _) (by assumption))
  rw [h] at h4
  obtain ⟨m, v3, v4, v5, v6, e, hm, h4⟩ := h4
  obtain rfl : n = m := by lia
  have hl : x.length = a + (t.length + 1) := by have := congrArg List.length hd; simp at this; lia
  have hw := whileM_go k h3 h4 (.inl rfl)
  rw [← hp] at hw
  have hkl := Od (c :: t.take n) p
  simp only [Ts] at hk hs
  have := ih k (a + (n + 1)) v3 v4 v5 v6 (by rw [← T9, hd]; rfl) (by lia) (by rw [place_take hd, hp]) (by simp; lia) (by simp; lia)
  revert this
  match r with
  | .fail => exact id
  | .exc (w, row, col) => intro y1_; obtain ⟨l, z⟩ := y1_; exact ⟨l, hw.trans z⟩
  | .ok (ts', row, col) =>
   intro y1_; obtain ⟨v3, v4, v5, v6, z1, z2, z3⟩ := y1_
   refine (Fv v3 v4 v5 v6 (hw.trans z1) ?_ z3)
   simp at z2 ⊢; lia
end
end Mine
namespace Mine
theorem K3 : ∀ (l : T) (p : Int × Int), 10 ∉ l → l.foldl adv1 p = (p.1, p.2 + l.length)
 | [], p, _ => by simp
 | c :: l, p, h => by
  have h1 : c ≠ 10 := fun z => h (z ▸ Ty ..)
  rw [List.foldl_cons, K3 l _ (fun z => h (Tx _ z))]
  unfold adv1
  rw [Tm h1, Ts, Int.natCast_add, Int.add_assoc, Int.add_comm 1]; rfl
theorem Lex.one_tok {c : Nat} {t : T} {p : Int × Int} {ts us : List D} {n : Nat} {r : Res (List D × Int × Int)} (h : one c t = some (n + 1)) (hn : 10 ∉ c :: t.take n) (ht : tokOf (c :: t.take n) p = us) (hl : n < t.length + 1)
  (k : Lex (t.drop n) (p.1, p.2 + ((n + 1 : Nat) : Int)) (ts ++ us) r) : Lex (c :: t) p ts r := by
 refine .go h ?_
 rw [K3 _ _ hn, ht, Ts, List.length_take, Nat.min_eq_left (by exact Nat.le_of_lt_succ (by assumption))]
 exact k
theorem Mq {p : T} {q : Int × Int} (h : sortOf p = Ac) : tokOf p q = [tok Ac (S p) q.1 q.2] := by
 unfold tokOf; rw [h, Tm (by decide +kernel), Tm (by decide +kernel)]
theorem Fg {p : T} {q : Int × Int} (h : sortOf p = Al) : tokOf p q = [tok Al (S p) q.1 q.2] := by
 unfold tokOf; rw [h, Tm (by decide +kernel), Tm (by decide +kernel)]
theorem Ip {p : T} {q : Int × Int} (h : sortOf p = BH) : tokOf p q = [tok BH (S p) q.1 q.2] := by
 unfold tokOf; rw [h, Tm (by decide +kernel), Tm (by decide +kernel)]
theorem Ef {p : T} {q : Int × Int} (h : sortOf p = Dq) : tokOf p q = [] := by unfold tokOf; rw [Tl h]
theorem Sr {l : T} (h : ∀ c ∈ l, isW c = true) : 10 ∉ l := fun z => by have := h 10 z; revert this; decide
theorem I7 {c : Nat} {t : T} (hw : isW c = true) : one c t = some (runOne ((c :: t).takeWhile isW)) := by
 have h : c ≠ 10 ∧ c ≠ 59 ∧ c ≠ 35 ∧ c ≠ 92 ∧ c ≠ 34 := by
  refine (Rx ?_ ?_ ?_ ?_ ?_) <;> (intro y1_; obtain rfl := y1_; revert hw; decide)
 unfold one runOne
 rw [Tm h.1, Tm h.2.1, Tm h.2.2.1, Tm (fun z => h.2.2.2.1 z.1), Tm h.2.2.2.2, Tl hw]
 split; rfl; split <;> rfl
theorem P7 {p : T} {q : Int × Int} (h : sortOf p = if p ∈ dots then Al else Ac) : tokOf p q = [tok (if p ∈ dots then Al else Ac) (S p) q.1 q.2] := by
 by_cases z : p ∈ dots
 ·rw [Tl z] at h ⊢; exact Fg h
 ·rw [Tm z] at h ⊢; exact Mq h
theorem MF {p : T} {row col : Int} (hne : p ≠ []) (h : p ≠ [58]) : EB p row col = [tok (if p ∈ dots then Al else Ac) (S p) row col] := by
 unfold EB dots
 by_cases z : p = [46] ∨ p = [47]
 ·rw [Tl z, Tl (by simp; rcases z with z | z <;> simp [z])]
 ·rw [Tm z, Tm hne, Tm]
  simp; exact (KB (fun y => z (.inl y)) (fun y => z (.inr y)) h)
theorem NT {p : Nat → Bool} {rest : T} (hr : ∀ d, rest.head? = some d → p d = false) : ∀ l : T, (∀ d ∈ l, p d = true) → (l ++ rest).takeWhile p = l
 | [], _ => by
  cases rest with
  | nil => rfl
  | cons d r => rw [List.nil_append, UJ, hr d rfl]; rfl
 | a :: l, h => by
  rw [List.cons_append, UJ, h a (Ty ..), Tl rfl, NT hr l fun d hd => h d (Tx _ hd)]
theorem K5 {rest : T} {p : Int × Int} {ts : List D} {r : Res (List D × Int × Int)} (hr : ∀ d, rest.head? = some d → d ≠ 58) (k : Lex rest (p.1, p.2 + 1) (ts ++ [tok Al (S [58]) p.1 p.2]) r) : Lex (58 :: rest) p ts r := by
 have h1 : Ab ((58 :: rest).takeWhile isW) = true := by
  rw [UJ, Tl (by decide)]
  unfold Ab
  cases rest with
  | nil => rfl
  | cons d rest =>
   have := hr d rfl
   rw [UJ]
   by_cases z : isW d = true
   ·rw [Tl z]; simp [this]
   ·rw [Tm z]; rfl
 refine .one_tok (n := 0) ?_ (by simp) (Fg (by show sortOf [58] = _; decide +kernel)) (by exact Nat.succ_pos _) k
 rw [I7 (by decide)]
 unfold runOne; rw [Tl h1]
theorem OG {c : Nat} {q rest : T} {p : Int × Int} {ts : List D} {r : Res (List D × Int × Int)} (hw : ∀ d ∈ c :: q, isW d = true) (hr : ∀ d, rest.head? = some d → isW d = false) (h1 : Ab (c :: q) = false)
  (k : Lex rest (p.1, p.2 + ((c :: q).length : Int)) (ts ++ EY (c :: q) p.1 p.2) r) : Lex (c :: (q ++ rest)) p ts r := by
 have htw : (c :: (q ++ rest)).takeWhile isW = c :: q := NT hr (c :: q) hw
 refine FN (run_one hw) fun n e1 e2 e3 _ => ?_
 have hone : one c (q ++ rest) = some (n + 1) := by rw [I7 (hw c (Ty ..)), htw, e1]
 have htk : (q ++ rest).take n = q.take n := List.take_append_of_le_length (by exact Nat.le_of_lt_succ (by assumption))
 have hdr : (q ++ rest).drop n = q.drop n ++ rest := List.drop_append_of_le_length (by exact Nat.le_of_lt_succ (by assumption))
 have hno : 10 ∉ c :: (q ++ rest).take n := by
  rw [htk]; exact Sr fun d hd => hw d ((T0.mp hd).elim (fun z => z ▸ Ty ..) fun z => Tx _ (UU z))
 have ht : tokOf (c :: (q ++ rest).take n) p = [tok (if c :: q.take n ∈ dots then Al else Ac) (S (c :: q.take n)) p.1 p.2] := by rw [htk]; exact P7 e3
 refine .one_tok hone hno ht (by rw [Tw]; lia) ?_
 rw [hdr]
 unfold runOne at e1
 rw [Tm (by rw [h1]; exact UR)] at e1
 unfold EY at k
 cases h2 : Aw (c :: q) with
 | false =>
  rw [h2, Tm UR] at e1 k
  have hn : n = q.length := by simp at e1; exact Eq.symm (by assumption)
  rw [hn, List.drop_length, List.nil_append, List.take_length]
  rw [MF (by simp) (fun z => by rw [z] at h1; revert h1; decide)] at k
  exact k
 | true =>
  rw [h2, Tl rfl] at e1 k
  have hn : n + 1 = q.length := by simp at e1; exact Eq.symm (by assumption)
  have hlast : (c :: q).drop n.succ = [58] := by
   unfold Aw at h2
   have := (T5.mp h2).1
   have := of_decide_eq_true this
   rw [show (c :: q).length - 1 = n.succ by rw [Ts]; lia] at this; exact this
  have hd58 : q.drop n = [58] := hlast
  have hnot : c :: q.take n ≠ [58] := fun z => by
   have hc : c = 58 := by injection z
   have hq : q.take n = [] := by injection z
   have hn0 : n = 0 := by
    have := congrArg List.length hq; rw [List.length_take, List.length_nil] at this; lia
   rw [hn0, List.drop_zero] at hd58
   rw [hc, hd58] at h2; revert h2; decide
  have htake : (c :: q).take ((c :: q).length - 1) = c :: q.take n := by rw [show (c :: q).length - 1 = n + 1 by rw [Ts]; lia]; rfl
  rw [htake, MF (by simp) hnot] at k
  rw [hd58]
  refine K5 (fun d hd z => by have := hr d hd; rw [z] at this; revert this; decide) ?_
  have hlen : (c :: q.take n).length = n + 1 := by simp; lia
  rw [hlen] at k
  have e : p.2 + ((n + 1 : Nat) : Int) + 1 = p.2 + ((c :: q).length : Int) := by rw [Ts, ← hn]; lia
  rw [Tz]
  show Lex rest (p.1, p.2 + ((n + 1 : Nat) : Int) + 1) _ r
  rw [e]
  exact k
theorem RL {c : Nat} {q rest : T} {p : Int × Int} {ts : List D} {r : Res (List D × Int × Int)} (hw : ∀ d ∈ c :: q, isW d = true) (hr : ∀ d, rest.head? = some d → isW d = false)
  (k : Lex rest (p.1, p.2 + ((c :: q).length : Int)) (ts ++ EA (c :: q) p.1 p.2) r) : Lex (c :: (q ++ rest)) p ts r := by
 unfold EA at k
 cases h1 : Ab (c :: q) with
 | false =>
  rw [h1, Tm UR] at k
  exact OG hw hr h1 k
 | true =>
  rw [h1, Tl rfl] at k
  have h2 : c = 58 ∧ ∀ d, q.head? = some d → d ≠ 58 := by
   unfold Ab at h1
   cases q with
   | nil => simp at h1 ⊢; exact h1
   | cons d q => simp at h1 ⊢; exact ⟨h1.1, fun z => h1.2.elim (fun k => k h1.1) fun k => k z⟩
  refine xA h2 fun z0_ h3 => ?_; clear h2; obtain rfl := z0_
  refine K5 ?_ ?_
  ·intro d hd
   cases q with
   | nil => exact fun z => by have := hr d hd; rw [z] at this; revert this; decide
   | cons b q => exact h3 d hd
  ·cases q with
   | nil =>
    have : EY [] p.1 (p.2 + 1) = [] := by unfold EY EB; simp [Aw]
    rw [List.tail_cons, this] at k
    exact k
   | cons b q =>
    have hb : Ab (b :: q) = false := by
     have := h3 b rfl
     unfold Ab; simp [this]
    refine OG (fun d hd => hw d (Tx _ hd)) hr hb ?_
    rw [List.tail_cons] at k
    rw [Tz]
    have e : p.2 + 1 + ((b :: q).length : Int) = p.2 + ((58 :: b :: q).length : Int) := by simp only [Ts]; lia
    show Lex rest (p.1, p.2 + 1 + ((b :: q).length : Int)) _ r
    rw [e]; exact k
theorem Su {c : Nat} {t : T} : one c t =
 if c = 10 then some 1 else
 if c = 59 then some 1 else
 if c = 35 then some (1 + (t.takeWhile (· != 10)).length) else
 if c = 92 ∧ t.take 1 = [10] then some 2 else
 if c = 34 then (match BA t with | some n => some (n + 2) | none => none) else
 if isW c = true then (if Ab ((c :: t).takeWhile isW) = true then some 1 else if Aw ((c :: t).takeWhile isW) = true then some (((c :: t).takeWhile isW).length - 1) else some ((c :: t).takeWhile isW).length) else
 if (c :: t).take 2 ∈ twoL then some 2 else
 if c ∈ oneL then some 1 else
 if c ∈ [32, 9, 13] then some 1 else none := rfl
theorem MZ : ∀ (k : Nat) (r : T) (row col : Int) (ts : List D), r.length < k → Lex r (row, col) ts (readG k r row col ts)
 | 0, r, row, col, ts, h => by lia
 | k + 1, [], row, col, ts, h => .nil
 | k + 1, c :: t, row, col, ts, h => by
  have go : ∀ {n : Nat} {us : List D} {nl : Bool}, n ≤ t.length + 1 → 1 ≤ n → (Lex ((c :: t).drop n) (if nl then row + 1 else row, if nl then 1 else col + n) (ts ++ us) (readG k ((c :: t).drop n) (if nl then row + 1 else row) (if nl then 1 else col + n) (ts ++ us)) → Lex (c :: t) (row, col) ts (readG k ((c :: t).drop n) (if nl then row + 1 else row) (if nl then 1 else col + n) (ts ++ us))) →
    big c t row col = .inr (n, us, nl) → Lex (c :: t) (row, col) ts (readG (k + 1) (c :: t) row col ts) := fun {n us nl} hn hn1 f e => by
   unfold readG
   rw [e]
   exact f (MZ k _ _ _ _ (by rw [List.length_drop]; simp only [Ts] at h ⊢; lia))
  have bad : ∀ {w : Str}, one c t = none → w = whyOf c → big c t row col = .inl w → Lex (c :: t) (row, col) ts (readG (k + 1) (c :: t) row col ts) := fun {w} h1 h2 e => by
   unfold readG
   rw [e, h2]
   exact .bad h1
  have hb := @big_eq row col c t
  have ho := @Su c t
  by_cases c1 : c = 10
  ·subst c1
   rw [Tl rfl] at hb ho
   refine go (by exact T6 _ _) (by exact Tv _) (fun K => .go (n := 0) ho ?_) hb
   rw [Ip (show sortOf (10 :: t.take 0) = BH by show sortOf [10] = _; decide +kernel)]
   exact K
  rw [Tm c1] at hb ho
  by_cases c2 : c = 59
  ·subst c2
   rw [Tl rfl] at hb ho
   exact go (by exact T6 _ _) (by exact Tv _) (fun K => .one_tok (n := 0) ho (by simp) (Ip (by show sortOf [59] = _; decide +kernel)) (by exact Nat.succ_pos _) K) hb
  rw [Tm c2] at hb ho
  by_cases c3 : c = 35
  ·subst c3
   rw [Tl rfl] at hb ho
   have hl := takeWhile_len (p := (· != 10)) t
   have hno : 10 ∉ t.take (t.takeWhile (· != 10)).length := fun z => by
    rw [tw_take] at z
    have := tw_all (· != 10) t 10 z
    simp at this
   refine go (by lia) (by exact T3 _ _) (fun K => .one_tok (n := (t.takeWhile (· != 10)).length) (by rw [ho, Nat.add_comm]) (fun z => (T0.mp z).elim (by decide) hno) (Ef (by rw [sort_rem, Tm hno])) (by exact Nat.lt_succ_of_le (by assumption)) ?_) hb
   rw [Nat.add_comm 1] at K
   rw [Nat.add_comm 1]
   exact K
  rw [Tm c3] at hb ho
  by_cases c4 : c = 92 ∧ t.take 1 = [10]
  ·rw [Tl c4] at hb ho
   refine xA c4 fun z0_ h4 => ?_; clear c4; obtain rfl := z0_
   have hl : 2 ≤ t.length + 1 := by cases t <;> simp at h4 ⊢
   refine go hl (by exact Nat.le_succ _) (fun K => .go (n := 1) ho ?_) hb
   rw [h4, Ef (show sortOf [92, 10] = Dq by decide +kernel)]
   exact K
  rw [Tm c4] at hb ho
  by_cases c5 : c = 34
  ·rw [Tl c5] at hb ho
   subst c5
   cases hs : BA t with
   | none => rw [hs] at hb ho; exact bad ho rfl hb
   | some n =>
    rw [hs] at hb ho
    have hl := strEnd_lt hs
    have hso : sortOf (34 :: t.take (n + 1)) = Ap := by
     rw [sort_str, Tl]
     have hl' : (t.take (n + 1)).length = n + 1 := by simp; lia
     refine ⟨fun z => by rw [z] at hl'; simp at hl', ?_⟩
     rw [strEnd_take, hs, hl']; exact Tl (by exact Nat.lt_succ_self _)
    have hno : 10 ∉ 34 :: t.take (n + 1) := by
     have := sort_str (q := t.take (n + 1))
     intro z
     have e : sortOf (34 :: t.take (n + 1)) = nul := by
      unfold sortOf
      rw [Tm, Tm, Tm, Tm, Tl (show (34 :: t.take (n + 1)).take 1 = [34] from rfl), Tm (fun y => y.2.2 z)]
      ·rfl
      ·simp
      ·unfold blanksL; simp
      ·unfold endsL; simp
      ·unfold signsL; simp
     rw [hso] at e; exact k4 e
    have htok : tokOf (34 :: t.take (n + 1)) (row, col) = [tok Ap (S (t.take n)) row col] := by
     unfold tokOf
     rw [hso, Tm (by decide +kernel), Tl rfl]
     have : mid (34 :: t.take (n + 1)) = t.take n := by
      unfold mid cut lowAt highAt
      simp only [Option.elim]
      have hl' : (34 :: t.take (n + 1)).length = n + 2 := by simp; lia
      rw [hl', show clipAt (n + 2) 1 = 1 from clipAt_nat _ 1 (by exact T6 _ _), show clipAt (n + 2) (-1) = n + 1 from FC _ 1 (by exact Nat.lt_succ_self _), List.drop_one, List.tail_cons, Nat.add_sub_cancel, List.take_take, Nat.min_eq_left (by exact Nat.le_succ _)]
     rw [this]
    exact go (by lia) (by exact T6 _ _) (fun K => .one_tok (n := n + 1) ho hno htok (by exact Nat.succ_lt_succ (by assumption)) K) hb
  rw [Tm c5] at hb ho
  by_cases c6 : isW c = true
  ·rw [Tl c6] at hb
   have hr : (c :: t).takeWhile isW = c :: t.takeWhile isW := by rw [UJ, Tl c6]
   rw [hr] at hb
   have hl := takeWhile_len (p := isW) t
   refine go (by rw [Ts]; exact Nat.succ_le_succ (by assumption)) (by simp) (fun K => ?_) hb
   have e : t = t.takeWhile isW ++ t.drop (t.takeWhile isW).length := by
    rw [← tw_take isW t, List.length_take, Nat.min_eq_left hl, List.take_append_drop]
   have hrest : ∀ d, (t.drop (t.takeWhile isW).length).head? = some d → isW d = false := fun d hd => by
    have hlt : (t.takeWhile isW).length < t.length := by
     have := UC.mp (by rwa [UM] at hd)
     exact this.1
    refine BK (tw_gt isW t ((t.takeWhile isW).length + 1) (by exact Nat.lt_succ_self _) (by exact Nat.succ_le_of_lt (by assumption))) fun b hb eb => ?_
    rw [List.take_add_one, tw_take, ← UM, hd] at hb
    rcases T8.mp hb with z | z
    ·rw [tw_all isW t b z] at eb; cases eb
    ·simp at z; rw [← z]; exact eb
   have := RL (c := c) (q := t.takeWhile isW) (rest := t.drop (t.takeWhile isW).length) (p := (row, col)) (ts := ts) (fun d hd => tw_all isW (c :: t) d (hr ▸ hd)) hrest K
   rw [← e] at this
   exact this
  rw [Tm c6] at hb ho
  by_cases c7 : (c :: t).take 2 ∈ twoL
  ·rw [Tl c7] at hb ho
   have hl : 2 ≤ t.length + 1 := by
    cases t with
    | nil => exact absurd c7 (by unfold twoL; simp)
    | cons => simp
   have hno : 10 ∉ c :: t.take 1 := (show ∀ p ∈ twoL, 10 ∉ p by decide) _ c7
   exact go (n := 2) (us := [tok Al (S ((c :: t).take 2)) row col]) (nl := false) hl (by exact Nat.le_succ _) (fun K => .one_tok (n := 1) ho hno (Fg (sort_sign (two_sign c7))) (by exact Nat.lt_of_succ_le (by assumption)) K) hb
  rw [Tm c7] at hb ho
  by_cases c8 : c ∈ oneL
  ·rw [Tl c8] at hb ho
   exact go (by exact T6 _ _) (by exact Tv _) (fun K => .one_tok (n := 0) ho (by simp; lia) (Fg (sort_sign (one_sign c8))) (by exact Nat.succ_pos _) K) hb
  rw [Tm c8] at hb ho
  by_cases c9 : c ∈ [32, 9, 13]
  ·rw [Tl c9] at hb ho
   exact go (by exact T6 _ _) (by exact Tv _) (fun K => .one_tok (n := 0) ho (by simp; lia) (Ef ((show ∀ d ∈ [32, 9, 13], sortOf [d] = Dq by decide +kernel) c c9)) (by exact Nat.succ_pos _) K) hb
  rw [Tm c9] at hb ho
  exact bad ho (by unfold whyOf; rw [Tm c5]) hb
end Mine
namespace Mine
noncomputable def Ju : Res (List D) → D
 | .ok ts => .list ts
 | .exc x => .tuple [.str x.1, .int x.2.1, .int x.2.2]
 | .fail => .none
theorem H1 (x : T) : Lex x (1, 1) [] (readG (x.length + 2) x 1 1 []) := MZ _ _ _ _ _ (by lia)
theorem JQ (x : T) (hx : 3 * x.length + 3 ≤ sizeLine) (hv : ∀ d ∈ x, d < 1114112) : readT x ≠ .fail := by
 have h := read_loop (by lia) hv (x.length + 2) 0 1 0 none none none [] (by simp) (by exact UG _) (by simp; exact T2 (T3 _ _) (by assumption))
 rw [List.drop_zero, show ((0 : Nat) : Int) - 0 + 1 = 1 from rfl] at h
 unfold readT
 cases e : readG (x.length + 2) x 1 1 [] with
 | fail => rw [e] at h; exact h.elim
 | exc e => exact fun z => by cases z
 | ok p => exact fun z => by cases z
theorem Pu {f : Loc → Res D} {l : Loc} {d : D} (h : f l = .ok d) : KO f l = .ok (.ret (.val d), l) := by unfold KO; rw [h]
theorem Oa {f : Loc → Res D} {l : Loc} {x : Dr} (h : f l = .exc x) : KO f l = .ok (.ret (.val (.tuple [.str x.1, .int x.2.1, .int x.2.2])), ⟨l.vars.map fun _ => none, l.cells⟩) := by unfold KO; rw [h]
theorem LA (x : T) (hx : 3 * x.length + 3 ≤ sizeLine) (hv : ∀ d ∈ x, d < 1114112) : AN CG BD 1 [.d (.str (S x))] = .ok (.ret (.val (Ju (readT x)))) := by
 have h := read_tokens_ hx hv
 have hn := JQ x hx hv
 have e : (AN f_read_tokens Bg 1 [.d (.str (S x))]).bind Bb = (readT x).bind fun ts => .ok (.list ts) := by rw [h]; cases readT x <;> rfl
 have e2 : ∃ l, CG (CH BD [.d (.str (S x))] []) = .ok (.ret (.val (Ju (readT x))), l) := by
  cases hr : readT x with
  | fail => exact absurd hr hn
  | ok ts => rw [hr] at e; exact ⟨_, seq_ret (Pu e)⟩
  | exc y => rw [hr] at e; exact ⟨_, seq_ret (Oa e)⟩
 obtain ⟨l, z⟩ := e2
 exact callF_ret z rfl
theorem Oi (x : T) (hx : 3 * x.length + 3 ≤ sizeLine) (hv : ∀ d ∈ x, d < 1114112) : AN E6 names_law_read 1 [.d (.str (S x))] = .ok (.ret (.val (Ju (readT x)))) := by
 have hw := JQ x hx hv
 have h := QO (by lia) hv (H1 x) (x.length + 2) 0 none none none none (by simp) (by exact UG _) (by simp [place]) (by lia) (by simp; lia)
 unfold readT at hw ⊢
 revert h hw
 cases readG (x.length + 2) x 1 1 [] with
 | fail => exact fun z => absurd rfl z
 | exc y =>
  obtain ⟨w, row, col⟩ := y
  rintro _ ⟨l, h⟩
  exact callF_ret ((seq_ret h : AK (fun l => Ao Ci CL (B5 0 l) l) DZ (lr x 0 none none none none []) = _)) rfl
 | ok p =>
  obtain ⟨ts, row, col⟩ := p
  rintro _ ⟨v3, v4, v5, v6, h1, h2, h3⟩
  have hp := law_place_ x (by lia)
  have e : ∃ l, DZ (lr x x.length v3 v4 v5 v6 ts) = .ok (.ret (.val (.list (ts ++ [tok CC (S []) row col]))), l) := by
   refine ⟨frz 1 (lr x x.length v3 v4 v5 v6 ts), seq_nop.trans ?_⟩
   show ((Res.ok (.list ts)).bind fun d => ((((Res.ok (.tuple [.str CC, .str ""])).bind fun d => ((AN f_law_place names_law_place 1 [.d (.str (S x))]).bind Bb).bind fun e => AM d e).bind fun d => (Res.ok []).bind fun ds => .ok (d :: ds)).bind BB).bind fun e => AM d e).bind (fun d => Res.ok (Fl.ret (.val d), frz 1 (lr x x.length v3 v4 v5 v6 ts))) = _
   rw [hp, ls0, ← h3]
   show (if ts.length + 1 ≤ sizeLine then Res.ok (PyData.list (ts ++ [tok CC (S []) row col])) else .fail).bind _ = _
   rw [Tl (by simp at h2; lia)]; rfl
  obtain ⟨l, e⟩ := e
  exact callF_ret ((seq_next h1 : AK (fun l => Ao Ci CL (B5 0 l) l) DZ (lr x 0 none none none none []) = _).trans e) rfl
noncomputable def Kr (d : D) : Prop := d.canLay0 = true ∧ d.depth = 1
theorem PW {l : T} (h : ∀ c ∈ l, c < 1114112) : PyData.canLay0 (.str (S l)) = true := by
 unfold PyData.canLay0 PyData.strOk S; simpa using h
theorem NX {s w : Str} {r c : Int} (hs : PyData.canLay0 (.str s) = true) (hw : PyData.canLay0 (.str w) = true) : Kr (tok s w r c) := by
 refine ⟨?_, rfl⟩
 unfold tok
 simp only [PyData.canLay0, PyData.canLayAll0] at hs hw ⊢
 rw [hs, hw]; rfl
theorem RB (p : T) : PyData.canLay0 (.str (sortOf p)) = true := by
 have h : ∀ s ∈ [Al, BH, Dq, Ap, Ac, nul], PyData.canLay0 (.str s) = true := by decide +kernel
 refine h _ ?_
 unfold sortOf
 split; · simp
 split; · simp
 split; · simp
 split; · split <;> simp [nul]
 split; · split <;> simp [nul]
 split; · simp [nul]
 split; · simp [nul]
 split <;> simp [nul]
theorem Fh {ts : List D} (h : ∀ d ∈ ts, Kr d) : SeqAt.shaped (.list ts) = true := by
 have e : ∀ l : List D, (∀ d ∈ l, Kr d) → PyData.canLayAll0 l = true ∧ PyData.depthAll l ≤ 1 := fun l => by
  induction l with
  | nil => exact fun _ => ⟨rfl, UG _⟩
  | cons a r ih =>
   intro h
   obtain ⟨h1, h2⟩ := ih fun c hc => h c (Tx _ hc)
   obtain ⟨h3, h4⟩ := h a (Ty ..)
   exact ⟨by rw [PyData.canLayAll0, h3, h1]; rfl, by rw [PyData.depthAll, h4]; lia⟩
 obtain ⟨h1, h2⟩ := e ts h
 unfold SeqAt.shaped
 rw [PyData.canLay0, h1, PyData.depth, Bool.true_and]
 exact Tp (by lia)
noncomputable def S9 : Res (List D × Int × Int) → Prop
 | .ok p => ∀ d ∈ p.1, Kr d
 | .exc x => PyData.canLay0 (.str x.1) = true
 | .fail => True
theorem Sz {r : T} {p : Int × Int} {us : List D} {res : Res (List D × Int × Int)} (L : Lex r p us res) : (∀ c ∈ r, c < 1114112) → (∀ d ∈ us, Kr d) →
  S9 res := by
 induction L with
 | nil => exact fun _ h => h
 | @bad c t p ts h =>
  intro hv _
  show PyData.canLay0 (.str (whyOf c)) = true
  unfold whyOf
  split
  ·decide +kernel
  ·have e : badSign c = S ([117, 110, 101, 120, 112, 101, 99, 116, 101, 100, 32, 99, 104, 97, 114, 97, 99, 116, 101, 114, 32, 39] ++ [c] ++ [39]) := by
    unfold badSign; rw [show "unexpected character '" = S [117, 110, 101, 120, 112, 101, 99, 116, 101, 100, 32, 99, 104, 97, 114, 97, 99, 116, 101, 114, 32, 39] by kernel_rfl, show "'" = S [39] by kernel_rfl, S_app, S_app]
   rw [e]
   refine PW fun d hd => ?_
   have h1 : ∀ d ∈ [117, 110, 101, 120, 112, 101, 99, 116, 101, 100, 32, 99, 104, 97, 114, 97, 99, 116, 101, 114, 32, 39], d < 1114112 := by decide
   rcases T8.mp hd with hd | hd
   ·rcases T8.mp hd with hd | hd
    ·exact h1 d hd
    ·simp at hd; rw [hd]; exact hv c (Ty ..)
   ·simp at hd; lia
 | @go c t p ts n r h k ih =>
  intro hv ho
  have hp : ∀ d ∈ c :: t.take n, d < 1114112 := fun d hd => hv d ((T0.mp hd).elim (fun z => z ▸ Ty ..) fun z => Tx _ (UU z))
  refine ih (fun d hd => hv d (Tx _ (UK hd))) fun d hd => ?_
  rcases T8.mp hd with hd | hd
  ·exact ho d hd
  ·unfold tokOf at hd
   split at hd
   ·cases hd
   ·rw [UN.mp hd]
    refine NX (RB _) (PW ?_)
    split
    ·exact fun d hd => hp d (UK (UU hd))
    ·exact hp
theorem Mw (x : T) (hv : ∀ d ∈ x, d < 1114112) : SeqAt.shaped (Ju (readT x)) = true := by
 have h := Sz (H1 x) hv fun d hd => by cases hd
 unfold readT
 revert h
 cases readG (x.length + 2) x 1 1 [] with
 | fail => exact fun _ => by decide +kernel
 | exc y =>
  obtain ⟨w, row, col⟩ := y
  intro h
  show SeqAt.shaped (.tuple [.str w, .int row, .int col]) = true
  unfold SeqAt.shaped
  have h' : PyData.strOk w = true := h
  simp only [PyData.canLay0, PyData.canLayAll0]
  rw [h']; rfl
 | ok p =>
  obtain ⟨ts, row, col⟩ := p
  intro h
  refine Fh fun d hd => ?_
  rcases T8.mp hd with hd | hd
  ·exact h d hd
  ·rw [UN.mp hd]; exact NX (by decide +kernel) (by decide +kernel)
theorem QP (x : T) (hx : 3 * x.length + 3 ≤ sizeLine) (hv : ∀ d ∈ x, d < 1114112) :
  (((AN CG BD 1 [.d (.str (S x))]).bind Bb).bind fun d => ((AN E6 names_law_read 1 [.d (.str (S x))]).bind Bb).bind fun e => A2 d e).bind AF = .ok false := by
 rw [LA x hx hv, Oi x hx hv]
 have hs := Mw x hv
 have hr := SeqAt.eqv_refl (Ju (readT x)) (SeqAt.canLay_of_shaped hs)
 have hn := JQ x hx hv
 show (A2 (Ju (readT x)) (Ju (readT x))).bind AF = _
 revert hs hr hn
 cases readT x with
 | fail => exact fun _ _ z => absurd rfl z
 | ok ts =>
  intro hs hr _
  show (if (SeqAt.shaped (.list ts) && SeqAt.shaped (.list ts)) = true then Res.ok (PyData.bool (!PyData.eqv (.list ts) (.list ts))) else .fail).bind AF = _
  rw [show SeqAt.shaped (.list ts) = true from hs, show PyData.eqv (.list ts) (.list ts) = true from hr]; rfl
 | exc y =>
  intro hs hr _
  show (if (SeqAt.shaped (Ju (.exc y)) && SeqAt.shaped (Ju (.exc y))) = true then Res.ok (PyData.bool (!PyData.eqv (Ju (.exc y)) (Ju (.exc y)))) else .fail).bind AF = _
  rw [hs, hr]; rfl
end Mine
namespace Mine
noncomputable abbrev PT := Str × T
noncomputable def Ag (p : PT) : D := .tuple [.str p.1, .str (S p.2)]
noncomputable def tDol : PT := (Al, [36])
noncomputable def tL : PT := (Al, [123])
noncomputable def tR : PT := (Al, [125])
noncomputable def Gg : PT := (Al, [61])
noncomputable def En : PT := (Al, [33])
noncomputable def N6 : PT := (BH, [10])
noncomputable def EQ : PT := (BH, [59])
noncomputable def wDef : PT := (Ac, [100, 101, 102, 105, 110, 101])
noncomputable def wX : PT := (Ac, [120])
noncomputable def wU : PT := (Ac, [117])
noncomputable def TR : PT := (Ac, [49])
noncomputable def wIp : PT := (Ac, [49, 48, 46, 48, 46, 48, 46, 49])
noncomputable def sS : PT := (Ap, [115, 32, 36, 97, 32, 35, 32, 123])
noncomputable def sB : PT := (Ap, [98])
noncomputable def nm (c : Nat) (b : Bool) : PT := (Ac, if b then [c, 58, 56, 48] else [c])
noncomputable def C8 : List (List PT) := [[tDol, nm 112 true], [tDol, nm 113 true], [tDol, nm 97 true], [tDol, nm 98 true], [tDol, nm 112 false], [tDol, nm 113 false], [tDol, nm 97 false], [tDol, nm 98 false], [sS], [wIp], [wX, wDef, Gg], [tDol, sB],
 [tL, wU, N6, tDol, nm 112 false, EQ, tL, tR, tR], [tL, wU, N6, tDol, nm 113 false, EQ, tL, tR, tR], [tL, wU, N6, tDol, nm 97 false, EQ, tL, tR, tR], [tL, wU, N6, tDol, nm 98 false, EQ, tL, tR, tR]]
noncomputable def it (n : Int) (many : Int) (u3 u4 u5 : Option W) (ts : List D) : Loc := ⟨[some (.d (.int n)), some (.d (.int many)), some (.lst 0), u3, u4, u5], [.list ts]⟩
theorem Ez {n : Int} {k : Nat} (h : 0 < k) : 0 ≤ n.fmod k ∧ n.fmod k < k := by
 rw [Int.fmod_eq_emod_of_nonneg n (by exact Int.ofNat_nonneg _)]
 exact ⟨Int.emod_nonneg n (by lia), Int.emod_lt_of_pos n (by lia)⟩
theorem TI {l : Int} (h : 0 ≤ l ∧ l < 4) : ∃ c, c ∈ [112, 113, 97, 98] ∧ AG (.str "pqab") (.int l) = .ok (.str (C1 c)) := by
 have : l = 0 ∨ l = 1 ∨ l = 2 ∨ l = 3 := by lia
 rcases this with rfl | rfl | rfl | rfl
 ·exact (A4 112 (by decide) (by kernel_rfl))
 ·exact (A4 113 (by decide) (by kernel_rfl))
 ·exact (A4 97 (by decide) (by kernel_rfl))
 ·exact (A4 98 (by decide) (by kernel_rfl))
theorem Ot {n many : Int} {u3 : Option W} {ts : List D} {c : Nat} (hc : c ∈ [112, 113, 97, 98]) {w : Int} (hw : 0 ≤ w ∧ w < 8) (ht : ts.length + 9 ≤ sizeLine) :
  ∃ i ∈ C8, Bl (fun l => ((getv l 4).bind fun d => (Res.ok (.int 3)).bind fun e => DI d e).bind AF) f_law_items_b9 f_law_items_b10 (it n many u3 (some (.d (.int w))) (some (.d (Ag (nm c (w == 0))))) ts) = .ok (.next, it n many u3 (some (.d (.int w))) (some (.d (Ag (nm c (w == 0))))) (ts ++ i.map Ag)) := by
 have hd : ∀ b, [tDol, nm c b] ∈ C8 := fun b => by
  simp at hc
  rcases hc with rfl | rfl | rfl | rfl <;> cases b <;> decide +kernel
 have hb : [tL, wU, N6, tDol, nm c false, EQ, tL, tR, tR] ∈ C8 := by
  simp at hc
  rcases hc with rfl | rfl | rfl | rfl <;> decide +kernel
 have : w = 0 ∨ w = 1 ∨ w = 2 ∨ w = 3 ∨ w = 4 ∨ w = 5 ∨ w = 6 ∨ w = 7 := by lia
 rcases this with rfl | rfl | rfl | rfl | rfl | rfl | rfl | rfl
 ·exact (A4 _ (hd true) ((if_t (b := true) rfl rfl).trans (seq_nop.trans (ext_ok (k := 0) (ds := [tDol, nm c true].map Ag) rfl (by kernel_rfl) (by simp; lia)))))
 ·exact (A4 _ (hd false) ((if_t (b := true) rfl rfl).trans (seq_nop.trans (ext_ok (k := 0) (ds := [tDol, nm c false].map Ag) rfl (by kernel_rfl) (by simp; lia)))))
 ·exact (A4 _ (hd false) ((if_t (b := true) rfl rfl).trans (seq_nop.trans (ext_ok (k := 0) (ds := [tDol, nm c false].map Ag) rfl (by kernel_rfl) (by simp; lia)))))
 ·exact (A4 ([sS]) (by decide +kernel) ((if_f (b := false) rfl rfl).trans (seq_nop.trans ((if_t (b := true) rfl rfl).trans (seq_nop.trans (app_ok (k := 0) (d := Ag sS) rfl (by kernel_rfl) (by exact T2 (T3 _ _) (by assumption))))))))
 ·refine (A4 _ hb ((if_f (b := false) rfl rfl).trans (seq_nop.trans ((if_f (b := false) rfl rfl).trans (seq_nop.trans ((if_t (b := true) rfl rfl).trans ((seq_next (ext_ok (k := 0) (ds := [tL, wU, N6, tDol, nm c false, EQ].map Ag) rfl (by kernel_rfl) (by simp; lia))).trans (seq_nop.trans ((ext_ok (k := 0) (ts := ts ++ [tL, wU, N6, tDol, nm c false, EQ].map Ag) (ds := [tL, tR, tR].map Ag) rfl (by kernel_rfl) (by simp; assumption)).trans ?_)))))))))
  rw [Tz]; rfl
 ·exact (A4 ([wX, wDef, Gg]) (by decide +kernel) ((if_f (b := false) rfl rfl).trans (seq_nop.trans ((if_f (b := false) rfl rfl).trans (seq_nop.trans ((if_f (b := false) rfl rfl).trans (seq_nop.trans ((if_t (b := true) rfl rfl).trans (seq_nop.trans (ext_ok (k := 0) (ds := [wX, wDef, Gg].map Ag) rfl (by kernel_rfl) (by simp; lia)))))))))))
 ·exact (A4 ([wIp]) (by decide +kernel) ((if_f (b := false) rfl rfl).trans (seq_nop.trans ((if_f (b := false) rfl rfl).trans (seq_nop.trans ((if_f (b := false) rfl rfl).trans (seq_nop.trans ((if_f (b := false) rfl rfl).trans (seq_nop.trans ((if_t (b := true) rfl rfl).trans (seq_nop.trans (app_ok (k := 0) (d := Ag wIp) rfl (by kernel_rfl) (by exact T2 (T3 _ _) (by assumption))))))))))))))
 ·exact (A4 ([tDol, sB]) (by decide +kernel) ((if_f (b := false) rfl rfl).trans (seq_nop.trans ((if_f (b := false) rfl rfl).trans (seq_nop.trans ((if_f (b := false) rfl rfl).trans (seq_nop.trans ((if_f (b := false) rfl rfl).trans (seq_nop.trans ((if_f (b := false) rfl rfl).trans (seq_nop.trans (ext_ok (k := 0) (ds := [tDol, sB].map Ag) rfl (by kernel_rfl) (by simp; lia)))))))))))))
theorem Nx {n many : Int} {u3 u4 u5 : Option W} {ts : List D} (ht : ts.length + 9 ≤ sizeLine) :
  ∃ i ∈ C8, ∃ n' v4 v5, f_law_items_b11 (it n many u3 u4 u5 ts) = .ok (.next, it n' many u3 v4 v5 (ts ++ i.map Ag)) := by
 refine BK (TI (l := (n.fdiv 8).fmod 4) (Ez (k := 4) (by decide))) fun c hc hp => ?_
 have hw : 0 ≤ n.fmod 8 ∧ n.fmod 8 < 8 := Ez (k := 8) (by decide)
 obtain ⟨i, hi, e⟩ := Ot (n := n.fdiv 32) (many := many) (u3 := u3) (ts := ts) hc hw ht
 refine ⟨i, hi, n.fdiv 32, some (.d (.int (n.fmod 8))), some (.d (Ag (nm c (n.fmod 8 == 0)))), ?_⟩
 refine (seq_next (set_ok (d := .int (n.fmod 8)) rfl)).trans ((seq_next (set_ok (d := Ag (nm c (n.fmod 8 == 0))) ?_)).trans ((seq_next (set_ok (d := .int (n.fdiv 32)) rfl)).trans (seq_nop.trans e)))
 show ((((((AG (.str "pqab") (.int ((n.fdiv 8).fmod 4))).bind fun d => ((Res.ok (n.fmod 8 == 0)).bind fun b => if b = true then Res.ok (.str ":80") else Res.ok (.str "")).bind fun e => AM d e).bind fun d => (Res.ok []).bind fun ds => .ok (d :: ds)).bind fun ds => Res.ok (.str Ac :: ds)).bind AV)) = _
 rw [hp]
 cases n.fmod 8 == 0 <;> kernel_rfl
theorem Jw {many : Int} : ∀ (es : List D) (n : Int) (u3 u4 u5 : Option W) (ts : List D), ts.length + 9 * es.length ≤ sizeLine →
  ∃ its : List (List PT), (∀ i ∈ its, i ∈ C8) ∧ its.length = es.length ∧ ∃ n' v3 v4 v5, BW (fun d l => .ok (l.setv 3 (.d d))) f_law_items_b11 es (it n many u3 u4 u5 ts) = .ok (.next, it n' many v3 v4 v5 (ts ++ its.flatten.map Ag))
 | [], n, u3, u4, u5, ts, _ => ⟨[], by simp, rfl, n, u3, u4, u5, by simp [BW]⟩
 | d :: es, n, u3, u4, u5, ts, h => by
  simp only [Ts] at h
  refine Sh (Nx (n := n) (many := many) (u3 := some (.d d)) (u4 := u4) (u5 := u5) (ts := ts) (by lia)) fun i hi n1 w4 w5 e => ?_
  have hl : ∀ i ∈ C8, i.length ≤ 9 := by decide
  obtain ⟨its, h1, h2, n', v3, v4, v5, e'⟩ := Jw es n1 (some (.d d)) w4 w5 (ts ++ i.map Ag) (by rw [Tw, Tu]; have := hl i hi; lia)
  refine ⟨i :: its, fun j hj => (T0.mp hj).elim (fun z => z ▸ hi) (h1 j), by rw [Ts, h2, Ts], n', v3, v4, v5, ?_⟩
  refine (for_next (l' := it n many (some (.d d)) u4 u5 ts) rfl e).trans (e'.trans ?_)
  rw [UO, T4, Tz]
theorem Nn (n : Int) (m : Nat) (hm : m ≤ 1000) : ∃ its : List (List PT), (∀ i ∈ its, i ∈ C8) ∧ its.length = m ∧ AN f_law_items Bj 2 [.d (.int n), .d (.int m)] = .ok (.ret (.fr (its.flatten.map Ag))) := by
 refine QM (Jw (many := m) ((List.range m).map fun i : Nat => .int (i : Int)) n none none none [] (by simp [szl]; lia)) fun its h1 h2 n' v3 v4 v5 e => ?_
 refine (B0 its h1 (by rw [h2]; simp) (callF_ret (l' := it n' m v3 v4 v5 (its.flatten.map Ag)) ?_ rfl))
 have hr : ((getv (it n m none none none []) 1).bind fun d => (Res.ok []).bind fun ds => .ok (d :: ds)).bind B7 = .ok ((List.range m).map fun i : Nat => .int (i : Int)) := by
  refine (Tl (c := (m : Int).natAbs < 2 ^ 62) (small m (by lia))).trans ?_
  rw [Int.toNat_natCast]
 have e' : AK (fun l => (((getv l 1).bind fun d => (Res.ok []).bind fun ds => .ok (d :: ds)).bind B7).bind fun es => BW (fun d l => .ok (l.setv 3 (.d d))) f_law_items_b11 es l) f_law_items_r1 (it n m none none none []) = f_law_items_r1 (it n' m v3 v4 v5 (its.flatten.map Ag)) := by
  refine seq_next ?_
  show (((getv (it n m none none none []) 1).bind fun d => (Res.ok []).bind fun ds => .ok (d :: ds)).bind B7).bind _ = _
  rw [hr, bind_ok', e]; rfl
 exact e'.trans rfl
end Mine
namespace Mine
structure Row where
 head : List PT
 values : List PT
 closing : List PT
noncomputable def A1 (r : Row) : D := .tuple [.list (r.head.map Ag), .list (r.values.map Ag), .list (r.closing.map Ag)]
noncomputable def NQ (v : List PT) : Prop := ∃ its : List (List PT), (∀ i ∈ its, i ∈ C8) ∧ its.length ≤ 3 ∧ (v = its.flatten ∨ v = its.flatten ++ [tDol])
noncomputable def dn (r : Row) : Nat := if r.head = [] then 0 else 1
noncomputable def KC (rs : List Row) : Nat := (rs.map dn).sum
theorem DB (r : Row) (rs : List Row) : KC (r :: rs) = dn r + KC rs := rfl
theorem Ir : ∀ (a b : List Row), KC (a ++ b) = KC a + KC b
 | [], b => (Nat.zero_add _).symm
 | r :: a, b => by rw [List.cons_append, DB, DB, Ir a b, Nat.add_assoc]
noncomputable def Ov : List PT := [N6, EQ]
noncomputable def EF : List (List PT) := [[N6], [EQ], [tR], [tR, N6], [tR, EQ]]
inductive Good : Row → Prop
 | use {v : List PT} {e : PT} (hv : NQ v) (he : e ∈ Ov) : Good ⟨[], v, [e]⟩
 | opn : Good ⟨[], [tL], []⟩
 | dfn {v : List PT} {s : Str} {c : Nat} {e : PT} {cl : List PT} (hv : NQ v) (hs : s ∈ [Ac, Ap]) (hc : c ∈ [97, 98, 99]) (he : e ∈ [Gg, En]) (hcl : cl ∈ EF) : Good ⟨[wDef, (s, [c]), e], v, cl⟩
noncomputable def rw (n f d : Int) (v : List D) (u4 u5 u6 u7 : Option W) (cs : List Cell) : Loc := ⟨[some (.d (.int n)), some (.d (.int f)), some (.d (.int d)), some (.d (.list v)), u4, u5, u6, u7], cs⟩
theorem S5 {l : Int} (h : 0 ≤ l ∧ l < 3) : ∃ c, c ∈ [97, 98, 99] ∧ AG (.str "abc") (.int l) = .ok (.str (C1 c)) := by
 have : l = 0 ∨ l = 1 ∨ l = 2 := by lia
 rcases this with rfl | rfl | rfl
 ·exact (A4 97 (by decide) (by kernel_rfl))
 ·exact (A4 98 (by decide) (by kernel_rfl))
 ·exact (A4 99 (by decide) (by kernel_rfl))
theorem TJ {l : Int} (h : 0 ≤ l ∧ l < 2) : ∃ e ∈ Ov, e.1 = BH ∧ AG (.str "\n;") (.int l) = .ok (.str (S e.2)) := by
 have : l = 0 ∨ l = 1 := by lia
 rcases this with rfl | rfl
 ·exact (B0 N6 (by decide +kernel) rfl (by kernel_rfl))
 ·exact (B0 EQ (by decide +kernel) rfl (by kernel_rfl))
noncomputable def QI : LM := (AK (Aq 4 (fun l => ((((Res.ok (.str "end")).bind fun d => (((Res.ok (.str "\n;")).bind fun d => (((getv l 0).bind fun d => (Res.ok (.int 864)).bind fun e => Dt d e).bind fun d => (Res.ok (.int 2)).bind fun e => Ch d e).bind fun e => AG d e).bind fun d => (Res.ok []).bind fun ds => .ok (d :: ds)).bind fun ds => .ok (d :: ds)).bind AV).bind fun d => (Res.ok []).bind fun ds => .ok (d :: ds)).bind BB)) <|
   AK (Bl (fun l => ((getv l 1).bind fun d => (Res.ok (.int 3)).bind fun e => DI d e).bind AF) GK AT) <| GL)
theorem Ok {n f d : Int} {v : List PT} (hv : NQ v) {u4 u5 u6 u7 : Option W} {cs : List Cell} :
  ∃ rs : List Row, (∀ r ∈ rs, Good r) ∧ rs ≠ [] ∧ rs.length ≤ 2 ∧ KC rs ≤ 1 ∧ ∃ l', QI (rw n f d (v.map Ag) u4 u5 u6 u7 cs) = .ok (.ret (.val (.list (rs.map A1))), l') := by
 refine B1 (TJ (l := (n.fdiv 864).fmod 2) (Ez (k := 2) (by decide))) fun e he hk hp => ?_
 have s4 : (Aq 4 (fun l => ((((Res.ok (.str "end")).bind fun d => (((Res.ok (.str "\n;")).bind fun d => (((getv l 0).bind fun d => (Res.ok (.int 864)).bind fun e => Dt d e).bind fun d => (Res.ok (.int 2)).bind fun e => Ch d e).bind fun e => AG d e).bind fun d => (Res.ok []).bind fun ds => .ok (d :: ds)).bind fun ds => .ok (d :: ds)).bind AV).bind fun d => (Res.ok []).bind fun ds => .ok (d :: ds)).bind BB)) (rw n f d (v.map Ag) u4 u5 u6 u7 cs) = .ok (.next, rw n f d (v.map Ag) (some (.d (.list [Ag e]))) u5 u6 u7 cs) := by
  refine (set_ok (d := .list [Ag e]) ?_).trans rfl
  show (((((AG (.str "\n;") (.int ((n.fdiv 864).fmod 2))).bind fun d => (Res.ok []).bind fun ds => .ok (d :: ds)).bind fun ds => Res.ok (.str BH :: ds)).bind AV).bind fun d => (Res.ok []).bind fun ds => .ok (d :: ds)).bind BB = _
  rw [hp, ← hk]; rfl
 by_cases h3 : f < 3
 ·exact (LI ([⟨[], v, [e]⟩]) (by simpa using Good.use hv he) (by simp) (by simp) (by simp [KC, dn]) _ ((seq_next s4).trans (seq_ret ((if_t (show _ = Res.ok (decide (f < 3)) from rfl) (Tp h3)).trans (seq_ret rfl)))))
 refine BK (S5 (l := (n.fdiv 8).fmod 3) (Ez (k := 3) (by decide))) fun c hc hpc => ?_
 let nmd : PT := (if d == 0 then Ap else Ac, [c])
 have hs : nmd.1 ∈ [Ac, Ap] := by show (if d == 0 then Ap else Ac) ∈ _; split <;> simp
 let sg : PT := if d == 1 then En else Gg
 have hsg : sg ∈ [Gg, En] := by show (if d == 1 then En else Gg) ∈ _; split <;> simp
 have s5 : (Aq 5 (fun l => (((((getv l 2).bind fun d => (Res.ok (.int 0)).bind fun e => AZ d e).bind AF).bind fun c => if c then (Res.ok (.str "string")) else (Res.ok (.str "word"))).bind fun d => (((Res.ok (.str "abc")).bind fun d => (((getv l 0).bind fun d => (Res.ok (.int 8)).bind fun e => Dt d e).bind fun d => (Res.ok (.int 3)).bind fun e => Ch d e).bind fun e => AG d e).bind fun d => (Res.ok []).bind fun ds => .ok (d :: ds)).bind fun ds => .ok (d :: ds)).bind AV)) (rw n f d (v.map Ag) (some (.d (.list [Ag e]))) u5 u6 u7 cs) = .ok (.next, rw n f d (v.map Ag) (some (.d (.list [Ag e]))) (some (.d (Ag nmd))) u6 u7 cs) := by
  refine (set_ok (d := Ag nmd) ?_).trans rfl
  show ((((Res.ok (d == 0)).bind fun c => if c = true then Res.ok (.str "string") else Res.ok (.str "word")).bind fun d => ((AG (.str "abc") (.int ((n.fdiv 8).fmod 3))).bind fun d => (Res.ok []).bind fun ds => .ok (d :: ds)).bind fun ds => .ok (d :: ds)).bind AV) = Res.ok (Ag (if d == 0 then Ap else Ac, [c]))
  rw [hpc]
  cases d == 0 <;> rfl
 have s6 : (Aq 6 (fun l => ((((Res.ok (.str "word")).bind fun d => ((Res.ok (.str "define")).bind fun d => (Res.ok []).bind fun ds => .ok (d :: ds)).bind fun ds => .ok (d :: ds)).bind AV).bind fun d => ((getv l 5).bind fun d => ((((Res.ok (.str "sign")).bind fun d => (((((getv l 2).bind fun d => (Res.ok (.int 1)).bind fun e => AZ d e).bind AF).bind fun c => if c then (Res.ok (.str "!")) else (Res.ok (.str "="))).bind fun d => (Res.ok []).bind fun ds => .ok (d :: ds)).bind fun ds => .ok (d :: ds)).bind AV).bind fun d => (Res.ok []).bind fun ds => .ok (d :: ds)).bind fun ds => .ok (d :: ds)).bind fun ds => .ok (d :: ds)).bind BB)) (rw n f d (v.map Ag) (some (.d (.list [Ag e]))) (some (.d (Ag nmd))) u6 u7 cs) = .ok (.next, rw n f d (v.map Ag) (some (.d (.list [Ag e]))) (some (.d (Ag nmd))) (some (.d (.list [Ag wDef, Ag nmd, Ag sg]))) u7 cs) := by
  refine (set_ok (d := .list [Ag wDef, Ag nmd, Ag sg]) ?_).trans rfl
  show ((((Res.ok (.str Ac)).bind fun d => ((Res.ok (.str "define")).bind fun d => (Res.ok []).bind fun ds => .ok (d :: ds)).bind fun ds => .ok (d :: ds)).bind AV).bind fun d' => ((Res.ok (Ag nmd)).bind fun d' => ((((Res.ok (.str Al)).bind fun d' => ((((Res.ok (d == 1)).bind fun c => if c = true then Res.ok (.str "!") else Res.ok (.str "="))).bind fun d => (Res.ok []).bind fun ds => .ok (d :: ds)).bind fun ds => .ok (d' :: ds)).bind AV).bind fun d => (Res.ok []).bind fun ds => .ok (d :: ds)).bind fun ds => .ok (d' :: ds)).bind fun ds => .ok (d' :: ds)).bind BB = Res.ok (.list [Ag wDef, Ag nmd, Ag (if d == 1 then En else Gg)])
  cases d == 1 <;> kernel_rfl
 have hdf : ∀ {cl}, cl ∈ EF → Good ⟨[wDef, nmd, sg], v, cl⟩ := fun h => Good.dfn hv hs hc hsg h
 have pre : ∀ {r}, AK (Bl (fun l => ((getv l 1).bind fun d => (Res.ok (.int 7)).bind fun e => DI d e).bind AF) GO AT) GI (rw n f d (v.map Ag) (some (.d (.list [Ag e]))) (some (.d (Ag nmd))) (some (.d (.list [Ag wDef, Ag nmd, Ag sg]))) u7 cs) = r → QI (rw n f d (v.map Ag) u4 u5 u6 u7 cs) = r := fun z =>
  (seq_next s4).trans ((seq_next (if_f (show _ = Res.ok (decide (f < 3)) from rfl) (Tq h3))).trans ((seq_next s5).trans ((seq_next s6).trans z)))
 by_cases h7 : f < 7
 ·refine (LI ([⟨[wDef, nmd, sg], v, [e]⟩]) ?_ (by simp) (by simp) (by simp [KC, dn]) _ (pre (seq_ret ((if_t (show _ = Res.ok (decide (f < 7)) from rfl) (Tp h7)).trans (seq_ret rfl)))))
  intro r hr
  rw [UN.mp hr]
  refine hdf ?_
  have : ∀ e ∈ Ov, [e] ∈ EF := by decide +kernel
  exact this e he
 let tl : List PT := if (n.fdiv 1728).fmod 2 == 0 then [e] else []
 have s7 : (Aq 7 (fun l => (((((Res.ok (.str "sign")).bind fun d => ((Res.ok (.str "}")).bind fun d => (Res.ok []).bind fun ds => .ok (d :: ds)).bind fun ds => .ok (d :: ds)).bind AV).bind fun d => (Res.ok []).bind fun ds => .ok (d :: ds)).bind BB).bind fun d => ((((((getv l 0).bind fun d => (Res.ok (.int 1728)).bind fun e => Dt d e).bind fun d => (Res.ok (.int 2)).bind fun e => Ch d e).bind fun d => (Res.ok (.int 0)).bind fun e => AZ d e).bind AF).bind fun c => if c then (getv l 4) else ((Res.ok []).bind BB)).bind fun e => AM d e)) (rw n f d (v.map Ag) (some (.d (.list [Ag e]))) (some (.d (Ag nmd))) (some (.d (.list [Ag wDef, Ag nmd, Ag sg]))) u7 cs) = .ok (.next, rw n f d (v.map Ag) (some (.d (.list [Ag e]))) (some (.d (Ag nmd))) (some (.d (.list [Ag wDef, Ag nmd, Ag sg]))) (some (.d (.list ((tR :: tl).map Ag)))) cs) := by
  refine (set_ok (d := .list ((tR :: tl).map Ag)) ?_).trans rfl
  show (((((Res.ok (.str "sign")).bind fun d => ((Res.ok (.str "}")).bind fun d => (Res.ok []).bind fun ds => .ok (d :: ds)).bind fun ds => .ok (d :: ds)).bind AV).bind fun d => (Res.ok []).bind fun ds => .ok (d :: ds)).bind BB).bind (fun d => ((Res.ok ((n.fdiv 1728).fmod 2 == 0)).bind fun c => if c = true then (Res.ok (.list [Ag e])) else ((Res.ok []).bind BB)).bind fun e => AM d e) = Res.ok (.list ((tR :: if (n.fdiv 1728).fmod 2 == 0 then [e] else []).map Ag))
  cases (n.fdiv 1728).fmod 2 == 0 <;> kernel_rfl
 refine (LI ([⟨[], [tL], []⟩, ⟨[wDef, nmd, sg], v, tR :: tl⟩]) ?_ (by simp) (by simp) (by simp [KC, dn]) (rw n f d (v.map Ag) (some (.d (.list [Ag e]))) (some (.d (Ag nmd))) (some (.d (.list [Ag wDef, Ag nmd, Ag sg]))) (some (.d (.list ((tR :: tl).map Ag)))) cs) (pre ((seq_next (if_f (show _ = Res.ok (decide (f < 7)) from rfl) (Tq h7))).trans ((seq_next s7).trans (seq_ret (by kernel_rfl))))))
 intro r hr
 rcases T0.mp hr with rfl | hr
 ·exact .opn
 ·rw [UN.mp hr]
  refine hdf ?_
  have : ∀ e ∈ Ov, [tR, e] ∈ EF := by decide +kernel
  show tR :: (if (n.fdiv 1728).fmod 2 == 0 then [e] else []) ∈ EF
  split
  ·exact this e he
  ·decide +kernel
theorem Ob (n : Int) : ∃ rs : List Row, (∀ r ∈ rs, Good r) ∧ rs ≠ [] ∧ rs.length ≤ 2 ∧ KC rs ≤ 1 ∧ AN Cs BV 1 [.d (.int n)] = .ok (.ret (.val (.list (rs.map A1)))) := by
 have h3 : 0 ≤ (n.fdiv 288).fmod 3 ∧ (n.fdiv 288).fmod 3 < 3 := Ez (k := 3) (by decide)
 obtain ⟨m, hm⟩ : ∃ m : Nat, 1 + (n.fdiv 288).fmod 3 = (m : Int) ∧ m ≤ 3 := (A4 ((1 + (n.fdiv 288).fmod 3).toNat) (by lia) (by lia))
 refine B1 (Nn ((n.fdiv (2 ^ 12)).fmod (2 ^ 20)) m (by lia)) fun its h1 h2 e => ?_
 have hlen : (its.flatten.map Ag).length ≤ 27 := by
  have hl : ∀ i ∈ C8, i.length ≤ 9 := by decide
  have : ∀ l : List (List PT), (∀ i ∈ l, i ∈ C8) → l.flatten.length ≤ 9 * l.length := fun l => by
   induction l with
   | nil => exact fun _ => Tv _
   | cons a r ih =>
    intro h
    have h1 := ih fun i hi => h i (Tx _ hi)
    have h2 := hl a (h a (Ty ..))
    rw [UO, Tw, Ts]; lia
  have := this its h1
  rw [Tu]; lia
 have e1 : Cs (CH BV [.d (.int n)] []) = AK (Bl (fun l => ((getv l 2).bind fun d => (Res.ok (.int 2)).bind fun e => AZ d e).bind AF) GW GJ) ES ⟨[some (.d (.int n)), some (.d (.int (n.fmod 8))), some (.d (.int ((n.fdiv 24).fmod 12))), some (.lst 0), none, none, none, none], [.list (its.flatten.map Ag)]⟩ := by
  refine (seq_next (set_ok (d := .int (n.fmod 8)) rfl)).trans ((seq_next (set_ok (d := .int ((n.fdiv 24).fmod 12)) rfl)).trans ((seq_next (Lf (ds := its.flatten.map Ag) ?_)).trans rfl))
  show ((((((FO (.int 2) (.int 12)).bind fun e => Dt (.int n) e).bind fun d => (FO (.int 2) (.int 20)).bind fun e => Ch d e).bind fun d => .ok (W.d d)).bind fun u => (((Res.ok (.int (1 + (n.fdiv 288).fmod 3))).bind fun d => .ok (W.d d)).bind fun u => (Res.ok []).bind fun us => .ok (u :: us)).bind fun us => .ok (u :: us)).bind (AN f_law_items Bj 2)).bind Ni = _
  rw [hm.1, show FO (.int 2) (.int 12) = .ok (.int (2 ^ 12)) by kernel_rfl, show FO (.int 2) (.int 20) = .ok (.int (2 ^ 20)) by kernel_rfl]
  refine (congrArg (fun r => Res.bind r Ni) (?_ : _ = AN f_law_items Bj 2 [.d (.int ((n.fdiv (2 ^ 12)).fmod (2 ^ 20))), .d (.int m)])).trans ?_
  ·kernel_rfl
  ·rw [e]; rfl
 have t2 : ((getv ⟨[some (.d (.int n)), some (.d (.int (n.fmod 8))), some (.d (.int ((n.fdiv 24).fmod 12))), some (.lst 0), none, none, none, none], [.list (its.flatten.map Ag)]⟩ 2).bind fun d => (Res.ok (.int 2)).bind fun e => AZ d e).bind AF = .ok ((n.fdiv 24).fmod 12 == 2) := rfl
 have fin : ∀ {v : List PT} {cs : List Cell} {l : Loc}, NQ v → frz 3 l = rw n (n.fmod 8) ((n.fdiv 24).fmod 12) (v.map Ag) none none none none cs → Cs (CH BV [.d (.int n)] []) = ES l →
   ∃ rs : List Row, (∀ r ∈ rs, Good r) ∧ rs ≠ [] ∧ rs.length ≤ 2 ∧ KC rs ≤ 1 ∧ AN Cs BV 1 [.d (.int n)] = .ok (.ret (.val (.list (rs.map A1)))) := fun {v cs l} hv hf he => by
  refine Q0 (Ok (n := n) (f := n.fmod 8) (d := (n.fdiv 24).fmod 12) hv (u4 := none) (u5 := none) (u6 := none) (u7 := none) (cs := cs)) fun rs a b c c' l' z => ?_
  refine ⟨rs, a, b, c, c', callF_ret (l' := l') (he.trans ?_) rfl⟩
  show QI (frz 3 l) = _
  rw [hf, z]
 by_cases q : (n.fdiv 24).fmod 12 = 2
 ·refine fin (v := []) (cs := [.list (its.flatten.map Ag), .dead]) (B0 ([]) (by simp) (by simp) (.inl rfl)) ?_ (e1.trans (seq_next ((if_t t2 (by rw [q]; rfl)).trans (seq_nop.trans (Lf (ds := []) rfl)))))
  rfl
 ·have q' : ((n.fdiv 24).fmod 12 == 2) = false := by simpa using q
  have t3 : ((getv ⟨[some (.d (.int n)), some (.d (.int (n.fmod 8))), some (.d (.int ((n.fdiv 24).fmod 12))), some (.lst 0), none, none, none, none], [.list (its.flatten.map Ag)]⟩ 2).bind fun d => (Res.ok (.int 3)).bind fun e => AZ d e).bind AF = .ok ((n.fdiv 24).fmod 12 == 3) := rfl
  by_cases r : (n.fdiv 24).fmod 12 = 3
  ·refine fin (v := its.flatten ++ [tDol]) (cs := [.dead]) (B0 its h1 (by lia) (.inr rfl)) ?_ (e1.trans (seq_next ((if_f t2 q').trans (seq_nop.trans ((if_t t3 (by rw [r]; rfl)).trans (seq_nop.trans (app_ok (k := 0) (d := Ag tDol) rfl (by kernel_rfl) (by have := szl; lia))))))))
   rw [T4]; rfl
  ·refine fin (v := its.flatten) (cs := [.dead]) (B0 its h1 (by lia) (.inl rfl)) ?_ (e1.trans (seq_next ((if_f t2 q').trans (seq_nop.trans (if_f t3 (by simpa using r))))))
   rfl
end Mine
namespace Mine
theorem H7 {α : Type} {p : D → Res Bool} {g : α → D} {b : α → Bool} (h : ∀ c, p (g c) = .ok (b c)) : ∀ l : List α, BO p (l.map g) = .ok ((l.filter b).map g)
 | [] => rfl
 | c :: l => by
  rw [T1, BO, h c]
  show (BO p (l.map g)).bind _ = _
  rw [H7 h l, List.filter_cons, bind_ok']
  cases b c <;> rfl
noncomputable def rP : Row := ⟨[wDef, (Ac, [112]), Gg], [TR], [EQ]⟩
noncomputable def rQ : Row := ⟨[wDef, (Ac, [113]), Gg], [tDol, nm 112 false, tL, N6, tR], [N6]⟩
noncomputable def rU : Row := ⟨[], [tDol, nm 113 false, tDol, nm 112 false], [EQ]⟩
noncomputable def C6 (r : Row) : Row := ⟨r.head, r.values, r.closing.filter fun p => p.1 != BH⟩
noncomputable def pg (ns : List D) (u1 u3 u4 u5 u6 u7 : Option W) (ts : List D) : Loc := ⟨[some (.d (.list ns)), u1, some (.lst 0), u3, u4, u5, u6, u7], [.list ts]⟩
theorem Ky {ns : List D} {u1 u3 u5 u6 u7 : Option W} : ∀ (zs : List Int) (u4 : Option W) (ts : List Row), ts.length + 2 * zs.length ≤ 1000 →
  ∃ gs : List Row, (∀ g ∈ gs, Good g) ∧ gs.length ≤ 2 * zs.length ∧ KC gs ≤ zs.length ∧ ∃ v4, BW (fun d l => .ok (l.setv 4 (.d d))) DN (zs.map .int) (pg ns u1 u3 u4 u5 u6 u7 (ts.map A1)) = .ok (.next, pg ns u1 u3 v4 u5 u6 u7 ((ts ++ gs).map A1))
 | [], u4, ts, _ => (PP ([]) (by simp) (by simp) (UG _) u4 (by simp [BW]))
 | z :: zs, u4, ts, h => by
  simp only [Ts] at h
  refine Sv (Ob z) fun rs h1 _ h2 h3 e => ?_
  have hb : DN (pg ns u1 u3 (some (.d (.int z))) u5 u6 u7 (ts.map A1)) = .ok (.next, pg ns u1 u3 (some (.d (.int z))) u5 u6 u7 ((ts ++ rs).map A1)) := by
   refine seq_nop.trans ((ext_ok (k := 0) (ts := ts.map A1) (ds := rs.map A1) rfl ?_ (by rw [Tu, Tu, szl]; lia)).trans ?_)
   ·show (AN Cs BV 1 [.d (.int z)]).bind Bb = _
    rw [e]; rfl
   ·rw [← T4]; rfl
  obtain ⟨gs, g1, g2, g3, v4, e'⟩ := Ky zs (some (.d (.int z))) (ts ++ rs) (by rw [Tw]; lia)
  refine (PP (rs ++ gs) (fun g hg => (T8.mp hg).elim (h1 g) (g1 g)) (by rw [Tw, Ts]; lia) (by rw [Ir, Ts]; lia) v4 ?_)
  rw [T1]
  refine (for_next (l' := pg ns u1 u3 (some (.d (.int z))) u5 u6 u7 (ts.map A1)) rfl hb).trans (e'.trans ?_)
  rw [Tz]
theorem PN {α : Type} (l : List α) (a b : α) : (l ++ [a]).set ((l ++ [a]).length - 1) b = l ++ [b] := by
 have : (l ++ [a]).length - 1 = l.length := by simp
 rw [this, List.set_append_right _ _ (Tv _), Nat.sub_self]; rfl
theorem Np {l : List D} {z : D} : AG (.list (l ++ [z])) (.int (-1)) = .ok z := by
 show (if (-1 : Int).natAbs < 2 ^ 62 then (match at? (l ++ [z]) (-1) with | some d => Res.ok d | none => .fail) else .fail) = _
 have : at? (l ++ [z]) (-1) = some z := by
  unfold at?
  have hl : (l ++ [z]).length = l.length + 1 := by simp
  rw [Tm (by decide), Tl (by rw [hl]; lia), hl, show ((-1 : Int) + ((l.length + 1 : Nat) : Int)).toNat = l.length by lia]; simp
 rw [Tl (by decide), this]
theorem P5 {ns : List D} {u1 u3 u4 u5 u6 u7 : Option W} {ts : List Row} {r : Row} (hc : r.closing.length ≤ 1000) : ∃ l', El (pg ns u1 u3 u4 u5 u6 u7 ((ts ++ [r]).map A1)) = .ok (.ret (.fr ((ts ++ [C6 r]).map A1)), l') := by
 have e1 : ((MR 2 (fun l => (Res.ok (.int 1)).bind Ck) (pg ns u1 u3 u4 u5 u6 u7 ((ts ++ [r]).map A1))).bind fun d => ((Ea (Az (fun d l => .ok (l.setv 5 (.d d))) (Az (fun d l => .ok (l.setv 6 (.d d))) (Az (fun d l => .ok (l.setv 7 (.d d))) DE))) 3) d (pg ns u1 u3 u4 u5 u6 u7 ((ts ++ [r]).map A1))).bind fun l => Res.ok (Fl.next, l))
   = .ok (.next, pg ns u1 u3 u4 (some (.d (.list (r.head.map Ag)))) (some (.d (.list (r.values.map Ag)))) (some (.d (.list (r.closing.map Ag)))) ((ts ++ [r]).map A1)) := by
  have : MR 2 (fun l => (Res.ok (.int 1)).bind Ck) (pg ns u1 u3 u4 u5 u6 u7 ((ts ++ [r]).map A1)) = .ok (A1 r) := by
   rw [T4]; exact Np
  rw [this]; rfl
 have e2 : MO 2 (fun l => (Res.ok (.int 1)).bind Ck) (fun l => ((getv l 5).bind fun d => ((getv l 6).bind fun d => (((Bu (fun l => (getv l 7).bind Bh) Ce [] l).bind fun ds => .ok (.list ds)).bind fun d => (Res.ok []).bind fun ds => .ok (d :: ds)).bind fun ds => .ok (d :: ds)).bind fun ds => .ok (d :: ds)).bind AV) (pg ns u1 u3 u4 (some (.d (.list (r.head.map Ag)))) (some (.d (.list (r.values.map Ag)))) (some (.d (.list (r.closing.map Ag)))) ((ts ++ [r]).map A1))
   = .ok (.next, pg ns u1 u3 u4 (some (.d (.list (r.head.map Ag)))) (some (.d (.list (r.values.map Ag)))) (some (.d (.list (r.closing.map Ag)))) ((ts ++ [C6 r]).map A1)) := by
  have hcm : Bu (fun l => (getv l 7).bind Bh) Ce [] (pg ns u1 u3 u4 (some (.d (.list (r.head.map Ag)))) (some (.d (.list (r.values.map Ag)))) (some (.d (.list (r.closing.map Ag)))) ((ts ++ [r]).map A1)) = .ok ((C6 r).closing.map Ag) := by
   unfold Bu
   show (if (r.closing.map Ag).length ≤ sizeLine then BO _ (r.closing.map Ag) else .fail) = _
   rw [Tl (by rw [Tu, szl]; lia)]
   exact H7 (b := fun p : PT => p.1 != BH) (fun p => rfl) r.closing
  unfold MO
  show (((Res.ok (.list (r.head.map Ag))).bind fun d => ((Res.ok (.list (r.values.map Ag))).bind fun d => (((Bu (fun l => (getv l 7).bind Bh) Ce [] (pg ns u1 u3 u4 (some (.d (.list (r.head.map Ag)))) (some (.d (.list (r.values.map Ag)))) (some (.d (.list (r.closing.map Ag)))) ((ts ++ [r]).map A1))).bind fun ds => .ok (.list ds)).bind fun d => (Res.ok []).bind fun ds => .ok (d :: ds)).bind fun ds => .ok (d :: ds)).bind fun ds => .ok (d :: ds)).bind AV).bind _ = _
  rw [hcm]
  show (if ((ts ++ [r]).map A1).length = 0 then Res.fail else Res.ok (Fl.next, (pg ns u1 u3 u4 (some (.d (.list (r.head.map Ag)))) (some (.d (.list (r.values.map Ag)))) (some (.d (.list (r.closing.map Ag)))) ((ts ++ [r]).map A1)).setc 0 (.list (((ts ++ [r]).map A1).set (((ts ++ [r]).map A1).length - 1) (A1 (C6 r)))))) = _
  rw [Tm (by simp), T4, T4]
  show Res.ok (Fl.next, (pg ns u1 u3 u4 _ _ _ (ts.map A1 ++ [A1 r])).setc 0 (.list ((ts.map A1 ++ [A1 r]).set ((ts.map A1 ++ [A1 r]).length - 1) (A1 (C6 r))))) = _
  rw [PN]; rfl
 exact ⟨_, (seq_next e1).trans ((seq_next e2).trans (seq_ret rfl))⟩
noncomputable def ProgRows (rs : List Row) : Prop := ∃ gs ts r, (∀ g ∈ gs, Good g) ∧ gs.length ≤ 10 ∧ KC gs ≤ 5 ∧ rP :: rQ :: rU :: gs = ts ++ [r] ∧ rs = ts ++ [C6 r]
theorem Lv (zs : List Int) (h : zs.length ≤ 5) : ∃ rs, ProgRows rs ∧ AN Db Bf 1 [.d (.list (zs.map .int))] = .ok (.ret (.fr (rs.map A1))) := by
 refine SR (Ky (ns := zs.map .int) (u1 := some (.d (Ag Gg))) (u3 := some (.d (.list (rQ.values.map Ag)))) (u5 := none) (u6 := none) (u7 := none) zs none [rP, rQ, rU] (by simp; lia)) fun gs g1 g2 g3 v4 e => ?_
 obtain ⟨ts, r, hr⟩ : ∃ ts r, rP :: rQ :: rU :: gs = ts ++ [r] := (N7 _ _ ((List.dropLast_concat_getLast (l := rP :: rQ :: rU :: gs) (by simp)).symm))
 have hcl : r.closing.length ≤ 1000 := by
  have hm : r ∈ rP :: rQ :: rU :: gs := by rw [hr]; simp
  have hc : ∀ c ∈ EF, c.length ≤ 1000 := by decide
  simp at hm
  rcases hm with rfl | rfl | rfl | hm
  ·decide
  ·decide
  ·decide
  ·cases g1 r hm with
   | use => simp
   | opn => simp
   | dfn _ _ _ _ h => exact hc _ h
 refine xE (P5 (ns := zs.map .int) (u1 := some (.d (Ag Gg))) (u3 := some (.d (.list (rQ.values.map Ag)))) (u4 := v4) (u5 := none) (u6 := none) (u7 := none) (ts := ts) (r := r) hcl) fun l' e2 => ?_
 refine (A4 (ts ++ [C6 r]) (Dc gs ts r g1 (by lia) (by exact T2 (by assumption) (by assumption)) hr rfl) (callF_ret (l' := l') ?_ rfl))
 have hz : [rP, rQ, rU] ++ gs = ts ++ [r] := hr
 rw [hz] at e
 refine (seq_next (set_ok (d := Ag Gg) (by kernel_rfl))).trans ((seq_next (Lf (ds := [A1 rP]) (by kernel_rfl))).trans ((seq_next (set_ok (d := .list (rQ.values.map Ag)) (by kernel_rfl))).trans ((seq_next (app_ok (k := 0) (ts := [A1 rP]) (d := A1 rQ) rfl (by kernel_rfl) (by decide))).trans ((seq_next (app_ok (k := 0) (ts := [A1 rP, A1 rQ]) (d := A1 rU) rfl (by kernel_rfl) (by decide))).trans ((seq_next ?_).trans e2)))))
 exact e
end Mine
namespace Mine
structure Tk where
 p : PT
 r : Int
 c : Int
noncomputable def tkD (k : Tk) : D := tok k.p.1 (S k.p.2) k.r k.c
noncomputable def encW (p : PT) : T := if p.1 = Ap then 34 :: p.2 ++ [34] else p.2
noncomputable def Iz (p : PT) : T := if p.2 = [10] then [35, 125] ++ encW p else encW p ++ [32]
noncomputable def posOf (t : T) (p : PT) : T := if p.2 = [10] then t ++ [35, 125] else t
noncomputable def tkAt (t : T) (p : PT) : Tk := ⟨p, (place (posOf t p)).1, (place (posOf t p)).2⟩
noncomputable def BC : T → List PT → T × List Tk
 | t, [] => (t, [])
 | t, p :: ps => ((BC (t ++ Iz p) ps).1, tkAt t p :: (BC (t ++ Iz p) ps).2)
noncomputable def toks (r : Row) : List PT := r.head ++ r.values ++ r.closing
noncomputable def BG : T → List Row → T × List (List Tk)
 | t, [] => (t, [])
 | t, r :: rs => ((BG (BC t (toks r)).1 rs).1, (BC t (toks r)).2 :: (BG (BC t (toks r)).1 rs).2)
theorem opAdd_S {a b : T} (h : a.length + b.length ≤ sizeLine) : AM (.str (S a)) (.str (S b)) = .ok (.str (S (a ++ b))) := by
 show (if (S a).length + (S b).length ≤ sizeLine then Res.ok (PyData.str (S a ++ S b)) else .fail) = _
 rw [Ds, Ds, Tl h, S_app]
noncomputable def wl (rows : D) (t : T) (mk : List (List D)) (ts : List D) (u3 u4 u5 u7 u8 : Option W) : Loc :=
 ⟨[some (.d rows), some (.d (.str (S t))), some (.lst 0), u3, u4, u5, some (.lst (mk.length + 1)), u7, u8], .nest (List.range' 1 mk.length) :: (mk.map .list ++ [.list ts])⟩
section
variable {rows : D} {t : T} {mk : List (List D)} {ts : List D} {u3 u4 u5 u7 u8 : Option W}
theorem OI : Dk (wl rows t mk ts u3 u4 u5 u7 u8) 6 = .ok (mk.length + 1, ts) := by
 show (match (mk.map Cell.list ++ [Cell.list ts])[mk.length]? with | some (.list ds) => Res.ok (mk.length + 1, ds) | _ => .fail) = _
 have : (mk.map Cell.list ++ [Cell.list ts])[mk.length]? = some (Cell.list ts) := by
  rw [UX (by simp)]; simp
 rw [this]
theorem RG (ts' : List D) : (wl rows t mk ts u3 u4 u5 u7 u8).setc (mk.length + 1) (.list ts') = wl rows t mk ts' u3 u4 u5 u7 u8 := by
 unfold wl Loc.setc
 rw [List.set_cons_succ, List.set_append_right _ _ (by simp)]
 simp
theorem O6 {p : PT} (hw : t.length + p.2.length + 6 ≤ 4000000) (ht : ts.length ≤ sizeLine) :
  DR (wl rows t mk ts u3 u4 u5 (some (.d (.str p.1))) (some (.d (.str (S p.2))))) = .ok (.next, wl rows (t ++ Iz p) mk (ts ++ [tkD (tkAt t p)]) u3 u4 u5 (some (.d (.str p.1))) (some (.d (.str (S p.2))))) := by
 have hz := szl
 have g1 : Bl (fun l => ((getv l 8).bind fun d => (Res.ok (.str "\n")).bind fun e => AZ d e).bind AF) Ej AT (wl rows t mk ts u3 u4 u5 (some (.d (.str p.1))) (some (.d (.str (S p.2))))) = .ok (.next, wl rows (posOf t p) mk ts u3 u4 u5 (some (.d (.str p.1))) (some (.d (.str (S p.2))))) := by
  have h : ((getv (wl rows t mk ts u3 u4 u5 (some (.d (.str p.1))) (some (.d (.str (S p.2))))) 8).bind fun d => (Res.ok (.str "\n")).bind fun e => AZ d e).bind AF = .ok (decide (p.2 = [10])) := by
   rw [Hc]; exact congrArg Res.ok (S_beq _ _)
  unfold posOf
  by_cases q : p.2 = [10]
  ·rw [Tl q]
   refine (if_t h (Tp q)).trans (seq_nop.trans ((set_ok (d := .str (S (t ++ [35, 125]))) ?_).trans rfl))
   show AM (.str (S t)) (.str "#}") = _
   rw [show "#}" = S [35, 125] by kernel_rfl]
   exact opAdd_S (by simp; lia)
  ·rw [Tm q]; exact (if_f h (Tq q)).trans rfl
 have hp : (posOf t p).length ≤ t.length + 2 := by unfold posOf; split <;> simp
 have g2 : Cw 6 (fun l => (((getv l 7).bind fun d => ((getv l 8).bind fun d => (Res.ok []).bind fun ds => .ok (d :: ds)).bind fun ds => .ok (d :: ds)).bind AV).bind fun d => (((((getv l 1).bind fun d => .ok (W.d d)).bind fun u => (Res.ok []).bind fun us => .ok (u :: us)).bind (AN f_law_place names_law_place 1)).bind Bb).bind fun e => AM d e) (wl rows (posOf t p) mk ts u3 u4 u5 (some (.d (.str p.1))) (some (.d (.str (S p.2))))) = .ok (.next, wl rows (posOf t p) mk (ts ++ [tkD (tkAt t p)]) u3 u4 u5 (some (.d (.str p.1))) (some (.d (.str (S p.2))))) := by
  refine (app_ok (k := mk.length + 1) (ts := ts) (d := tkD (tkAt t p)) OI ?_ ht).trans (by rw [RG])
  show (Res.ok (.tuple [.str p.1, .str (S p.2)])).bind (fun d => ((AN f_law_place names_law_place 1 [.d (.str (S (posOf t p)))]).bind Bb).bind fun e => AM d e) = _
  rw [law_place_ _ (by lia)]; rfl
 have g3 : Aq 1 (fun l => (getv l 1).bind fun d => ((((getv l 7).bind fun d => (Res.ok (.str "string")).bind fun e => AZ d e).bind AF).bind fun c => if c then (((Res.ok (.str "\"")).bind fun d => (getv l 8).bind fun e => AM d e).bind fun d => (Res.ok (.str "\"")).bind fun e => AM d e) else (getv l 8)).bind fun e => AM d e) (wl rows (posOf t p) mk (ts ++ [tkD (tkAt t p)]) u3 u4 u5 (some (.d (.str p.1))) (some (.d (.str (S p.2))))) = .ok (.next, wl rows (posOf t p ++ encW p) mk (ts ++ [tkD (tkAt t p)]) u3 u4 u5 (some (.d (.str p.1))) (some (.d (.str (S p.2))))) := by
  refine (set_ok (d := .str (S (posOf t p ++ encW p))) ?_).trans rfl
  show (((Res.ok (p.1 == "string")).bind fun c => if c = true then ((AM (.str "\"") (.str (S p.2))).bind fun d => (Res.ok (.str "\"")).bind fun e => AM d e) else Res.ok (.str (S p.2))).bind fun e => AM (.str (S (posOf t p))) e) = _
  rw [ls34, opAdd_S (by simp; lia)]
  unfold encW
  by_cases q : p.1 = Ap
  ·rw [Tl q, show (p.1 == "string") = true from beq_iff_eq.mpr q]
   show (AM (.str (S ([34] ++ p.2))) (.str (S [34]))).bind _ = _
   rw [opAdd_S (by simp; lia)]
   exact opAdd_S (by simp; lia)
  ·rw [Tm q, show (p.1 == "string") = false from beq_eq_false_iff_ne.mpr q]
   exact opAdd_S (by lia)
 have hq : (encW p).length ≤ p.2.length + 2 := by unfold encW; split <;> simp
 have g4 : Bl (fun l => ((getv l 8).bind fun d => (Res.ok (.str "\n")).bind fun e => A2 d e).bind AF) Ed AT (wl rows (posOf t p ++ encW p) mk (ts ++ [tkD (tkAt t p)]) u3 u4 u5 (some (.d (.str p.1))) (some (.d (.str (S p.2))))) = .ok (.next, wl rows (t ++ Iz p) mk (ts ++ [tkD (tkAt t p)]) u3 u4 u5 (some (.d (.str p.1))) (some (.d (.str (S p.2))))) := by
  have h : ((getv (wl rows (posOf t p ++ encW p) mk (ts ++ [tkD (tkAt t p)]) u3 u4 u5 (some (.d (.str p.1))) (some (.d (.str (S p.2))))) 8).bind fun d => (Res.ok (.str "\n")).bind fun e => A2 d e).bind AF = .ok (!decide (p.2 = [10])) := by
   rw [Hc]; exact congrArg Res.ok (S_bne _ _)
  unfold posOf Iz at *
  by_cases q : p.2 = [10]
  ·rw [Tl q] at h ⊢
   rw [Tl q]
   refine (if_f h (by rw [Tp q]; rfl)).trans ?_
   rw [← Tz]; rfl
  ·rw [Tm q] at h ⊢
   rw [Tm q]
   refine (if_t h (by rw [Tq q]; rfl)).trans (seq_nop.trans ((set_ok (d := .str (S (t ++ (encW p ++ [32])))) ?_).trans rfl))
   show AM (.str (S (t ++ encW p))) (.str " ") = _
   rw [show " " = S [32] by kernel_rfl, ← Tz]
   exact opAdd_S (by simp; lia)
 exact (seq_next g1).trans ((seq_next g2).trans ((seq_next g3).trans (seq_nop.trans g4)))
end
noncomputable def DS (ps : List PT) : Nat := (ps.map fun p => p.2.length + 5).sum
theorem N9 (p : PT) : (Iz p).length ≤ p.2.length + 5 := by
 unfold Iz encW
 split <;> split <;> simp <;> lia
theorem Iv : ∀ (ps : List PT) (t : T), (BC t ps).1.length ≤ t.length + DS ps ∧ (BC t ps).2.length = ps.length
 | [], t => ⟨Tv _, rfl⟩
 | p :: ps, t => by
  obtain ⟨h1, h2⟩ := Iv ps (t ++ Iz p)
  have := N9 p
  rw [Tw] at h1
  refine ⟨?_, by rw [BC, Ts, h2, Ts]⟩
  show (BC (t ++ Iz p) ps).1.length ≤ t.length + ((p.2.length + 5) + DS ps)
  lia
theorem Jd {rows : D} {mk : List (List D)} {u3 u4 u5 : Option W} : ∀ (ps : List PT) (t : T) (ts : List D) (u7 u8 : Option W), t.length + DS ps + 10 ≤ 4000000 → ts.length + ps.length ≤ sizeLine →
  ∃ v7 v8, BW (Ea (Az (fun d l => .ok (l.setv 7 (.d d))) (Az (fun d l => .ok (l.setv 8 (.d d))) DE)) 2) DR (ps.map Ag) (wl rows t mk ts u3 u4 u5 u7 u8) = .ok (.next, wl rows (BC t ps).1 mk (ts ++ (BC t ps).2.map tkD) u3 u4 u5 v7 v8)
 | [], t, ts, u7, u8, _, _ => (N7 u7 u8 (by simp [BW, BC]))
 | p :: ps, t, ts, u7, u8, h1, h2 => by
  have e : DS (p :: ps) = (p.2.length + 5) + DS ps := rfl
  simp only [Ts] at h2
  have := N9 p
  obtain ⟨v7, v8, ih⟩ := Jd ps (t ++ Iz p) (ts ++ [tkD (tkAt t p)]) (some (.d (.str p.1))) (some (.d (.str (S p.2)))) (by rw [Tw]; lia) (by rw [Tw, UP]; lia)
  refine (N7 v7 v8 ?_)
  rw [T1]
  refine (for_next (l' := wl rows t mk ts u3 u4 u5 (some (.d (.str p.1))) (some (.d (.str (S p.2))))) rfl (O6 (by lia) (by exact T2 (T3 _ _) (by assumption)))).trans (ih.trans ?_)
  rw [Tz]; rfl
noncomputable def wo (rows : D) (t : T) (mk : List (List D)) (u3 u4 u5 u6 u7 u8 : Option W) : Loc :=
 ⟨[some (.d rows), some (.d (.str (S t))), some (.lst 0), u3, u4, u5, u6, u7, u8], .nest (List.range' 1 mk.length) :: mk.map .list⟩
noncomputable def C0 (rs : List Row) : Nat := (rs.map fun r => DS (toks r)).sum
theorem QY {rows : D} {t : T} {mk : List (List D)} {u6 u7 u8 : Option W} {r : Row} (h1 : t.length + DS (toks r) + 10 ≤ 4000000) (h2 : (toks r).length ≤ 100000) (h3 : mk.length ≤ 100000) :
  ∃ v6 v7 v8, DO (wo rows t mk (some (.d (.list (r.head.map Ag)))) (some (.d (.list (r.values.map Ag)))) (some (.d (.list (r.closing.map Ag)))) u6 u7 u8) =
   .ok (.next, wo rows (BC t (toks r)).1 (mk ++ [(BC t (toks r)).2.map tkD]) (some (.d (.list (r.head.map Ag)))) (some (.d (.list (r.values.map Ag)))) (some (.d (.list (r.closing.map Ag)))) v6 v7 v8) := by
 have hz := szl
 have ht : (toks r).length = r.head.length + r.values.length + r.closing.length := by unfold toks; simp; lia
 refine Sd (Jd (rows := rows) (mk := mk) (u3 := some (.d (.list (r.head.map Ag)))) (u4 := some (.d (.list (r.values.map Ag)))) (u5 := some (.d (.list (r.closing.map Ag)))) (toks r) t [] u7 u8 h1 (by simp; lia)) fun v7 v8 e => ?_
 refine (Ht (some (.lst (mk.length + 1))) v7 v8 ?_)
 have hn : FL 6 (fun l => (Res.ok []).bind fun ds => if ds.length ≤ sizeLine then .ok ds else .fail) (wo rows t mk (some (.d (.list (r.head.map Ag)))) (some (.d (.list (r.values.map Ag)))) (some (.d (.list (r.closing.map Ag)))) u6 u7 u8) = .ok (.next, wl rows t mk [] (some (.d (.list (r.head.map Ag)))) (some (.d (.list (r.values.map Ag)))) (some (.d (.list (r.closing.map Ag)))) u7 u8) := by
  refine (Lf (ds := []) rfl).trans ?_
  unfold wo wl Loc.newc
  rw [Ts, Tu]; rfl
 refine (seq_next hn).trans ((seq_next (l' := wl rows (BC t (toks r)).1 mk ((BC t (toks r)).2.map tkD) (some (.d (.list (r.head.map Ag)))) (some (.d (.list (r.values.map Ag)))) (some (.d (.list (r.closing.map Ag)))) v7 v8) ?_).trans (seq_nop.trans ?_))
 ·show ((((AM (.list (r.head.map Ag)) (.list (r.values.map Ag))).bind fun d => AM d (.list (r.closing.map Ag))).bind GY).bind Bh).bind _ = _
  have a1 : AM (.list (r.head.map Ag)) (.list (r.values.map Ag)) = .ok (.list ((r.head ++ r.values).map Ag)) := by
   refine (Tl (by rw [Tu, Tu]; lia)).trans ?_
   rw [T4]
  have a2 : AM (.list ((r.head ++ r.values).map Ag)) (.list (r.closing.map Ag)) = .ok (.list ((toks r).map Ag)) := by
   refine (Tl (by rw [Tu, Tu, Tw]; lia)).trans ?_
   unfold toks; rw [T4, T4, T4]
  rewrite [a1, bind_ok', a2]
  exact e
 ·have hg : Kp (wl rows (BC t (toks r)).1 mk ((BC t (toks r)).2.map tkD) (some (.d (.list (r.head.map Ag)))) (some (.d (.list (r.values.map Ag)))) (some (.d (.list (r.closing.map Ag)))) v7 v8) 2 = .ok (0, List.range' 1 mk.length) := rfl
  unfold OU
  rw [hg, OI]
  show (if (List.range' 1 mk.length).length ≤ sizeLine ∧ mk.length + 1 ∉ List.range' 1 mk.length then _ else _) = _
  rw [Tl ⟨by rw [List.length_range']; lia, fun z => by rw [List.mem_range'_1] at z; lia⟩]
  unfold wo wl Loc.setc
  rw [List.set_cons_zero, Tw, UP, List.range'_1_concat, T4, Nat.add_comm 1]; rfl
theorem Kq {rows : D} : ∀ (rs : List Row) (t : T) (mk : List (List D)) (u3 u4 u5 u6 u7 u8 : Option W), t.length + C0 rs + 10 ≤ 4000000 → (∀ r ∈ rs, (toks r).length ≤ 100000) → mk.length + rs.length ≤ 100000 →
  ∃ v3 v4 v5 v6 v7 v8, BW (Ea (Az (fun d l => .ok (l.setv 3 (.d d))) (Az (fun d l => .ok (l.setv 4 (.d d))) (Az (fun d l => .ok (l.setv 5 (.d d))) DE))) 3) DO (rs.map A1) (wo rows t mk u3 u4 u5 u6 u7 u8) = .ok (.next, wo rows (BG t rs).1 (mk ++ (BG t rs).2.map fun ks => ks.map tkD) v3 v4 v5 v6 v7 v8)
 | [], t, mk, u3, u4, u5, u6, u7, u8, _, _, _ => (N3 u3 u4 u5 u6 u7 u8 (by simp [BW, BG]))
 | r :: rs, t, mk, u3, u4, u5, u6, u7, u8, h1, h2, h3 => by
  have e : C0 (r :: rs) = DS (toks r) + C0 rs := rfl
  simp only [Ts] at h3
  have hl := (Iv (toks r) t).1
  refine S0 (QY (rows := rows) (t := t) (mk := mk) (u6 := u6) (u7 := u7) (u8 := u8) (r := r) (by lia) (h2 r (Ty ..)) (by exact T2 (T3 _ _) (by assumption))) fun w6 w7 w8 hb => ?_
  obtain ⟨v3, v4, v5, v6, v7, v8, ih⟩ := Kq rs (BC t (toks r)).1 (mk ++ [(BC t (toks r)).2.map tkD]) (some (.d (.list (r.head.map Ag)))) (some (.d (.list (r.values.map Ag)))) (some (.d (.list (r.closing.map Ag)))) w6 w7 w8 (by lia) (fun q hq => h2 q (Tx _ hq)) (by rw [Tw, UP]; lia)
  refine (N3 v3 v4 v5 v6 v7 v8 ?_)
  rw [T1]
  refine (for_next (l' := wo rows t mk (some (.d (.list (r.head.map Ag)))) (some (.d (.list (r.values.map Ag)))) (some (.d (.list (r.closing.map Ag)))) u6 u7 u8) rfl hb).trans (ih.trans ?_)
  rw [Tz]; rfl
theorem Me (vs : List (Option W)) (c0 : Cell) : ∀ (mk pre : List (List D)), Du ⟨vs, c0 :: (pre ++ mk).map Cell.list⟩ (List.range' (pre.length + 1) mk.length) = some (mk.map PyData.list)
 | [], pre => rfl
 | a :: mk, pre => by
  rw [Ts, List.range'_succ, Du]
  have h1 : (c0 :: (pre ++ a :: mk).map Cell.list)[pre.length + 1]? = some (.list a) := by
   rw [List.getElem?_cons_succ, T4, UX (by simp)]; simp
  have h2 := Me vs c0 mk (pre ++ [a])
  rw [Tw, UP, Tz] at h2
  show (match (c0 :: (pre ++ a :: mk).map Cell.list)[pre.length + 1]?, Du ⟨vs, c0 :: (pre ++ a :: mk).map Cell.list⟩ (List.range' (pre.length + 1 + 1) mk.length) with | some (.list ds), some r => some (PyData.list ds :: r) | _, _ => none) = _
  rw [h1]
  have h3 : Du ⟨vs, c0 :: (pre ++ a :: mk).map Cell.list⟩ (List.range' (pre.length + 1 + 1) mk.length) = some (mk.map PyData.list) := h2
  rw [h3]; rfl
noncomputable def Bm (t : T) : Tk := ⟨(CC, []), (place t).1, (place t).2⟩
theorem Lp (ts : List Row) (r : Row) (h1 : C0 (ts ++ [r]) + 10 ≤ 4000000) (h2 : ∀ q ∈ ts ++ [r], (toks q).length ≤ 100000) (h3 : (ts ++ [r]).length ≤ 100000) :
  ∃ mk k, (BG [] (ts ++ [r])).2 = mk ++ [k] ∧ AN CK BI 1 [.d (.list ((ts ++ [r]).map A1))] =
   .ok (.ret (.val (.tuple [.str (S (BG [] (ts ++ [r])).1), .list ((mk ++ [k ++ [Bm (BG [] (ts ++ [r])).1]]).map fun ks => .list (ks.map tkD))]))) := by
 have hz := szl
 have hlen : ∀ (rs : List Row) (t : T), (BG t rs).2.length = rs.length ∧ (BG t rs).1.length ≤ t.length + C0 rs ∧ ∀ k ∈ (BG t rs).2, ∃ q ∈ rs, k.length = (toks q).length := fun rs => by
  induction rs with
  | nil => exact fun t => (KB rfl (Tv _) (by simp [BG]))
  | cons q rs ih =>
   intro t
   refine Ku (ih (BC t (toks q)).1) fun a b c => ?_
   refine xA (Iv (toks q) t) fun d e => ?_
   refine (KB (by rw [BG, Ts, a, Ts]) ?_ (fun k hk => ?_))
   ·show (BG (BC t (toks q)).1 rs).1.length ≤ t.length + (DS (toks q) + C0 rs); lia
   ·rcases T0.mp hk with rfl | hk
    ·exact (A4 q (Ty ..) e)
    ·refine BK (c k hk) fun q' h z => ?_; exact (A4 q' (Tx _ h) z)
 refine Ku (hlen (ts ++ [r]) []) fun l1 l2 l3 => ?_
 have hne : (BG [] (ts ++ [r])).2 ≠ [] := fun z => by rw [z] at l1; simp at l1
 obtain ⟨mk, k, hk⟩ : ∃ mk k, (BG [] (ts ++ [r])).2 = mk ++ [k] := (N7 _ _ ((List.dropLast_concat_getLast hne).symm))
 refine (EL mk k hk ?_)
 refine Rq (Kq (rows := .list ((ts ++ [r]).map A1)) (ts ++ [r]) [] [] none none none none none none (by simp at h1 ⊢; assumption) h2 (by simp at h3 ⊢; assumption)) fun v3 v4 v5 v6 v7 v8 e => ?_
 generalize hT : (BG [] (ts ++ [r])).1 = TT at *
 rw [hk, List.nil_append] at e
 have hkl : k.length ≤ 100000 := by
  refine BK (l3 k (by rw [hk]; simp)) fun q hq z => ?_
  rw [z]; exact h2 q hq
 have hml : mk.length + 1 ≤ 100000 := by rw [hk] at l1; simp at l1 h3; lia
 simp only [List.length_nil, Nat.zero_add] at l2
 have hlp : (AN f_law_place names_law_place 1 [.d (.str (S TT))]).bind Bb = .ok (.tuple [.int (place TT).1, .int (place TT).2]) := by rw [law_place_ _ (by lia)]; rfl
 let M := mk.map fun ks => ks.map tkD
 have hM : M.length = mk.length := by simp [M]
 rw [show ((mk ++ [k]).map fun ks => ks.map tkD) = M ++ [k.map tkD] by simp [M]] at e
 have en : Jz 2 (fun l => (((Res.ok (.str "eof")).bind fun d => ((Res.ok (.str "")).bind fun d => (Res.ok []).bind fun ds => .ok (d :: ds)).bind fun ds => .ok (d :: ds)).bind AV).bind fun d => (((((getv l 1).bind fun d => .ok (W.d d)).bind fun u => (Res.ok []).bind fun us => .ok (u :: us)).bind (AN f_law_place names_law_place 1)).bind Bb).bind fun e => AM d e) (wo (.list ((ts ++ [r]).map A1)) TT (M ++ [k.map tkD]) v3 v4 v5 v6 v7 v8)
   = .ok (.next, wo (.list ((ts ++ [r]).map A1)) TT (M ++ [(k ++ [Bm TT]).map tkD]) v3 v4 v5 v6 v7 v8) := by
  have g1 : Kp (wo (.list ((ts ++ [r]).map A1)) TT (M ++ [k.map tkD]) v3 v4 v5 v6 v7 v8) 2 = .ok (0, List.range' 1 (M ++ [k.map tkD]).length) := rfl
  have g2 : (List.range' 1 (M ++ [k.map tkD]).length).getLast? = some (M.length + 1) := by
   rw [Tw, UP, List.range'_1_concat, List.getLast?_concat, Nat.add_comm]
  have g3 : (wo (.list ((ts ++ [r]).map A1)) TT (M ++ [k.map tkD]) v3 v4 v5 v6 v7 v8).cells[M.length + 1]? = some (.list (k.map tkD)) := by
   show (Cell.nest _ :: (M ++ [k.map tkD]).map Cell.list)[M.length + 1]? = _
   rw [List.getElem?_cons_succ, T4, UX (by simp)]; simp
  unfold Jz
  rw [g1]
  show (match (List.range' 1 (M ++ [k.map tkD]).length).getLast? with | some t => _ | none => _) = _
  rw [g2]
  show (match (wo (.list ((ts ++ [r]).map A1)) TT (M ++ [k.map tkD]) v3 v4 v5 v6 v7 v8).cells[M.length + 1]? with | some (.list ds) => _ | _ => _) = _
  rw [g3]
  show ((Res.ok (.tuple [.str CC, .str ""])).bind fun d => ((AN f_law_place names_law_place 1 [.d (.str (S TT))]).bind Bb).bind fun e => AM d e).bind _ = _
  rw [hlp, ls0]
  show (if (k.map tkD).length ≤ sizeLine then Res.ok (Fl.next, (wo (.list ((ts ++ [r]).map A1)) TT (M ++ [k.map tkD]) v3 v4 v5 v6 v7 v8).setc (M.length + 1) (.list (k.map tkD ++ [tkD (Bm TT)]))) else .fail) = _
  rw [Tl (by rw [Tu]; lia)]
  have gs : ((M ++ [k.map tkD]).map Cell.list).set M.length (.list (k.map tkD ++ [tkD (Bm TT)])) = (M ++ [(k ++ [Bm TT]).map tkD]).map Cell.list := by
   rw [T4, List.set_append_right _ _ (by simp), T4]; simp
  unfold wo Loc.setc
  rw [List.set_cons_succ, gs, Tw, Tw]; rfl
 have er : ∃ l', Em (wo (.list ((ts ++ [r]).map A1)) TT (M ++ [k.map tkD]) v3 v4 v5 v6 v7 v8) = .ok (.ret (.val (.tuple [.str (S TT), .list ((M ++ [(k ++ [Bm TT]).map tkD]).map .list)])), l') := by
  have hf : frzN 2 (wo (.list ((ts ++ [r]).map A1)) TT (M ++ [(k ++ [Bm TT]).map tkD]) v3 v4 v5 v6 v7 v8) = ⟨(((wo (.list ((ts ++ [r]).map A1)) TT (M ++ [(k ++ [Bm TT]).map tkD]) v3 v4 v5 v6 v7 v8).vars.map fun u => match u with | some (.d x) => some (.d x) | _ => none).set 2 (some (.d (.list ((M ++ [(k ++ [Bm TT]).map tkD]).map .list))))), (wo (.list ((ts ++ [r]).map A1)) TT (M ++ [(k ++ [Bm TT]).map tkD]) v3 v4 v5 v6 v7 v8).cells.map fun _ => .dead⟩ := by
   unfold frzN
   rw [show Kp (wo (.list ((ts ++ [r]).map A1)) TT (M ++ [(k ++ [Bm TT]).map tkD]) v3 v4 v5 v6 v7 v8) 2 = .ok (0, List.range' 1 (M ++ [(k ++ [Bm TT]).map tkD]).length) from rfl]
   have := Me (wo (.list ((ts ++ [r]).map A1)) TT (M ++ [(k ++ [Bm TT]).map tkD]) v3 v4 v5 v6 v7 v8).vars (.nest (List.range' 1 (M ++ [(k ++ [Bm TT]).map tkD]).length)) (M ++ [(k ++ [Bm TT]).map tkD]) []
   show (match Du (wo (.list ((ts ++ [r]).map A1)) TT (M ++ [(k ++ [Bm TT]).map tkD]) v3 v4 v5 v6 v7 v8) (List.range' 1 (M ++ [(k ++ [Bm TT]).map tkD]).length) with | some ds => _ | none => _) = _
   rw [show Du (wo (.list ((ts ++ [r]).map A1)) TT (M ++ [(k ++ [Bm TT]).map tkD]) v3 v4 v5 v6 v7 v8) (List.range' 1 (M ++ [(k ++ [Bm TT]).map tkD]).length) = some ((M ++ [(k ++ [Bm TT]).map tkD]).map PyData.list) from this] <;> rfl
  refine ⟨frzN 2 (wo (.list ((ts ++ [r]).map A1)) TT (M ++ [(k ++ [Bm TT]).map tkD]) v3 v4 v5 v6 v7 v8), (seq_next en).trans (seq_nop.trans ?_)⟩
  rw [hf]; rfl
 refine xE er fun l' er => ?_
 have e0 : CK (CH BI [.d (.list ((ts ++ [r]).map A1))] []) = .ok (.ret (.val (.tuple [.str (S TT), .list ((M ++ [(k ++ [Bm TT]).map tkD]).map .list)])), l') := by
  refine (seq_next (set_ok (d := .str (S [])) (by kernel_rfl))).trans ((seq_next (l' := wo (.list ((ts ++ [r]).map A1)) [] [] none none none none none none) rfl).trans ((seq_next ?_).trans er))
  exact e
 refine (callF_ret e0 rfl).trans ?_
 simp [M, Function.comp_def]
end Mine
namespace Mine
noncomputable def PL (w : T) : Bool := !w.isEmpty && w.all isW && !Ab w && !Aw w && !dots.contains w
noncomputable def okP (p : PT) : Bool := (p.1 == BH && (p.2 == [10] || p.2 == [59])) || (p.1 == Al && [[36], [123], [125], [61], [33]].contains p.2) || (p.1 == Ap && p.2.all fun c => c != 34 && c != 10) || (p.1 == Ac && PL p.2)
theorem PD (t e : T) : place (t ++ e) = e.foldl adv1 (place t) := by unfold place; rw [List.foldl_append]
theorem ED {c : Nat} {q rest : T} {t : T} {us : List D} {r : Res (List D × Int × Int)} (h : one c (q ++ rest) = some (q.length + 1)) (k : Lex rest (place (t ++ c :: q)) (us ++ tokOf (c :: q) (place t)) r) : Lex (c :: (q ++ rest)) (place t) us r := by
 refine .go h ?_
 rw [List.take_left, List.drop_left, ← PD]
 exact k
theorem Ew {rest t : T} {us : List D} {r : Res (List D × Int × Int)} (k : Lex rest (place (t ++ [32])) us r) : Lex (32 :: rest) (place t) us r := by
 refine ED (q := []) (by kernel_rfl) ?_
 rw [Ef (by decide +kernel), UD]; exact k
theorem Ge : ∀ {w rest : T}, (∀ c ∈ w, c ≠ 34 ∧ c ≠ 10) → BA (w ++ 34 :: rest) = some w.length
 | [], rest, _ => rfl
 | c :: w, rest, h => by
  refine xA (h c (Ty ..)) fun h1 h2 => ?_
  rw [List.cons_append, BA, Tm h2, Tm h1, Ge fun d hd => h d (Tx _ hd)]; rfl
theorem OK (t : T) {p : PT} (h : p.2 ≠ [10]) : tkD (tkAt t p) = tok p.1 (S p.2) (place t).1 (place t).2 := by unfold tkD tkAt posOf; rw [Tm h]
theorem Ql {p : PT} {rest t : T} {us : List D} {r : Res (List D × Int × Int)} (ok : okP p = true) (k : Lex rest (place (t ++ Iz p)) (us ++ [tkD (tkAt t p)]) r) : Lex (Iz p ++ rest) (place t) us r := by
 obtain ⟨s, w⟩ := p
 unfold okP at ok
 simp only [Bool.or_eq_true, Bool.and_eq_true, beq_iff_eq, List.contains_iff_mem] at ok
 rcases ok with ((⟨rfl, rfl | rfl⟩ | ⟨rfl, hs⟩) | ⟨rfl, hs⟩) | ⟨rfl, hs⟩
 ·
  have e : Iz (BH, [10]) = [35, 125, 10] := by decide +kernel
  rw [e] at k ⊢
  refine ED (c := 35) (q := [125]) (rest := 10 :: rest) (by kernel_rfl) ?_
  rw [Ef (by decide +kernel), UD]
  refine ED (c := 10) (q := []) (rest := rest) (by kernel_rfl) ?_
  rw [Ip (by decide +kernel), Tz]
  exact k
 ·have e : Iz (BH, [59]) = [59, 32] := by decide +kernel
  rw [OK t (by decide), e] at k
  rw [e]
  refine ED (c := 59) (q := []) (rest := 32 :: rest) (by kernel_rfl) (Ew ?_)
  rw [Ip (by decide +kernel), Tz]
  exact k
 ·have hk : ∀ w ∈ [[36], [123], [125], [61], [33]], w = [w.headD 0] ∧ Iz (Al, w) = [w.headD 0, 32] ∧ sortOf w = Al ∧ w ≠ [10] := by decide +kernel
  have ho : ∀ w ∈ [[36], [123], [125], [61], [33]], ∀ q, one (w.headD 0) (32 :: q) = some 1 := fun w hw q => by
   simp at hw
   rcases hw with rfl | rfl | rfl | rfl | rfl <;> kernel_rfl
  refine Tf (hk w hs) fun h1 h2 h3 h4 => ?_
  have h5 := ho w hs rest
  rw [OK t h4, h2] at k
  rw [h2]
  refine ED (c := w.headD 0) (q := []) (rest := 32 :: rest) h5 (Ew ?_)
  rw [← h1, Fg h3, Tz, h1]
  rw [h1] at k
  exact k
 ·have hw : ∀ c ∈ w, c ≠ 34 ∧ c ≠ 10 := by simpa [List.all_eq_true] using hs
  have hne : w ≠ [10] := fun z => by subst z; exact (hw 10 (by simp)).2 rfl
  have e : Iz (Ap, w) = 34 :: (w ++ [34]) ++ [32] := by unfold Iz encW; rw [Tm hne, Tl rfl]; rfl
  rw [OK t hne, e] at k
  rw [e]
  have hlen : (w ++ [34]).length = w.length + 1 := by simp
  have hso : sortOf (34 :: (w ++ [34])) = Ap := by
   rw [sort_str, Tl]
   exact ⟨by simp, by rw [Ge hw, hlen]; rfl⟩
  have htok : tokOf (34 :: (w ++ [34])) (place t) = [tok Ap (S w) (place t).1 (place t).2] := by
   unfold tokOf
   rw [hso, Tm (by decide +kernel), Tl rfl]
   have : mid (34 :: (w ++ [34])) = w := by
    unfold mid cut lowAt highAt
    simp only [Option.elim]
    rw [Ts, hlen, show clipAt (w.length + 1 + 1) 1 = 1 from clipAt_nat _ 1 (by exact T6 _ _), show clipAt (w.length + 1 + 1) (-1) = w.length + 1 from FC _ 1 (by exact Nat.lt_succ_self _), List.drop_one, List.tail_cons, Nat.add_sub_cancel, List.take_left]
   rw [this]
  rw [Tz]
  refine ED (c := 34) (q := w ++ [34]) (rest := 32 :: rest) ?_ (Ew ?_)
  ·show one 34 ((w ++ [34]) ++ 32 :: rest) = _
   rw [Tz, hlen]
   show (match BA (w ++ 34 :: 32 :: rest) with | some n => some (n + 2) | none => none) = _
   rw [Ge hw]
  ·rw [htok, Tz]; exact k
 ·unfold PL at hs
  simp only [Bool.and_eq_true, Bool.not_eq_true', List.all_eq_true] at hs
  refine xA hs fun z0_ h5 => ?_; clear hs; obtain ⟨⟨⟨h1, h2⟩, h3⟩, h4⟩ := z0_
  have hnd : w ∉ dots := fun z => by rw [List.contains_iff_mem.mpr z] at h5; cases h5
  obtain ⟨c, q, rfl⟩ : ∃ c q, w = c :: q := by cases w with | nil => simp at h1 | cons c q => exact (N7 c q rfl)
  have hne : c :: q ≠ [10] := fun z => by rw [z] at h2; have := h2 10 (by simp); revert this; decide
  have e : Iz (Ac, c :: q) = c :: q ++ [32] := by unfold Iz encW; rw [Tm hne, Tm (show ¬ Ac = Ap by decide +kernel)]
  rw [OK t hne, e] at k
  rw [e, Tz]
  refine ED (c := c) (q := q) (rest := 32 :: rest) ?_ (Ew ?_)
  ·have htw : (c :: (q ++ 32 :: rest)).takeWhile isW = c :: q := NT (rest := 32 :: rest) (fun d hd => by cases hd; decide) (c :: q) h2
   rw [I7 (h2 c (Ty ..)), htw]
   unfold runOne
   rw [h3, h4, Tm UR, Tm UR]; rfl
  ·have hso : sortOf (c :: q) = Ac := by rw [Kx (by simp) h2, Tm hnd, h3, h4, Tm UR, Tm UR]
   rw [Mq hso, Tz]; exact k
theorem N0 : ∀ (ps : List PT) {rest t : T} {us : List D} {r : Res (List D × Int × Int)}, (∀ p ∈ ps, okP p = true) → Lex rest (place (BC t ps).1) (us ++ (BC t ps).2.map tkD) r → Lex ((ps.map Iz).flatten ++ rest) (place t) us r
 | [], rest, t, us, r, _, k => by simpa [BC] using k
 | p :: ps, rest, t, us, r, h, k => by
  rw [T1, UO, Tz]
  refine Ql (h p (Ty ..)) (N0 ps (fun q hq => h q (Tx _ hq)) ?_)
  rw [Tz]; exact k
theorem JH : ∀ (ps : List PT) (t : T), (BC t ps).1 = t ++ (ps.map Iz).flatten
 | [], t => by simp [BC]
 | p :: ps, t => by rw [BC, JH ps, T1, UO, Tz]
noncomputable def Co (rs : List Row) : T := (rs.map fun r => ((toks r).map Iz).flatten).flatten
theorem FR : ∀ (rs : List Row) (t : T), (BG t rs).1 = t ++ Co rs
 | [], t => by simp [BG, Co]
 | r :: rs, t => by
  show (BG (BC t (toks r)).1 rs).1 = _
  rw [FR rs, JH, Tz]; rfl
theorem Mh : ∀ (rs : List Row) {t : T} {us : List D} {r : Res (List D × Int × Int)}, (∀ q ∈ rs, ∀ p ∈ toks q, okP p = true) → Lex [] (place (BG t rs).1) (us ++ (BG t rs).2.flatten.map tkD) r → Lex (Co rs) (place t) us r
 | [], t, us, r, _, k => by simpa [BG, Co] using k
 | q :: rs, t, us, r, h, k => by
  refine N0 (toks q) (rest := Co rs) (h q (Ty ..)) (Mh rs (fun q' hq => h q' (Tx _ hq)) ?_)
  have e : (BG t (q :: rs)).2.flatten.map tkD = (BC t (toks q)).2.map tkD ++ (BG (BC t (toks q)).1 rs).2.flatten.map tkD := by
   show ((BC t (toks q)).2 :: (BG (BC t (toks q)).1 rs).2).flatten.map tkD = _
   rw [UO, T4]
  rw [e] at k
  rw [Tz]; exact k
theorem Lex.fn {r : T} {p : Int × Int} {us : List D} {a b : Res (List D × Int × Int)} (x : Lex r p us a) (y : Lex r p us b) : a = b := by
 induction x with
 | nil => cases y; rfl
 | bad h => cases y with
  | bad => rfl
  | go h' => rw [h] at h'; cases h'
 | go h k ih => cases y with
  | bad h' => rw [h] at h'; cases h'
  | go h' k' =>
   rw [h] at h'; cases h'
   exact ih k'
theorem Lx (rs : List Row) (h : ∀ q ∈ rs, ∀ p ∈ toks q, okP p = true) : readT (BG [] rs).1 = .ok ((BG [] rs).2.flatten.map tkD ++ [tkD (Bm (BG [] rs).1)]) := by
 have e : (BG [] rs).1 = Co rs := by rw [FR]; rfl
 have k := Mh rs (t := []) (us := []) h .nil
 have := (H1 (Co rs)).fn k
 unfold readT
 rw [e, this, ← e]; rfl
end Mine
namespace Mine
theorem C2 {a b : Str} (h : a.length + b.length ≤ sizeLine) : AM (.str a) (.str b) = .ok (.str (a ++ b)) := Tl h
noncomputable def kq : Str := "'"
noncomputable def Qj : Str := "syntax error, unexpected "
noncomputable def R5 : Str := ", expecting "
noncomputable def tw (p : PT) : Str := if p.1 = CC then "end of file" else if p.1 = BH then (if p.2 = [10] then "newline" else ";") else kq ++ S p.2 ++ kq
noncomputable def why (k : Tk) (what : Str) : Str := Qj ++ tw k.p ++ R5 ++ what
noncomputable def F7 (x : Dr) : D := .tuple [.str x.1, .int x.2.1, .int x.2.2]
theorem kqS : kq = S [39] := by kernel_rfl
theorem Sg {p : PT} (h : p.2.length ≤ 1000) : (tw p).length ≤ 1100 := by
 unfold tw
 split
 ·decide +kernel
 ·split
  ·split <;> decide +kernel
  ·rw [kqS, S_app, S_app, Ds]; simp; lia
theorem QN {w : T} (h : w.length ≤ 1000) : (AM (.str kq) (.str (S w))).bind (fun d => AM d (.str kq)) = .ok (.str (kq ++ S w ++ kq)) := by
 have hz := szl
 have e : kq.length = 1 := by decide +kernel
 have hl : (kq ++ S w).length = w.length + 1 := by rw [kqS, S_app, Ds]; simp
 rw [C2 (by rw [e, Ds]; lia), bind_ok', C2 (by rw [e, hl]; lia)]
theorem Pj {k : Tk} {what : Str} (h : k.p.2.length ≤ 1000) (hw : what.length ≤ 1000) :
  (((AM (.str Qj) (.str (tw k.p))).bind fun d => AM d (.str R5)).bind fun d => AM d (.str what)) = .ok (.str (why k what)) := by
 have hz := szl
 have e1 : Qj.length = 25 := by decide +kernel
 have e2 : R5.length = 12 := by decide +kernel
 have ht := Sg h
 have l1 : (Qj ++ tw k.p).length = Qj.length + (tw k.p).length := Str.length_append ..
 have l2 : (Qj ++ tw k.p ++ R5).length = (Qj ++ tw k.p).length + R5.length := Str.length_append ..
 rw [C2 (by lia), bind_ok', C2 (by lia), bind_ok', C2 (by lia)]; rfl
theorem Tc (a b : Str) : (a == b) = decide (a = b) := rfl
theorem Lw {k : Tk} (h : k.p.2.length ≤ 1000) : AN DW At 1 [.d (tkD k)] = .ok (.ret (.val (.str (tw k.p)))) := by
 have t1 : (((getv (CH At [.d (tkD k)] []) 0).bind fun d => (Res.ok (.int 0)).bind fun e => AG d e).bind fun d => (Res.ok (.str "eof")).bind fun e => AZ d e).bind AF = .ok (decide (k.p.1 = CC)) := rfl
 have t2 : (((getv (CH At [.d (tkD k)] []) 0).bind fun d => (Res.ok (.int 0)).bind fun e => AG d e).bind fun d => (Res.ok (.str "end")).bind fun e => AZ d e).bind AF = .ok (decide (k.p.1 = BH)) := rfl
 have t3 : (((getv (CH At [.d (tkD k)] []) 0).bind fun d => (Res.ok (.int 1)).bind fun e => AG d e).bind fun d => (Res.ok (.str "\n")).bind fun e => AZ d e).bind AF = .ok (decide (k.p.2 = [10])) := by
  rw [Hc]; exact congrArg Res.ok (S_beq _ _)
 refine callF_ret (l' := CH At [.d (tkD k)] []) ?_ rfl
 unfold tw
 by_cases c1 : k.p.1 = CC
 ·rw [Tl c1]; exact seq_ret ((if_t t1 (Tp c1)).trans (seq_ret rfl))
 rw [Tm c1]
 refine (seq_next (if_f t1 (Tq c1))).trans ?_
 by_cases c2 : k.p.1 = BH
 ·rw [Tl c2]
  refine seq_ret ((if_t t2 (Tp c2)).trans ?_)
  by_cases c3 : k.p.2 = [10]
  ·rw [Tl c3]; exact seq_ret ((if_t t3 (Tp c3)).trans (seq_ret rfl))
  ·rw [Tm c3]; exact (seq_next (if_f t3 (Tq c3))).trans (seq_ret rfl)
 ·rw [Tm c2]
  refine (seq_next (if_f t2 (Tq c2))).trans (seq_ret ?_)
  show ((AM (.str kq) (.str (S k.p.2))).bind fun d => AM d (.str kq)).bind (fun d => Res.ok (Fl.ret (.val d), CH At [.d (tkD k)] [])) = _
  rw [QN h]; rfl
theorem ER {k : Tk} {what : Str} (h : k.p.2.length ≤ 1000) (hw : what.length ≤ 1000) : AN BN Ak 2 [.d (tkD k), .d (.str what)] = .ok (.ret (.ex (why k what, k.r, k.c))) := by
 refine callF_ret (l' := ⟨[some (.d (tkD k)), some (.d (.str what)), some (.d (.str (why k what)))], []⟩) ?_ rfl
 refine (seq_next ((set_ok (d := .str (why k what)) ?_).trans rfl)).trans (seq_ret rfl)
 show ((((AN DW At 1 [.d (tkD k)]).bind Bb).bind fun e => AM (.str Qj) e).bind fun d => AM d (.str R5)).bind (fun d => AM d (.str what)) = _
 rw [Lw h]
 exact Pj h hw
theorem E4 {k : Tk} {what : Str} (h : k.p.2.length ≤ 1000) (hw : what.length ≤ 1000) : AN BR Ai 2 [.d (tkD k), .d (.str what)] = .ok (.ret (.val (F7 (why k what, k.r, k.c)))) := by
 let L (u : D) : Loc := ⟨[some (.d (tkD k)), some (.d (.str what)), some (.d u)], []⟩
 refine callF_ret (l' := L (.str (tw k.p))) ?_ rfl
 have s2 : (Aq 2 (fun l => ((Res.ok (.str "'")).bind fun d => ((getv l 0).bind fun d => (Res.ok (.int 1)).bind fun e => AG d e).bind fun e => AM d e).bind fun d => (Res.ok (.str "'")).bind fun e => AM d e)) (CH Ai [.d (tkD k), .d (.str what)] []) = .ok (.next, L (.str (kq ++ S k.p.2 ++ kq))) :=
  (set_ok (d := .str (kq ++ S k.p.2 ++ kq)) (QN h)).trans rfl
 have t1 : (((getv (L (.str (kq ++ S k.p.2 ++ kq))) 0).bind fun d => (Res.ok (.int 0)).bind fun e => AG d e).bind fun d => (Res.ok (.str "eof")).bind fun e => AZ d e).bind AF = .ok (decide (k.p.1 = CC)) := rfl
 have t2 : (((getv (L (.str (kq ++ S k.p.2 ++ kq))) 0).bind fun d => (Res.ok (.int 0)).bind fun e => AG d e).bind fun d => (Res.ok (.str "end")).bind fun e => AZ d e).bind AF = .ok (decide (k.p.1 = BH)) := rfl
 have t3 : (((getv (L (.str (kq ++ S k.p.2 ++ kq))) 0).bind fun d => (Res.ok (.int 1)).bind fun e => AG d e).bind fun d => (Res.ok (.str "\n")).bind fun e => AZ d e).bind AF = .ok (decide (k.p.2 = [10])) := by
  rw [Hc]; exact congrArg Res.ok (S_beq _ _)
 have mid : Bl (fun l => (((getv l 0).bind fun d => (Res.ok (.int 0)).bind fun e => AG d e).bind fun d => (Res.ok (.str "eof")).bind fun e => AZ d e).bind AF) Fd Fm (L (.str (kq ++ S k.p.2 ++ kq))) = .ok (.next, L (.str (tw k.p))) := by
  unfold tw
  by_cases c1 : k.p.1 = CC
  ·rw [Tl c1]; exact (if_t t1 (Tp c1)).trans rfl
  rw [Tm c1]
  refine (if_f t1 (Tq c1)).trans (seq_nop.trans ?_)
  by_cases c2 : k.p.1 = BH
  ·rw [Tl c2]
   refine (if_t t2 (Tp c2)).trans (seq_nop.trans ((set_ok (d := .str (if k.p.2 = [10] then "newline" else ";")) ?_).trans rfl))
   show ((((getv (L (.str (kq ++ S k.p.2 ++ kq))) 0).bind fun d => (Res.ok (.int 1)).bind fun e => AG d e).bind fun d => (Res.ok (.str "\n")).bind fun e => AZ d e).bind AF).bind _ = _
   rw [t3]
   by_cases c3 : k.p.2 = [10]
   ·rw [Tl c3, Tp c3]; rfl
   ·rw [Tm c3, Tq c3]; rfl
  ·rw [Tm c2]; exact (if_f t2 (Tq c2)).trans rfl
 refine (seq_next s2).trans ((seq_next mid).trans (seq_ret ?_))
 show ((((((AM (.str Qj) (.str (tw k.p))).bind fun d => AM d (.str R5)).bind fun d => AM d (.str what)).bind fun d => (Res.ok []).bind fun ds => .ok (d :: ds)).bind AV).bind (fun d => ((AY (some ((2 : Nat) : Int)) none (tkD k)).bind fun e => AM d e))).bind (fun d => Res.ok (Fl.ret (.val d), L (.str (tw k.p)))) = _
 rw [Pj h hw]; rfl
end Mine
namespace Mine
noncomputable def A5 : List PT := [wDef, Gg, En, tDol, tL, tR, N6, EQ, TR, wX, wU, wIp, sS, sB, nm 112 true, nm 113 true, nm 97 true, nm 98 true, nm 112 false, nm 113 false, nm 97 false, nm 98 false, nm 99 false, (Ap, [97]), (Ap, [99]), (CC, [])]
theorem DL {p : PT} (h : p ∈ A5) : SeqAt.shaped (Ag p) = true := (show ∀ p ∈ A5, SeqAt.shaped (Ag p) = true by decide +kernel) p h
theorem Dv {p : PT} (h : p ∈ A5) : p.2.length ≤ 1000 := (show ∀ p ∈ A5, p.2.length ≤ 1000 by decide +kernel) p h
theorem LY (a b : PT) : PyData.eqv (Ag a) (Ag b) = decide (a = b) := by
 show ((a.1 == b.1) && ((S a.2 == S b.2) && true)) = _
 rewrite [S_beq, Bool.and_true, show (a.1 == b.1) = decide (a.1 = b.1) from rfl, ← Bool.decide_and]
 exact decide_eq_decide.mpr ⟨fun h => Prod.ext h.1 h.2, fun h => by rw [h]; exact ⟨rfl, rfl⟩⟩
theorem R2 {a b : PT} (ha : a ∈ A5) (hb : b ∈ A5) : AZ (Ag a) (Ag b) = .ok (.bool (decide (a = b))) := by
 show (if (SeqAt.shaped (Ag a) && SeqAt.shaped (Ag b)) = true then Res.ok (PyData.bool (PyData.eqv (Ag a) (Ag b))) else .fail) = _
 rw [DL ha, DL hb, LY]; rfl
theorem TN {a b : PT} (ha : a ∈ A5) (hb : b ∈ A5) : A2 (Ag a) (Ag b) = .ok (.bool (!decide (a = b))) := by
 show (if (SeqAt.shaped (Ag a) && SeqAt.shaped (Ag b)) = true then Res.ok (PyData.bool (!PyData.eqv (Ag a) (Ag b))) else .fail) = _
 rw [DL ha, DL hb, LY]; rfl
noncomputable def BY (ks : List Tk) : D := .list (ks.map tkD)
theorem Cp {TT : List Tk} {n : Nat} {k : Tk} (h : TT[n]? = some k) (hl : TT.length ≤ sizeLine) : AG (BY TT) (.int n) = .ok (tkD k) := by
 have hn := (UC.mp h).1
 show (if (n : Int).natAbs < 2 ^ 62 then (match at? (TT.map tkD) n with | some d => Res.ok d | none => .fail) else .fail) = _
 rw [Tl (small n (by have := szl; lia)), at?_nat, UH, h]; rfl
noncomputable def Ek (prev : Option Tk) (k : Tk) : Bool := decide (k.p = wDef) && (match prev with | none => true | some a => decide (a.p.1 = BH) || (decide (a.p = tL) || decide (a.p = tR)))
theorem Nh {TT : List Tk} {n : Nat} {k : Tk} (hl : TT.length ≤ sizeLine) (hP : ∀ k ∈ TT, k.p ∈ A5) (h : TT[n]? = some k) :
  AN B9 Ba 2 [.d (BY TT), .d (.int n)] = .ok (.ret (.val (.bool (Ek (if n = 0 then none else TT[n - 1]?) k)))) := by
 let L (u : Option W) : Loc := ⟨[some (.d (BY TT)), some (.d (.int n)), u], []⟩
 have hi := Cp h hl
 have t1 : ((((AG (BY TT) (.int n)).bind fun d => (Res.ok (.int 0)).bind fun e => AG d e).bind fun d => (Res.ok (.str "word")).bind fun e => A2 d e).bind AF) = .ok (decide (k.p.1 ≠ Ac)) := by
  rw [hi]; exact congrArg Res.ok (neS k.p.1 Ac)
 have t2 : ((((AG (BY TT) (.int n)).bind fun d => (Res.ok (.int 1)).bind fun e => AG d e).bind fun d => (Res.ok (.str "define")).bind fun e => A2 d e).bind AF) = .ok (!decide (k.p.2 = wDef.2)) := by
  rw [hi, show "define" = S wDef.2 by kernel_rfl]; exact congrArg Res.ok (S_bne _ _)
 have hno : ∀ b, decide (k.p = wDef) = false → b = Ek (if n = 0 then none else TT[n - 1]?) k → b = false := fun b h1 h2 => by rw [h2]; unfold Ek; rw [h1]; rfl
 have ret : ∀ {l}, Ek (if n = 0 then none else TT[n - 1]?) k = false → B9 (L none) = .ok (.ret (.val (.bool false)), l) → AN B9 Ba 2 [.d (BY TT), .d (.int n)] = .ok (.ret (.val (.bool (Ek (if n = 0 then none else TT[n - 1]?) k)))) := fun {l} h1 h2 => by
  rw [h1]; exact callF_ret h2 rfl
 by_cases c1 : k.p.1 = Ac
 ·by_cases c2 : k.p.2 = wDef.2
  ·have hk : k.p = wDef := Prod.ext c1 c2
   rw [Tq (UB c1)] at t1
   rw [Tp c2] at t2
   have skip : B9 (L none) = FY (L none) := seq_next (if_f ((or_f t1).trans (or_f t2)) rfl)
   have t3 : ((getv (L none) 1).bind fun d => (Res.ok (.int 0)).bind fun e => AZ d e).bind AF = .ok (decide (n = 0)) := by
    show Res.ok ((n : Int) == 0) = _
    exact congrArg Res.ok (show decide ((n : Int) = 0) = decide (n = 0) from decide_eq_decide.mpr (by lia))
   unfold Ek
   rw [Tp hk, Bool.true_and]
   by_cases c3 : n = 0
   ·rw [Tl c3]
    exact callF_ret (skip.trans (seq_ret ((if_t t3 (Tp c3)).trans (seq_ret rfl)))) rfl
   ·rw [Tm c3]
    have hlt := (UC.mp h).1
    have ha : TT[n - 1]? = some TT[n - 1] := List.getElem?_eq_getElem (by lia)
    have hin : TT[n - 1] ∈ TT := List.getElem_mem ..
    generalize TT[n - 1] = a at ha hin
    rw [ha]
    have s2 : (Aq 2 (fun l => (getv l 0).bind fun d => ((getv l 1).bind fun d => (Res.ok (.int 1)).bind fun e => Jt d e).bind fun e => AG d e)) (L none) = .ok (.next, L (some (.d (tkD a)))) := by
     refine (set_ok (d := tkD a) ?_).trans rfl
     show AG (BY TT) (.int ((n : Int) - 1)) = _
     rw [show (n : Int) - 1 = ((n - 1 : Nat) : Int) by lia]
     exact Cp ha hl
    have hin2 : DM (Ag a.p) (.tuple [Ag tL, Ag tR]) = .ok (.bool (decide (a.p = tL) || decide (a.p = tR))) := by
     rw [Jp (by decide +kernel) (DL (hP a hin))]
     simp only [List.any_cons, List.any_nil, LY, Bool.or_false, eq_comm]
    refine callF_ret (l' := L (some (.d (tkD a)))) (skip.trans ((seq_next (if_f t3 (Tq c3))).trans ((seq_next s2).trans (seq_ret ?_)))) rfl
    show ((Res.ok (a.p.1 == BH)).bind fun b => if b = true then Res.ok (PyData.bool true) else DM (Ag a.p) (.tuple [Ag tL, Ag tR])).bind (fun d => Res.ok (Fl.ret (.val d), L (some (.d (tkD a))))) = _
    rw [hin2, Tc]
    show _ = Res.ok (Fl.ret (.val (.bool (decide (a.p.1 = BH) || (decide (a.p = tL) || decide (a.p = tR))))), L (some (.d (tkD a))))
    cases decide (a.p.1 = BH) <;> rfl
  ·rw [Tq (UB c1)] at t1
   rw [Tq c2] at t2
   exact ret (hno _ (Tq fun z => c2 (by rw [z])) rfl) (seq_ret ((if_t ((or_f t1).trans (or_t t2)) rfl).trans (seq_ret rfl)))
 ·rw [Tp (p := k.p.1 ≠ Ac) c1] at t1
  exact ret (hno _ (Tq fun z => c1 (by rw [z]; rfl)) rfl) (seq_ret ((if_t (or_t t1) rfl).trans (seq_ret rfl)))
noncomputable def Hj : Nat → List Tk → Nat
 | _, [] => 0
 | d, k :: r => if k.p.1 = CC then 0 else if k.p.1 = BH ∧ d = 0 then 0 else if k.p = tL then 1 + Hj (d + 1) r else if k.p = tR then (if d = 0 then 0 else 1 + Hj (d - 1) r) else 1 + Hj d r
noncomputable def ve (TT : List Tk) (n : Nat) (d : Int) (u : Option W) : Loc := ⟨[some (.d (BY TT)), some (.d (.int n)), some (.d (.int d)), u], []⟩
noncomputable def TG (o : Res (Fl × Loc)) (e : Nat) : Prop := (∃ l, o = .ok (.next, l) ∧ getv l 1 = .ok (.int e)) ∨ ∃ l, o = .ok (.ret (.val (.int e)), l)
theorem Fa {TT : List Tk} (hl : TT.length ≤ sizeLine) (hP : ∀ k ∈ TT, k.p ∈ A5) : ∀ (r : List Tk) (m n d : Nat) (u : Option W), r.length < m → TT.drop n = r → (∃ k ∈ r, k.p.1 = CC) →
  TG (Ao Cz CW m (ve TT n d u)) (n + Hj d r)
 | [], m, n, d, u, _, _, h => by refine BK h fun k hk _ => ?_; clear h; cases hk
 | k :: r, m, n, d, u, hm, hd, he => by
  obtain ⟨m, rfl⟩ : ∃ j, m = j + 1 := ⟨m - 1, by simp at hm; lia⟩
  have hk : TT[n]? = some k := by rw [← UM, hd]; rfl
  have hr : TT.drop (n + 1) = r := by rw [← T9, hd]; rfl
  have hin : k ∈ TT := UK (hd ▸ Ty ..)
  have hi := Cp hk hl
  have hkP := hP k hin
  have t1 : Cz (ve TT n d u) = .ok (decide (k.p.1 ≠ CC)) := by
   show ((((AG (BY TT) (.int n)).bind fun d => (Res.ok (.int 0)).bind fun e => AG d e).bind fun d => (Res.ok (.str "eof")).bind fun e => A2 d e).bind AF) = _
   rw [hi]; exact congrArg Res.ok (neS k.p.1 CC)
  unfold Hj
  by_cases c1 : k.p.1 = CC
  ·rw [Tl c1]
   rw [Tq (UB c1)] at t1
   exact .inl (A4 _ (whileM_stop m t1) rfl)
  rw [Tm c1]
  rw [Tp (p := k.p.1 ≠ CC) c1] at t1
  have he' : ∃ k ∈ r, k.p.1 = CC := by
   refine BK he fun j hj z => ?_; clear he
   rcases T0.mp hj with rfl | hj
   ·exact absurd z c1
   ·exact (A4 j hj z)
  have s3 : Aq 3 (fun l => (getv l 0).bind fun d => (getv l 1).bind fun e => AG d e) (ve TT n d u) = .ok (.next, ve TT n d (some (.d (tkD k)))) := (set_ok (d := tkD k) hi).trans rfl
  have t0 : ∀ i : Int, ((getv (ve TT n i (some (.d (tkD k)))) 2).bind fun d => (Res.ok (.int 0)).bind fun e => AZ d e).bind AF = .ok (decide (i = 0)) := fun i => rfl
  have h0 : decide ((d : Int) = 0) = decide (d = 0) := decide_eq_decide.mpr (by lia)
  have ta : Ca (fun l => (((getv l 3).bind fun d => (Res.ok (.int 0)).bind fun e => AG d e).bind fun d => (Res.ok (.str "end")).bind fun e => AZ d e).bind AF) (fun l => Ca (fun l => ((getv l 2).bind fun d => (Res.ok (.int 0)).bind fun e => AZ d e).bind AF) (fun l => Res.ok true) l) (ve TT n d (some (.d (tkD k)))) = .ok (decide (k.p.1 = BH ∧ d = 0)) := by
   have e1 : ((((getv (ve TT n d (some (.d (tkD k)))) 3).bind fun d => (Res.ok (.int 0)).bind fun e => AG d e).bind fun d => (Res.ok (.str "end")).bind fun e => AZ d e).bind AF) = .ok (decide (k.p.1 = BH)) := rfl
   by_cases q1 : k.p.1 = BH
   ·rw [Tp q1] at e1
    by_cases q2 : d = 0
    ·rw [Tp (p := k.p.1 = BH ∧ d = 0) ⟨q1, q2⟩]
     exact (and_t e1).trans (and_t ((t0 d).trans (by rw [h0, Tp q2])))
    ·rw [Tq (p := k.p.1 = BH ∧ d = 0) fun z => q2 z.2]
     exact (and_t e1).trans (and_f ((t0 d).trans (by rw [h0, Tq q2])))
   ·rw [Tq q1] at e1
    rw [Tq (p := k.p.1 = BH ∧ d = 0) fun z => q1 z.1]
    exact and_f e1
  by_cases c2 : k.p.1 = BH ∧ d = 0
  ·rw [Tl c2]
   exact .inr ⟨_, whileM_ret m t1 ((seq_next s3).trans (seq_ret ((if_t ta (Tp c2)).trans (seq_ret rfl))))⟩
  rw [Tm c2]
  have tl : ∀ i : Int, (((getv (ve TT n i (some (.d (tkD k)))) 3).bind fun d => (Res.ok none).bind fun lo => ((Res.ok (.int 2)).bind Ah).bind fun hi => AY lo hi d).bind fun d => (((Res.ok (.str "sign")).bind fun d => ((Res.ok (.str "{")).bind fun d => (Res.ok []).bind fun ds => .ok (d :: ds)).bind fun ds => .ok (d :: ds)).bind AV).bind fun e => AZ d e).bind AF = .ok (decide (k.p = tL)) := fun i => by
   have := R2 hkP (show tL ∈ A5 by decide +kernel)
   refine (congrArg (fun r => Res.bind r AF) (?_ : _ = AZ (Ag k.p) (Ag tL))).trans (by rw [this]; rfl)
   kernel_rfl
  have tr : ∀ i : Int, (((getv (ve TT n i (some (.d (tkD k)))) 3).bind fun d => (Res.ok none).bind fun lo => ((Res.ok (.int 2)).bind Ah).bind fun hi => AY lo hi d).bind fun d => (((Res.ok (.str "sign")).bind fun d => ((Res.ok (.str "}")).bind fun d => (Res.ok []).bind fun ds => .ok (d :: ds)).bind fun ds => .ok (d :: ds)).bind AV).bind fun e => AZ d e).bind AF = .ok (decide (k.p = tR)) := fun i => by
   have := R2 hkP (show tR ∈ A5 by decide +kernel)
   refine (congrArg (fun r => Res.bind r AF) (?_ : _ = AZ (Ag k.p) (Ag tR))).trans (by rw [this]; rfl)
   kernel_rfl
  have pre : ∀ {r : Res (Fl × Loc)}, Ff (ve TT n d (some (.d (tkD k)))) = r → CW (ve TT n d u) = r := fun z => (seq_next s3).trans ((seq_next (if_f ta (Tq c2))).trans z)
  have r2 : ∀ i : Int, Fi (ve TT n i (some (.d (tkD k)))) = .ok (.next, ve TT (n + 1) i (some (.d (tkD k)))) := fun i => rfl
  have on : ∀ {d' : Nat} {e : Nat}, CW (ve TT n d u) = .ok (.next, ve TT (n + 1) d' (some (.d (tkD k)))) → e = 1 + Hj d' r → TG (Ao Cz CW (m + 1) (ve TT n d u)) (n + e) := fun {d' e} hb e' => by
   rw [whileM_go m t1 hb (.inl rfl), e', ← Nat.add_assoc]
   exact Fa hl hP r m (n + 1) d' _ (by simp only [Ts] at hm; exact Nat.lt_of_succ_lt_succ (by assumption)) hr he'
  by_cases c3 : k.p = tL
  ·rw [Tl c3]
   have c4 : k.p ≠ tR := by rw [c3]; decide +kernel
   exact on (d' := d + 1) (pre ((seq_next ((if_t (tl d) (Tp c3)).trans rfl)).trans ((seq_next (if_f (tr ((d : Int) + 1)) (Tq c4))).trans (r2 _)))) rfl
  rw [Tm c3]
  by_cases c4 : k.p = tR
  ·rw [Tl c4]
   by_cases c5 : d = 0
   ·rw [Tl c5]
    exact .inr ⟨_, whileM_ret m t1 (pre ((seq_next (if_f (tl d) (Tq c3))).trans (seq_ret ((if_t (tr d) (Tp c4)).trans (seq_ret ((if_t (t0 d) (by rw [h0, Tp c5])).trans (seq_ret rfl)))))))⟩
   ·rw [Tm c5]
    refine on (d' := d - 1) (pre ((seq_next (if_f (tl d) (Tq c3))).trans ((seq_next ((if_t (tr d) (Tp c4)).trans ((seq_next (if_f (t0 d) (by rw [h0, Tq c5]))).trans rfl))).trans ((r2 ((d : Int) - 1)).trans ?_)))) rfl
    rw [show (d : Int) - 1 = ((d - 1 : Nat) : Int) by lia]
  ·rw [Tm c4]
   exact on (d' := d) (pre ((seq_next (if_f (tl d) (Tq c3))).trans ((seq_next (if_f (tr d) (Tq c4))).trans (r2 _)))) rfl
theorem Na {TT : List Tk} (hl : TT.length ≤ sizeLine) (hP : ∀ k ∈ TT, k.p ∈ A5) (n : Nat) (he : ∃ k ∈ TT.drop n, k.p.1 = CC) : AN Dg Bk 2 [.d (BY TT), .d (.int n)] = .ok (.ret (.val (.int ((n + Hj 0 (TT.drop n) : Nat) : Int)))) := by
 have h := Fa hl hP (TT.drop n) (TT.length + 2) n 0 none (by rw [List.length_drop]; lia) rfl he
 have hf : B5 0 (ve TT n 0 none) = TT.length + 2 := by show (TT.map tkD).length + 2 = _; rw [Tu]
 rw [← hf] at h
 rcases h with ⟨l, e, g⟩ | ⟨l, e⟩
 ·have er : FM l = .ok (.ret (.val (.int ((n + Hj 0 (TT.drop n) : Nat) : Int))), l) := by
   refine seq_ret ?_
   show (getv l 1).bind _ = _
   rw [g]; rfl
  exact callF_ret ((seq_next (l' := ve TT n 0 none) rfl).trans ((seq_next e).trans er)) rfl
 ·exact callF_ret ((seq_next (l' := ve TT n 0 none) rfl).trans (seq_ret e)) rfl
end Mine
namespace Mine
noncomputable abbrev Kn := List (Nat × List Tk)
noncomputable def Eu (kn : Kn) : List (Str × D) := kn.map fun e => (S [e.1], BY e.2)
noncomputable def lk (kn : Kn) (c : Nat) : Option (List Tk) := (kn.find? fun e => e.1 = c).map (·.2)
theorem CY (c : Nat) : ∀ kn : Kn, B4 (Eu kn) (S [c]) = (lk kn c).map BY
 | [] => rfl
 | e :: kn => by
  have ih := CY c kn
  unfold B4 lk Eu at ih ⊢
  rw [T1, List.find?_cons, List.find?_cons]
  by_cases q : e.1 = c
  ·rw [Tp (p := S [e.1] = S [c]) (by rw [q]), Tp q]; rfl
  ·rw [Tq (p := S [e.1] = S [c]) (fun z => q (by have := QA.mp z; injection this)), Tq q]
   exact ih
theorem JD {w : T} (h : w.length ≠ 1) : ∀ kn : Kn, B4 (Eu kn) (S w) = none
 | [] => rfl
 | e :: kn => by
  have ih := JD h kn
  unfold B4 Eu at ih ⊢
  rw [T1, List.find?_cons, Tq (p := S [e.1] = S w) (fun z => h (by rw [← QA.mp z]; rfl))]
  exact ih
noncomputable def Mc : List Nat := [112, 113, 97, 98]
noncomputable def O1 (p : PT) : Bool := (Mc.any fun c => p == nm c true || p == nm c false)
theorem Rt {p : PT} (h : O1 p = true) : ∃ c b, c ∈ Mc ∧ p = nm c b := by
 unfold O1 at h
 refine BK (List.any_eq_true.mp h) fun c hc h => ?_
 rcases Bool.or_eq_true_iff.mp h with h | h
 ·exact (EL c true hc (eq_of_beq h))
 ·exact (EL c false hc (eq_of_beq h))
theorem Nl {kn : Kn} {c : Nat} {b : Bool} (hc : c ∈ Mc) : AN CU Bi 2 [.d (.str (S (nm c b).2)), .bd (Eu kn)] = .ok (.ret (.val (.str (S [c])))) := by
 let L (u : Option W) : Loc := ⟨[some (.d (.str (S (nm c b).2))), some (.bd (Eu kn)), u], []⟩
 have hf : Fe (.str (S (nm c b).2)) (.str ":") = .ok (.int (if b then 1 else -1)) := by
  unfold Mc at hc; simp at hc
  rcases hc with rfl | rfl | rfl | rfl <;> cases b <;> kernel_rfl
 have s2 : Aq 2 (fun l => (getv l 0).bind fun d => (CD d).bind fun d => (Res.ok (.str ":")).bind fun e => Fe d e) (L none) = .ok (.next, L (some (.d (.int (if b then 1 else -1))))) := (set_ok (d := .int (if b then 1 else -1)) hf).trans rfl
 have t1 : (Mi false 1 (fun l => getv l 0) (L (some (.d (.int (if b then 1 else -1)))))).bind AF = .ok (B4 (Eu kn) (S (nm c b).2)).isSome := by
  show Res.ok ((B4 (Eu kn) (S (nm c b).2)).isSome != false) = _
  cases (B4 (Eu kn) (S (nm c b).2)).isSome <;> rfl
 have t2 : ((getv (L (some (.d (.int (if b then 1 else -1))))) 2).bind fun d => (Res.ok (.int 1)).bind fun e => DI d e).bind AF = .ok (decide ((if b then 1 else -1 : Int) < 1)) := rfl
 cases b with
 | false =>
  have e : ∃ l', CU (L none) = .ok (.ret (.val (.str (S [c]))), l') := by
   refine ⟨_, (seq_next s2).trans (seq_ret ((if_t (b := true) ?_ rfl).trans (seq_ret rfl)))⟩
   cases h : (B4 (Eu kn) (S (nm c false).2)).isSome with
   | true => rw [h] at t1; exact or_t t1
   | false => rw [h] at t1; exact (or_f t1).trans (or_t t2)
  refine xE e fun l' e => ?_
  exact callF_ret e rfl
 | true =>
  rw [JD (by show (4 : Nat) ≠ 1; decide)] at t1
  have e : ∃ l', CU (L none) = .ok (.ret (.val (.str (S [c]))), l') := by
   refine ⟨L (some (.d (.int 1))), (seq_next s2).trans ((seq_next (if_f ((or_f t1).trans (or_f t2)) rfl)).trans (seq_ret ?_))⟩
   show (AY none (some ((1 : Nat) : Int)) (.str (S [c, 58, 56, 48]))).bind _ = _
   rw [opCut_S _ _ (by show (4 : Nat) ≤ sizeLine; rw [szl]; decide), Il]; rfl
  refine xE e fun l' e => ?_
  exact callF_ret e rfl
noncomputable def Bc (n : Tk) : List Tk := if n.p.2.length = 1 then [] else [⟨(Al, [58]), n.r, n.c + 1⟩, ⟨(Ac, n.p.2.drop 2), n.r, n.c + 1 + 1⟩]
noncomputable def Og : Str := "syntax error, unexpected '$'"
noncomputable def Rn (c : Nat) : Str := Str.ofString "unknown identifier '" ++ S [c] ++ kq
noncomputable def JB : Str := "string"
noncomputable def Ad (kn : Kn) : List Tk → Res (List Tk)
 | [] => .ok []
 | [k] => if k.p = tDol then .exc (Og, k.r, k.c) else .ok [k]
 | k :: n :: r => if k.p = tDol then (if n.p.1 ≠ Ac then .exc (why n JB, n.r, n.c) else match lk kn (n.p.2.headD 0) with
   | none => .exc (Rn (n.p.2.headD 0), n.r, n.c)
   | some v => (Ad kn r).bind fun o => .ok (v ++ Bc n ++ o))
  else (Ad kn (n :: r)).bind fun o => .ok (k :: o)
noncomputable def Av : List PT → Bool
 | [] => true
 | [_] => true
 | k :: n :: r => (k != tDol || n.1 != Ac || O1 n) && Av (n :: r)
end Mine
namespace Mine
noncomputable def re (TT : List Tk) (kn : Kn) (a : Nat) (u4 u5 u6 : Option W) (out : List Tk) : Loc := ⟨[some (.d (BY TT)), some (.bd (Eu kn)), some (.lst 0), some (.d (.int a)), u4, u5, u6], [.list (out.map tkD)]⟩
noncomputable def EK (kn : Kn) (B : Nat) : Prop := ∀ c v, lk kn c = some v → v.length ≤ B
noncomputable def HS (TT : List Tk) (kn : Kn) (out : List Tk) (n : Nat) (o : Res (Fl × Loc)) (res : Res (List Tk)) : Prop := match res with
 | .ok ts => (∃ u4 u5 u6, o = .ok (.next, re TT kn TT.length u4 u5 u6 (out ++ ts))) ∧ ts.length ≤ n
 | .exc e => o = .exc e
 | .fail => False
theorem Sf : tDol ∈ A5 := by decide +kernel
theorem TC (k : Tk) : (decide (k.p.1 ≠ Al) || !decide (k.p.2 = [36])) = !decide (k.p = tDol) := by
 by_cases q : k.p = tDol
 ·rw [Tp q, q]; decide +kernel
 ·rw [Tq q]
  by_cases q1 : k.p.1 = Al
  ·have q2 : k.p.2 ≠ [36] := fun z => q (Prod.ext q1 z)
   rw [Tq q2]; simp
  ·rw [Tp (p := k.p.1 ≠ Al) q1]; rfl
theorem PO {TT : List Tk} {kn : Kn} {B : Nat} (hl : TT.length ≤ sizeLine) (hP : ∀ k ∈ TT, k.p ∈ A5) (hB : EK kn B) : ∀ (m a : Nat) (u4 u5 u6 : Option W) (out : List Tk), (TT.drop a).length < m → a ≤ TT.length → Av ((TT.drop a).map (·.p)) = true →
  out.length + (TT.drop a).length * (B + 3) + 3 ≤ sizeLine → HS TT kn out ((TT.drop a).length * (B + 3)) (Ao Cl Bn m (re TT kn a u4 u5 u6 out)) (Ad kn (TT.drop a)) := by
 intro m
 induction m with
 | zero => intro a u4 u5 u6 out h; lia
 | succ m ih =>
  intro a u4 u5 u6 out hm ha hn hs
  have htest : Cl (re TT kn a u4 u5 u6 out) = .ok (decide (a < TT.length)) := by
   have e : Ar (BY TT) = .ok (.int TT.length) := by
    show (if (TT.map tkD).length ≤ sizeLine then Res.ok (PyData.int (TT.map tkD).length) else .fail) = _
    rw [Tu, Tl hl]
   show (((Ar (BY TT)).bind fun e => DI (.int a) e).bind AF) = _
   rw [e, bind_ok', opLt_len]
  cases hd : TT.drop a with
  | nil =>
   have h1 : TT.length ≤ a := by simpa using hd
   have h2 : a = TT.length := by exact Nat.le_antisymm (by assumption) (by assumption)
   rw [Tq (by exact Nat.not_lt.mpr (by assumption))] at htest
   refine ⟨(Ht u4 u5 u6 ?_), UG _⟩
   rw [whileM_stop m htest, UD, h2]
  | cons k r =>
   have hlen : TT.length = a + (r.length + 1) := by have := congrArg List.length hd; simp at this; lia
   rw [Tp (by lia)] at htest
   have hk : TT[a]? = some k := by rw [← UM, hd]; rfl
   have hr : TT.drop (a + 1) = r := by rw [← T9, hd]; rfl
   have hkP := hP k (UK (hd ▸ Ty ..))
   rw [hd] at hm hn hs
   simp only [Ts] at hm hs
   have hmul : (r.length + 1) * (B + 3) = r.length * (B + 3) + (B + 3) := Nat.succ_mul ..
   have p2 : Aq 4 (fun l => (getv l 0).bind fun d => (getv l 3).bind fun e => AG d e) (re TT kn a u4 u5 u6 out) = .ok (.next, re TT kn a (some (.d (tkD k))) u5 u6 out) := (set_ok (d := tkD k) (Cp hk hl)).trans rfl
   have p3 : F5 3 Cg (fun l => Res.ok (.int 1)) (re TT kn a (some (.d (tkD k))) u5 u6 out) = .ok (.next, re TT kn (a + 1) (some (.d (tkD k))) u5 u6 out) := rfl
   have t1 : Hs (fun l => (((getv l 4).bind fun d => (Res.ok (.int 0)).bind fun e => AG d e).bind fun d => (Res.ok (.str "sign")).bind fun e => A2 d e).bind AF) (fun l => Hs (fun l => (((getv l 4).bind fun d => (Res.ok (.int 1)).bind fun e => AG d e).bind fun d => (Res.ok (.str "$")).bind fun e => A2 d e).bind AF) (fun l => Res.ok false) l) (re TT kn (a + 1) (some (.d (tkD k))) u5 u6 out) = .ok (!decide (k.p = tDol)) := by
    rw [← TC]
    have e1 : (((getv (re TT kn (a + 1) (some (.d (tkD k))) u5 u6 out) 4).bind fun d => (Res.ok (.int 0)).bind fun e => AG d e).bind fun d => (Res.ok (.str "sign")).bind fun e => A2 d e).bind AF = .ok (decide (k.p.1 ≠ Al)) := congrArg Res.ok (neS k.p.1 Al)
    have e2 : (((getv (re TT kn (a + 1) (some (.d (tkD k))) u5 u6 out) 4).bind fun d => (Res.ok (.int 1)).bind fun e => AG d e).bind fun d => (Res.ok (.str "$")).bind fun e => A2 d e).bind AF = .ok (!decide (k.p.2 = [36])) := by
     rw [show "$" = S [36] by kernel_rfl]; exact congrArg Res.ok (S_bne _ _)
    cases h1 : decide (k.p.1 ≠ Al) with
    | true => rw [h1] at e1; exact or_t e1
    | false =>
     rw [h1] at e1
     cases h2 : !decide (k.p.2 = [36]) with
     | true => rw [h2] at e2; exact (or_f e1).trans (or_t e2)
     | false => rw [h2] at e2; exact (or_f e1).trans (or_f e2)
   have pre : ∀ {z : Res (Fl × Loc)}, k.p = tDol → F9 (re TT kn (a + 1) (some (.d (tkD k))) u5 u6 out) = z → Bn (re TT kn a u4 u5 u6 out) = z := fun q z => (seq_next p2).trans ((seq_next p3).trans ((seq_next (if_f t1 (by rw [Tp q]; rfl))).trans z))
   by_cases c1 : k.p = tDol
   ·
    have tlen : ((getv (re TT kn (a + 1) (some (.d (tkD k))) u5 u6 out) 3).bind fun d => ((getv (re TT kn (a + 1) (some (.d (tkD k))) u5 u6 out) 0).bind Ar).bind fun e => AZ d e).bind AF = .ok (decide (a + 1 = TT.length)) := by
     have e : Ar (BY TT) = .ok (.int TT.length) := by
      show (if (TT.map tkD).length ≤ sizeLine then Res.ok (PyData.int (TT.map tkD).length) else .fail) = _
      rw [Tu, Tl hl]
     show (((Ar (BY TT)).bind fun e => AZ (.int ((a + 1 : Nat) : Int)) e).bind AF) = _
     rw [e]
     exact congrArg Res.ok (show decide (((a + 1 : Nat) : Int) = (TT.length : Int)) = _ from decide_eq_decide.mpr (by lia))
    cases r with
    | nil =>
     rw [Tp (by simp at hlen; exact Eq.symm (by assumption))] at tlen
     show HS TT kn out _ _ (if k.p = tDol then .exc (Og, k.r, k.c) else .ok [k])
     rw [Tl c1]
     exact DQ m htest (pre c1 (seq_exc ((if_t tlen rfl).trans (seq_exc rfl))))
    | cons n r =>
     rw [Tq (by simp at hlen; lia)] at tlen
     have hnk : TT[a + 1]? = some n := by rw [← UM, hr]; rfl
     have hr2 : TT.drop (a + 1 + 1) = r := by rw [← T9, hr]; rfl
     have hnP := hP n (UK (hr ▸ Ty ..))
     have s5 : Aq 5 (fun l => (getv l 0).bind fun d => (getv l 3).bind fun e => AG d e) (re TT kn (a + 1) (some (.d (tkD k))) u5 u6 out) = .ok (.next, re TT kn (a + 1) (some (.d (tkD k))) (some (.d (tkD n))) u6 out) := (set_ok (d := tkD n) (Cp hnk hl)).trans rfl
     have t5 : (((getv (re TT kn (a + 1) (some (.d (tkD k))) (some (.d (tkD n))) u6 out) 5).bind fun d => (Res.ok (.int 0)).bind fun e => AG d e).bind fun d => (Res.ok (.str "word")).bind fun e => A2 d e).bind AF = .ok (decide (n.p.1 ≠ Ac)) := congrArg Res.ok (neS n.p.1 Ac)
     have pre5 : ∀ {z : Res (Fl × Loc)}, AK (Bl (fun l => (((getv l 5).bind fun d => (Res.ok (.int 0)).bind fun e => AG d e).bind fun d => (Res.ok (.str "word")).bind fun e => A2 d e).bind AF) GN AT) GX (re TT kn (a + 1) (some (.d (tkD k))) (some (.d (tkD n))) u6 out) = z → Bn (re TT kn a u4 u5 u6 out) = z := fun z => pre c1 ((seq_next (if_f tlen rfl)).trans ((seq_next s5).trans z))
     show HS TT kn out _ _ (if k.p = tDol then _ else _)
     rw [Tl c1]
     by_cases c2 : n.p.1 = Ac
     ·rw [Tm (UB c2)]
      rw [Tq (UB c2)] at t5
      obtain ⟨c, b, hc, hnm⟩ : ∃ c b, c ∈ Mc ∧ n.p = nm c b := by
       unfold Av at hn
       have : (k.p != tDol || n.p.1 != Ac || O1 n.p) = true := (T5.mp hn).1
       rw [c1, c2] at this
       exact Rt (by simpa using this)
      have hw : (S n.p.2) = S (nm c b).2 := by rw [hnm]
      have hh : n.p.2.headD 0 = c := by rw [hnm]; cases b <;> rfl
      rw [hh]
      have s6 : Aq 6 (fun l => (((((getv l 5).bind fun d => (Res.ok (.int 1)).bind fun e => AG d e).bind fun d => .ok (W.d d)).bind fun u => (((Dx l 1).bind fun kvs => .ok (W.bd kvs)).bind fun u => (Res.ok []).bind fun us => .ok (u :: us)).bind fun us => .ok (u :: us)).bind (AN CU Bi 2)).bind Bb) (re TT kn (a + 1) (some (.d (tkD k))) (some (.d (tkD n))) u6 out) = .ok (.next, re TT kn (a + 1) (some (.d (tkD k))) (some (.d (tkD n))) (some (.d (.str (S [c])))) out) := by
       refine (set_ok (d := .str (S [c])) ?_).trans rfl
       show (AN CU Bi 2 [.d (.str (S n.p.2)), .bd (Eu kn)]).bind Bb = _
       rw [hw, Nl hc]; rfl
      have t6 : (Mi true 1 (fun l => getv l 6) (re TT kn (a + 1) (some (.d (tkD k))) (some (.d (tkD n))) (some (.d (.str (S [c])))) out)).bind AF = .ok (!(lk kn c).isSome) := by
       show Res.ok ((B4 (Eu kn) (S [c])).isSome != true) = _
       rw [CY]
       cases lk kn c <;> rfl
      have pre6 : ∀ {z : Res (Fl × Loc)}, AK (Bl (fun l => (Mi true 1 (fun l => getv l 6) l).bind AF) GM AT) F8 (re TT kn (a + 1) (some (.d (tkD k))) (some (.d (tkD n))) (some (.d (.str (S [c])))) out) = z → Bn (re TT kn a u4 u5 u6 out) = z := fun z => pre5 ((seq_next (if_f t5 rfl)).trans ((seq_next s6).trans z))
      cases hlk : lk kn c with
      | none =>
       rw [hlk] at t6
       refine DQ m htest (pre6 (seq_exc ((if_t t6 rfl).trans (seq_exc ?_))))
       have e1 : (Str.ofString "unknown identifier '").length = 20 := by decide +kernel
       have e2 : kq.length = 1 := by decide +kernel
       have e3 : (Str.ofString "unknown identifier '" ++ S [c]).length = 21 := by rw [show (Str.ofString "unknown identifier '" ++ S [c]).length = (Str.ofString "unknown identifier '").length + (S [c]).length from Str.length_append .., e1]; rfl
       have hz := szl
       show ((((AM (.str "unknown identifier '") (.str (S [c]))).bind fun d => (Res.ok (.str kq)).bind fun e => AM d e).bind fun d => (Res.ok [.int n.r, .int n.c]).bind fun ds => .ok (d :: ds)).bind EN).bind (fun x => Res.exc x) = _
       rw [C2 (by rw [e1, Ds]; simp; decide), bind_ok', bind_ok', C2 (by rw [e2, e3]; decide)]; rfl
      | some v =>
       rw [hlk] at t6
       have hv := hB c v hlk
       have x2 : EE 2 (fun l => Kz 1 (fun l => getv l 6) l) (re TT kn (a + 1) (some (.d (tkD k))) (some (.d (tkD n))) (some (.d (.str (S [c])))) out) = .ok (.next, re TT kn (a + 1) (some (.d (tkD k))) (some (.d (tkD n))) (some (.d (.str (S [c])))) (out ++ v)) := by
        refine (ext_ok (k := 0) (ts := out.map tkD) (ds := v.map tkD) rfl ?_ (by rw [Tu, Tu]; lia)).trans ?_
        ·show (match B4 (Eu kn) (S [c]) with | some d => Res.ok d | none => .fail) = _
         rw [CY, hlk]; rfl
        ·rw [← T4]; rfl
       have hlen1 : Bc n = if b then [⟨(Al, [58]), n.r, n.c + 1⟩, ⟨(Ac, [56, 48]), n.r, n.c + 1 + 1⟩] else [] := by
        unfold Bc; rw [hnm]; cases b <;> rfl
       have x3 : Bl (fun l => ((getv l 6).bind fun d => ((getv l 5).bind fun d => (Res.ok (.int 1)).bind fun e => AG d e).bind fun e => A2 d e).bind AF) GU AT (re TT kn (a + 1) (some (.d (tkD k))) (some (.d (tkD n))) (some (.d (.str (S [c])))) (out ++ v)) = .ok (.next, re TT kn (a + 1) (some (.d (tkD k))) (some (.d (tkD n))) (some (.d (.str (S [c])))) (out ++ v ++ Bc n)) := by
        have t7 : ((getv (re TT kn (a + 1) (some (.d (tkD k))) (some (.d (tkD n))) (some (.d (.str (S [c])))) (out ++ v)) 6).bind fun d => ((getv (re TT kn (a + 1) (some (.d (tkD k))) (some (.d (tkD n))) (some (.d (.str (S [c])))) (out ++ v)) 5).bind fun d => (Res.ok (.int 1)).bind fun e => AG d e).bind fun e => A2 d e).bind AF = .ok b := by
         show Res.ok (S [c] != S n.p.2) = _
         rw [S_bne, hnm]; cases b <;> simp [nm]
        rw [hlen1]
        cases b with
        | false => rw [show (if false = true then _ else ([] : List Tk)) = [] from rfl, UD]; exact (if_f t7 rfl).trans rfl
        | true =>
         refine xE (MY (run := [58, 56, 48]) (row := n.r) (col := n.c + 1) (ts := (out ++ v).map tkD) (by show (3 : Nat) ≤ sizeLine; rw [szl]; decide) (by simp) (by rw [Tu, Tw]; lia)) fun vs hp => ?_
         refine (if_t t7 rfl).trans (seq_nop.trans ((QJ (k := 0) (ds := [.str (S [58, 56, 48]), .int n.r, .int (n.c + 1)]) rfl ?_ rfl hp).trans ?_))
         ·show ((((Ar (.str (S [c]))).bind Ah).bind fun lo => AY lo none (.str (S n.p.2))).bind fun d => ((((Ar (.str (S [c])))).bind fun e => AM (.int n.c) e).bind fun d => (Res.ok []).bind fun ds => .ok (d :: ds)).bind fun ds => (Res.ok (.int n.r :: ds)).bind fun ds => .ok (d :: ds)) = _
          rw [opLen_S (by show (1 : Nat) ≤ sizeLine; rw [szl]; decide), hnm]
          show ((AY (some ((1 : Nat) : Int)) none (.str (S [c, 58, 56, 48]))).bind fun d => _) = _
          rw [opCut_S _ _ (by show (4 : Nat) ≤ sizeLine; rw [szl]; decide), Gt 1 _ (by show 1 ≤ 4; decide)]; rfl
         ·have heq : (out ++ v).map tkD ++ EA [58, 56, 48] n.r (n.c + 1) = (out ++ v ++ if true = true then ([⟨(Al, [58]), n.r, n.c + 1⟩, ⟨(Ac, [56, 48]), n.r, n.c + 1 + 1⟩] : List Tk) else []).map tkD := by
           rw [T4 (l₁ := out ++ v)]
           exact congrArg ((out ++ v).map tkD ++ ·) (by kernel_rfl)
          rw [heq]; rfl
       have hrl : (Bc n).length ≤ 2 := by rw [hlen1]; cases b <;> simp
       have step := whileM_go m htest (pre6 ((seq_next (if_f t6 rfl)).trans ((seq_next x2).trans ((seq_next x3).trans (show _ = Res.ok (Fl.next, re TT kn (a + 1 + 1) (some (.d (tkD k))) (some (.d (tkD n))) (some (.d (.str (S [c])))) (out ++ v ++ Bc n)) from rfl))))) (.inl rfl)
       simp only [Ts] at hm hs hmul ⊢ hlen
       have hmul2 : (r.length + 1) * (B + 3) = r.length * (B + 3) + (B + 3) := Nat.succ_mul ..
       have hn2 : Av ((TT.drop (a + 1 + 1)).map (·.p)) = true := by
        rw [hr2]
        unfold Av at hn
        have h2 := (T5.mp hn).2
        cases r with
        | nil => rfl
        | cons j r => unfold Av at h2; exact (T5.mp h2).2
       have := ih (a + 1 + 1) (some (.d (tkD k))) (some (.d (tkD n))) (some (.d (.str (S [c])))) (out ++ v ++ Bc n) (by rw [hr2]; lia) (by lia) hn2 (by rw [hr2, Tw, Tw]; lia)
       rw [hr2, ← step] at this
       revert this
       show HS _ _ _ _ _ (Ad kn r) → HS _ _ _ _ _ ((Ad kn r).bind fun o => .ok (v ++ Bc n ++ o))
       cases Ad kn r with
       | fail => exact id
       | exc e => exact id
       | ok o =>
        intro y1_; refine xA y1_ fun z0_ hlo => ?_; clear y1_; obtain ⟨v4, v5, v6, e⟩ := z0_
        refine ⟨(Ht v4 v5 v6 (e.trans (by rw [Tz, Tz, Tz]))), ?_⟩
        rw [Tw, Tw]; lia
     ·rw [Tl c2]
      rw [Tp (p := n.p.1 ≠ Ac) c2] at t5
      refine DQ m htest (pre5 (seq_exc ((if_t t5 rfl).trans (seq_exc ?_))))
      show ((AN BN Ak 2 [.d (tkD n), .d (.str JB)]).bind G9).bind (fun x => Res.exc x) = _
      rw [ER (Dv hnP) (by decide +kernel)]; rfl
   ·
    have hb : Bn (re TT kn a u4 u5 u6 out) = .ok (.cont, re TT kn (a + 1) (some (.d (tkD k))) u5 u6 (out ++ [k])) := by
     refine (seq_next p2).trans ((seq_next p3).trans ?_)
     have : Bl (fun l => Hs (fun l => (((getv l 4).bind fun d => (Res.ok (.int 0)).bind fun e => AG d e).bind fun d => (Res.ok (.str "sign")).bind fun e => A2 d e).bind AF) (fun l => Hs (fun l => (((getv l 4).bind fun d => (Res.ok (.int 1)).bind fun e => AG d e).bind fun d => (Res.ok (.str "$")).bind fun e => A2 d e).bind AF) (fun l => Res.ok false) l) l) GP AT (re TT kn (a + 1) (some (.d (tkD k))) u5 u6 out) = .ok (.cont, re TT kn (a + 1) (some (.d (tkD k))) u5 u6 (out ++ [k])) := by
      refine (if_t t1 (by rw [Tq c1]; rfl)).trans ((seq_next (app_ok (k := 0) (ts := out.map tkD) (d := tkD k) rfl rfl (by rw [Tu]; lia))).trans ?_)
      show Res.ok (Fl.cont, _) = Res.ok (Fl.cont, _)
      unfold re
      rw [T4]; rfl
     unfold AK
     rw [this]; rfl
    have step := whileM_go m htest hb (.inr rfl)
    have hn2 : Av ((TT.drop (a + 1)).map (·.p)) = true := by
     rw [hr]
     cases r with
     | nil => rfl
     | cons j r => rw [T1, T1] at hn; unfold Av at hn; exact (T5.mp hn).2
    have := ih (a + 1) (some (.d (tkD k))) u5 u6 (out ++ [k]) (by rw [hr]; exact Nat.lt_of_succ_lt_succ (by assumption)) (by lia) hn2 (by rw [hr, Tw, UP]; lia)
    rw [hr, ← step] at this
    have ef : Ad kn (k :: r) = (Ad kn r).bind fun o => .ok (k :: o) := by
     cases r with
     | nil => show (if k.p = tDol then _ else _) = _; rw [Tm c1]; rfl
     | cons j r => show (if k.p = tDol then _ else _) = _; rw [Tm c1]
    rw [ef]
    revert this
    cases Ad kn r with
    | fail => exact id
    | exc e => exact id
    | ok o =>
     intro y1_; refine xA y1_ fun z0_ hlo => ?_; clear y1_; obtain ⟨v4, v5, v6, e⟩ := z0_
     refine ⟨(Ht v4 v5 v6 (e.trans (by rw [Tz]; rfl))), ?_⟩
     simp only [Ts]; lia
theorem K9 {ks : List Tk} {kn : Kn} {B : Nat} (hP : ∀ k ∈ ks, k.p ∈ A5) (hB : EK kn B) (hn : Av (ks.map (·.p)) = true) (hs : ks.length * (B + 3) + 3 ≤ sizeLine) :
  AN B2 A6 2 [.d (BY ks), .bd (Eu kn)] = (Ad kn ks).bind (fun o => .ok (.ret (.fr (o.map tkD)))) := by
 have hl : ks.length ≤ sizeLine := by
  have : ks.length * 3 ≤ ks.length * (B + 3) := Nat.mul_le_mul_left _ (by exact T6 _ _)
  lia
 have h := PO (TT := ks) hl hP hB (ks.length + 2) 0 none none none [] (by simp) (UG _) (by simpa using hn) (by simpa using hs)
 have hf : B5 0 (re ks kn 0 none none none []) = ks.length + 2 := by show (ks.map tkD).length + 2 = _; rw [Tu]
 rw [← hf, List.drop_zero] at h
 revert h
 cases Ad kn ks with
 | fail => exact fun z => z.elim
 | exc e => exact fun z => callF_exc ((seq_exc z : AK (fun l => Ao Cl Bn (B5 0 l) l) EX (re ks kn 0 none none none []) = _)) rfl
 | ok o =>
  intro y1_; refine xA y1_ fun z0_ _ => ?_; clear y1_; obtain ⟨u4, u5, u6, e⟩ := z0_
  exact callF_ret ((seq_next e : AK (fun l => Ao Cl Bn (B5 0 l) l) EX (re ks kn 0 none none none []) = _).trans (seq_ret rfl)) rfl
end Mine
namespace Mine
noncomputable def fl (TT : List Tk) (kn : Kn) (b : Bool) (u4 u5 u6 : Option W) (out : List Tk) : Loc := ⟨[some (.d (BY TT)), some (.bd (Eu kn)), some (.lst 0), some (.d (.bool b)), u4, u5, u6], [.list (out.map tkD)]⟩
noncomputable def en : Nat → List Tk → List D
 | _, [] => []
 | a, k :: r => .tuple [.int a, tkD k] :: en (a + 1) r
noncomputable abbrev OZ : D → Loc → Res Loc := Ea (Az (fun d l => .ok (l.setv 4 (.d d))) (Az (fun d l => .ok (l.setv 5 (.d d))) DE)) 2
noncomputable def Fj (TT : List Tk) (kn : Kn) (out : List Tk) (n : Nat) (o : Res (Fl × Loc)) (res : Res (List Tk)) : Prop := match res with
 | .ok ts => (∃ u4 u5 u6, o = .ok (.next, fl TT kn false u4 u5 u6 (out ++ ts))) ∧ ts.length ≤ n
 | .exc e => ∃ l, o = .ok (.ret (.val (F7 e)), l)
 | .fail => False
theorem PB {c : Nat} {b : Bool} (hc : c ∈ Mc) : (Cq (.str (S (nm c b).2)) (.str ":")).bind (fun d => AG d (.int 0)) = .ok (.str (S [c])) := by
 unfold Mc at hc; simp at hc
 rcases hc with rfl | rfl | rfl | rfl <;> cases b <;> kernel_rfl
theorem Oo {TT : List Tk} {kn : Kn} {B : Nat} (hP : ∀ k ∈ TT, k.p ∈ A5) (hl : TT.length ≤ sizeLine) (hB : EK kn B) : ∀ (m : Nat) (r : List Tk) (a : Nat) (u4 u5 u6 : Option W) (out : List Tk), r.length ≤ m → TT.drop a = r → Av (r.map (·.p)) = true →
  out.length + r.length * (B + 3) + 3 ≤ sizeLine → Fj TT kn out (r.length * (B + 3)) (BW OZ Aj (en a r) (fl TT kn false u4 u5 u6 out)) (Ad kn r) := by
 have hz := szl
 intro m
 induction m with
 | zero =>
  intro r a u4 u5 u6 out hm hd hn hs
  have : r = [] := UY (by lia)
  subst this
  exact ⟨(Ht u4 u5 u6 (by rw [UD]; rfl)), UG _⟩
 | succ m ih =>
  intro r a u4 u5 u6 out hm hd hn hs
  cases r with
  | nil => exact ⟨(Ht u4 u5 u6 (by rw [UD]; rfl)), UG _⟩
  | cons k r =>
   have hlen : TT.length = a + (r.length + 1) := by have := congrArg List.length hd; simp at this; lia
   have hr : TT.drop (a + 1) = r := by rw [← T9, hd]; rfl
   have hkP := hP k (UK (hd ▸ Ty ..))
   simp only [Ts] at hm hs
   have hmul : (r.length + 1) * (B + 3) = r.length * (B + 3) + (B + 3) := Nat.succ_mul ..
   let L : Loc := fl TT kn false (some (.d (.int a))) (some (.d (tkD k))) u6 out
   have hg : OZ (.tuple [.int a, tkD k]) (fl TT kn false u4 u5 u6 out) = .ok L := rfl
   have t1 : ((((getv L 5).bind fun d => (Res.ok none).bind fun lo => ((Res.ok (.int 2)).bind Ah).bind fun hi => AY lo hi d).bind fun d => (((Res.ok (.str "sign")).bind fun d => ((Res.ok (.str "$")).bind fun d => (Res.ok []).bind fun ds => .ok (d :: ds)).bind fun ds => .ok (d :: ds)).bind AV).bind fun e => A2 d e).bind AF) = .ok (!decide (k.p = tDol)) := by
    have := TN hkP Sf
    refine (congrArg (fun r => Res.bind r AF) (?_ : _ = A2 (Ag k.p) (Ag tDol))).trans (by rw [this]; rfl)
    kernel_rfl
   have in9 : ∀ {z : Res (Fl × Loc)}, Bl (fun l => (((getv l 5).bind fun d => (Res.ok none).bind fun lo => ((Res.ok (.int 2)).bind Ah).bind fun hi => AY lo hi d).bind fun d => (((Res.ok (.str "sign")).bind fun d => ((Res.ok (.str "$")).bind fun d => (Res.ok []).bind fun ds => .ok (d :: ds)).bind fun ds => .ok (d :: ds)).bind AV).bind fun e => A2 d e).bind AF) GE GR L = z → Aj L = z := fun z => seq_nop.trans ((if_f rfl rfl).trans (seq_nop.trans z))
   have hnr : Av (r.map (·.p)) = true := by
    cases r with
    | nil => rfl
    | cons j r => unfold Av at hn; exact (T5.mp hn).2
   by_cases c1 : k.p = tDol
   ·rw [Tp c1] at t1
    have tlen : (((getv L 4).bind fun d => (Res.ok (.int 1)).bind fun e => AM d e).bind fun d => ((getv L 0).bind Ar).bind fun e => AZ d e).bind AF = .ok (decide (a + 1 = TT.length)) := by
     have e : Ar (BY TT) = .ok (.int TT.length) := by
      show (if (TT.map tkD).length ≤ sizeLine then Res.ok (PyData.int (TT.map tkD).length) else .fail) = _
      rw [Tu, Tl hl]
     show (((Ar (BY TT)).bind fun e => AZ (.int ((a : Int) + 1)) e).bind AF) = _
     rw [e]
     exact congrArg Res.ok (show decide ((a : Int) + 1 = (TT.length : Int)) = _ from decide_eq_decide.mpr (by lia))
    cases r with
    | nil =>
     rw [Tp (by simp at hlen; exact Eq.symm (by assumption))] at tlen
     show Fj TT kn out _ _ (if k.p = tDol then .exc (Og, k.r, k.c) else .ok [k])
     rw [Tl c1]
     exact ⟨_, HQ hg (in9 ((if_f t1 rfl).trans (seq_nop.trans ((if_t tlen rfl).trans (seq_ret rfl)))))⟩
    | cons n r =>
     rw [Tq (by simp at hlen; lia)] at tlen
     have hr2 : TT.drop (a + 1 + 1) = r := by rw [← T9, hr]; rfl
     have hnP := hP n (UK (hr ▸ Ty ..))
     let N (u6 : Option W) (out : List Tk) : Loc := fl TT kn true (some (.d (.int ((a + 1 : Nat) : Int)))) (some (.d (tkD n))) u6 out
     have step1 : BW OZ Aj (en a (k :: n :: r)) (fl TT kn false u4 u5 u6 out) = BW OZ Aj (en (a + 1) (n :: r)) (fl TT kn true (some (.d (.int a))) (some (.d (tkD k))) u6 out) :=
      for_next hg (in9 ((if_f t1 rfl).trans (seq_nop.trans ((if_f tlen rfl).trans rfl))))
     have hg2 : OZ (.tuple [.int ((a + 1 : Nat) : Int), tkD n]) (fl TT kn true (some (.d (.int a))) (some (.d (tkD k))) u6 out) = .ok (N u6 out) := rfl
     have in8 : ∀ {z : Res (Fl × Loc)}, GV (N u6 out) = z → Aj (N u6 out) = z := fun z => seq_nop.trans ((if_t rfl rfl).trans z)
     have t5 : (((getv (N u6 out) 5).bind fun d => (Res.ok (.int 0)).bind fun e => AG d e).bind fun d => (Res.ok (.str "word")).bind fun e => A2 d e).bind AF = .ok (decide (n.p.1 ≠ Ac)) := congrArg Res.ok (neS n.p.1 Ac)
     rw [step1]
     show Fj TT kn out _ _ (if k.p = tDol then _ else _)
     rw [Tl c1]
     by_cases c2 : n.p.1 = Ac
     ·rw [Tm (UB c2)]
      rw [Tq (UB c2)] at t5
      obtain ⟨c, b, hc, hnm⟩ : ∃ c b, c ∈ Mc ∧ n.p = nm c b := by
       unfold Av at hn
       have : (k.p != tDol || n.p.1 != Ac || O1 n.p) = true := (T5.mp hn).1
       rw [c1, c2] at this
       exact Rt (by simpa using this)
      have hw : (S n.p.2) = S (nm c b).2 := by rw [hnm]
      have hh : n.p.2.headD 0 = c := by rw [hnm]; cases b <;> rfl
      rw [hh]
      have s6 : Aq 6 (fun l => (((getv l 5).bind fun d => (Res.ok (.int 1)).bind fun e => AG d e).bind fun d => (CD d).bind fun d => (Res.ok (.str ":")).bind fun e => Cq d e).bind fun d => (Res.ok (.int 0)).bind fun e => AG d e) (N u6 out) = .ok (.next, N (some (.d (.str (S [c])))) out) := by
       refine (set_ok (d := .str (S [c])) ?_).trans rfl
       show (Cq (.str (S n.p.2)) (.str ":")).bind (fun d => AG d (.int 0)) = _
       rw [hw]; exact PB hc
      have t6 : (Mi true 1 (fun l => getv l 6) (N (some (.d (.str (S [c])))) out)).bind AF = .ok (!(lk kn c).isSome) := by
       show Res.ok ((B4 (Eu kn) (S [c])).isSome != true) = _
       rw [CY]
       cases lk kn c <;> rfl
      have pre6 : ∀ {z : Res (Fl × Loc)}, AK (Bl (fun l => (Mi true 1 (fun l => getv l 6) l).bind AF) GS AT) GA (N (some (.d (.str (S [c])))) out) = z → Aj (N u6 out) = z := fun z => in8 ((seq_next (if_f t5 rfl)).trans ((seq_next s6).trans z))
      cases hlk : lk kn c with
      | none =>
       rw [hlk] at t6
       refine ⟨N (some (.d (.str (S [c])))) out, HQ hg2 (pre6 (seq_ret ((if_t t6 rfl).trans (seq_ret ?_))))⟩
       have e1 : (Str.ofString "unknown identifier '").length = 20 := by decide +kernel
       have e2 : kq.length = 1 := by decide +kernel
       have e3 : (Str.ofString "unknown identifier '" ++ S [c]).length = 21 := by rw [show (Str.ofString "unknown identifier '" ++ S [c]).length = (Str.ofString "unknown identifier '").length + (S [c]).length from Str.length_append .., e1]; rfl
       show (((((AM (.str "unknown identifier '") (.str (S [c]))).bind fun d => (Res.ok (.str kq)).bind fun e => AM d e).bind fun d => (Res.ok []).bind fun ds => .ok (d :: ds)).bind AV).bind fun d => (AY (some ((2 : Nat) : Int)) none (tkD n)).bind fun e => AM d e).bind (fun d => Res.ok (Fl.ret (.val d), N (some (.d (.str (S [c])))) out)) = _
       rw [C2 (by rw [e1, Ds]; simp; decide), bind_ok', bind_ok', C2 (by rw [e2, e3]; decide)]; rfl
      | some v =>
       rw [hlk] at t6
       have hv := hB c v hlk
       simp only [Ts] at hm hs hmul ⊢ hlen
       have hmul2 : (r.length + 1) * (B + 3) = r.length * (B + 3) + (B + 3) := Nat.succ_mul ..
       have x2 : EE 2 (fun l => Kz 1 (fun l => getv l 6) l) (N (some (.d (.str (S [c])))) out) = .ok (.next, N (some (.d (.str (S [c])))) (out ++ v)) := by
        refine (ext_ok (k := 0) (ts := out.map tkD) (ds := v.map tkD) rfl ?_ (by rw [Tu, Tu]; lia)).trans ?_
        ·show (match B4 (Eu kn) (S [c]) with | some d => Res.ok d | none => .fail) = _
         rw [CY, hlk]; rfl
        ·rw [← T4]; rfl
       have hrl : (Bc n).length ≤ 2 := by unfold Bc; split <;> simp
       have x3 : Bl (fun l => ((getv l 6).bind fun d => ((getv l 5).bind fun d => (Res.ok (.int 1)).bind fun e => AG d e).bind fun e => A2 d e).bind AF) GH AT (N (some (.d (.str (S [c])))) (out ++ v)) = .ok (.next, N (some (.d (.str (S [c])))) (out ++ v ++ Bc n)) := by
        have t7 : ((getv (N (some (.d (.str (S [c])))) (out ++ v)) 6).bind fun d => ((getv (N (some (.d (.str (S [c])))) (out ++ v)) 5).bind fun d => (Res.ok (.int 1)).bind fun e => AG d e).bind fun e => A2 d e).bind AF = .ok b := by
         show Res.ok (S [c] != S n.p.2) = _
         rw [S_bne, hnm]; cases b <;> simp [nm]
        cases b with
        | false =>
         rw [show Bc n = [] by unfold Bc; rw [hnm]; rfl, UD]; exact (if_f t7 rfl).trans rfl
        | true =>
         have hro : Bc n = [⟨(Al, [58]), n.r, n.c + 1⟩, ⟨(Ac, [56, 48]), n.r, n.c + 1 + 1⟩] := by unfold Bc; rw [hnm]; rfl
         have l1 : Ar (.str (S [c])) = .ok (.int 1) := opLen_S (by show (1 : Nat) ≤ sizeLine; rw [szl]; decide)
         refine (if_t t7 rfl).trans ((seq_next (app_ok (k := 0) (ts := (out ++ v).map tkD) (d := tkD ⟨(Al, [58]), n.r, n.c + 1⟩) rfl ?_ (by rw [Tu, Tw]; lia))).trans (seq_nop.trans ((app_ok (k := 0) (ts := (out ++ v).map tkD ++ [tkD ⟨(Al, [58]), n.r, n.c + 1⟩]) (d := tkD ⟨(Ac, [56, 48]), n.r, n.c + 1 + 1⟩) rfl ?_ (by rw [Tw, Tu, Tw, UP]; lia)).trans ?_)))
         ·show ((((((Ar (.str (S [c]))).bind fun e => AM (.int n.c) e).bind fun d => (Res.ok []).bind fun ds => .ok (d :: ds)).bind fun ds => .ok (.int n.r :: ds)).bind fun ds => Res.ok (.str ":" :: ds)).bind fun ds => Res.ok (.str Al :: ds)).bind AV = _
          rw [l1, ls58]; rfl
         ·show ((((((Ar (.str (S [c]))).bind fun d => (Res.ok (.int 1)).bind fun e => AM d e).bind Ah).bind fun lo => AY lo none (.str (S n.p.2))).bind fun d => ((((((Ar (.str (S [c]))).bind fun e => AM (.int n.c) e).bind fun d => (Res.ok (.int 1)).bind fun e => AM d e).bind fun d => (Res.ok []).bind fun ds => .ok (d :: ds)).bind fun ds => .ok (.int n.r :: ds)).bind fun ds => .ok (d :: ds))).bind fun ds => Res.ok (.str Ac :: ds)).bind AV = _
          rw [l1, hnm]
          show ((((AY (some ((2 : Nat) : Int)) none (.str (S [c, 58, 56, 48]))).bind fun d => _).bind fun ds => Res.ok (.str Ac :: ds)).bind AV) = _
          rw [opCut_S _ _ (by show (4 : Nat) ≤ sizeLine; rw [szl]; decide), Gt 2 _ (by show 2 ≤ 4; decide)]; rfl
         ·have heq : (out ++ v).map tkD ++ [tkD ⟨(Al, [58]), n.r, n.c + 1⟩] ++ [tkD ⟨(Ac, [56, 48]), n.r, n.c + 1 + 1⟩] = (out ++ v ++ Bc n).map tkD := by
           rw [T4 (l₁ := out ++ v), hro, Tz]; rfl
          rw [heq]; rfl
       have step2 : BW OZ Aj (en (a + 1) (n :: r)) (fl TT kn true (some (.d (.int a))) (some (.d (tkD k))) u6 out) = BW OZ Aj (en (a + 1 + 1) r) (fl TT kn false (some (.d (.int ((a + 1 : Nat) : Int)))) (some (.d (tkD n))) (some (.d (.str (S [c])))) (out ++ v ++ Bc n)) :=
        for_next hg2 (pre6 ((seq_next (if_f t6 rfl)).trans ((seq_next x2).trans ((seq_next x3).trans rfl))))
       have hn2 : Av (r.map (·.p)) = true := by
        cases r with
        | nil => rfl
        | cons j r => unfold Av at hnr; exact (T5.mp hnr).2
       have := ih r (a + 1 + 1) (some (.d (.int ((a + 1 : Nat) : Int)))) (some (.d (tkD n))) (some (.d (.str (S [c])))) (out ++ v ++ Bc n) (by lia) hr2 hn2 (by rw [Tw, Tw]; lia)
       rw [← step2] at this
       revert this
       show Fj _ _ _ _ _ (Ad kn r) → Fj _ _ _ _ _ ((Ad kn r).bind fun o => .ok (v ++ Bc n ++ o))
       cases Ad kn r with
       | fail => exact id
       | exc e => exact id
       | ok o =>
        intro y1_; refine xA y1_ fun z0_ hlo => ?_; clear y1_; obtain ⟨v4, v5, v6, e⟩ := z0_
        refine ⟨(Ht v4 v5 v6 (e.trans (by rw [Tz, Tz, Tz]))), ?_⟩
        rw [Tw, Tw]; lia
     ·rw [Tl c2]
      rw [Tp (p := n.p.1 ≠ Ac) c2] at t5
      refine ⟨N u6 out, HQ hg2 (in8 (seq_ret ((if_t t5 rfl).trans (seq_ret ?_))))⟩
      show ((AN BR Ai 2 [.d (tkD n), .d (.str JB)]).bind Bb).bind (fun d => Res.ok (Fl.ret (.val d), N u6 out)) = _
      rw [E4 (Dv hnP) (by decide +kernel)]; rfl
   ·rw [Tq c1] at t1
    have hb : Aj L = .ok (.next, fl TT kn false (some (.d (.int a))) (some (.d (tkD k))) u6 (out ++ [k])) := by
     refine in9 ((if_t t1 rfl).trans (seq_nop.trans ((app_ok (k := 0) (ts := out.map tkD) (d := tkD k) rfl rfl (by rw [Tu]; lia)).trans ?_)))
     have heq : out.map tkD ++ [tkD k] = (out ++ [k]).map tkD := by rw [T4]; rfl
     rw [heq]; rfl
    have step : BW OZ Aj (en a (k :: r)) (fl TT kn false u4 u5 u6 out) = BW OZ Aj (en (a + 1) r) (fl TT kn false (some (.d (.int a))) (some (.d (tkD k))) u6 (out ++ [k])) := for_next hg hb
    have := ih r (a + 1) (some (.d (.int a))) (some (.d (tkD k))) u6 (out ++ [k]) (by exact Nat.le_of_succ_le_succ (by assumption)) hr hnr (by rw [Tw, UP]; lia)
    rw [← step] at this
    have ef : Ad kn (k :: r) = (Ad kn r).bind fun o => .ok (k :: o) := by
     cases r with
     | nil => show (if k.p = tDol then _ else _) = _; rw [Tm c1]; rfl
     | cons j r => show (if k.p = tDol then _ else _) = _; rw [Tm c1]
    rw [ef]
    revert this
    cases Ad kn r with
    | fail => exact id
    | exc e => exact id
    | ok o =>
     intro y1_; refine xA y1_ fun z0_ hlo => ?_; clear y1_; obtain ⟨v4, v5, v6, e⟩ := z0_
     refine ⟨(Ht v4 v5 v6 (e.trans (by rw [Tz]; rfl))), ?_⟩
     simp only [Ts]; lia
theorem R0 : ∀ (r : List Tk) (a : Nat), (((List.range' a r.length).zip (r.map tkD)).map fun p => [(.int (p.1 : Int) : D), p.2]).map PyData.tuple = en a r
 | [], a => rfl
 | k :: r, a => by
  rw [Ts, List.range'_succ, T1, List.zip_cons_cons, T1, T1, R0 r (a + 1)]; rfl
theorem Os {ks : List Tk} {kn : Kn} {B : Nat} (hP : ∀ k ∈ ks, k.p ∈ A5) (hB : EK kn B) (hn : Av (ks.map (·.p)) = true) (hs : ks.length * (B + 3) + 3 ≤ sizeLine) :
  AN CX BL 2 [.d (BY ks), .bd (Eu kn)] = (match Ad kn ks with | .ok o => .ok (.ret (.fr (o.map tkD))) | .exc e => .ok (.ret (.val (F7 e))) | .fail => .fail) ∧ ∀ o, Ad kn ks = .ok o → o.length ≤ ks.length * (B + 3) := by
 have hl : ks.length ≤ sizeLine := by
  have : ks.length * 3 ≤ ks.length * (B + 3) := Nat.mul_le_mul_left _ (by exact T6 _ _)
  lia
 have h := Oo (TT := ks) hP hl hB ks.length ks 0 none none none [] (Tv _) rfl hn (by simpa using hs)
 have hes : ((getv (fl ks kn false none none none []) 0).bind fun d => Gh [d]).bind (fun es => BW OZ Aj (es.map .tuple) (fl ks kn false none none none [])) = BW OZ Aj (en 0 ks) (fl ks kn false none none none []) := by
  rw [← R0]
  show BW OZ Aj ((((List.range (ks.map tkD).length).zip (ks.map tkD)).map fun p => [.int (p.1 : Int), p.2]).map .tuple) _ = _
  rw [Tu, List.range_eq_range']
 rw [← hes] at h
 revert h
 cases Ad kn ks with
 | fail => exact fun z => z.elim
 | exc e =>
  intro y1_; refine xE y1_ fun l z => ?_; clear y1_
  exact ⟨callF_ret (seq_ret z : AK (fun l => ((getv l 0).bind fun d => Gh [d]).bind fun es => BW OZ Aj (es.map .tuple) l) EZ (fl ks kn false none none none []) = _) rfl, fun o ho => by cases ho⟩
 | ok o =>
  intro y1_; refine xA y1_ fun z0_ hlo => ?_; clear y1_; obtain ⟨u4, u5, u6, e⟩ := z0_
  exact ⟨callF_ret ((seq_next e : AK (fun l => ((getv l 0).bind fun d => Gh [d]).bind fun es => BW OZ Aj (es.map .tuple) l) EZ (fl ks kn false none none none []) = _).trans (seq_ret rfl)) rfl, fun o' ho => by cases ho; exact hlo⟩
end Mine
namespace Mine
noncomputable def ex (TT : List Tk) (a : Nat) (kn : Kn) (out : List Tk) (u4 u5 u6 : Option W) : Loc := ⟨[some (.d (BY TT)), some (.lst 0), some (.dct 1), some (.d (.int a)), u4, u5, u6], [.list (out.map tkD), .dict (Eu kn)]⟩
noncomputable def Dl (TT : List Tk) (a : Nat) : Option Tk := if a = 0 then none else TT[a - 1]?
section
variable {TT : List Tk} {kn : Kn} {B : Nat}
theorem SU (hl : TT.length ≤ sizeLine) : Ar (BY TT) = .ok (.int TT.length) := by
 show (if (TT.map tkD).length ≤ sizeLine then Res.ok (PyData.int (TT.map tkD).length) else .fail) = _
 rw [Tu, Tl hl]
theorem NS (hl : TT.length ≤ sizeLine) {a n : Nat} {ks rest : List Tk} (hd : TT.drop a = ks ++ rest) (hn : ks.length = n) (ha : a ≤ TT.length) : AY (some (a : Int)) (some ((a + n : Nat) : Int)) (BY TT) = .ok (BY ks) := by
 show (if (TT.map tkD).length ≤ sizeLine then Res.ok (PyData.list (cut (some (a : Int)) (some ((a + n : Nat) : Int)) (TT.map tkD))) else .fail) = _
 rw [Tu, Tl hl, Io _ _ _ (by rw [Tu]; exact ha), Nat.add_sub_cancel_left, ← List.map_drop, hd, ← List.map_take, ← hn, List.take_left]; rfl
theorem LP (hl : TT.length ≤ sizeLine) (a : Nat) (out : List Tk) (u4 u5 u6 : Option W) : Bw (ex TT a kn out u4 u5 u6) = .ok (decide (a < TT.length)) := by
 show (((Ar (BY TT)).bind fun e => DI (.int a) e).bind AF) = _
 rw [SU hl, bind_ok', opLt_len]
theorem P1 (hl : TT.length ≤ sizeLine) (hP : ∀ k ∈ TT, k.p ∈ A5) {a : Nat} {k : Tk} (h : TT[a]? = some k) (out : List Tk) (u4 u5 u6 : Option W) :
  ((((((getv (ex TT a kn out u4 u5 u6) 0).bind fun d => .ok (W.d d)).bind fun u => (((getv (ex TT a kn out u4 u5 u6) 3).bind fun d => .ok (W.d d)).bind fun u => (Res.ok []).bind fun us => .ok (u :: us)).bind fun us => .ok (u :: us)).bind (AN B9 Ba 2)).bind Bb).bind AF).bind (fun b => Res.ok !b) = .ok (!Ek (Dl TT a) k) := by
 show (((AN B9 Ba 2 [.d (BY TT), .d (.int a)]).bind Bb).bind AF).bind (fun b => Res.ok !b) = _
 rw [Nh hl hP h]; rfl
theorem QR (hl : TT.length ≤ sizeLine) (hP : ∀ k ∈ TT, k.p ∈ A5) (hB : EK kn B) {a n : Nat} {ks rest : List Tk} (hd : TT.drop a = ks ++ rest) (hn : ks.length = n) (hN : Av (ks.map (·.p)) = true) (hs : n * (B + 3) + 3 ≤ sizeLine) {out : List Tk} {u5 u6 : Option W}
  (ho : ∀ o, Ad kn ks = .ok o → out.length + o.length ≤ sizeLine) (ha : a ≤ TT.length) :
  Df (ex TT a kn out (some (.d (.int n))) u5 u6) = match Ad kn ks with
   | .ok o => .ok (.cont, ex TT (a + n) kn (out ++ o) (some (.d (.int n))) u5 u6)
   | .exc e => .exc e
   | .fail => .fail := by
 have hPk : ∀ k ∈ ks, k.p ∈ A5 := fun k hk => hP k (UK (hd ▸ List.mem_append_left _ hk))
 have hr := K9 (kn := kn) hPk hB hN (by rw [hn]; exact hs)
 have hcut : (((((AY (some (a : Int)) (some ((a + n : Nat) : Int)) (BY TT)).bind fun d => .ok (W.d d)).bind fun u => (Res.ok [.bd (Eu kn)]).bind fun us => .ok (u :: us)).bind (AN B2 A6 2)).bind Bb) = (Ad kn ks).bind (fun o => .ok (BY o)) := by
  rw [NS hl hd hn ha]
  show (AN B2 A6 2 [.d (BY ks), .bd (Eu kn)]).bind Bb = _
  rw [hr]; cases Ad kn ks <;> rfl
 revert ho hcut
 cases Ad kn ks with
 | fail => intro _ hc; show (EE 1 _ _).bind _ = _; unfold EE; exact congrArg (fun r => Res.bind (Res.bind (Res.bind r H9) _) _) hc
 | exc e =>
  intro _ hc
  refine seq_exc ?_
  unfold EE
  exact congrArg (fun r => Res.bind (Res.bind r H9) _) hc
 | ok o =>
  intro ho hc
  have hx : EE 1 (fun l => (((((getv l 0).bind fun d => ((getv l 3).bind Ah).bind fun lo => (((getv l 3).bind fun d => (getv l 4).bind fun e => AM d e).bind Ah).bind fun hi => AY lo hi d).bind fun d => .ok (W.d d)).bind fun u => (((Dx l 2).bind fun kvs => .ok (W.bd kvs)).bind fun u => (Res.ok []).bind fun us => .ok (u :: us)).bind fun us => .ok (u :: us)).bind (AN B2 A6 2)).bind Bb) (ex TT a kn out (some (.d (.int n))) u5 u6) = .ok (.next, ex TT a kn (out ++ o) (some (.d (.int n))) u5 u6) := by
   refine (ext_ok (k := 0) (ts := out.map tkD) (ds := o.map tkD) rfl hc (by rw [Tu, Tu]; exact ho o rfl)).trans ?_
   rw [← T4]; rfl
  exact (seq_next hx).trans rfl
end
end Mine
namespace Mine
noncomputable def E2 (ks : List Tk) : Nat := (ks.filter fun k => decide (k.p = tDol)).length
theorem Cv (k : Tk) (ks : List Tk) : E2 (k :: ks) = (if k.p = tDol then 1 else 0) + E2 ks := by
 unfold E2
 rw [List.filter_cons]
 by_cases h : k.p = tDol
 ·rw [Tl (Tp h), Tl h, Ts, Nat.add_comm]
 ·rw [Tm (by simpa using h), Tm h, Nat.zero_add]
theorem Px (n : Tk) : (Bc n).length ≤ 2 := by unfold Bc; split <;> simp
theorem Er {kn : Kn} {k : Tk} {r : List Tk} (h : k.p ≠ tDol) : Ad kn (k :: r) = (Ad kn r).bind fun o => .ok (k :: o) := by
 cases r with
 | nil => show (if k.p = tDol then _ else _) = _; rw [Tm h]; rfl
 | cons j r => show (if k.p = tDol then _ else _) = _; rw [Tm h]
theorem EJ {kn : Kn} {B : Nat} (hB : EK kn B) : ∀ (m : Nat) (ks o : List Tk), ks.length ≤ m → Ad kn ks = .ok o → o.length ≤ ks.length + E2 ks * (B + 2)
 | 0, ks, o, hm, h => by
  have : ks = [] := UY (by lia)
  subst this; cases h; exact UG _
 | m + 1, [], o, hm, h => by cases h; exact UG _
 | m + 1, k :: r, o, hm, h => by
  simp only [Ts] at hm ⊢
  by_cases c : k.p = tDol
  ·cases r with
   | nil =>
    have : (if k.p = tDol then Res.exc (Og, k.r, k.c) else .ok [k]) = .ok o := h
    rw [Tl c] at this; cases this
   | cons n r =>
    have h' : (if k.p = tDol then (if n.p.1 ≠ Ac then Res.exc (why n JB, n.r, n.c) else match lk kn (n.p.2.headD 0) with
      | none => .exc (Rn (n.p.2.headD 0), n.r, n.c)
      | some v => (Ad kn r).bind fun o => .ok (v ++ Bc n ++ o)) else (Ad kn (n :: r)).bind fun o => .ok (k :: o)) = .ok o := h
    rw [Tl c] at h'
    by_cases c2 : n.p.1 = Ac
    ·rw [Tm (UB c2)] at h'
     cases hl : lk kn (n.p.2.headD 0) with
     | none => rw [hl] at h'; cases h'
     | some v =>
      rw [hl] at h'
      have hv := hB _ v hl
      have hr := Px n
      cases hf : Ad kn r with
      | fail => rw [hf] at h'; cases h'
      | exc e => rw [hf] at h'; cases h'
      | ok o' =>
       rw [hf] at h'
       have e : o = v ++ Bc n ++ o' := by injection h' with h'; exact h'.symm
       simp only [Ts] at hm ⊢
       have ih := EJ hB m r o' (by lia) hf
       rw [Cv, Tl c, Cv]
       have h1 : (1 + ((if n.p = tDol then 1 else 0) + E2 r)) * (B + 2) = (B + 2) + (if n.p = tDol then 1 else 0) * (B + 2) + E2 r * (B + 2) := by
        rw [Nat.add_mul, Nat.add_mul, Nat.one_mul, ← Nat.add_assoc]
       rw [h1, e, Tw, Tw]
       lia
    ·rw [Tl c2] at h'; cases h'
  ·rw [Er c] at h
   cases hf : Ad kn r with
   | fail => rw [hf] at h; cases h
   | exc e => rw [hf] at h; cases h
   | ok o' =>
    rw [hf] at h
    have e : o = k :: o' := by injection h with h; exact h.symm
    have ih := EJ hB m r o' (by exact Nat.le_of_succ_le_succ (by assumption)) hf
    rw [Cv, Tm c, Nat.zero_add, e, Ts]; lia
theorem EM {kn : Kn} : ∀ (m : Nat) (ks : List Tk), ks.length ≤ m → Ad kn ks ≠ .fail
 | 0, ks, hm => by
  have : ks = [] := UY (by lia)
  subst this; exact fun z => by cases z
 | m + 1, [], hm => fun z => by cases z
 | m + 1, k :: r, hm => fun z => by
  simp only [Ts] at hm
  by_cases c : k.p = tDol
  ·cases r with
   | nil =>
    have : (if k.p = tDol then Res.exc (Og, k.r, k.c) else .ok [k]) = .fail := z
    rw [Tl c] at this; cases this
   | cons n r =>
    have z' : (if k.p = tDol then (if n.p.1 ≠ Ac then Res.exc (why n JB, n.r, n.c) else match lk kn (n.p.2.headD 0) with
      | none => .exc (Rn (n.p.2.headD 0), n.r, n.c)
      | some v => (Ad kn r).bind fun o => .ok (v ++ Bc n ++ o)) else (Ad kn (n :: r)).bind fun o => .ok (k :: o)) = .fail := z
    rw [Tl c] at z'
    by_cases c2 : n.p.1 = Ac
    ·rw [Tm (UB c2)] at z'
     cases hl : lk kn (n.p.2.headD 0) with
     | none => rw [hl] at z'; cases z'
     | some v =>
      rw [hl] at z'
      cases hf : Ad kn r with
      | fail => exact EM m r (by simp only [Ts] at hm; lia) hf
      | exc e => rw [hf] at z'; cases z'
      | ok o' => rw [hf] at z'; cases z'
    ·rw [Tl c2] at z'; cases z'
  ·rw [Er c] at z
   cases hf : Ad kn r with
   | fail => exact EM m r (by exact Nat.le_of_succ_le_succ (by assumption)) hf
   | exc e => rw [hf] at z; cases z
   | ok o' => rw [hf] at z; cases z
noncomputable def PG : Option Tk → List Tk → Bool
 | _, [] => true
 | pv, k :: r => !Ek pv k && PG (some k) r
noncomputable def Iq (TT : List Tk) (kn : Kn) (out : List Tk) (e n : Nat) (o : Res (Fl × Loc)) (res : Res (List Tk)) : Prop := match res with
 | .ok ts => ∃ j v4 v5 v6, n < j ∧ o = Ao Bw BE j (ex TT e kn (out ++ ts) v4 v5 v6)
 | .exc x => o = .exc x
 | .fail => False
section
variable {TT : List Tk} {kn : Kn} {B : Nat}
theorem Hx {a : Nat} {k : Tk} {r : List Tk} (hd : TT.drop a = k :: r) : Dl TT (a + 1) = some k := by
 unfold Dl
 rw [Tm (by exact Nat.succ_ne_zero _), Nat.add_sub_cancel, ← UM, hd]; rfl
theorem R4 (hl : TT.length ≤ sizeLine) {a : Nat} {k : Tk} (h : TT[a]? = some k) (out : List Tk) (u4 u5 u6 : Option W) :
  IG (ex TT a kn out u4 u5 u6) = Df (ex TT a kn out (some (.d (.int (if k.p = tDol then 2 else 1 : Nat)))) u5 u6) := by
 have hi := Cp h hl
 have t : Ca (fun l => ((((getv l 0).bind fun d => (getv l 3).bind fun e => AG d e).bind fun d => (Res.ok (.int 0)).bind fun e => AG d e).bind fun d => (Res.ok (.str "sign")).bind fun e => AZ d e).bind AF) (fun l => Ca (fun l => ((((getv l 0).bind fun d => (getv l 3).bind fun e => AG d e).bind fun d => (Res.ok (.int 1)).bind fun e => AG d e).bind fun d => (Res.ok (.str "$")).bind fun e => AZ d e).bind AF) (fun l => Res.ok true) l) (ex TT a kn out (some (.d (.int 1))) u5 u6) = .ok (decide (k.p = tDol)) := by
  have e1 : ((((AG (BY TT) (.int a)).bind fun d => (Res.ok (.int 0)).bind fun e => AG d e).bind fun d => (Res.ok (.str "sign")).bind fun e => AZ d e).bind AF) = .ok (decide (k.p.1 = Al)) := by rw [hi]; rfl
  have e2 : ((((AG (BY TT) (.int a)).bind fun d => (Res.ok (.int 1)).bind fun e => AG d e).bind fun d => (Res.ok (.str "$")).bind fun e => AZ d e).bind AF) = .ok (decide (k.p.2 = [36])) := by
   rw [hi, show "$" = S [36] by kernel_rfl]; exact congrArg Res.ok (S_beq _ _)
  by_cases q1 : k.p.1 = Al
  ·rw [Tp q1] at e1
   by_cases q2 : k.p.2 = [36]
   ·rw [Tp q2] at e2
    rw [Tp (p := k.p = tDol) (Prod.ext q1 q2)]
    exact (and_t e1).trans (and_t e2)
   ·rw [Tq q2] at e2
    rw [Tq (p := k.p = tDol) fun z => q2 (by rw [z]; rfl)]
    exact (and_t e1).trans (and_f e2)
  ·rw [Tq q1] at e1
   rw [Tq (p := k.p = tDol) fun z => q1 (by rw [z]; rfl)]
   exact and_f e1
 have s4 : Aq 4 (fun l => Res.ok (.int 1)) (ex TT a kn out u4 u5 u6) = .ok (.next, ex TT a kn out (some (.d (.int 1))) u5 u6) := rfl
 by_cases c : k.p = tDol
 ·rw [Tl c]; exact (seq_next s4).trans (seq_next ((if_t t (Tp c)).trans rfl))
 ·rw [Tm c]; exact (seq_next s4).trans (seq_next (if_f t (Tq c)))
theorem Hz (hl : TT.length ≤ sizeLine) (hP : ∀ k ∈ TT, k.p ∈ A5) (hB : EK kn B) : ∀ (m : Nat) (R rest : List Tk) (a : Nat) (u4 u5 u6 : Option W) (out : List Tk) (j : Nat), R.length ≤ m → TT.drop a = R ++ rest → PG (Dl TT a) R = true →
  (∀ k, R.getLast? = some k → k.p ≠ tDol) → Av (R.map (·.p)) = true → out.length + (R.length + E2 R * (B + 2)) + 2 * (B + 3) + 3 ≤ sizeLine → rest.length + R.length < j →
  Iq TT kn out (a + R.length) rest.length (Ao Bw BE j (ex TT a kn out u4 u5 u6)) (Ad kn R) := by
 intro m
 induction m with
 | zero =>
  intro R rest a u4 u5 u6 out j hm hd hn hlast hN hs hj
  have : R = [] := UY (by lia)
  subst this
  exact (H2 j u4 u5 u6 (by simpa using hj) (by rw [UD]; rfl))
 | succ m ih =>
  intro R rest a u4 u5 u6 out j hm hd hn hlast hN hs hj
  cases R with
  | nil => exact (H2 j u4 u5 u6 (by simpa using hj) (by rw [UD]; rfl))
  | cons k r =>
   obtain ⟨j, rfl⟩ : ∃ i, j = i + 1 := ⟨j - 1, by lia⟩
   have hlen : TT.length = a + (r.length + 1 + rest.length) := by have := congrArg List.length hd; simp at this; lia
   have hk : TT[a]? = some k := by rw [← UM, hd]; rfl
   have hr : TT.drop (a + 1) = r ++ rest := by rw [← T9, hd]; rfl
   simp only [Ts] at hm hs hj
   have ht := LP (kn := kn) hl a out u4 u5 u6
   rw [Tp (by lia)] at ht
   have hdef := P1 (kn := kn) hl hP hk out u4 u5 u6
   unfold PG at hn
   refine xA (T5.mp hn) fun hn1 hn2 => ?_
   rw [hn1] at hdef
   have hprev := Hx hd
   have body : ∀ {z : Fl × Loc}, z.1 = .cont → Df (ex TT a kn out (some (.d (.int (if k.p = tDol then 2 else 1 : Nat)))) u5 u6) = .ok z → BE (ex TT a kn out u4 u5 u6) = .ok z := fun {z} hz e => by
    obtain ⟨f1, l1⟩ := z
    cases hz
    exact M1 ((if_t hdef rfl).trans ((R4 hl hk out u4 u5 u6).trans e))
   have bodyx : ∀ {x : Dr}, Df (ex TT a kn out (some (.d (.int (if k.p = tDol then 2 else 1 : Nat)))) u5 u6) = .exc x → BE (ex TT a kn out u4 u5 u6) = .exc x := fun e => seq_exc ((if_t hdef rfl).trans ((R4 hl hk out u4 u5 u6).trans e))
   by_cases c : k.p = tDol
   ·rw [Tl c] at body bodyx
    cases r with
    | nil => exact absurd c (hlast k rfl)
    | cons n r =>
     have hd2 : TT.drop a = [k, n] ++ (r ++ rest) := hd
     have hN2 : Av ([k, n].map (·.p)) = true := by
      unfold Av at hN
      have := (T5.mp hN).1
      show ((k.p != tDol || n.p.1 != Ac || O1 n.p) && true) = true
      rw [Bool.and_true]; exact this
     have hl1 : ∀ o, Ad kn [k, n] = .ok o → o.length ≤ 2 + (E2 [k, n]) * (B + 2) := fun o ho => EJ hB 2 [k, n] o (by simp) ho
     have hdol : E2 (k :: n :: r) * (B + 2) = E2 [k, n] * (B + 2) + E2 r * (B + 2) := by
      rw [← Nat.add_mul, Cv, Cv, Cv, Cv, show E2 [] = 0 from rfl, Nat.add_zero]
      exact congrArg (· * (B + 2)) (Nat.add_assoc ..).symm
     have hrep := QR (n := 2) hl hP hB hd2 rfl hN2 (by lia) (out := out) (u5 := u5) (u6 := u6) (fun o ho => by have := hl1 o ho; lia) (by lia)
     have hsplit : Ad kn (k :: n :: r) = (Ad kn [k, n]).bind fun o1 => (Ad kn r).bind fun o => .ok (o1 ++ o) := by
      show (if k.p = tDol then _ else _) = (if k.p = tDol then _ else _ : Res (List Tk)).bind _
      rw [Tl c, Tl c]
      by_cases c2 : n.p.1 = Ac
      ·rw [Tm (UB c2), Tm (UB c2)]
       cases lk kn (n.p.2.headD 0) with
       | none => rfl
       | some v =>
        show _ = (Ad kn r).bind fun o => .ok (v ++ Bc n ++ [] ++ o)
        rw [UD]
      ·rw [Tl c2, Tl c2]; rfl
     rw [hsplit]
     have hne := EM (kn := kn) 2 [k, n] (by simp)
     revert hne hrep hl1
     cases Ad kn [k, n] with
     | fail =>
      intro _ _ hne
      exact absurd rfl hne
     | exc x => intro _ hrep _; exact DQ j ht (bodyx hrep)
     | ok o1 =>
      intro hl1 hrep _
      have hl1 := hl1 o1 rfl
      have step := whileM_go j ht (body rfl hrep) (.inr rfl)
      simp only [Ts, List.length_nil] at hm hs hj
      have hr2 : TT.drop (a + 2) = r ++ rest := by rw [← T9, hd]; rfl
      have hprev2 : Dl TT (a + 2) = some n := Hx (a := a + 1) (by rw [hr]; rfl)
      rw [hprev] at *
      unfold PG at hn2
      have hn3 := (T5.mp hn2).2
      have hN3 : Av (r.map (·.p)) = true := by
       unfold Av at hN
       have h2 := (T5.mp hN).2
       cases r with
       | nil => rfl
       | cons i r => unfold Av at h2; exact (T5.mp h2).2
      have hlast3 : ∀ q, r.getLast? = some q → q.p ≠ tDol := fun q hq => hlast q (by cases r with | nil => cases hq | cons i r => exact hq)
      have := ih r rest (a + 2) (some (.d (.int 2))) u5 u6 (out ++ o1) j (by lia) hr2 (by rw [hprev2]; exact hn3) hlast3 hN3 (by rw [Tw]; lia) (by lia)
      rw [step]
      revert this
      show Iq _ _ _ _ _ _ (Ad kn r) → Iq _ _ _ _ _ _ ((Ad kn r).bind fun o => .ok (o1 ++ o))
      cases Ad kn r with
      | fail => exact id
      | exc x => exact id
      | ok o =>
       intro y1_; refine Gc y1_ fun i v4 v5 v6 h1 h2 => ?_; clear y1_
       refine (H2 i v4 v5 v6 h1 (h2.trans ?_))
       rw [Tz, show a + (k :: n :: r).length = a + 2 + r.length by simp only [Ts]; lia]
   ·rw [Tm c] at body bodyx
    have hd1 : TT.drop a = [k] ++ (r ++ rest) := hd
    rw [Cv, Tm c, Nat.zero_add] at hs
    have hf1 : Ad kn [k] = .ok [k] := by show (if k.p = tDol then _ else _) = _; rw [Tm c]
    have hrep := QR (n := 1) (kn := kn) hl hP hB hd1 rfl rfl (by lia) (out := out) (u5 := u5) (u6 := u6) (fun o ho => by rw [hf1] at ho; cases ho; simp only [Ts, List.length_nil]; lia) (by lia)
    rw [hf1] at hrep
    have step := whileM_go j ht (body rfl hrep) (.inr rfl)
    have hN3 : Av (r.map (·.p)) = true := by
     cases r with
     | nil => rfl
     | cons i r => rw [T1, T1] at hN; unfold Av at hN; exact (T5.mp hN).2
    have hlast3 : ∀ q, r.getLast? = some q → q.p ≠ tDol := fun q hq => hlast q (by cases r with | nil => cases hq | cons i r => exact hq)
    have := ih r rest (a + 1) (some (.d (.int 1))) u5 u6 (out ++ [k]) j (by exact Nat.le_of_succ_le_succ (by assumption)) hr (by rw [hprev]; exact hn2) hlast3 hN3 (by rw [Tw, UP]; lia) (by lia)
    rw [Er c, step]
    revert this
    cases Ad kn r with
    | fail => exact id
    | exc x => exact id
    | ok o =>
     intro y1_; refine Gc y1_ fun i v4 v5 v6 h1 h2 => ?_; clear y1_
     refine (H2 i v4 v5 v6 h1 (h2.trans ?_))
     rw [Tz, show a + (k :: r).length = a + 1 + r.length by simp only [Ts]; lia]; rfl
end
end Mine
namespace Mine
noncomputable def Mn : Nat → List PT → Option Nat
 | d, [] => some d
 | d, p :: r => if p.1 = CC then none else if p.1 = BH ∧ d = 0 then none else if p = tL then Mn (d + 1) r else if p = tR then (if d = 0 then none else Mn (d - 1) r) else Mn d r
theorem G8 {z : Tk} {rest : List Tk} (hz : z.p.1 = CC ∨ z.p.1 = BH ∨ z.p = tR) : ∀ (V : List Tk) (d : Nat), Mn d (V.map (·.p)) = some 0 → Hj d (V ++ z :: rest) = V.length
 | [], d, h => by
  have : d = 0 := by injection h
  subst this
  show (if z.p.1 = CC then 0 else if z.p.1 = BH ∧ 0 = 0 then 0 else if z.p = tL then 1 + Hj 1 rest else if z.p = tR then (if 0 = 0 then 0 else 1 + Hj (0 - 1) rest) else 1 + Hj 0 rest) = 0
  rcases hz with q | q | q
  ·rw [Tl q]
  ·by_cases q' : z.p.1 = CC
   ·rw [Tl q']
   ·rw [Tm q', Tl ⟨q, rfl⟩]
  ·rw [q]; kernel_rfl
 | k :: V, d, h => by
  rw [T1, Mn] at h
  rw [List.cons_append, Hj, Ts, Nat.add_comm V.length]
  by_cases c1 : k.p.1 = CC
  ·rw [Tl c1] at h; cases h
  rw [Tm c1] at h ⊢
  by_cases c2 : k.p.1 = BH ∧ d = 0
  ·rw [Tl c2] at h; cases h
  rw [Tm c2] at h ⊢
  by_cases c3 : k.p = tL
  ·rw [Tl c3] at h ⊢; rw [G8 hz V _ h]
  rw [Tm c3] at h ⊢
  by_cases c4 : k.p = tR
  ·rw [Tl c4] at h ⊢
   by_cases c5 : d = 0
   ·rw [Tl c5] at h; cases h
   ·rw [Tm c5] at h ⊢; rw [G8 hz V _ h]
  ·rw [Tm c4] at h ⊢; rw [G8 hz V _ h]
noncomputable def sEq : Str := "'='"
noncomputable def Oe : Str := "expression"
noncomputable def TH (c : Nat) : Str := Str.ofString "redefinition of symbol '" ++ S [c] ++ kq
noncomputable def FG (kn : Kn) (c : Nat) (s e z : Tk) (V : List Tk) : Res (List Tk) :=
 if s.p.1 ≠ Ac then .exc (why s JB, s.r, s.c) else if (lk kn c).isSome = true then .exc (TH c, s.r, s.c) else if e.p ≠ Gg then .exc (why e sEq, e.r, e.c) else if V = [] then .exc (why z Oe, z.r, z.c) else Ad kn V
noncomputable def OO (TT : List Tk) (kn : Kn) (c : Nat) (out : List Tk) (a : Nat) (o : Res (Fl × Loc)) (res : Res (List Tk)) : Prop := match res with
 | .ok ts => ∃ u4 u5 u6, o = .ok (.next, ex TT a (kn ++ [(c, ts)]) out u4 u5 u6)
 | .exc x => o = .exc x
 | .fail => False
theorem Pm {c : Nat} : (((AM (.str "redefinition of symbol '") (.str (S [c]))).bind fun d => AM d (.str kq))) = .ok (.str (TH c)) := by
 have hz := szl
 have e1 : (Str.ofString "redefinition of symbol '").length = 24 := by decide +kernel
 have e2 : kq.length = 1 := by decide +kernel
 have e3 : (Str.ofString "redefinition of symbol '" ++ S [c]).length = 25 := by rw [show (Str.ofString "redefinition of symbol '" ++ S [c]).length = (Str.ofString "redefinition of symbol '").length + (S [c]).length from Str.length_append .., e1]; rfl
 rw [C2 (by rw [e1, Ds]; simp; decide), bind_ok', C2 (by rw [e2, e3]; decide)]; rfl
section
variable {TT : List Tk} {kn : Kn} {B : Nat}
theorem TY (k : Tk) : (decide (k.p.1 ≠ Al) || !decide (k.p.2 = [61])) = decide (k.p ≠ Gg) := by
 by_cases q : k.p = Gg
 ·rw [Tq (UB q), q]; decide +kernel
 ·rw [Tp (p := k.p ≠ Gg) q]
  by_cases q1 : k.p.1 = Al
  ·have q2 : k.p.2 ≠ [61] := fun z => q (Prod.ext q1 z)
   rw [Tq q2]; simp
  ·rw [Tp (p := k.p.1 ≠ Al) q1]; rfl
theorem O3 (hl : TT.length ≤ sizeLine) (hP : ∀ k ∈ TT, k.p ∈ A5) (hB : EK kn B) {a c : Nat} {d s e z : Tk} {V rest : List Tk} (hd : TT.drop a = d :: s :: e :: (V ++ z :: rest)) (hdef : Ek (Dl TT a) d = true) (hs : s.p.2 = [c])
  (hN : Av (V.map (·.p)) = true) (hbal : Mn 0 (V.map (·.p)) = some 0) (hz : z.p.1 = CC ∨ z.p.1 = BH ∨ z.p = tR) (hE : ∃ k ∈ TT.drop (a + 3), k.p.1 = CC) (hsz : V.length * (B + 3) + 3 ≤ sizeLine) (hk : kn.length ≤ 1000) (out : List Tk) (u4 u5 u6 : Option W) :
  OO TT kn c out (a + 3 + V.length + if z.p.1 = BH then 1 else 0) (BE (ex TT a kn out u4 u5 u6)) (FG kn c s e z V) := by
 have h62 := szl
 have hlen : TT.length = a + 3 + V.length + 1 + rest.length := by have := congrArg List.length hd; simp at this; lia
 have hk0 : TT[a]? = some d := by rw [← UM, hd]; rfl
 have hd1 : TT.drop (a + 1) = s :: e :: (V ++ z :: rest) := by rw [← T9, hd]; rfl
 have hk1 : TT[a + 1]? = some s := by rw [← UM, hd1]; rfl
 have hd2 : TT.drop (a + 2) = e :: (V ++ z :: rest) := by rw [← T9, hd]; rfl
 have hk2 : TT[a + 2]? = some e := by rw [← UM, hd2]; rfl
 have hd3 : TT.drop (a + 3) = V ++ z :: rest := by rw [← T9, hd]; rfl
 have hkz : TT[a + 3 + V.length]? = some z := by rw [← UM, ← T9, hd3, List.drop_left]; rfl
 have mem : ∀ {n : Nat} {k : Tk}, TT[n]? = some k → k.p ∈ A5 := fun h => hP _ (T7 h)
 have i1 := Cp hk1 hl
 have i2 := Cp hk2 hl
 have iz := Cp hkz hl
 have t0 := P1 (kn := kn) hl hP hk0 out u4 u5 u6
 rw [hdef] at t0
 have s5 : Aq 5 (fun l => (getv l 0).bind fun d => ((getv l 3).bind fun d => (Res.ok (.int 1)).bind fun e => AM d e).bind fun e => AG d e) (ex TT a kn out u4 u5 u6) = .ok (.next, ex TT a kn out u4 (some (.d (tkD s))) u6) := (set_ok (d := tkD s) i1).trans rfl
 have t5 : (((getv (ex TT a kn out u4 (some (.d (tkD s))) u6) 5).bind fun d => (Res.ok (.int 0)).bind fun e => AG d e).bind fun d => (Res.ok (.str "word")).bind fun e => A2 d e).bind AF = .ok (decide (s.p.1 ≠ Ac)) := congrArg Res.ok (neS s.p.1 Ac)
 have p5 : ∀ {r : Res (Fl × Loc)}, AK (Bl (fun l => (((getv l 5).bind fun d => (Res.ok (.int 0)).bind fun e => AG d e).bind fun d => (Res.ok (.str "word")).bind fun e => A2 d e).bind AF) IY AT) IV (ex TT a kn out u4 (some (.d (tkD s))) u6) = r → BE (ex TT a kn out u4 u5 u6) = r := fun z => (seq_next (if_f t0 rfl)).trans ((seq_next s5).trans z)
 unfold FG
 by_cases c1 : s.p.1 = Ac
 rotate_left
 ·rw [Tl c1]
  rw [Tp (p := s.p.1 ≠ Ac) c1] at t5
  refine p5 (seq_exc ((if_t t5 rfl).trans (seq_exc ?_)))
  show ((AN BN Ak 2 [.d (tkD s), .d (.str JB)]).bind G9).bind (fun x => Res.exc x) = _
  rw [ER (Dv (mem hk1)) (by decide +kernel)]; rfl
 rw [Tm (UB c1)]
 rw [Tq (UB c1)] at t5
 have t6 : (Mi false 2 (fun l => (getv l 5).bind fun d => (Res.ok (.int 1)).bind fun e => AG d e) (ex TT a kn out u4 (some (.d (tkD s))) u6)).bind AF = .ok (lk kn c).isSome := by
  show Res.ok ((B4 (Eu kn) (S s.p.2)).isSome != false) = _
  rw [hs, CY]
  cases lk kn c <;> rfl
 have p6 : ∀ {r : Res (Fl × Loc)}, AK (Bl (fun l => (Mi false 2 (fun l => (getv l 5).bind fun d => (Res.ok (.int 1)).bind fun e => AG d e) l).bind AF) IO AT) FW (ex TT a kn out u4 (some (.d (tkD s))) u6) = r → BE (ex TT a kn out u4 u5 u6) = r := fun z => p5 ((seq_next (if_f t5 rfl)).trans z)
 cases hlk : lk kn c with
 | some v =>
  rw [hlk] at t6
  rw [Tl (show (some v).isSome = true from rfl)]
  refine p6 (seq_exc ((if_t t6 rfl).trans (seq_exc ?_)))
  show ((((AM (.str "redefinition of symbol '") (.str (S s.p.2))).bind fun d => AM d (.str kq)).bind fun d => (Res.ok [.int s.r, .int s.c]).bind fun ds => .ok (d :: ds)).bind EN).bind (fun x => Res.exc x) = _
  rw [hs, Pm]; rfl
 | none =>
 rw [hlk] at t6
 rw [Tm (show ¬ (none : Option (List Tk)).isSome = true from UR)]
 have t7 : Hs (fun l => ((((getv l 0).bind fun d => ((getv l 3).bind fun d => (Res.ok (.int 2)).bind fun e => AM d e).bind fun e => AG d e).bind fun d => (Res.ok (.int 0)).bind fun e => AG d e).bind fun d => (Res.ok (.str "sign")).bind fun e => A2 d e).bind AF) (fun l => Hs (fun l => ((((getv l 0).bind fun d => ((getv l 3).bind fun d => (Res.ok (.int 2)).bind fun e => AM d e).bind fun e => AG d e).bind fun d => (Res.ok (.int 1)).bind fun e => AG d e).bind fun d => (Res.ok (.str "=")).bind fun e => A2 d e).bind AF) (fun l => Res.ok false) l) (ex TT a kn out u4 (some (.d (tkD s))) u6) = .ok (decide (e.p ≠ Gg)) := by
  rw [← TY]
  have e1 : ((((AG (BY TT) (.int ((a + 2 : Nat) : Int))).bind fun d => (Res.ok (.int 0)).bind fun e => AG d e).bind fun d => (Res.ok (.str "sign")).bind fun e => A2 d e).bind AF) = .ok (decide (e.p.1 ≠ Al)) := by rw [i2]; exact congrArg Res.ok (neS e.p.1 Al)
  have e2 : ((((AG (BY TT) (.int ((a + 2 : Nat) : Int))).bind fun d => (Res.ok (.int 1)).bind fun e => AG d e).bind fun d => (Res.ok (.str "=")).bind fun e => A2 d e).bind AF) = .ok (!decide (e.p.2 = [61])) := by
   rw [i2, show "=" = S [61] by kernel_rfl]; exact congrArg Res.ok (S_bne _ _)
  cases h1 : decide (e.p.1 ≠ Al) with
  | true => rw [h1] at e1; exact or_t e1
  | false =>
   rw [h1] at e1
   cases h2 : !decide (e.p.2 = [61]) with
   | true => rw [h2] at e2; exact (or_f e1).trans (or_t e2)
   | false => rw [h2] at e2; exact (or_f e1).trans (or_f e2)
 have p7 : ∀ {r : Res (Fl × Loc)}, FW (ex TT a kn out u4 (some (.d (tkD s))) u6) = r → BE (ex TT a kn out u4 u5 u6) = r := fun z => p6 ((seq_next (if_f t6 rfl)).trans z)
 by_cases c2 : e.p = Gg
 rotate_left
 ·rw [Tl c2]
  rw [Tp (p := e.p ≠ Gg) c2] at t7
  refine p7 (seq_exc ((if_t t7 rfl).trans (seq_exc ?_)))
  show (((((AG (BY TT) (.int ((a + 2 : Nat) : Int))).bind fun d => .ok (W.d d)).bind fun u => (Res.ok [W.d (.str sEq)]).bind fun us => .ok (u :: us)).bind (AN BN Ak 2)).bind G9).bind (fun x => Res.exc x) = _
  rw [i2]
  show ((AN BN Ak 2 [.d (tkD e), .d (.str sEq)]).bind G9).bind (fun x => Res.exc x) = _
  rw [ER (Dv (mem hk2)) (by decide +kernel)]; rfl
 rw [Tm (UB c2)]
 rw [Tq (UB c2)] at t7
 have hv := Na hl hP (a + 3) hE
 rw [hd3, G8 hz V 0 hbal] at hv
 have s6 : Aq 6 (fun l => ((((getv l 0).bind fun d => .ok (W.d d)).bind fun u => ((((getv l 3).bind fun d => (Res.ok (.int 3)).bind fun e => AM d e).bind fun d => .ok (W.d d)).bind fun u => (Res.ok []).bind fun us => .ok (u :: us)).bind fun us => .ok (u :: us)).bind (AN Dg Bk 2)).bind Bb) (ex TT a kn out u4 (some (.d (tkD s))) u6) = .ok (.next, ex TT a kn out u4 (some (.d (tkD s))) (some (.d (.int ((a + 3 + V.length : Nat) : Int))))) := by
  refine (set_ok (d := .int ((a + 3 + V.length : Nat) : Int)) ?_).trans rfl
  show (AN Dg Bk 2 [.d (BY TT), .d (.int ((a + 3 : Nat) : Int))]).bind Bb = _
  rw [hv]; rfl
 have t8 : ((getv (ex TT a kn out u4 (some (.d (tkD s))) (some (.d (.int ((a + 3 + V.length : Nat) : Int))))) 6).bind fun d => ((getv (ex TT a kn out u4 (some (.d (tkD s))) (some (.d (.int ((a + 3 + V.length : Nat) : Int))))) 3).bind fun d => (Res.ok (.int 3)).bind fun e => AM d e).bind fun e => AZ d e).bind AF = .ok (decide (V = [])) := by
  refine congrArg Res.ok (show decide (((a + 3 + V.length : Nat) : Int) = (a : Int) + 3) = _ from decide_eq_decide.mpr ⟨fun h => UY (by lia), fun h => by rw [h]; rfl⟩)
 have p8 : ∀ {r : Res (Fl × Loc)}, AK (Bl (fun l => ((getv l 6).bind fun d => ((getv l 3).bind fun d => (Res.ok (.int 3)).bind fun e => AM d e).bind fun e => AZ d e).bind AF) IC AT) IK (ex TT a kn out u4 (some (.d (tkD s))) (some (.d (.int ((a + 3 + V.length : Nat) : Int))))) = r → BE (ex TT a kn out u4 u5 u6) = r := fun z => p7 ((seq_next (if_f t7 rfl)).trans ((seq_next s6).trans z))
 by_cases c3 : V = []
 ·rw [Tl c3]
  rw [Tp c3] at t8
  refine p8 (seq_exc ((if_t t8 rfl).trans (seq_exc ?_)))
  show (((((AG (BY TT) (.int ((a + 3 + V.length : Nat) : Int))).bind fun d => .ok (W.d d)).bind fun u => (Res.ok [W.d (.str Oe)]).bind fun us => .ok (u :: us)).bind (AN BN Ak 2)).bind G9).bind (fun x => Res.exc x) = _
  rw [iz]
  show ((AN BN Ak 2 [.d (tkD z), .d (.str Oe)]).bind G9).bind (fun x => Res.exc x) = _
  rw [ER (Dv (mem hkz)) (by decide +kernel)]; rfl
 rw [Tm c3]
 rw [Tq c3] at t8
 have hPV : ∀ k ∈ V, k.p ∈ A5 := fun k hk => hP k (UK (hd3 ▸ List.mem_append_left _ hk))
 have hrep := K9 (kn := kn) hPV hB hN hsz
 have hcut : (((((AY (some ((a + 3 : Nat) : Int)) (some ((a + 3 + V.length : Nat) : Int)) (BY TT)).bind fun d => .ok (W.d d)).bind fun u => (Res.ok [.bd (Eu kn)]).bind fun us => .ok (u :: us)).bind (AN B2 A6 2)).bind Bb) = (Ad kn V).bind (fun o => .ok (BY o)) := by
  rw [NS hl hd3 rfl (by lia)]
  show (AN B2 A6 2 [.d (BY V), .bd (Eu kn)]).bind Bb = _
  rw [hrep]; cases Ad kn V <;> rfl
 have hne := EM (kn := kn) V.length V (Tv _)
 revert hcut hne
 cases Ad kn V with
 | fail => exact fun _ h => absurd rfl h
 | exc x =>
  intro hcut _
  refine p8 ((seq_next (if_f t8 rfl)).trans (seq_exc ?_))
  unfold Hd
  exact congrArg (fun r => Res.bind r _) hcut
 | ok o =>
  intro hcut _
  have x1 : Hd 2 (fun l => (getv l 5).bind fun d => (Res.ok (.int 1)).bind fun e => AG d e) (fun l => (((((getv l 0).bind fun d => (((getv l 3).bind fun d => (Res.ok (.int 3)).bind fun e => AM d e).bind Ah).bind fun lo => ((getv l 6).bind Ah).bind fun hi => AY lo hi d).bind fun d => .ok (W.d d)).bind fun u => (((Dx l 2).bind fun kvs => .ok (W.bd kvs)).bind fun u => (Res.ok []).bind fun us => .ok (u :: us)).bind fun us => .ok (u :: us)).bind (AN B2 A6 2)).bind Bb) (ex TT a kn out u4 (some (.d (tkD s))) (some (.d (.int ((a + 3 + V.length : Nat) : Int))))) = .ok (.next, ex TT a (kn ++ [(c, o)]) out u4 (some (.d (tkD s))) (some (.d (.int ((a + 3 + V.length : Nat) : Int))))) := by
   refine (OV (k := 1) (kvs := Eu kn) (d := BY o) (w := S [c]) rfl hcut (by rw [← hs]; rfl) (by rw [CY, hlk]; rfl) (by unfold Eu; rw [Tu]; lia)).trans ?_
   have : Eu kn ++ [(S [c], BY o)] = Eu (kn ++ [(c, o)]) := by unfold Eu; rw [T4]; rfl
   rw [this]; rfl
  have t9 : ((((getv (ex TT (a + 3 + V.length) (kn ++ [(c, o)]) out u4 (some (.d (tkD s))) (some (.d (.int ((a + 3 + V.length : Nat) : Int))))) 0).bind fun d => (getv (ex TT (a + 3 + V.length) (kn ++ [(c, o)]) out u4 (some (.d (tkD s))) (some (.d (.int ((a + 3 + V.length : Nat) : Int))))) 3).bind fun e => AG d e).bind fun d => (Res.ok (.int 0)).bind fun e => AG d e).bind fun d => (Res.ok (.str "end")).bind fun e => AZ d e).bind AF = .ok (decide (z.p.1 = BH)) := by
   show (((AG (BY TT) (.int ((a + 3 + V.length : Nat) : Int))).bind fun d => (Res.ok (.int 0)).bind fun e => AG d e).bind fun d => (Res.ok (.str "end")).bind fun e => AZ d e).bind AF = _
   rw [iz]; rfl
  have s3 : Aq 3 (fun l => getv l 6) (ex TT a (kn ++ [(c, o)]) out u4 (some (.d (tkD s))) (some (.d (.int ((a + 3 + V.length : Nat) : Int))))) = .ok (.next, ex TT (a + 3 + V.length) (kn ++ [(c, o)]) out u4 (some (.d (tkD s))) (some (.d (.int ((a + 3 + V.length : Nat) : Int))))) := rfl
  refine (Ht u4 (some (.d (tkD s))) (some (.d (.int ((a + 3 + V.length : Nat) : Int)))) (p8 ((seq_next (if_f t8 rfl)).trans ((seq_next x1).trans ((seq_next s3).trans (seq_nop.trans ?_))))))
  by_cases q : z.p.1 = BH
  ·rw [Tl q]; exact (if_t t9 (Tp q)).trans rfl
  ·rw [Tm q]; exact (if_f t9 (Tq q)).trans rfl
end
end Mine
namespace Mine
noncomputable def du (RD MD : D) (kn : Kn) (out : List Tk) (u4 u5 u6 u7 u8 u9 u10 : Option W) : Loc := ⟨[some (.d RD), some (.d MD), some (.dct 0), some (.lst 1), u4, u5, u6, u7, u8, u9, u10], [.dict (Eu kn), .list (out.map tkD)]⟩
noncomputable def Fo (RD MD : D) (out : List Tk) (o : Res (Fl × Loc)) (res : Res (Kn × List Tk)) : Prop := match res with
 | .ok p => ∃ f u4 u5 u6 u7 u8 u9 u10, (f = .next ∨ f = .cont) ∧ o = .ok (f, du RD MD p.1 (out ++ p.2) u4 u5 u6 u7 u8 u9 u10)
 | .exc x => ∃ l, o = .ok (.ret (.val (F7 x)), l)
 | .fail => False
theorem Jr {ps : List PT} (h : ∀ p ∈ ps, p ∈ A5) : SeqAt.shaped (.list (ps.map Ag)) = true := by
 have hd : ∀ p ∈ A5, (Ag p).canLay0 = true ∧ (Ag p).depth = 1 := by decide +kernel
 refine Fh fun d hd' => ?_
 refine BK (List.mem_map.mp hd') fun p hp z2_ => ?_; obtain rfl := z2_
 exact hd p (h p hp)
theorem L8 {ps : List PT} (h : ∀ p ∈ ps, p ∈ A5) : AZ (.list (ps.map Ag)) (.list []) = .ok (.bool (decide (ps = []))) := by
 show (if (SeqAt.shaped (.list (ps.map Ag)) && SeqAt.shaped (.list [])) = true then Res.ok (PyData.bool (PyData.eqv (.list (ps.map Ag)) (.list []))) else .fail) = _
 rw [Jr h]
 cases ps <;> rfl
theorem SH {ps : List PT} {p : PT} (h : ∀ p ∈ ps, p ∈ A5) (hp : p ∈ A5) : DM (Ag p) (.list (ps.map Ag)) = .ok (.bool (decide (p ∈ ps))) := by
 have e : NO (Ag p) (.list (ps.map Ag)) = if SeqAt.shaped (.list (ps.map Ag)) && SeqAt.shaped (Ag p) then some ((ps.map Ag).any fun y => PyData.eqv y (Ag p)) else none := rfl
 unfold DM
 rw [e, Jr h, DL hp]
 have : ∀ l : List PT, ((l.map Ag).any fun y => PyData.eqv y (Ag p)) = decide (p ∈ l) := fun l => by
  induction l with
  | nil => rfl
  | cons a l ih =>
   rw [T1, List.any_cons, ih, LY, decide_eq_decide.mpr (eq_comm (a := a)), ← Bool.decide_or]
   exact decide_eq_decide.mpr T0.symm
 rw [this]; rfl
section
variable {RD MD : D} {kn : Kn} {B : Nat} {out : List Tk} {r : Row} {ks : List Tk} {u6 u7 u8 u9 u10 : Option W}
noncomputable abbrev dl (RD MD : D) (kn : Kn) (out : List Tk) (r : Row) (ks : List Tk) (u9 u10 : Option W) : Loc := du RD MD kn out (some (.d (A1 r))) (some (.d (BY ks))) (some (.d (.list (r.head.map Ag)))) (some (.d (.list (r.values.map Ag)))) (some (.d (.list (r.closing.map Ag)))) u9 u10
theorem MJ : (fun l => (getv l 4).bind fun d => ((Ea (Az (fun d l => .ok (l.setv 6 (.d d))) (Az (fun d l => .ok (l.setv 7 (.d d))) (Az (fun d l => .ok (l.setv 8 (.d d))) DE))) 3) d l).bind fun l => Res.ok (Fl.next, l)) (du RD MD kn out (some (.d (A1 r))) (some (.d (BY ks))) u6 u7 u8 u9 u10) = .ok (.next, dl RD MD kn out r ks u9 u10) := rfl
theorem K6 {ks : List Tk} (hP : ∀ k ∈ ks, k.p ∈ A5) (hB : EK kn B) (hn : Av (ks.map (·.p)) = true) (hs : ks.length * (B + 3) + 3 ≤ sizeLine) :
  (AN CX BL 2 [.d (BY ks), .bd (Eu kn)]).bind Bb = match Ad kn ks with | .ok o => .ok (BY o) | .exc e => .ok (F7 e) | .fail => .fail := by
 rw [(Os hP hB hn hs).1]; cases Ad kn ks <;> rfl
theorem Q8 (hP : ∀ k ∈ ks, k.p ∈ A5) (hB : EK kn B) (hn : Av (ks.map (·.p)) = true) (hs : ks.length * (B + 3) + 3 ≤ sizeLine) (hso : out.length + (ks.length + E2 ks * (B + 2)) ≤ sizeLine) (hh : r.head = []) :
  Fo RD MD out (BP (du RD MD kn out (some (.d (A1 r))) (some (.d (BY ks))) u6 u7 u8 u9 u10)) ((Ad kn ks).bind fun o => .ok (kn, o)) := by
 have t : ((getv (dl RD MD kn out r ks u9 u10) 6).bind fun d => ((Res.ok []).bind BB).bind fun e => AZ d e).bind AF = .ok true := by
  have := L8 (ps := r.head) (by rw [hh]; simp)
  show (AZ (.list (r.head.map Ag)) (.list [])).bind AF = _
  rw [this, hh]; rfl
 have hf := K6 (kn := kn) hP hB hn (by assumption)
 have pre : ∀ {z : Fl × Loc}, (z.1 ≠ .next) → G1 (dl RD MD kn out r ks u9 u10) = .ok z → BP (du RD MD kn out (some (.d (A1 r))) (some (.d (BY ks))) u6 u7 u8 u9 u10) = .ok z := fun {z} hz e => by
  obtain ⟨f1, l1⟩ := z
  refine (seq_next MJ).trans ?_
  cases f1 with
  | next => exact absurd rfl hz
  | cont => exact M1 ((if_t t rfl).trans e)
  | ret v => exact seq_ret ((if_t t rfl).trans e)
 have hne := EM (kn := kn) ks.length ks (Tv _)
 have hlo := fun o ho => EJ (kn := kn) hB ks.length ks o (Tv _) ho
 revert hf hne hlo
 cases Ad kn ks with
 | fail => exact fun _ h _ => absurd rfl h
 | exc x =>
  intro hf _ _
  exact ⟨_, pre (by simp) ((seq_next ((set_ok (d := F7 x) hf).trans (show _ = Res.ok (Fl.next, dl RD MD kn out r ks (some (.d (F7 x))) u10) from rfl))).trans (seq_ret ((if_t rfl rfl).trans (seq_ret rfl))))⟩
 | ok o =>
  intro hf _ hlo
  have hlo := hlo o rfl
  refine ⟨.cont, _, _, _, _, _, some (.d (BY o)), u10, .inr rfl, pre (by simp) ((seq_next ((set_ok (d := BY o) hf).trans (show _ = Res.ok (Fl.next, dl RD MD kn out r ks (some (.d (BY o))) u10) from rfl))).trans ((seq_next (if_f rfl rfl)).trans ((seq_next ((ext_ok (k := 1) (ts := out.map tkD) (ds := o.map tkD) rfl rfl (by rw [Tu, Tu]; lia)).trans (show _ = Res.ok (Fl.next, dl RD MD kn (out ++ o) r ks (some (.d (BY o))) u10) from ?_))).trans rfl)))⟩
  rw [← T4]; rfl
noncomputable def keep (cl : List PT) (k : Tk) : Bool := decide (k.p.1 ≠ BH) || decide (tR ∈ cl)
theorem N2 {ps : List PT} {n : Nat} {p : PT} (h : ps[n]? = some p) (hn : n < 100) : AG (.list (ps.map Ag)) (.int n) = .ok (Ag p) := by
 show (if (n : Int).natAbs < 2 ^ 62 then (match at? (ps.map Ag) n with | some d => Res.ok d | none => .fail) else .fail) = _
 rw [Tl (small n (by lia)), at?_nat, UH, h]; rfl
theorem RZ {c : Nat} {d s e z : Tk} {V rest : List Tk} {cl : List PT} (hP : ∀ k ∈ d :: s :: e :: (V ++ z :: rest), k.p ∈ A5) (hB : EK kn B) (hcl : ∀ p ∈ cl, p ∈ A5) (hs1 : s.p.1 ∈ [Ac, Ap]) (hs : s.p.2 = [c]) (he : e.p ∈ [Gg, En])
  (hN : Av (V.map (·.p)) = true) (hsz : V.length * (B + 3) + rest.length + 10 ≤ sizeLine) (hso : out.length + rest.length + 1 ≤ sizeLine) (hk : kn.length ≤ 1000) :
  Fo RD MD out (BP (du RD MD kn out (some (.d (A1 ⟨[wDef, s.p, e.p], V.map (·.p), cl⟩))) (some (.d (BY (d :: s :: e :: (V ++ z :: rest))))) u6 u7 u8 u9 u10))
   ((FG kn c s e z V).bind fun o => .ok (kn ++ [(c, o)], (z :: rest).filter (keep cl))) := by
 have h62 := szl
 generalize hks : d :: s :: e :: (V ++ z :: rest) = ks at *
 generalize hr : (⟨[wDef, s.p, e.p], V.map (·.p), cl⟩ : Row) = r at *
 have hlen : ks.length = 3 + V.length + 1 + rest.length := by rw [← hks]; simp; lia
 have hmul : V.length * 3 ≤ V.length * (B + 3) := Nat.mul_le_mul_left _ (by exact T6 _ _)
 have hl : ks.length ≤ sizeLine := by lia
 have hh : r.head = [wDef, s.p, e.p] := by rw [← hr]
 have hv : r.values = V.map (·.p) := by rw [← hr]
 have hc : r.closing = cl := by rw [← hr]
 have memS : s.p ∈ A5 := hP s (by rw [← hks]; simp)
 have memE : e.p ∈ A5 := hP e (by rw [← hks]; simp)
 have memZ : z.p ∈ A5 := hP z (by rw [← hks]; simp)
 have hPV : ∀ k ∈ V, k.p ∈ A5 := fun k hk => hP k (by rw [← hks]; simp [hk])
 have i1 : AG (BY ks) (.int ((1 : Nat) : Int)) = .ok (tkD s) := Cp (by rw [← hks]; rfl) hl
 have i2 : AG (BY ks) (.int ((2 : Nat) : Int)) = .ok (tkD e) := Cp (by rw [← hks]; rfl) hl
 have h1 : AG (.list (r.head.map Ag)) (.int ((1 : Nat) : Int)) = .ok (Ag s.p) := N2 (by rw [hh]; rfl) (by decide)
 have h2 : AG (.list (r.head.map Ag)) (.int ((2 : Nat) : Int)) = .ok (Ag e.p) := N2 (by rw [hh]; rfl) (by decide)
 have t0 : ∀ u9 u10, ((getv (dl RD MD kn out r ks u9 u10) 6).bind fun d => ((Res.ok []).bind BB).bind fun e => AZ d e).bind AF = .ok false := fun u9 u10 => by
  have := L8 (ps := r.head) (by rw [hh]; intro p hp; simp at hp; rcases hp with rfl | rfl | rfl; decide +kernel; exact memS; exact memE)
  show (AZ (.list (r.head.map Ag)) (.list [])).bind AF = _
  rw [this, hh]; rfl
 have s10 : Aq 10 (fun l => ((getv l 6).bind fun d => (Res.ok (.int 1)).bind fun e => AG d e).bind fun d => (Res.ok (.int 1)).bind fun e => AG d e) (dl RD MD kn out r ks u9 u10) = .ok (.next, dl RD MD kn out r ks u9 (some (.d (.str (S [c]))))) := by
  refine (set_ok (d := .str (S [c])) ?_).trans rfl
  show ((AG (.list (r.head.map Ag)) (.int ((1 : Nat) : Int))).bind fun d => (Res.ok (.int 1)).bind fun e => AG d e) = _
  rw [h1, ← hs]; rfl
 have p1 : ∀ {q : Res (Fl × Loc)}, AK (Bl (fun l => ((((getv l 6).bind fun d => (Res.ok (.int 1)).bind fun e => AG d e).bind fun d => (Res.ok (.int 0)).bind fun e => AG d e).bind fun d => (Res.ok (.str "string")).bind fun e => AZ d e).bind AF) HI AT) Gu (dl RD MD kn out r ks u9 (some (.d (.str (S [c]))))) = q → BP (du RD MD kn out (some (.d (A1 r))) (some (.d (BY ks))) u6 u7 u8 u9 u10) = q := fun q => (seq_next MJ).trans ((seq_next (if_f (t0 u9 u10) rfl)).trans ((seq_next s10).trans q))
 have t1 : ((((getv (dl RD MD kn out r ks u9 (some (.d (.str (S [c]))))) 6).bind fun d => (Res.ok (.int 1)).bind fun e => AG d e).bind fun d => (Res.ok (.int 0)).bind fun e => AG d e).bind fun d => (Res.ok (.str "string")).bind fun e => AZ d e).bind AF = .ok (decide (s.p.1 ≠ Ac)) := by
  show (((AG (.list (r.head.map Ag)) (.int ((1 : Nat) : Int))).bind fun d => (Res.ok (.int 0)).bind fun e => AG d e).bind fun d => (Res.ok (.str "string")).bind fun e => AZ d e).bind AF = _
  rw [h1]
  show Res.ok (decide (s.p.1 = Ap)) = _
  simp at hs1
  rcases hs1 with q | q <;> rw [q] <;> kernel_rfl
 unfold FG
 by_cases c1 : s.p.1 = Ac
 rotate_left
 ·rw [Tl c1]
  rw [Tp (p := s.p.1 ≠ Ac) c1] at t1
  refine ⟨dl RD MD kn out r ks u9 (some (.d (.str (S [c])))), p1 (seq_ret ((if_t t1 rfl).trans (seq_ret ?_)))⟩
  show (((((AG (BY ks) (.int ((1 : Nat) : Int))).bind fun d => .ok (W.d d)).bind fun u => (Res.ok [W.d (.str JB)]).bind fun us => .ok (u :: us)).bind (AN BR Ai 2)).bind Bb).bind (fun d => Res.ok (Fl.ret (.val d), dl RD MD kn out r ks u9 (some (.d (.str (S [c])))))) = _
  rw [i1]
  show ((AN BR Ai 2 [.d (tkD s), .d (.str JB)]).bind Bb).bind (fun d => Res.ok (Fl.ret (.val d), dl RD MD kn out r ks u9 (some (.d (.str (S [c])))))) = _
  rw [E4 (Dv memS) (by decide +kernel)]; rfl
 rw [Tm (UB c1)]
 rw [Tq (UB c1)] at t1
 have t2 : (Mi false 2 (fun l => getv l 10) (dl RD MD kn out r ks u9 (some (.d (.str (S [c])))))).bind AF = .ok (lk kn c).isSome := by
  show Res.ok ((B4 (Eu kn) (S [c])).isSome != false) = _
  rw [CY]
  cases lk kn c <;> rfl
 have p2 : ∀ {q : Res (Fl × Loc)}, AK (Bl (fun l => (Mi false 2 (fun l => getv l 10) l).bind AF) G7 AT) HW (dl RD MD kn out r ks u9 (some (.d (.str (S [c]))))) = q → BP (du RD MD kn out (some (.d (A1 r))) (some (.d (BY ks))) u6 u7 u8 u9 u10) = q := fun q => p1 ((seq_next (if_f t1 rfl)).trans q)
 cases hlk : lk kn c with
 | some v =>
  rw [hlk] at t2
  rw [Tl (show (some v).isSome = true from rfl)]
  refine ⟨dl RD MD kn out r ks u9 (some (.d (.str (S [c])))), p2 (seq_ret ((if_t t2 rfl).trans (seq_ret ?_)))⟩
  show (((((AM (.str "redefinition of symbol '") (.str (S [c]))).bind fun d => AM d (.str kq)).bind fun d => (Res.ok []).bind fun ds => .ok (d :: ds)).bind AV).bind fun d => ((AG (BY ks) (.int ((1 : Nat) : Int))).bind fun d => AY (some ((2 : Nat) : Int)) none d).bind fun e => AM d e).bind (fun d => Res.ok (Fl.ret (.val d), dl RD MD kn out r ks u9 (some (.d (.str (S [c])))))) = _
  rw [Pm, i1]; rfl
 | none =>
 rw [hlk] at t2
 rw [Tm (show ¬ (none : Option (List Tk)).isSome = true from UR)]
 have t3 : ((((getv (dl RD MD kn out r ks u9 (some (.d (.str (S [c]))))) 6).bind fun d => (Res.ok (.int 2)).bind fun e => AG d e).bind fun d => (Res.ok (.int 1)).bind fun e => AG d e).bind fun d => (Res.ok (.str "!")).bind fun e => AZ d e).bind AF = .ok (decide (e.p ≠ Gg)) := by
  show (((AG (.list (r.head.map Ag)) (.int ((2 : Nat) : Int))).bind fun d => (Res.ok (.int 1)).bind fun e => AG d e).bind fun d => (Res.ok (.str "!")).bind fun e => AZ d e).bind AF = _
  rw [h2]
  simp at he
  rcases he with q | q <;> rw [q] <;> kernel_rfl
 have p3 : ∀ {q : Res (Fl × Loc)}, AK (Bl (fun l => ((((getv l 6).bind fun d => (Res.ok (.int 2)).bind fun e => AG d e).bind fun d => (Res.ok (.int 1)).bind fun e => AG d e).bind fun d => (Res.ok (.str "!")).bind fun e => AZ d e).bind AF) HV AT) G2 (dl RD MD kn out r ks u9 (some (.d (.str (S [c]))))) = q → BP (du RD MD kn out (some (.d (A1 r))) (some (.d (BY ks))) u6 u7 u8 u9 u10) = q := fun q => p2 ((seq_next (if_f t2 rfl)).trans q)
 by_cases c2 : e.p = Gg
 rotate_left
 ·rw [Tl c2]
  rw [Tp (p := e.p ≠ Gg) c2] at t3
  refine ⟨dl RD MD kn out r ks u9 (some (.d (.str (S [c])))), p3 (seq_ret ((if_t t3 rfl).trans (seq_ret ?_)))⟩
  show (((((AG (BY ks) (.int ((2 : Nat) : Int))).bind fun d => .ok (W.d d)).bind fun u => (Res.ok [W.d (.str sEq)]).bind fun us => .ok (u :: us)).bind (AN BR Ai 2)).bind Bb).bind (fun d => Res.ok (Fl.ret (.val d), dl RD MD kn out r ks u9 (some (.d (.str (S [c])))))) = _
  rw [i2]
  show ((AN BR Ai 2 [.d (tkD e), .d (.str sEq)]).bind Bb).bind (fun d => Res.ok (Fl.ret (.val d), dl RD MD kn out r ks u9 (some (.d (.str (S [c])))))) = _
  rw [E4 (Dv memE) (by decide +kernel)]; rfl
 rw [Tm (UB c2)]
 rw [Tq (UB c2)] at t3
 have t4 : ((getv (dl RD MD kn out r ks u9 (some (.d (.str (S [c]))))) 7).bind fun d => ((Res.ok []).bind BB).bind fun e => AZ d e).bind AF = .ok (decide (V = [])) := by
  have := L8 (ps := r.values) (by rw [hv]; intro p hp; refine BK (List.mem_map.mp hp) fun k hk z2_ => ?_; obtain rfl := z2_; exact hPV k hk)
  show (AZ (.list (r.values.map Ag)) (.list [])).bind AF = _
  rw [this, hv]
  exact congrArg Res.ok (decide_eq_decide.mpr List.map_eq_nil_iff)
 have p4 : ∀ {q : Res (Fl × Loc)}, AK (Bl (fun l => ((getv l 7).bind fun d => ((Res.ok []).bind BB).bind fun e => AZ d e).bind AF) HL AT) Gs (dl RD MD kn out r ks u9 (some (.d (.str (S [c]))))) = q → BP (du RD MD kn out (some (.d (A1 r))) (some (.d (BY ks))) u6 u7 u8 u9 u10) = q := fun q => p3 ((seq_next (if_f t3 rfl)).trans q)
 by_cases c3 : V = []
 ·rw [Tl c3]
  rw [Tp c3] at t4
  have i3 : AG (BY ks) (.int ((3 : Nat) : Int)) = .ok (tkD z) := Cp (by rw [← hks, c3]; rfl) hl
  refine ⟨dl RD MD kn out r ks u9 (some (.d (.str (S [c])))), p4 (seq_ret ((if_t t4 rfl).trans (seq_ret ?_)))⟩
  show (((((AG (BY ks) (.int ((3 : Nat) : Int))).bind fun d => .ok (W.d d)).bind fun u => (Res.ok [W.d (.str Oe)]).bind fun us => .ok (u :: us)).bind (AN BR Ai 2)).bind Bb).bind (fun d => Res.ok (Fl.ret (.val d), dl RD MD kn out r ks u9 (some (.d (.str (S [c])))))) = _
  rw [i3]
  show ((AN BR Ai 2 [.d (tkD z), .d (.str Oe)]).bind Bb).bind (fun d => Res.ok (Fl.ret (.val d), dl RD MD kn out r ks u9 (some (.d (.str (S [c])))))) = _
  rw [E4 (Dv memZ) (by decide +kernel)]; rfl
 rw [Tm c3]
 rw [Tq c3] at t4
 have lv : Ar (.list (r.values.map Ag)) = .ok (.int V.length) := by
  show (if (r.values.map Ag).length ≤ sizeLine then Res.ok (PyData.int (r.values.map Ag).length) else .fail) = _
  rw [hv, Tu, Tu, Tl (by lia)]
 have hcut : AY (some ((3 : Nat) : Int)) (some ((3 + V.length : Nat) : Int)) (BY ks) = .ok (BY V) := NS (a := 3) (rest := z :: rest) hl (by rw [← hks]; rfl) rfl (by lia)
 have hf := K6 (kn := kn) hPV hB hN (by lia)
 have e9 : (((((getv (dl RD MD kn out r ks u9 (some (.d (.str (S [c]))))) 5).bind fun d => ((Res.ok (.int 3)).bind Ah).bind fun lo => (((Res.ok (.int 3)).bind fun d => ((getv (dl RD MD kn out r ks u9 (some (.d (.str (S [c]))))) 7).bind Ar).bind fun e => AM d e).bind Ah).bind fun hi => AY lo hi d).bind fun d => .ok (W.d d)).bind fun u => (((Dx (dl RD MD kn out r ks u9 (some (.d (.str (S [c]))))) 2).bind fun kvs => .ok (W.bd kvs)).bind fun u => (Res.ok []).bind fun us => .ok (u :: us)).bind fun us => .ok (u :: us)).bind (AN CX BL 2)).bind Bb = match Ad kn V with | .ok o => .ok (BY o) | .exc e => .ok (F7 e) | .fail => .fail := by
  show (((((((Ar (.list (r.values.map Ag))).bind fun e => AM (.int 3) e).bind Ah).bind fun hi => AY (some 3) hi (BY ks)).bind fun d => .ok (W.d d)).bind fun u => (Res.ok [W.bd (Eu kn)]).bind fun us => .ok (u :: us)).bind (AN CX BL 2)).bind Bb = _
  rw [lv]
  show ((((AY (some ((3 : Nat) : Int)) (some ((3 + V.length : Nat) : Int)) (BY ks)).bind fun d => .ok (W.d d)).bind fun u => (Res.ok [W.bd (Eu kn)]).bind fun us => .ok (u :: us)).bind (AN CX BL 2)).bind Bb = _
  rw [hcut]
  exact hf
 have hne := EM (kn := kn) V.length V (Tv _)
 revert e9 hne
 cases Ad kn V with
 | fail => exact fun _ h => absurd rfl h
 | exc x =>
  intro e9 _
  exact ⟨dl RD MD kn out r ks (some (.d (F7 x))) (some (.d (.str (S [c])))), p4 ((seq_next (if_f t4 rfl)).trans ((seq_next ((set_ok (d := F7 x) e9).trans (show _ = Res.ok (Fl.next, dl RD MD kn out r ks (some (.d (F7 x))) (some (.d (.str (S [c]))))) from rfl))).trans (seq_ret ((if_t rfl rfl).trans (seq_ret rfl)))))⟩
 | ok o =>
  intro e9 _
  let kn' : Kn := kn ++ [(c, o)]
  let L : Loc := dl RD MD kn out r ks (some (.d (BY o))) (some (.d (.str (S [c]))))
  let L' : Loc := dl RD MD kn' out r ks (some (.d (BY o))) (some (.d (.str (S [c]))))
  have x1 : Hd 2 (fun l => getv l 10) (fun l => getv l 9) L = .ok (.next, L') := by
   refine (OV (k := 0) (kvs := Eu kn) (d := BY o) (w := S [c]) rfl rfl rfl (by rw [CY, hlk]; rfl) (by unfold Eu; rw [Tu]; lia)).trans ?_
   have : Eu kn ++ [(S [c], BY o)] = Eu (kn ++ [(c, o)]) := by unfold Eu; rw [T4]; rfl
   rw [this]; rfl
  have hcm : Bu (fun l => ((getv l 5).bind fun d => (((Res.ok (.int 3)).bind fun d => ((getv l 7).bind Ar).bind fun e => AM d e).bind Ah).bind fun lo => (Res.ok none).bind fun hi => AY lo hi d).bind Bh) Cy [8] L' = .ok (((z :: rest).filter (keep cl)).map tkD) := by
   have hc3 : AY (some ((3 + V.length : Nat) : Int)) none (BY ks) = .ok (BY (z :: rest)) := by
    show (if (ks.map tkD).length ≤ sizeLine then Res.ok (PyData.list (cut (some ((3 + V.length : Nat) : Int)) none (ks.map tkD))) else .fail) = _
    rw [Tu, Tl hl, Gt _ _ (by rw [Tu]; lia), ← List.map_drop, ← hks]
    have : (d :: s :: e :: (V ++ z :: rest)).drop (3 + V.length) = z :: rest := by rw [← T9]; exact List.drop_left
    rw [this]; rfl
   have e1 : ((((getv L' 5).bind fun d => (((Res.ok (.int 3)).bind fun d => ((getv L' 7).bind Ar).bind fun e => AM d e).bind Ah).bind fun lo => (Res.ok none).bind fun hi => AY lo hi d)).bind Bh) = .ok ((z :: rest).map tkD) := by
    show (((((Ar (.list (r.values.map Ag))).bind fun e => AM (.int 3) e).bind Ah).bind fun lo => AY lo none (BY ks)).bind Bh) = _
    rw [lv]
    show (AY (some ((3 + V.length : Nat) : Int)) none (BY ks)).bind Bh = _
    rw [hc3]; rfl
   have e2 : ∀ k : Tk, Cy (Hv L' [8] (tkD k)) = .ok (keep cl k) := fun k => by
    have a1 : (((getv (Hv L' [8] (tkD k)) 0).bind fun d => (Res.ok (.int 0)).bind fun e => AG d e).bind fun d => (Res.ok (.str "end")).bind fun e => A2 d e).bind AF = .ok (decide (k.p.1 ≠ BH)) := congrArg Res.ok (neS k.p.1 BH)
    have a2 : ((((Res.ok (.str "sign")).bind fun d => ((Res.ok (.str "}")).bind fun d => (Res.ok []).bind fun ds => .ok (d :: ds)).bind fun ds => .ok (d :: ds)).bind AV).bind fun d => (getv (Hv L' [8] (tkD k)) 1).bind fun e => DM d e).bind AF = .ok (decide (tR ∈ cl)) := by
     have := SH (ps := r.closing) (p := tR) (by rw [hc]; exact hcl) (by decide +kernel)
     refine (congrArg (fun r => Res.bind r AF) (?_ : _ = DM (Ag tR) (.list (r.closing.map Ag)))).trans (by rw [this, hc]; rfl)
     kernel_rfl
    unfold keep
    cases h1 : decide (k.p.1 ≠ BH) with
    | true => rw [h1] at a1; exact or_t a1
    | false =>
     rw [h1] at a1
     cases h2 : decide (tR ∈ cl) with
     | true => rw [h2] at a2; exact (or_f a1).trans (or_t a2)
     | false => rw [h2] at a2; exact (or_f a1).trans (or_f a2)
   unfold Bu
   show ((((getv L' 5).bind fun d => (((Res.ok (.int 3)).bind fun d => ((getv L' 7).bind Ar).bind fun e => AM d e).bind Ah).bind fun lo => (Res.ok none).bind fun hi => AY lo hi d)).bind Bh).bind _ = _
   rw [e1, bind_ok', Tl (by rw [Tu, Ts]; lia)]
   exact H7 e2 _
  have hfl : ((z :: rest).filter (keep cl)).length ≤ rest.length + 1 := by have := List.length_filter_le (keep cl) (z :: rest); simpa using this
  have x2 : EE 3 (fun l => (Bu (fun l => ((getv l 5).bind fun d => (((Res.ok (.int 3)).bind fun d => ((getv l 7).bind Ar).bind fun e => AM d e).bind Ah).bind fun lo => (Res.ok none).bind fun hi => AY lo hi d).bind Bh) Cy [8] l).bind fun ds => .ok (.list ds)) L' = .ok (.next, dl RD MD kn' (out ++ (z :: rest).filter (keep cl)) r ks (some (.d (BY o))) (some (.d (.str (S [c]))))) := by
   refine (ext_ok (k := 1) (ts := out.map tkD) (ds := ((z :: rest).filter (keep cl)).map tkD) rfl (by show (Bu _ Cy [8] L').bind _ = _; rw [hcm]; rfl) (by rw [Tu, Tu]; lia)).trans ?_
   rw [← T4]; rfl
  exact ⟨.next, _, _, _, _, _, _, _, .inl rfl, p4 ((seq_next (if_f t4 rfl)).trans ((seq_next ((set_ok (d := BY o) e9).trans (show _ = Res.ok (Fl.next, L) from rfl))).trans ((seq_next (if_f rfl rfl)).trans ((seq_next x1).trans (seq_nop.trans x2)))))⟩
end
end Mine
namespace Mine
noncomputable def MB : Nat → Nat
 | 0 => 0
 | n + 1 => 4 * MB n + 40
theorem Pc {m : Nat} : ∀ d : Nat, MB m ≤ MB (m + d)
 | 0 => Tv _
 | d + 1 => by have := Pc (m := m) d; show _ ≤ 4 * MB (m + d) + 40; lia
noncomputable abbrev Hb := Kn → Res (Kn × List Tk)
inductive RT : Row → List Tk → Hb → Prop
 | use {r : Row} {ks : List Tk} (hh : r.head = []) (hnd : PG none ks = true) (hl : ∀ k, ks.getLast? = some k → k.p ≠ tDol) (hn : Av (ks.map (·.p)) = true) (hs : ks.length ≤ 40) (hd : E2 ks ≤ 4) : RT r ks fun kn => (Ad kn ks).bind fun o => .ok (kn, o)
 | dfn {c : Nat} {d s e z : Tk} {V rest : List Tk} {cl : List PT} (hd : d.p = wDef) (hs1 : s.p.1 ∈ [Ac, Ap]) (hs : s.p.2 = [c]) (he : e.p ∈ [Gg, En]) (hN : Av (V.map (·.p)) = true) (hbal : Mn 0 (V.map (·.p)) = some 0) (hz : z.p.1 = CC ∨ z.p.1 = BH ∨ z.p = tR)
   (hV : V.length ≤ 30) (hdl : E2 V ≤ 4) (hcl : ∀ p ∈ cl, p ∈ A5) (hr : rest.length ≤ 2) (hq : ∀ k ∈ z :: rest, k.p ≠ tDol ∧ k.p ≠ wDef) (hkeep : (z :: rest).filter (keep cl) = if z.p.1 = BH then rest else z :: rest) :
   RT ⟨[wDef, s.p, e.p], V.map (·.p), cl⟩ (d :: s :: e :: (V ++ z :: rest)) fun kn => (FG kn c s e z V).bind fun o => .ok (kn ++ [(c, o)], (z :: rest).filter (keep cl))
noncomputable def Q9 (p : PT) : Prop := p.1 = BH ∨ p = tL ∨ p = tR
inductive RTs : List Row → List (List Tk) → List Hb → Prop
 | last {r ks f} (h : RT r ks f) : RTs [r] [ks] [f]
 | cons {r ks f rs kss fs} (h : RT r ks f) (hb : ∀ k, ks.getLast? = some k → Q9 k.p) (t : RTs rs kss fs) : RTs (r :: rs) (ks :: kss) (f :: fs)
noncomputable def C5 : List Hb → Kn → List Tk → Res (List Tk)
 | [], _, out => .ok out
 | f :: fs, kn, out => (f kn).bind fun p => C5 fs p.1 (out ++ p.2)
theorem PI {kn : Kn} {c c' : Nat} {o : List Tk} : lk (kn ++ [(c, o)]) c' = (lk kn c').or (if c = c' then some o else none) := by
 unfold lk
 rw [List.find?_append]
 cases kn.find? fun e => decide (e.1 = c') with
 | some e => rfl
 | none =>
  by_cases h : c = c'
  ·rw [Tl h]; simp [h]
  ·rw [Tm h]; simp [h]
theorem J7 {kn : Kn} {B C c : Nat} {o : List Tk} (h : EK kn B) (hB : B ≤ C) (ho : o.length ≤ C) : EK (kn ++ [(c, o)]) C := fun c' v hv => by
 rw [PI] at hv
 cases hl : lk kn c' with
 | some w => rw [hl] at hv; cases hv; exact T2 (h c' _ hl) hB
 | none =>
  rw [hl] at hv
  by_cases hc : c = c'
  ·rw [Tl hc] at hv; cases hv; exact ho
  ·rw [Tm hc] at hv; cases hv
theorem Pn {pv : Option Tk} {ks : List Tk} (h : PG none ks = true) : PG pv ks = true := by
 cases ks with
 | nil => rfl
 | cons k r =>
  unfold PG at h ⊢
  refine xA (T5.mp h) fun h1 h2 => ?_
  refine T5.mpr ⟨?_, h2⟩
  unfold Ek at h1 ⊢
  have : decide (k.p = wDef) = false := by revert h1; cases decide (k.p = wDef) <;> simp
  rw [this]; rfl
theorem JA (kn : Kn) (c : Nat) (s e z : Tk) (V : List Tk) : (∃ x, FG kn c s e z V = .exc x) ∨ FG kn c s e z V = Ad kn V := by
 unfold FG
 split
 ·exact .inl ⟨_, rfl⟩
 split
 ·exact .inl ⟨_, rfl⟩
 split
 ·exact .inl ⟨_, rfl⟩
 split
 ·exact .inl ⟨_, rfl⟩
 exact .inr rfl
theorem Pa {n : Nat} (h : n ≤ 4) (B : Nat) : n * (B + 2) ≤ 4 * (B + 2) := Nat.mul_le_mul_right _ h
noncomputable def Gd (kn : Kn) (r : Row) (m : Nat) : Res (Kn × List Tk) → Prop
 | .ok p => EK p.1 (MB (m + dn r)) ∧ p.1.length = kn.length + dn r ∧ p.2.length ≤ 40 + 4 * (MB m + 2)
 | .exc _ => True
 | .fail => False
theorem RT.ok {r : Row} {ks : List Tk} {f : Hb} (h : RT r ks f) {kn : Kn} {m : Nat} (hk : EK kn (MB m)) : Gd kn r m (f kn) := by
 cases h with
 | use hh hnd hl hn hs hd =>
  have hf := EM (kn := kn) ks.length ks (Tv _)
  have hL := fun o => EJ (o := o) hk ks.length ks
  have hd' := Pa hd (MB m)
  have h0 : dn r = 0 := Tl hh
  show Gd kn r m ((Ad kn ks).bind fun o => .ok (kn, o))
  revert hf hL
  cases Ad kn ks with
  | fail => exact fun z _ => absurd rfl z
  | exc x => exact fun _ _ => trivial
  | ok o =>
   intro _ hL
   have := hL o (Tv _) rfl
   refine (KB ?_ ?_ ?_)
   ·rw [h0]; exact hk
   ·rw [h0]; rfl
   ·show o.length ≤ _; lia
 | @dfn c d s e z V rest cl hd hs1 hs he hN hbal hz hV hdl hcl hr hq hkeep =>
  rcases JA kn c s e z V with ⟨x, h⟩ | h
  ·show Gd kn _ m ((FG kn c s e z V).bind _); rw [h]; trivial
  ·show Gd kn _ m ((FG kn c s e z V).bind _); rw [h]
   have hf := EM (kn := kn) V.length V (Tv _)
   have hL := fun o => EJ (o := o) hk V.length V
   have hd' := Pa hdl (MB m)
   revert hf hL
   cases Ad kn V with
   | fail => exact fun z _ => absurd rfl z
   | exc x => exact fun _ _ => trivial
   | ok o =>
    intro _ hL
    have := hL o (Tv _) rfl
    have hb : MB (m + 1) = 4 * MB m + 40 := rfl
    refine (KB (J7 (C := MB (m + 1)) hk (by lia) (by lia)) (by show (kn ++ [(c, o)]).length = kn.length + 1; simp) ?_)
    have := List.length_filter_le (keep cl) (z :: rest)
    simp only [Ts] at this
    show ((z :: rest).filter (keep cl)).length ≤ _; lia
theorem Lm {kn : Kn} : ∀ {ks : List Tk}, (∀ k ∈ ks, k.p ≠ tDol ∧ k.p ≠ wDef) → Ad kn ks = .ok ks
 | [], _ => rfl
 | k :: r, h => by rw [Er (h k (Ty ..)).1, Lm fun q hq => h q (Tx _ hq)]; rfl
theorem QL : ∀ {ks : List Tk} {pv : Option Tk}, (∀ k ∈ ks, k.p ≠ tDol ∧ k.p ≠ wDef) → PG pv ks = true
 | [], _, _ => rfl
 | k :: r, pv, h => by
  unfold PG
  rw [QL fun q hq => h q (Tx _ hq), Bool.and_true]
  unfold Ek
  rw [Tq (h k (Ty ..)).2]; rfl
theorem Jg : ∀ {ks : List Tk}, (∀ k ∈ ks, k.p ≠ tDol ∧ k.p ≠ wDef) → Av (ks.map (·.p)) = true
 | [], _ => rfl
 | [_], _ => rfl
 | k :: n :: r, h => by
  rw [T1, T1]
  unfold Av
  have := Jg (ks := n :: r) fun q hq => h q (Tx _ hq)
  rw [T1] at this
  rw [this, Bool.and_true]
  have : (k.p != tDol) = true := bne_iff_ne.mpr (h k (Ty ..)).1
  rw [this]; rfl
theorem N1 {ks : List Tk} (h : ∀ k ∈ ks, k.p ≠ tDol ∧ k.p ≠ wDef) : E2 ks = 0 := by
 unfold E2
 rw [List.filter_eq_nil_iff.mpr fun k hk => by simpa using (h k hk).1]; rfl
noncomputable def MK (TT : List Tk) (out : List Tk) (e n : Nat) (o : Res (Fl × Loc)) : Res (Kn × List Tk) → Prop
 | .ok p => ∃ j v4 v5 v6, n < j ∧ o = Ao Bw BE j (ex TT e p.1 (out ++ p.2) v4 v5 v6)
 | .exc x => o = .exc x
 | .fail => False
section
variable {TT : List Tk} {kn : Kn} {B : Nat}
theorem P3 (hl : TT.length ≤ sizeLine) (hP : ∀ k ∈ TT, k.p ∈ A5) (hT : ∀ n, n < TT.length → ∃ k ∈ TT.drop n, k.p.1 = CC) {r : Row} {ks rest : List Tk} {f : Hb} (h : RT r ks f) (hB : EK kn B) (hk : kn.length ≤ 1000) (hb2 : 30 * (B + 3) + 3 ≤ sizeLine)
  {a j : Nat} {out : List Tk} {u4 u5 u6 : Option W} (hd : TT.drop a = ks ++ rest) (hb : ∀ k, Dl TT a = some k → Q9 k.p) (hs : out.length + 10 * B + 200 ≤ sizeLine) (hj : rest.length + ks.length < j) :
  MK TT out (a + ks.length) rest.length (Ao Bw BE j (ex TT a kn out u4 u5 u6)) (f kn) := by
 cases h with
 | use hh hnd hla hn hs' hdl =>
  have hd' := Pa hdl B
  have := Hz hl hP hB ks.length ks rest a u4 u5 u6 out j (Tv _) hd (Pn hnd) hla hn (by lia) hj
  revert this
  show Iq _ _ _ _ _ _ (Ad kn ks) → MK _ _ _ _ _ ((Ad kn ks).bind fun o => .ok (kn, o))
  cases Ad kn ks with
  | fail => exact id
  | exc x => exact id
  | ok o => exact id
 | @dfn c d s e z V tl cl hdd hs1 hs0 he hN hbal hz hV hdl hcl hr hq hkeep =>
  have hdef : Ek (Dl TT a) d = true := by
   unfold Ek
   rw [Tp hdd, Bool.true_and]
   cases hp : Dl TT a with
   | none => rfl
   | some k =>
    show (decide (k.p.1 = BH) || (decide (k.p = tL) || decide (k.p = tR))) = true
    rcases hb k hp with q | q | q
    ·rw [Tp q]; rfl
    ·rw [Tp q, Bool.true_or, Bool.or_true]
    ·rw [Tp q, Bool.or_true, Bool.or_true]
  have hd2 : TT.drop a = d :: s :: e :: (V ++ z :: (tl ++ rest)) := by rw [hd]; simp
  have hlen : TT.length = a + 3 + V.length + 1 + tl.length + rest.length := by have := congrArg List.length hd2; simp at this; lia
  have hVl : V.length * (B + 3) ≤ 30 * (B + 3) := Nat.mul_le_mul_right _ hV
  have step := O3 hl hP hB hd2 hdef hs0 hN hbal hz (hT _ (by lia)) (by lia) hk out u4 u5 u6
  simp only [Ts, Tw] at hj ⊢
  obtain ⟨j, rfl⟩ : ∃ i, j = i + 1 := ⟨j - 1, by lia⟩
  have ht := LP (kn := kn) hl a out u4 u5 u6
  rw [Tp (by lia)] at ht
  revert step
  show OO _ _ _ _ _ _ (FG kn c s e z V) → MK _ _ _ _ _ ((FG kn c s e z V).bind fun o => .ok (kn ++ [(c, o)], (z :: tl).filter (keep cl)))
  have hcs := JA kn c s e z V
  have hfl := fun o => EJ (o := o) hB V.length V (Tv _)
  have hd' := Pa hdl B
  generalize FG kn c s e z V = dp at hcs ⊢
  cases dp with
  | fail => exact id
  | exc x => exact fun step => DQ j ht step
  | ok o =>
   rintro ⟨v4, v5, v6, step⟩
   rw [hkeep]
   have ho : o.length ≤ 4 * B + 38 := by
    rcases hcs with ⟨x, hx⟩ | hx
    ·cases hx
    ·have := hfl o hx.symm; lia
   have go := whileM_go j ht step (.inl rfl)
   by_cases q : z.p.1 = BH
   ·rw [Tl q] at go ⊢
    have hdt : TT.drop (a + 3 + V.length + 1) = tl ++ rest := by
     rw [show a + 3 + V.length + 1 = a + (3 + (V.length + 1)) by lia, ← T9, hd2, ← T9]
     show List.drop (V.length + 1) (V ++ z :: (tl ++ rest)) = _
     rw [← T9, List.drop_left]; rfl
    have hq' : ∀ k ∈ tl, k.p ≠ tDol ∧ k.p ≠ wDef := fun k hk => hq k (Tx _ hk)
    have := Hz (B := 4 * B + 38) hl hP (J7 (c := c) hB (by lia) ho) tl.length tl rest (a + 3 + V.length + 1) v4 v5 v6 out j (Tv _) hdt (QL hq') (fun k hk => (hq' k (List.mem_of_getLast? hk)).1) (Jg hq') (by rw [N1 hq']; lia) (by lia)
    rw [Lm hq'] at this
    refine Gc this fun i w4 w5 w6 h1 h2 => ?_; clear this
    refine (H2 i w4 w5 w6 h1 (go.trans (h2.trans ?_)))
    rw [show a + 3 + V.length + 1 + tl.length = a + (V.length + (tl.length + 1) + 1 + 1 + 1) by lia]
   ·rw [Tm q] at go ⊢
    have hdt : TT.drop (a + 3 + V.length + 0) = (z :: tl) ++ rest := by
     rw [show a + 3 + V.length + 0 = a + (3 + V.length) by lia, ← T9, hd2, ← T9]
     show List.drop V.length (V ++ z :: (tl ++ rest)) = _
     rw [List.drop_left]; rfl
    have := Hz (B := 4 * B + 38) hl hP (J7 (c := c) hB (by lia) ho) (z :: tl).length (z :: tl) rest (a + 3 + V.length + 0) v4 v5 v6 out j (Tv _) hdt (QL hq) (fun k hk => (hq k (List.mem_of_getLast? hk)).1) (Jg hq) (by rw [N1 hq]; simp only [Ts]; lia) (by simp only [Ts]; lia)
    rw [Lm hq] at this
    refine Gc this fun i w4 w5 w6 h1 h2 => ?_; clear this
    refine (H2 i w4 w5 w6 h1 (go.trans (h2.trans ?_)))
    rw [show a + 3 + V.length + 0 + (z :: tl).length = a + (V.length + (tl.length + 1) + 1 + 1 + 1) by simp only [Ts]; lia]
end
end Mine
namespace Mine
noncomputable def SO (TT : List Tk) (o : Res (Fl × Loc)) : Res (List Tk) → Prop
 | .ok ts => ∃ kn v4 v5 v6, o = .ok (.next, ex TT TT.length kn ts v4 v5 v6)
 | .exc x => o = .exc x
 | .fail => False
noncomputable def KI : Nat := 40 + 4 * (218440 + 2)
theorem Sp {m : Nat} (h : m ≤ 7) : MB m ≤ 218440 := by
 have := Pc (m := m) (7 - m)
 rw [show m + (7 - m) = 7 by exact Nat.add_sub_cancel' (by assumption), show MB 7 = 218440 from rfl] at this; exact this
theorem HC {kn : Kn} {m : Nat} (h : EK kn (MB m)) (hm : m ≤ 7) : EK kn 218440 := fun c v hv => T2 (h c v hv) (Sp hm)
section
variable {TT : List Tk}
theorem RN (hl : TT.length ≤ sizeLine) (hP : ∀ k ∈ TT, k.p ∈ A5) (hT : ∀ n, n < TT.length → ∃ k ∈ TT.drop n, k.p.1 = CC) {rs : List Row} {kss : List (List Tk)} {fs : List Hb} (h : RTs rs kss fs) : ∀ {kn : Kn} {m a j : Nat} {out : List Tk} {u4 u5 u6 : Option W},
  EK kn (MB m) → kn.length = m → m + KC rs ≤ 7 → TT.drop a = kss.flatten → a ≤ TT.length → (∀ k, Dl TT a = some k → Q9 k.p) → out.length + rs.length * KI + 3000000 ≤ sizeLine → kss.flatten.length < j →
  SO TT (Ao Bw BE j (ex TT a kn out u4 u5 u6)) (C5 fs kn out) := by
 have hz := szl
 induction h with
 | @last r ks f h =>
  intro kn m a j out u4 u5 u6 hk hm hd hda ha hb hs hj
  rw [DB] at hd
  have hm7 : m ≤ 7 := by exact T2 (T3 _ _) (by assumption)
  rw [UO] at hda hj
  simp only [List.flatten_nil, UD, Ts, List.length_nil] at hda hj hs
  have := P3 hl hP hT h (HC hk hm7) (by lia) (by decide) (rest := []) (j := j) (out := out) (u4 := u4) (u5 := u5) (u6 := u6) (by rw [UD]; exact hda) hb (by lia) (by simpa using hj)
  have ok := h.ok hk
  have hlen : a + ks.length = TT.length := by have := congrArg List.length hda; simp at this; lia
  revert this ok
  show MK _ _ _ _ _ (f kn) → Gd _ _ _ (f kn) → SO _ _ ((f kn).bind fun p => C5 [] p.1 (out ++ p.2))
  cases f kn with
  | fail => exact fun z => z.elim
  | exc x => exact fun z _ => z
  | ok p =>
   intro y1_ _; refine Gc y1_ fun i v4 v5 v6 h1 h2 => ?_; clear y1_
   obtain ⟨i, rfl⟩ : ∃ q, i = q + 1 := ⟨i - 1, by simp at h1; lia⟩
   refine (S8 p.1 v4 v5 v6 (h2.trans ?_))
   rw [hlen]
   have ht := LP (kn := p.1) hl TT.length (out ++ p.2) v4 v5 v6
   rw [Tq (by lia)] at ht
   exact whileM_stop i ht
 | @cons r ks f rs kss fs h hlb t ih =>
  intro kn m a j out u4 u5 u6 hk hm hd hda ha hb hs hj
  rw [DB] at hd
  have hm7 : m ≤ 7 := by exact T2 (T3 _ _) (by assumption)
  rw [UO] at hda hj
  rw [Tw] at hj
  rw [Ts, Nat.succ_mul] at hs
  have hbig : KI = 873808 := rfl
  have := P3 hl hP hT h (HC hk hm7) (by omega) (by omega) (rest := kss.flatten) (j := j) (out := out) (u4 := u4) (u5 := u5) (u6 := u6) hda hb (by omega) (by omega)
  have ok := h.ok hk
  have hlen : a + ks.length + kss.flatten.length = TT.length := by have := congrArg List.length hda; simp only [List.length_drop, Tw] at this; lia
  have hda2 : TT.drop (a + ks.length) = kss.flatten := by rw [← T9, hda, List.drop_left]
  have hb2 : ∀ k, Dl TT (a + ks.length) = some k → Q9 k.p := by
   intro k hk
   cases hks : ks.getLast? with
   | none =>
    have : ks = [] := List.getLast?_eq_none_iff.mp hks
    subst this
    exact hb k hk
   | some q =>
    have hq : TT.drop a = ks ++ kss.flatten := hda
    refine xE (List.getLast?_eq_some_iff.mp hks) fun i hi => ?_
    have hp : Dl TT (a + ks.length) = some q := by
     rw [show a + ks.length = (a + i.length) + 1 by rw [hi]; simp; lia]
     refine Hx (r := kss.flatten) ?_
     rw [← T9, hq, hi, Tz, List.drop_left]; rfl
    rw [hp] at hk; cases hk
    exact hlb _ hks
  revert this ok
  show MK _ _ _ _ _ (f kn) → Gd _ _ _ (f kn) → SO _ _ ((f kn).bind fun p => C5 fs p.1 (out ++ p.2))
  cases f kn with
  | fail => exact fun z => z.elim
  | exc x => exact fun z _ => z
  | ok p =>
   intro y1_ y2_; refine Gc y1_ fun i v4 v5 v6 h1 h2 => ?_; clear y1_; refine Ku y2_ fun o1 o2 o3 => ?_; clear y2_
   have hb7 := Sp hm7
   rw [h2]
   exact ih o1 (by omega) (by omega) hda2 (by omega) hb2 (by rw [Tw]; omega) h1
theorem Rb (hl : TT.length ≤ 100000) (hP : ∀ k ∈ TT, k.p ∈ A5) (hT : ∀ n, n < TT.length → ∃ k ∈ TT.drop n, k.p.1 = CC) {rs : List Row} {kss : List (List Tk)} {fs : List Hb} (h : RTs rs kss fs) (hd : KC rs ≤ 7) (hn : rs.length ≤ 13) (ht : TT = kss.flatten) :
  (AN f_expand names_expand 1 [.d (BY TT)]).bind Bb = match C5 fs [] [] with | .ok ts => .ok (BY ts) | .exc x => .exc x | .fail => .fail := by
 have hz := szl
 have hn' : rs.length * KI ≤ 13 * KI := Nat.mul_le_mul_right _ hn
 have hbig : KI = 873808 := rfl
 have hx := RN (by omega) hP hT h (kn := []) (m := 0) (a := 0) (j := TT.length + 2) (out := []) (u4 := none) (u5 := none) (u6 := none) (fun c v hv => by cases hv) rfl (by omega) (by rw [← ht]; rfl) (UG _) (fun k hk => by cases hk) (by simp only [List.length_nil]; omega) (by rw [← ht]; omega)
 have e0 : ∀ r, AK (fun l => Ao Bw BE (B5 0 l) l) IM (ex TT 0 [] [] none none none) = r → f_expand (CH names_expand [.d (BY TT)] []) = r := fun r e => (seq_next rfl).trans ((seq_next rfl).trans ((seq_next rfl).trans e))
 have hfu : B5 0 (ex TT 0 [] [] none none none) = TT.length + 2 := by show (TT.map tkD).length + 2 = _; rw [Tu]
 revert hx
 cases C5 fs [] [] with
 | fail => exact fun z => z.elim
 | exc x =>
  intro z
  have z : Ao Bw BE (TT.length + 2) (ex TT 0 [] [] none none none) = .exc x := z
  rw [callF_exc (k := 1) (e0 _ (seq_exc (by show Ao _ _ (B5 0 _) _ = _; rw [hfu]; exact z))) rfl]; rfl
 | ok ts =>
  intro y1_; obtain ⟨kn, v4, v5, v6, z⟩ := y1_
  rw [callF_ret (k := 1) (e0 _ ((seq_next (by show Ao _ _ (B5 0 _) _ = _; rw [hfu]; exact z)).trans (seq_ret rfl))) rfl]; rfl
end
end Mine
namespace Mine
noncomputable def SN (rs : List Row) (kss : List (List Tk)) : List D := (((rs.map A1).zip (kss.map BY)).map fun p => [p.1, p.2]).map .tuple
noncomputable def SD : D → Loc → Res Loc := Ea (Az (fun d l => .ok (l.setv 4 (.d d))) (Az (fun d l => .ok (l.setv 5 (.d d))) DE)) 2
noncomputable def RM (RD MD : D) (o : Res (Fl × Loc)) : Res (List Tk) → Prop
 | .ok ts => ∃ kn u4 u5 u6 u7 u8 u9 u10, o = .ok (.next, du RD MD kn ts u4 u5 u6 u7 u8 u9 u10)
 | .exc x => ∃ l, o = .ok (.ret (.val (F7 x)), l)
 | .fail => False
section
variable {RD MD : D}
theorem OD {r : Row} {ks : List Tk} {f : Hb} (h : RT r ks f) (hP : ∀ k ∈ ks, k.p ∈ A5) {kn : Kn} {B : Nat} (hB : EK kn B) (hk : kn.length ≤ 1000) {out : List Tk} (hs1 : 40 * B + 300 ≤ sizeLine) (hs : out.length + 4 * B + 300 ≤ sizeLine) {u6 u7 u8 u9 u10 : Option W} :
  Fo RD MD out (BP (du RD MD kn out (some (.d (A1 r))) (some (.d (BY ks))) u6 u7 u8 u9 u10)) (f kn) := by
 cases h with
 | use hh hnd hla hn hs' hdl =>
  have hd' := Pa hdl B
  have h40 : ks.length * (B + 3) ≤ 40 * (B + 3) := Nat.mul_le_mul_right _ hs'
  exact Q8 hP hB hn (by lia) (by lia) hh
 | @dfn c d s e z V tl cl hdd hs1 hs0 he hN hbal hz hV hdl hcl hr hq hkeep =>
  have hVl : V.length * (B + 3) ≤ 30 * (B + 3) := Nat.mul_le_mul_right _ hV
  exact RZ hP hB hcl hs1 hs0 he hN (by lia) (by lia) hk
theorem Ps {rs : List Row} {kss : List (List Tk)} {fs : List Hb} (h : RTs rs kss fs) : ∀ {kn : Kn} {m : Nat} {out : List Tk} {u4 u5 u6 u7 u8 u9 u10 : Option W},
  (∀ ks ∈ kss, ∀ k ∈ ks, k.p ∈ A5) → EK kn (MB m) → kn.length = m → m + KC rs ≤ 7 → out.length + rs.length * KI ≤ 13 * KI →
  RM RD MD (BW SD BP (SN rs kss) (du RD MD kn out u4 u5 u6 u7 u8 u9 u10)) (C5 fs kn out) := by
 have hz := szl
 have hbig : KI = 873808 := rfl
 induction h with
 | @last r ks f h =>
  intro kn m out u4 u5 u6 u7 u8 u9 u10 hP hk hm hd hs
  rw [DB] at hd
  have hm7 : m ≤ 7 := by exact T2 (T3 _ _) (by assumption)
  have := OD (RD := RD) (MD := MD) h (hP ks (Ty ..)) (HC hk hm7) (by lia) (out := out) (u6 := u6) (u7 := u7) (u8 := u8) (u9 := u9) (u10 := u10) (by decide)
  have := this (by simp only [Ts, List.length_nil] at hs; lia)
  revert this
  show Fo _ _ _ _ (f kn) → RM _ _ _ ((f kn).bind fun p => C5 [] p.1 (out ++ p.2))
  cases f kn with
  | fail => exact fun z => z.elim
  | exc x => intro y1_; refine xE y1_ fun l z => ?_; clear y1_; exact ⟨l, HQ rfl z⟩
  | ok p =>
   intro y1_; obtain ⟨g, v4, v5, v6, v7, v8, v9, v10, q, z⟩ := y1_
   refine ⟨p.1, v4, v5, v6, v7, v8, v9, v10, ?_⟩
   rcases q with rfl | rfl
   ·exact (for_next rfl z).trans rfl
   ·exact (M9 rfl z).trans rfl
 | @cons r ks f rs kss fs h hlb t ih =>
  intro kn m out u4 u5 u6 u7 u8 u9 u10 hP hk hm hd hs
  rw [DB] at hd
  have hm7 : m ≤ 7 := by exact T2 (T3 _ _) (by assumption)
  rw [Ts, Nat.succ_mul] at hs
  have := OD (RD := RD) (MD := MD) h (hP ks (Ty ..)) (HC hk hm7) (by omega) (out := out) (u6 := u6) (u7 := u7) (u8 := u8) (u9 := u9) (u10 := u10) (by omega) (by omega)
  have ok := h.ok hk
  revert this ok
  show Fo _ _ _ _ (f kn) → Gd _ _ _ (f kn) → RM _ _ _ ((f kn).bind fun p => C5 fs p.1 (out ++ p.2))
  cases f kn with
  | fail => exact fun z => z.elim
  | exc x => intro y1_ _; refine xE y1_ fun l z => ?_; clear y1_; exact ⟨l, HQ rfl z⟩
  | ok p =>
   intro y1_ y2_; obtain ⟨g, v4, v5, v6, v7, v8, v9, v10, q, z⟩ := y1_; refine Ku y2_ fun o1 o2 o3 => ?_; clear y2_
   have hb7 := Sp hm7
   have := ih (kn := p.1) (out := out ++ p.2) (u4 := v4) (u5 := v5) (u6 := v6) (u7 := v7) (u8 := v8) (u9 := v9) (u10 := v10) (fun ks hk => hP ks (Tx _ hk)) o1 (by omega) (by omega) (by rw [Tw]; omega)
   show RM _ _ _ (C5 fs p.1 (out ++ p.2))
   have e : BW SD BP (SN (r :: rs) (ks :: kss)) (du RD MD kn out u4 u5 u6 u7 u8 u9 u10) = BW SD BP (SN rs kss) (du RD MD p.1 (out ++ p.2) v4 v5 v6 v7 v8 v9 v10) := by
    rcases q with rfl | rfl
    ·exact for_next rfl z
    ·exact M9 rfl z
   rw [e]; exact this
end
theorem PS {rs : List Row} {kss : List (List Tk)} {fs : List Hb} (h : RTs rs kss fs) (hP : ∀ ks ∈ kss, ∀ k ∈ ks, k.p ∈ A5) (hd : KC rs ≤ 7) (hn : rs.length ≤ 13) :
  (AN Ct BU 2 [.d (.list (rs.map A1)), .d (.list (kss.map BY))]).bind Bb = match C5 fs [] [] with | .ok ts => .ok (BY ts) | .exc x => .ok (F7 x) | .fail => .fail := by
 have hn' : rs.length * KI ≤ 13 * KI := Nat.mul_le_mul_right _ hn
 have hx := Ps (RD := .list (rs.map A1)) (MD := .list (kss.map BY)) h (kn := []) (m := 0) (out := []) (u4 := none) (u5 := none) (u6 := none) (u7 := none) (u8 := none) (u9 := none) (u10 := none) hP (fun c v hv => by cases hv) rfl (by omega) (by simpa using hn')
 revert hx
 cases C5 fs [] [] with
 | fail => exact fun z => z.elim
 | exc x =>
  intro y1_; refine xE y1_ fun l z => ?_; clear y1_
  have : AN Ct BU 2 [.d (.list (rs.map A1)), .d (.list (kss.map BY))] = .ok (.ret (.val (F7 x))) := by
   refine callF_ret (l' := l) ?_ rfl
   refine (seq_next rfl).trans ?_
   refine (seq_next rfl).trans ?_
   exact seq_ret z
  rw [this]; rfl
 | ok ts =>
  intro y1_; obtain ⟨kn, v4, v5, v6, v7, v8, v9, v10, z⟩ := y1_
  have : AN Ct BU 2 [.d (.list (rs.map A1)), .d (.list (kss.map BY))] = .ok (.ret (.fr (ts.map tkD))) := by
   obtain ⟨l', e⟩ : ∃ l', Hi (du (.list (rs.map A1)) (.list (kss.map BY)) kn ts v4 v5 v6 v7 v8 v9 v10) = .ok (.ret (.fr (ts.map tkD)), l') := ⟨_, seq_ret rfl⟩
   refine callF_ret (l' := l') ?_ rfl
   refine (seq_next rfl).trans ?_
   refine (seq_next rfl).trans ?_
   exact Eq.trans (seq_next z) e
  rw [this]; rfl
end Mine
namespace Mine
noncomputable def QW : PT := (CC, [])
noncomputable def P2 (pv : Option PT) (p : PT) : Bool := decide (p = wDef) && (match pv with | none => true | some a => decide (a.1 = BH) || (decide (a = tL) || decide (a = tR)))
noncomputable def OW : Option PT → List PT → Bool
 | _, [] => true
 | pv, p :: r => !P2 pv p && OW (some p) r
theorem Ru : ∀ (ks : List Tk) (pv : Option Tk), PG pv ks = OW (pv.map (·.p)) (ks.map (·.p))
 | [], _ => rfl
 | k :: r, pv => by
  rw [T1]; unfold PG OW
  rw [Ru r (some k)]
  cases pv <;> rfl
theorem PZ {pv : Option PT} {l : List PT} (h : OW none l = true) : OW pv l = true := by
 cases l with
 | nil => rfl
 | cons k r =>
  unfold OW at h ⊢
  refine xA (T5.mp h) fun h1 h2 => ?_
  refine T5.mpr ⟨?_, h2⟩
  unfold P2 at h1 ⊢
  have : decide (k = wDef) = false := by revert h1; cases decide (k = wDef) <;> simp
  rw [this]; rfl
theorem Pt : ∀ {a : List PT} {pv : Option PT} {b : List PT}, OW pv a = true → OW none b = true → OW pv (a ++ b) = true
 | [], pv, b, _, hb => PZ hb
 | p :: a, pv, b, ha, hb => by
  unfold OW at ha
  refine xA (T5.mp ha) fun h1 h2 => ?_
  rw [List.cons_append]; unfold OW
  rw [h1, Pt h2 hb]; rfl
theorem P6 : ∀ {a b : List PT}, Av a = true → Av b = true → (∀ p, a.getLast? = some p → p ≠ tDol) → Av (a ++ b) = true
 | [], b, _, hb, _ => hb
 | [k], b, _, hb, hl => by
  cases b with
  | nil => rfl
  | cons n r =>
   show Av (k :: n :: r) = true
   unfold Av
   have : (k != tDol) = true := bne_iff_ne.mpr (hl k rfl)
   rw [this, hb]; rfl
 | k :: n :: a, b, ha, hb, hl => by
  show Av (k :: n :: (a ++ b)) = true
  unfold Av at ha ⊢
  refine xA (T5.mp ha) fun h1 h2 => ?_
  have := P6 (a := n :: a) h2 hb fun p hp => hl p hp
  rw [h1]; exact this
theorem Ix : ∀ {a b : List PT} {d e : Nat}, Mn d a = some e → Mn d (a ++ b) = Mn e b
 | [], b, d, e, h => by cases h; rfl
 | p :: a, b, d, e, h => by
  rw [List.cons_append]; rw [Mn] at h ⊢
  by_cases h1 : p.1 = CC
  ·rw [Tl h1] at h; cases h
  rw [Tm h1] at h ⊢
  by_cases h2 : p.1 = BH ∧ d = 0
  ·rw [Tl h2] at h; cases h
  rw [Tm h2] at h ⊢
  by_cases h3 : p = tL
  ·rw [Tl h3] at h ⊢; exact Ix h
  rw [Tm h3] at h ⊢
  by_cases h4 : p = tR
  ·rw [Tl h4] at h ⊢
   by_cases h5 : d = 0
   ·rw [Tl h5] at h; cases h
   rw [Tm h5] at h ⊢; exact Ix h
  rw [Tm h4] at h ⊢; exact Ix h
noncomputable def PC (ps : List PT) : Nat := (ps.filter fun p => decide (p = tDol)).length
theorem QX (ks : List Tk) : E2 ks = PC (ks.map (·.p)) := by
 unfold E2 PC; rw [List.filter_map, Tu]; rfl
structure Rg (n : Nat) (b : List PT) : Prop where
 nd : OW none b = true
 nm : Av b = true
 ln : b.length ≤ 9 * n + 2
 dl : PC b ≤ n + 1
 al : ∀ p ∈ b, p ∈ A5
theorem K0 : ∀ i ∈ C8, OW none i = true ∧ Av i = true ∧ i.length ≤ 9 ∧ PC i ≤ 1 ∧ (∀ p ∈ i, p ∈ A5) ∧ Mn 0 i = some 0 ∧ i.getLast? ≠ some tDol := by decide +kernel
theorem Rg.items {n : Nat} {b : List PT} (hb : Rg n b) : ∀ its : List (List PT), (∀ i ∈ its, i ∈ C8) → Rg (n + its.length) (its.flatten ++ b)
 | [], _ => hb
 | i :: its, h => by
  refine Lq (K0 i (h i (Ty ..))) fun h1 h2 h3 h4 h5 _ h7 => ?_
  have ih := hb.items its fun i hi => h i (Tx _ hi)
  rw [UO, Tz, Ts]
  refine ⟨Pt h1 ih.nd, P6 h2 ih.nm fun p hp z => h7 (by rw [hp, z]), ?_, ?_, fun p hp => (T8.mp hp).elim (h5 p) (ih.al p)⟩
  ·have := ih.ln; rw [Tw]; lia
  ·have := ih.dl
   unfold PC at *
   rw [List.filter_append, Tw]; lia
theorem Ho : ∀ (its : List (List PT)) (b : List PT), (∀ i ∈ its, i ∈ C8) → Mn 0 (its.flatten ++ b) = Mn 0 b
 | [], _, _ => rfl
 | i :: its, b, h => by
  refine Lq (K0 i (h i (Ty ..))) fun _ _ _ _ _ h6 _ => ?_
  rw [UO, Tz, Ix h6]
  exact Ho its b fun i hi => h i (Tx _ hi)
theorem Rg.up {n m : Nat} {b : List PT} (h : Rg n b) (hm : n ≤ m) : Rg m b := ⟨h.nd, h.nm, by have := h.ln; lia, by have := h.dl; lia, h.al⟩
theorem LD {v b : List PT} (h : NQ v) (h0 : Rg 0 b) (h1 : Rg 0 (tDol :: b)) : Rg 3 (v ++ b) := by
 refine B1 h fun its a1 a2 z3_ => ?_; clear h; obtain rfl | rfl := z3_
 ·exact (h0.items its a1).up (by exact Nat.add_le_add_left (by assumption) _)
 ·rw [Tz]; exact (h1.items its a1).up (by exact Nat.add_le_add_left (by assumption) _)
theorem Qb {v : List PT} (h : NQ v) : Mn 0 v = some 0 := by
 refine B1 h fun its a1 _ z3_ => ?_; clear h; obtain rfl | rfl := z3_
 ·rw [← UD its.flatten, Ho its [] a1]; rfl
 ·rw [Ho its _ a1]; decide +kernel
theorem NE {v : List PT} (h : NQ v) : ∀ p ∈ v, okP p = true := by
 refine B1 h fun its a1 _ h => ?_
 have h0 : ∀ i ∈ C8, ∀ p ∈ i, okP p = true := by decide +kernel
 have h1 : ∀ p ∈ its.flatten, okP p = true := fun p hp => by
  refine BK (List.mem_flatten.mp hp) fun i hi hp => ?_
  exact h0 i (a1 i hi) p hp
 rcases h with rfl | rfl
 ·exact h1
 ·intro p hp
  rcases T8.mp hp with hp | hp
  ·exact h1 p hp
  ·rw [UN.mp hp]; decide +kernel
inductive Shp : Row → Prop
 | use {v : List PT} {cl : List PT} (h1 : Rg 3 (v ++ cl)) (h2 : Rg 3 (v ++ cl.filter (fun p => p.1 != BH) ++ [QW])) (hl : ∀ p, (v ++ cl).getLast? = some p → p ≠ tDol ∧ Q9 p) (hk : ∀ p ∈ v ++ cl, okP p = true) : Shp ⟨[], v, cl⟩
 | dfn {v : List PT} {s : Str} {c : Nat} {e : PT} {cl : List PT} (h1 : Rg 3 v) (hb : Mn 0 v = some 0) (hs : s ∈ [Ac, Ap]) (hc : (s, [c]) ∈ A5) (he : e ∈ [Gg, En]) (hcl : cl ∈ EF) (hk : ∀ p ∈ v, okP p = true) : Shp ⟨[wDef, (s, [c]), e], v, cl⟩
noncomputable instance (n : Nat) (b : List PT) : Decidable (Rg n b) := decidable_of_iff (OW none b = true ∧ Av b = true ∧ b.length ≤ 9 * n + 2 ∧ PC b ≤ n + 1 ∧ ∀ p ∈ b, p ∈ A5) ⟨fun h => ⟨h.1, h.2.1, h.2.2.1, h.2.2.2.1, h.2.2.2.2⟩, fun h => (Rx h.nd h.nm h.ln h.dl h.al)⟩
theorem Good.shp {r : Row} (h : Good r) : Shp r := by
 cases h with
 | @use v e hv he =>
  have h0 : ∀ e ∈ Ov, Rg 0 [e] ∧ Rg 0 [tDol, e] ∧ [e].filter (fun p : PT => p.1 != BH) = [] ∧ e ≠ tDol ∧ e.1 = BH := by decide +kernel
  refine TB (h0 e he) fun a b c d e' => ?_
  refine .use (LD hv a b) ?_ (fun p hp => ?_) fun p hp => ?_
  ·rw [c, UD]; exact LD hv (by decide +kernel) (by decide +kernel)
  ·rw [List.getLast?_append] at hp; cases hp; exact ⟨d, .inl e'⟩
  ·rcases T8.mp hp with hp | hp
   ·exact NE hv p hp
   ·rw [UN.mp hp]; exact (show ∀ e ∈ Ov, okP e = true by decide +kernel) e he
 | opn => exact .use (by decide +kernel) (by decide +kernel) (fun p hp => by cases hp; exact ⟨by decide +kernel, .inr (.inl rfl)⟩) (by decide +kernel)
 | @dfn v s c e cl hv hs hc he hcl =>
  refine .dfn (by simpa using LD hv (b := []) (by decide +kernel) (by decide +kernel)) (Qb hv) hs ?_ he hcl (NE hv)
  have : ∀ s ∈ [Ac, Ap], ∀ c ∈ [97, 98, 99], (s, [c]) ∈ A5 := by decide +kernel
  exact this s hs c hc
theorem Th : Shp rP := .dfn (by decide +kernel) (by decide +kernel) (by simp) (by decide +kernel) (by decide +kernel) (by decide +kernel) (by decide +kernel)
theorem Ti : Shp rQ := .dfn (by decide +kernel) (by decide +kernel) (by simp) (by decide +kernel) (by decide +kernel) (by decide +kernel) (by decide +kernel)
theorem Td : Shp rU := .use (by decide +kernel) (by decide +kernel) (fun p hp => by cases hp; exact ⟨by decide +kernel, .inl rfl⟩) (by decide +kernel)
end Mine
namespace Mine
theorem QU {r : Row} {ks : List Tk} (hh : r.head = []) (h : Rg 3 (ks.map (·.p))) (hl : ∀ p, (ks.map (·.p)).getLast? = some p → p ≠ tDol) : ∃ f, RT r ks f := by
 have hln := h.ln
 rw [Tu] at hln
 exact ⟨_, .use hh (by rw [Ru]; exact h.nd) (fun k hk => hl k.p (by rw [List.getLast?_map, hk]; rfl)) h.nm (by lia) (by rw [QX]; have := h.dl; assumption)⟩
noncomputable def Rr (cl : List PT) (p : PT) : Bool := decide (p.1 ≠ BH) || decide (tR ∈ cl)
noncomputable def J0 (cl : List PT) : List PT → Prop
 | [] => False
 | q :: t => (q.1 = CC ∨ q.1 = BH ∨ q = tR) ∧ (∀ p ∈ cl, p ∈ A5) ∧ t.length ≤ 2 ∧ (∀ p ∈ q :: t, p ≠ tDol ∧ p ≠ wDef) ∧ Rr cl q = !decide (q.1 = BH) ∧ ∀ p ∈ t, Rr cl p = true
noncomputable instance (cl t : List PT) : Decidable (J0 cl t) := by cases t <;> (unfold J0; infer_instance)
noncomputable def Se (cl : List PT) : List PT := cl.filter fun p => p.1 != BH
theorem R6 : ∀ cl ∈ EF, J0 cl cl ∧ J0 (Se cl) (Se cl ++ [QW]) ∧ (∀ p ∈ cl, p ∈ A5) := by decide +kernel
theorem Pi {s : Str} {c : Nat} {e : PT} {v cl t : List PT} (hs : s ∈ [Ac, Ap]) (he : e ∈ [Gg, En]) (h : Rg 3 v) (hb : Mn 0 v = some 0) (ht : J0 cl t) {ks : List Tk} (hk : ks.map (·.p) = wDef :: (s, [c]) :: e :: (v ++ t)) : ∃ f, RT ⟨[wDef, (s, [c]), e], v, cl⟩ ks f := by
 cases t with
 | nil => exact ht.elim
 | cons q t =>
  refine NV ht fun t1 t2 t3 t4 t5 t6 => ?_; clear ht
  obtain ⟨d, ks, rfl, hd, hk⟩ := List.map_eq_cons_iff.mp hk
  obtain ⟨s', ks, rfl, hs', hk⟩ := List.map_eq_cons_iff.mp hk
  obtain ⟨e', ks, rfl, he', hk⟩ := List.map_eq_cons_iff.mp hk
  obtain ⟨V, ks, rfl, hV, hk⟩ := List.map_eq_append_iff.mp hk
  refine GB (List.map_eq_cons_iff.mp hk) fun z tl z2_ hz hk5 => ?_; obtain rfl := z2_
  clear hk
  subst hV hz hk5 he'
  have hsp : s'.p.1 = s := by rw [hs']
  have hln := h.ln
  rw [Tu] at hln t3
  have r : RT ⟨[wDef, s'.p, e'.p], V.map (·.p), cl⟩ (d :: s' :: e' :: (V ++ z :: tl)) fun kn => (FG kn c s' e' z V).bind fun o => .ok (kn ++ [(c, o)], (z :: tl).filter (keep cl)) := by
   refine .dfn (c := c) hd (by rw [hsp]; exact hs) (by rw [hs']) he h.nm hb t1 (by lia) (by rw [QX]; have := h.dl; assumption) t2 t3 (fun k hk => ?_) ?_
   ·rcases T0.mp hk with rfl | hk
    ·exact t4 _ (Ty ..)
    ·exact t4 _ (Tx _ (List.mem_map_of_mem hk))
   ·have htl : tl.filter (keep cl) = tl := List.filter_eq_self.mpr fun k hk => t6 _ (List.mem_map_of_mem hk)
    rw [List.filter_cons, htl, show keep cl z = !decide (z.p.1 = BH) from t5]
    by_cases q : z.p.1 = BH
    ·rw [Tl q, Tp q]; rfl
    ·rw [Tm q, Tq q]; rfl
  rw [hs'] at r
  exact ⟨_, r⟩
theorem SJ : ∀ cl ∈ EF, ∀ p, cl.getLast? = some p → Q9 p := by
 have : ∀ cl ∈ EF, ∀ p ∈ cl.getLast?, p.1 = BH ∨ p = tL ∨ p = tR := by decide +kernel
 exact fun cl h p hp => this cl h p hp
theorem Shp.rt {r : Row} (h : Shp r) {ks : List Tk} (hk : ks.map (·.p) = toks r) : (∃ f, RT r ks f) ∧ (∀ k, ks.getLast? = some k → Q9 k.p) ∧ ∀ k ∈ ks, k.p ∈ A5 := by
 have al : (∀ p ∈ toks r, p ∈ A5) → ∀ k ∈ ks, k.p ∈ A5 := fun z k hk' => z _ (by rw [← hk]; exact List.mem_map_of_mem hk')
 have la : (∀ p, (toks r).getLast? = some p → Q9 p) → ∀ k, ks.getLast? = some k → Q9 k.p := fun z k hk' => z _ (by rw [← hk, List.getLast?_map, hk']; rfl)
 cases h with
 | @use v cl h1 h2 hl hkk =>
  have e : toks ⟨[], v, cl⟩ = v ++ cl := rfl
  rw [e] at hk al la
  exact (KB (QU rfl (by rw [hk]; exact h1) (by rw [hk]; exact fun p hp => (hl p hp).1)) (la fun p hp => (hl p hp).2) (al h1.al))
 | @dfn v s c e cl h1 hb hs hc he hcl hkk =>
  have e' : toks ⟨[wDef, (s, [c]), e], v, cl⟩ = wDef :: (s, [c]) :: e :: (v ++ cl) := rfl
  rw [e'] at hk al la
  refine Ku (R6 cl hcl) fun t1 _ t3 => ?_
  refine (KB (Pi hs he h1 hb t1 hk) (la fun p hp => ?_) (al fun p hp => ?_))
  ·refine SJ cl hcl p ?_
   cases cl with
   | nil => exact t1.elim
   | cons q t =>
    rw [show wDef :: (s, [c]) :: e :: (v ++ q :: t) = (wDef :: (s, [c]) :: e :: v) ++ q :: t by simp] at hp
    rw [List.getLast?_append] at hp
    cases hq : (q :: t).getLast? with
    | none => simp at hq
    | some x => rw [hq] at hp; exact hp
  ·have hw : wDef ∈ A5 ∧ Gg ∈ A5 ∧ En ∈ A5 := by decide +kernel
   simp only [T0, T8] at hp
   rcases hp with rfl | rfl | rfl | hp | hp
   ·exact hw.1
   ·exact hc
   ·simp at he; rcases he with rfl | rfl
    ·exact hw.2.1
    ·exact hw.2.2
   ·exact h1.al p hp
   ·exact t3 p hp
theorem Shp.cut {r : Row} (h : Shp r) {ks : List Tk} {z : Tk} (hz : z.p = QW) (hk : ks.map (·.p) = toks (C6 r)) : (∃ f, RT (C6 r) (ks ++ [z]) f) ∧ ∀ k ∈ ks ++ [z], k.p ∈ A5 := by
 have al : (∀ p ∈ toks (C6 r), p ∈ A5) → ∀ k ∈ ks ++ [z], k.p ∈ A5 := fun y k hk' => by
  rcases T8.mp hk' with hk' | hk'
  ·exact y _ (by rw [← hk]; exact List.mem_map_of_mem hk')
  ·rw [UN.mp hk', hz]; decide +kernel
 have hm : (ks ++ [z]).map (·.p) = toks (C6 r) ++ [QW] := by rw [T4, hk, ← hz]; rfl
 cases h with
 | @use v cl h1 h2 hl hkk =>
  have e : toks (C6 ⟨[], v, cl⟩) = v ++ cl.filter (fun p => p.1 != BH) := rfl
  rw [e] at hk al hm
  exact ⟨QU rfl (by rw [hm]; exact h2) (by rw [hm]; exact fun p hp => by rw [List.getLast?_concat] at hp; cases hp; decide +kernel), al fun p hp => h2.al p (List.mem_append_left _ hp)⟩
 | @dfn v s c e cl h1 hb hs hc he hcl hkk =>
  have e' : toks (C6 ⟨[wDef, (s, [c]), e], v, cl⟩) = wDef :: (s, [c]) :: e :: (v ++ Se cl) := rfl
  rw [e'] at hk al hm
  refine Ku (R6 cl hcl) fun _ t2 t3 => ?_
  refine ⟨Pi hs he h1 hb t2 (hm.trans (by simp)), al fun p hp => ?_⟩
  have hw : wDef ∈ A5 ∧ Gg ∈ A5 ∧ En ∈ A5 := by decide +kernel
  simp only [T0, T8] at hp
  rcases hp with rfl | rfl | rfl | hp | hp
  ·exact hw.1
  ·exact hc
  ·simp at he; rcases he with rfl | rfl
   ·exact hw.2.1
   ·exact hw.2.2
  ·exact h1.al p hp
  ·exact t3 p (List.mem_filter.mp hp).1
theorem Shp.okP {r : Row} (h : Shp r) : (∀ p ∈ toks r, okP p = true ∧ p ∈ A5) ∧ (toks r).length ≤ 40 := by
 cases h with
 | @use v cl h1 h2 hl hkk => exact ⟨fun p hp => ⟨hkk p hp, h1.al p hp⟩, by have := h1.ln; show (v ++ cl).length ≤ 40; lia⟩
 | @dfn v s c e cl h1 hb hs hc he hcl hkk =>
  have e' : toks ⟨[wDef, (s, [c]), e], v, cl⟩ = wDef :: (s, [c]) :: e :: (v ++ cl) := rfl
  have hw : (∀ p ∈ [wDef, Gg, En], Mine.okP p = true ∧ p ∈ A5) ∧ (∀ p ∈ A5, p.1 ∈ [Ac, Ap] → Mine.okP p = true) ∧ (∀ cl ∈ EF, (∀ p ∈ cl, Mine.okP p = true ∧ p ∈ A5) ∧ cl.length ≤ 2) := by decide +kernel
  refine Ku hw fun w1 w2 w3 => ?_; clear hw
  refine ⟨fun p hp => ?_, ?_⟩
  ·rw [e'] at hp
   simp only [T0, T8] at hp
   rcases hp with rfl | rfl | rfl | hp | hp
   ·exact w1 _ (by simp)
   ·exact ⟨w2 _ hc hs, hc⟩
   ·exact w1 _ (Tx _ he)
   ·exact ⟨hkk p hp, h1.al p hp⟩
   ·exact (w3 cl hcl).1 p hp
  ·rw [e']
   have := h1.ln
   have := (w3 cl hcl).2
   simp only [Ts, Tw]; lia
theorem PX (r : Row) : (∀ p ∈ toks (C6 r), p ∈ toks r) ∧ (toks (C6 r)).length ≤ (toks r).length := by
 refine ⟨fun p hp => ?_, ?_⟩
 ·unfold toks at hp ⊢
  rcases T8.mp hp with hp | hp
  ·exact List.mem_append_left _ hp
  ·exact List.mem_append_right _ (List.mem_filter.mp hp).1
 ·have := List.length_filter_le (fun p : PT => p.1 != BH) r.closing
  show (r.head ++ r.values ++ r.closing.filter _).length ≤ (r.head ++ r.values ++ r.closing).length
  rw [Tw, Tw (bs := r.closing)]; exact Nat.add_le_add_left (by assumption) _
theorem OP {z : Tk} (hz : z.p = QW) {r : Row} (hr : Shp r) : ∀ (ts : List Row) (mk : List (List Tk)) (k : List Tk), (∀ q ∈ ts, Shp q) → (mk ++ [k]).map (fun ks => ks.map (·.p)) = (ts ++ [C6 r]).map toks →
  (∃ fs, RTs (ts ++ [C6 r]) (mk ++ [k ++ [z]]) fs) ∧ ∀ ks ∈ mk ++ [k ++ [z]], ∀ k ∈ ks, k.p ∈ A5
 | [], mk, k, _, hm => by
  have hl := congrArg List.length hm
  simp at hl
  subst hl
  have hk : k.map (·.p) = toks (C6 r) := by simpa using hm
  refine xA (hr.cut hz hk) fun z0_ h2 => ?_; refine xE z0_ fun f h => ?_; clear z0_
  exact ⟨⟨[f], .last h⟩, fun ks hks => by rw [List.nil_append] at hks; rw [UN.mp hks]; exact h2⟩
 | t :: ts, [], k, _, hm => by
  have hl := congrArg List.length hm
  simp at hl
 | t :: ts, m :: mk, k, ht, hm => by
  rw [List.cons_append, List.cons_append, T1, T1] at hm
  injection hm with hm1 hm2
  refine xA (OP hz hr ts mk k (fun q hq => ht q (Tx _ hq)) hm2) fun z0_ h2 => ?_; refine xE z0_ fun fs h => ?_; clear z0_
  refine Ku ((ht t (Ty ..)).rt hm1) fun z0_ g2 g3 => ?_; refine xE z0_ fun f g1 => ?_; clear z0_
  refine ⟨⟨f :: fs, .cons g1 g2 h⟩, fun ks hks => ?_⟩
  rcases T0.mp hks with rfl | hks
  ·exact g3
  ·exact h2 ks hks
theorem OY : ∀ (ps : List PT) (t : T), (BC t ps).2.map (·.p) = ps
 | [], _ => rfl
 | p :: ps, t => by rw [BC, T1, OY ps]; rfl
theorem Gj : ∀ (rs : List Row) (t : T), (BG t rs).2.map (fun ks => ks.map (·.p)) = rs.map toks
 | [], _ => rfl
 | r :: rs, t => by rw [BG, T1, Gj rs, OY]; rfl
theorem ProgRows.shp {rs : List Row} (h : ProgRows rs) : ∃ ts r, rs = ts ++ [C6 r] ∧ (∀ q ∈ ts ++ [r], Shp q) ∧ KC rs ≤ 7 ∧ rs.length ≤ 13 := by
 refine De h fun gs ts r h1 h2 h3 h4 z7_ => ?_; clear h; obtain rfl := z7_
 have hall : ∀ q ∈ ts ++ [r], Shp q := fun q hq => by
  rw [← h4] at hq
  simp only [T0] at hq
  rcases hq with rfl | rfl | rfl | hq
  ·exact Th
  ·exact Ti
  ·exact Td
  ·exact (h1 q hq).shp
 have hd : KC (ts ++ [C6 r]) = KC (ts ++ [r]) := by rw [Ir, Ir]; rfl
 have hl := congrArg List.length h4
 simp at hl
 refine (Dn ts r rfl hall ?_ (by simp; lia))
 rw [hd, ← h4, DB, DB, DB]
 have : dn rP = 1 ∧ dn rQ = 1 ∧ dn rU = 0 := (KB rfl rfl rfl)
 lia
end Mine
namespace Mine
noncomputable def O7 (s : Str) : Prop := PyData.strOk s = true
theorem D4 {a b : Str} (ha : O7 a) (hb : O7 b) : O7 (a ++ b) := by
 unfold O7 PyData.strOk at *
 show (a.cps ++ b.cps).all _ = true
 rw [Array.all_append, ha, hb]; rfl
theorem OS {l : T} : O7 (S l) ↔ ∀ c ∈ l, c < 1114112 := by unfold O7 PyData.strOk S; simp
structure TkOk (k : Tk) : Prop where
 a : O7 k.p.1
 b : ∀ c ∈ k.p.2, c < 1114112
theorem TkOk.tok {k : Tk} (h : TkOk k) : Kr (tkD k) := NX h.a (OS.mpr h.b)
noncomputable def AllOk (ks : List Tk) : Prop := ∀ k ∈ ks, TkOk k
theorem Qh {k : Tk} (h : k.p ∈ A5) : TkOk k := by
 have : ∀ p ∈ A5, PyData.strOk p.1 = true ∧ ∀ c ∈ p.2, c < 1114112 := by decide +kernel
 exact ⟨(this _ h).1, (this _ h).2⟩
theorem AllOk.app {a b : List Tk} (ha : AllOk a) (hb : AllOk b) : AllOk (a ++ b) := fun k hk => (T8.mp hk).elim (ha k) (hb k)
theorem Is {k : Tk} (h : TkOk k) {w : Str} (hw : O7 w) : O7 (why k w) := by
 refine D4 (D4 (D4 (by decide +kernel : PyData.strOk Qj = true) ?_) (by decide +kernel : PyData.strOk R5 = true)) hw
 unfold tw
 split
 ·show PyData.strOk "end of file" = true; decide +kernel
 split
 ·split
  ·show PyData.strOk "newline" = true; decide +kernel
  ·show PyData.strOk ";" = true; decide +kernel
 ·exact D4 (D4 (by decide +kernel : PyData.strOk kq = true) (OS.mpr h.b)) (by decide +kernel : PyData.strOk kq = true)
theorem Qs {rs : List Row} {kss : List (List Tk)} {fs : List Hb} (h : RTs rs kss fs) : ∀ {kn : Kn} {m : Nat} {out : List Tk}, EK kn (MB m) → C5 fs kn out ≠ .fail := by
 induction h with
 | @last r ks f h =>
  intro kn m out hk
  have ok := h.ok hk
  show ((f kn).bind fun p => C5 [] p.1 (out ++ p.2)) ≠ .fail
  revert ok
  cases f kn with
  | fail => exact fun z => z.elim
  | exc x => exact fun _ z => by cases z
  | ok p => exact fun _ z => by cases z
 | @cons r ks f rs kss fs h hb t ih =>
  intro kn m out hk
  have ok := h.ok hk
  show ((f kn).bind fun p => C5 fs p.1 (out ++ p.2)) ≠ .fail
  revert ok
  cases f kn with
  | fail => exact fun z => z.elim
  | exc x => exact fun _ z => by cases z
  | ok p => exact fun ok => ih ok.1
noncomputable def Ia : Res (List Tk) → Prop
 | .ok o => AllOk o
 | .exc x => O7 x.1
 | .fail => True
noncomputable def LB (kn : Kn) : Prop := ∀ c v, lk kn c = some v → AllOk v
theorem RK {n : Tk} (h : TkOk n) : AllOk (Bc n) := by
 unfold Bc
 split
 ·exact fun k hk => by cases hk
 ·intro k hk
  simp only [T0, List.not_mem_nil, or_false] at hk
  rcases hk with rfl | rfl
  ·exact ⟨(by decide +kernel : PyData.strOk Al = true), (by decide : ∀ c ∈ [58], c < 1114112)⟩
  ·exact ⟨(by decide +kernel : PyData.strOk Ac = true), fun c hc => h.b c (UK hc)⟩
theorem RO {n : Tk} (h : TkOk n) : O7 (Rn (n.p.2.headD 0)) := by
 refine D4 (D4 (by decide +kernel : PyData.strOk _ = true) (OS.mpr fun c hc => ?_)) (by decide +kernel : PyData.strOk kq = true)
 rw [UN.mp hc]
 cases hp : n.p.2 with
 | nil => decide
 | cons a l => exact h.b a (by rw [hp]; exact Ty ..)
theorem I0 {kn : Kn} (hk : LB kn) : ∀ (m : Nat) (ks : List Tk), ks.length ≤ m → AllOk ks → Ia (Ad kn ks)
 | 0, ks, hm, h => by
  have : ks = [] := UY (by lia)
  subst this; exact h
 | m + 1, [], hm, h => h
 | m + 1, k :: r, hm, h => by
  simp only [Ts] at hm
  have hr : AllOk r := fun q hq => h q (Tx _ hq)
  by_cases c : k.p = tDol
  ·cases r with
   | nil => show Ia (if k.p = tDol then _ else _); rw [Tl c]; exact (by decide +kernel : PyData.strOk Og = true)
   | cons n r =>
    have hn : TkOk n := hr n (Ty ..)
    show Ia (if k.p = tDol then _ else _)
    rw [Tl c]
    by_cases c2 : n.p.1 = Ac
    ·rw [Tm (UB c2)]
     cases hl : lk kn (n.p.2.headD 0) with
     | none => exact RO hn
     | some v =>
      have ih := I0 hk m r (by simp only [Ts] at hm; lia) fun q hq => hr q (Tx _ hq)
      show Ia ((Ad kn r).bind fun o => .ok (v ++ Bc n ++ o))
      revert ih
      cases Ad kn r with
      | fail => exact id
      | exc x => exact id
      | ok o => exact fun ih => ((hk _ v hl).app (RK hn)).app ih
    ·rw [Tl c2]; exact Is hn (by decide +kernel : PyData.strOk JB = true)
  ·rw [Er c]
   have ih := I0 hk m r (by exact Nat.le_of_succ_le_succ (by assumption)) hr
   revert ih
   cases Ad kn r with
   | fail => exact id
   | exc x => exact id
   | ok o => exact fun ih q hq => (T0.mp hq).elim (fun z => z ▸ h k (Ty ..)) (ih q)
noncomputable def Nw : Res (Kn × List Tk) → Prop
 | .ok p => LB p.1 ∧ AllOk p.2
 | .exc x => O7 x.1
 | .fail => True
theorem O8 {kn : Kn} {c : Nat} {o : List Tk} (h : LB kn) (ho : AllOk o) : LB (kn ++ [(c, o)]) := fun c' v hv => by
 rw [PI] at hv
 cases hl : lk kn c' with
 | some w => rw [hl] at hv; cases hv; exact h c' _ hl
 | none =>
  rw [hl] at hv
  by_cases hc : c = c'
  ·rw [Tl hc] at hv; cases hv; exact ho
  ·rw [Tm hc] at hv; cases hv
theorem RT.out {r : Row} {ks : List Tk} {f : Hb} (h : RT r ks f) (hks : AllOk ks) {kn : Kn} (hk : LB kn) : Nw (f kn) := by
 cases h with
 | use hh hnd hl hn hs hd =>
  have ih := I0 hk ks.length ks (Tv _) hks
  show Nw ((Ad kn ks).bind fun o => .ok (kn, o))
  revert ih
  cases Ad kn ks with
  | fail => exact id
  | exc x => exact id
  | ok o => exact fun ih => ⟨hk, ih⟩
 | @dfn c d s e z V rest cl hd hs1 hs he hN hbal hz hV hdl hcl hr hq hkeep =>
  have i1 : TkOk s := hks s (by simp)
  have i2 : TkOk e := hks e (by simp)
  have i3 : TkOk z := hks z (by simp)
  have i4 : AllOk V := fun k hk => hks k (by simp [hk])
  have i5 : AllOk (z :: rest) := fun k hk => hks k (by simp only [T0, T8] at hk ⊢; exact .inr (.inr (.inr (.inr hk))))
  have ih : Ia (FG kn c s e z V) := by
   unfold FG
   split
   ·exact Is i1 (by decide +kernel : PyData.strOk JB = true)
   split
   ·refine D4 (D4 (by decide +kernel : PyData.strOk _ = true) (OS.mpr fun q hq => i1.b q (by rw [hs]; exact hq))) (by decide +kernel : PyData.strOk kq = true)
   split
   ·exact Is i2 (by decide +kernel : PyData.strOk sEq = true)
   split
   ·exact Is i3 (by decide +kernel : PyData.strOk Oe = true)
   exact I0 hk V.length V (Tv _) i4
  show Nw ((FG kn c s e z V).bind fun o => .ok (kn ++ [(c, o)], (z :: rest).filter (keep cl)))
  revert ih
  cases FG kn c s e z V with
  | fail => exact id
  | exc x => exact id
  | ok o => exact fun ih => ⟨O8 hk ih, fun k hk => i5 k (List.mem_filter.mp hk).1⟩
theorem QD {rs : List Row} {kss : List (List Tk)} {fs : List Hb} (h : RTs rs kss fs) : ∀ {kn : Kn} {out : List Tk}, (∀ ks ∈ kss, AllOk ks) → LB kn → AllOk out → Ia (C5 fs kn out) := by
 induction h with
 | @last r ks f h =>
  intro kn out hP hk ho
  have ih := h.out (hP ks (Ty ..)) hk
  show Ia ((f kn).bind fun p => C5 [] p.1 (out ++ p.2))
  revert ih
  cases f kn with
  | fail => exact id
  | exc x => exact id
  | ok p => exact fun ih => ho.app ih.2
 | @cons r ks f rs kss fs h hb t ih' =>
  intro kn out hP hk ho
  have ih := h.out (hP ks (Ty ..)) hk
  show Ia ((f kn).bind fun p => C5 fs p.1 (out ++ p.2))
  revert ih
  cases f kn with
  | fail => exact id
  | exc x => exact id
  | ok p => exact fun ih => ih' (fun ks hk => hP ks (Tx _ hk)) ih.1 (ho.app ih.2)
theorem L6 {d : D} (h : SeqAt.shaped d = true) (hd : (∃ l, d = .list l) ∨ ∃ l, d = .tuple l) : AZ d d = .ok (.bool true) ∧ A2 d d = .ok (.bool false) := by
 have hr := SeqAt.eqv_refl d (SeqAt.canLay_of_shaped h)
 rcases hd with ⟨l, rfl⟩ | ⟨l, rfl⟩
 ·exact ⟨by show (if _ then _ else _) = _; rw [h, hr]; rfl, by show (if _ then _ else _) = _; rw [h, hr]; rfl⟩
 ·exact ⟨by show (if _ then _ else _) = _; rw [h, hr]; rfl, by show (if _ then _ else _) = _; rw [h, hr]; rfl⟩
theorem Jl {ks : List Tk} (h : AllOk ks) : SeqAt.shaped (BY ks) = true := Fh fun d hd => by
 refine BK (List.mem_map.mp hd) fun k hk z2_ => ?_; obtain rfl := z2_; exact (h k hk).tok
theorem Ms {x : Dr} (h : O7 x.1) : SeqAt.shaped (F7 x) = true := by
 obtain ⟨w, r, c⟩ := x
 show SeqAt.shaped (.tuple [.str w, .int r, .int c]) = true
 unfold SeqAt.shaped
 have h' : PyData.strOk w = true := h
 simp only [PyData.canLay0, PyData.canLayAll0]
 rw [h']; rfl
theorem Kc {TT : List Tk} {rs : List Row} {kss : List (List Tk)} {fs : List Hb} (h : RTs rs kss fs) (hl : TT.length ≤ 100000) (hP : ∀ ks ∈ kss, ∀ k ∈ ks, k.p ∈ A5) (hT : ∀ n, n < TT.length → ∃ k ∈ TT.drop n, k.p.1 = CC) (hd : KC rs ≤ 7) (hn : rs.length ≤ 13) (ht : TT = kss.flatten) :
  (((AN CT BQ 1 [.d (BY TT)]).bind Bb).bind fun d => ((AN Ct BU 2 [.d (.list (rs.map A1)), .d (.list (kss.map BY))]).bind Bb).bind fun e => AZ d e) = .ok (.bool true) := by
 have hP' : ∀ k ∈ TT, k.p ∈ A5 := fun k hk => by
  rw [ht] at hk
  refine BK (List.mem_flatten.mp hk) fun ks h1 h2 => ?_
  exact hP ks h1 k h2
 have e1 := Rb hl hP' hT h hd hn ht
 have e2 := PS h hP hd hn
 have e3 := QD h (kn := []) (out := []) (fun ks hks k hk => Qh (hP ks hks k hk)) (fun c v hv => by cases hv) (fun k hk => by cases hk)
 have e0 : ∀ {d : D}, (∃ l, CT (CH BQ [.d (BY TT)] []) = .ok (.ret (.val d), l)) → AN CT BQ 1 [.d (BY TT)] = .ok (.ret (.val d)) := fun z_ => xE z_ fun l e => callF_ret e rfl
 have e4 := Qs h (kn := []) (m := 0) (out := []) fun c v hv => by cases hv
 revert e4 e1 e2 e3
 cases C5 fs [] [] with
 | fail => exact fun _ _ _ z => absurd rfl z
 | exc x =>
  intro e1 e2 e3 _
  rw [e2, e0 (d := F7 x) ⟨_, seq_ret (Oa e1)⟩]
  exact (L6 (Ms e3) (.inr ⟨_, rfl⟩)).1
 | ok o =>
  intro e1 e2 e3 _
  rw [e2, e0 (d := BY o) ⟨_, seq_ret (Pu e1)⟩]
  exact (L6 (Jl e3) (.inl ⟨_, rfl⟩)).1
end Mine
namespace Mine
noncomputable def H5 : List T := [[97], [58], [32], [61], [34], [10], [46], [58], [58, 58], [47], [42], [43], [45], [95], [92, 10], [90], [48], [122, 57], [65], [123], [125], [33], [60], [62], [38], [124], [94], [64], [61], [36], [35], [59], [9], [13], [92], [34], [40], [41], [91], [93], [44]]
theorem Qq : CA = .tuple (H5.map fun p => .str (S p)) := by unfold CA; kernel_rfl
noncomputable def FQ (p : T) : Prop := p.length ≤ 2 ∧ ∀ c ∈ p, c < 1114112
theorem Re {i : Int} (h : 0 ≤ i ∧ i < 41) : ∃ p, FQ p ∧ AG CA (.int i) = .ok (.str (S p)) := by
 obtain ⟨n, rfl⟩ : ∃ n : Nat, i = n := ⟨i.toNat, by lia⟩
 have hl : H5.length = 41 := rfl
 have hg : H5[n]? = some (H5[n]'(by lia)) := List.getElem?_eq_getElem _
 refine (A4 _ ((show ∀ p ∈ H5, p.length ≤ 2 ∧ ∀ c ∈ p, c < 1114112 by decide) _ (T7 hg)) ?_)
 rw [Qq]
 show (if (n : Int).natAbs < 2 ^ 62 then (match at? (H5.map fun p => PyData.str (S p)) (n : Int) with | some d => Res.ok d | none => .fail) else .fail) = _
 rw [Tl (small n (by lia)), at?_nat, UH, hg]; rfl
noncomputable def tx (n rest : Int) (u3 u4 : Option W) (ds : List D) : Loc := ⟨[some (.d (.int n)), some (.d (.int rest)), some (.lst 0), u3, u4], [.list ds]⟩
theorem D6 {n rest : Int} {t : Int} {u4 : Option W} {ds : List D} (hd : ds.length ≤ 100) :
  ∃ p rest' v4, FQ p ∧ DV (tx n rest (some (.d (.int t))) u4 ds) = .ok (.next, tx n rest' (some (.d (.int t))) v4 (ds ++ [.str (S p)])) := by
 have hz := szl
 have h42 : 0 ≤ (rest + 7 * t).fmod 42 ∧ (rest + 7 * t).fmod 42 < 42 := Ez (k := 42) (by decide)
 have hch : 0 ≤ n.fmod 55296 ∧ n.fmod 55296 < 55296 := Ez (k := 55296) (by decide)
 have go : ∀ {p : T}, ((Res.ok ((rest + 7 * t).fmod 42 == 41)).bind fun c => if c then (((Res.ok (.int n)).bind fun d => (Res.ok (.int 55296)).bind fun e => Ch d e).bind NG) else ((Res.ok CA).bind fun d => (Res.ok (.int ((rest + 7 * t).fmod 42))).bind fun e => AG d e)) = Res.ok (.str (S p)) →
   DV (tx n rest (some (.d (.int t))) u4 ds) = .ok (.next, tx n (rest.fdiv 42) (some (.d (.int t))) (some (.d (.int ((rest + 7 * t).fmod 42)))) (ds ++ [.str (S p)])) := fun {p} e => by
  refine (seq_next (set_ok (d := .int ((rest + 7 * t).fmod 42)) rfl)).trans ?_
  refine (seq_next (set_ok (d := .int (rest.fdiv 42)) rfl)).trans ?_
  refine (seq_next (app_ok (k := 0) (ts := ds) (d := .str (S p)) rfl e (by lia))).trans rfl
 by_cases q : (rest + 7 * t).fmod 42 = 41
 ·refine (K8 ([(n.fmod 55296).toNat]) _ _ ⟨by simp, fun c hc => by rw [UN.mp hc]; lia⟩ (go ?_))
  rw [show ((rest + 7 * t).fmod 42 == 41) = true from by rw [q]; rfl]
  show NG (.int (n.fmod 55296)) = _
  show (if 0 ≤ n.fmod 55296 ∧ n.fmod 55296 ≤ 0x10FFFF then Res.ok (PyData.str ⟨#[(n.fmod 55296).toNat]⟩) else .fail) = _
  rw [Tl (by lia)]; rfl
 ·refine BK (Re (i := (rest + 7 * t).fmod 42) (by lia)) fun p hp e => ?_
  refine (K8 p _ _ hp (go ?_))
  rw [show ((rest + 7 * t).fmod 42 == 41) = false from by simpa using q]
  exact e
theorem TP (a b c d e f : T) : Txt.join "" [S a, S b, S c, S d, S e, S f] = S (a ++ b ++ c ++ d ++ e ++ f) := by
 rw [show "" = S [] by kernel_rfl]
 show (⟨a.toArray ++ #[] ++ b.toArray ++ #[] ++ c.toArray ++ #[] ++ d.toArray ++ #[] ++ e.toArray ++ #[] ++ f.toArray⟩ : Str) = _
 unfold S; simp
theorem Qy {a b c d e f : T} (ha : FQ a) (hb : FQ b) (hc : FQ c) (hd : FQ d) (he : FQ e) (hf : FQ f) : JoinOk "" [S a, S b, S c, S d, S e, S f] = true := by
 rw [show "" = S [] by kernel_rfl]
 show (!decide (0 + (S a).length + 0 + ((S b).length) + 0 + ((S c).length) + 0 + (S d).length + 0 + (S e).length + 0 + (S f).length + 0 > sizeLine)) = true
 have h1 := ha.1; have h2 := hb.1; have h3 := hc.1; have h4 := hd.1; have h5 := he.1; have h6 := hf.1
 rw [Tq (by have := szl; simp only [Ds]; lia)]; rfl
theorem O5 (n : Int) : ∃ x : T, x.length ≤ 12 ∧ (∀ c ∈ x, c < 1114112) ∧ AN CV BM 1 [.d (.int n)] = .ok (.ret (.val (.str (S x)))) := by
 refine CB (D6 (n := n) (rest := n.fmod (42 ^ 6)) (t := 0) (u4 := none) (ds := []) (by simp)) fun a r1 q1 ha e1 => ?_
 refine CB (D6 (n := n) (rest := r1) (t := 1) (u4 := q1) (ds := [.str (S a)]) (by simp)) fun b r2 q2 hb e2 => ?_
 refine CB (D6 (n := n) (rest := r2) (t := 2) (u4 := q2) (ds := [.str (S a), .str (S b)]) (by simp)) fun c r3 q3 hc e3 => ?_
 refine CB (D6 (n := n) (rest := r3) (t := 3) (u4 := q3) (ds := [.str (S a), .str (S b), .str (S c)]) (by simp)) fun d r4 q4 hd e4 => ?_
 refine CB (D6 (n := n) (rest := r4) (t := 4) (u4 := q4) (ds := [.str (S a), .str (S b), .str (S c), .str (S d)]) (by simp)) fun e r5 q5 he e5 => ?_
 refine CB (D6 (n := n) (rest := r5) (t := 5) (u4 := q5) (ds := [.str (S a), .str (S b), .str (S c), .str (S d), .str (S e)]) (by simp)) fun f r6 q6 hf e6 => ?_
 refine (B0 (a ++ b ++ c ++ d ++ e ++ f) ?_ ?_ ?_)
 ·have h1 := ha.1; have h2 := hb.1; have h3 := hc.1; have h4 := hd.1; have h5 := he.1; have h6 := hf.1
  simp only [Tw]; lia
 ·intro k hk
  simp only [T8] at hk
  rcases hk with ((((hk | hk) | hk) | hk) | hk) | hk
  ·exact ha.2 k hk
  ·exact hb.2 k hk
  ·exact hc.2 k hk
  ·exact hd.2 k hk
  ·exact he.2 k hk
  ·exact hf.2 k hk
 ·have lp : BW (fun d l => .ok (l.setv 3 (.d d))) DV [.int 0, .int 1, .int 2, .int 3, .int 4, .int 5] (tx n (n.fmod (42 ^ 6)) none none []) = .ok (.next, tx n r6 (some (.d (.int 5))) q6 [.str (S a), .str (S b), .str (S c), .str (S d), .str (S e), .str (S f)]) :=
   (for_next rfl e1).trans ((for_next rfl e2).trans ((for_next rfl e3).trans ((for_next rfl e4).trans ((for_next rfl e5).trans ((for_next rfl e6).trans rfl)))))
  have jn : FV (.str "") (.list [.str (S a), .str (S b), .str (S c), .str (S d), .str (S e), .str (S f)]) = .ok (.str (S (a ++ b ++ c ++ d ++ e ++ f))) := by
   show (if JoinOk "" [S a, S b, S c, S d, S e, S f] = true then Res.ok (PyData.str (Txt.join "" [S a, S b, S c, S d, S e, S f])) else .fail) = _
   rw [Tl (Qy ha hb hc hd he hf), TP]
  have r : ∃ l', GT (tx n r6 (some (.d (.int 5))) q6 [.str (S a), .str (S b), .str (S c), .str (S d), .str (S e), .str (S f)]) = .ok (.ret (.val (.str (S (a ++ b ++ c ++ d ++ e ++ f)))), l') := by
   refine ⟨_, seq_ret (l' := frz 2 (tx n r6 (some (.d (.int 5))) q6 [.str (S a), .str (S b), .str (S c), .str (S d), .str (S e), .str (S f)])) ?_⟩
   show (FV (.str "") (.list [.str (S a), .str (S b), .str (S c), .str (S d), .str (S e), .str (S f)])).bind _ = _
   rw [jn]; rfl
  refine xE r fun l' r => ?_
  refine callF_ret (l' := l') ?_ rfl
  refine (seq_next (set_ok (d := .int (n.fmod (42 ^ 6))) ?_)).trans ?_
  ·show ((FO (.int 42) (.int 6)).bind fun e => Ch (.int n) e) = _
   rw [show FO (.int 42) (.int 6) = .ok (.int (42 ^ 6)) by kernel_rfl]; rfl
  refine (seq_next rfl).trans ?_
  exact (seq_next lp).trans r
end Mine
namespace Mine
theorem NK : AN Be A8 0 [] = .ok (.ret (.val (.bool true))) := by kernel_rfl
end Mine
namespace Mine
noncomputable def KL : List T := [[97, 58, 98, 58, 32, 58, 99, 32, 58, 58], [58, 58, 49, 32, 46, 47, 32, 46, 58], [34, 113, 32, 114, 34, 59, 120, 35, 122, 10], [92, 10, 47, 58, 32, 58, 46, 32, 46], [33, 61, 60, 60, 61, 62, 62, 62, 61, 9], [13, 10, 34, 34, 47, 32, 47], [10, 32, 34, 117, 10, 34], [98, 92, 32, 10]]
theorem TV : DT = .tuple (KL.map fun p => .str (S p)) := by unfold DT; kernel_rfl
noncomputable def PM (x : T) : Prop := x.length ≤ 12 ∧ ∀ c ∈ x, c < 1114112
noncomputable def lw (sc ns : D) (u2 u3 u4 u5 u6 : Option W) (cs : List Cell) : Loc := ⟨[some (.d sc), some (.d ns), u2, u3, u4, u5, u6], cs⟩
theorem Ox (zs : List Int) : ∃ xs : List T, (∀ x ∈ xs, PM x) ∧ xs.length = zs.length ∧ Dh (fun d => ((((getv (Hv ⟨[], []⟩ [] d) 0).bind fun d => .ok (W.d d)).bind fun u => (Res.ok []).bind fun us => .ok (u :: us)).bind (AN CV BM 1)).bind Bb) (zs.map .int) = .ok (xs.map fun x => .str (S x)) := by
 induction zs with
 | nil => exact (B0 ([]) (by simp) rfl rfl)
 | cons z zs ih =>
  refine B1 ih fun xs h1 h2 h3 => ?_; clear ih
  refine B1 (O5 z) fun x g1 g2 g3 => ?_
  refine (B0 (x :: xs) (fun y hy => (T0.mp hy).elim (fun e => e ▸ ⟨g1, g2⟩) (h1 y)) (by simp [h2]) ?_)
  rw [T1, Dh]
  have e : ((((getv (Hv ⟨[], []⟩ [] (.int z)) 0).bind fun d => .ok (W.d d)).bind fun u => (Res.ok []).bind fun us => .ok (u :: us)).bind (AN CV BM 1)).bind Bb = .ok (.str (S x)) := by
   show (AN CV BM 1 [.d (.int z)]).bind Bb = _
   rw [g3]; rfl
  rw [e]
  show (Dh _ (zs.map .int)).bind _ = _
  rw [h3]; rfl
theorem JZ {sc ns : D} {u3 u4 u5 u6 : Option W} {cs : List Cell} : ∀ (xs : List T) (u2 : Option W), (∀ x ∈ xs, PM x) → ∃ v2, BW (fun d l => .ok (l.setv 2 (.d d))) HJ (xs.map fun x => .str (S x)) (lw sc ns u2 u3 u4 u5 u6 cs) = .ok (.next, lw sc ns v2 u3 u4 u5 u6 cs)
 | [], u2, _ => ⟨u2, rfl⟩
 | x :: xs, u2, h => by
  refine xA (h x (Ty ..)) fun h1 h2 => ?_
  refine xE (JZ (sc := sc) (ns := ns) (u3 := u3) (u4 := u4) (u5 := u5) (u6 := u6) (cs := cs) xs (some (.d (.str (S x)))) fun y hy => h y (Tx _ hy)) fun v2 e => ?_
  refine ⟨v2, ?_⟩
  have hs := QP x (by have := szl; lia) h2
  have hb : HJ (lw sc ns (some (.d (.str (S x)))) u3 u4 u5 u6 cs) = .ok (.next, lw sc ns (some (.d (.str (S x)))) u3 u4 u5 u6 cs) := seq_nop.trans (if_f (b := false) hs rfl)
  rw [T1]
  exact (for_next (l' := lw sc ns (some (.d (.str (S x)))) u3 u4 u5 u6 cs) rfl hb).trans e
theorem K1 {sc ns : D} {u2 u3 u4 : Option W} : ∀ (kss : List (List Tk)) (ts : List Tk) (u6 : Option W), ts.length + kss.flatten.length ≤ sizeLine → (∀ ds, Kb 0 ds u6 = u6) → ∃ v6, (∀ ds, Kb 0 ds v6 = v6) ∧ BW (fun d l => .ok (l.setv 6 (.d d))) JL (kss.map BY) (lw sc ns u2 u3 u4 (some (.lst 0)) u6 [.list (ts.map tkD)]) = .ok (.next, lw sc ns u2 u3 u4 (some (.lst 0)) v6 [.list ((ts ++ kss.flatten).map tkD)])
 | [], ts, u6, _, hu => (A4 u6 hu (by rw [List.flatten_nil, UD]; rfl))
 | ks :: kss, ts, u6, h, hu => by
  rw [UO, Tw] at h
  refine BK (K1 (sc := sc) (ns := ns) (u2 := u2) (u3 := u3) (u4 := u4) kss (ts ++ ks) (some (.d (BY ks))) (by rw [Tw]; lia) fun _ => rfl) fun v6 hv e => ?_
  refine (A4 v6 hv ?_)
  have hb : JL (lw sc ns u2 u3 u4 (some (.lst 0)) (some (.d (BY ks))) [.list (ts.map tkD)]) = .ok (.next, lw sc ns u2 u3 u4 (some (.lst 0)) (some (.d (BY ks))) [.list ((ts ++ ks).map tkD)]) := by
   refine seq_nop.trans ((ext_ok (k := 0) (ts := ts.map tkD) (ds := ks.map tkD) rfl rfl (by rw [Tu, Tu]; lia)).trans ?_)
   rw [← T4]; rfl
  rw [T1, UO, ← Tz]
  exact (for_next (l' := lw sc ns u2 u3 u4 (some (.lst 0)) (some (.d (BY ks))) [.list (ts.map tkD)]) rfl hb).trans e
theorem Sb {ps : List PT} (h : ∀ p ∈ ps, p ∈ A5) : DS ps ≤ 1005 * ps.length := by
 induction ps with
 | nil => exact Tv _
 | cons p ps ih =>
  have h1 := Dv (h p (Ty ..))
  have h2 := ih fun q hq => h q (Tx _ hq)
  show p.2.length + 5 + DS ps ≤ 1005 * (ps.length + 1)
  lia
theorem Nr {rs : List Row} (h : ∀ r ∈ rs, (∀ p ∈ toks r, p ∈ A5) ∧ (toks r).length ≤ 40) : C0 rs ≤ 40200 * rs.length := by
 induction rs with
 | nil => exact Tv _
 | cons r rs ih =>
  refine xA (h r (Ty ..)) fun h1 h1' => ?_
  have h2 := ih fun q hq => h q (Tx _ hq)
  have h3 := Sb h1
  show DS (toks r) + C0 rs ≤ 40200 * (rs.length + 1)
  lia
theorem Qu {kss : List (List Tk)} (h : ∀ ks ∈ kss, ks.length ≤ 41) : kss.flatten.length ≤ 41 * kss.length := by
 induction kss with
 | nil => exact Tv _
 | cons k kss ih =>
  have h1 := h k (Ty ..)
  have h2 := ih fun q hq => h q (Tx _ hq)
  rw [UO, Tw, Ts]; lia
theorem PV : ∀ (rs : List Row) (t : T), ∀ ks ∈ (BG t rs).2, ∃ q ∈ rs, ks.map (·.p) = toks q := fun rs t ks hk => by
 have h := Gj rs t
 have : ks.map (·.p) ∈ rs.map toks := by rw [← h]; exact List.mem_map_of_mem hk
 refine BK (List.mem_map.mp this) fun q hq e => ?_
 exact (A4 q hq e.symm)
structure Made (rs : List Row) (x : T) (kss : List (List Tk)) : Prop where
 wr : AN CK BI 1 [.d (.list (rs.map A1))] = .ok (.ret (.val (.tuple [.str (S x), .list (kss.map BY)])))
 told : (((AN CG BD 1 [.d (.str (S x))]).bind Bb).bind fun d => A2 d (BY kss.flatten)).bind AF = .ok false
 due : (((AN CT BQ 1 [.d (BY kss.flatten)]).bind Bb).bind fun d => ((AN Ct BU 2 [.d (.list (rs.map A1)), .d (.list (kss.map BY))]).bind Bb).bind fun e => AZ d e) = .ok (.bool true)
 len : kss.flatten.length ≤ sizeLine
theorem TW {rs : List Row} (h : ProgRows rs) : ∃ x kss, Made rs x kss := by
 have hz := szl
 refine D9 h.shp fun ts r z2_ hs hd hn => ?_; obtain rfl := z2_
 have hall : ∀ q ∈ ts ++ [C6 r], (∀ p ∈ toks q, okP p = true ∧ p ∈ A5) ∧ (toks q).length ≤ 40 := fun q hq => by
  rcases T8.mp hq with hq | hq
  ·exact (hs q (List.mem_append_left _ hq)).okP
  ·rw [UN.mp hq]
   refine xA ((hs r (by simp)).okP) fun a b => ?_
   refine xA (PX r) fun c d => ?_
   exact ⟨fun p hp => a p (c p hp), T2 d b⟩
 have hrl := Nr (rs := ts ++ [C6 r]) fun q hq => ⟨fun p hp => ((hall q hq).1 p hp).2, (hall q hq).2⟩
 refine B6 (Lp ts (C6 r) (by lia) (fun q hq => by have := (hall q hq).2; lia) (by lia)) fun mk k hl hw => ?_
 generalize hx : (BG [] (ts ++ [C6 r])).1 = x at *
 have hpts := Gj (ts ++ [C6 r]) []
 rw [hl] at hpts
 refine xA (OP (z := Bm x) rfl (hs r (by simp)) ts mk k (fun q hq => hs q (List.mem_append_left _ hq)) hpts) fun z0_ hP => ?_; obtain ⟨fs, hr⟩ := z0_
 have hks : ∀ ks ∈ mk ++ [k ++ [Bm x]], ks.length ≤ 41 := fun ks hk => by
  have each := PV (ts ++ [C6 r]) []
  rw [hl] at each
  have bound : ∀ ks ∈ mk ++ [k], ks.length ≤ 40 := fun ks hk => by
   refine BK (each ks hk) fun q hq e => ?_
   have := (hall q hq).2
   rw [← e, Tu] at this; exact this
  rcases T8.mp hk with hk | hk
  ·have := bound ks (List.mem_append_left _ hk); lia
  ·rw [UN.mp hk, Tw, UP]
   have := bound k (by simp); exact Nat.succ_le_succ (by assumption)
 have hml : (mk ++ [k ++ [Bm x]]).length = (ts ++ [C6 r]).length := by
  have := congrArg List.length hpts
  simp only [Tu, Tw, UP] at this ⊢; exact this
 have hfl := Qu hks
 have hfe : (mk ++ [k ++ [Bm x]]).flatten = (mk ++ [k]).flatten ++ [Bm x] := by simp
 have hT : ∀ n, n < (mk ++ [k ++ [Bm x]]).flatten.length → ∃ q ∈ (mk ++ [k ++ [Bm x]]).flatten.drop n, q.p.1 = CC := fun n hn => by
  rw [hfe, Tw, UP] at hn
  refine (A4 (Bm x) ?_ rfl)
  rw [hfe, List.drop_append_of_le_length (by exact Nat.le_of_lt_succ (by assumption))]
  exact List.mem_append_right _ (by simp)
 have hrd := Lx (ts ++ [C6 r]) fun q hq p hp => ((hall q hq).1 p hp).1
 rw [hx, hl] at hrd
 have hrd' : readT x = .ok ((mk ++ [k ++ [Bm x]]).flatten.map tkD) := by rw [hrd, hfe, T4]; rfl
 have hxl : x.length ≤ C0 (ts ++ [C6 r]) ∧ ∀ c ∈ x, c < 1114112 := by
  rw [← hx, FR, List.nil_append]
  have hc : ∀ p ∈ A5, ∀ c ∈ Iz p, c < 1114112 := by decide +kernel
  refine ⟨?_, fun c hc' => ?_⟩
  ·have : ∀ rs : List Row, (Co rs).length ≤ C0 rs := fun rs => by
    induction rs with
    | nil => exact Tv _
    | cons q rs ih =>
     have h1 := (Iv (toks q) []).1
     rw [JH, List.nil_append] at h1
     show (((toks q).map Iz).flatten ++ Co rs).length ≤ DS (toks q) + C0 rs
     rw [Tw]; simp only [List.length_nil] at h1; lia
   exact this _
  ·unfold Co at hc'
   refine BK (List.mem_flatten.mp hc') fun a ha hc' => ?_
   refine BK (List.mem_map.mp ha) fun q hq z2_ => ?_; obtain rfl := z2_
   refine BK (List.mem_flatten.mp hc') fun b hb hc' => ?_
   refine BK (List.mem_map.mp hb) fun p hp z2_ => ?_; obtain rfl := z2_
   exact hc p ((hall q hq).1 p hp).2 c hc'
 refine ⟨x, mk ++ [k ++ [Bm x]], hw, ?_, ?_, by lia⟩
 ·have e := LA x (by lia) hxl.2
  rw [e, hrd']
  show (A2 (BY _) (BY _)).bind AF = _
  rw [(L6 (Jl fun q hq => Qh (by refine BK (List.mem_flatten.mp hq) fun ks a b => ?_; exact hP ks a q b)) (.inl ⟨_, rfl⟩)).2]; rfl
 ·exact Kc hr (by lia) hP hT hd hn rfl
theorem PE (script : List Int) (hn : script.length ≤ 63) : AN OX DJ 1 [.d (.list (script.map .int))] = .ok (.ret (.val (.bool true))) := by
 have hz := szl
 refine BK (Lv (script.take 5) (by rw [List.length_take]; lia)) fun rs hpr hprog => ?_
 refine Sd (TW hpr) fun x kss M => ?_
 refine B1 (Ox (script.take 5)) fun xs hx1 hx2 hx3 => ?_
 have hxl : xs.length ≤ 5 := by rw [hx2, List.length_take]; lia
 have hown : ∀ y ∈ KL, PM y := (show ∀ y ∈ KL, y.length ≤ 12 ∧ ∀ c ∈ y, c < 1114112 by decide)
 let sd : D := .list (script.map .int)
 let nd : D := .list ((script.take 5).map .int)
 refine xE (JZ (sc := sd) (ns := nd) (u3 := none) (u4 := none) (u5 := none) (u6 := none) (cs := []) (KL ++ xs) none (fun y hy => (T8.mp hy).elim (hown y) (hx1 y))) fun v2 hl1 => ?_
 let rd : D := .list (rs.map A1)
 let md : D := .list (kss.map BY)
 refine BK (K1 (sc := sd) (ns := nd) (u2 := some (.d (.str (S x)))) (u3 := some (.d rd)) (u4 := some (.d md)) kss [] none (by simpa using M.len) fun _ => rfl) fun v6 hv6 hl2 => ?_
 have L1 : JR (lw sd nd (some (.d (.str (S x)))) (some (.d rd)) (some (.d md)) (some (.d (BY kss.flatten))) v6 [.dead]) = .ok (.ret (.val (.bool true)), lw sd nd (some (.d (.str (S x)))) (some (.d rd)) (some (.d md)) (some (.d (BY kss.flatten))) v6 [.dead]) := by
  refine seq_ret ?_
  show ((((AN CT BQ 1 [.d (BY kss.flatten)]).bind Bb).bind fun d => ((AN Ct BU 2 [.d rd, .d md]).bind Bb).bind fun e => AZ d e)).bind _ = _
  rw [M.due]; rfl
 have L2 : Mx (lw sd nd (some (.d (.str (S x)))) (some (.d rd)) (some (.d md)) (some (.lst 0)) v6 [.list (kss.flatten.map tkD)]) = .ok (.ret (.val (.bool true)), lw sd nd (some (.d (.str (S x)))) (some (.d rd)) (some (.d md)) (some (.d (BY kss.flatten))) v6 [.dead]) := by
  have hz : frz 5 (lw sd nd (some (.d (.str (S x)))) (some (.d rd)) (some (.d md)) (some (.lst 0)) v6 [.list (kss.flatten.map tkD)]) = lw sd nd (some (.d (.str (S x)))) (some (.d rd)) (some (.d md)) (some (.d (BY kss.flatten))) v6 [.dead] := by
   have : Kb 0 (kss.flatten.map tkD) v6 = v6 := hv6 _
   exact (show _ = lw sd nd (some (.d (.str (S x)))) (some (.d rd)) (some (.d md)) (some (.d (BY kss.flatten))) (Kb 0 (kss.flatten.map tkD) v6) [.dead] from rfl).trans (by rw [this])
  have t : Hs (fun l => ((((((getv l 2).bind fun d => .ok (W.d d)).bind fun u => (Res.ok []).bind fun us => .ok (u :: us)).bind (AN CG BD 1)).bind Bb).bind fun d => (getv l 5).bind fun e => A2 d e).bind AF) (fun l => Hs (fun l => (((AN Be A8 0 []).bind Bb).bind AF).bind fun b => .ok !b) (fun l => Res.ok false) l) (lw sd nd (some (.d (.str (S x)))) (some (.d rd)) (some (.d md)) (some (.d (BY kss.flatten))) v6 [.dead]) = .ok false := by
   refine (or_f M.told).trans ((or_f ?_).trans rfl)
   show (((AN Be A8 0 []).bind Bb).bind AF).bind (fun b => Res.ok !b) = _
   rw [NK]; rfl
  show AK _ JR (frz 5 _) = _
  rw [hz]
  exact (seq_next (if_f t rfl)).trans L1
 have c1 : CR (fun l => (getv l 1).bind Bh) (fun l => ((((getv l 0).bind fun d => .ok (W.d d)).bind fun u => (Res.ok []).bind fun us => .ok (u :: us)).bind (AN CV BM 1)).bind Bb) [] (lw sd nd none none none none none []) = .ok (xs.map fun x => .str (S x)) := by
  unfold CR
  show (if ((script.take 5).map PyData.int).length ≤ sizeLine then Dh _ ((script.take 5).map PyData.int) else .fail) = _
  rw [Tl (by rw [Tu, List.length_take]; lia)]
  exact hx3
 have s2 : ((((Res.ok DT).bind L9).bind fun d => ((CR (fun l => (getv l 1).bind Bh) (fun l => ((((getv l 0).bind fun d => .ok (W.d d)).bind fun u => (Res.ok []).bind fun us => .ok (u :: us)).bind (AN CV BM 1)).bind Bb) [] (lw sd nd none none none none none [])).bind fun ds => .ok (.list ds)).bind fun e => AM d e).bind Bh).bind (fun es => BW (fun d l => .ok (l.setv 2 (.d d))) HJ es (lw sd nd none none none none none [])) = .ok (.next, lw sd nd v2 none none none none []) := by
  rw [c1, TV]
  have hadd : AM (.list (KL.map fun p => .str (S p))) (.list (xs.map fun x => .str (S x))) = .ok (.list ((KL ++ xs).map fun x => .str (S x))) := by
   show (if (KL.map fun p => PyData.str (S p)).length + (xs.map fun x => PyData.str (S x)).length ≤ sizeLine then Res.ok (PyData.list ((KL.map fun p => PyData.str (S p)) ++ xs.map fun x => PyData.str (S x))) else .fail) = _
   rw [Tl (by rw [Tu, Tu, show KL.length = 8 from rfl]; lia), T4]
  show ((AM (.list (KL.map fun p => .str (S p))) (.list (xs.map fun x => .str (S x)))).bind Bh).bind _ = _
  rw [hadd]; exact hl1
 refine callF_ret (l' := lw sd nd (some (.d (.str (S x)))) (some (.d rd)) (some (.d md)) (some (.d (BY kss.flatten))) v6 [.dead]) ?_ rfl
 refine (seq_next (l' := lw sd nd none none none none none []) ((set_ok (d := nd) ?_).trans rfl)).trans ?_
 ·show (if (script.map PyData.int).length ≤ sizeLine then Res.ok (PyData.list (cut none (some ((5 : Nat) : Int)) (script.map PyData.int))) else .fail) = _
  rw [Tl (by rw [Tu]; lia), Il, ← List.map_take]
 refine (seq_next s2).trans ?_
 refine (seq_next (l' := lw sd nd v2 (some (.d rd)) none none none []) ((set_ok (d := rd) ?_).trans rfl)).trans ?_
 ·show (AN Db Bf 1 [.d nd]).bind Bb = _
  rw [hprog]; rfl
 refine (seq_next (l' := lw sd nd (some (.d (.str (S x)))) (some (.d rd)) (some (.d md)) none none []) ?_).trans ?_
 ·show ((AN CK BI 1 [.d rd]).bind Bb).bind _ = _
  rw [M.wr]; rfl
 refine (seq_next (l' := lw sd nd (some (.d (.str (S x)))) (some (.d rd)) (some (.d md)) (some (.lst 0)) none [.list []]) rfl).trans ?_
 exact (seq_next hl2).trans L2
end Mine
open PySem PySem.W PyProof.Rows PySem.Calls
namespace Mine
noncomputable def Q : Program := view PySem.Challenge.pw_pf0343_01 [1, 2, 4, 5, 6, 7, 8, 9, 10, 11, 12, 13, 14, 15, 17, 18, 19, 20, 21, 22, 23, 24, 25, 26, 27, 28, 29, 30, 31, 32, 33, 34, 35]
def tK : Lean.Syntax := tI (tN `tacticKernel_rfl #[Lean.mkAtom "kernel_rfl"])
noncomputable def Po (x : Str) : DefRec := (defOf Q x).elim ⟨x, default, [], default, default⟩ (·.1)
theorem LL {a b : Bool} (h : (a && b) = true) : a = true ∧ b = true := T5.mp h
noncomputable def Tj (sc : Scope) (ps : List Str) : Bool := sc.kind == .function && (sc.isCoroutine == false && (sc.isGenerator == false && (decide ((sc.names.map (·.1)).Nodup) && ps.all fun x => sc.names.lookup x == some .local || sc.names.lookup x == some .cell)))
theorem Sx (vs : List Value) : vs = (List.range vs.length).map fun i => vs.getD i .none := by
 apply List.ext_getElem
 ·simp
 ·intro i h1 h2
  simp [List.getD, List.getElem?_eq_getElem h1]
theorem RH {x : Str} (h : ((defOf Q x).any fun p => p.2.isEmpty) = true) : defOf Q x = some (Po x, []) := by
 unfold Po
 cases e : defOf Q x with
 | none => rw [e] at h; cases h
 | some p =>
  rw [e] at h
  have : p.2 = [] := List.isEmpty_iff.mp h
  show some p = some (p.1, [])
  rw [← this]
section
variable {R : WRecords} {XP : (Str → Option Value) → Heap → Prop} {w : World} {s₀ : Shared} {mg mb : Str → Option Value} {h : Heap} {loose : List Str}
theorem Hw (G : Ground Q loose R XP w s₀ mg mb h) {x : Str} {ps : List Str} {k : Nat} (e : autoParam (((defOf Q x).any fun p => p.2.isEmpty) = true) tK) (he : autoParam ((Po x).body = BT k) tK) (he' : autoParam ((Po x).scope = Cr k) tK) (he2 : autoParam ((Po x).params.defaults = []) tK)
  (hb : autoParam (∀ pm cd doc (f : Nat → Value), bindArgs (docDef (Po x).name (Po x).params (Po x).body (Po x).scope pm cd doc) ⟨(List.range ps.length).map f, []⟩ = pure (ps.zip ((List.range ps.length).map f))) tK) (hk : autoParam (Tj (Cr k) ps = true) tK) : GFn h mg x ps k := by
 refine Ln (G.fn (RH e)) fun a o pm cd doc dV kV h1 h2 h3 h4 h5 => ?_
 obtain ⟨_, rfl⟩ := h5.kw.resolve_right fun z => z.1 rfl
 obtain ⟨_, rfl⟩ := h5.pos.resolve_right fun z => z.1 he2
 obtain ⟨k1, hk⟩ := LL hk
 obtain ⟨k2, hk⟩ := LL hk
 obtain ⟨k3, hk⟩ := LL hk
 obtain ⟨k4, k5⟩ := LL hk
 exact ⟨a, h1, ⟨o, _, h2, h3, congrArg FuncBody.stmts he, he', rfl, rfl, rfl, h4, fun vs hv => by
  have := Sx vs
  rw [hv] at this
  rw [this]
  exact hb pm cd doc _⟩, eq_of_beq k1, eq_of_beq k2, eq_of_beq k3, of_decide_eq_true k4, fun x hx => (Bool.or_eq_true_iff.mp (List.all_eq_true.mp k5 x hx)).imp eq_of_beq eq_of_beq⟩
noncomputable def OM : List Str := ["len", "chr", "list", "range", "enumerate", "zip", "isinstance", "tuple", "Exception"]
theorem Rf : ∀ x ∈ OM, x ∉ startupNames ∧ x ∉ looseW Q ["BadText"] ∧ x ∉ (recsOf Q).map (·.name) ∧ x ∉ (litsOf Q).map (·.1) ∧ x ∉ (clssOf Q (looseW Q ["BadText"])).map (·.name) ∧ x ≠ "__name__" := by decide +kernel
theorem gb (G : Ground Q ["BadText"] R XP w s₀ mg mb h) {x : Str} {v : Value} (hx : autoParam (OM.contains x = true) tK) (hv : autoParam (bootBuiltins x = some v) tK) : mg x = none ∧ mb x = some v :=
 NV (Rf x (List.contains_iff_mem.mp hx)) fun a b c d e f => ⟨G.T.free x a b c d e, (G.T.builtins x f).trans hv⟩
end
end Mine
set_option maxRecDepth 100000
open PySem PySem.W PyProof.Rows PySem.Calls
namespace Mine
noncomputable def Pz : D → List Str
 | .tuple xs => xs.filterMap fun d => match d with | .str x => some x | _ => none
 | _ => []
noncomputable def Rd (d : D) (t : Nat) : Obj := { cls := .type "tuple", data := .seq ((Pz d).zipIdx t |>.map fun p => .str p.1 p.2).toArray }
noncomputable def kK (P : Params) : Frag := [
 (2, { cls := .none, data := .dict #[{ hash := PyData.keyHash P "type.__subclasses__.Exception.0", key := .str "type.__subclasses__.Exception.0" 215, val := .int 31 0 }, { hash := PyData.keyHash P "type.__subclasses__.Exception.n", key := .str "type.__subclasses__.Exception.n" 216, val := .int 1 0 }] 2 }),
 (27, { cls := .type "code", data := .fields #[.str "__init__" 201, .str "WallFault.__init__" 202, .str "/claim/cut.py" 203, .int 4 0, .int 2 0, .int 0 0, .int 0 0, .int 3 0, .ref 22, .bool true, .int 181 0, .ref 23, .none, .ref 24, .ref 25, .ref 26, .int 206 0, .int 4 0, .str "/claim/cut.py" 207] }),
 (28, { cls := .type "function", data := .func { name := "__init__", qualname := "WallFault.__init__", params := { posonlyargs := [], args := [{ arg := "self", annotation := none, pos := ⟨4, 17, 4, 21⟩ }, { arg := "why", annotation := none, pos := ⟨4, 23, 4, 26⟩ }], vararg := none, kwonlyargs := [], kw_defaults := [], kwarg := none, defaults := [] }, body := FuncBody.stmts [Stmt.Expr (((Expr.Name "Exception" ⟨5, 8, 5, 17⟩).Attribute "__init__" ⟨5, 8, 5, 26⟩).Call [Expr.Name "self" ⟨5, 27, 5, 31⟩, Expr.Name "why" ⟨5, 33, 5, 36⟩] [] ⟨5, 8, 5, 37⟩) ⟨5, 8, 5, 37⟩, Stmt.Assign [(Expr.Name "self" ⟨6, 8, 6, 12⟩).Attribute "why" ⟨6, 8, 6, 16⟩] (Expr.Name "why" ⟨6, 19, 6, 22⟩) ⟨6, 8, 6, 22⟩, Stmt.Assign [(Expr.Name "self" ⟨7, 8, 7, 12⟩).Attribute "at" ⟨7, 8, 7, 15⟩] (Expr.UnaryOp UnaryOp.USub (Expr.Constant (Const.int 1) 0 ⟨7, 19, 7, 20⟩) ⟨7, 18, 7, 20⟩) ⟨7, 8, 7, 20⟩], scope := { kind := ScopeKind.function, names := [("self", NameKind.local), ("why", NameKind.local), ("Exception", NameKind.globalImplicit)], isGenerator := false, isCoroutine := false }, globals := 3, closure := [], defaults := .none, kwdefaults := .none, pyModule := .str "siftwall.faults" 187, code := .ref 27 } }),
 (30, { cls := .type "dict", data := .dict #[{ hash := PyData.keyHash P "__module__", key := .str "__module__" 196, val := .str "siftwall.faults" 187 }, { hash := PyData.keyHash P "__firstlineno__", key := .str "__firstlineno__" 200, val := .int 2 199 }, { hash := PyData.keyHash P "__init__", key := .str "__init__" 208, val := .ref 28 }, { hash := PyData.keyHash P "__static_attributes__", key := .str "__static_attributes__" 211, val := .ref 29 }, { hash := PyData.keyHash P "__weakref__", key := .str "__weakref__" 213, val := .ref 32 }, { hash := PyData.keyHash P "__doc__", key := .str "__doc__" 214, val := .none }] 3 }),
 (31, { cls := .type "type", data := .cls { name := "WallFault", bases := [.type "Exception"], mro := [.ref 31, .type "Exception", .type "BaseException", .type "object"], ns := 30, qualname := "WallFault", subclasses := [.ref 52] }, slots := #[some (.ref 15), none, some (.str "WallFault" 189), some (.str "WallFault" 197), some (.builtin "Exception.__new__"), some (.bool true)] }),
 (42, { cls := .type "tuple", data := .seq #[.int 0 231, .int 0 232] }),
 (48, { cls := .type "code", data := .fields #[.str "__init__" 233, .str "BadText.__init__" 234, .str "/claim/cut.py" 235, .int 10 0, .int 4 0, .int 0 0, .int 0 0, .int 3 0, .ref 43, .bool true, .int 181 0, .ref 44, .none, .ref 45, .ref 46, .ref 47, .int 240 0, .int 10 0, .str "/claim/cut.py" 241] }),
 (49, { cls := .type "function", data := .func { name := "__init__", qualname := "BadText.__init__", params := { posonlyargs := [], args := [{ arg := "self", annotation := none, pos := ⟨10, 17, 10, 21⟩ }, { arg := "why", annotation := none, pos := ⟨10, 23, 10, 26⟩ }, { arg := "row", annotation := none, pos := ⟨10, 28, 10, 31⟩ }, { arg := "column", annotation := none, pos := ⟨10, 35, 10, 41⟩ }], vararg := none, kwonlyargs := [], kw_defaults := [], kwarg := none, defaults := [Expr.Constant (Const.int 0) 0 ⟨10, 32, 10, 33⟩, Expr.Constant (Const.int 0) 0 ⟨10, 42, 10, 43⟩] }, body := FuncBody.stmts [Stmt.Expr (((Expr.Name "WallFault" ⟨11, 8, 11, 17⟩).Attribute "__init__" ⟨11, 8, 11, 26⟩).Call [Expr.Name "self" ⟨11, 27, 11, 31⟩, Expr.Name "why" ⟨11, 33, 11, 36⟩] [] ⟨11, 8, 11, 37⟩) ⟨11, 8, 11, 37⟩, Stmt.Assign [(Expr.Name "self" ⟨12, 8, 12, 12⟩).Attribute "row" ⟨12, 8, 12, 16⟩] (Expr.Name "row" ⟨12, 19, 12, 22⟩) ⟨12, 8, 12, 22⟩, Stmt.Assign [(Expr.Name "self" ⟨13, 8, 13, 12⟩).Attribute "column" ⟨13, 8, 13, 19⟩] (Expr.Name "column" ⟨13, 22, 13, 28⟩) ⟨13, 8, 13, 28⟩], scope := { kind := ScopeKind.function, names := [("self", NameKind.local), ("why", NameKind.local), ("row", NameKind.local), ("column", NameKind.local), ("WallFault", NameKind.globalImplicit)], isGenerator := false, isCoroutine := false }, globals := 3, closure := [], defaults := .ref 42, kwdefaults := .none, pyModule := .str "siftwall.faults" 187, code := .ref 48 } }),
 (51, { cls := .type "dict", data := .dict #[{ hash := PyData.keyHash P "__module__", key := .str "__module__" 226, val := .str "siftwall.faults" 187 }, { hash := PyData.keyHash P "__firstlineno__", key := .str "__firstlineno__" 230, val := .int 8 229 }, { hash := PyData.keyHash P "__init__", key := .str "__init__" 242, val := .ref 49 }, { hash := PyData.keyHash P "__static_attributes__", key := .str "__static_attributes__" 245, val := .ref 50 }, { hash := PyData.keyHash P "__doc__", key := .str "__doc__" 246, val := .none }] 2 }),
 (52, { cls := .type "type", data := .cls { name := "BadText", bases := [.ref 31], mro := [.ref 52, .ref 31, .type "Exception", .type "BaseException", .type "object"], ns := 51, qualname := "BadText" }, slots := #[some (.ref 35), none, some (.str "BadText" 219), some (.str "BadText" 227), some (.builtin "Exception.__new__"), some (.bool true)] }),
 (139, Rd B8 376), (140, Rd CA 402), (141, Rd DT 444)]
end Mine
set_option maxRecDepth 100000
open PySem PySem.W PyProof.Rows PySem.Calls
namespace Mine
theorem Te (P : Params) : XK (kK P) 52 31 49 28 where
 cls := ⟨_, _, _, _, _, _, _, _, _, _, _, _, _, _, rfl⟩
 init := rfl
 fB := rfl
 sa := rfl
 why := rfl
 at_ := rfl
 row := rfl
 column := rfl
 ga := rfl
 gt := rfl
section
variable {prog : Program} {w : World} {mg mb : Str → Option Value} {H : Heap} {P : Params}
theorem Tb (X : (kK P).In H) (gl : Gl H mg mb) (he : mg "Exception" = none ∧ mb "Exception" = some (.type "Exception")) (hw : mg "WallFault" = some (.ref 31)) : XE prog w H mg mb (kK P) 52 31 49 28 where
 xk := Te P
 kin := X
 gl := gl
 exc := he
 wal := hw
 fnW := ⟨_, _, X 28 _ rfl, rfl, rfl, rfl, rfl, rfl, rfl, rfl, (Jf 27 _ _ _ rfl (X 27 _ rfl) rfl rfl), by decide +kernel, rfl, rfl, rfl, fun _ _ => rfl, _, _, _, _, _, _, _, _, _, _, _, _, _, _, _, _, rfl, rfl⟩
 mth := rfl
 rds := by kernel_rfl
 spc := rfl
 emt := rfl
 fnB := ⟨_, _, X 49 _ rfl, rfl, rfl, rfl, rfl, rfl, rfl, rfl, rfl, (Jf 48 _ _ _ rfl (X 48 _ rfl) rfl rfl), by decide +kernel, rfl, rfl, rfl, rfl, rfl, fun A E Q s a b c d hs hq => BindsTo.of_defaults rfl (hs _ _ (X 42 _ rfl)) rfl rfl rfl _ A E Q hq, _, _, _, _, _, _, _, _, _, _, _, _, _, _, rfl, rfl⟩
theorem N4 {Pd : Addr → Prop} {h : Heap} : ∀ (xs : List Str) (t : Nat), RDs Pd h ((xs.zipIdx t).map fun p => Value.str p.1 p.2) (xs.map .str)
 | [], _ => .nil
 | x :: xs, t => .cons (.str x t) (N4 xs (t + 1))
theorem Nq (X : (kK P).In H) {x : Str} {a : Addr} {d : D} {t : Nat} (hm : mg x = some (.ref a)) (hl : (kK P).lookup a = some (Rd d t)) (hd : d = .tuple ((Pz d).map .str)) : GD H mg mb x d := by
 refine (A4 (.ref a) (.inl hm) (fun Pd h hs hp => ?_))
 have := X a _ hl
 rw [hd]
 refine .tup (hs _ _ this) (fun z => by rw [hp a z] at this; cases this) ?_
 show RDs Pd h (List.toArray _).toList _
 rw [List.toList_toArray]
 exact N4 _ _
theorem Sa {x y : Str} {v : Value} (hm : mg x = some v) (hr : ∀ h' : Heap, Reads h' v (.str y) []) : GD H mg mb x (.str y) := by
 refine (A4 v (.inl hm) (fun Pd h _ _ => ?_))
 cases hr h
 exact .str _ _
end
theorem S3 {R : WRecords} {XP : (Str → Option Value) → Heap → Prop} {prog : Program} {w : World} {s₀ : Shared} {mg mb : Str → Option Value} {H : Heap} {P : Params} (G : Ground Q ["BadText"] R XP w s₀ mg mb H) (X : (kK P).In H)
  (m1 : mg "BadText" = some (.ref 52)) (m2 : mg "WallFault" = some (.ref 31)) (m3 : mg "_law_signs" = some (.ref 139)) (m4 : mg "_law_parts" = some (.ref 140)) (m5 : mg "_law_own" = some (.ref 141)) : TF prog w H 52 mg mb (kK P) 31 49 28 :=
 have gl : Gl H mg mb := ⟨G.T.g, G.T.b, G.T.nolimit⟩
 {
  G := gl, xe := Tb X gl (gb G) m2, bad := m1,
  len := .inr (gb G), chr := .inr (gb G), lst := .inr (gb G), rng := .inr (gb G), enm := .inr (gb G),
  zip := .inr (gb G), isi := .inr (gb G), tup := .inr (gb G),
  d_law_word := (let ⟨v, a, b⟩ := G.T.const "_law_word" CE (by kernel_rfl); Sa a b),
  d_law_signs := Nq X m3 rfl rfl, d_law_parts := Nq X m4 rfl rfl, d_law_own := Nq X m5 rfl rfl,
  k_is_word_sign := Hw G, k_run_end := Hw G, k_string_end := Hw G, k_put_run := Hw G, k_read_tokens := Hw G, k_token_words := Hw G, k_unexpected := Hw G, k_is_define := Hw G, k_value_end := Hw G, k_name_used := Hw G, k_replaced := Hw G, k_expand := Hw G, k_law_text := Hw G, k_law_place := Hw G, k_law_sort := Hw G, k_law_read := Hw G, k_law_told := Hw G, k_law_grown := Hw G, k_law_are_signs_read := Hw G, k_law_items := Hw G, k_law_rows := Hw G, k_law_program := Hw G, k_law_written := Hw G, k_law_fault := Hw G, k_law_flat := Hw G, k_law_due := Hw G, k_law := Hw G }
end Mine
open PySem PySem.W PyProof.Rows PySem.Calls
namespace Mine
noncomputable abbrev RR := PySem.Challenge.rw_pf0343_01.row.toRowW
noncomputable def mgs : List (Str × Addr) := [("BadText", 52), ("WallFault", 31), ("_law_signs", 139), ("_law_parts", 140), ("_law_own", 141)]
noncomputable def S7 (s : Shared) : Bool := mgs.all fun p => s.heap.nsMap mainGlobals p.1 == some (.ref p.2)
noncomputable def MG (mg : Str → Option Value) : Prop := ∀ p ∈ mgs, mg p.1 = some (.ref p.2)
theorem TU {s : Shared} (h : S7 s = true) : MG (s.heap.nsMap mainGlobals) := fun p hp => eq_of_beq (List.all_eq_true.mp h p hp)
noncomputable def hk : Hook := kHook kK [2, 27, 28, 30, 31, 42, 48, 49, 51, 52, 139, 140, 141] (fun _ => rfl)
theorem S1 {args : List WData} (h : RR.claim.pre args = true) : ∃ ns : List Int, args = [.list (ns.map .int)] ∧ ns.length ≤ 63 := by
 have hs := pre_splitW h
 obtain ⟨d, r, rfl, hd, hr⟩ := hasAllW_cons hs.1
 obtain rfl := hasAllW_nil hr
 obtain ⟨xs, rfl, hx⟩ := hasW_list hd
 obtain ⟨ns, rfl⟩ := items_int hx
 refine (A4 ns rfl ?_)
 have h1 : WTm.holds RR.records (.not (.lt (.lit (.int 63)) (.len (.arg 0)))) { args := [.list (ns.map .int)] } = true := (holds_andW hs.2).1
 by_cases hl : ns.length ≤ 63
 ·exact hl
 ·have e2 : WTm.value RR.records (.lt (.lit (.int 63)) (.len (.arg 0))) { args := [.list (ns.map .int)] } = some (.bool true) := by
   show (some (decide ((63 : Int) < ((ns.map WData.int).length : Nat)))).map WData.bool = _
   rw [Tu, Tp (by lia)]; rfl
  unfold WTm.holds WTm.value at h1
  rw [e2] at h1
  cases h1
theorem Kv : ∀ ns : List Int, ofPys (ns.map .int) = ns.map .int
 | [] => rfl
 | n :: ns => congrArg (WData.int n :: ·) (Kv ns)
theorem QH {h : Heap} {Pd : Addr → Prop} {ns : List Int} {vs : List Value} (i : IntsAre vs ns) : RDs Pd h vs (ns.map .int) := by
 induction i with
 | nil => exact .nil
 | cons n t _ ih => exact .cons (.int n t) ih
theorem RQ {P : Params} {h : Heap} {v : Value} {xs : List WData} (w : Well P h v (.list xs)) : ∃ (a : Addr) (vs : List Value), v = .ref a ∧ h.get? a = some { cls := .type "list", data := .seq vs.toArray } := by
 cases w with | list ha _ => exact (EL _ _ rfl ha)
theorem SL {R : WRecords} {cl : Str → Option Addr} {P : Params} {h : Heap} {ns : List Int} {vals : List Value} {as : List Addr} (hrd : ReadsAllW R cl h vals [.list (ns.map .int)] as) (hwl : WellAll P h vals [.list (ns.map .int)]) :
  ∃ a, vals = [.ref a] ∧ RD No h (.ref a) (.list (ns.map .int)) := by
 obtain ⟨v, vs, as1, as2, e, _, r1, r2⟩ := readsAllW_cons_inv hrd
 rw [(readsAllW_nil_inv r2).1] at e
 rw [e] at hwl
 refine B6 (RQ (wellAll_head hwl).1) fun a l' hv ha => ?_
 have r1 : ReadsW R cl h v (ofPy (.list (ns.map .int))) as1 := by unfold ofPy; rw [Kv]; exact r1
 obtain ⟨b, l, bs, hv', _, hL, ra⟩ := reads_list_items (reads_of_readsW _ r1)
 rw [hv] at hv'
 cases hv'
 obtain ⟨o, e1, _, n, e2⟩ := hL
 rw [ha] at e1
 cases e1
 refine (A4 a (by rw [e, hv]) (.list ha (fun z => z) ?_))
 have e3 : l'.toArray = l.toArray := by injection e2
 rw [e3, List.toList_toArray]
 exact QH (readsAll_intsAre0 ra).1
theorem walk : WalkO Q ["BadText"] (fun mg h => XL Q [] mg h ∧ MG mg) hk.says RR (Po "law") [] fun f vs => PySem.call f vs := by
 intro w s₀ s₁ mg mb G Y fa o pm cd doc dV kV ho hd hcd hD hmg hg args vals as hpre hlay hrd hwl hlo
 have KX := kIn_of Y
 have M := G.X.2
 have T : TF RR.prog w s₁.heap 52 mg mb (kK w.params) 31 49 28 := S3 G KX (M ("BadText", 52) (by decide)) (M ("WallFault", 31) (by decide)) (M ("_law_signs", 139) (by decide)) (M ("_law_parts", 140) (by decide)) (M ("_law_own", 141) (by decide))
 clear Y M KX ho hd hcd hD
 refine BK (S1 hpre) fun ns hns hn => ?_
 subst hns
 refine BK (SL hrd hwl) fun a hv hr => ?_
 subst hv
 clear hlay hrd hlo hwl hpre
 have hfa : mg "law" = some (.ref fa) := hmg
 rw [T.k_law.nm] at hfa
 cases hfa
 have hcall := F0 (names := DJ) T.k_law.fn G.T.nolimit Ra SQ (Sw T) (A := callerA) (fs := []) (s := s₁) ⟨rfl, by decide +kernel, by decide +kernel⟩ rfl ⟨fun _ _ e => e, trivial, fun _ z => by cases z⟩ (P := No) (fun _ z => z.elim) (fun _ z => z.elim)
  (ws := [.d (.list (ns.map .int))]) (vs := [.ref a]) rfl rfl (μ₀ := []) (cs₀ := []) rfl List.nodup_nil (fun _ z => by cases z) (fun i u v h1 h2 => by
   cases i with
   | zero => cases h1; cases h2; exact hr
   | succ i => cases h1) (fun i a c h => by cases h)
 have hp : (OX (CH DJ [.d (.list (ns.map .int))] [])).bind (fun p => .ok p.1) = .ok (.ret (.val (.bool true))) := PE ns hn
 cases e : OX (CH DJ [.d (.list (ns.map .int))] []) with
 | fail => rw [e] at hp; cases hp
 | exc x => rw [e] at hp; cases hp
 | ok p =>
  rw [e] at hp hcall
  have hp1 : p.1 = .ret (.val (.bool true)) := by injection hp
  refine To hcall (fun v s' h => ?_) fun _ _ h => h.elim
  have hg' := h.1
  have hv := h.2 (fun i z => absurd z (Nat.not_lt_zero i))
  have hv := hv.1
  rw [hp1] at hv
  have hv : v = .bool true := RD.bool_inv hv
  subst hv
  refine (Tg (.inl (Dc _ (.bool true) ([]) rfl (fun _ => rfl) (.bool true) (by first | kernel_rfl | wrow_post) (fun _ => ⟨List.nodup_nil, fun _ z => by cases z⟩))) (.of_keep fun b o e => hg'.mv.exact b o e (fun z => by cases z) (.inr (.inl fun z => by cases z))) hg'.os (.of_eq (hg'.gens.trans hg)))
end Mine
open PySem PySem.W PyProof.Rows PySem.Calls
open Mine
set_option maxRecDepth 100000 in
set_option maxHeartbeats 8000000 in
theorem PySem.Challenge.cw_pf0343_01_holds : PySem.Challenge.rw_pf0343_01.Holds := by
 refine holds_law (by decide +kernel) fun said => ?_
 refine holds_open (q := Q) (loose := ["BadText"]) (Xt := fun s => (xlAt Q [] s && recOk (RowW.records RR) s) && S7 s) (XP := fun mg h => XL Q [] mg h ∧ MG mg) (Yf := hk.obs) (Ya := hk.val) (YP := hk.says) (N := 3048) (fun w => by kernel_rfl) hk.of hk.keeps
  (fun s e => ⟨xl_of s (T5.mp (T5.mp e).1).1, TU (T5.mp e).2⟩) (fun mg h h' x k => ⟨XL.keeps mg h h' x.1 k, x.2⟩) (d := Po "law") (kwd := []) (by kernel_rfl) (by kernel_rfl) (by kernel_rfl)
  (fun s e => recFacts_of (T5.mp (T5.mp e).1).2) (by rfl) (by first | assumption | decide +kernel) (by decide +kernel) ⟨rfl, rfl, rfl, rfl, rfl, by decide +kernel⟩ ⟨[.list []], by decide +kernel, by decide +kernel⟩ walk
