import PyProof.Rows.All
import Wide.All
import OpenK.AllK
import Wide.FinOn
import PyProof.AttrMissSeq
import PySem.Challenge.RW_on0159_01
open PySem PySem.W PyProof.Rows PySem.Spec PySem.Calls
set_option Elab.async false
namespace Mine
set_option compiler.extract_closed false
set_option linter.all false
theorem unl : True := by
  (try (have kq : Function.const Program true PySem.Challenge.pw_on0159_01 = true := by (set_option maxHeartbeats 1 in k_qdec)))
  (try (have kq : Function.const OpenLaw true PySem.Challenge.rw_on0159_01 = true := by (set_option maxHeartbeats 1 in k_qdec)))
  trivial
section
local macro_rules | `(tactic| o_head (kHook $a $b $c)) => `(tactic| ((try (have kq : Function.const (Params → Frag) true $a = true := by (set_option maxHeartbeats 1 in k_qdec))); o_head ((kHook $a $b $c))))
local macro_rules | `(tactic| decide +kernel) => `(tactic| (set_option maxHeartbeats 1 in (k_qdec; fail)))
set_option maxRecDepth 100000 in
set_option maxHeartbeats 8000000 in
open_top hd for PySem.Challenge.rw_on0159_01
end
theorem fillit : (PySem.Challenge.rw_on0159_01.prog = PySem.Challenge.rw_on0159_01.prog) ∧ hd.heap_39 = hd.heap_39 := by
  w_top off
  k_fill
  exact ⟨rfl, rfl⟩

section

theorem up_dp {dp k n l : Nat} (h : dp + n < l) (e : k ≤ n) : dp + k < l := Nat.lt_of_le_of_lt (Nat.add_le_add_left e dp) h
theorem up_un {un a b : Nat} (h : un + a + 200 < cLine) (e : b ≤ a) : un + b + 200 < cLine := Nat.lt_of_le_of_lt (Nat.add_le_add_right (Nat.add_le_add_left e un) 200) h
theorem up_room {un a n : Nat} (h : un + a + 200 < cLine) (e : n ≤ 200) : un + n < cLine := Nat.lt_of_le_of_lt (Nat.add_le_add (Nat.le_add_right un a) e) h
theorem up_room0 {un a : Nat} (h : un + a + 200 < cLine) : un < cLine := Nat.lt_of_le_of_lt (Nat.le_trans (Nat.le_add_right un a) (Nat.le_add_right _ 200)) h
theorem goal_gen {G : Prop} (h : ∀ G' : Prop, (G → G') → G') : G := h G fun h => h
theorem ne_s {a b : Nat} (h : @Ne Nat a b) : @Ne Nat b a := fun e => h e.symm
theorem ex1.{u1} {α1 : Sort u1} {P : α1 → Prop} {G : Prop} (h : ∃ x1 : α1, P x1) (k : ∀ (x1 : α1), P x1 → G) : G := by
  obtain ⟨x1, h⟩ := h; exact k x1 h
theorem ex2.{u1, u2} {α1 : Sort u1} {α2 : Sort u2} {P : α1 → α2 → Prop} {G : Prop} (h : ∃ x1 : α1, ∃ x2 : α2, P x1 x2) (k : ∀ (x1 : α1) (x2 : α2), P x1 x2 → G) : G := by
  obtain ⟨x1, x2, h⟩ := h; exact k x1 x2 h
theorem ex3.{u1, u2, u3} {α1 : Sort u1} {α2 : Sort u2} {α3 : Sort u3} {P : α1 → α2 → α3 → Prop} {G : Prop} (h : ∃ x1 : α1, ∃ x2 : α2, ∃ x3 : α3, P x1 x2 x3) (k : ∀ (x1 : α1) (x2 : α2) (x3 : α3), P x1 x2 x3 → G) : G := by
  obtain ⟨x1, x2, x3, h⟩ := h; exact k x1 x2 x3 h
theorem ex4.{u1, u2, u3, u4} {α1 : Sort u1} {α2 : Sort u2} {α3 : Sort u3} {α4 : Sort u4} {P : α1 → α2 → α3 → α4 → Prop} {G : Prop} (h : ∃ x1 : α1, ∃ x2 : α2, ∃ x3 : α3, ∃ x4 : α4, P x1 x2 x3 x4) (k : ∀ (x1 : α1) (x2 : α2) (x3 : α3) (x4 : α4), P x1 x2 x3 x4 → G) : G := by
  obtain ⟨x1, x2, x3, x4, h⟩ := h; exact k x1 x2 x3 x4 h
theorem ex5.{u1, u2, u3, u4, u5} {α1 : Sort u1} {α2 : Sort u2} {α3 : Sort u3} {α4 : Sort u4} {α5 : Sort u5} {P : α1 → α2 → α3 → α4 → α5 → Prop} {G : Prop} (h : ∃ x1 : α1, ∃ x2 : α2, ∃ x3 : α3, ∃ x4 : α4, ∃ x5 : α5, P x1 x2 x3 x4 x5) (k : ∀ (x1 : α1) (x2 : α2) (x3 : α3) (x4 : α4) (x5 : α5), P x1 x2 x3 x4 x5 → G) : G := by
  obtain ⟨x1, x2, x3, x4, x5, h⟩ := h; exact k x1 x2 x3 x4 x5 h
theorem ex6.{u1, u2, u3, u4, u5, u6} {α1 : Sort u1} {α2 : Sort u2} {α3 : Sort u3} {α4 : Sort u4} {α5 : Sort u5} {α6 : Sort u6} {P : α1 → α2 → α3 → α4 → α5 → α6 → Prop} {G : Prop} (h : ∃ x1 : α1, ∃ x2 : α2, ∃ x3 : α3, ∃ x4 : α4, ∃ x5 : α5, ∃ x6 : α6, P x1 x2 x3 x4 x5 x6) (k : ∀ (x1 : α1) (x2 : α2) (x3 : α3) (x4 : α4) (x5 : α5) (x6 : α6), P x1 x2 x3 x4 x5 x6 → G) : G := by
  obtain ⟨x1, x2, x3, x4, x5, x6, h⟩ := h; exact k x1 x2 x3 x4 x5 x6 h
theorem ex7.{u1, u2, u3, u4, u5, u6, u7} {α1 : Sort u1} {α2 : Sort u2} {α3 : Sort u3} {α4 : Sort u4} {α5 : Sort u5} {α6 : Sort u6} {α7 : Sort u7} {P : α1 → α2 → α3 → α4 → α5 → α6 → α7 → Prop} {G : Prop} (h : ∃ x1 : α1, ∃ x2 : α2, ∃ x3 : α3, ∃ x4 : α4, ∃ x5 : α5, ∃ x6 : α6, ∃ x7 : α7, P x1 x2 x3 x4 x5 x6 x7) (k : ∀ (x1 : α1) (x2 : α2) (x3 : α3) (x4 : α4) (x5 : α5) (x6 : α6) (x7 : α7), P x1 x2 x3 x4 x5 x6 x7 → G) : G := by
  obtain ⟨x1, x2, x3, x4, x5, x6, x7, h⟩ := h; exact k x1 x2 x3 x4 x5 x6 x7 h
theorem ex9.{u1, u2, u3, u4, u5, u6, u7, u8, u9} {α1 : Sort u1} {α2 : Sort u2} {α3 : Sort u3} {α4 : Sort u4} {α5 : Sort u5} {α6 : Sort u6} {α7 : Sort u7} {α8 : Sort u8} {α9 : Sort u9} {P : α1 → α2 → α3 → α4 → α5 → α6 → α7 → α8 → α9 → Prop} {G : Prop} (h : ∃ x1 : α1, ∃ x2 : α2, ∃ x3 : α3, ∃ x4 : α4, ∃ x5 : α5, ∃ x6 : α6, ∃ x7 : α7, ∃ x8 : α8, ∃ x9 : α9, P x1 x2 x3 x4 x5 x6 x7 x8 x9) (k : ∀ (x1 : α1) (x2 : α2) (x3 : α3) (x4 : α4) (x5 : α5) (x6 : α6) (x7 : α7) (x8 : α8) (x9 : α9), P x1 x2 x3 x4 x5 x6 x7 x8 x9 → G) : G := by
  obtain ⟨x1, x2, x3, x4, x5, x6, x7, x8, x9, h⟩ := h; exact k x1 x2 x3 x4 x5 x6 x7 x8 x9 h
theorem ex14.{u1, u2, u3, u4, u5, u6, u7, u8, u9, u10, u11, u12, u13, u14} {α1 : Sort u1} {α2 : Sort u2} {α3 : Sort u3} {α4 : Sort u4} {α5 : Sort u5} {α6 : Sort u6} {α7 : Sort u7} {α8 : Sort u8} {α9 : Sort u9} {α10 : Sort u10} {α11 : Sort u11} {α12 : Sort u12} {α13 : Sort u13} {α14 : Sort u14} {P : α1 → α2 → α3 → α4 → α5 → α6 → α7 → α8 → α9 → α10 → α11 → α12 → α13 → α14 → Prop} {G : Prop} (h : ∃ x1 : α1, ∃ x2 : α2, ∃ x3 : α3, ∃ x4 : α4, ∃ x5 : α5, ∃ x6 : α6, ∃ x7 : α7, ∃ x8 : α8, ∃ x9 : α9, ∃ x10 : α10, ∃ x11 : α11, ∃ x12 : α12, ∃ x13 : α13, ∃ x14 : α14, P x1 x2 x3 x4 x5 x6 x7 x8 x9 x10 x11 x12 x13 x14) (k : ∀ (x1 : α1) (x2 : α2) (x3 : α3) (x4 : α4) (x5 : α5) (x6 : α6) (x7 : α7) (x8 : α8) (x9 : α9) (x10 : α10) (x11 : α11) (x12 : α12) (x13 : α13) (x14 : α14), P x1 x2 x3 x4 x5 x6 x7 x8 x9 x10 x11 x12 x13 x14 → G) : G := by
  obtain ⟨x1, x2, x3, x4, x5, x6, x7, x8, x9, x10, x11, x12, x13, x14, h⟩ := h; exact k x1 x2 x3 x4 x5 x6 x7 x8 x9 x10 x11 x12 x13 x14 h
theorem ex16.{u1, u2, u3, u4, u5, u6, u7, u8, u9, u10, u11, u12, u13, u14, u15, u16} {α1 : Sort u1} {α2 : Sort u2} {α3 : Sort u3} {α4 : Sort u4} {α5 : Sort u5} {α6 : Sort u6} {α7 : Sort u7} {α8 : Sort u8} {α9 : Sort u9} {α10 : Sort u10} {α11 : Sort u11} {α12 : Sort u12} {α13 : Sort u13} {α14 : Sort u14} {α15 : Sort u15} {α16 : Sort u16} {P : α1 → α2 → α3 → α4 → α5 → α6 → α7 → α8 → α9 → α10 → α11 → α12 → α13 → α14 → α15 → α16 → Prop} {G : Prop} (h : ∃ x1 : α1, ∃ x2 : α2, ∃ x3 : α3, ∃ x4 : α4, ∃ x5 : α5, ∃ x6 : α6, ∃ x7 : α7, ∃ x8 : α8, ∃ x9 : α9, ∃ x10 : α10, ∃ x11 : α11, ∃ x12 : α12, ∃ x13 : α13, ∃ x14 : α14, ∃ x15 : α15, ∃ x16 : α16, P x1 x2 x3 x4 x5 x6 x7 x8 x9 x10 x11 x12 x13 x14 x15 x16) (k : ∀ (x1 : α1) (x2 : α2) (x3 : α3) (x4 : α4) (x5 : α5) (x6 : α6) (x7 : α7) (x8 : α8) (x9 : α9) (x10 : α10) (x11 : α11) (x12 : α12) (x13 : α13) (x14 : α14) (x15 : α15) (x16 : α16), P x1 x2 x3 x4 x5 x6 x7 x8 x9 x10 x11 x12 x13 x14 x15 x16 → G) : G := by
  obtain ⟨x1, x2, x3, x4, x5, x6, x7, x8, x9, x10, x11, x12, x13, x14, x15, x16, h⟩ := h; exact k x1 x2 x3 x4 x5 x6 x7 x8 x9 x10 x11 x12 x13 x14 x15 x16 h
theorem ex21.{u1, u2, u3, u4, u5, u6, u7, u8, u9, u10, u11, u12, u13, u14, u15, u16, u17, u18, u19, u20, u21} {α1 : Sort u1} {α2 : Sort u2} {α3 : Sort u3} {α4 : Sort u4} {α5 : Sort u5} {α6 : Sort u6} {α7 : Sort u7} {α8 : Sort u8} {α9 : Sort u9} {α10 : Sort u10} {α11 : Sort u11} {α12 : Sort u12} {α13 : Sort u13} {α14 : Sort u14} {α15 : Sort u15} {α16 : Sort u16} {α17 : Sort u17} {α18 : Sort u18} {α19 : Sort u19} {α20 : Sort u20} {α21 : Sort u21} {P : α1 → α2 → α3 → α4 → α5 → α6 → α7 → α8 → α9 → α10 → α11 → α12 → α13 → α14 → α15 → α16 → α17 → α18 → α19 → α20 → α21 → Prop} {G : Prop} (h : ∃ x1 : α1, ∃ x2 : α2, ∃ x3 : α3, ∃ x4 : α4, ∃ x5 : α5, ∃ x6 : α6, ∃ x7 : α7, ∃ x8 : α8, ∃ x9 : α9, ∃ x10 : α10, ∃ x11 : α11, ∃ x12 : α12, ∃ x13 : α13, ∃ x14 : α14, ∃ x15 : α15, ∃ x16 : α16, ∃ x17 : α17, ∃ x18 : α18, ∃ x19 : α19, ∃ x20 : α20, ∃ x21 : α21, P x1 x2 x3 x4 x5 x6 x7 x8 x9 x10 x11 x12 x13 x14 x15 x16 x17 x18 x19 x20 x21) (k : ∀ (x1 : α1) (x2 : α2) (x3 : α3) (x4 : α4) (x5 : α5) (x6 : α6) (x7 : α7) (x8 : α8) (x9 : α9) (x10 : α10) (x11 : α11) (x12 : α12) (x13 : α13) (x14 : α14) (x15 : α15) (x16 : α16) (x17 : α17) (x18 : α18) (x19 : α19) (x20 : α20) (x21 : α21), P x1 x2 x3 x4 x5 x6 x7 x8 x9 x10 x11 x12 x13 x14 x15 x16 x17 x18 x19 x20 x21 → G) : G := by
  obtain ⟨x1, x2, x3, x4, x5, x6, x7, x8, x9, x10, x11, x12, x13, x14, x15, x16, x17, x18, x19, x20, x21, h⟩ := h; exact k x1 x2 x3 x4 x5 x6 x7 x8 x9 x10 x11 x12 x13 x14 x15 x16 x17 x18 x19 x20 x21 h
theorem an2 {p1 p2 G : Prop} (h : p1 ∧ p2) (k : p1 → p2 → G) : G := by
  obtain ⟨h1, h2⟩ := h; exact k h1 h2
theorem an3 {p1 p2 p3 G : Prop} (h : p1 ∧ p2 ∧ p3) (k : p1 → p2 → p3 → G) : G := by
  obtain ⟨h1, h2, h3⟩ := h; exact k h1 h2 h3
theorem an4 {p1 p2 p3 p4 G : Prop} (h : p1 ∧ p2 ∧ p3 ∧ p4) (k : p1 → p2 → p3 → p4 → G) : G := by
  obtain ⟨h1, h2, h3, h4⟩ := h; exact k h1 h2 h3 h4
theorem an5 {p1 p2 p3 p4 p5 G : Prop} (h : p1 ∧ p2 ∧ p3 ∧ p4 ∧ p5) (k : p1 → p2 → p3 → p4 → p5 → G) : G := by
  obtain ⟨h1, h2, h3, h4, h5⟩ := h; exact k h1 h2 h3 h4 h5
theorem an6 {p1 p2 p3 p4 p5 p6 G : Prop} (h : p1 ∧ p2 ∧ p3 ∧ p4 ∧ p5 ∧ p6) (k : p1 → p2 → p3 → p4 → p5 → p6 → G) : G := by
  obtain ⟨h1, h2, h3, h4, h5, h6⟩ := h; exact k h1 h2 h3 h4 h5 h6
theorem an7 {p1 p2 p3 p4 p5 p6 p7 G : Prop} (h : p1 ∧ p2 ∧ p3 ∧ p4 ∧ p5 ∧ p6 ∧ p7) (k : p1 → p2 → p3 → p4 → p5 → p6 → p7 → G) : G := by
  obtain ⟨h1, h2, h3, h4, h5, h6, h7⟩ := h; exact k h1 h2 h3 h4 h5 h6 h7
theorem an8 {p1 p2 p3 p4 p5 p6 p7 p8 G : Prop} (h : p1 ∧ p2 ∧ p3 ∧ p4 ∧ p5 ∧ p6 ∧ p7 ∧ p8) (k : p1 → p2 → p3 → p4 → p5 → p6 → p7 → p8 → G) : G := by
  obtain ⟨h1, h2, h3, h4, h5, h6, h7, h8⟩ := h; exact k h1 h2 h3 h4 h5 h6 h7 h8
theorem an9 {p1 p2 p3 p4 p5 p6 p7 p8 p9 G : Prop} (h : p1 ∧ p2 ∧ p3 ∧ p4 ∧ p5 ∧ p6 ∧ p7 ∧ p8 ∧ p9) (k : p1 → p2 → p3 → p4 → p5 → p6 → p7 → p8 → p9 → G) : G := by
  obtain ⟨h1, h2, h3, h4, h5, h6, h7, h8, h9⟩ := h; exact k h1 h2 h3 h4 h5 h6 h7 h8 h9
theorem an13 {p1 p2 p3 p4 p5 p6 p7 p8 p9 p10 p11 p12 p13 G : Prop} (h : p1 ∧ p2 ∧ p3 ∧ p4 ∧ p5 ∧ p6 ∧ p7 ∧ p8 ∧ p9 ∧ p10 ∧ p11 ∧ p12 ∧ p13) (k : p1 → p2 → p3 → p4 → p5 → p6 → p7 → p8 → p9 → p10 → p11 → p12 → p13 → G) : G := by
  obtain ⟨h1, h2, h3, h4, h5, h6, h7, h8, h9, h10, h11, h12, h13⟩ := h; exact k h1 h2 h3 h4 h5 h6 h7 h8 h9 h10 h11 h12 h13
theorem an15 {p1 p2 p3 p4 p5 p6 p7 p8 p9 p10 p11 p12 p13 p14 p15 G : Prop} (h : p1 ∧ p2 ∧ p3 ∧ p4 ∧ p5 ∧ p6 ∧ p7 ∧ p8 ∧ p9 ∧ p10 ∧ p11 ∧ p12 ∧ p13 ∧ p14 ∧ p15) (k : p1 → p2 → p3 → p4 → p5 → p6 → p7 → p8 → p9 → p10 → p11 → p12 → p13 → p14 → p15 → G) : G := by
  obtain ⟨h1, h2, h3, h4, h5, h6, h7, h8, h9, h10, h11, h12, h13, h14, h15⟩ := h; exact k h1 h2 h3 h4 h5 h6 h7 h8 h9 h10 h11 h12 h13 h14 h15
theorem an16 {p1 p2 p3 p4 p5 p6 p7 p8 p9 p10 p11 p12 p13 p14 p15 p16 G : Prop} (h : p1 ∧ p2 ∧ p3 ∧ p4 ∧ p5 ∧ p6 ∧ p7 ∧ p8 ∧ p9 ∧ p10 ∧ p11 ∧ p12 ∧ p13 ∧ p14 ∧ p15 ∧ p16) (k : p1 → p2 → p3 → p4 → p5 → p6 → p7 → p8 → p9 → p10 → p11 → p12 → p13 → p14 → p15 → p16 → G) : G := by
  obtain ⟨h1, h2, h3, h4, h5, h6, h7, h8, h9, h10, h11, h12, h13, h14, h15, h16⟩ := h; exact k h1 h2 h3 h4 h5 h6 h7 h8 h9 h10 h11 h12 h13 h14 h15 h16

noncomputable abbrev Led := List (Addr × Obj)

noncomputable def Apart (l r : Led) : Prop := ∀ p ∈ l, ∀ q ∈ r, @Ne Nat p.1 q.1

theorem Apart.nil {r : Led} : Apart [] r := fun _ h => nomatch h
theorem Apart.cons {p : Addr × Obj} {l r : Led} (h : ∀ q ∈ r, @Ne Nat p.1 q.1) (t : Apart l r) : Apart (p :: l) r := fun x hx => by
  rcases List.mem_cons.mp hx with rfl | hx
  · exact h
  · exact t x hx

noncomputable def Spec (k : Nat) (prog : Program) (w : World) (mean : ExcName → Option Value) (mg mb : Str → Option Value) (f : Addr) (vs : List Value) (news : Led) (R : Value → Led → Prop) : Prop :=
  ∀ (dp un : Nat) (gd : Option (List Code)) (cn : Str) (cs : Scope) (a : Addr) (ccd : Value) (cl : List (Str × Addr)) (outer : List Env) (A₀ : Around) (base h₀ : Heap) (L : Addr) (m : Str → Option Value) (rest : Led) (s : Shared) (Q E : Value → Shared → Prop),
    Below A₀ base outer h₀ → Fr h₀ L s.heap m → (hd.heap_39 w.params).In h₀ → News h₀ L s.heap (news ++ rest) → Apart news rest →
    Top hd.view_39 (looseW hd.view_39 []) mean mg mb h₀ → cs.kind = .function → dp + k < recursionLimit → un + 8 * k + 200 < cLine →
    (∀ v news' h' tk', R v news' → Fr h₀ L h' m → News h₀ L h' (news' ++ rest) → Apart news' rest → Q v { s with heap := h', toks := tk' }) →
    wpAny (model prog w) (ktrTop dp un gd cn cs L a ccd cl outer) (call (.ref f) vs) Q E s

noncomputable def BodyEnd (g : Heap) (L' : Addr) (s : Shared) (R : Value → Led → Prop) (fl : Flow) (s' : Shared) : Prop :=
  ∃ h' tk' m' news', s' = { s with heap := h', toks := tk' } ∧ Fr g L' h' m' ∧ News g L' h' news' ∧ R (match fl with | .ret v => v | _ => .none) news'

theorem BodyEnd.intro {g : Heap} {L' : Addr} {s : Shared} {R : Value → Led → Prop} {fl : Flow} {h' : Heap} {tk' : Nat} {m' : Str → Option Value} {all news' : Led}
    (F : Fr g L' h' m') (N : News g L' h' all) (hR : R (match fl with | .ret v => v | _ => .none) news') (hs : ∀ p ∈ news', p ∈ all) : BodyEnd g L' s R fl { s with heap := h', toks := tk' } :=
  ⟨h', tk', m', news', rfl, F, fun p hp => N p (hs p hp), hR⟩

section
variable {prog : Program} {w : World} {mean : ExcName → Option Value} {mg mb : Str → Option Value} {f : Addr} {vs : List Value} {news : Led} {R : Value → Led → Prop}
  {name qual : Str} {params : Arguments} {body : List Stmt} {scope : Scope} {dV kV doc pm cdv ct oc : Value} {an od : Option Addr} {osl : Array (Option Value)} {binds : List (Str × Value)}

theorem back_rest {h₀ g H h' : Heap} {L L' : Addr} {m' : Str → Option Value} {news news' rest : Led} (G : GSub H g (news.map (·.1))) (N : News h₀ L H (news ++ rest)) (ap : Apart news rest)
    (F' : Fr g L' h' m') (N' : News g L' h' news') (N2 : News h₀ L h' news') : News h₀ L h' (news' ++ rest) ∧ Apart news' rest := by
  have there : ∀ q ∈ rest, g.get? q.1 = some q.2 := fun q hq => G q.1 q.2 (N q (List.mem_append_right _ hq)).1 fun hm => by
    obtain ⟨p, hp, e⟩ := List.mem_map.mp hm
    exact ap p hp q hq e
  refine ⟨fun p hp => ?_, fun p hp q hq e => ?_⟩
  · rcases List.mem_append.mp hp with hp | hp
    · exact N2 p hp
    · exact ⟨F'.keep _ _ (there p hp), (N p (List.mem_append_right _ hp)).2⟩
  · have h1 := (N' p hp).2.2
    have e' : p.1 = q.1 := e
    rw [e', there q hq] at h1
    cases h1

theorem spec_plain {k : Nat}
    (ho : (hd.heap_39 w.params).lookup f = some ⟨oc, od, .func (fnOf name qual params body scope dV kV doc pm an cdv ct), osl⟩)
    (hcd : codeIn (hd.heap_39 w.params) cdv qual = true)
    (hbind : bindArgs (fnOf name qual params body scope dV kV doc pm an cdv ct) ⟨vs, []⟩ = pure binds)
    (hloc : ∀ y ∈ binds, scope.names.lookup y.1 = some .local)
    (hcell : ∀ x ∈ scope.names, x.2 ≠ .cell) (hco : scope.isCoroutine = false) (hgen : scope.isGenerator = false) (hk : scope.kind = .function)
    (h : ∀ (dp un : Nat) (gd : Option (List Code)) (outer : List Env) (A : Around) (base g : Heap) (L' : Addr) (h₁ : Heap) (tk : Nat) (s : Shared), Below A base outer g → Fr g L' h₁ (fun y => binds.reverse.lookup y) → News g L' h₁ news →
      (hd.heap_39 w.params).In g → Top hd.view_39 (looseW hd.view_39 []) mean mg mb g → dp + k < recursionLimit → un + 8 * k + 200 < cLine →
      wpAny (model prog w) (ktrTop dp un gd qual scope L' f cdv [] outer) (execs body (envX qual scope L' f cdv [])) (BodyEnd g L' s R) (fun _ _ => False) { s with heap := h₁, toks := tk }) :
    Spec (k + 1) prog w mean mg mb f vs news R := by
  intro dp un gd cn cs a ccd cl outer A₀ base h₀ L m rest s Q E B F X N ap T hck hdp hun hret
  refine wpAny_call ?_
  have N₀ : News h₀ L s.heap news := fun p hp => N p (List.mem_append_left _ hp)
  refine code_defG B F X N₀ T rfl rfl hck ho hcd (show dp < recursionLimit by omega) (BindsTo.of_eq hbind) hloc (fun g L' h₁ FG F' N' B' X' T' G => ?_) hco hgen hk hcell
  refine wpAny_mono (h (dp + 1) (un + 3) gd (envX cn cs L a ccd cl :: outer) _ base g L' h₁ (s.toks + binds.length) s B' F' N' X' T' (by omega) (by omega)) (fun fl s' hb => ?_) fun _ _ e => e.elim
  obtain ⟨h', tk', m', news', rfl, F₂, N₂, hR⟩ := hb
  refine leaveK_ F₂ N₂ fun F₃ N₃ => ?_
  obtain ⟨N₄, ap₄⟩ := back_rest G N ap F₂ N₂ N₃
  exact hret _ news' h' tk' hR F₃ N₄ ap₄

theorem spec_cells {k : Nat}
    (ho : (hd.heap_39 w.params).lookup f = some ⟨oc, od, .func (fnOf name qual params body scope dV kV doc pm an cdv ct), osl⟩)
    (hcd : codeIn (hd.heap_39 w.params) cdv qual = true)
    (hbind : bindArgs (fnOf name qual params body scope dV kV doc pm an cdv ct) ⟨vs, []⟩ = pure binds)
    (hkind : (binds.all fun y => scope.names.lookup y.1 == some .local || scope.names.lookup y.1 == some .cell) = true)
    (hnd : ((cellsFrom 0 scope.names []).map (·.1)).Nodup) (hco : scope.isCoroutine = false) (hgen : scope.isGenerator = false) (hk : scope.kind = .function)
    (h : ∀ (dp un : Nat) (gd : Option (List Code)) (outer : List Env) (A : Around) (base g : Heap) (L' : Addr) (h₁ : Heap) (tk : Nat) (s : Shared) (cells : Led), Below A base outer g → Fr g L' h₁ (bindL (envOfC qual scope L' f cdv).kindOf binds fun _ => none) → News g L' h₁ (cells ++ news) →
      CellsAre (bindC (envOfC qual scope L' f cdv).kindOf binds fun _ => none) (cellsFrom (L' + 1) scope.names []) cells → (∀ p ∈ news, p.1 < L') →
      (hd.heap_39 w.params).In g → Top hd.view_39 (looseW hd.view_39 []) mean mg mb g → dp + k < recursionLimit → un + 8 * k + 200 < cLine →
      wpAny (model prog w) (ktrTop dp un gd qual scope L' f cdv (cellsFrom (L' + 1) scope.names []) outer) (execs body (envX qual scope L' f cdv (cellsFrom (L' + 1) scope.names []))) (BodyEnd g L' s R) (fun _ _ => False) { s with heap := h₁, toks := tk }) :
    Spec (k + 1) prog w mean mg mb f vs news R := by
  intro dp un gd cn cs a ccd cl outer A₀ base h₀ L m rest s Q E B F X N ap T hck hdp hun hret
  refine wpAny_call ?_
  have N₀ : News h₀ L s.heap news := fun p hp => N p (List.mem_append_left _ hp)
  have XS := X.keeps F.keep
  obtain ⟨FG, BG, st, lv⟩ := groundX (R := fun r s' => match r with | .ok (.ret v) => Q v s' | .ok _ => False | .error e => E e s') (A := ktrTop dp un gd cn cs L a ccd cl outer) B F N₀ rfl rfl hck
  have G : GSub s.heap (hideAll s.heap (news.map (·.1))) (news.map (·.1)) := fun b o e n => hideAll_get _ e n
  refine codeAny_call_function (show dp < recursionLimit by omega) (XS _ _ ho) rfl hco hgen rfl (codeRec_of XS hcd) ((BindsTo.of_eq hbind) _ _ _ _ ?_)
  refine wpAny_newFunctionEnv_cells hk (kindsX hkind _) fun env' he s' x => ?_
  subst he
  refine ⟨(T.nolimit.keeps F.keep).keeps x.toInCall.keep, codeAny_func ?_⟩
  obtain ⟨h₁, tk, rfl, _⟩ := x.done
  have hk₁ := x.toInCall.keep
  obtain ⟨cells, NC, Y⟩ := Cl.news (h₀ := s.heap) (Nat.le_refl _) fun n c hm => ⟨x.cell n c (lookup_of_mem_nodup (cellsFrom_names scope.names 0 (s.heap.objs.size + 1) [] [] rfl ▸ hnd) hm), x.above n c hm⟩
  have N₁ : News (hideAll s.heap (news.map (·.1))) s.heap.objs.size h₁ (cells ++ news) := fun p hp => by
    rcases List.mem_append.mp hp with hp | hp
    · refine ⟨(NC p hp).1, (NC p hp).2.1, ?_⟩
      cases q : (hideAll s.heap (news.map (·.1))).get? p.1 with
      | none => rfl
      | some o => have := of_hideAll _ q; rw [(NC p hp).2.2] at this; cases this
    · exact ⟨hk₁ _ _ (N₀ p hp).1, Nat.ne_of_lt (Heap.lt_size (N₀ p hp).1), hideAll_none _ (List.mem_map_of_mem hp)⟩
  refine wpAny_mono (h (dp + 1) (un + 3) gd (envX cn cs L a ccd cl :: outer) _ base _ s.heap.objs.size h₁ tk s cells BG ⟨x.toInCall.ns, fun b o e => hk₁ b o (of_hideAll _ e), Nat.le_of_eq (hideAll_size _ _)⟩ N₁ Y (fun p hp => Heap.lt_size (N₀ p hp).1) (X.keeps st) (T.keeps st) (by omega) (by omega)) (fun fl s' hb => ?_) fun _ _ e => e.elim
  obtain ⟨h', tk', m', news', rfl, F₂, N₂, hR⟩ := hb
  refine lv _ _ (leaveK_ F₂ N₂ fun F₃ N₃ => ?_)
  obtain ⟨N₄, ap₄⟩ := back_rest G N ap F₂ N₂ N₃
  exact hret _ news' h' tk' hR F₃ N₄ ap₄
end
end


section
open Sem (wp)
theorem wp_execs_app {M : Model} {Γ : PySem.Ctx} {env : Env} : ∀ {l₁ l₂ : List Stmt} {Q : Flow → Pos → Shared → Prop} {E : Value → Pos → Shared → Prop} {p : Pos} {s : Shared},
    wp M Γ (execs l₁ env) (fun f p' s' => match f with | .next => wp M Γ (execs l₂ env) Q E p' s' | f => Q f p' s') E p s → wp M Γ (execs (l₁ ++ l₂) env) Q E p s
  | [], _, _, _, _, _, h => h
  | x :: l₁, l₂, Q, E, p, s, h => by
    show wp M Γ (execs (x :: (l₁ ++ l₂)) env) Q E p s
    rw [execs_cons, Sem.wp_bind'] at h ⊢
    refine Sem.wp_mono M Γ _ (fun f p' s' h' => ?_) (fun _ _ _ h' => h') p s h
    cases f with
    | next => exact wp_execs_app h'
    | brk => exact h'
    | cont => exact h'
    | ret v => exact h'

section
variable {M : Model} {A : Around} {E : Value → Shared → Prop} {s : Shared} {env : Env}

noncomputable def Mid (g : Heap) (L : Addr) (s : Shared) (P : (Str → Option Value) → Led → Prop) (Q : Flow → Shared → Prop) (fl : Flow) (s' : Shared) : Prop := match fl with
  | .next => ∃ h' tk' m' news', s' = { s with heap := h', toks := tk' } ∧ Fr g L h' m' ∧ News g L h' news' ∧ P m' news'
  | f => Q f s'

theorem Mid.intro {g : Heap} {L : Addr} {P : (Str → Option Value) → Led → Prop} {Q : Flow → Shared → Prop} {h' : Heap} {tk' : Nat} {m' : Str → Option Value} {all news' : Led}
    (F : Fr g L h' m') (N : News g L h' all) (hP : P m' news') (hs : ∀ p ∈ news', p ∈ all) : Mid g L s P Q .next { s with heap := h', toks := tk' } :=
  ⟨h', tk', m', news', rfl, F, fun p hp => N p (hs p hp), hP⟩

theorem Mid.ret {g : Heap} {L : Addr} {P : (Str → Option Value) → Led → Prop} {Q : Flow → Shared → Prop} {v : Value} {s' : Shared} (h : Q (.ret v) s') : Mid g L s P Q (.ret v) s' := h

theorem execs_cut {l : List Stmt} {g : Heap} {L : Addr} {Q : Flow → Shared → Prop} (n : Nat) (P : (Str → Option Value) → Led → Prop)
    (h1 : wpAny M A (execs (l.take n) env) (Mid g L s P Q) E s)
    (h2 : ∀ h' tk' m' news', Fr g L h' m' → News g L h' news' → P m' news' → wpAny M A (execs (l.drop n) env) Q E { s with heap := h', toks := tk' }) :
    wpAny M A (execs l env) Q E s := fun Γ p hΓ => by
  have e : l = l.take n ++ l.drop n := (List.take_append_drop n l).symm
  rw [e]
  refine wp_execs_app (Sem.wp_mono M Γ _ (fun f p' s' h' => ?_) (fun _ _ _ h' => h') p s (h1 Γ p hΓ))
  cases f with
  | next =>
    obtain ⟨h'', tk', m', news', rfl, F, N, hP⟩ := h'
    exact h2 _ _ _ _ F N hP Γ p' hΓ
  | brk => exact h'
  | cont => exact h'
  | ret v => exact h'

theorem fr_same {h₀ : Heap} {L : Addr} {h : Heap} {m m' : Str → Option Value} (F : Fr h₀ L h m) (e : ∀ y, m y = m' y) : Fr h₀ L h m' := (funext e : m = m') ▸ F
theorem fr_dup {h₀ : Heap} {L : Addr} {h : Heap} {k : Str} {v v' : Option Value} {r : Str → Option Value} (F : Fr h₀ L h (fun y => if y = k then v else if y = k then v' else r y)) : Fr h₀ L h (fun y => if y = k then v else r y) :=
  fr_same F fun y => by by_cases h : y = k <;> simp [h]
theorem fr_dup2 {h₀ : Heap} {L : Addr} {h : Heap} {k j : Str} {v u v' : Option Value} {r : Str → Option Value} (F : Fr h₀ L h (fun y => if y = k then v else if y = j then u else if y = k then v' else r y)) : Fr h₀ L h (fun y => if y = k then v else if y = j then u else r y) :=
  fr_same F fun y => by by_cases h : y = k <;> simp [h]

noncomputable def mp : List (Str × Value) → Str → Option Value
  | [] => fun _ => none
  | (k, v) :: r => fun y => if y = k then some v else mp r y
theorem lookup_mp : ∀ (l : List (Str × Value)) (y : Str), List.lookup y l = mp l y
  | [], _ => rfl
  | (k, v) :: r, y => by
    rw [List.lookup_cons]
    show _ = if y = k then some v else mp r y
    by_cases h : y = k
    · subst h; simp
    · rw [if_neg h, beq_eq_false_iff_ne.mpr h]; exact lookup_mp r y
end
end


section

theorem Spec.use {k : Nat} {prog : Program} {w : World} {mean : ExcName → Option Value} {mg mb : Str → Option Value} {f : Addr} {vs : List Value} {news : Led} {R : Value → Led → Prop}
    (S : Spec k prog w mean mg mb f vs news R) {dp un : Nat} {gd : Option (List Code)} {cn : Str} {cs : Scope} {a : Addr} {ccd : Value} {cl : List (Str × Addr)} {outer : List Env} {A₀ : Around} {base h₀ : Heap} {L : Addr} {m : Str → Option Value} {all : Led} {s : Shared} {Q E : Value → Shared → Prop}
    (B : Below A₀ base outer h₀) (F : Fr h₀ L s.heap m) (X : (hd.heap_39 w.params).In h₀) (N : News h₀ L s.heap all) (T : Top hd.view_39 (looseW hd.view_39 []) mean mg mb h₀) (hck : cs.kind = .function) (hdp : dp + k < recursionLimit) (hun : un + 8 * k + 200 < cLine)
    (rest : Led) (hs : ∀ p ∈ news ++ rest, p ∈ all) (ap : Apart news rest)
    (ret : ∀ v news' h' tk', R v news' → Fr h₀ L h' m → News h₀ L h' (news' ++ rest) → Apart news' rest → Q v { s with heap := h', toks := tk' }) :
    wpAny (model prog w) (ktrTop dp un gd cn cs L a ccd cl outer) (call (.ref f) vs) Q E s :=
  S dp un gd cn cs a ccd cl outer A₀ base h₀ L m rest s Q E B F X (fun p hp => N p (hs p hp)) ap T hck hdp hun ret

section
open LCg LCt
variable {prog : Program} {w : World} {A : Around} {h₀ : Heap} {L : Addr} {m : Str → Option Value} {env : Env} {ct elt : Expr} {x : Str} {scope : Scope} {cl : List (Str × Addr)} {s : Shared} {S : Led → Prop} {P : Nat → Value → Prop} {Fin : List Value → Led → Prop}

theorem restT_of {n : Nat} (J : Nat → List Value → Led → Prop)
    (turn : ∀ (i : Nat) v ys news I oI C oC D m₂ h tk (E' : Value → Shared → Prop), i < n → P i v → J i ys news → NsObj oC m₂ → m₂ x = some v → Fr h₀ L h m → News h₀ L h ((I, oI) :: (C, oC) :: (D, lst ys) :: news) → Off3 I C D news → ((@Ne Nat I C) ∧ (@Ne Nat I D) ∧ (@Ne Nat C D)) →
      wpAny (model prog w) A (isTrue ct (compEnvC scope cl C env) (eval ct (compEnvC scope cl C env))) (fun ok s' => if ok = true then
        wpAny (model prog w) A (eval elt (compEnvC scope cl C env)) (CompEnd h₀ L m { s with heap := h, toks := tk } I oI C oC D (lst ys) S (fun y news' => J (i + 1) (ys ++ [y]) news')) E' s'
        else CompEnd h₀ L m { s with heap := h, toks := tk } I oI C oC D (lst ys) S (fun _ news' => J (i + 1) ys news') Value.none s') E' { s with heap := h, toks := tk })
    (fin : ∀ ys news, J n ys news → Fin ys news) : ∀ (k i : Nat) ys news, i + k = n → J i ys news → CompRestT prog w A h₀ L m env ct elt x scope cl s S P Fin k i ys news
  | 0, i, ys, news, hi, hJ => CompRestT.zero (fin ys news (by have : i = n := by omega
                                                              exact this ▸ hJ))
  | k + 1, i, ys, news, hi, hJ => CompRestT.succ fun v I oI C oC D m₂ h tk E' hP hC hx F N off ne => by
    refine wpAny_mono (turn i v ys news I oI C oC D m₂ h tk E' (by omega) hP hJ hC hx F N off ne) (fun ok s' hq => ?_) fun _ _ e => e
    cases ok with
    | true =>
      simp only [if_true] at hq ⊢
      refine wpAny_mono hq (fun y s₂ hq' => ?_) fun _ _ e => e
      obtain ⟨h', tk', nw, e, F', N', off', hS, hJ'⟩ := hq'
      exact ⟨h', tk', nw, e, F', N', off', hS, restT_of J turn fin k (i + 1) _ nw (by omega) hJ'⟩
    | false =>
      simp only [Bool.false_eq_true, if_false] at hq ⊢
      obtain ⟨h', tk', nw, e, F', N', off', hS, hJ'⟩ := hq
      exact ⟨h', tk', nw, e, F', N', off', hS, restT_of J turn fin k (i + 1) _ nw (by omega) hJ'⟩

theorem rest_of {n : Nat} (J : Nat → List Value → Led → Prop)
    (turn : ∀ (i : Nat) v ys news I oI C oC D m₂ h tk (E' : Value → Shared → Prop), i < n → P i v → J i ys news → NsObj oC m₂ → m₂ x = some v → Fr h₀ L h m → News h₀ L h ((I, oI) :: (C, oC) :: (D, lst ys) :: news) → Off3 I C D news → ((@Ne Nat I C) ∧ (@Ne Nat I D) ∧ (@Ne Nat C D)) →
      wpAny (model prog w) A (eval elt (compEnvC scope cl C env)) (CompEnd h₀ L m { s with heap := h, toks := tk } I oI C oC D (lst ys) S (fun y news' => J (i + 1) (ys ++ [y]) news')) E' { s with heap := h, toks := tk })
    (fin : ∀ ys news, J n ys news → Fin ys news) : ∀ (k i : Nat) ys news, i + k = n → J i ys news → CompRest prog w A h₀ L m env elt x scope cl s S P Fin k i ys news
  | 0, i, ys, news, hi, hJ => CompRest.zero (fin ys news (by have : i = n := by omega
                                                             exact this ▸ hJ))
  | k + 1, i, ys, news, hi, hJ => CompRest.succ fun v I oI C oC D m₂ h tk E' hP hC hx F N off ne => by
    refine wpAny_mono (turn i v ys news I oI C oC D m₂ h tk E' (by omega) hP hJ hC hx F N off ne) (fun y s' hq => ?_) fun _ _ e => e
    obtain ⟨h', tk', nw, e, F', N', off', hS, hJ'⟩ := hq
    exact ⟨h', tk', nw, e, F', N', off', hS, rest_of J turn fin k (i + 1) _ nw (by omega) hJ'⟩
end
end

local macro_rules | `(tactic| walk_at "MINE ne") => `(tactic| first | assumption | exact Ne.symm (by assumption) | exact Nat.ne_of_lt (by assumption) | exact Nat.ne_of_gt (by assumption) | (simp only [*, ne_eq, not_false_eq_true]; done) | (refine Ne.symm ?_; simp only [*, ne_eq, not_false_eq_true]; done) | exact Nat.ne_of_lt (by simp only [*]; done) | exact Nat.ne_of_gt (by simp only [*]; done) | omega)
local macro_rules | `(tactic| k_ne) => `(tactic| (refine neN ?_; (try dsimp only); walk_at "MINE ne"))

local macro_rules | `(tactic| walk_at "binaryOp Pow int int") => `(tactic| (with_reducible refine pow_int_small (by decide) (by decide) (by assumption) ?_))
local macro_rules | `(tactic| walk_at "DivisorWantsNonzero") => `(tactic| (show False; simp_all; done))
local macro_rules | `(tactic| units_room) => `(tactic| first | exact up_room (by assumption) (by decide) | exact up_room0 (by assumption) | (have hcL' := cLine_is; (try dsimp only [ktrTop]); omega))
section

noncomputable abbrev penO (q : Addr) (sp : Int) (t1 : Tok) (pool : Int) (t2 : Tok) (n : Nat) : Obj := listOf #[.ref q, .int sp t1, .int pool t2] n

noncomputable def PenOk (k : Nat) (q : Addr) (po : Obj) : Prop := ∃ (sp : Int) (t1 : Tok) (pool : Int) (t2 : Tok) (n : Nat), po = penO q sp t1 pool t2 n ∧ 0 ≤ sp ∧ sp ≤ k ∧ 0 ≤ pool

set_option maxRecDepth 100000 in
set_option maxHeartbeats 400000 in
theorem draw_ok {prog : Program} {w : World} {mean : ExcName → Option Value} {mg mb : Str → Option Value} {k : Nat}
  {p q : Addr} {sp : Int} {t1 : Tok} {pool : Int} {t2 : Tok} {n nq : Nat} {cs : List Value} {xs : List Int} {many : Int} {tm : Tok}
  (hsp : 0 ≤ sp) (hspk : sp ≤ k) (hk : k < 1000) (hpool : 0 ≤ pool) (hpq : @Ne Nat p q) (hm : 1 ≤ many) (hm2 : many ≤ 100)
  (hi : IntsAre cs xs) (hxl : xs.length ≤ 40) :
  Spec 2 prog w mean mg mb 162 [.ref p, .int many tm] [(p, penO q sp t1 pool t2 n), (q, listOf cs.toArray nq)]
    (fun v nw => ∃ d t po, v = .int d t ∧ 0 ≤ d ∧ d < many ∧ nw = [(p, po), (q, listOf cs.toArray nq)] ∧ PenOk (k + 1) q po) := by
  ((refine' spec_plain ?ho ?hcd ?hb ?hl ?c5 ?c2 ?c3 ?c4 ?_; (case ho => k_dflt k_is); (case hcd => k_dflt k_is); (case hb => rfl); (case hl => exact locs rfl); (case c5 => decide); (case c2 => exact rfl); (case c3 => exact rfl); (case c4 => exact rfl)))
  intro dp un gd outer A base g L' h₁ tk s B F N X T hd hu
  replace F := fr_same F (m' := mp [(Str.ofString "many", .int many tm), (Str.ofString "pen", .ref p)]) (fun y => (lookup_mp _ y).trans rfl)
  refine execs_cut (g := g) (L := L') 1 (fun m nw => m = mp [(Str.ofString "many", .int many tm), (Str.ofString "pen", .ref p)] ∧ nw = [(p, penO q sp t1 pool t2 n), (q, listOf cs.toArray nq)]) ?_ ?_
  · dsimp only [List.take]
    (((try k_fold); repeat' ((first | (k_unfold; (try dsimp only)) | (k_end; wrow_close) | walk1 | (dsimp only; walk1) | (dsimp only; k_unfold; (try dsimp only)) | (leave1; walk_say "STEP leave1"; try dsimp only)))))
    · exact Mid.ret (BodyEnd.intro (by assumption) (by assumption) ⟨_, _, _, rfl, Int.fmod_nonneg hpool (by omega), Int.fmod_lt_of_pos _ (by omega), rfl, ⟨sp, t1, _, _, n, rfl, hsp, by omega, Int.fdiv_nonneg hpool (b := many) (by omega)⟩⟩ (by k_allIn))
    · exact Mid.intro (by assumption) (by assumption) ⟨rfl, rfl⟩ (by k_allIn)
  · intro h' tk' m' news' F₂ N₂ hP
    obtain ⟨rfl, rfl⟩ := hP
    clear F N
    dsimp only [List.drop]
    refine execs_cut (g := g) (L := L') 4 (fun m nw => ∃ c tc tsp tsp2, m = mp [(Str.ofString "cell", .int c tc), (Str.ofString "spot", .int sp tsp), (Str.ofString "many", .int many tm), (Str.ofString "pen", .ref p)] ∧ nw = [(p, penO q (sp + 1) tsp2 pool t2 n), (q, listOf cs.toArray nq)]) ?_ ?_
    · dsimp only [List.take]
      (((try k_fold); repeat' ((first | (k_unfold; (try dsimp only)) | (k_end; wrow_close) | walk1 | (dsimp only; walk1) | (dsimp only; k_unfold; (try dsimp only)) | (leave1; walk_say "STEP leave1"; try dsimp only)))))
      · (with_reducible rename Fr _ _ _ _ => F')
        exact Mid.intro F' (by assumption) ⟨_, _, _, _, rfl, rfl⟩ (by k_allIn)
      · (with_reducible rename Fr _ _ _ _ => F')
        exact Mid.intro (fr_dup F') (by assumption) ⟨_, _, _, _, rfl, rfl⟩ (by k_allIn)
    · intro h' tk' m' news' F₃ N₃ hP
      refine goal_gen ?_; intro GG hGG
      refine ex4 (hP) ?_; clear hP; intro c tc tsp tsp2 hZz; refine an2 (hZz) ?_; clear hZz; intro hE4 hE5; subst hE4; subst hE5
      refine hGG ?_; clear hGG GG
      clear F₂ N₂
      dsimp only [List.drop]
      refine execs_cut (g := g) (L := L') 1 (fun m nw => m = mp [(Str.ofString "cell", .int c tc), (Str.ofString "spot", .int sp tsp), (Str.ofString "many", .int many tm), (Str.ofString "pen", .ref p)] ∧ nw = [(p, penO q (sp + 1) tsp2 pool t2 n), (q, listOf cs.toArray nq)]) ?_ ?_
      · dsimp only [List.take]
        (((try k_fold); repeat' ((first | (k_unfold; (try dsimp only)) | (k_end; wrow_close) | walk1 | (dsimp only; walk1) | (dsimp only; k_unfold; (try dsimp only)) | (leave1; walk_say "STEP leave1"; try dsimp only)))))
        · have hG : (0:Int) ≤ 2 * ((if c < 0 then -c else c) - 10 ^ Int.toNat 18) + if decide (c < 0) = true then 1 else 0 := by
            have h := (by assumption : (10:Int) ^ Int.toNat 18 ≤ if c < 0 then -c else c)
            generalize (10:Int) ^ Int.toNat 18 = z at h ⊢
            by_cases hc : c < 0 <;> simp only [hc, if_true, if_false, decide_true, decide_false, Bool.false_eq_true] at h ⊢ <;> omega
          exact Mid.ret (BodyEnd.intro (by assumption) (by assumption) ⟨_, _, _, rfl, Int.fmod_nonneg hG (by omega), Int.fmod_lt_of_pos _ (by omega), rfl, ⟨sp + 1, tsp2, _, _, n, rfl, by omega, by omega, Int.fdiv_nonneg hG (b := many) (by omega)⟩⟩ (by k_allIn))
        · exact Mid.intro (by assumption) (by assumption) ⟨rfl, rfl⟩ (by k_allIn)
        · exact Mid.intro (by assumption) (by assumption) ⟨rfl, rfl⟩ (by k_allIn)
      · intro h' tk' m' news' F₄ N₄ hP
        obtain ⟨rfl, rfl⟩ := hP
        clear F₃ N₃
        dsimp only [List.drop]
        refine execs_cut (g := g) (L := L') 1 (fun m nw => ∃ M tM, m = mp [(Str.ofString "mixed", .int M tM), (Str.ofString "cell", .int c tc), (Str.ofString "spot", .int sp tsp), (Str.ofString "many", .int many tm), (Str.ofString "pen", .ref p)] ∧ nw = [(p, penO q (sp + 1) tsp2 pool t2 n), (q, listOf cs.toArray nq)] ∧ 0 ≤ M ∧ M < 2147483629) ?_ ?_
        · dsimp only [List.take]
          have hp1 : (c.fmod 2147483587 + 20947 * sp + 3571).natAbs < 2 ^ 64 := by
            have h0 := Int.fmod_nonneg_of_pos c (show (0:Int) < 2147483587 by decide)
            have h1 := Int.fmod_lt_of_pos c (show (0:Int) < 2147483587 by decide)
            omega
          (((try k_fold); repeat' ((first | (k_unfold; (try dsimp only)) | (k_end; wrow_close) | walk1 | (dsimp only; walk1) | (dsimp only; k_unfold; (try dsimp only)) | (leave1; walk_say "STEP leave1"; try dsimp only)))))
          have h0 := Int.fmod_nonneg_of_pos ((c.fmod 2147483587 + 20947 * sp + 3571) ^ Int.toNat 5) (show (0:Int) < 2147483629 by decide)
          have h1 := Int.fmod_lt_of_pos ((c.fmod 2147483587 + 20947 * sp + 3571) ^ Int.toNat 5) (show (0:Int) < 2147483629 by decide)
          (with_reducible rename Fr _ _ _ _ => F'); (with_reducible rename News _ _ _ _ => N')
          exact Mid.intro F' N' ⟨_, _, rfl, rfl, h0, h1⟩ (by k_allIn)
        · intro h' tk' m' news' F₅ N₅ hP
          refine goal_gen ?_; intro GG hGG
          refine ex2 (hP) ?_; clear hP; intro M tM hZz; refine an4 (hZz) ?_; clear hZz; intro hE2 hE3 hM0 hM1; subst hE2; subst hE3
          refine hGG ?_; clear hGG GG
          clear F₄ N₄
          dsimp only [List.drop]
          refine execs_cut (g := g) (L := L') 1 (fun m nw => ∃ M tM, m = mp [(Str.ofString "mixed", .int M tM), (Str.ofString "cell", .int c tc), (Str.ofString "spot", .int sp tsp), (Str.ofString "many", .int many tm), (Str.ofString "pen", .ref p)] ∧ nw = [(p, penO q (sp + 1) tsp2 pool t2 n), (q, listOf cs.toArray nq)] ∧ 0 ≤ M ∧ M < 2147483579) ?_ ?_
          · dsimp only [List.take]
            have hp2 : (M * (2 * sp + 7207) + 20947 * sp * sp + 31).natAbs < 2 ^ 64 := by
              have a1 : 0 ≤ M * (2 * sp + 7207) := Int.mul_nonneg hM0 (by omega)
              have a2 : M * (2 * sp + 7207) ≤ 2147483629 * 9207 := Int.mul_le_mul (by omega) (by omega) (by omega) (by decide)
              have a3 : 0 ≤ 20947 * sp * sp := Int.mul_nonneg (by omega) hsp
              have a4 : 20947 * sp * sp ≤ (20947 * 1000) * 1000 := Int.mul_le_mul (by omega) (by omega) hsp (by decide)
              omega
            (((try k_fold); repeat' ((first | (k_unfold; (try dsimp only)) | (k_end; wrow_close) | walk1 | (dsimp only; walk1) | (dsimp only; k_unfold; (try dsimp only)) | (leave1; walk_say "STEP leave1"; try dsimp only)))))
            have h0 := Int.fmod_nonneg_of_pos ((M * (2 * sp + 7207) + 20947 * sp * sp + 31) ^ Int.toNat 3) (show (0:Int) < 2147483579 by decide)
            have h1 := Int.fmod_lt_of_pos ((M * (2 * sp + 7207) + 20947 * sp * sp + 31) ^ Int.toNat 3) (show (0:Int) < 2147483579 by decide)
            (with_reducible rename Fr _ _ _ _ => F'); (with_reducible rename News _ _ _ _ => N')
            exact Mid.intro (fr_dup F') N' ⟨_, _, rfl, rfl, h0, h1⟩ (by k_allIn)
          · intro h' tk' m' news' F₆ N₆ hP
            refine goal_gen ?_; intro GG hGG
            refine ex2 (hP) ?_; clear hP; intro M tM hZz; refine an4 (hZz) ?_; clear hZz; intro hE2 hE3 hM0 hM1; subst hE2; subst hE3
            refine hGG ?_; clear hGG GG
            clear F₅ N₅
            dsimp only [List.drop]
            (((try k_fold); repeat' ((first | (k_unfold; (try dsimp only)) | (k_end; wrow_close) | walk1 | (dsimp only; walk1) | (dsimp only; k_unfold; (try dsimp only)) | (leave1; walk_say "STEP leave1"; try dsimp only)))))
            have h2 : (0:Int) ≤ M.fdiv 32 := Int.fdiv_nonneg hM0 (by decide)
            exact BodyEnd.intro (by assumption) (by assumption) ⟨_, _, _, rfl, Int.fmod_nonneg h2 (by omega), Int.fmod_lt_of_pos _ (by omega), rfl, ⟨sp + 1, tsp2, _, _, n, rfl, by omega, by omega, hpool⟩⟩ (by k_allIn)
end


section

noncomputable def InnerOk (qo : Obj) : Prop := ∃ (cs : List Value) (xs : List Int) (nq : Nat), qo = listOf cs.toArray nq ∧ IntsAre cs xs ∧ xs.length ≤ 40

theorem draw_spec {prog : Program} {w : World} {mean : ExcName → Option Value} {mg mb : Str → Option Value} {k : Nat} {p q : Addr} {po qo : Obj} {many : Int} {tm : Tok}
  (hp : PenOk k q po) (hq : InnerOk qo) (hk : k < 1000) (hpq : @Ne Nat p q) (hm : 1 ≤ many) (hm2 : many ≤ 100) :
  Spec 2 prog w mean mg mb 162 [.ref p, .int many tm] [(p, po), (q, qo)]
    (fun v nw => ∃ d t po', v = .int d t ∧ 0 ≤ d ∧ d < many ∧ nw = [(p, po'), (q, qo)] ∧ PenOk (k + 1) q po') := by
  refine goal_gen ?_; intro GG hGG
  refine ex5 (hp) ?_; clear hp; intro sp t1 pool t2 n hZz; refine an4 (hZz) ?_; clear hZz; intro hE5 h1 h2 h3; subst hE5
  refine hGG ?_; clear hGG GG
  refine goal_gen ?_; intro GG hGG
  refine ex3 (hq) ?_; clear hq; intro cs xs nq hZz; refine an3 (hZz) ?_; clear hZz; intro hE3 hi hl; subst hE3
  refine hGG ?_; clear hGG GG
  exact draw_ok h1 h2 hk h3 hpq hm hm2 hi hl

noncomputable def ColOk (ns : List Int) : Prop := ns ≠ [] ∧ ns.Pairwise (· < ·) ∧ (∀ c ∈ ns, 0 ≤ c ∧ c < 10) ∧ ns.length ≤ 4

set_option maxRecDepth 100000 in
set_option maxHeartbeats 400000 in
theorem columns_ok {prog : Program} {w : World} {mean : ExcName → Option Value} {mg mb : Str → Option Value} {k : Nat} {p q : Addr} {po qo : Obj}
  (hp : PenOk k q po) (hq : InnerOk qo) (hk : k < 900) (hpq : @Ne Nat p q) :
  Spec 4 prog w mean mg mb 174 [.ref p] [(p, po), (q, qo)]
    (fun v nw => ∃ l vs ns n po', v = .ref l ∧ nw = [(l, listOf vs.toArray n), (p, po'), (q, qo)] ∧ IntsAre vs ns ∧ ColOk ns ∧ PenOk (k + 11) q po' ∧ @Ne Nat l p ∧ @Ne Nat l q) := by
  ((refine' spec_cells ?ho ?hcd ?hb ?hl ?c5 ?c2 ?c3 ?c4 ?_; (case ho => k_dflt k_is); (case hcd => k_dflt k_is); (case hb => rfl); (case hl => exact rfl); (case c5 => decide +kernel); (case c2 => exact rfl); (case c3 => exact rfl); (case c4 => exact rfl)))
  intro dp un gd outer A base g L' h₁ tk s cells B F N Y l1 X T hd hu
  refine goal_gen ?_; intro GG hGG
  refine ex1 (CellsAre.one Y) ?_; intro o' hZz; refine an2 (hZz) ?_; clear hZz; intro hE1 d1; subst hE1
  refine hGG ?_; clear hGG GG
  simp only [List.cons_append, List.nil_append] at N
  clear Y
  have lp : @LT.lt Nat _ p L' := l1 (p, po) (.head _)
  have lq : @LT.lt Nat _ q L' := l1 (q, qo) (.tail _ (.head _))
  replace d1 : o'.data = .cell (some (.ref p)) := d1
  replace F := fr_same F (m' := mp []) (fun y => rfl)
  show wpAny _ (ktrTop dp un gd _ _ L' 174 _ [(Str.ofString "pen", L' + 1)] outer) (execs _ (envX _ _ L' 174 _ [(Str.ofString "pen", L' + 1)])) _ _ _
  refine execs_cut (g := g) (L := L') 1 (fun m nw => ∃ (l : Addr) (vs : List Value) (ns : List Int) (n : Nat) (po' : Obj), m = mp [(Str.ofString "found", .ref l)] ∧ nw = [(l, listOf vs.toArray n), (L' + 1, o'), (p, po'), (q, qo)] ∧ PenOk (k + 10) q po' ∧ IntsAre vs ns ∧ ns.Pairwise (· < ·) ∧ (∀ c ∈ ns, 0 ≤ c ∧ c < 10) ∧ ns.length ≤ 4 ∧ @Ne Nat l p ∧ @Ne Nat l q) ?_ ?_
  · dsimp only [List.take]
    iterate 3 ((first | (k_unfold; (try dsimp only)) | (k_end; wrow_close) | walk1 | (dsimp only; walk1) | (dsimp only; k_unfold; (try dsimp only)) | (leave1; walk_say "STEP leave1"; try dsimp only)))
    refine LCt.ListComp_T (cl := [(Str.ofString "pen", L' + 1)]) F ?_ ?_ ?_ ?_ ?_ ?_ ?_
    · with_unfolding_all rfl
    · decide
    · rfl
    · decide
    · rfl
    · iterate 7 ((first | (k_unfold; (try dsimp only)) | (k_end; wrow_close) | walk1 | (dsimp only; walk1) | (dsimp only; k_unfold; (try dsimp only)) | (leave1; walk_say "STEP leave1"; try dsimp only)))
      refine LCt.CompSrcT.range (n := 10) rfl (by assumption) (by assumption) (by assumption) (by decide) rfl (by decide) (fun g' => restT_of (fun i ys news => ∃ (po' : Obj) (ns : List Int), news = [(L' + 1, o'), (p, po'), (q, qo)] ∧ PenOk (k + i) q po' ∧ IntsAre ys ns ∧ ns.Pairwise (· < ·) ∧ (∀ c ∈ ns, 0 ≤ c ∧ c < (i : Int)) ∧ ns.length ≤ i) ?_ ?_ 10 0 [] _ rfl ⟨po, [], rfl, hp, .nil, .nil, (fun _ h => nomatch h), Nat.le_refl _⟩)
      · intro i v ys news I oI C oC D m₂ h tk E' hin hP hJ hC hx F₂ N₂ off ne
        obtain ⟨t, rfl⟩ := hP
        refine goal_gen ?_; intro GG hGG
        refine ex2 (hJ) ?_; clear hJ; intro po' ns hZz; refine an6 (hZz) ?_; clear hZz; intro hE2 hpen hys hpw hb hlen; subst hE2
        refine hGG ?_; clear hGG GG
        have off0 := off
        simp only [LCg.Off3] at off
        (((try k_fold); repeat' ((first | (k_unfold; (try dsimp only)) | (k_end; wrow_close) | walk1 | (dsimp only; walk1) | (dsimp only; k_unfold; (try dsimp only)) | (leave1; walk_say "STEP leave1"; try dsimp only)))))
        refine Spec.use (draw_spec (k := k + i) hpen hq (by omega) hpq (by decide) (by decide)) B F₂ X N₂ T rfl (up_dp hd (by decide)) (up_un hu (by decide)) [(I, oI), (C, oC), (D, LCg.lst ys), (L' + 1, o')] (by k_allIn) (by (((simp only [Apart, List.forall_mem_cons, List.not_mem_nil, false_imp_iff, implies_true, and_true]) <;> ((repeat' apply And.intro) <;> first | assumption | walk_at "MINE ne")))) ?_
        intro v news' h' tk' hPat4 F₃ N₃ ap₃
        refine goal_gen ?_; intro GG hGG
        refine ex3 (hPat4) ?_; clear hPat4; intro d t' po'' hZz; refine an5 (hZz) ?_; clear hZz; intro hE3 hd0 hd1 hE6 hpen'; subst hE3; subst hE6
        refine hGG ?_; clear hGG GG
        clear F₂ N₂
        (((try k_fold); repeat' ((first | (k_unfold; (try dsimp only)) | (k_end; wrow_close) | walk1 | (dsimp only; walk1) | (dsimp only; k_unfold; (try dsimp only)) | (leave1; walk_say "STEP leave1"; try dsimp only)))))
        · have hz : d = 0 := by simp_all
          exact LCg.CompEnd.intro F₃ N₃ _ (by k_allIn) (show LCg.Off3 I C D [(L' + 1, o'), (p, po''), (q, qo)] from off0) trivial ⟨po'', ns ++ [0 + (i : Int)], rfl, hpen', IntsAre.append hys (.cons _ _ .nil), List.pairwise_append.mpr ⟨hpw, List.pairwise_singleton _ _, fun a ha b hb' => by simp only [List.mem_singleton] at hb'; have := hb a ha; omega⟩, fun c hc => by rcases List.mem_append.mp hc with h | h; (have := hb c h; omega); (simp only [List.mem_singleton] at h; omega), by simp only [List.length_append, List.length_singleton]; omega⟩
        · exact LCg.CompEnd.intro F₃ N₃ _ (by k_allIn) (show LCg.Off3 I C D [(L' + 1, o'), (p, po''), (q, qo)] from off0) trivial ⟨po'', ns, rfl, hpen', hys, hpw, (fun c hc => by have := hb c hc; omega), by omega⟩
      · intro ys news hPat2
        refine goal_gen ?_; intro GG hGG
        refine ex2 (hPat2) ?_; clear hPat2; intro po' ns hZz; refine an6 (hZz) ?_; clear hZz; intro hE2 hpen hys hpw hb hlen; subst hE2
        refine hGG ?_; clear hGG GG
        intro D h' tk' F₂ N₂ off
        (((try k_fold); iterate 7 ((first | (k_unfold; (try dsimp only)) | (k_end; wrow_close) | walk1 | (dsimp only; walk1) | (dsimp only; k_unfold; (try dsimp only)) | (leave1; walk_say "STEP leave1"; try dsimp only)))))
        k_dflt (refine' kmk_slice_ints (s := { s with heap := h', toks := tk' + 1 }) ?zzF ?zzN ?zzl ?zzp ?zzq ?zzi ?zzm ?zzc ?_ ?zzs ?zzt ?zzz)
        (case zzF => k_asm)
        (case zzN => k_asm)
        (case zzl => kmk_list)
        (case zzp => kmk_part)
        (case zzq => kmk_part)
        (case zzi => l_ints)
        (case zzm => kmk_nums)
        (case zzc => kmk_len)
        (case zzs => with_unfolding_all rfl)
        (case zzt => kmk_pure)
        (case zzz => kmk_size)
        intro D2 ws h2 F₃ N₃ l3 hws hl1 hl2
        clear F₂ N₂
        (((try k_fold); repeat' ((first | (k_unfold; (try dsimp only)) | (k_end; wrow_close) | walk1 | (dsimp only; walk1) | (dsimp only; k_unfold; (try dsimp only)) | (leave1; walk_say "STEP leave1"; try dsimp only)))))
        (with_reducible rename Fr _ _ _ _ => F'); (with_reducible rename News _ _ _ _ => N')
        have l4 := l3
        simp only [List.forall_mem_cons] at l4
        refine Mid.intro F' N' ⟨D2, ws, _, 0, po', rfl, rfl, hpen, hws, ?_, ?_, ?_, ?_, ?_⟩ (by k_allIn)
        rotate_left 3
        · have l5 : @LT.lt Nat _ p D2 := l4.2.2.1
          omega
        · have l5 : @LT.lt Nat _ q D2 := l4.2.2.2.1
          omega
        · exact hpw.sublist (List.take_sublist _ _)
        · intro c hc; have := hb c (List.mem_of_mem_take hc); omega
        · rw [hl1]; exact Nat.min_le_left _ _
    · intro _; with_unfolding_all rfl
  · intro h' tk' m' news' F₂ N₂ hP
    refine goal_gen ?_; intro GG hGG
    refine ex5 (hP) ?_; clear hP; intro l vs ns n po' hZz; refine an9 (hZz) ?_; clear hZz; intro hE5 hE6 hpen hvs hpw hb hlen hlp hlq; subst hE5; subst hE6
    refine hGG ?_; clear hGG GG
    clear F N
    dsimp only [List.drop]
    (((try k_fold); repeat' ((first | (k_unfold; (try dsimp only)) | (k_end; wrow_close) | walk1 | (dsimp only; walk1) | (dsimp only; k_unfold; (try dsimp only)) | (leave1; walk_say "STEP leave1"; try dsimp only)))))
    · refine Spec.use (draw_spec (k := k + 10) hpen hq (by omega) hpq (by decide) (by decide)) B (by assumption) X (by assumption) T rfl (up_dp hd (by decide)) (up_un hu (by decide)) [(L' + 1, o')] (by k_allIn) (by (((simp only [Apart, List.forall_mem_cons, List.not_mem_nil, false_imp_iff, implies_true, and_true]) <;> ((repeat' apply And.intro) <;> first | assumption | walk_at "MINE ne")))) ?_
      intro v news' h3 tk3 hPat4 F₃ N₃ ap₃
      refine goal_gen ?_; intro GG hGG
      refine ex3 (hPat4) ?_; clear hPat4; intro d t' po'' hZz; refine an5 (hZz) ?_; clear hZz; intro hE3 hd0 hd1 hE6 hpen'; subst hE3; subst hE6
      refine hGG ?_; clear hGG GG
      simp only [List.cons_append, List.nil_append] at N₃
      (((try k_fold); repeat' ((first | (k_unfold; (try dsimp only)) | (k_end; wrow_close) | walk1 | (dsimp only; walk1) | (dsimp only; k_unfold; (try dsimp only)) | (leave1; walk_say "STEP leave1"; try dsimp only)))))
      (with_reducible rename Fr _ _ _ _ => F'); (with_reducible rename News _ _ _ _ => N')
      exact BodyEnd.intro F' N' ⟨_, [.int d t'], [d], _, po'', rfl, rfl, .cons _ _ .nil, ⟨by simp, List.pairwise_singleton _ _, fun c hc => by simp only [List.mem_singleton] at hc; omega, by simp⟩, hpen', by omega, by omega⟩ (by k_allIn)
    · (with_reducible rename Fr _ _ _ _ => F'); (with_reducible rename News _ _ _ _ => N')
      have hne : ns ≠ [] := by simp_all
      refine goal_gen ?_; intro GG hGG
      refine ex5 (hpen) ?_; clear hpen; intro sp t1 pool t2 n' hZz; refine an4 (hZz) ?_; clear hZz; intro e h1 h2 h3
      refine hGG ?_; clear hGG GG
      exact BodyEnd.intro F' N' ⟨l, vs, ns, n, po', rfl, rfl, hvs, ⟨hne, hpw, hb, hlen⟩, ⟨sp, t1, pool, t2, n', e, h1, by omega, h3⟩, hlp, hlq⟩ (by k_allIn)
end


section

noncomputable def TurnEnd (h₀ : Heap) (L I : Addr) (oI : Obj) (J : (Str → Option Value) → Led → Prop) (s₁ : Shared) (Q : Flow → Shared → Prop) (f : Flow) (s₂ : Shared) : Prop := match f with
  | .ret v => Q (.ret v) s₂
  | .brk => Q .next s₂
  | _ => ∃ h' tk m' nw, s₂ = { s₁ with heap := h', toks := tk } ∧ Fr h₀ L h' m' ∧ News h₀ L h' ((I, oI) :: nw) ∧ (∀ p ∈ nw, @Ne Nat p.1 I) ∧ J m' nw

theorem TurnEnd.intro {h₀ : Heap} {L I : Addr} {oI : Obj} {J : (Str → Option Value) → Led → Prop} {s₁ : Shared} {Q : Flow → Shared → Prop} {h' : Heap} {tk : Nat} {m' : Str → Option Value} {all nw : Led}
    (F : Fr h₀ L h' m') (N : News h₀ L h' all) (hJ : J m' nw) (hs : ∀ p ∈ (I, oI) :: nw, p ∈ all) (off : ∀ p ∈ nw, @Ne Nat p.1 I) : TurnEnd h₀ L I oI J s₁ Q .next { s₁ with heap := h', toks := tk } :=
  ⟨h', tk, m', nw, rfl, F, fun p hp => N p (hs p hp), off, hJ⟩
theorem TurnEnd.ret {h₀ : Heap} {L I : Addr} {oI : Obj} {J : (Str → Option Value) → Led → Prop} {s₁ : Shared} {Q : Flow → Shared → Prop} {v : Value} {s' : Shared} (h : Q (.ret v) s') : TurnEnd h₀ L I oI J s₁ Q (.ret v) s' := h

noncomputable def LoopMap (x : Str) (rest : List (Str × Value)) (m : Str → Option Value) : Prop := m = mp rest ∨ ∃ v, m = mp ((x, v) :: rest)
theorem LoopMap.fr {x : Str} {rest : List (Str × Value)} {m : Str → Option Value} {h₀ : Heap} {L : Addr} {h : Heap} {v : Value} (hm : LoopMap x rest m) (F : Fr h₀ L h (fun y => if y = x then some v else m y)) : Fr h₀ L h (mp ((x, v) :: rest)) := by
  rcases hm with rfl | ⟨v', rfl⟩
  · exact F
  · exact fr_dup F

section
variable {prog : Program} {w : World} {A : Around} {E : Value → Shared → Prop} {s : Shared} {env : Env} {h₀ : Heap} {x : Str} {body : List Stmt} {Q : Flow → Shared → Prop}

theorem stepV_of {I : Addr} {oI : Obj} {fp : List Addr} {own : Led} {J : (Str → Option Value) → Led → Prop} {s₁ s₂ : Shared} {f : Flow}
    (hown : ∀ p ∈ own, ∀ nw : Led, J = J → (∀ m', J m' nw → p ∈ (I, oI) :: nw)) (h : TurnEnd h₀ env.locals I oI J s₁ Q f s₂) :
    LoopStepV h₀ env.locals [I] own J s₁ (fun v s' => Q (.ret v) s') (fun s' => Q .next s') f s₂ := by
  have fin : (∃ h' tk m' nw, s₂ = { s₁ with heap := h', toks := tk } ∧ Fr h₀ env.locals h' m' ∧ News h₀ env.locals h' ((I, oI) :: nw) ∧ (∀ p ∈ nw, @Ne Nat p.1 I) ∧ J m' nw) → LoopStepU h₀ env.locals [I] own J s₁ .next s₂ := by
    intro hPat0
    refine goal_gen ?_; intro GG hGG
    refine ex4 (hPat0) ?_; clear hPat0; intro h' tk m' nw hZz; refine an5 (hZz) ?_; clear hZz; intro hE4 F N off hJ; subst hE4
    refine hGG ?_; clear hGG GG
    refine ⟨rfl, h', tk, m', nw, rfl, F, fun p hp => ?_, fun p hp hq => off p hp (List.mem_singleton.mp hq), hJ⟩
    rcases List.mem_append.mp hp with hp | hp
    · exact N p (hown p hp nw rfl m' hJ)
    · exact N p (List.mem_cons_of_mem _ hp)
  cases f with
  | ret v => exact .ret h
  | brk => exact .brk h
  | next => exact .next (fin h)
  | cont => exact .cont (fin h)

theorem for_list {l : Addr} {vs : List Value} {n : Nat} {m₀ : Str → Option Value} {news : Led} (J : Nat → (Str → Option Value) → Led → Prop)
    (hh : A.handled = none) (F : Fr h₀ env.locals s.heap m₀) (N : News h₀ env.locals s.heap news) (hm : (l, listOf vs.toArray n) ∈ news) (hJ : J 0 m₀ news) (hk : ∀ i m nw, J i m nw → (l, listOf vs.toArray n) ∈ nw)
    (turn : ∀ i v m₁ nw I oI h tk, vs[i]? = some v → J i m₁ nw → (∀ p ∈ nw, @Ne Nat p.1 I) → Fr h₀ env.locals h (fun y => if y = x then some v else m₁ y) → News h₀ env.locals h ((I, oI) :: nw) →
      wpAny (model prog w) A (execs body env) (TurnEnd h₀ env.locals I oI (J (i + 1)) { s with heap := h, toks := tk } Q) E { s with heap := h, toks := tk })
    (done : ∀ m₁ nw h tk, J vs.length m₁ nw → Fr h₀ env.locals h m₁ → News h₀ env.locals h nw → Q .next { s with heap := h, toks := tk }) :
    wpAny (model prog w) A (pyIter (.ref l)) (fun it s₂ => LoopAtV prog w A h₀ env x body Q E it s₂) E s := by
  have hls : s.heap.IsList l vs.toArray := ⟨_, (N _ hm).1, rfl, n, rfl⟩
  have hlt : l < s.heap.objs.size := Heap.lt_size (N _ hm).1
  have hne : l ≠ s.heap.objs.size := Nat.ne_of_lt hlt
  have hlL : l ≠ env.locals := (N _ hm).2.1
  refine wpAny_pyIter_list hls ?_
  have W := Walks.list (prog := prog) (w := w) hh s.heap.objs.size l hne vs.toArray
  refine ⟨s.heap.objs.size, [s.heap.objs.size, l], [s.heap.objs.size], vs.toArray.size, _, _, m₀, news, fun i m nw => J i m nw ∧ (∀ p ∈ nw, p.1 ≠ s.heap.objs.size → True), rfl, W, ?_, ?_, ?_, ⟨⟨_, Heap.get?_push_size _ rfl, rfl, rfl⟩, hls.at fun o e => Heap.get?_push_of_some _ e⟩, F.push _, (fun p hp => ⟨Heap.get?_push_of_some _ (N p hp).1, (N p hp).2⟩), ⟨hJ, fun _ _ _ => trivial⟩, ?_, ?_⟩
  · intro hm'
    rcases List.mem_cons.mp hm' with e | hm'
    · exact absurd F.ns.lt (e ▸ Nat.lt_irrefl _)
    · exact hlL (List.mem_singleton.mp hm').symm
  · intro b hb
    rw [List.mem_singleton.mp hb]
    exact next_is_new F
  · intro p hp hI
    exact absurd (Heap.lt_size (N p hp).1) ((List.mem_singleton.mp hI) ▸ Nat.lt_irrefl _)
  · intro i v m₁ nw s₁ own hPat6 hin hP hPat9 hoff hfp hat hall hst F₁ N₁
    refine goal_gen ?_; intro GG hGG
    refine ex2 (hPat6) ?_; clear hPat6; intro hh' tk' hE2; subst hE2
    obtain ⟨hJi, _⟩ := hPat9
    refine hGG ?_; clear hGG GG
    refine goal_gen ?_; intro GG hGG
    refine an2 (id hst) ?_; intro hN0 _; obtain ⟨oI, heI, _⟩ := hN0
    refine hGG ?_; clear hGG GG
    have hI0 : h₀.get? s.heap.objs.size = none := next_is_new F
    have hIown : (s.heap.objs.size, oI) ∈ own := hall _ (by simp) hI0 _ heI
    have hv : vs[i]? = some v := by simpa using hP
    have N₂ : News h₀ env.locals hh' ((s.heap.objs.size, oI) :: nw) := fun p hp => by
      rcases List.mem_cons.mp hp with rfl | hp
      · exact N₁ _ (List.mem_append_left _ hIown)
      · exact N₁ _ (List.mem_append_right _ hp)
    refine wpAny_mono (turn i v m₁ nw s.heap.objs.size oI hh' tk' hv hJi (fun p hp e => hoff p hp (List.mem_singleton.mpr e)) F₁ N₂) (fun f s₂ p => ?_) fun _ _ e => e
    refine stepV_of (I := s.heap.objs.size) (oI := oI) (fp := []) (fun p hp nw' _ m' hJ' => ?_) ?_
    · rcases List.mem_cons.mp (hfp p hp) with e | e
      · have h2 := hat p hp
        rw [e, heI] at h2
        have : p = (s.heap.objs.size, oI) := Prod.ext e (Option.some.inj h2).symm
        rw [this]; exact List.mem_cons_self
      · have e := List.mem_singleton.mp e
        have h2 := hat p hp
        have h3 := (N₂ _ (List.mem_cons_of_mem _ (hk i m₁ nw hJi))).1
        rw [e] at h2
        have h4 : hh'.get? l = some p.2 := h2
        rw [show hh'.get? l = some (listOf vs.toArray n) from h3] at h4
        have : p = (l, listOf vs.toArray n) := Prod.ext e (Option.some.inj h4).symm
        rw [this]; exact List.mem_cons_of_mem _ (hk (i + 1) m' nw' hJ'.1)
    · cases f with
      | ret v => exact p
      | brk => exact p
      | next => obtain ⟨h', tk, m', nw', e, F', N', off', hJ'⟩ := p; exact ⟨h', tk, m', nw', e, F', N', off', hJ', fun _ _ _ => trivial⟩
      | cont => obtain ⟨h', tk, m', nw', e, F', N', off', hJ'⟩ := p; exact ⟨h', tk, m', nw', e, F', N', off', hJ', fun _ _ _ => trivial⟩
  · intro h' tk m' nw' F' N' _ hPat7
    refine goal_gen ?_; intro GG hGG
    obtain ⟨hJ', _⟩ := hPat7
    refine hGG ?_; clear hGG GG
    have hsz : vs.toArray.size = vs.length := List.size_toArray ..
    rw [hsz] at hJ'
    exact done m' nw' h' tk hJ' F' N'

theorem for_range {r : Addr} {a₀ b₀ : Int} {t₀ u₀ v₀ : Tok} {n : Nat} {m₀ : Str → Option Value} {news : Led} (J : Nat → (Str → Option Value) → Led → Prop)
    (hh : A.handled = none) (hr : IsRange s.heap r a₀ b₀ 1 t₀ u₀ v₀) (hsmall : Builtin.Range.small a₀ b₀ 1 = true) (hn : Builtin.Range.rangeSize a₀ b₀ 1 = (n : Int)) (F : Fr h₀ env.locals s.heap m₀) (N : News h₀ env.locals s.heap news) (hJ : J 0 m₀ news)
    (turn : ∀ (i : Nat) t m₁ nw I oI h tk, i < n → J i m₁ nw → (∀ p ∈ nw, @Ne Nat p.1 I) → Fr h₀ env.locals h (fun y => if y = x then some (.int (a₀ + (i : Int)) t) else m₁ y) → News h₀ env.locals h ((I, oI) :: nw) →
      wpAny (model prog w) A (execs body env) (TurnEnd h₀ env.locals I oI (J (i + 1)) { s with heap := h, toks := tk } Q) E { s with heap := h, toks := tk })
    (done : ∀ m₁ nw h tk, J n m₁ nw → Fr h₀ env.locals h m₁ → News h₀ env.locals h nw → Q .next { s with heap := h, toks := tk }) :
    wpAny (model prog w) A (pyIter (.ref r)) (fun it s₂ => LoopAtV prog w A h₀ env x body Q E it s₂) E s := by
  refine wpAny_pyIter_range hr hsmall ?_
  have W := LCg.range_walks (prog := prog) (w := w) (I := s.heap.objs.size) hh a₀ n
  refine ⟨s.heap.objs.size, [s.heap.objs.size], [s.heap.objs.size], n, _, _, m₀, news, J, rfl, W, ?_, ?_, ?_, (by show IsRangeIter _ _ _ _ _; rw [hn]; simpa using Heap.get?_push_size _ rfl), F.push _, (fun p hp => ⟨Heap.get?_push_of_some _ (N p hp).1, (N p hp).2⟩), hJ, ?_, ?_⟩
  · intro hm'
    exact absurd F.ns.lt ((List.mem_singleton.mp hm') ▸ Nat.lt_irrefl _)
  · intro b hb
    rw [List.mem_singleton.mp hb]
    exact next_is_new F
  · intro p hp hI
    exact absurd (Heap.lt_size (N p hp).1) ((List.mem_singleton.mp hI) ▸ Nat.lt_irrefl _)
  · intro i v m₁ nw s₁ own hPat6 hin hPat8 hJi hoff hfp hat hall hst F₁ N₁
    refine goal_gen ?_; intro GG hGG
    refine ex2 (hPat6) ?_; clear hPat6; intro hh' tk' hE2; subst hE2
    obtain ⟨t, rfl⟩ := hPat8
    refine hGG ?_; clear hGG GG
    have hI0 : h₀.get? s.heap.objs.size = none := next_is_new F
    have heI : hh'.get? s.heap.objs.size = some _ := hst
    have hIown := hall _ (by simp) hI0 _ heI
    have N₂ : News h₀ env.locals hh' ((s.heap.objs.size, _) :: nw) := fun p hp => by
      rcases List.mem_cons.mp hp with rfl | hp
      · exact N₁ _ (List.mem_append_left _ hIown)
      · exact N₁ _ (List.mem_append_right _ hp)
    refine wpAny_mono (turn i t m₁ nw s.heap.objs.size _ hh' tk' hin hJi (fun p hp e => hoff p hp (List.mem_singleton.mpr e)) F₁ N₂) (fun f s₂ p => ?_) fun _ _ e => e
    refine stepV_of (I := s.heap.objs.size) (fp := []) (fun p hp nw' _ m' hJ' => ?_) p
    have e := List.mem_singleton.mp (hfp p hp)
    have h2 := hat p hp
    rw [e] at h2
    have h4 : hh'.get? s.heap.objs.size = some p.2 := h2
    rw [heI] at h4
    rw [show p = (s.heap.objs.size, _) from Prod.ext e (Option.some.inj h4).symm]
    exact List.mem_cons_self
  · rintro h' tk m' nw' F' N' _ hJ'
    exact done m' nw' h' tk hJ' F' N'
end

section
variable {prog : Program} {w : World} {A : Around} {E : Value → Shared → Prop} {s : Shared} {h₀ : Heap} {L l : Addr} {news : Led} {vs : List Value} {n : Nat}
theorem my_len {Q : Value → Shared → Prop} (N : News h₀ L s.heap news) (hm : (l, listOf vs.toArray n) ∈ news) (hs : vs.length ≤ 1000000) (h : Q (.int (vs.length : Int) (s.toks + 1)) { s with toks := s.toks + 1 + 1 }) :
    wpAny (model prog w) A (call (.builtin "len") [.ref l]) Q E s := by
  refine len_list (items := vs.toArray) ⟨_, (N _ hm).1, rfl, n, rfl⟩ (by rw [List.size_toArray]; omega) ?_
  rw [List.size_toArray]
  exact h
theorem ints_last {vs : List Value} {ns : List Int} (h : IntsAre vs ns) : ns ≠ [] → ∃ t, vs[vs.length - 1]? = some (.int (ns.getLastD 0) t) := by
  induction h with
  | nil => exact fun h => absurd rfl h
  | cons a t h ih =>
    intro _
    cases h with
    | nil => exact ⟨t, rfl⟩
    | cons b u h =>
      obtain ⟨t', e⟩ := ih (by simp)
      exact ⟨t', by simpa using e⟩
theorem my_last {ns : List Int} {value slice : Expr} {u : Tok} {Q : Value → Shared → Prop} (N : News h₀ L s.heap news) (hm : (l, listOf vs.toArray n) ∈ news) (hi : IntsAre vs ns) (hne : ns ≠ []) (h : ∀ t, Q (.int (ns.getLastD 0) t) s)
    (hs : subscripted slice false (.ref l) (.int (-1) u) = operate [.ref l, .int (-1) u] (getItem (.ref l) (.int (-1) u)) := by with_unfolding_all rfl) (hg : ∀ r, letTemporaryGo value (.ref l) r = pure () := by intro _; with_unfolding_all rfl) :
    wpAny (model prog w) A (subscriptTail value slice (.ref l) (.int (-1) u)) Q E s := by
  have hl : s.heap.IsList l vs.toArray := ⟨_, (N _ hm).1, rfl, n, rfl⟩
  obtain ⟨t, e⟩ := ints_last hi hne
  have hpos : 0 < vs.length := by rw [hi.length]; exact List.length_pos_iff.mpr hne
  refine subscriptTail_builtin hl.typeIs slot_list_getitem.lookup (wpAny_getItem_list_neg hl (by decide) (by rw [List.size_toArray]; omega) (by decide) (x := .int (ns.getLastD 0) t) ?_ (h t)) hs hg
  rw [List.size_toArray, ← e]
  have : ((-1 : Int) + (vs.length : Nat)).toNat = vs.length - 1 := by omega
  rw [this]
  simp
end
end


section

noncomputable abbrev combD (h1 h2 : Int) (t1 t2 : Tok) (tb ck : Addr) : Obj := dictOf [⟨h1, .str (Str.ofString "table") t1, .ref tb⟩, ⟨h2, .str (Str.ofString "check") t2, .ref ck⟩] 2

noncomputable def freeAt (ns : List Int) (c : Int) : Bool := decide ((ns.length : Int) ≤ c) || (ns.getD c.toNat 0 == 0)

set_option maxRecDepth 100000 in
set_option maxHeartbeats 400000 in
theorem is_free_ok {prog : Program} {w : World} {mean : ExcName → Option Value} {mg mb : Str → Option Value}
  {x dx tb ck : Addr} {h1 h2 : Int} {t1 t2 : Tok} {nc : Nat} {vs : List Value} {ns : List Int} {c : Int} {tc : Tok}
  (hi : IntsAre vs ns) (hc : 0 ≤ c) (hns : ns.length < 1000) :
  Spec 2 prog w mean mg mb 42 [.ref x, .int c tc] [(x, instObj 73 dx), (dx, combD h1 h2 t1 t2 tb ck), (ck, listOf vs.toArray nc)]
    (fun v nw => v = .bool (freeAt ns c) ∧ nw = [(x, instObj 73 dx), (dx, combD h1 h2 t1 t2 tb ck), (ck, listOf vs.toArray nc)]) := by
  ((refine' spec_plain ?ho ?hcd ?hb ?hl ?c5 ?c2 ?c3 ?c4 ?_; (case ho => k_dflt k_is); (case hcd => k_dflt k_is); (case hb => rfl); (case hl => exact locs rfl); (case c5 => decide); (case c2 => exact rfl); (case c3 => exact rfl); (case c4 => exact rfl)))
  intro dp un gd outer A base g L' h₁ tk s B F N X T hd hu
  (((try k_fold); repeat' ((first | (k_unfold; (try dsimp only)) | (k_end; wrow_close) | walk1 | (dsimp only; walk1) | (dsimp only; k_unfold; (try dsimp only)) | (leave1; walk_say "STEP leave1"; try dsimp only)))))
  · refine BodyEnd.intro (by assumption) (by assumption) ⟨?_, rfl⟩ (by k_allIn)
    simp_all [freeAt]
  · refine BodyEnd.intro (by assumption) (by assumption) ⟨?_, rfl⟩ (by k_allIn)
    simp_all [freeAt]
    intro h; omega

set_option maxRecDepth 100000 in
set_option maxHeartbeats 400000 in
theorem fits_ok {prog : Program} {w : World} {mean : ExcName → Option Value} {mg mb : Str → Option Value}
  {x dx tb ck l : Addr} {h1 h2 : Int} {t1 t2 : Tok} {nc nl : Nat} {vs cs : List Value} {ns chk : List Int} {b : Int} {tc : Tok}
  (hi : IntsAre vs ns) (hci : IntsAre cs chk) (hb : ∀ c ∈ ns, 0 ≤ b + c) (hns : chk.length < 1000) (d1 : @Ne Nat l x) (d2 : @Ne Nat l dx) (d3 : @Ne Nat l ck) :
  Spec 4 prog w mean mg mb 49 [.ref x, .int b tc, .ref l] [(x, instObj 73 dx), (dx, combD h1 h2 t1 t2 tb ck), (ck, listOf cs.toArray nc), (l, listOf vs.toArray nl)]
    (fun v nw => v = .bool (ns.all fun c => freeAt chk (b + c)) ∧ nw = [(x, instObj 73 dx), (dx, combD h1 h2 t1 t2 tb ck), (ck, listOf cs.toArray nc), (l, listOf vs.toArray nl)]) := by
  ((refine' spec_plain ?ho ?hcd ?hb ?hl ?c5 ?c2 ?c3 ?c4 ?_; (case ho => k_dflt k_is); (case hcd => k_dflt k_is); (case hb => rfl); (case hl => exact locs rfl); (case c5 => decide); (case c2 => exact rfl); (case c3 => exact rfl); (case c4 => exact rfl)))
  intro dp un gd outer A base g L' h₁ tk s B F N X T hd hu
  replace F := fr_same F (m' := mp [(Str.ofString "columns", .ref l), (Str.ofString "base", .int b tc), (Str.ofString "self", .ref x)]) (fun y => (lookup_mp _ y).trans rfl)
  (first | (k_unfold; (try dsimp only)) | (k_end; wrow_close) | walk1 | (dsimp only; walk1) | (dsimp only; k_unfold; (try dsimp only)) | (leave1; walk_say "STEP leave1"; try dsimp only))
  refine For_invVF F rfl rfl ?_ (by intro _; rfl) PassesOwn.never
  (first | (k_unfold; (try dsimp only)) | (k_end; wrow_close) | walk1 | (dsimp only; walk1) | (dsimp only; k_unfold; (try dsimp only)) | (leave1; walk_say "STEP leave1"; try dsimp only))
  refine for_list (fun i m nw => nw = [(x, instObj 73 dx), (dx, combD h1 h2 t1 t2 tb ck), (ck, listOf cs.toArray nc), (l, listOf vs.toArray nl)] ∧ (∀ c ∈ ns.take i, freeAt chk (b + c) = true) ∧
      LoopMap (Str.ofString "column") [(Str.ofString "columns", .ref l), (Str.ofString "base", .int b tc), (Str.ofString "self", .ref x)] m) rfl F N (by k_memK) ⟨rfl, by simp, .inl rfl⟩ (by rintro i m nw ⟨rfl, _⟩; k_memK) ?_ ?_
  · intro i v m₁ nw I oI h tk hv hPat9 off F₁ N₁
    refine goal_gen ?_; intro GG hGG
    refine an3 (hPat9) ?_; clear hPat9; intro hE0 hfree hm; subst hE0
    refine hGG ?_; clear hGG GG
    replace F₁ := hm.fr F₁
    refine goal_gen ?_; intro GG hGG
    refine ex2 (IntsAre.at hi i v hv) ?_; intro c t hZz; refine an2 (hZz) ?_; clear hZz; intro hE2 hc; subst hE2
    refine hGG ?_; clear hGG GG
    (((try k_fold); repeat' ((first | (k_unfold; (try dsimp only)) | (k_end; wrow_close) | walk1 | (dsimp only; walk1) | (dsimp only; k_unfold; (try dsimp only)) | (leave1; walk_say "STEP leave1"; try dsimp only)))))
    have hcm : c ∈ ns := List.mem_of_getElem? hc
    refine Spec.use (is_free_ok hci (hb c hcm) hns) B F₁ X N₁ T rfl (up_dp hd (by decide)) (up_un hu (by decide)) [(I, oI), (l, listOf vs.toArray nl)] (by k_allIn) (by simp only [List.forall_mem_cons] at off; (((simp only [Apart, List.forall_mem_cons, List.not_mem_nil, false_imp_iff, implies_true, and_true]) <;> ((repeat' apply And.intro) <;> first | assumption | walk_at "MINE ne")))) ?_
    intro v news' h' tk' hPat4 F₂ N₂ ap₂
    refine goal_gen ?_; intro GG hGG
    obtain ⟨rfl, rfl⟩ := hPat4
    refine hGG ?_; clear hGG GG
    clear F₁ N₁
    (((try k_fold); repeat' ((first | (k_unfold; (try dsimp only)) | (k_end; wrow_close) | walk1 | (dsimp only; walk1) | (dsimp only; k_unfold; (try dsimp only)) | (leave1; walk_say "STEP leave1"; try dsimp only)))))
    · have hfr : freeAt chk (b + c) = true := by simp_all
      (with_reducible rename Fr _ _ _ _ => F'); (with_reducible rename News _ _ _ _ => N')
      refine TurnEnd.intro F' N' ⟨rfl, ?_, .inr ⟨_, rfl⟩⟩ (by k_allIn) (by simpa using off)
      intro c' hc'
      rw [List.take_add_one, hc] at hc'
      rcases List.mem_append.mp hc' with h | h
      · exact hfree c' h
      · simp at h; exact h ▸ hfr
    · have hfr : freeAt chk (b + c) = false := by simp_all
      refine TurnEnd.ret ?_
      dsimp only
      (with_reducible rename Fr _ _ _ _ => F'); (with_reducible rename News _ _ _ _ => N')
      refine BodyEnd.intro F' N' ⟨?_, rfl⟩ (by k_allIn)
      have : (ns.all fun c => freeAt chk (b + c)) = false := List.all_eq_false.mpr ⟨c, hcm, by simp [hfr]⟩
      rw [this]
  · intro m₁ nw h tk hPat4 F₁ N₁
    refine goal_gen ?_; intro GG hGG
    refine an3 (hPat4) ?_; clear hPat4; intro hE0 hfree hm; subst hE0
    refine hGG ?_; clear hGG GG
    (((try k_fold); repeat' ((first | (k_unfold; (try dsimp only)) | (k_end; wrow_close) | walk1 | (dsimp only; walk1) | (dsimp only; k_unfold; (try dsimp only)) | (leave1; walk_say "STEP leave1"; try dsimp only)))))
    dsimp only
    refine BodyEnd.intro F₁ N₁ ⟨?_, rfl⟩ (by k_allIn)
    have : (ns.all fun c => freeAt chk (b + c)) = true := List.all_eq_true.mpr fun c hc => hfree c (by rw [List.take_of_length_le (Nat.le_of_eq hi.length.symm)]; exact hc)
    rw [this]
end


section

noncomputable def LeastFit (ok : Int → Bool) (lo b : Int) : Prop := lo ≤ b ∧ ok b = true ∧ ∀ b', lo ≤ b' → b' < b → ok b' = false

theorem LeastFit.same {ok ok' : Int → Bool} {lo b b' : Int} (h : LeastFit ok lo b) (h' : LeastFit ok' lo b') (e : ∀ x, lo ≤ x → ok x = ok' x) : b = b' := by
  refine goal_gen ?_; intro GG hGG
  refine an3 (h) ?_; clear h; intro h1 h2 h3
  refine hGG ?_; clear hGG GG
  refine goal_gen ?_; intro GG hGG
  refine an3 (h') ?_; clear h'; intro g1 g2 g3
  refine hGG ?_; clear hGG GG
  rcases Int.lt_trichotomy b b' with q | q | q
  · have := g3 b h1 q; rw [← e b h1, h2] at this; cases this
  · exact q
  · have := h3 b' g1 q; rw [e b' g1, g2] at this; cases this

set_option maxRecDepth 100000 in
set_option maxHeartbeats 400000 in
theorem first_fit_ok {prog : Program} {w : World} {mean : ExcName → Option Value} {mg mb : Str → Option Value}
  {x dx tb ck l : Addr} {h1 h2 : Int} {t1 t2 : Tok} {nc nl : Nat} {vs cs : List Value} {ns chk : List Int}
  (hi : IntsAre vs ns) (hci : IntsAre cs chk) (hcol : ColOk ns) (hns : chk.length < 1000) (d1 : @Ne Nat l x) (d2 : @Ne Nat l dx) (d3 : @Ne Nat l ck) :
  Spec 5 prog w mean mg mb 56 [.ref x, .ref l] [(x, instObj 73 dx), (dx, combD h1 h2 t1 t2 tb ck), (ck, listOf cs.toArray nc), (l, listOf vs.toArray nl)]
    (fun v nw => (∃ b t, v = .int b t ∧ LeastFit (fun b => ns.all fun c => freeAt chk (b + c)) (-(ns.getD 0 0)) b) ∧ nw = [(x, instObj 73 dx), (dx, combD h1 h2 t1 t2 tb ck), (ck, listOf cs.toArray nc), (l, listOf vs.toArray nl)]) := by
  refine goal_gen ?_; intro GG hGG
  refine an4 (hcol) ?_; clear hcol; intro hne hpw hbd hlen
  refine hGG ?_; clear hGG GG
  have hlen0 : 0 < ns.length := List.length_pos_iff.mpr hne
  have hge : ∀ c ∈ ns, ns.getD 0 0 ≤ c := by
    cases ns with
    | nil => cases hne rfl
    | cons a r =>
      intro c hc
      rcases List.mem_cons.mp hc with rfl | hc
      · exact Int.le_refl _
      · exact Int.le_of_lt (List.rel_of_pairwise_cons hpw hc)
  ((refine' spec_plain ?ho ?hcd ?hb ?hl ?c5 ?c2 ?c3 ?c4 ?_; (case ho => k_dflt k_is); (case hcd => k_dflt k_is); (case hb => rfl); (case hl => exact locs rfl); (case c5 => decide); (case c2 => exact rfl); (case c3 => exact rfl); (case c4 => exact rfl)))
  intro dp un gd outer A base g L' h₁ tk s B F N X T hd hu
  replace F := fr_same F (m' := mp [(Str.ofString "columns", .ref l), (Str.ofString "self", .ref x)]) (fun y => (lookup_mp _ y).trans rfl)
  refine execs_cut (g := g) (L := L') 1 (fun m nw => (∃ t, m = mp [(Str.ofString "base", .int (-(ns.getD 0 0)) t), (Str.ofString "columns", .ref l), (Str.ofString "self", .ref x)]) ∧ nw = [(x, instObj 73 dx), (dx, combD h1 h2 t1 t2 tb ck), (ck, listOf cs.toArray nc), (l, listOf vs.toArray nl)]) ?_ ?_
  · dsimp only [List.take]
    (((try k_fold); repeat' ((first | (k_unfold; (try dsimp only)) | (k_end; wrow_close) | walk1 | (dsimp only; walk1) | (dsimp only; k_unfold; (try dsimp only)) | (leave1; walk_say "STEP leave1"; try dsimp only)))))
    (with_reducible rename Fr _ _ _ _ => F'); (with_reducible rename News _ _ _ _ => N')
    exact Mid.intro F' N' ⟨⟨_, rfl⟩, rfl⟩ (by k_allIn)
  · intro h' tk' m' news' F₂ N₂ hPat6
    refine goal_gen ?_; intro GG hGG
    refine an2 (hPat6) ?_; clear hPat6; intro hN0 hE1; obtain ⟨t, rfl⟩ := hN0; subst hE1
    refine hGG ?_; clear hGG GG
    clear F N
    dsimp only [List.drop]
    (first | (k_unfold; (try dsimp only)) | (k_end; wrow_close) | walk1 | (dsimp only; walk1) | (dsimp only; k_unfold; (try dsimp only)) | (leave1; walk_say "STEP leave1"; try dsimp only))
    refine While_inv (fun n m nw => ∃ b t, m = mp [(Str.ofString "base", .int b t), (Str.ofString "columns", .ref l), (Str.ofString "self", .ref x)] ∧ nw = [(x, instObj 73 dx), (dx, combD h1 h2 t1 t2 tb ck), (ck, listOf cs.toArray nc), (l, listOf vs.toArray nl)] ∧
      -(ns.getD 0 0) ≤ b ∧ (∀ b', -(ns.getD 0 0) ≤ b' → b' < b → (ns.all fun c => freeAt chk (b' + c)) = false) ∧ n = ((chk.length : Int) - b).toNat) F₂ N₂ ⟨_, _, rfl, rfl, Int.le_refl _, fun b' h1 h2 => by omega, rfl⟩ ?_ PassesOwn.never
    intro n m₁ nw h₃ tk₃ F₃ N₃ hPat7
    refine goal_gen ?_; intro GG hGG
    refine ex2 (hPat7) ?_; clear hPat7; intro b t' hZz; refine an5 (hZz) ?_; clear hZz; intro hE2 hE3 hb hno hE6; subst hE2; subst hE3; subst hE6
    refine hGG ?_; clear hGG GG
    clear F₂ N₂
    (((try k_fold); repeat' ((first | (k_unfold; (try dsimp only)) | (k_end; wrow_close) | walk1 | (dsimp only; walk1) | (dsimp only; k_unfold; (try dsimp only)) | (leave1; walk_say "STEP leave1"; try dsimp only)))))
    refine Spec.use (fits_ok hi hci (fun c hc => by have := hge c hc; omega) hns d1 d2 d3) B F₃ X N₃ T rfl (up_dp hd (by decide)) (up_un hu (by decide)) [] (by k_allIn) (by (((simp only [Apart, List.forall_mem_cons, List.not_mem_nil, false_imp_iff, implies_true, and_true]) <;> ((repeat' apply And.intro) <;> first | assumption | walk_at "MINE ne")))) ?_
    intro v news' h4 tk4 hPat4 F₄ N₄ ap₄
    refine goal_gen ?_; intro GG hGG
    obtain ⟨rfl, rfl⟩ := hPat4
    refine hGG ?_; clear hGG GG
    clear F₃ N₃
    (((try k_fold); repeat' ((first | (k_unfold; (try dsimp only)) | (k_end; wrow_close) | walk1 | (dsimp only; walk1) | (dsimp only; k_unfold; (try dsimp only)) | (leave1; walk_say "STEP leave1"; try dsimp only)))))
    · have hok : (ns.all fun c => freeAt chk (b + c)) = true := by simp_all
      dsimp only
      exact BodyEnd.intro F₄ N₄ ⟨⟨b, _, rfl, hb, hok, hno⟩, rfl⟩ (by k_allIn)
    · have hok : (ns.all fun c => freeAt chk (b + c)) = false := by simp_all
      have hlt : b < chk.length := by
        refine goal_gen ?_; intro GG hGG
        refine ex1 (List.all_eq_false.mp hok) ?_; intro c hZz; refine an2 (hZz) ?_; clear hZz; intro hc hf
        refine hGG ?_; clear hGG GG
        have := hbd c hc
        simp only [freeAt, Bool.or_eq_true, decide_eq_true_eq] at hf
        omega
      (with_reducible rename Fr _ _ _ _ => F'); (with_reducible rename News _ _ _ _ => N')
      refine WhileStep.intro (fr_dup F') N' (n' := ((chk.length : Int) - (b + 1)).toNat) (by omega) ⟨b + 1, _, rfl, rfl, by omega, fun b' q1 q2 => ?_, rfl⟩
      by_cases e : b' = b
      · subst e; exact hok
      · exact hno b' q1 (by omega)
end


local macro_rules | `(tactic| walk_at "call builtin:len") => `(tactic| ((with_reducible show wpAny _ _ (call (Value.builtin "len") [Value.ref _]) _ _ _); refine my_len (by k_asm) (by k_mem) (by omega) ?_))
section

noncomputable def growTo (many : Int) (l : List Int) : List Int := l ++ List.replicate (many - l.length).toNat 0

theorem ints_zero {vs : List Value} {ns : List Int} {t : Tok} {k : Nat} (h : IntsAre vs (ns ++ List.replicate k 0)) : IntsAre (vs ++ [.int 0 t]) (ns ++ List.replicate (k + 1) 0) := by
  rw [List.replicate_succ', ← List.append_assoc]
  exact IntsAre.append h (.cons _ _ .nil)

set_option maxRecDepth 100000 in
set_option maxHeartbeats 400000 in
theorem grow_ok {prog : Program} {w : World} {mean : ExcName → Option Value} {mg mb : Str → Option Value}
  {x dx tb ck : Addr} {h1 h2 : Int} {t1 t2 : Tok} {nt nc : Nat} {ts cs : List Value} {tbl chk : List Int} {many : Int} {tm : Tok}
  (hti : IntsAre ts tbl) (hci : IntsAre cs chk) (hl : tbl.length = chk.length) (hns : chk.length < 1000) (hm : many < 1000) (d1 : @Ne Nat tb ck) (d2 : @Ne Nat tb x) (d3 : @Ne Nat tb dx) (d4 : @Ne Nat ck x) (d5 : @Ne Nat ck dx) :
  Spec 2 prog w mean mg mb 63 [.ref x, .int many tm] [(x, instObj 73 dx), (dx, combD h1 h2 t1 t2 tb ck), (tb, listOf ts.toArray nt), (ck, listOf cs.toArray nc)]
    (fun v nw => ∃ ts' cs' nt' nc', v = .none ∧ nw = [(x, instObj 73 dx), (dx, combD h1 h2 t1 t2 tb ck), (tb, listOf (List.toArray ts') nt'), (ck, listOf (List.toArray cs') nc')] ∧ IntsAre ts' (growTo many tbl) ∧ IntsAre cs' (growTo many chk)) := by
  ((refine' spec_plain ?ho ?hcd ?hb ?hl ?c5 ?c2 ?c3 ?c4 ?_; (case ho => k_dflt k_is); (case hcd => k_dflt k_is); (case hb => rfl); (case hl => exact locs rfl); (case c5 => decide); (case c2 => exact rfl); (case c3 => exact rfl); (case c4 => exact rfl)))
  intro dp un gd outer A base g L' h₁ tk s B F N X T hd hu
  replace F := fr_same F (m' := mp [(Str.ofString "many", .int many tm), (Str.ofString "self", .ref x)]) (fun y => (lookup_mp _ y).trans rfl)
  (first | (k_unfold; (try dsimp only)) | (k_end; wrow_close) | walk1 | (dsimp only; walk1) | (dsimp only; k_unfold; (try dsimp only)) | (leave1; walk_say "STEP leave1"; try dsimp only))
  refine While_inv (fun n m nw => ∃ (k : Nat) (ts' cs' : List Value) (nt' nc' : Nat), m = mp [(Str.ofString "many", .int many tm), (Str.ofString "self", .ref x)] ∧ nw = [(x, instObj 73 dx), (dx, combD h1 h2 t1 t2 tb ck), (tb, listOf ts'.toArray nt'), (ck, listOf cs'.toArray nc')] ∧
      IntsAre ts' (tbl ++ List.replicate k 0) ∧ IntsAre cs' (chk ++ List.replicate k 0) ∧ k ≤ (many - chk.length).toNat ∧ n = (many - chk.length).toNat - k) F N ⟨0, ts, cs, nt, nc, rfl, rfl, by simpa using hti, by simpa using hci, Nat.zero_le _, rfl⟩ ?_ PassesOwn.never
  intro n m₁ nw h₃ tk₃ F₃ N₃ hPat7
  refine goal_gen ?_; intro GG hGG
  refine ex5 (hPat7) ?_; clear hPat7; intro k ts' cs' nt' nc' hZz; refine an6 (hZz) ?_; clear hZz; intro hE5 hE6 hti' hci' hk hE10; subst hE5; subst hE6; subst hE10
  refine hGG ?_; clear hGG GG
  clear F N
  have hlc : cs'.length = chk.length + k := by rw [hci'.length]; simp
  have hlt : ts'.length = chk.length + k := by rw [hti'.length]; simp [hl]
  (((try k_fold); repeat' ((first | (k_unfold; (try dsimp only)) | (k_end; wrow_close) | walk1 | (dsimp only; walk1) | (dsimp only; k_unfold; (try dsimp only)) | (leave1; walk_say "STEP leave1"; try dsimp only)))))
  · (with_reducible rename Fr _ _ _ _ => F'); (with_reducible rename News _ _ _ _ => N')
    rw [List.push_toArray, List.push_toArray] at N'
    exact WhileStep.intro F' N' (n' := (many - chk.length).toNat - (k + 1)) (by omega) ⟨k + 1, _, _, _, _, rfl, rfl, ints_zero hti', ints_zero hci', by omega, rfl⟩
  · have e : (many - chk.length).toNat = k := by omega
    have e2 : (many - tbl.length).toNat = k := by omega
    exact BodyEnd.intro F₃ N₃ ⟨ts', cs', nt', nc', rfl, rfl, by unfold growTo; rw [e2]; exact hti', by unfold growTo; rw [e]; exact hci'⟩ (by k_allIn)

section
variable {prog : Program} {w : World} {A : Around} {E : Value → Shared → Prop} {s : Shared} {h₀ : Heap} {L : Addr} {m : Str → Option Value} {news : Led} {Q : Value → Shared → Prop}
theorem kf_ints_of : ∀ {vs : List Value}, (∀ (j : Nat) v, vs[j]? = some v → ∃ k t, v = .int k t) → kf_ints vs = true
  | [], _ => rfl
  | v :: r, h => by
    refine goal_gen ?_; intro GG hGG
    refine ex2 (h 0 v rfl) ?_; intro k t hE2; subst hE2
    refine hGG ?_; clear hGG GG
    exact kf_ints_of (vs := r) fun j v hv => h (j + 1) v (by simpa using hv)
theorem lks_are_vals : ∀ (q : List Int) (i : Nat) (t : Nat → Tok), IntsAre (lks_vals q i t) q
  | [], _, _ => .nil
  | a :: r, i, t => .cons a _ (lks_are_vals r (i + 1) t)
theorem lks_asc_of : ∀ {q : List Int}, q.Pairwise (· < ·) → lks_asc q = true
  | [], _ => rfl
  | a :: r, h => by
    simp only [lks_asc, Bool.and_eq_true, List.all_eq_true, decide_eq_true_eq]
    exact ⟨fun b hb => Int.le_of_lt (List.rel_of_pairwise_cons h hb), lks_asc_of (List.pairwise_cons.mp h).2⟩

theorem ints_same {vs : List Value} {a b : List Int} (h : IntsAre vs a) : IntsAre vs b → a = b := by
  induction h generalizing b with
  | nil => intro h; cases h; rfl
  | cons n t h ih => intro h; cases h with | cons _ _ h' => rw [ih h']
theorem ints_of : ∀ {vs : List Value} {ks : List Int}, vs.length = ks.length → (∀ (j : Nat) v, vs[j]? = some v → ∃ k t, v = .int k t ∧ ks[j]? = some k) → IntsAre vs ks
  | [], [], _, _ => .nil
  | [], _ :: _, h, _ => by cases h
  | _ :: _, [], h, _ => by cases h
  | v :: r, k :: q, hl, h => by
    refine goal_gen ?_; intro GG hGG
    refine ex2 (h 0 v rfl) ?_; intro k' t hZz; refine an2 (hZz) ?_; clear hZz; intro hE2 e; subst hE2
    refine hGG ?_; clear hGG GG
    have e' : k = k' := by simpa using e
    subst e'
    exact .cons _ _ (ints_of (by simpa using hl) fun j v hv => by simpa using h (j + 1) v (by simpa using hv))

theorem sorted_dict {r : Addr} {ro : Obj} {kvs : List (Int × Value)} {ns : List Int} (hh : A.handled = none) (F : Fr h₀ L s.heap m) (N : News h₀ L s.heap news) (hm : (r, ro) ∈ news) (hd : ro.IsDictOf (intKind prog w) kvs) (lo : (r == sysModules) = false)
    (hp : (kvs.map (·.1)).Perm ns) (hs : ns.Pairwise (· < ·)) (hne : ns ≠ []) (h64 : ns.length < 64)
    (h : ∀ D vs n h' tk, Fr h₀ L h' m → News h₀ L h' ((D, listOf (List.toArray vs) n) :: news) → (∀ q ∈ news, q.1 < D) → IntsAre vs ns → Q (.ref D) { s with heap := h', toks := tk }) :
    wpAny (model prog w) A (call (.builtin "sorted") [.ref r]) Q E s := by
  have hD := kda_dict N hm hd
  obtain ⟨ep, hat⟩ := hD.dictAt
  have hlen : kvs.length = ns.length := by have := hp.length_eq; simpa using this
  refine kdu_sorted (kdl_dict (knd := intKind prog w) (kvs := kvs) (ep := ep) lo) hh F N hat (by rw [sizeLine_eq, hlen]; omega) fun D h' tk vs F' N' l1 hl hv => ?_
  have hint : ∀ (j : Nat) v, vs[j]? = some v → ∃ k t, v = .int k t ∧ (kvs.map (·.1))[j]? = some k := fun j v hj => by
    refine goal_gen ?_; intro GG hGG
    refine ex2 (hv j v hj) ?_; intro k x hZz; refine an2 (hZz) ?_; clear hZz; intro hx hk
    refine hGG ?_; clear hGG GG
    obtain ⟨t, rfl⟩ : ∃ t, v = .int k t := Value.isInt_shape hk
    exact ⟨k, t, rfl, by rw [List.getElem?_map, hx]; rfl⟩
  have hk : kf_ints vs = true := kf_ints_of fun j v hj => by obtain ⟨k, t, e, _⟩ := hint j v hj; exact ⟨k, t, e⟩
  have hnums : lks_nums vs = kvs.map (·.1) := ints_same (lks_are hk) (ints_of (by rw [hl, List.length_map]) hint)
  refine lks_sort (q := ns) F' N' (fun t => Upd.head fun p hp => Nat.ne_of_lt (l1 p hp)) (by simpa using hk) ?_ ?_ ?_ fun t h'' F'' N'' => ?_
  · simp only [lks_ok, hnums, Bool.and_eq_true]
    exact ⟨List.isPerm_iff.mpr hp, lks_asc_of hs⟩
  · show vs.isEmpty = false
    cases vs with
    | nil => rw [List.length_nil] at hl; exact absurd (List.eq_nil_of_length_eq_zero (hlen.symm.trans hl.symm)) hne
    | cons _ _ => rfl
  · show vs.length < 64
    omega
  · exact h D _ _ h'' _ F'' N'' l1 (lks_are_vals ns 0 t)
end
end


local macro_rules | `(tactic| walk_at "subscriptTail") => `(tactic| ((with_reducible show wpAny _ _ (subscriptTail _ _ (Value.ref _) (Value.int (-1) _)) _ _ _); refine my_last (by k_asm) (by k_mem) (by k_asm) (by assumption) ?_; intro _))
local macro_rules | `(tactic| walk_at "subscriptTail") => `(tactic| ((with_reducible show wpAny _ _ (subscriptTail _ _ (Value.ref _) (Value.int _ _)) _ _ _); k_dflt (refine kda_item (knd := PySem.intKind _ _) (by k_asm) (by k_mem) (by assumption) (intKind_is _ _ _ _) (by assumption) ?_)))
local macro_rules | `(tactic| walk_at "setItem ref int") => `(tactic| ((with_reducible show wpAny _ _ (PySem.setItem (Value.ref _) (Value.int _ _) (Value.int _ _)) _ _ _); k_dflt (refine' ksa_set ?k1 ?k2 ?k3 ?k4 ?k5 ?k6 ?k7 ?_; (case k1 => k_asm); (case k2 => k_asm); (case k3 => k_upd); (case k4 => with_reducible assumption); (case k5 => omega); (case k6 => omega); (case k7 => omega)); intro h' F' N' hi' hl' hs'))
section

inductive RowIs : List (Int × Value) → List (Int × Int) → Prop
  | nil : RowIs [] []
  | cons (c x : Int) (t : Tok) {kvs M} : RowIs kvs M → RowIs ((c, .int x t) :: kvs) ((c, x) :: M)

theorem RowIs.keys {kvs : List (Int × Value)} {M : List (Int × Int)} (h : RowIs kvs M) : kvs.map (·.1) = M.map (·.1) := by
  induction h with
  | nil => rfl
  | cons c x t h ih => exact congrArg (c :: ·) ih
theorem RowIs.at {kvs : List (Int × Value)} {M : List (Int × Int)} (h : RowIs kvs M) : ∀ c ∈ M.map (·.1), ∃ t, valueAt kvs c = some (.int ((M.lookup c).getD 0) t) := by
  induction h with
  | nil => intro c h; cases h
  | cons c' x t h ih =>
    intro c hc
    by_cases e : c = c'
    · subst e
      exact ⟨t, by simp [valueAt]⟩
    · have hc' := (List.mem_cons.mp hc).resolve_left e
      obtain ⟨t', ht⟩ := ih c hc'
      have e2 : ¬ c' = c := fun q => e q.symm
      refine ⟨t', ?_⟩
      rw [List.lookup_cons, beq_eq_false_iff_ne.mpr e]
      rw [← ht]
      simp [valueAt, e2]

noncomputable def layAll (val : Int → Int) (b : Int) (ns : List Int) (l : List Int) : List Int := ns.foldl (fun l c => l.set (b + c).toNat (val c)) l

theorem layAll_length (val : Int → Int) (b : Int) : ∀ (ns : List Int) (l : List Int), (layAll val b ns l).length = l.length
  | [], _ => rfl
  | c :: r, l => (layAll_length val b r _).trans (List.length_set ..)
theorem layAll_snoc (val : Int → Int) (b : Int) (ns l : List Int) (c : Int) : layAll val b (ns ++ [c]) l = (layAll val b ns l).set (b + c).toNat (val c) := by
  unfold layAll
  rw [List.foldl_append]
  rfl

theorem LeastFit.le {chk ns : List Int} {lo b : Int} (h : LeastFit (fun b => ns.all fun c => freeAt chk (b + c)) lo b) (hlo : lo ≤ chk.length) (h0 : ∀ c ∈ ns, 0 ≤ c) : b ≤ chk.length := by
  refine Int.not_lt.mp fun q => ?_
  have := h.2.2 chk.length hlo q
  refine goal_gen ?_; intro GG hGG
  refine ex1 (List.all_eq_false.mp this) ?_; intro c hZz; refine an2 (hZz) ?_; clear hZz; intro hc hf
  refine hGG ?_; clear hGG GG
  have := h0 c hc
  simp only [freeAt, Bool.or_eq_true, decide_eq_true_eq] at hf
  omega

theorem last_mem : ∀ {ns : List Int}, ns ≠ [] → ns.getLastD 0 ∈ ns
  | [], h => absurd rfl h
  | [a], _ => List.mem_singleton.mpr rfl
  | a :: b :: r, _ => List.mem_cons_of_mem _ (by simpa using last_mem (ns := b :: r) (by simp))
theorem head_mem : ∀ {ns : List Int}, ns ≠ [] → ns.getD 0 0 ∈ ns
  | [], h => absurd rfl h
  | a :: r, _ => List.mem_cons_self
theorem asc_head : ∀ {ns : List Int}, ns.Pairwise (· < ·) → ∀ c ∈ ns, ns.getD 0 0 ≤ c
  | [], _, _, h => nomatch h
  | a :: r, hp, c, hc => by
    rcases List.mem_cons.mp hc with rfl | hc
    · exact Int.le_refl _
    · exact Int.le_of_lt (List.rel_of_pairwise_cons hp hc)
theorem asc_last : ∀ {ns : List Int}, ns.Pairwise (· < ·) → ∀ c ∈ ns, c ≤ ns.getLastD 0
  | [], _, _, h => nomatch h
  | [a], _, c, hc => by rw [List.mem_singleton.mp hc]; exact Int.le_refl _
  | a :: b :: r, hp, c, hc => by
    have hp' := (List.pairwise_cons.mp hp).2
    have e : (a :: b :: r).getLastD 0 = (b :: r).getLastD 0 := by simp
    rw [e]
    rcases List.mem_cons.mp hc with rfl | hc
    · exact Int.le_of_lt (List.rel_of_pairwise_cons hp (last_mem (by simp)))
    · exact asc_last hp' c hc

set_option maxRecDepth 100000 in
set_option maxHeartbeats 400000 in
theorem put_ok {prog : Program} {w : World} {mean : ExcName → Option Value} {mg mb : Str → Option Value}
  {x dx tb ck r : Addr} {ro : Obj} {h1 h2 : Int} {t1 t2 : Tok} {nt nc : Nat} {ts cs : List Value} {tbl chk ns : List Int} {kvs : List (Int × Value)} {M : List (Int × Int)} {owner : Int} {to : Tok}
  (hti : IntsAre ts tbl) (hci : IntsAre cs chk) (hl : tbl.length = chk.length) (hns : chk.length < 500) (hrow : RowIs kvs M) (hro : ro.IsDictOf (intKind prog w) kvs) (lo : (r == sysModules) = false)
  (hperm : (M.map (·.1)).Perm ns) (hcol : ColOk ns) (ho : 0 ≤ owner) (ho2 : owner < 100)
  (d1 : @Ne Nat tb ck) (d2 : @Ne Nat tb x) (d3 : @Ne Nat tb dx) (d4 : @Ne Nat ck x) (d5 : @Ne Nat ck dx) (d6 : @Ne Nat r x) (d7 : @Ne Nat r dx) (d8 : @Ne Nat r tb) (d9 : @Ne Nat r ck) :
  Spec 7 prog w mean mg mb 70 [.ref x, .int owner to, .ref r] [(x, instObj 73 dx), (dx, combD h1 h2 t1 t2 tb ck), (tb, listOf ts.toArray nt), (ck, listOf cs.toArray nc), (r, ro)]
    (fun v nw => ∃ b t ts' cs' nt' nc', v = .int b t ∧ LeastFit (fun b => ns.all fun c => freeAt chk (b + c)) (-(ns.getD 0 0)) b ∧
      nw = [(x, instObj 73 dx), (dx, combD h1 h2 t1 t2 tb ck), (tb, listOf (List.toArray ts') nt'), (ck, listOf (List.toArray cs') nc'), (r, ro)] ∧
      IntsAre ts' (layAll (fun c => (M.lookup c).getD 0) b ns (growTo (b + ns.getLastD 0 + 1) tbl)) ∧ IntsAre cs' (layAll (fun _ => owner + 1) b ns (growTo (b + ns.getLastD 0 + 1) chk))) := by
  ((refine' spec_plain ?ho ?hcd ?hb ?hl ?c5 ?c2 ?c3 ?c4 ?_; (case ho => k_dflt k_is); (case hcd => k_dflt k_is); (case hb => rfl); (case hl => exact locs rfl); (case c5 => decide); (case c2 => exact rfl); (case c3 => exact rfl); (case c4 => exact rfl)))
  intro dp un gd outer A base g L' h₁ tk s B F N X T hd hu
  replace F := fr_same F (m' := mp [(Str.ofString "row", .ref r), (Str.ofString "owner", .int owner to), (Str.ofString "self", .ref x)]) (fun y => (lookup_mp _ y).trans rfl)
  refine execs_cut (g := g) (L := L') 1 (fun m nw => ∃ (l : Addr) (vs : List Value) (n : Nat), m = mp [(Str.ofString "columns", .ref l), (Str.ofString "row", .ref r), (Str.ofString "owner", .int owner to), (Str.ofString "self", .ref x)] ∧
      nw = [(l, listOf vs.toArray n), (x, instObj 73 dx), (dx, combD h1 h2 t1 t2 tb ck), (tb, listOf ts.toArray nt), (ck, listOf cs.toArray nc), (r, ro)] ∧ IntsAre vs ns ∧
      @LT.lt Nat _ x l ∧ @LT.lt Nat _ dx l ∧ @LT.lt Nat _ tb l ∧ @LT.lt Nat _ ck l ∧ @LT.lt Nat _ r l) ?_ ?_
  · dsimp only [List.take]
    (((try k_fold); repeat' ((first | (k_unfold; (try dsimp only)) | (k_end; wrow_close) | walk1 | (dsimp only; walk1) | (dsimp only; k_unfold; (try dsimp only)) | (leave1; walk_say "STEP leave1"; try dsimp only)))))
    refine sorted_dict rfl (by assumption) (by assumption) (by k_mem) hro lo (by rw [hrow.keys]; exact hperm) hcol.2.1 hcol.1 (by have := hcol.2.2.2; omega) fun D vs n h' tk' F' N' l1 hvs => ?_
    (((try k_fold); repeat' ((first | (k_unfold; (try dsimp only)) | (k_end; wrow_close) | walk1 | (dsimp only; walk1) | (dsimp only; k_unfold; (try dsimp only)) | (leave1; walk_say "STEP leave1"; try dsimp only)))))
    (with_reducible rename Fr _ _ _ _ => F'); (with_reducible rename News _ _ _ _ => N')
    simp only [List.forall_mem_cons] at l1
    exact Mid.intro F' N' ⟨D, vs, n, rfl, rfl, hvs, l1.1, l1.2.1, l1.2.2.1, l1.2.2.2.1, l1.2.2.2.2.1⟩ (by k_allIn)
  · intro h' tk' m' news' F₂ N₂ hPat6
    refine goal_gen ?_; intro GG hGG
    refine ex3 (hPat6) ?_; clear hPat6; intro l vs n hZz; refine an8 (hZz) ?_; clear hZz; intro hE3 hE4 hvs e1 e2 e3 e4 e5; subst hE3; subst hE4
    refine hGG ?_; clear hGG GG
    clear F N
    have f1 : @Ne Nat l x := by omega
    have f2 : @Ne Nat l dx := by omega
    have f3 : @Ne Nat l ck := by omega
    have hne : ns ≠ [] := hcol.1
    have hle : ∀ c ∈ ns, c ≤ ns.getLastD 0 := fun c hc => asc_last hcol.2.1 c hc
    have hge : ∀ c ∈ ns, ns.getD 0 0 ≤ c := fun c hc => asc_head hcol.2.1 c hc
    have hlm : ns.getLastD 0 ∈ ns := last_mem hne
    have hhm : ns.getD 0 0 ∈ ns := head_mem hne
    have hl1 := hcol.2.2.1 _ hlm
    have hh1 := hcol.2.2.1 _ hhm
    dsimp only [List.drop]
    refine execs_cut (g := g) (L := L') 1 (fun m nw => ∃ b t, m = mp [(Str.ofString "base", .int b t), (Str.ofString "columns", .ref l), (Str.ofString "row", .ref r), (Str.ofString "owner", .int owner to), (Str.ofString "self", .ref x)] ∧
      nw = [(l, listOf vs.toArray n), (x, instObj 73 dx), (dx, combD h1 h2 t1 t2 tb ck), (tb, listOf ts.toArray nt), (ck, listOf cs.toArray nc), (r, ro)] ∧ LeastFit (fun b => ns.all fun c => freeAt chk (b + c)) (-(ns.getD 0 0)) b) ?_ ?_
    · dsimp only [List.take]
      (((try k_fold); repeat' ((first | (k_unfold; (try dsimp only)) | (k_end; wrow_close) | walk1 | (dsimp only; walk1) | (dsimp only; k_unfold; (try dsimp only)) | (leave1; walk_say "STEP leave1"; try dsimp only)))))
      refine Spec.use (first_fit_ok (tb := tb) (h1 := h1) (h2 := h2) (t1 := t1) (t2 := t2) (nc := nc) (nl := n) hvs hci hcol (by omega) f1 f2 f3) B F₂ X N₂ T rfl (up_dp hd (by decide)) (up_un hu (by decide)) [(tb, listOf ts.toArray nt), (r, ro)] (by k_allIn) (by (((simp only [Apart, List.forall_mem_cons, List.not_mem_nil, false_imp_iff, implies_true, and_true]) <;> ((repeat' apply And.intro) <;> first | assumption | walk_at "MINE ne")))) ?_
      intro v news' h3 tk3 hPat4 F₃ N₃ ap₃
      refine goal_gen ?_; intro GG hGG
      refine an2 (hPat4) ?_; clear hPat4; intro hN0 hE1; obtain ⟨b, t, rfl, hleast⟩ := hN0; subst hE1
      refine hGG ?_; clear hGG GG
      (((try k_fold); repeat' ((first | (k_unfold; (try dsimp only)) | (k_end; wrow_close) | walk1 | (dsimp only; walk1) | (dsimp only; k_unfold; (try dsimp only)) | (leave1; walk_say "STEP leave1"; try dsimp only)))))
      (with_reducible rename Fr _ _ _ _ => F'); (with_reducible rename News _ _ _ _ => N')
      exact Mid.intro F' N' ⟨b, t, rfl, rfl, hleast⟩ (by k_allIn)
    · intro h3 tk3 m' news' F₃ N₃ hPat6
      refine goal_gen ?_; intro GG hGG
      refine ex2 (hPat6) ?_; clear hPat6; intro b t hZz; refine an3 (hZz) ?_; clear hZz; intro hE2 hE3 hleast; subst hE2; subst hE3
      refine hGG ?_; clear hGG GG
      clear F₂ N₂
      have hb1 : b ≤ chk.length := hleast.le (by omega) fun c hc => (hcol.2.2.1 c hc).1
      have hb0 := hleast.1
      have hlast : b + ns.getLastD 0 + 1 < 1000 := by omega
      dsimp only [List.drop]
      refine execs_cut (g := g) (L := L') 1 (fun m nw => ∃ (ts' cs' : List Value) (nt' nc' : Nat), m = mp [(Str.ofString "base", .int b t), (Str.ofString "columns", .ref l), (Str.ofString "row", .ref r), (Str.ofString "owner", .int owner to), (Str.ofString "self", .ref x)] ∧
        nw = [(l, listOf vs.toArray n), (x, instObj 73 dx), (dx, combD h1 h2 t1 t2 tb ck), (tb, listOf ts'.toArray nt'), (ck, listOf cs'.toArray nc'), (r, ro)] ∧ IntsAre ts' (growTo (b + ns.getLastD 0 + 1) tbl) ∧ IntsAre cs' (growTo (b + ns.getLastD 0 + 1) chk)) ?_ ?_
      · dsimp only [List.take]
        (((try k_fold); repeat' ((first | (k_unfold; (try dsimp only)) | (k_end; wrow_close) | walk1 | (dsimp only; walk1) | (dsimp only; k_unfold; (try dsimp only)) | (leave1; walk_say "STEP leave1"; try dsimp only)))))
        refine Spec.use (grow_ok (tb := tb) (h1 := h1) (h2 := h2) (t1 := t1) (t2 := t2) (nt := nt) (nc := nc) hti hci hl (by omega) hlast d1 d2 d3 d4 d5) B F₃ X N₃ T rfl (up_dp hd (by decide)) (up_un hu (by decide)) [(l, listOf vs.toArray n), (r, ro)] (by k_allIn) (by (((simp only [Apart, List.forall_mem_cons, List.not_mem_nil, false_imp_iff, implies_true, and_true]) <;> ((repeat' apply And.intro) <;> first | assumption | walk_at "MINE ne")))) ?_
        intro v news' h4 tk4 hPat4 F₄ N₄ ap₄
        refine goal_gen ?_; intro GG hGG
        refine ex4 (hPat4) ?_; clear hPat4; intro ts' cs' nt' nc' hZz; refine an4 (hZz) ?_; clear hZz; intro hE4 hE5 hti' hci'; subst hE4; subst hE5
        refine hGG ?_; clear hGG GG
        (((try k_fold); repeat' ((first | (k_unfold; (try dsimp only)) | (k_end; wrow_close) | walk1 | (dsimp only; walk1) | (dsimp only; k_unfold; (try dsimp only)) | (leave1; walk_say "STEP leave1"; try dsimp only)))))
        (with_reducible rename Fr _ _ _ _ => F'); (with_reducible rename News _ _ _ _ => N')
        exact Mid.intro F' N' ⟨ts', cs', nt', nc', rfl, rfl, hti', hci'⟩ (by k_allIn)
      · intro h4 tk4 m' news' F₄ N₄ hPat6
        refine goal_gen ?_; intro GG hGG
        refine ex4 (hPat6) ?_; clear hPat6; intro ts' cs' nt' nc' hZz; refine an4 (hZz) ?_; clear hZz; intro hE4 hE5 hti' hci'; subst hE4; subst hE5
        refine hGG ?_; clear hGG GG
        clear F₃ N₃
        dsimp only [List.drop]
        (first | (k_unfold; (try dsimp only)) | (k_end; wrow_close) | walk1 | (dsimp only; walk1) | (dsimp only; k_unfold; (try dsimp only)) | (leave1; walk_say "STEP leave1"; try dsimp only))
        refine For_invVF F₄ rfl rfl ?_ (by intro _; rfl) PassesOwn.never
        (first | (k_unfold; (try dsimp only)) | (k_end; wrow_close) | walk1 | (dsimp only; walk1) | (dsimp only; k_unfold; (try dsimp only)) | (leave1; walk_say "STEP leave1"; try dsimp only))
        refine for_list (fun i m nw => ∃ (ts' cs' : List Value) (nt' nc' : Nat), nw = [(l, listOf vs.toArray n), (x, instObj 73 dx), (dx, combD h1 h2 t1 t2 tb ck), (tb, listOf ts'.toArray nt'), (ck, listOf cs'.toArray nc'), (r, ro)] ∧
          LoopMap (Str.ofString "column") [(Str.ofString "base", .int b t), (Str.ofString "columns", .ref l), (Str.ofString "row", .ref r), (Str.ofString "owner", .int owner to), (Str.ofString "self", .ref x)] m ∧
          IntsAre ts' (layAll (fun c => (M.lookup c).getD 0) b (ns.take i) (growTo (b + ns.getLastD 0 + 1) tbl)) ∧ IntsAre cs' (layAll (fun _ => owner + 1) b (ns.take i) (growTo (b + ns.getLastD 0 + 1) chk)))
          rfl F₄ N₄ (by k_memK) ⟨ts', cs', nt', nc', rfl, .inl rfl, hti', hci'⟩ (by rintro i m nw ⟨_, _, _, _, rfl, _⟩; k_memK) ?_ ?_
        · intro i v m₁ nw I oI h5 tk5 hv hPat9 off F₅ N₅
          refine goal_gen ?_; intro GG hGG
          refine ex4 (hPat9) ?_; clear hPat9; intro ts1 cs1 nt1 nc1 hZz; refine an4 (hZz) ?_; clear hZz; intro hE4 hm hti1 hci1; subst hE4
          refine hGG ?_; clear hGG GG
          clear F₄ N₄
          replace F₅ := hm.fr F₅
          refine goal_gen ?_; intro GG hGG
          refine ex2 (IntsAre.at hvs i v hv) ?_; intro c tc hZz; refine an2 (hZz) ?_; clear hZz; intro hE2 hc; subst hE2
          refine hGG ?_; clear hGG GG
          have hcm : c ∈ ns := List.mem_of_getElem? hc
          have hc0 := hge c hcm
          have hc1 := hle c hcm
          obtain ⟨tv, hval⟩ := hrow.at c (hperm.mem_iff.mpr hcm)
          simp only [List.forall_mem_cons] at off
          have hg1 : (layAll (fun c => (M.lookup c).getD 0) b (ns.take i) (growTo (b + ns.getLastD 0 + 1) tbl)).length = (growTo (b + ns.getLastD 0 + 1) chk).length := by rw [layAll_length]; unfold growTo; rw [List.length_append, List.length_append, List.length_replicate, List.length_replicate, hl]
          have hg2 : (layAll (fun _ => owner + 1) b (ns.take i) (growTo (b + ns.getLastD 0 + 1) chk)).length = (growTo (b + ns.getLastD 0 + 1) chk).length := layAll_length ..
          have hg3 : b + ns.getLastD 0 + 1 ≤ (growTo (b + ns.getLastD 0 + 1) chk).length := by unfold growTo; rw [List.length_append, List.length_replicate]; omega
          have hst : ns.take (i + 1) = ns.take i ++ [c] := by rw [List.take_add_one, hc]; rfl
          rw [hst, layAll_snoc, layAll_snoc]
          generalize layAll (fun c => (M.lookup c).getD 0) b (ns.take i) (growTo (b + ns.getLastD 0 + 1) tbl) = tl at hti1 hg1 ⊢
          generalize layAll (fun _ => owner + 1) b (ns.take i) (growTo (b + ns.getLastD 0 + 1) chk) = cl at hci1 hg2 ⊢
          (((try k_fold); repeat' ((first | (k_unfold; (try dsimp only)) | (k_end; wrow_close) | walk1 | (dsimp only; walk1) | (dsimp only; k_unfold; (try dsimp only)) | (leave1; walk_say "STEP leave1"; try dsimp only)))))
          (with_reducible rename Fr _ _ _ _ => F'); (with_reducible rename News _ _ _ _ => N')
          refine TurnEnd.intro F' N' ⟨_, _, _, _, rfl, .inr ⟨_, rfl⟩, ?_, ?_⟩ (by k_allIn) (by simpa only [List.forall_mem_cons] using off)
          · assumption
          · assumption
        · intro m₁ nw h5 tk5 hPat4 F₅ N₅
          refine goal_gen ?_; intro GG hGG
          refine ex4 (hPat4) ?_; clear hPat4; intro ts1 cs1 nt1 nc1 hZz; refine an4 (hZz) ?_; clear hZz; intro hE4 hm hti1 hci1; subst hE4
          refine hGG ?_; clear hGG GG
          have hvl : vs.length = ns.length := hvs.length
          rw [hvl, List.take_length] at hti1 hci1
          rcases hm with rfl | ⟨v, rfl⟩
          all_goals
            (((try k_fold); repeat' ((first | (k_unfold; (try dsimp only)) | (k_end; wrow_close) | walk1 | (dsimp only; walk1) | (dsimp only; k_unfold; (try dsimp only)) | (leave1; walk_say "STEP leave1"; try dsimp only)))))
            (try dsimp only)
            exact BodyEnd.intro F₅ N₅ ⟨b, t, ts1, cs1, nt1, nc1, rfl, hleast, rfl, hti1, hci1⟩ (by k_allIn)
end


local macro_rules | `(tactic| walk_at "compareOp In int ref") => `(tactic| (k_dflt (refine kda_in (knd := PySem.intKind _ _) (by k_asm) (by k_mem) (by assumption) (by assumption) (intKind_is _ _ _ _) _ rfl ?_)))
local macro_rules | `(tactic| walk_at "loadName") => `(tactic| (k_dflt (refine' wpAny_loadName_cell ?a ?b ?c ⟨_, News.get ?n ?m, ?d⟩ ?_; (case a => rfl); (case b => rfl); (case c => rfl); (case n => k_asm); (case m => k_mem); (case d => k_asm))))
section

set_option maxRecDepth 100000 in
set_option maxHeartbeats 400000 in
theorem law_base_ok {prog : Program} {w : World} {mean : ExcName → Option Value} {mg mb : Str → Option Value}
  {d l : Addr} {od : Obj} {nl : Nat} {vs : List Value} {ns : List Int} {kvs : List (Int × Value)} {B₁ : Int}
  (hod : od.IsDictOf (intKind prog w) kvs) (lo : (d == sysModules) = false) (hi : IntsAre vs ns) (hcol : ColOk ns) (hB : ∀ k, (valueAt kvs k).isSome = true → k < B₁) (hdl : @Ne Nat d l) :
  Spec 3 prog w mean mg mb 179 [.ref d, .ref l] [(d, od), (l, listOf vs.toArray nl)]
    (fun v nw => (∃ b t, v = .int b t ∧ LeastFit (fun b => ns.all fun c => !(valueAt kvs (b + c)).isSome) (-(ns.getD 0 0)) b) ∧ nw = [(d, od), (l, listOf vs.toArray nl)]) := by
  have hne : ns ≠ [] := hcol.1
  have hlen0 : 0 < ns.length := List.length_pos_iff.mpr hne
  have hlen4 := hcol.2.2.2
  have hbd := hcol.2.2.1
  ((refine' spec_cells ?ho ?hcd ?hb ?hl ?c5 ?c2 ?c3 ?c4 ?_; (case ho => k_dflt k_is); (case hcd => k_dflt k_is); (case hb => rfl); (case hl => exact rfl); (case c5 => decide +kernel); (case c2 => exact rfl); (case c3 => exact rfl); (case c4 => exact rfl)))
  intro dp un gd outer A base g L' h₁ tk s cells B F N Y l1 X T hd hu
  refine goal_gen ?_; intro GG hGG
  refine ex2 (CellsAre.two Y) ?_; intro ob oc hZz; refine an3 (hZz) ?_; clear hZz; intro hE2 e1 e2; subst hE2
  refine hGG ?_; clear hGG GG
  simp only [List.cons_append, List.nil_append] at N
  clear Y
  have lp : @LT.lt Nat _ d L' := l1 (d, od) (.head _)
  have lq : @LT.lt Nat _ l L' := l1 (l, _) (.tail _ (.head _))
  replace e2 : oc.data = .cell (some (.ref d)) := e2
  replace e1 : ob.data = .cell none := e1
  replace F := fr_same F (m' := mp [(Str.ofString "columns", .ref l)]) (fun y => rfl)
  show wpAny _ (ktrTop dp un gd _ _ L' 179 _ [(Str.ofString "base", L' + 2), (Str.ofString "cells", L' + 1)] outer) (execs _ (envX _ _ L' 179 _ [(Str.ofString "base", L' + 2), (Str.ofString "cells", L' + 1)])) _ _ _
  refine execs_cut (g := g) (L := L') 1 (fun m nw => ∃ (b : Int) (t : Tok) (ob' : Obj), b = -(ns.getD 0 0) ∧ ob'.data = .cell (some (.int b t)) ∧ m = mp [(Str.ofString "columns", .ref l)] ∧ nw = [(L' + 2, ob'), (L' + 1, oc), (d, od), (l, listOf vs.toArray nl)]) ?_ ?_
  · dsimp only [List.take]
    (((try k_fold); repeat' ((first | (k_unfold; (try dsimp only)) | (k_end; wrow_close) | walk1 | (dsimp only; walk1) | (dsimp only; k_unfold; (try dsimp only)) | (leave1; walk_say "STEP leave1"; try dsimp only)))))
    (with_reducible rename Fr _ _ _ _ => F'); (with_reducible rename News _ _ _ _ => N')
    exact Mid.intro F' N' ⟨0 - ns.getD (Int.toNat 0) 0, _, _, by show 0 - ns.getD 0 0 = _; omega, by assumption, rfl, rfl⟩ (by k_allIn)
  · intro h' tk' m' news' F₂ N₂ hPat6
    refine goal_gen ?_; intro GG hGG
    refine ex3 (hPat6) ?_; clear hPat6; intro b t ob' hZz; refine an4 (hZz) ?_; clear hZz; intro hb hb' hE5 hE6; subst hE5; subst hE6
    refine hGG ?_; clear hGG GG
    clear F N
    dsimp only [List.drop]
    (first | (k_unfold; (try dsimp only)) | (k_end; wrow_close) | walk1 | (dsimp only; walk1) | (dsimp only; k_unfold; (try dsimp only)) | (leave1; walk_say "STEP leave1"; try dsimp only))
    have hge : ∀ c ∈ ns, ns.getD 0 0 ≤ c := fun c hc => asc_head hcol.2.1 c hc
    refine While_inv (fun n m nw => ∃ b t ob', ob'.data = .cell (some (.int b t)) ∧ m = mp [(Str.ofString "columns", .ref l)] ∧ nw = [(L' + 2, ob'), (L' + 1, oc), (d, od), (l, listOf vs.toArray nl)] ∧
      -(ns.getD 0 0) ≤ b ∧ (∀ b', -(ns.getD 0 0) ≤ b' → b' < b → (ns.all fun c => !(valueAt kvs (b' + c)).isSome) = false) ∧ n = (B₁ - b).toNat) F₂ N₂ ⟨b, t, ob', hb', rfl, rfl, by omega, fun b' h1 h2 => by omega, rfl⟩ ?_ PassesOwn.never
    intro n m₁ nw h₃ tk₃ F₃ N₃ hPat7
    refine goal_gen ?_; intro GG hGG
    refine ex3 (hPat7) ?_; clear hPat7; intro b t ob' hZz; refine an6 (hZz) ?_; clear hZz; intro hb' hE4 hE5 hb hno hE8; subst hE4; subst hE5; subst hE8
    refine hGG ?_; clear hGG GG
    clear F₂ N₂
    (first | (k_unfold; (try dsimp only)) | (k_end; wrow_close) | walk1 | (dsimp only; walk1) | (dsimp only; k_unfold; (try dsimp only)) | (leave1; walk_say "STEP leave1"; try dsimp only))
    refine LCt.ListComp_T (cl := [(Str.ofString "cells", L' + 1), (Str.ofString "base", L' + 2)]) F₃ ?_ ?_ ?_ ?_ ?_ ?_ ?_
    · with_unfolding_all rfl
    · decide
    · rfl
    · decide
    · rfl
    · (first | (k_unfold; (try dsimp only)) | (k_end; wrow_close) | walk1 | (dsimp only; walk1) | (dsimp only; k_unfold; (try dsimp only)) | (leave1; walk_say "STEP leave1"; try dsimp only))
      refine LCt.CompSrcT.ledger rfl F₃ N₃ (by k_memK) (by rw [List.size_toArray, hi.length, sizeLine_eq]; omega) (fun g' => restT_of (fun i ys nw => ∃ ks : List Int, nw = [(L' + 2, ob'), (L' + 1, oc), (d, od), (l, listOf vs.toArray nl)] ∧ IntsAre ys ks ∧ ks = (ns.take i).filter fun c => (valueAt kvs (b + c)).isSome) ?_ ?_ _ 0 [] _ (Nat.zero_add _) ⟨[], rfl, .nil, by simp⟩)
      · intro i v ys nw I oI C oC D m₂ h tk E' hin hP hJ hC hx F₂ N₂ off ne
        refine goal_gen ?_; intro GG hGG
        refine ex1 (hJ) ?_; clear hJ; intro ks hZz; refine an3 (hZz) ?_; clear hZz; intro hE1 hys hks; subst hE1
        refine hGG ?_; clear hGG GG
        obtain ⟨c, t', rfl, hc⟩ := IntsAre.at hi i v (by simpa using hP)
        simp only [LCg.Off3] at off
        have hst : ns.take (i + 1) = ns.take i ++ [c] := by rw [List.take_add_one, hc]; rfl
        (((try k_fold); repeat' ((first | (k_unfold; (try dsimp only)) | (k_end; wrow_close) | walk1 | (dsimp only; walk1) | (dsimp only; k_unfold; (try dsimp only)) | (leave1; walk_say "STEP leave1"; try dsimp only)))))
        · have hin : (valueAt kvs (b + c)).isSome = true := by assumption
          rw [hst, List.filter_append, ← hks]
          simp only [List.filter_cons, hin, if_true, List.filter_nil]
          exact IntsAre.append hys (.cons _ _ .nil)
        · have hin : (valueAt kvs (b + c)).isSome = false := by simp_all
          rw [hst, List.filter_append, ← hks]
          simp only [List.filter_cons, hin, Bool.false_eq_true, if_false, List.filter_nil, List.append_nil]
          exact hys
      · intro ys nw hPat2
        refine goal_gen ?_; intro GG hGG
        refine ex1 (hPat2) ?_; clear hPat2; intro ks hZz; refine an3 (hZz) ?_; clear hZz; intro hE1 hys hks; subst hE1
        refine hGG ?_; clear hGG GG
        intro D h' tk' F₂ N₂ off
        rw [List.size_toArray, hi.length, List.take_length] at hks
        simp only [LCg.Off1] at off
        (((try k_fold); repeat' ((first | (k_unfold; (try dsimp only)) | (k_end; wrow_close) | walk1 | (dsimp only; walk1) | (dsimp only; k_unfold; (try dsimp only)) | (leave1; walk_say "STEP leave1"; try dsimp only)))))
        · have hk0 : ks = [] := by simp_all
          dsimp only
          (with_reducible rename Fr _ _ _ _ => F'); (with_reducible rename News _ _ _ _ => N')
          refine BodyEnd.intro F' N' ⟨⟨b, _, rfl, hb, ?_, hno⟩, rfl⟩ (by k_allIn)
          rw [hk0] at hks
          exact List.all_eq_true.mpr fun c hc => by
            cases e : (valueAt kvs (b + c)).isSome with
            | false => rfl
            | true =>
              have : c ∈ ns.filter fun c => (valueAt kvs (b + c)).isSome := List.mem_filter.mpr ⟨hc, e⟩
              rw [← hks] at this; cases this
        · have hk0 : ks ≠ [] := by simp_all
          obtain ⟨c, hcm⟩ := List.exists_mem_of_ne_nil _ hk0
          rw [hks] at hcm
          obtain ⟨hcn, hco⟩ := List.mem_filter.mp hcm
          have hlt := hB _ hco
          have hc0 := (hbd c hcn).1
          (with_reducible rename Fr _ _ _ _ => F'); (with_reducible rename News _ _ _ _ => N')
          refine WhileStep.intro F' (kst_newsOf N' (by k_allIn)) (n' := (B₁ - (b + 1)).toNat) (by omega) ⟨b + 1, _, _, by assumption, rfl, rfl, by omega, fun b' q1 q2 => ?_, rfl⟩
          · by_cases e : b' = b
            · subst e
              exact List.all_eq_false.mpr ⟨c, hcn, by rw [hco]; decide⟩
            · exact hno b' q1 (by omega)
    · intro _; with_unfolding_all rfl
end


section
open PySem.SeqAt PyProof.V PyProof.Rows.LSm
section
variable {prog : Program} {w : World} {A : Around} {E : Value → Shared → Prop} {s : Shared} {h₀ : Heap} {L d : Addr} {m : Str → Option Value} {news : Led} {od : Obj} {kvs : List (Int × Value)}
theorem max_dict {Q : Value → Shared → Prop} (hh : A.handled = none) (F : Fr h₀ L s.heap m) (N : News h₀ L s.heap news) (hp : (d, od) ∈ news) (hod : od.IsDictOf (intKind prog w) kvs) (lo : (d == sysModules) = false) (hne : kvs ≠ [])
    (hQ : ∀ M t h' tk, M ∈ kvs.map (·.1) → (∀ x ∈ kvs.map (·.1), x ≤ M) → Fr h₀ L h' m → News h₀ L h' news → Q (.int M t) { s with heap := h', toks := tk }) :
    wpAny (model prog w) A (call (.builtin "max") [.ref d]) Q E s := by
  obtain ⟨ep, hat⟩ := (kda_dict N hp hod).dictAt
  obtain ⟨oI, St, hit, W, st⟩ := (kdl_dict (knd := intKind prog w) (kvs := kvs) (ep := ep) lo).iter A.in1 s hh hat
  have hpos : 0 < kvs.length := List.length_pos_iff.mpr hne
  have hlt := hat.lt_size
  let val : Nat → Int := fun j => (kvs.map (·.1)).getD j 0
  have hval : ∀ i v, (∃ k x, kvs[i]? = some (k, x) ∧ (intKind prog w).is k v = true) → ∃ t, v = .int (val i) t := by
    rintro i v ⟨k, x, hk, hi⟩
    obtain ⟨t, rfl⟩ : ∃ t, v = .int k t := by
      cases v <;> simp [intKind, Value.isInt] at hi
      exact ⟨_, by rw [hi]⟩
    exact ⟨t, by simp [val, List.getD_eq_getElem?_getD, hk]⟩
  refine call_max_walk (hit _ _ ⟨_, _, _, _, _, _, _, rfl, W, st, ?_, hpos, CmpOf.ints_gt val hval, fun v h' tk hP hk => ?_⟩)
  · intro b hb
    show b < (s.heap.push _).objs.size
    rw [Heap.size_push]
    rcases List.mem_cons.mp hb with rfl | hb
    · exact Nat.lt_succ_self _
    · rw [List.mem_singleton.mp hb]; exact Nat.lt_succ_of_lt hlt
  · obtain ⟨t, rfl⟩ := hval _ v hP
    have hb := argBest_gt val (kvs.length - 1)
    have hk' : ∀ b o, s.heap.get? b = some o → h'.get? b = some o := fun b o e => hk b o (fun hm => Nat.lt_irrefl _ (Nat.lt_of_lt_of_le (Heap.lt_size e) (Nat.le_of_eq (List.mem_singleton.mp hm).symm))) (Heap.get?_push_of_some _ e)
    refine hQ _ t h' tk ?_ (fun x hx => ?_) (F.keeps hk') (N.keeps hk')
    · show (kvs.map (·.1)).getD (argBest _ _) 0 ∈ _
      have hl : argBest (fun i j => decide (val i > val j)) (kvs.length - 1) < (kvs.map (·.1)).length := by simp only [List.length_map]; omega
      rw [List.getD_eq_getElem?_getD, List.getElem?_eq_getElem hl, Option.getD_some]; exact List.getElem_mem hl
    · obtain ⟨i, hi, rfl⟩ := List.getElem_of_mem hx
      have h1 := hb.2 i (by simp only [List.length_map] at hi; omega)
      have h2 : val i = (kvs.map (·.1))[i] := by
        show (kvs.map (·.1)).getD i 0 = _
        rw [List.getD_eq_getElem?_getD, List.getElem?_eq_getElem hi, Option.getD_some]
      rw [← h2]; exact h1
end

open PySem.SeqAt PyProof.V PyProof.Rows.LSm
theorem readsAll_of_bools {h : Heap} {vs : List Value} {bs : List Bool} (hb : BoolsAre vs bs) : ReadsAll h vs (bs.map PyData.bool) [] := by
  induction hb with
  | nil => exact .nil
  | cons b r ih =>
    have := ReadsAll.cons (Reads.bool (h := h) b) ih
    simpa using this
theorem reads_of_bools {h : Heap} {a : Addr} {vs : List Value} {bs : List Bool} (hl : h.IsList a vs.toArray) (hi : BoolsAre vs bs) : Reads h (.ref a) (.list (bs.map PyData.bool)) [a] := by
  obtain ⟨o, ho, hc, n, hd⟩ := hl
  exact Reads.list ho hc hd (by simpa using readsAll_of_bools hi)
theorem canLayAll0_bools : ∀ bs : List Bool, PyData.canLayAll0 (bs.map PyData.bool) = true
  | [] => by simp [PyData.canLayAll0]
  | n :: r => by simp [PyData.canLayAll0, PyData.canLay0, canLayAll0_bools r]
theorem depthAll_bools : ∀ bs : List Bool, PyData.depthAll (bs.map PyData.bool) ≤ 1
  | [] => by simp [PyData.depthAll]
  | n :: r => by
    have := depthAll_bools r
    simp only [List.map_cons, PyData.depthAll, PyData.depth]
    omega
theorem shaped_bools (bs : List Bool) : shaped (.list (bs.map PyData.bool)) = true := by
  have h1 := depthAll_bools bs
  have h2 : PyData.depth (.list (bs.map PyData.bool)) ≤ 64 := by simp only [PyData.depth]; omega
  show (PyData.canLay0 (.list (bs.map PyData.bool)) && decide (PyData.depth (.list (bs.map PyData.bool)) ≤ 64)) = true
  rw [Bool.and_eq_true]
  exact ⟨by simp only [PyData.canLay0]; exact canLayAll0_bools bs, decide_eq_true h2⟩
theorem noMix_bools : ∀ bs ms : List Bool, noMixAll (bs.map PyData.bool) (ms.map PyData.bool) = true
  | [], [] => by simp [noMixAll]
  | [], _ :: _ => by simp [noMixAll]
  | _ :: _, [] => by simp [noMixAll]
  | _ :: r, _ :: q => by simp [noMixAll, noMix, noMix_bools r q]
theorem same_bools : ∀ bs ms : List Bool, PySem.Spec.sameAll (bs.map PyData.bool) (ms.map PyData.bool) = decide (bs = ms)
  | [], [] => by simp [PySem.Spec.sameAll]
  | [], _ :: _ => by simp [PySem.Spec.sameAll]
  | _ :: _, [] => by simp [PySem.Spec.sameAll]
  | n :: r, k :: q => by
    simp only [List.map_cons, PySem.Spec.sameAll, PySem.Spec.same, same_bools r q]
    by_cases h : n = k <;> simp [h]
section
variable {prog : Program} {w : World} {A : Around} {E : Value → Shared → Prop} {s : Shared}
theorem eq_boolsK {a b : Addr} {vs us : List Value} {bs cs : List Bool} {Q : Value → Shared → Prop} (hl : s.heap.IsList a vs.toArray) (hi : BoolsAre vs bs) (hl' : s.heap.IsList b us.toArray) (hi' : BoolsAre us cs) (hu : A.units + 64 < cLine)
    (h : Q (.bool (decide (bs = cs))) s) : wpAny (model prog w) A (compareOp .Eq (.ref a) (.ref b)) Q E s :=
  eq_dataH_same (reads_of_bools hl hi) (reads_of_bools hl' hi') (shaped_bools bs) (shaped_bools cs) hu (by simp only [noMix]; exact noMix_bools bs cs) (by simp only [PySem.Spec.same]; rw [same_bools]; exact h)
theorem ne_nil_dict {h₀ : Heap} {L a b : Addr} {oa ob : Obj} {news : Led} {ka : List (Int × Value)} {Q : Value → Shared → Prop} (N : News h₀ L s.heap news) (pa : (a, oa) ∈ news) (pb : (b, ob) ∈ news) (da : oa.IsDictOf (intKind prog w) ka) (db : ob.IsDictOf (intKind prog w) []) (la : (a == sysModules) = false) (lb : (b == sysModules) = false) (hu : A.units < cLine)
    (h : Q (.bool (!ka.isEmpty)) s) : wpAny (model prog w) A (compareOp .NotEq (.ref a) (.ref b)) Q E s := by
  refine keq_ne (r := true) la lb (Heap.dictOf_iff.mpr ⟨oa, (N _ pa).1, da⟩) (Heap.dictOf_iff.mpr ⟨ob, (N _ pb).1, db⟩) hu (fun e => ?_) ?_
  · cases ka with
    | nil => exact .nil
    | cons x r => exact absurd e (by simp)
  · cases ka with
    | nil => exact h
    | cons x r => simpa using h
theorem ne_same {h₀ : Heap} {L a b : Addr} {na nb : Nat} {vs us : List Value} {ns : List Int} {news : Led} {Q : Value → Shared → Prop} (N : News h₀ L s.heap news) (pa : (a, listOf vs.toArray na) ∈ news) (pb : (b, listOf us.toArray nb) ∈ news) (ia : IntsAre vs ns) (ib : IntsAre us ns) (hu : A.units + 64 < cLine)
    (h : Q (.bool false) s) : wpAny (model prog w) A (compareOp .NotEq (.ref a) (.ref b)) Q E s :=
  ne_intsK ⟨_, (N _ pa).1, rfl, na, rfl⟩ ia ⟨_, (N _ pb).1, rfl, nb, rfl⟩ ib hu (by simpa using h)
theorem eq_same_bools {h₀ : Heap} {L a b : Addr} {na nb : Nat} {vs us : List Value} {bs : List Bool} {news : Led} {Q : Value → Shared → Prop} (N : News h₀ L s.heap news) (pa : (a, listOf vs.toArray na) ∈ news) (pb : (b, listOf us.toArray nb) ∈ news) (ia : BoolsAre vs bs) (ib : BoolsAre us bs) (hu : A.units + 64 < cLine)
    (h : Q (.bool true) s) : wpAny (model prog w) A (compareOp .Eq (.ref a) (.ref b)) Q E s :=
  eq_boolsK ⟨_, (N _ pa).1, rfl, na, rfl⟩ ia ⟨_, (N _ pb).1, rfl, nb, rfl⟩ ib hu (by simpa using h)
theorem bools_app {vs us : List Value} {bs cs : List Bool} (h : BoolsAre vs bs) (g : BoolsAre us cs) : BoolsAre (vs ++ us) (bs ++ cs) := by
  induction h with
  | nil => exact g
  | cons b r ih => exact .cons b ih
end
end


local macro_rules | `(tactic| walk_at "call builtin:max") => `(tactic| ((with_reducible show wpAny _ _ (call (Value.builtin "max") [Value.ref _]) _ _ _); k_dflt (refine' max_dict (by rfl) ?kF (by k_asm) (by k_mem) (by assumption) (by assumption) (by assumption) ?_; (case kF => k_asm)); intro M tM h' tk' hM hMax F' N'))
section

set_option maxRecDepth 100000 in
set_option maxHeartbeats 400000 in
theorem pick_ok {prog : Program} {w : World} {mean : ExcName → Option Value} {mg mb : Str → Option Value} {k n : Nat} {p q sm : Addr} {po qo : Obj} {vs : List Value} {ns : List Int}
  (hp : PenOk k q po) (hq : InnerOk qo) (hi : IntsAre vs ns) (h0 : 0 < ns.length) (h1 : ns.length ≤ 100) (hk : k < 1000) (hpq : @Ne Nat p q) (hps : @Ne Nat p sm) (hqs : @Ne Nat q sm) :
  Spec 3 prog w mean mg mb 169 [.ref p, .ref sm] [(p, po), (q, qo), (sm, listOf vs.toArray n)]
    (fun v nw => (∃ x t, v = .int x t ∧ x ∈ ns) ∧ ∃ po', PenOk (k + 1) q po' ∧ nw = [(p, po'), (q, qo), (sm, listOf vs.toArray n)]) := by
  ((refine' spec_plain ?ho ?hcd ?hb ?hl ?c5 ?c2 ?c3 ?c4 ?_; (case ho => k_dflt k_is); (case hcd => k_dflt k_is); (case hb => rfl); (case hl => exact locs rfl); (case c5 => decide); (case c2 => exact rfl); (case c3 => exact rfl); (case c4 => exact rfl)))
  intro dp un gd outer A base g L' h₁ tk s B F N X T hd hu
  replace F := fr_same F (m' := mp [(Str.ofString "some", .ref sm), (Str.ofString "pen", .ref p)]) (fun y => (lookup_mp _ y).trans rfl)
  have hlen := hi.length
  (((try k_fold); repeat' ((first | (k_unfold; (try dsimp only)) | (k_end; wrow_close) | walk1 | (dsimp only; walk1) | (dsimp only; k_unfold; (try dsimp only)) | (leave1; walk_say "STEP leave1"; try dsimp only)))))
  refine Spec.use (draw_spec (k := k) hp hq hk hpq (by omega) (by omega)) B (by assumption) X (by assumption) T rfl (up_dp hd (by decide)) (up_un hu (by decide)) [(sm, listOf vs.toArray n)] (by k_allIn) (by (((simp only [Apart, List.forall_mem_cons, List.not_mem_nil, false_imp_iff, implies_true, and_true]) <;> ((repeat' apply And.intro) <;> first | assumption | walk_at "MINE ne")))) ?_
  intro v news' h' tk' hPat4 F₂ N₂ ap₂
  refine goal_gen ?_; intro GG hGG
  refine ex3 (hPat4) ?_; clear hPat4; intro d t' po'' hZz; refine an5 (hZz) ?_; clear hZz; intro hE3 hd0 hd1 hE6 hpen'; subst hE3; subst hE6
  refine hGG ?_; clear hGG GG
  (((try k_fold); repeat' ((first | (k_unfold; (try dsimp only)) | (k_end; wrow_close) | walk1 | (dsimp only; walk1) | (dsimp only; k_unfold; (try dsimp only)) | (leave1; walk_say "STEP leave1"; try dsimp only)))))
  (with_reducible rename Fr _ _ _ _ => F'); (with_reducible rename News _ _ _ _ => N')
  refine BodyEnd.intro F' N' ⟨⟨_, _, rfl, ?_⟩, po'', hpen', rfl⟩ (by k_allIn)
  have hlt : d.toNat < ns.length := by omega
  rw [List.getD_eq_getElem?_getD, List.getElem?_eq_getElem hlt, Option.getD_some]; exact List.getElem_mem hlt
end


local macro_rules | `(tactic| walk_at "compareOp NotIn int ref") => `(tactic| (k_dflt (refine kdg_notin (knd := PySem.intKind _ _) (by k_asm) (by k_mem) (by assumption) (by assumption) (intKind_is _ _ _ _) _ rfl ?_)))
local macro_rules | `(tactic| walk_at "call builtin:max") => `(tactic| ((with_reducible show wpAny _ _ (call (Value.builtin "max") [Value.ref _]) _ _ _); k_dflt (refine' max_dict (by rfl) ?kF (by k_asm) (by k_mem) (by assumption) (by assumption) (by first | assumption | (intro q; simp_all; done)) ?_; (case kF => k_asm)); intro M tM h' tk' hM hMax F' N'))
local macro_rules | `(tactic| walk_at "compareOp NotEq ref ref") => `(tactic| (refine ne_same (by k_asm) (by k_mem) (by k_mem) (by assumption) (by assumption) (by units_room) ?_))
local macro_rules | `(tactic| walk_at "compareOp Eq ref ref") => `(tactic| (refine eq_same_bools (by k_asm) (by k_mem) (by k_mem) (by assumption) (by assumption) (by units_room) ?_))
local macro_rules | `(tactic| walk_at "compareOp NotEq ref ref") => `(tactic| (refine ne_nil_dict (by k_asm) (by k_mem) (by k_mem) (by assumption) (by assumption) (by assumption) (by assumption) (by units_room) ?_))
local macro_rules | `(tactic| walk_at "MINE tail") => `(tactic| first | with_reducible assumption | (refine List.mem_cons_of_mem _ ?_; walk_at "MINE tail"))
local macro_rules | `(tactic| k_allIn) => `(tactic| first | exact List.forall_mem_nil _ | (refine List.forall_mem_cons.mpr ⟨?_, ?_⟩; (focus k_memK); k_allIn) | ((intro p hp); walk_at "MINE tail"))
section
open PyProof.Rows.LSm
noncomputable def tup2 (a b : Value) : Obj := { cls := .type "tuple", data := .seq #[a, b] }

noncomputable def CellsOk (kvs : List (Int × Value)) (tl : Led) (own vl : Int → Int) : Prop := ∀ k v, valueAt kvs k = some v → ∃ a t1 t2, v = .ref a ∧ (a, tup2 (.int (own k) t1) (.int (vl k) t2)) ∈ tl

noncomputable def tabOf (kvs : List (Int × Value)) (f : Int → Int) (S : Nat) : List Int := (List.range S).map fun (i : Nat) => if (valueAt kvs i).isSome = true then f i else 0

structure SizeOk (kvs : List (Int × Value)) (S : Nat) : Prop where
  lo : ∀ k, (valueAt kvs k).isSome = true → 0 ≤ k ∧ k < S
  top : kvs ≠ [] → (valueAt kvs ((S : Int) - 1)).isSome = true
  nil : kvs = [] → S = 0

theorem isSome_valueAt {kvs : List (Int × Value)} {k : Int} : (valueAt kvs k).isSome = true ↔ k ∈ kvs.map (·.1) := by
  simp only [valueAt, Option.isSome_map, List.find?_isSome, decide_eq_true_eq, List.mem_map]

theorem SizeOk.max {kvs : List (Int × Value)} {S : Nat} {M : Int} (h : SizeOk kvs S) (hm : M ∈ kvs.map (·.1)) (hmax : ∀ x ∈ kvs.map (·.1), x ≤ M) : M + 1 = S := by
  have h1 := h.lo M (isSome_valueAt.mpr hm)
  have h2 := hmax _ (isSome_valueAt.mp (h.top (by rintro rfl; cases hm)))
  omega

theorem tabOf_succ (kvs : List (Int × Value)) (f : Int → Int) (i : Nat) : tabOf kvs f (i + 1) = tabOf kvs f i ++ [if (valueAt kvs i).isSome = true then f i else 0] := by
  unfold tabOf
  rw [List.range_succ, List.map_append]
  rfl
end

local macro_rules | `(tactic| walk_at "subscriptTail") => `(tactic| ((with_reducible show wpAny _ _ (subscriptTail _ _ (Value.ref _) (Value.int _ _)) _ _ _); refine item_tupleT (l := [_, _]) (News.isTup (by k_asm) (show (_, tup2 _ _) ∈ _ by walk_at "MINE tail")) (by decide) (by decide) rfl rfl ?_))
section
open PyProof.Rows.LSm
theorem tabOf_length (kvs : List (Int × Value)) (f : Int → Int) (S : Nat) : (tabOf kvs f S).length = S := by simp [tabOf]

theorem tabOf_getD (kvs : List (Int × Value)) (f : Int → Int) (S i : Nat) (h : i < S) : (tabOf kvs f S).getD i 0 = if (valueAt kvs i).isSome = true then f i else 0 := by
  have hl : i < (tabOf kvs f S).length := by rw [tabOf_length]; exact h
  rw [List.getD_eq_getElem?_getD, List.getElem?_eq_getElem hl, Option.getD_some]
  simp [tabOf]

theorem freeAt_tab {kvs : List (Int × Value)} {own : Int → Int} {S : Nat} (hS : SizeOk kvs S) (hown : ∀ k, (valueAt kvs k).isSome = true → 0 ≤ own k) (i : Nat) :
    freeAt (tabOf kvs (fun c => own c + 1) S) (0 + (i : Int)) = !(valueAt kvs (i : Int)).isSome := by
  rw [Int.zero_add]
  unfold freeAt
  rw [tabOf_length]
  by_cases h : i < S
  · have e : ((i : Int)).toNat = i := by omega
    rw [e, tabOf_getD _ _ _ _ h, decide_eq_false (by omega), Bool.false_or]
    by_cases hk : (valueAt kvs (i : Int)).isSome = true
    · have := hown _ hk
      rw [if_pos hk, hk]
      simp only [Bool.not_true, beq_eq_false_iff_ne]
      omega
    · rw [if_neg hk, Bool.not_eq_true _ |>.mp hk]; rfl
  · have hk : (valueAt kvs (i : Int)).isSome = false := by
      cases e : (valueAt kvs (i : Int)).isSome with
      | false => rfl
      | true => have := hS.lo _ e; omega
    rw [hk, decide_eq_true (by omega)]; rfl

theorem cells_item {prog : Program} {w : World} {A : Around} {E : Value → Shared → Prop} {s : Shared} {h₀ : Heap} {L d : Addr} {od : Obj} {kvs : List (Int × Value)} {news tl : Led} {own vl : Int → Int} {k : Int} {tk : Tok} {value slice : Expr} {Q : Value → Shared → Prop}
    (N : News h₀ L s.heap news) (hp : (d, od) ∈ news) (hd : od.IsDictOf (intKind prog w) kvs) (hc : CellsOk kvs tl own vl) (hk : (valueAt kvs k).isSome = true)
    (h : ∀ a t1 t2, (a, tup2 (.int (own k) t1) (.int (vl k) t2)) ∈ tl → Q (.ref a) { s with toks := s.toks + 1 })
    (hs : subscripted slice false (.ref d) (.int k tk) = operate [.ref d, .int k tk] (getItem (.ref d) (.int k tk)) := by with_unfolding_all rfl) (hg : ∀ r, letTemporaryGo value (.ref d) r = pure () := by intro _; with_unfolding_all rfl) :
    wpAny (model prog w) A (subscriptTail value slice (.ref d) (.int k tk)) Q E s := by
  obtain ⟨v, hv⟩ := Option.isSome_iff_exists.mp hk
  refine goal_gen ?_; intro GG hGG
  refine ex3 (hc _ _ hv) ?_; intro a t1 t2 hZz; refine an2 (hZz) ?_; clear hZz; intro hE3 hm; subst hE3
  refine hGG ?_; clear hGG GG
  exact kda_item N hp hd (intKind_is _ _ _ _) hv (h a t1 t2 hm) hs hg
end

local macro_rules | `(tactic| walk_at "subscriptTail") => `(tactic| ((with_reducible show wpAny _ _ (subscriptTail _ _ (Value.ref _) (Value.int _ _)) _ _ _); refine cells_item (by k_asm) (by k_mem) (by assumption) (by assumption) (by assumption) ?_; intro aT t1T t2T hmT))
section
open PyProof.Rows.LSm
set_option maxRecDepth 100000 in
set_option maxHeartbeats 4000000 in
theorem alike_ok {prog : Program} {w : World} {mean : ExcName → Option Value} {mg mb : Str → Option Value} {S nt nc : Nat} {x dx tb ck d : Addr} {od : Obj} {h1 h2 : Int} {t1 t2 : Tok} {ts cs : List Value} {kvs : List (Int × Value)} {tl : Led} {own vl : Int → Int}
  (hod : od.IsDictOf (intKind prog w) kvs) (lo : (d == sysModules) = false) (hcells : CellsOk kvs tl own vl) (hS : SizeOk kvs S) (hS5 : S < 500)
  (hti : IntsAre ts (tabOf kvs vl S)) (hci : IntsAre cs (tabOf kvs (fun c => own c + 1) S))
  (d1 : @Ne Nat x tb) (d2 : @Ne Nat x d) (d3 : @Ne Nat dx tb) (d4 : @Ne Nat dx d) (d5 : @Ne Nat ck tb) (d6 : @Ne Nat ck d)
  (hown : ∀ k, (valueAt kvs k).isSome = true → 0 ≤ own k)
  (q1 : ∀ q ∈ tl, @Ne Nat x q.1) (q2 : ∀ q ∈ tl, @Ne Nat dx q.1) (q3 : ∀ q ∈ tl, @Ne Nat ck q.1) :
  Spec 3 prog w mean mg mb 184 [.ref x, .ref d] ((x, instObj 73 dx) :: (dx, combD h1 h2 t1 t2 tb ck) :: (tb, listOf ts.toArray nt) :: (ck, listOf cs.toArray nc) :: (d, od) :: tl)
    (fun v nw => v = .bool true ∧ nw = (x, instObj 73 dx) :: (dx, combD h1 h2 t1 t2 tb ck) :: (tb, listOf ts.toArray nt) :: (ck, listOf cs.toArray nc) :: (d, od) :: tl) := by
  ((refine' spec_cells ?ho ?hcd ?hb ?hl ?c5 ?c2 ?c3 ?c4 ?_; (case ho => k_dflt k_is); (case hcd => k_dflt k_is); (case hb => rfl); (case hl => exact rfl); (case c5 => decide +kernel); (case c2 => exact rfl); (case c3 => exact rfl); (case c4 => exact rfl)))
  intro dp un gd outer A base g L' h₁ tk s cells B F N Y l1 X T hd hu
  refine goal_gen ?_; intro GG hGG
  refine ex2 (CellsAre.two Y) ?_; intro ob oc hZz; refine an3 (hZz) ?_; clear hZz; intro hE2 e1 e2; subst hE2
  refine hGG ?_; clear hGG GG
  simp only [List.cons_append, List.nil_append] at N
  clear Y
  have lx : @LT.lt Nat _ x L' := l1 (x, _) (.head _)
  have ldx : @LT.lt Nat _ dx L' := l1 (dx, _) (.tail _ (.head _))
  have ltb : @LT.lt Nat _ tb L' := l1 (tb, _) (.tail _ (.tail _ (.head _)))
  have lck : @LT.lt Nat _ ck L' := l1 (ck, _) (.tail _ (.tail _ (.tail _ (.head _))))
  have ld : @LT.lt Nat _ d L' := l1 (d, _) (.tail _ (.tail _ (.tail _ (.tail _ (.head _)))))
  have ltl : ∀ q ∈ tl, @LT.lt Nat _ q.1 L' := fun q hq => l1 q (.tail _ (.tail _ (.tail _ (.tail _ (.tail _ hq)))))
  replace e2 : oc.data = .cell (some (.ref x)) := e2
  replace e1 : ob.data = .cell (some (.ref d)) := e1
  replace F := fr_same F (m' := mp []) (fun y => rfl)
  show wpAny _ (ktrTop dp un gd _ _ L' 184 _ [(Str.ofString "cells", L' + 2), (Str.ofString "comb", L' + 1)] outer) (execs _ (envX _ _ L' 184 _ [(Str.ofString "cells", L' + 2), (Str.ofString "comb", L' + 1)])) _ _ _
  refine execs_cut (g := g) (L := L') 1 (fun m nw => ∃ (t : Tok), m = mp [(Str.ofString "size", .int S t)] ∧ nw = (L' + 2, ob) :: (L' + 1, oc) :: (x, instObj 73 dx) :: (dx, combD h1 h2 t1 t2 tb ck) :: (tb, listOf ts.toArray nt) :: (ck, listOf cs.toArray nc) :: (d, od) :: tl) ?_ ?_
  · dsimp only [List.take]
    (((try k_fold); repeat' ((first | (k_unfold; (try dsimp only)) | (k_end; wrow_close) | walk1 | (dsimp only; walk1) | (dsimp only; k_unfold; (try dsimp only)) | (leave1; walk_say "STEP leave1"; try dsimp only)))))
    · (with_reducible rename Fr _ _ _ _ => F'); (with_reducible rename News _ _ _ _ => N')
      have h0 : kvs = [] := by simp_all
      have hS0 := hS.nil h0
      subst hS0
      exact Mid.intro F' N' ⟨_, rfl, rfl⟩ (by k_allIn)
    · (with_reducible rename Fr _ _ _ _ => F'); (with_reducible rename News _ _ _ _ => N')
      have hM : _ + 1 = (S : Int) := hS.max (by assumption) (by assumption)
      rw [hM] at F'
      exact Mid.intro F' N' ⟨_, rfl, rfl⟩ (by k_allIn)
  · intro h' tk' m' news' F₂ N₂ hPat6
    refine goal_gen ?_; intro GG hGG
    refine ex1 (hPat6) ?_; clear hPat6; intro t hZz; refine an2 (hZz) ?_; clear hZz; intro hE1 hE2; subst hE1; subst hE2
    refine hGG ?_; clear hGG GG
    clear F N
    dsimp only [List.drop]
    refine execs_cut (g := g) (L := L') 1 (fun m nw => ∃ (l : Addr) (vs : List Value) (n : Nat), m = mp [(Str.ofString "table", .ref l), (Str.ofString "size", .int S t)] ∧
      nw = (l, listOf vs.toArray n) :: (L' + 2, ob) :: (L' + 1, oc) :: (x, instObj 73 dx) :: (dx, combD h1 h2 t1 t2 tb ck) :: (tb, listOf ts.toArray nt) :: (ck, listOf cs.toArray nc) :: (d, od) :: tl ∧
      IntsAre vs (tabOf kvs vl S) ∧ @Ne Nat x l ∧ @Ne Nat dx l ∧ @Ne Nat ck l) ?_ ?_
    · dsimp only [List.take]
      iterate 9 ((first | (k_unfold; (try dsimp only)) | (k_end; wrow_close) | walk1 | (dsimp only; walk1) | (dsimp only; k_unfold; (try dsimp only)) | (leave1; walk_say "STEP leave1"; try dsimp only)))
      dsimp only
      refine LCg.CompSrc.range (n := S) rfl (by assumption) (by assumption) (by assumption) (small_one (by omega) (by omega) (by omega) (by omega)) (by rw [rangeSize_nat]; omega) (by rw [sizeLine_eq]; omega) (fun g' => rest_of (fun i ys nw => nw = (L' + 2, ob) :: (L' + 1, oc) :: (x, instObj 73 dx) :: (dx, combD h1 h2 t1 t2 tb ck) :: (tb, listOf ts.toArray nt) :: (ck, listOf cs.toArray nc) :: (d, od) :: tl ∧ IntsAre ys (tabOf kvs vl i)) ?_ ?_ S 0 [] _ (Nat.zero_add _) ⟨rfl, .nil⟩)
      · intro i v ys nw I oI C oC D m₂ h tk E' hin hP hJ hC hx F₂ N₂ off ne
        obtain ⟨t, rfl⟩ := hP
        obtain ⟨rfl, hys⟩ := hJ
        have off0 := off
        simp only [LCg.Off3] at off
        (((try k_fold); repeat' ((first | (k_unfold; (try dsimp only)) | (k_end; wrow_close) | walk1 | (dsimp only; walk1) | (dsimp only; k_unfold; (try dsimp only)) | (leave1; walk_say "STEP leave1"; try dsimp only)))))
        · have hin : (valueAt kvs (0 + (i : Int))).isSome = true := by assumption
          refine LCg.CompEnd.intro F₂ N₂ _ (by k_allIn) off0 trivial ⟨rfl, ?_⟩
          rw [Int.zero_add] at hin
          rw [tabOf_succ, if_pos hin, Int.zero_add]
          exact IntsAre.append hys (.cons _ _ .nil)
        · have hin : ¬ (valueAt kvs (i : Int)).isSome = true := by have := ‹(valueAt kvs (0 + (i : Int))).isSome = false›; rw [Int.zero_add] at this; rw [this]; decide
          refine LCg.CompEnd.intro F₂ N₂ _ (by k_allIn) off0 trivial ⟨rfl, ?_⟩
          rw [tabOf_succ, if_neg hin]
          exact IntsAre.append hys (.cons _ _ .nil)
      · intro ys nw hPat2
        refine goal_gen ?_; intro GG hGG
        obtain ⟨rfl, hys⟩ := hPat2
        refine hGG ?_; clear hGG GG
        intro D h' tk' F₂ N₂ off
        simp only [LCg.Off1] at off
        dsimp only
        (((try k_fold); repeat' ((first | (k_unfold; (try dsimp only)) | (k_end; wrow_close) | walk1 | (dsimp only; walk1) | (dsimp only; k_unfold; (try dsimp only)) | (leave1; walk_say "STEP leave1"; try dsimp only)))))
        (with_reducible rename Fr _ _ _ _ => F'); (with_reducible rename News _ _ _ _ => N')
        exact Mid.intro F' N' ⟨D, ys, _, rfl, rfl, hys, by omega, by omega, by omega⟩ (by k_allIn)
    · intro h' tk' m' news' F₃ N₃ hPat6
      refine goal_gen ?_; intro GG hGG
      refine ex3 (hPat6) ?_; clear hPat6; intro l vs n hZz; refine an6 (hZz) ?_; clear hZz; intro hE3 hE4 hvs f1 f2 f3; subst hE3; subst hE4
      refine hGG ?_; clear hGG GG
      clear F₂ N₂
      dsimp only [List.drop]
      refine execs_cut (g := g) (L := L') 1 (fun m nw => ∃ (j : Addr) (us : List Value) (n' : Nat), m = mp [(Str.ofString "check", .ref j), (Str.ofString "table", .ref l), (Str.ofString "size", .int S t)] ∧
        nw = (j, listOf us.toArray n') :: (l, listOf vs.toArray n) :: (L' + 2, ob) :: (L' + 1, oc) :: (x, instObj 73 dx) :: (dx, combD h1 h2 t1 t2 tb ck) :: (tb, listOf ts.toArray nt) :: (ck, listOf cs.toArray nc) :: (d, od) :: tl ∧
        IntsAre us (tabOf kvs (fun c => own c + 1) S) ∧ @Ne Nat x j ∧ @Ne Nat dx j ∧ @Ne Nat ck j) ?_ ?_
      · dsimp only [List.take]
        iterate 9 ((first | (k_unfold; (try dsimp only)) | (k_end; wrow_close) | walk1 | (dsimp only; walk1) | (dsimp only; k_unfold; (try dsimp only)) | (leave1; walk_say "STEP leave1"; try dsimp only)))
        dsimp only
        refine LCg.CompSrc.range (n := S) rfl (by assumption) (by assumption) (by assumption) (small_one (by omega) (by omega) (by omega) (by omega)) (by rw [rangeSize_nat]; omega) (by rw [sizeLine_eq]; omega) (fun g' => rest_of (fun i ys nw => nw = (l, listOf vs.toArray n) :: (L' + 2, ob) :: (L' + 1, oc) :: (x, instObj 73 dx) :: (dx, combD h1 h2 t1 t2 tb ck) :: (tb, listOf ts.toArray nt) :: (ck, listOf cs.toArray nc) :: (d, od) :: tl ∧ IntsAre ys (tabOf kvs (fun c => own c + 1) i)) ?_ ?_ S 0 [] _ (Nat.zero_add _) ⟨rfl, .nil⟩)
        · intro i v ys nw I oI C oC D m₂ h tk E' hin hP hJ hC hx F₂ N₂ off ne
          obtain ⟨t, rfl⟩ := hP
          obtain ⟨rfl, hys⟩ := hJ
          have off0 := off
          simp only [LCg.Off3] at off
          (((try k_fold); repeat' ((first | (k_unfold; (try dsimp only)) | (k_end; wrow_close) | walk1 | (dsimp only; walk1) | (dsimp only; k_unfold; (try dsimp only)) | (leave1; walk_say "STEP leave1"; try dsimp only)))))
          · have hin : (valueAt kvs (0 + (i : Int))).isSome = true := by assumption
            refine LCg.CompEnd.intro F₂ N₂ _ (by k_allIn) off0 trivial ⟨rfl, ?_⟩
            rw [Int.zero_add] at hin
            rw [tabOf_succ, if_pos hin, Int.zero_add]
            exact IntsAre.append hys (.cons _ _ .nil)
          · have hin : ¬ (valueAt kvs (i : Int)).isSome = true := by have := ‹(valueAt kvs (0 + (i : Int))).isSome = false›; rw [Int.zero_add] at this; rw [this]; decide
            refine LCg.CompEnd.intro F₂ N₂ _ (by k_allIn) off0 trivial ⟨rfl, ?_⟩
            rw [tabOf_succ, if_neg hin]
            exact IntsAre.append hys (.cons _ _ .nil)
        · intro ys nw hPat2
          refine goal_gen ?_; intro GG hGG
          obtain ⟨rfl, hys⟩ := hPat2
          refine hGG ?_; clear hGG GG
          intro D h' tk' F₂ N₂ off
          simp only [LCg.Off1] at off
          dsimp only
          (((try k_fold); repeat' ((first | (k_unfold; (try dsimp only)) | (k_end; wrow_close) | walk1 | (dsimp only; walk1) | (dsimp only; k_unfold; (try dsimp only)) | (leave1; walk_say "STEP leave1"; try dsimp only)))))
          (with_reducible rename Fr _ _ _ _ => F'); (with_reducible rename News _ _ _ _ => N')
          exact Mid.intro F' N' ⟨D, ys, _, rfl, rfl, hys, by omega, by omega, by omega⟩ (by k_allIn)
      · intro h' tk' m' news' F₄ N₄ hPat6
        refine goal_gen ?_; intro GG hGG
        refine ex3 (hPat6) ?_; clear hPat6; intro j us n' hZz; refine an6 (hZz) ?_; clear hZz; intro hE3 hE4 hus g1 g2 g3; subst hE3; subst hE4
        refine hGG ?_; clear hGG GG
        clear F₃ N₃
        dsimp only [List.drop]
        refine execs_cut (g := g) (L := L') 1 (fun m nw => m = mp [(Str.ofString "check", .ref j), (Str.ofString "table", .ref l), (Str.ofString "size", .int S t)] ∧
          nw = (j, listOf us.toArray n') :: (l, listOf vs.toArray n) :: (L' + 2, ob) :: (L' + 1, oc) :: (x, instObj 73 dx) :: (dx, combD h1 h2 t1 t2 tb ck) :: (tb, listOf ts.toArray nt) :: (ck, listOf cs.toArray nc) :: (d, od) :: tl) ?_ ?_
        · dsimp only [List.take]
          (((try k_fold); repeat' ((first | (k_unfold; (try dsimp only)) | (k_end; wrow_close) | walk1 | (dsimp only; walk1) | (dsimp only; k_unfold; (try dsimp only)) | (leave1; walk_say "STEP leave1"; try dsimp only)))))
          (with_reducible rename Fr _ _ _ _ => F'); (with_reducible rename News _ _ _ _ => N')
          exact Mid.intro F' N' ⟨rfl, rfl⟩ (by k_allIn)
        · intro h' tk' m' news' F₅ N₅ hPat6
          refine goal_gen ?_; intro GG hGG
          obtain ⟨rfl, rfl⟩ := hPat6
          refine hGG ?_; clear hGG GG
          clear F₄ N₄
          dsimp only [List.drop]
          iterate 14 ((first | (k_unfold; (try dsimp only)) | (k_end; wrow_close) | walk1 | (dsimp only; walk1) | (dsimp only; k_unfold; (try dsimp only)) | (leave1; walk_say "STEP leave1"; try dsimp only)))
          dsimp only
          refine LCg.CompSrc.range (n := S + 2) rfl (by assumption) (by assumption) (by assumption) (small_one (by omega) (by omega) (by omega) (by omega)) (by rw [rangeSize_nat]; omega) (by rw [sizeLine_eq]; omega) (fun g' => rest_of (fun i ys nw => nw = (j, listOf us.toArray n') :: (l, listOf vs.toArray n) :: (L' + 2, ob) :: (L' + 1, oc) :: (x, instObj 73 dx) :: (dx, combD h1 h2 t1 t2 tb ck) :: (tb, listOf ts.toArray nt) :: (ck, listOf cs.toArray nc) :: (d, od) :: tl ∧ BoolsAre ys ((List.range i).map fun (a : Nat) => !(valueAt kvs a).isSome)) ?_ ?_ (S + 2) 0 [] _ (Nat.zero_add _) ⟨rfl, .nil⟩)
          · intro i v ys nw I oI C oC D m₂ h tk E' hin hP hJ hC hx F₂ N₂ off ne
            obtain ⟨t, rfl⟩ := hP
            obtain ⟨rfl, hys⟩ := hJ
            have off0 := off
            simp only [LCg.Off3] at off
            (((try k_fold); repeat' ((first | (k_unfold; (try dsimp only)) | (k_end; wrow_close) | walk1 | (dsimp only; walk1) | (dsimp only; k_unfold; (try dsimp only)) | (leave1; walk_say "STEP leave1"; try dsimp only)))))
            refine Spec.use (is_free_ok (h1 := h1) (h2 := h2) (t1 := t1) (t2 := t2) (tb := tb) (nc := nc) hci (by omega) (by rw [tabOf_length]; omega)) B (by assumption) X (by assumption) T rfl (up_dp hd (by decide)) (up_un hu (by decide)) ((I, oI) :: (C, oC) :: (D, LCg.lst ys) :: (j, listOf us.toArray n') :: (l, listOf vs.toArray n) :: (L' + 2, ob) :: (L' + 1, oc) :: (tb, listOf ts.toArray nt) :: (d, od) :: tl) (by simp only [List.cons_append, List.nil_append]; k_allIn) (by (((simp only [Apart, List.forall_mem_cons, List.not_mem_nil, false_imp_iff, implies_true, and_true]) <;> ((repeat' apply And.intro) <;> first | assumption | walk_at "MINE ne")))) ?_
            intro v news' h3 tk3 hPat4 F₃ N₃ ap₃
            refine goal_gen ?_; intro GG hGG
            obtain ⟨rfl, rfl⟩ := hPat4
            refine hGG ?_; clear hGG GG
            simp only [List.cons_append, List.nil_append] at N₃
            (((try k_fold); repeat' ((first | (k_unfold; (try dsimp only)) | (k_end; wrow_close) | walk1 | (dsimp only; walk1) | (dsimp only; k_unfold; (try dsimp only)) | (leave1; walk_say "STEP leave1"; try dsimp only)))))
            refine LCg.CompEnd.intro F₃ N₃ _ (by k_allIn) off0 trivial ⟨rfl, ?_⟩
            rw [List.range_succ, List.map_append, freeAt_tab hS hown]
            exact bools_app hys (.cons _ .nil)
          · intro ys nw hPat2
            refine goal_gen ?_; intro GG hGG
            obtain ⟨rfl, hys⟩ := hPat2
            refine hGG ?_; clear hGG GG
            intro D h' tk' F₂ N₂ off
            simp only [LCg.Off1] at off
            dsimp only
            refine LCg.ListComp_U (cl := [(Str.ofString "cells", L' + 2)]) F₂ ?_ ?_ ?_ ?_ ?_ ?_ ?_
            · with_unfolding_all rfl
            · decide
            · rfl
            · decide
            · rfl
            · iterate 10 ((first | (k_unfold; (try dsimp only)) | (k_end; wrow_close) | walk1 | (dsimp only; walk1) | (dsimp only; k_unfold; (try dsimp only)) | (leave1; walk_say "STEP leave1"; try dsimp only)))
              dsimp only
              refine LCg.CompSrc.range (n := S + 2) rfl (by assumption) (by assumption) (by assumption) (small_one (by omega) (by omega) (by omega) (by omega)) (by rw [rangeSize_nat]; omega) (by rw [sizeLine_eq]; omega) (fun g' => rest_of (fun i zs nw => nw = (D, LCg.lst ys) :: (j, listOf us.toArray n') :: (l, listOf vs.toArray n) :: (L' + 2, ob) :: (L' + 1, oc) :: (x, instObj 73 dx) :: (dx, combD h1 h2 t1 t2 tb ck) :: (tb, listOf ts.toArray nt) :: (ck, listOf cs.toArray nc) :: (d, od) :: tl ∧ BoolsAre zs ((List.range i).map fun (a : Nat) => !(valueAt kvs a).isSome)) ?_ ?_ (S + 2) 0 [] _ (Nat.zero_add _) ⟨rfl, .nil⟩)
              · intro i v zs nw I oI C oC D' m₂ h tk E' hin hP hJ hC hx F₂ N₂ off ne
                obtain ⟨t, rfl⟩ := hP
                obtain ⟨rfl, hzs⟩ := hJ
                have off0 := off
                simp only [LCg.Off3] at off
                (((try k_fold); repeat' ((first | (k_unfold; (try dsimp only)) | (k_end; wrow_close) | walk1 | (dsimp only; walk1) | (dsimp only; k_unfold; (try dsimp only)) | (leave1; walk_say "STEP leave1"; try dsimp only)))))
                refine LCg.CompEnd.intro F₂ N₂ _ (by k_allIn) off0 trivial ⟨rfl, ?_⟩
                rw [List.range_succ, List.map_append, Int.zero_add]
                exact bools_app hzs (.cons _ .nil)
              · intro zs nw hPat2
                refine goal_gen ?_; intro GG hGG
                obtain ⟨rfl, hzs⟩ := hPat2
                refine hGG ?_; clear hGG GG
                intro D' h' tk' F₂ N₂ off
                dsimp only
                refine eq_same_bools (na := ys.length) (nb := zs.length) N₂ (.tail _ (.head _)) (.head _) hys hzs (by units_room) ?_
                exact BodyEnd.intro F₂ N₂ ⟨rfl, rfl⟩ (by k_allIn)
            · intro _; with_unfolding_all rfl
end


section
open PyProof.Rows.LSm
noncomputable abbrev packD (h1 h2 h3 h4 : Int) (t1 t2 t3 t4 : Tok) (bs tb ck ow : Addr) : Obj := dictOf [⟨h1, .str (Str.ofString "bases") t1, .ref bs⟩, ⟨h2, .str (Str.ofString "table") t2, .ref tb⟩, ⟨h3, .str (Str.ofString "check") t3, .ref ck⟩, ⟨h4, .str (Str.ofString "owners") t4, .ref ow⟩] 4

noncomputable def LookIs (tbl chk : List Int) (cell owner : Int) (v : Value) : Prop := if 0 ≤ cell ∧ cell < chk.length ∧ chk.getD cell.toNat 0 = owner + 1 then ∃ t, v = .int (tbl.getD cell.toNat 0) t else v = .none

set_option maxRecDepth 100000 in
set_option maxHeartbeats 1000000 in
theorem look_up_ok {prog : Program} {w : World} {mean : ExcName → Option Value} {mg mb : Str → Option Value}
  {bs tb ck : Addr} {nb nt nc : Nat} {bv ts cs : List Value} {bases tbl chk : List Int} {owner row col : Int} {to tr tc : Tok}
  (hbi : IntsAre bv bases) (hti : IntsAre ts tbl) (hci : IntsAre cs chk) (hl : tbl.length = chk.length) (hlen : chk.length < 500) (hr : 0 ≤ row) (hr2 : row < bases.length) (hr3 : bases.length < 500) :
  Spec 2 prog w mean mg mb 84 [.ref bs, .ref tb, .ref ck, .int owner to, .int row tr, .int col tc] [(bs, listOf bv.toArray nb), (tb, listOf ts.toArray nt), (ck, listOf cs.toArray nc)]
    (fun v nw => LookIs tbl chk (bases.getD row.toNat 0 + col) owner v ∧ nw = [(bs, listOf bv.toArray nb), (tb, listOf ts.toArray nt), (ck, listOf cs.toArray nc)]) := by
  ((refine' spec_plain ?ho ?hcd ?hb ?hl ?c5 ?c2 ?c3 ?c4 ?_; (case ho => k_dflt k_is); (case hcd => k_dflt k_is); (case hb => rfl); (case hl => exact locs rfl); (case c5 => decide); (case c2 => exact rfl); (case c3 => exact rfl); (case c4 => exact rfl)))
  intro dp un gd outer A base g L' h₁ tk s B F N X T hd hu
  replace F := fr_same F (m' := mp [(Str.ofString "column", .int col tc), (Str.ofString "row", .int row tr), (Str.ofString "owner", .int owner to), (Str.ofString "check", .ref ck), (Str.ofString "table", .ref tb), (Str.ofString "bases", .ref bs)]) (fun y => (lookup_mp _ y).trans rfl)
  have hcl := hci.length
  (((try k_fold); repeat' ((first | (k_unfold; (try dsimp only)) | (k_end; wrow_close) | walk1 | (dsimp only; walk1) | (dsimp only; k_unfold; (try dsimp only)) | (leave1; walk_say "STEP leave1"; try dsimp only)))))
  all_goals
    dsimp only
    (with_reducible rename Fr _ _ _ _ => F'); (with_reducible rename News _ _ _ _ => N')
    refine BodyEnd.intro F' N' ⟨?_, rfl⟩ (by k_allIn)
    unfold LookIs
    clear F' N' B X T
    split
    · rename_i hc
      first | exact ⟨_, rfl⟩ | (exfalso; simp_all <;> omega)
    · rename_i hc
      first | rfl | (exfalso; simp_all <;> omega)

set_option maxRecDepth 100000 in
set_option maxHeartbeats 1000000 in
theorem get_ok {prog : Program} {w : World} {mean : ExcName → Option Value} {mg mb : Str → Option Value}
  {px dp₁ bs tb ck ow : Addr} {h1 h2 h3 h4 : Int} {t1 t2 t3 t4 : Tok} {nb nt nc no : Nat} {bv ts cs ov : List Value} {bases tbl chk owners : List Int} {row col : Int} {tr tc : Tok}
  (hbi : IntsAre bv bases) (hti : IntsAre ts tbl) (hci : IntsAre cs chk) (hoi : IntsAre ov owners) (hl : tbl.length = chk.length) (hlen : chk.length < 500) (hr : 0 ≤ row) (hr2 : row < bases.length) (hr3 : bases.length < 500) (hro : owners.length = bases.length)
  (d1 : @Ne Nat bs px) (d2 : @Ne Nat bs dp₁) (d3 : @Ne Nat bs ow) (d4 : @Ne Nat tb px) (d5 : @Ne Nat tb dp₁) (d6 : @Ne Nat tb ow) (d7 : @Ne Nat ck px) (d8 : @Ne Nat ck dp₁) (d9 : @Ne Nat ck ow) :
  Spec 4 prog w mean mg mb 105 [.ref px, .int row tr, .int col tc] [(px, instObj 146 dp₁), (dp₁, packD h1 h2 h3 h4 t1 t2 t3 t4 bs tb ck ow), (bs, listOf bv.toArray nb), (tb, listOf ts.toArray nt), (ck, listOf cs.toArray nc), (ow, listOf ov.toArray no)]
    (fun v nw => LookIs tbl chk (bases.getD row.toNat 0 + col) (owners.getD row.toNat 0) v ∧ nw = [(px, instObj 146 dp₁), (dp₁, packD h1 h2 h3 h4 t1 t2 t3 t4 bs tb ck ow), (bs, listOf bv.toArray nb), (tb, listOf ts.toArray nt), (ck, listOf cs.toArray nc), (ow, listOf ov.toArray no)]) := by
  ((refine' spec_plain ?ho ?hcd ?hb ?hl ?c5 ?c2 ?c3 ?c4 ?_; (case ho => k_dflt k_is); (case hcd => k_dflt k_is); (case hb => rfl); (case hl => exact locs rfl); (case c5 => decide); (case c2 => exact rfl); (case c3 => exact rfl); (case c4 => exact rfl)))
  intro dp un gd outer A base g L' h₁ tk s B F N X T hd hu
  replace F := fr_same F (m' := mp [(Str.ofString "column", .int col tc), (Str.ofString "row", .int row tr), (Str.ofString "self", .ref px)]) (fun y => (lookup_mp _ y).trans rfl)
  (((try k_fold); repeat' ((first | (k_unfold; (try dsimp only)) | (k_end; wrow_close) | walk1 | (dsimp only; walk1) | (dsimp only; k_unfold; (try dsimp only)) | (leave1; walk_say "STEP leave1"; try dsimp only)))))
  refine Spec.use (look_up_ok (nb := nb) (nt := nt) (nc := nc) hbi hti hci hl hlen hr hr2 hr3) B (by assumption) X (by assumption) T rfl (up_dp hd (by decide)) (up_un hu (by decide)) [(px, instObj 146 dp₁), (dp₁, packD h1 h2 h3 h4 t1 t2 t3 t4 bs tb ck ow), (ow, listOf ov.toArray no)] (by k_allIn) (by (((simp only [Apart, List.forall_mem_cons, List.not_mem_nil, false_imp_iff, implies_true, and_true]) <;> ((repeat' apply And.intro) <;> first | assumption | walk_at "MINE ne")))) ?_
  intro v news' h3 tk3 hPat4 F₃ N₃ ap₃
  refine goal_gen ?_; intro GG hGG
  obtain ⟨hv, rfl⟩ := hPat4
  refine hGG ?_; clear hGG GG
  (((try k_fold); repeat' ((first | (k_unfold; (try dsimp only)) | (k_end; wrow_close) | walk1 | (dsimp only; walk1) | (dsimp only; k_unfold; (try dsimp only)) | (leave1; walk_say "STEP leave1"; try dsimp only)))))
  exact BodyEnd.intro F₃ N₃ ⟨hv, rfl⟩ (by k_allIn)

set_option maxRecDepth 100000 in
set_option maxHeartbeats 1000000 in
theorem cell_count_ok {prog : Program} {w : World} {mean : ExcName → Option Value} {mg mb : Str → Option Value}
  {px dp₁ bs tb ck ow : Addr} {h1 h2 h3 h4 : Int} {t1 t2 t3 t4 : Tok} {nt : Nat} {ts : List Value} {tbl : List Int}
  (hti : IntsAre ts tbl) (hlen : tbl.length < 500) :
  Spec 2 prog w mean mg mb 117 [.ref px] [(px, instObj 146 dp₁), (dp₁, packD h1 h2 h3 h4 t1 t2 t3 t4 bs tb ck ow), (tb, listOf ts.toArray nt)]
    (fun v nw => (∃ t, v = .int tbl.length t) ∧ nw = [(px, instObj 146 dp₁), (dp₁, packD h1 h2 h3 h4 t1 t2 t3 t4 bs tb ck ow), (tb, listOf ts.toArray nt)]) := by
  ((refine' spec_plain ?ho ?hcd ?hb ?hl ?c5 ?c2 ?c3 ?c4 ?_; (case ho => k_dflt k_is); (case hcd => k_dflt k_is); (case hb => rfl); (case hl => exact locs rfl); (case c5 => decide); (case c2 => exact rfl); (case c3 => exact rfl); (case c4 => exact rfl)))
  intro dp un gd outer A base g L' h₁ tk s B F N X T hd hu
  replace F := fr_same F (m' := mp [(Str.ofString "self", .ref px)]) (fun y => (lookup_mp _ y).trans rfl)
  have hcl := hti.length
  (((try k_fold); repeat' ((first | (k_unfold; (try dsimp only)) | (k_end; wrow_close) | walk1 | (dsimp only; walk1) | (dsimp only; k_unfold; (try dsimp only)) | (leave1; walk_say "STEP leave1"; try dsimp only)))))
  (with_reducible rename Fr _ _ _ _ => F'); (with_reducible rename News _ _ _ _ => N')
  exact BodyEnd.intro F' N' ⟨⟨_, rfl⟩, rfl⟩ (by k_allIn)

set_option maxRecDepth 100000 in
set_option maxHeartbeats 1000000 in
theorem gaps_ok {prog : Program} {w : World} {mean : ExcName → Option Value} {mg mb : Str → Option Value}
  {px dp₁ bs tb ck ow : Addr} {h1 h2 h3 h4 : Int} {t1 t2 t3 t4 : Tok} {nc : Nat} {cs : List Value} {chk : List Int}
  (hci : IntsAre cs chk) (hlen : chk.length < 500) :
  Spec 2 prog w mean mg mb 122 [.ref px] [(px, instObj 146 dp₁), (dp₁, packD h1 h2 h3 h4 t1 t2 t3 t4 bs tb ck ow), (ck, listOf cs.toArray nc)]
    (fun v nw => (∃ t, v = .int (chk.filter (· == 0)).length t) ∧ nw = [(px, instObj 146 dp₁), (dp₁, packD h1 h2 h3 h4 t1 t2 t3 t4 bs tb ck ow), (ck, listOf cs.toArray nc)]) := by
  ((refine' spec_plain ?ho ?hcd ?hb ?hl ?c5 ?c2 ?c3 ?c4 ?_; (case ho => k_dflt k_is); (case hcd => k_dflt k_is); (case hb => rfl); (case hl => exact locs rfl); (case c5 => decide); (case c2 => exact rfl); (case c3 => exact rfl); (case c4 => exact rfl)))
  intro dp un gd outer A base g L' h₁ tk s B F N X T hd hu
  replace F := fr_same F (m' := mp [(Str.ofString "self", .ref px)]) (fun y => (lookup_mp _ y).trans rfl)
  have hcl := hci.length
  (((try k_fold); repeat' ((first | (k_unfold; (try dsimp only)) | (k_end; wrow_close) | walk1 | (dsimp only; walk1) | (dsimp only; k_unfold; (try dsimp only)) | (leave1; walk_say "STEP leave1"; try dsimp only)))))
  have hy := ‹CarriedAll _ (List.map PyData.int (List.filter (fun a => a == 0) chk))›
  have hyl := hy.length_eq
  have := List.length_filter_le (fun a => a == 0) chk
  rw [List.length_map] at hyl
  (((try k_fold); repeat' ((first | (k_unfold; (try dsimp only)) | (k_end; wrow_close) | walk1 | (dsimp only; walk1) | (dsimp only; k_unfold; (try dsimp only)) | (leave1; walk_say "STEP leave1"; try dsimp only)))))
  (with_reducible rename Fr _ _ _ _ => F'); (with_reducible rename News _ _ _ _ => N')
  exact BodyEnd.intro F' N' ⟨⟨_, rfl⟩, rfl⟩ (by k_allIn)
end


section

section
variable {prog : Program} {w : World} {A : Around} {E : Value → Shared → Prop} {s : Shared}
theorem list_keys_none : typeLookup (.type "list") "keys" = pure none := am_miss_of_fast (by kernel_rfl)

theorem getAttr?_miss_list {a : Addr} {xs : Array Value} {k : Nat} {sl : Array (Option Value)} {name : Str} {Q : Option Value → Shared → Prop}
    (hx : s.heap.get? a = some { cls := .type "list", dict := none, data := .seq xs k, slots := sl }) (hmiss : typeLookup (.type "list") name = pure none) (hname : (["__module__", "__name__", "__qualname__", "__doc__", "__annotations__"] : List Str).contains name = false) (hA : A.handled = none)
    (h : ∀ h' tk, (∀ b o, s.heap.get? b = some o → h'.get? b = some o) → Q none { s with heap := h', toks := tk }) (hsz : name.length + 100 ≤ sizeLine := by size_fits) :
    wpAny (model prog w) A (getAttr? (.ref a) name) Q E s := by
  obtain ⟨hp, g, d, tk, os⟩ := s
  have hT : ∀ tk', (⟨hp, g, d, tk', os⟩ : Shared).TypeIs (.ref a) "list" := fun _ => ⟨_, hx, rfl⟩
  have f1 := sub_AttributeError
  have f3 := F.slot_list_getattribute.lookup
  have f4 := F.slot_list_getattribute.bind (.ref a)
  have f5 := am_list_getattr_none
  unfold getAttr? getAttrBy? getAttrBy
  repeat (any_goals (first | assumption | exact hT _ | ((with_reducible show wpAny _ _ (call (Value.builtin "list.__getattribute__") _ _) _ _ _); refine call_meets F.slot_list_getattribute (hT _) am_entry_list_getattribute (F.args_list_getattribute_2 _ _) (meets_getattribute_miss_list a xs k sl name _ hmiss hname hsz) ⟨hx, hA, fun h' tk' e hx' => ?_⟩) | wp_step))
  obtain ⟨t', u', he⟩ := hx'.there
  show wpAny _ _ (getattributeRaised _ _ _ _ _ _ _) _ _ _
  unfold getattributeRaised
  repeat (any_goals (first | assumption | wp_step))
  exact h _ _ hx'.keeps

theorem plain_upd_loop : plainId "dict.update.loop" = true := by decide +kernel
theorem entry_upd_loop : entryFor table "dict.update.loop" = some Builtin.«dict.update.loop» := entryFor_of_tree (by kernel_rfl)

noncomputable def PairAt (h : Heap) (a : Addr) (k : Int) (v : Value) : Prop := ∃ o t n, h.get? a = some o ∧ o.cls = .type "tuple" ∧ o.data = .seq #[.int k t, v] n

theorem upd_loop {R : Result → Shared → Prop} {I : Addr} {fp wr : List Addr} {n : Nat} {items : Array Value} {St : Nat → Heap → Prop} {d : Addr} {ps : List (Int × Value)} {result : Value}
    (W : Walks prog w A.in1 I fp wr n (fun i v => items[i]? = some v) St) (hd : d ∉ fp) (hn : ps.length = n) :
    ∀ (k i : Nat) (s : Shared) (kvs : List (Int × Value)) (t : Tok), n - i = k → i ≤ n → St i s.heap → s.heap.DictOf (intKind prog w) d kvs →
      (∀ (j : Nat) p, ps[j]? = some p → ∃ a, items[j]? = some (.ref a) ∧ PairAt s.heap a p.1 p.2 ∧ a ∉ wr ∧ a ≠ d) → kvs.length + k ≤ 1000 →
      (∀ h' tk, h'.DictOf (intKind prog w) d ((ps.drop i).foldl (fun acc p => stored acc p.1 p.2) kvs) → (∀ b o, b ≠ d → b ∉ wr → s.heap.get? b = some o → h'.get? b = some o) → R (.ok (.ret result)) { s with heap := h', toks := tk }) →
      codeAny (model prog w) A (.builtin "dict.update.loop" ⟨[.ref d, .ref I, .int i t, result], []⟩) R s := by
  have hdw : d ∉ wr := fun h => hd (W.sub _ h)
  intro k
  induction k with
  | zero =>
    intro i s kvs t hk hi hst hD hps hsz hR
    have hin : i = n := by omega
    refine codeAny_builtin entry_upd_loop ?_
    rw [Around.under_plainId plain_upd_loop _]
    show wpAny _ A.in1 (pyNext (.ref I) >>= _) _ _ s
    refine wpAny_bind (W.done s _ _ (hin ▸ hst) fun h' tk hk' => ?_)
    show wpAny _ A.in1 (Builtin.Dict.addKeywords d [] >>= fun _ => _) _ _ _
    refine wpAny_bind (wpAny_pure (wpAny_pure ?_))
    obtain ⟨o, es, ep, ho, r⟩ := hD
    refine hR h' tk ?_ fun b o _ hb e => hk' b o hb e
    rw [hin, ← hn, List.drop_length]
    exact ⟨o, es, ep, hk' d o hdw ho, r⟩
  | succ k ih =>
    intro i s kvs t hk hi hst hD hps hsz hR
    have hlt : i < n := by omega
    refine codeAny_builtin entry_upd_loop ?_
    rw [Around.under_plainId plain_upd_loop _]
    show wpAny _ A.in1 (pyNext (.ref I) >>= _) _ _ s
    refine wpAny_bind (W.item i s _ _ hlt hst fun v h' tk hP hst' hk' => ?_)
    obtain ⟨p, hp⟩ : ∃ p, ps[i]? = some p := ⟨ps[i]'(by omega), List.getElem?_eq_getElem (by omega)⟩
    obtain ⟨a, ha, ⟨o, t', nn, ho, hc, hdat⟩, haw, had⟩ := hps i p hp
    obtain rfl : v = .ref a := by rw [ha] at hP; exact (Option.some.inj hP).symm
    have ho' := hk' a o haw ho
    have hT : (⟨h', s.gens, s.drawn, tk, s.os⟩ : Shared).TypeIs (.ref a) "tuple" := ⟨o, ho', hc⟩
    have hD' : h'.DictOf (intKind prog w) d kvs := let ⟨o, es, ep, ho, r⟩ := hD; ⟨o, es, ep, hk' d o hdw ho, r⟩
    show wpAny _ A.in1 (holding [.ref a] _ >>= _) _ _ _
    refine wpAny_bind (wpAny_holding ?_)
    show wpAny _ A.in1 (tryCatch (Builtin.Dict.pairItems (.ref a)) _ >>= _) _ _ _
    refine wpAny_bind (wpAny_tryCatch ?_)
    unfold Builtin.Dict.pairItems
    refine wpAny_bind (wpAny_typeOf hT ?_)
    rw [if_pos (by decide)]
    refine wpAny_bind (wpAny_seqItems ho' hdat ?_)
    refine wpAny_pure ?_
    show wpAny _ A.in1 (holding [.int p.1 t', p.2] (dictSet d (.int p.1 t') p.2)) _ _ _
    refine wpAny_holding (wpAny_dictSet_pairs (intKind_is _ _ _ _) hD' (fun h'' hD'' hs => ?_) (by rw [sizeLine_eq]; omega))
    refine wpAny_pure ⟨plainId_quiet plain_upd_loop _, ih (i + 1) _ _ _ (by omega) hlt (W.frame _ _ _ hst' fun b hb o e => ?_) hD'' ?_ ?_ ?_⟩
    · exact (hs.2 b (fun e' => hd (e' ▸ hb))).trans e
    · intro j q hq
      obtain ⟨a', ha', ⟨o', t'', n', g1, g2, g3⟩, hw', hd'⟩ := hps j q hq
      exact ⟨a', ha', ⟨o', t'', n', (hs.2 a' hd').trans (hk' a' o' hw' g1), g2, g3⟩, hw', hd'⟩
    · have := stored_length_le kvs p.1 p.2
      omega
    · intro h₃ tk₃ hD₃ hk₃
      refine hR h₃ tk₃ ?_ fun b o hbd hbw e => hk₃ b o hbd hbw ((hs.2 b hbd).trans (hk' b o hbw e))
      have e : ps.drop i = p :: ps.drop (i + 1) := by
        rw [← List.getElem_cons_drop (by omega : i < ps.length)]
        rw [List.getElem?_eq_getElem (by omega)] at hp
        rw [Option.some.inj hp]
      rw [e]
      exact hD₃

theorem dict_of_pairs {l : Addr} {vs : List Value} {n : Nat} {h₀ : Heap} {L : Addr} {m : Str → Option Value} {news : Led} {ps : List (Int × Value)} {Q : Value → Shared → Prop} (hh : A.handled = none) (F : Fr h₀ L s.heap m) (N : News h₀ L s.heap news) (hbig : h₀.NoLimit) (hl : (l, listOf vs.toArray n) ∈ news)
    (hlen : ps.length = vs.length) (hps : ∀ (j : Nat) p, ps[j]? = some p → ∃ a, vs[j]? = some (.ref a) ∧ PairAt s.heap a p.1 p.2) (hsz : ps.length ≤ 900) (hnd : (ps.map (·.1)).Nodup)
    (k : ∀ D h' o tk, Fr h₀ L h' m → News h₀ L h' ((D, o) :: news) → (∀ q ∈ news, q.1 < D) → (D == sysModules) = false → o.IsDictOf (intKind prog w) ps → Q (.ref D) { s with heap := h', toks := tk }) :
    wpAny (model prog w) A (call (.type "dict") [.ref l]) Q E s := by
  refine callType_codes (Q₁ := fun obj s₁ => obj = .ref s.heap.objs.size ∧ s₁ = { s with heap := s.heap.push { cls := .type "dict", data := .dict #[] } }) PySem.F.kt_called_dict (PySem.F.kt_typeCall_dict_1 _) PySem.F.entry_dict_init (kt_code_dict_new _ ⟨rfl, rfl⟩) ?_
  rintro obj s₁ ⟨rfl, rfl⟩
  have hnew : (s.heap.push { cls := .type "dict", data := .dict #[] }).DictOf (intKind prog w) s.heap.objs.size [] := Heap.DictOf.new s.heap
  have hlo := (N _ hl).1
  have hlD : l ≠ s.heap.objs.size := Nat.ne_of_lt (Heap.lt_size hlo)
  have hl1 := Heap.get?_push_of_some { cls := .type "dict", data := .dict #[] } hlo
  have hT : ({ s with heap := s.heap.push { cls := .type "dict", data := .dict #[] } } : Shared).TypeIs (.ref l) "list" := ⟨_, hl1, rfl⟩
  refine ⟨hnew.typeIs, PySem.F.args_dict_init_2 _ _, ?_⟩
  unfold Builtin.«dict.__init__»
  refine wpAny_bind ?_
  unfold Builtin.Dict.selfAndRest
  refine wpAny_bind (wpAny_notOrdered_dict hnew.typeIs ?_)
  show wpAny _ _ (pure (s.heap.objs.size, [Value.ref l])) _ _ _
  refine wpAny_pure ?_
  show wpAny _ _ (Builtin.Dict.updateFrom "dict.__init__" s.heap.objs.size (.ref l) [] .none) _ _ _
  unfold Builtin.Dict.updateFrom
  refine wpAny_bind (wpAny_typeOf hT ?_)
  rw [if_pos (by decide)]
  refine wpAny_bind (getAttr?_miss_list hl1 list_keys_none (by decide) hh fun h₁ tk₁ hk₁ => ?_)
  simp only [Option.isNone_none, if_true]
  refine wpAny_bind (wpAny_rule ?_)
  have hl2 : h₁.IsList l vs.toArray := ⟨_, hk₁ _ _ hl1, rfl, n, rfl⟩
  refine wpAny_bind (wpAny_pyIter_list hl2 ?_)
  have hlt := Heap.lt_size (hk₁ _ _ hl1)
  have hDt : s.heap.objs.size < h₁.objs.size := let ⟨o, es, ep, ho, r⟩ := hnew; Heap.lt_size (hk₁ _ _ ho)
  have up : ∀ b o, s.heap.get? b = some o → (h₁.push { cls := .type "list_iterator", data := .fields #[.ref l, .int 0 0] }).get? b = some o := fun b o e => Heap.get?_push_of_some _ (hk₁ b o (Heap.get?_push_of_some _ e))
  refine wpAny_pure ⟨plainId_quiet plain_upd_loop _, upd_loop (ps := ps) (Walks.list (A := A.in1.in1) hh h₁.objs.size l (Nat.ne_of_lt hlt) vs.toArray) ?_ (by rw [hlen, List.size_toArray]) _ 0 _ [] _ rfl (Nat.zero_le _) ⟨⟨_, Heap.get?_push_size _ rfl, rfl, rfl⟩, hl2.push _⟩ ?_ ?_ ?_ ?_⟩
  · intro hm
    rcases List.mem_cons.mp hm with e | hm
    · exact absurd hDt (e ▸ Nat.lt_irrefl _)
    · exact hlD (List.mem_singleton.mp hm).symm
  · obtain ⟨o, es, ep, ho, r⟩ := hnew
    exact ⟨o, es, ep, Heap.get?_push_of_some _ (hk₁ _ _ ho), r⟩
  · intro j p hp
    obtain ⟨a, ha, o, t, nn, g1, g2, g3⟩ := hps j p hp
    refine ⟨a, by simpa using ha, ⟨o, t, nn, up a o g1, g2, g3⟩, fun hm => ?_, Nat.ne_of_lt (Heap.lt_size g1)⟩
    have := Heap.lt_size (hk₁ _ _ (Heap.get?_push_of_some { cls := .type "dict", data := .dict #[] } g1))
    exact absurd this ((List.mem_singleton.mp hm) ▸ Nat.lt_irrefl _)
  · simp only [List.length_nil, List.size_toArray]; omega
  · intro h' tk hD hk
    rw [List.drop_zero] at hD
    have e : ps.foldl (fun acc p => stored acc p.1 p.2) [] = ps := merged_nil_of_nodup ps hnd
    rw [e] at hD
    obtain ⟨o', ho', hd'⟩ := Heap.dictOf_iff.mp hD
    have hk' : ∀ b o, s.heap.get? b = some o → h'.get? b = some o := fun b o q => hk b o (Nat.ne_of_lt (Heap.lt_size q)) (fun hm => Nat.lt_irrefl _ (Nat.lt_of_lt_of_le (Nat.lt_trans (Heap.lt_size q) hDt) (Nat.le_of_eq (List.mem_singleton.mp hm).symm))) (up b o q)
    refine ⟨rfl, k _ h' o' tk (F.keeps hk') ?_ (fun q hq => Heap.lt_size (N q hq).1) (F.notModules (modules_low hbig)) hd'⟩
    exact news_pushed F N hk' ho' rfl
end
end


section
open PySem.SeqAt
section
variable {prog : Program} {w : World} {A : Around} {E : Value → Shared → Prop} {s : Shared} {h₀ : Heap} {L l : Addr} {m : Str → Option Value} {news : Led}

theorem my_item {vs : List Value} {n : Nat} {k : Int} {u : Tok} {x : Value} {value slice : Expr} {Q : Value → Shared → Prop} (N : News h₀ L s.heap news) (hm : (l, listOf vs.toArray n) ∈ news) (h0 : 0 ≤ k) (h1 : k < 2 ^ 63) (hx : vs[k.toNat]? = some x) (h : Q x s)
    (hs : subscripted slice false (.ref l) (.int k u) = operate [.ref l, .int k u] (getItem (.ref l) (.int k u)) := by with_unfolding_all rfl) (hg : ∀ r, letTemporaryGo value (.ref l) r = pure () := by intro _; with_unfolding_all rfl) :
    wpAny (model prog w) A (subscriptTail value slice (.ref l) (.int k u)) Q E s := by
  have hl : s.heap.IsList l vs.toArray := ⟨_, (N _ hm).1, rfl, n, rfl⟩
  exact subscriptTail_builtin hl.typeIs slot_list_getitem.lookup (wpAny_getItem_list hl h0 h1 (by simpa using hx) h) hs hg

theorem dict_copy {d : Addr} {od : Obj} {kvs : List (Int × Value)} {Q : Value → Shared → Prop} (F : Fr h₀ L s.heap m) (N : News h₀ L s.heap news) (hbig : h₀.NoLimit) (hm : (d, od) ∈ news) (hd : od.IsDictOf (intKind prog w) kvs) (lo : (d == sysModules) = false) (hsz : kvs.length ≤ 900)
    (k : ∀ D h' o, Fr h₀ L h' m → News h₀ L h' ((D, o) :: news) → (∀ q ∈ news, q.1 < D) → (D == sysModules) = false → o.IsDictOf (intKind prog w) kvs → Q (.ref D) { s with heap := h' }) :
    wpAny (model prog w) A (call (.type "dict") [.ref d]) Q E s := by
  refine kt_call_dict lo (kda_dict N hm hd) (by rw [sizeLine_eq]; omega) fun h' hm' hs => ?_
  obtain ⟨o', ho', hd'⟩ := Heap.dictOf_iff.mp hm'
  have N1 := News.push F N { cls := .type "dict", data := .dict #[] }
  exact k _ h' o' ((F.push _).change hs (N1 _ (.head _)).2.1 (N1.fresh (.head _))) (N1.setHead N.apart hs ho') (fun q hq => Heap.lt_size (N q hq).1) (F.notModules (modules_low hbig)) hd'

theorem pairs_other {prog' : Program} {w' : World} {es : List DictEntry} {kvs : List (Int × Value)} (h : Pairs (intKind prog w) es kvs) : Pairs (intKind prog' w') es kvs := by
  induction h with
  | nil => exact .nil
  | cons h1 h2 r ih => exact .cons h1 h2 ih

theorem isDict_other {prog' : Program} {w' : World} {o : Obj} {kvs : List (Int × Value)} (h : o.IsDictOf (intKind prog w) kvs) : o.IsDictOf (intKind prog' w') kvs := by
  obtain ⟨es, ep, a, b, c, d, e⟩ := h
  exact ⟨es, ep, a, b, c, pairs_other d, e⟩

theorem rc_dicts {a b : Addr} {oa ob : Obj} {ka kb : List (Int × Value)} (ha : s.heap.get? a = some oa) (hb : s.heap.get? b = some ob) (da : oa.IsDictOf (intKind prog w) ka) (db : ob.IsDictOf (intKind prog w) kb) (la : (a == sysModules) = false) (lb : (b == sysModules) = false) (hl : ka.length = kb.length) (hu : A.units < cLine)
    (hits : KeqHits A.in1 s kb ka true) : RcAt A s (.ref a) (.ref b) true := fun prog' w' E Q h =>
  keq_eq (knd := intKind prog' w') (r := true) la lb (Heap.dictOf_iff.mpr ⟨oa, ha, isDict_other da⟩) (Heap.dictOf_iff.mpr ⟨ob, hb, isDict_other db⟩) hu (fun _ => hits) (by rw [hl, beq_self_eq_true]; exact h)

theorem hits_rows {kb : List (Int × Value)} {M' : List (Int × Int)} (hb : RowIs kb M') {ka : List (Int × Value)} {M : List (Int × Int)} (h : RowIs ka M) : (∀ p ∈ M, p.1 ∈ M'.map (·.1) ∧ (M'.lookup p.1).getD 0 = p.2) → KeqHits A s kb ka true := by
  induction h with
  | nil => exact fun _ => .nil
  | cons c x t h ih =>
    intro hp
    obtain ⟨h1, h2⟩ := hp (c, x) (.head _)
    obtain ⟨t', e⟩ := hb.at c h1
    have := KeqHits.hit (A := A) (s := s) (v := .int x t) e (EqAt.int_int x t _ t') (ih fun p q => hp p (.tail _ q))
    have e2 : (M'.lookup c).getD 0 = x := h2
    rw [e2] at this
    simpa using this

theorem ne_refs {la lb : Addr} {na nb : Nat} {vs us : List Value} {Q : Value → Shared → Prop} (N : News h₀ L s.heap news) (pa : (la, listOf vs.toArray na) ∈ news) (pb : (lb, listOf us.toArray nb) ∈ news) (hl : vs.length = us.length) (hu : A.units < cLine)
    (he : ∀ (j : Nat) v u, vs[j]? = some v → us[j]? = some u → EqAt A.in1 s v u true) (h : Q (.bool false) s) : wpAny (model prog w) A (compareOp .NotEq (.ref la) (.ref lb)) Q E s := by
  have hla : s.heap.IsList la vs.toArray := ⟨_, (N _ pa).1, rfl, na, rfl⟩
  have hlb : s.heap.IsList lb us.toArray := ⟨_, (N _ pb).1, rfl, nb, rfl⟩
  refine RcNeAt.lists (e := fun _ => true) hla hlb (by simpa using hl) hu (fun j h1 h2 => he j _ _ ?_ ?_) prog w E Q ?_
  · simp
  · simp
  · have e : ((List.range vs.toArray.size).all fun _ => true) = true := List.all_eq_true.mpr fun _ _ => rfl
    rw [e]; exact h

noncomputable def OptIs : Option Int → Value → Prop
  | none, v => v = .none
  | some x, v => ∃ t, v = .int x t
inductive OptsAre : List Value → List (Option Int) → Prop
  | nil : OptsAre [] []
  | cons {v o vs os} : OptIs o v → OptsAre vs os → OptsAre (v :: vs) (o :: os)
theorem OptsAre.length {vs os} (h : OptsAre vs os) : vs.length = os.length := by
  induction h with
  | nil => rfl
  | cons _ r ih => exact congrArg (· + 1) ih
theorem OptsAre.at {vs os} (h : OptsAre vs os) : ∀ (j : Nat) v, vs[j]? = some v → ∃ o, os[j]? = some o ∧ OptIs o v := by
  induction h with
  | nil => intro j v h; simp at h
  | cons h r ih =>
    intro j v e
    cases j with
    | zero => exact ⟨_, rfl, Option.some.inj e ▸ h⟩
    | succ j => exact ih j v e
theorem OptsAre.snoc {vs os v o} (h : OptsAre vs os) (g : OptIs o v) : OptsAre (vs ++ [v]) (os ++ [o]) := by
  induction h with
  | nil => exact .cons g .nil
  | cons a r ih => exact .cons a ih
theorem OptIs.same {o : Option Int} {v u : Value} (h : OptIs o v) (g : OptIs o u) : EqAt A s v u true := by
  cases o with
  | none => rw [show v = .none from h, show u = .none from g]; exact EqAt.same _
  | some x =>
    obtain ⟨t, rfl⟩ := h
    obtain ⟨t', rfl⟩ := g
    have := EqAt.int_int (A := A) (s := s) x t x t'
    rwa [beq_self_eq_true] at this
theorem ne_opts {la lb : Addr} {na nb : Nat} {vs us : List Value} {os : List (Option Int)} {Q : Value → Shared → Prop} (N : News h₀ L s.heap news) (pa : (la, listOf vs.toArray na) ∈ news) (pb : (lb, listOf us.toArray nb) ∈ news) (ia : OptsAre vs os) (ib : OptsAre us os) (hu : A.units < cLine)
    (h : Q (.bool false) s) : wpAny (model prog w) A (compareOp .NotEq (.ref la) (.ref lb)) Q E s :=
  ne_refs N pa pb (by rw [ia.length, ib.length]) hu (fun j v u e1 e2 => by
    obtain ⟨o, g1, g2⟩ := ia.at j v e1
    obtain ⟨o', g3, g4⟩ := ib.at j u e2
    rw [g1] at g3
    obtain rfl := Option.some.inj g3
    exact g2.same g4) h
end
end


section
open PyProof.Rows.LSm
theorem far_ne {led : Led} {b d : Addr} (h : ∀ q ∈ led, @LT.lt Nat _ b q.1) (hb : @LE.le Nat _ d b) : ∀ q ∈ led, q.1 ≠ d := fun q hq e => by
  have h1 := h q hq
  have e' : @Eq Nat q.1 d := e
  omega
end

local macro_rules | `(tactic| k_all) => `(tactic| first | exact List.forall_mem_nil _ | (refine List.forall_mem_cons.mpr ⟨?_, ?_⟩; (focus k_ne); k_all) | assumption | (refine' far_ne ?hfar ?bfar; (case hfar => assumption); (case bfar => omega)))
local macro_rules | `(tactic| walk_at "storeName") => `(tactic| (refine' storeX_C ?F ?N ?c ?U ?d ?_; (case F => k_asm); (case N => k_asm); (case c => rfl); (case U => k_updF); (case d => assumption); intro h' o' F' N' hd'; (try dsimp only at N')))
section
open PyProof.Rows.LSm
theorem allLt_all {d : Addr} : ∀ {l : Led}, AllLt d l → ∀ q ∈ l, @LT.lt Nat _ q.1 d
  | [], _, _, h => nomatch h
  | p :: r, h, q, hq => by
    rcases List.mem_cons.mp hq with rfl | hq
    · exact h.1
    · exact allLt_all h.2 q hq
theorem off3_snoc {I C D : Addr} {x : Addr × Obj} (h1 : @Ne Nat x.1 I) (h2 : @Ne Nat x.1 C) (h3 : @Ne Nat x.1 D) : ∀ {l : Led}, LCg.Off3 I C D l → LCg.Off3 I C D (l ++ [x])
  | [], _ => ⟨⟨h1, h2, h3⟩, trivial⟩
  | p :: r, h => ⟨h.1, off3_snoc h1 h2 h3 h.2⟩
theorem off1_all {D : Addr} : ∀ {l : Led}, LCg.Off1 D l → ∀ q ∈ l, @Ne Nat q.1 D
  | [], _, _, h => nomatch h
  | p :: r, h, q, hq => by
    rcases List.mem_cons.mp hq with rfl | hq
    · exact h.1
    · exact off1_all h.2 q hq

theorem allIn_snoc {pre led : Led} {x : Addr × Obj} : ∀ p ∈ pre ++ (led ++ [x]), p ∈ x :: (pre ++ led) := fun p hp => by
  rcases List.mem_append.mp hp with h | h
  · exact List.mem_cons_of_mem _ (List.mem_append_left _ h)
  · rcases List.mem_append.mp h with h | h
    · exact List.mem_cons_of_mem _ (List.mem_append_right _ h)
    · rw [List.mem_singleton.mp h]; exact List.mem_cons_self

inductive Helds (prog : Program) (w : World) : List Value → Led → List (List (Int × Int)) → Prop
  | nil : Helds prog w [] [] []
  | cons {a : Addr} {o : Obj} {kvs : List (Int × Value)} {M : List (Int × Int)} {vs : List Value} {led : Led} {Ms : List (List (Int × Int))} : o.IsDictOf (intKind prog w) kvs → RowIs kvs M → (a == sysModules) = false → (∀ q ∈ led, @Ne Nat q.1 a) →
      Helds prog w vs led Ms → Helds prog w (.ref a :: vs) ((a, o) :: led) (M :: Ms)

section
variable {prog : Program} {w : World}
theorem Helds.length {vs led Ms} (h : Helds prog w vs led Ms) : vs.length = Ms.length := by
  induction h with
  | nil => rfl
  | cons _ _ _ _ h ih => exact congrArg (· + 1) ih
theorem Helds.snoc {vs led Ms a o kvs M} (h : Helds prog w vs led Ms) (hd : o.IsDictOf (intKind prog w) kvs) (hr : RowIs kvs M) (lo : (a == sysModules) = false) (hne : ∀ q ∈ led, @Ne Nat q.1 a) : Helds prog w (vs ++ [.ref a]) (led ++ [(a, o)]) (Ms ++ [M]) := by
  induction h with
  | nil => exact .cons hd hr lo (fun _ h => nomatch h) .nil
  | cons d r l n _ ih =>
    refine .cons d r l (fun q hq => ?_) (ih fun q hq => hne q (.tail _ hq))
    rcases List.mem_append.mp hq with hq | hq
    · exact n q hq
    · rw [List.mem_singleton.mp hq]
      exact fun e => hne _ (.head _) e.symm
theorem Helds.at {vs led Ms} (h : Helds prog w vs led Ms) : ∀ (i : Nat), i < Ms.length → ∃ a o kvs pre post, vs[i]? = some (.ref a) ∧ led = pre ++ (a, o) :: post ∧ o.IsDictOf (intKind prog w) kvs ∧ RowIs kvs (Ms.getD i []) ∧ (a == sysModules) = false ∧
    (∀ q ∈ pre, @Ne Nat q.1 a) ∧ (∀ q ∈ post, @Ne Nat q.1 a) ∧ ∀ o' kvs' M', o'.IsDictOf (intKind prog w) kvs' → RowIs kvs' M' → Helds prog w vs (pre ++ (a, o') :: post) (Ms.set i M') := by
  induction h with
  | nil => intro i hi; exact absurd hi (Nat.not_lt_zero _)
  | @cons a o kvs M vs led Ms d r l n t ih =>
    intro i hi
    cases i with
    | zero => exact ⟨a, o, kvs, [], led, rfl, rfl, d, r, l, (fun _ h => nomatch h), n, fun o' kvs' M' d' r' => .cons d' r' l n t⟩
    | succ i =>
      obtain ⟨b, o₁, kvs₁, pre, post, e1, rfl, d1, r1, l1, n1, n2, up⟩ := ih i (by simpa using hi)
      refine ⟨b, o₁, kvs₁, (a, o) :: pre, post, by simpa using e1, rfl, d1, by simpa using r1, l1, fun q hq => ?_, n2, fun o' kvs' M' d' r' => ?_⟩
      · rcases List.mem_cons.mp hq with rfl | hq
        · exact fun e => n _ (List.mem_append_right _ (.head _)) e.symm
        · exact n1 q hq
      · refine .cons d r l (fun q hq => ?_) (up o' kvs' M' d' r')
        rcases List.mem_append.mp hq with hq | hq
        · exact n q (List.mem_append_left _ hq)
        · rcases List.mem_cons.mp hq with rfl | hq
          · exact n (b, o₁) (List.mem_append_right _ (.head _))
          · exact n q (List.mem_append_right _ (.tail _ hq))
theorem updF_mid {a : Addr} {o : Obj} {post : Led} (h2 : ∀ q ∈ post, q.1 ≠ a) : ∀ {pre : Led}, (∀ q ∈ pre, q.1 ≠ a) → UpdF a o (pre ++ (a, o) :: post) (fun o' => pre ++ (a, o') :: post)
  | [], _ => .head h2
  | p :: pre, h1 => .tail (h1 p (.head _)) (updF_mid h2 fun q hq => h1 q (.tail _ hq))
theorem RowIs.none {kvs : List (Int × Value)} {M : List (Int × Int)} (h : RowIs kvs M) : ∀ c, c ∉ M.map (·.1) → valueAt kvs c = none := by
  induction h with
  | nil => exact fun _ _ => rfl
  | cons c' x t h ih =>
    intro c hc
    have e : ¬ c' = c := fun e => hc (by simp [e])
    have := ih c fun q => hc (.tail _ q)
    simp only [valueAt] at this ⊢
    rw [List.find?_cons_of_neg (by simpa using e)]
    exact this
theorem RowIs.snoc {kvs : List (Int × Value)} {M : List (Int × Int)} (h : RowIs kvs M) {c x : Int} {t : Tok} (hc : c ∉ M.map (·.1)) : RowIs (stored kvs c (.int x t)) (M ++ [(c, x)]) := by
  rw [stored_absent (h.none c hc)]
  clear hc
  induction h with
  | nil => exact .cons c x t .nil
  | cons a b u _ ih => exact .cons a b u ih
end

noncomputable def unp (tbl chk : List Int) (b : Int) (j : Nat) (n : Nat) : List (Int × Int) := (List.range n).filterMap fun (i : Nat) => if chk.getD i 0 = (j : Int) + 1 then some ((i : Int) - b, tbl.getD i 0) else none

theorem unp_succ (tbl chk : List Int) (b : Int) (j n : Nat) : unp tbl chk b j (n + 1) = unp tbl chk b j n ++ if chk.getD n 0 = (j : Int) + 1 then [((n : Int) - b, tbl.getD n 0)] else [] := by
  unfold unp
  rw [List.range_succ, List.filterMap_append]
  congr 1
  by_cases h : chk.getD n 0 = (j : Int) + 1
  · rw [if_pos h, List.filterMap_cons_some (b := ((n : Int) - b, tbl.getD n 0)) (by rw [if_pos h])]; rfl
  · rw [if_neg h, List.filterMap_cons_none (by rw [if_neg h])]; rfl
theorem unp_keys (tbl chk : List Int) (b : Int) (j n : Nat) : ∀ c ∈ (unp tbl chk b j n).map (·.1), c < (n : Int) - b := by
  intro c hc
  refine goal_gen ?_; intro GG hGG
  refine ex1 (List.mem_map.mp hc) ?_; intro p hZz; refine an2 (hZz) ?_; clear hZz; intro hp hE2; subst hE2
  refine hGG ?_; clear hGG GG
  refine goal_gen ?_; intro GG hGG
  refine ex1 (List.mem_filterMap.mp hp) ?_; intro i hZz; refine an2 (hZz) ?_; clear hZz; intro hi h
  refine hGG ?_; clear hGG GG
  have := List.mem_range.mp hi
  by_cases q : chk.getD i 0 = (j : Int) + 1
  · rw [if_pos q] at h
    have := Option.some.inj h
    subst this
    show (i : Int) - b < _
    omega
  · rw [if_neg q] at h; cases h

theorem unp_zero {tbl chk bases : List Int} {r i : Nat} (hc : chk.getD i 0 = 0) : ((List.range r).map fun j => unp tbl chk (bases.getD j 0) j (i + 1)) = (List.range r).map fun j => unp tbl chk (bases.getD j 0) j i := by
  refine List.map_congr_left fun j _ => ?_
  rw [unp_succ, hc, if_neg (by omega), List.append_nil]
theorem unp_step {tbl chk bases : List Int} {r i j : Nat} (hj : j < r) (hc : chk.getD i 0 = (j : Int) + 1) :
    ((List.range r).map fun j => unp tbl chk (bases.getD j 0) j i).set j (unp tbl chk (bases.getD j 0) j i ++ [((i : Int) - bases.getD j 0, tbl.getD i 0)]) = (List.range r).map fun j => unp tbl chk (bases.getD j 0) j (i + 1) := by
  refine List.ext_getElem (by simp) fun k h1 h2 => ?_
  rw [List.getElem_set]
  simp only [List.getElem_map, List.getElem_range]
  by_cases e : j = k
  · subst e
    rw [if_pos rfl, unp_succ, if_pos hc]
  · rw [if_neg e, unp_succ, if_neg (by omega), List.append_nil]
theorem unp_len (tbl chk : List Int) (b : Int) (j n : Nat) : (unp tbl chk b j n).length ≤ n := by
  unfold unp
  exact Nat.le_trans (List.length_filterMap_le _ _) (by simp)
theorem RowIs.length {kvs : List (Int × Value)} {M : List (Int × Int)} (h : RowIs kvs M) : kvs.length = M.length := by
  induction h with
  | nil => rfl
  | cons _ _ _ h ih => exact congrArg (· + 1) ih

/-- a frame where two names may stand *-/
noncomputable def OwnMap (px : Addr) (m : Str → Option Value) : Prop := ∀ y, y ≠ Str.ofString "cell" → y ≠ Str.ofString "owner" → m y = mp [(Str.ofString "self", .ref px)] y
theorem OwnMap.fr {px : Addr} {m : Str → Option Value} {h₀ h : Heap} {L : Addr} {v : Value} (hm : OwnMap px m) (F : Fr h₀ L h (fun y => if y = Str.ofString "cell" then some v else m y)) :
    ∃ o, Fr h₀ L h (fun y => if y = Str.ofString "cell" then some v else if y = Str.ofString "owner" then o else mp [(Str.ofString "self", .ref px)] y) :=
  ⟨m (Str.ofString "owner"), fr_same F fun y => by
    by_cases h1 : y = Str.ofString "cell"
    · rw [if_pos h1, if_pos h1]
    · rw [if_neg h1, if_neg h1]
      by_cases h2 : y = Str.ofString "owner"
      · rw [if_pos h2, h2]
      · rw [if_neg h2, hm y h1 h2]⟩
theorem OwnMap.fr2 {px : Addr} {m : Str → Option Value} {h₀ h : Heap} {L : Addr} (hm : OwnMap px m) (F : Fr h₀ L h m) :
    ∃ o c, Fr h₀ L h (fun y => if y = Str.ofString "cell" then c else if y = Str.ofString "owner" then o else mp [(Str.ofString "self", .ref px)] y) :=
  ⟨m (Str.ofString "owner"), m (Str.ofString "cell"), fr_same F fun y => by
    by_cases h1 : y = Str.ofString "cell"
    · rw [if_pos h1, h1]
    · rw [if_neg h1]
      by_cases h2 : y = Str.ofString "owner"
      · rw [if_pos h2, h2]
      · rw [if_neg h2, hm y h1 h2]⟩
end

local macro_rules | `(tactic| walk_at "subscriptTail") => `(tactic| ((with_reducible show wpAny _ _ (subscriptTail _ _ (Value.ref _) (Value.int _ _)) _ _ _); refine my_item (by k_asm) (by k_mem) (by omega) (by omega) (by assumption) ?_))
section
open PyProof.Rows.LSm
set_option maxRecDepth 100000 in
set_option maxHeartbeats 4000000 in
theorem unpacked_ok {prog : Program} {w : World} {mean : ExcName → Option Value} {mg mb : Str → Option Value} {r : Nat}
  {px dp₁ bs tb ck ow : Addr} {h1 h2 h3 h4 : Int} {t1 t2 t3 t4 : Tok} {nb nt nc no : Nat} {bv ts cs ov : List Value} {bases tbl chk : List Int}
  (hbi : IntsAre bv bases) (hti : IntsAre ts tbl) (hci : IntsAre cs chk) (hoi : IntsAre ov ((List.range r).map Int.ofNat)) (hl : tbl.length = chk.length) (hlen : chk.length < 500) (hb : bases.length = r) (hr : r < 100)
  (hown : ∀ i < chk.length, chk.getD i 0 = 0 ∨ (1 ≤ chk.getD i 0 ∧ chk.getD i 0 ≤ r)) :
  Spec 2 prog w mean mg mb 110 [.ref px] [(px, instObj 146 dp₁), (dp₁, packD h1 h2 h3 h4 t1 t2 t3 t4 bs tb ck ow), (bs, listOf bv.toArray nb), (tb, listOf ts.toArray nt), (ck, listOf cs.toArray nc), (ow, listOf ov.toArray no)]
    (fun v nw => ∃ l vs n led, v = .ref l ∧ nw = (l, listOf (List.toArray vs) n) :: (px, instObj 146 dp₁) :: (dp₁, packD h1 h2 h3 h4 t1 t2 t3 t4 bs tb ck ow) :: (bs, listOf bv.toArray nb) :: (tb, listOf ts.toArray nt) :: (ck, listOf cs.toArray nc) :: (ow, listOf ov.toArray no) :: led ∧
      Helds prog w vs led ((List.range r).map fun j => unp tbl chk (bases.getD j 0) j chk.length)) := by
  ((refine' spec_cells ?ho ?hcd ?hb ?hl ?c5 ?c2 ?c3 ?c4 ?_; (case ho => k_dflt k_is); (case hcd => k_dflt k_is); (case hb => rfl); (case hl => exact rfl); (case c5 => decide +kernel); (case c2 => exact rfl); (case c3 => exact rfl); (case c4 => exact rfl)))
  intro dp un gd outer A base g L' h₁ tk s cells B F N Y l1 X T hd hu
  refine goal_gen ?_; intro GG hGG
  refine ex1 (CellsAre.one Y) ?_; intro oc hZz; refine an2 (hZz) ?_; clear hZz; intro hE1 e1; subst hE1
  refine hGG ?_; clear hGG GG
  simp only [List.cons_append, List.nil_append] at N
  clear Y
  simp only [List.forall_mem_cons] at l1
  have g1 : @LT.lt Nat _ px L' := l1.1
  have g2 : @LT.lt Nat _ dp₁ L' := l1.2.1
  have g3 : @LT.lt Nat _ bs L' := l1.2.2.1
  have g4 : @LT.lt Nat _ tb L' := l1.2.2.2.1
  have g5 : @LT.lt Nat _ ck L' := l1.2.2.2.2.1
  have g6 : @LT.lt Nat _ ow L' := l1.2.2.2.2.2.1
  clear l1
  replace e1 : oc.data = .cell none := e1
  replace F := fr_same F (m' := mp [(Str.ofString "self", .ref px)]) (fun y => rfl)
  show wpAny _ (ktrTop dp un gd _ _ L' 110 _ [(Str.ofString "held", L' + 1)] outer) (execs _ (envX _ _ L' 110 _ [(Str.ofString "held", L' + 1)])) _ _ _
  refine execs_cut (g := g) (L := L') 1 (fun m nw => ∃ (H : Addr) (hvs : List Value) (n : Nat) (led : Led) (oc' : Obj), m = mp [(Str.ofString "self", .ref px)] ∧ nw = (L' + 1, oc') :: (H, listOf hvs.toArray n) :: (px, instObj 146 dp₁) :: (dp₁, packD h1 h2 h3 h4 t1 t2 t3 t4 bs tb ck ow) :: (bs, listOf bv.toArray nb) :: (tb, listOf ts.toArray nt) :: (ck, listOf cs.toArray nc) :: (ow, listOf ov.toArray no) :: led ∧
    oc'.data = .cell (some (.ref H)) ∧ Helds prog w hvs led (List.replicate r []) ∧ (∀ q ∈ led, @LT.lt Nat _ (L' + 1) q.1) ∧ (∀ q ∈ led, @Ne Nat q.1 H) ∧ @Ne Nat (L' + 1) H ∧ @Ne Nat px H ∧ @Ne Nat dp₁ H ∧ @Ne Nat bs H ∧ @Ne Nat tb H ∧ @Ne Nat ck H ∧ @Ne Nat ow H) ?_ ?_
  · dsimp only [List.take]
    iterate 2 ((first | (k_unfold; (try dsimp only)) | (k_end; wrow_close) | walk1 | (dsimp only; walk1) | (dsimp only; k_unfold; (try dsimp only)) | (leave1; walk_say "STEP leave1"; try dsimp only)))
    refine LCg.ListComp_U (cl := []) F ?_ ?_ ?_ ?_ ?_ ?_ ?_
    · with_unfolding_all rfl
    · decide
    · rfl
    · decide
    · rfl
    · iterate 3 ((first | (k_unfold; (try dsimp only)) | (k_end; wrow_close) | walk1 | (dsimp only; walk1) | (dsimp only; k_unfold; (try dsimp only)) | (leave1; walk_say "STEP leave1"; try dsimp only)))
      dsimp only
      refine LCg.CompSrc.ledger rfl F N (by k_memK) (by rw [List.size_toArray, hoi.length, sizeLine_eq]; simp; omega) (fun g' => rest_of (fun i ys nw => ∃ led : Led, nw = (L' + 1, oc) :: (px, instObj 146 dp₁) :: (dp₁, packD h1 h2 h3 h4 t1 t2 t3 t4 bs tb ck ow) :: (bs, listOf bv.toArray nb) :: (tb, listOf ts.toArray nt) :: (ck, listOf cs.toArray nc) :: (ow, listOf ov.toArray no) :: led ∧ Helds prog w ys led (List.replicate i []) ∧ (∀ q ∈ led, @LT.lt Nat _ (L' + 1) q.1)) ?_ ?_ _ 0 [] _ (Nat.zero_add _) ⟨[], rfl, .nil, fun _ h => nomatch h⟩)
      · intro i v ys nw I oI C oC D m₂ h tk E' hin hP hJ hC hx F₂ N₂ off ne
        refine goal_gen ?_; intro GG hGG
        refine ex1 (hJ) ?_; clear hJ; intro led hZz; refine an3 (hZz) ?_; clear hZz; intro hE1 hys hled; subst hE1
        refine hGG ?_; clear hGG GG
        have off0 := off
        simp only [LCg.Off3] at off
        (first | (k_unfold; (try dsimp only)) | (k_end; wrow_close) | walk1 | (dsimp only; walk1) | (dsimp only; k_unfold; (try dsimp only)) | (leave1; walk_say "STEP leave1"; try dsimp only))
        rename_i d' h' o' F' N' lo' hs' fs' hi' fi' l1'
        dsimp only
        have l9 : ∀ q ∈ led, @LT.lt Nat _ q.1 d' := allLt_all l1'.2.2.2.2.2.2.2.2.2.2
        refine LCg.CompEnd.intro F' N' ((L' + 1, oc) :: (px, instObj 146 dp₁) :: (dp₁, packD h1 h2 h3 h4 t1 t2 t3 t4 bs tb ck ow) :: (bs, listOf bv.toArray nb) :: (tb, listOf ts.toArray nt) :: (ck, listOf cs.toArray nc) :: (ow, listOf ov.toArray no) :: (led ++ [(d', o')])) (allIn_snoc (pre := [_, _, _, _, _, _, _, _, _, _])) (off3_snoc (by omega) (by omega) (by omega) off0) (.inr ⟨_, by k_memK, rfl, _, rfl⟩) ⟨_, rfl, ?_, fun q hq => ?_⟩
        · have e : List.replicate (i + 1) ([] : List (Int × Int)) = List.replicate i [] ++ [[]] := List.replicate_succ'
          rw [e]
          exact hys.snoc hi' .nil lo' fun q hq => by have := l9 q hq; omega
        · rcases List.mem_append.mp hq with hq | hq
          · exact hled q hq
          · rw [List.mem_singleton.mp hq]; omega
      · intro ys nw hPat2
        refine goal_gen ?_; intro GG hGG
        refine ex1 (hPat2) ?_; clear hPat2; intro led hZz; refine an3 (hZz) ?_; clear hZz; intro hE1 hys hled; subst hE1
        refine hGG ?_; clear hGG GG
        intro D h' tk' F₂ N₂ off
        simp only [LCg.Off1] at off
        dsimp only
        refine storeX_C F₂ N₂ rfl (.tail (by k_ne) (.head (by k_all))) e1 ?_
        intro h' o' F' N' hd'
        (((try k_fold); repeat' ((first | (k_unfold; (try dsimp only)) | (k_end; wrow_close) | walk1 | (dsimp only; walk1) | (dsimp only; k_unfold; (try dsimp only)) | (leave1; walk_say "STEP leave1"; try dsimp only)))))
        exact Mid.intro F' N' ⟨D, ys, _, led, _, rfl, rfl, by assumption, by simpa [hoi.length] using hys, hled, off1_all off.2.2.2.2.2.2.2, by omega, by omega, by omega, by omega, by omega, by omega, by omega⟩ (by k_allIn)
    · intro _; with_unfolding_all rfl
  · intro h' tk' m' news' F₂ N₂ hPat6
    refine goal_gen ?_; intro GG hGG
    refine ex5 (hPat6) ?_; clear hPat6; intro H hvs n led oc' hZz; refine an13 (hZz) ?_; clear hZz; intro hE5 hE6 hoc hH hfar hneH k1 k2 k3 k4 k5 k6 k7; subst hE5; subst hE6
    refine hGG ?_; clear hGG GG
    clear F N
    dsimp only [List.drop]
    have hH0 : Helds prog w hvs led ((List.range r).map fun j => unp tbl chk (bases.getD j 0) j 0) := by
      have e : ((List.range r).map fun j => unp tbl chk (bases.getD j 0) j 0) = List.replicate r [] := List.ext_getElem (by simp) fun k h1 h2 => by simp [unp]
      rw [e]; exact hH
    clear hH
    have hcl := hci.length
    refine execs_cut (g := g) (L := L') 1 (fun m nw => ∃ led : Led, OwnMap px m ∧ nw = (L' + 1, oc') :: (H, listOf hvs.toArray n) :: (px, instObj 146 dp₁) :: (dp₁, packD h1 h2 h3 h4 t1 t2 t3 t4 bs tb ck ow) :: (bs, listOf bv.toArray nb) :: (tb, listOf ts.toArray nt) :: (ck, listOf cs.toArray nc) :: (ow, listOf ov.toArray no) :: led ∧ Helds prog w hvs led ((List.range r).map fun j => unp tbl chk (bases.getD j 0) j chk.length) ∧ (∀ q ∈ led, @LT.lt Nat _ (L' + 1) q.1) ∧ (∀ q ∈ led, @Ne Nat q.1 H)) ?_ ?_
    · dsimp only [List.take]
      (first | (k_unfold; (try dsimp only)) | (k_end; wrow_close) | walk1 | (dsimp only; walk1) | (dsimp only; k_unfold; (try dsimp only)) | (leave1; walk_say "STEP leave1"; try dsimp only))
      refine For_invVF F₂ rfl rfl ?_ (by intro _; rfl) PassesOwn.never
      iterate 15 ((first | (k_unfold; (try dsimp only)) | (k_end; wrow_close) | walk1 | (dsimp only; walk1) | (dsimp only; k_unfold; (try dsimp only)) | (leave1; walk_say "STEP leave1"; try dsimp only)))
      dsimp only
      refine for_range (n := chk.length) (fun i m nw => ∃ led : Led, OwnMap px m ∧ nw = (L' + 1, oc') :: (H, listOf hvs.toArray n) :: (px, instObj 146 dp₁) :: (dp₁, packD h1 h2 h3 h4 t1 t2 t3 t4 bs tb ck ow) :: (bs, listOf bv.toArray nb) :: (tb, listOf ts.toArray nt) :: (ck, listOf cs.toArray nc) :: (ow, listOf ov.toArray no) :: led ∧ Helds prog w hvs led ((List.range r).map fun j => unp tbl chk (bases.getD j 0) j i) ∧ (∀ q ∈ led, @LT.lt Nat _ (L' + 1) q.1) ∧ (∀ q ∈ led, @Ne Nat q.1 H))
        rfl (by assumption) (small_one (by omega) (by omega) (by omega) (by omega)) (by rw [rangeSize_nat]; omega) (by assumption) (by assumption) ⟨led, fun _ _ _ => rfl, rfl, hH0, hfar, hneH⟩ ?_ ?_
      · clear hH0 hfar hneH
        intro i t m₁ nw I oI h tk hin hJ off F₃ N₃
        refine goal_gen ?_; intro GG hGG
        refine ex1 (hJ) ?_; clear hJ; intro led hZz; refine an5 (hZz) ?_; clear hZz; intro hm hE2 hH hfar hneH; subst hE2
        refine hGG ?_; clear hGG GG
        obtain ⟨o, F₄⟩ := hm.fr F₃
        clear F₃
        have off0 := off
        simp only [List.forall_mem_cons] at off
        have e0 : (0 + (i : Int)).toNat = i := by omega
        rcases hown i hin with hc | ⟨hc1, hc2⟩
        · rw [← e0] at hc
          (((try k_fold); repeat' ((first | (k_unfold; (try dsimp only)) | (k_end; wrow_close) | walk1 | (dsimp only; walk1) | (dsimp only; k_unfold; (try dsimp only)) | (leave1; walk_say "STEP leave1"; try dsimp only)))))
          (with_reducible rename Fr _ _ _ _ => F'); (with_reducible rename News _ _ _ _ => N')
          refine TurnEnd.intro F' N' ⟨led, fun y q1 q2 => by simp only [if_neg q1, if_neg q2], rfl, ?_, hfar, hneH⟩ (by k_allIn) off0
          rw [unp_zero (by rw [← e0]; exact hc)]; exact hH
        · rw [← e0] at hc1 hc2
          obtain ⟨a, o₁, kvs, pre, post, hv, rfl, hd₁, hr₁, lo₁, n1, n2, up⟩ := hH.at (chk.getD (0 + (i : Int)).toNat 0 - 1).toNat (by rw [List.length_map, List.length_range]; omega)
          have ha1 : @LT.lt Nat _ (L' + 1) a := hfar (a, o₁) (List.mem_append_right _ (.head _))
          have ha2 : @Ne Nat a H := hneH (a, o₁) (List.mem_append_right _ (.head _))
          have ha3 : @Ne Nat a I := off0 (a, o₁) (by simp)
          (((try k_fold); repeat' ((first | (k_unfold; (try dsimp only)) | (k_end; wrow_close) | walk1 | (dsimp only; walk1) | (dsimp only; k_unfold; (try dsimp only)) | (leave1; walk_say "STEP leave1"; try dsimp only)))))
          · have hj : (chk.getD (0 + (i : Int)).toNat 0 - 1).toNat < r := by omega
            have e1 : ((List.range r).map fun j => unp tbl chk (bases.getD j 0) j i).getD (chk.getD (0 + (i : Int)).toNat 0 - 1).toNat [] = unp tbl chk (bases.getD (chk.getD (0 + (i : Int)).toNat 0 - 1).toNat 0) (chk.getD (0 + (i : Int)).toNat 0 - 1).toNat i := by
              rw [List.getD_eq_getElem?_getD, List.getElem?_map, List.getElem?_range hj]; rfl
            rw [e1] at hr₁
            have hlk := hr₁.length
            have hlu := unp_len tbl chk (bases.getD (chk.getD (0 + (i : Int)).toNat 0 - 1).toNat 0) (chk.getD (0 + (i : Int)).toNat 0 - 1).toNat i
            (with_reducible rename Fr _ _ _ _ => F'); (with_reducible rename News _ _ _ _ => N')
            refine kda_set F' N' (.tail (neN ha3.symm) (.tail (by k_ne) (.tail (neN ha2.symm) (.tail (by k_ne) (.tail (by k_ne) (.tail (by k_ne) (.tail (by k_ne) (.tail (by k_ne) (.tail (by k_ne) (updF_mid n2 n1)))))))))) hd₁ (intKind_is _ _ _ _) (by rw [sizeLine_eq]; omega) ?_
            intro h₅ o₅ F₅ N₅ hd₅
            (try dsimp only at N₅)
            have hsame : ∀ {P : Addr → Prop}, (∀ q ∈ pre ++ (a, o₁) :: post, P q.1) → ∀ q ∈ pre ++ (a, o₅) :: post, P q.1 := fun hP q hq => by
              rcases List.mem_append.mp hq with h | h
              · exact hP q (List.mem_append_left _ h)
              · rcases List.mem_cons.mp h with rfl | h
                · exact hP (a, o₁) (List.mem_append_right _ (.head _))
                · exact hP q (List.mem_append_right _ (.tail _ h))
            (((try k_fold); repeat' ((first | (k_unfold; (try dsimp only)) | (k_end; wrow_close) | walk1 | (dsimp only; walk1) | (dsimp only; k_unfold; (try dsimp only)) | (leave1; walk_say "STEP leave1"; try dsimp only)))))
            refine TurnEnd.intro F₅ N₅ ⟨pre ++ (a, o₅) :: post, fun y q1 q2 => by simp only [if_neg q1, if_neg q2], rfl, ?_, hsame (P := fun z => @LT.lt Nat _ (L' + 1) z) hfar, hsame (P := fun z => @Ne Nat z H) hneH⟩ (by k_allIn) ?_
            · rw [← unp_step hj (by rw [e0] at hc1 ⊢; omega)]
              refine up o₅ _ _ hd₅ ?_
              simp only [e0, Int.zero_add] at hr₁ ⊢
              exact hr₁.snoc (fun hm => by have := unp_keys _ _ _ _ _ _ hm; omega)
            · simp only [List.forall_mem_cons]
              exact ⟨off.1, off.2.1, off.2.2.1, off.2.2.2.1, off.2.2.2.2.1, off.2.2.2.2.2.1, off.2.2.2.2.2.2.1, off.2.2.2.2.2.2.2.1, hsame (P := fun z => @Ne Nat z I) off.2.2.2.2.2.2.2.2⟩
          · exfalso
            omega
      · intro m₁ nw h₅ tk₅ hPat4 F₅ N₅
        refine goal_gen ?_; intro GG hGG
        refine ex1 (hPat4) ?_; clear hPat4; intro led hZz; refine an5 (hZz) ?_; clear hZz; intro hm hE2 hH hfar hneH; subst hE2
        refine hGG ?_; clear hGG GG
        (((try k_fold); repeat' ((first | (k_unfold; (try dsimp only)) | (k_end; wrow_close) | walk1 | (dsimp only; walk1) | (dsimp only; k_unfold; (try dsimp only)) | (leave1; walk_say "STEP leave1"; try dsimp only)))))
        exact Mid.intro F₅ N₅ ⟨led, hm, rfl, hH, hfar, hneH⟩ (by k_allIn)
    · clear hH0 hfar hneH F₂ N₂
      intro h' tk' m' news' F₂ N₂ hPat6
      refine goal_gen ?_; intro GG hGG
      refine ex1 (hPat6) ?_; clear hPat6; intro led hZz; refine an5 (hZz) ?_; clear hZz; intro hm hE2 hH hfar hneH; subst hE2
      refine hGG ?_; clear hGG GG
      refine goal_gen ?_; intro GG hGG
      refine ex2 (hm.fr2 F₂) ?_; intro o c F₃
      refine hGG ?_; clear hGG GG
      clear F₂
      dsimp only [List.drop]
      iterate 2 ((first | (k_unfold; (try dsimp only)) | (k_end; wrow_close) | walk1 | (dsimp only; walk1) | (dsimp only; k_unfold; (try dsimp only)) | (leave1; walk_say "STEP leave1"; try dsimp only)))
      refine LCg.ListComp_U (cl := [(Str.ofString "held", L' + 1)]) F₃ ?_ ?_ ?_ ?_ ?_ ?_ ?_
      · with_unfolding_all rfl
      · decide
      · rfl
      · decide
      · rfl
      · iterate 3 ((first | (k_unfold; (try dsimp only)) | (k_end; wrow_close) | walk1 | (dsimp only; walk1) | (dsimp only; k_unfold; (try dsimp only)) | (leave1; walk_say "STEP leave1"; try dsimp only)))
        dsimp only
        refine LCg.CompSrc.ledger rfl F₃ N₂ (by k_memK) (by rw [List.size_toArray, hoi.length, sizeLine_eq]; simp; omega) (fun g' => rest_of (fun i ys nw => ∃ new : Led, nw = ((L' + 1, oc') :: (H, listOf hvs.toArray n) :: (px, instObj 146 dp₁) :: (dp₁, packD h1 h2 h3 h4 t1 t2 t3 t4 bs tb ck ow) :: (bs, listOf bv.toArray nb) :: (tb, listOf ts.toArray nt) :: (ck, listOf cs.toArray nc) :: (ow, listOf ov.toArray no) :: led) ++ new ∧ Helds prog w ys new (((List.range r).map fun j => unp tbl chk (bases.getD j 0) j chk.length).take i)) ?_ ?_ _ 0 [] _ (Nat.zero_add _) ⟨[], by rw [List.append_nil], .nil⟩)
        · intro i v ys nw I oI C oC D m₂ h tk E' hin hP hJ hC hx F₂ N₂ off ne
          refine goal_gen ?_; intro GG hGG
          refine ex1 (hJ) ?_; clear hJ; intro new hZz; refine an2 (hZz) ?_; clear hZz; intro hE1 hys; subst hE1
          refine hGG ?_; clear hGG GG
          have hir : i < r := by have := hoi.length; simp at this hin; omega
          obtain ⟨c, t', rfl, hc⟩ := IntsAre.at hoi i v (by simpa using hP)
          obtain rfl : (i : Int) = c := by rw [List.getElem?_map, List.getElem?_range hir] at hc; exact Option.some.inj hc
          obtain ⟨a, o₁, kvs, pre, post, hv, rfl, hd₁, hr₁, lo₁, n1, n2, up⟩ := hH.at i (by rw [List.length_map, List.length_range]; omega)
          have hv' : hvs[((i : Nat) : Int).toNat]? = some (.ref a) := by rw [Int.toNat_natCast]; exact hv
          have off0 := off
          (((try k_fold); repeat' ((first | (k_unfold; (try dsimp only)) | (k_end; wrow_close) | walk1 | (dsimp only; walk1) | (dsimp only; k_unfold; (try dsimp only)) | (leave1; walk_say "STEP leave1"; try dsimp only)))))
          have hll := hr₁.length
          have hMi : ((List.range r).map fun j => unp tbl chk (bases.getD j 0) j chk.length).getD i [] = unp tbl chk (bases.getD i 0) i chk.length := by
            rw [List.getD_eq_getElem?_getD, List.getElem?_map, List.getElem?_range hir]; rfl
          rw [hMi] at hll
          have hll2 := unp_len tbl chk (bases.getD i 0) i chk.length
          refine dict_copy F₂ N₂ (Top.nolimit T) (.tail _ (.tail _ (.tail _ (List.mem_append_left _ (.tail _ (.tail _ (.tail _ (.tail _ (.tail _ (.tail _ (.tail _ (.tail _ (List.mem_append_right _ (.head _)))))))))))))) hd₁ lo₁ (by omega) ?_
          intro D' h₅ o₅ F₅ N₅ l5 lo5 hd5
          have m1 : @LT.lt Nat _ I D' := l5 _ (.head _)
          have m2 : @LT.lt Nat _ C D' := l5 _ (.tail _ (.head _))
          have m3 : @LT.lt Nat _ D D' := l5 _ (.tail _ (.tail _ (.head _)))
          have m4 : ∀ q ∈ new, @LT.lt Nat _ q.1 D' := fun q hq => l5 q (.tail _ (.tail _ (.tail _ (List.mem_append_right _ hq))))
          (try dsimp only)
          refine LCg.CompEnd.intro F₅ N₅ (((L' + 1, oc') :: (H, listOf hvs.toArray n) :: (px, instObj 146 dp₁) :: (dp₁, packD h1 h2 h3 h4 t1 t2 t3 t4 bs tb ck ow) :: (bs, listOf bv.toArray nb) :: (tb, listOf ts.toArray nt) :: (ck, listOf cs.toArray nc) :: (ow, listOf ov.toArray no) :: (pre ++ (a, o₁) :: post)) ++ (new ++ [(D', o₅)])) (allIn_snoc (pre := (I, oI) :: (C, oC) :: (D, LCg.lst ys) :: (L' + 1, oc') :: (H, listOf hvs.toArray n) :: (px, instObj 146 dp₁) :: (dp₁, packD h1 h2 h3 h4 t1 t2 t3 t4 bs tb ck ow) :: (bs, listOf bv.toArray nb) :: (tb, listOf ts.toArray nt) :: (ck, listOf cs.toArray nc) :: (ow, listOf ov.toArray no) :: (pre ++ (a, o₁) :: post))) ?_ (.inr ⟨_, List.mem_append_left _ (by k_memK), rfl, _, rfl⟩) ⟨new ++ [(D', o₅)], rfl, ?_⟩
          · rw [← List.append_assoc]
            exact off3_snoc (by omega) (by omega) (by omega) off0
          · have e : ((List.range r).map fun j => unp tbl chk (bases.getD j 0) j chk.length).take (i + 1) = ((List.range r).map fun j => unp tbl chk (bases.getD j 0) j chk.length).take i ++ [((List.range r).map fun j => unp tbl chk (bases.getD j 0) j chk.length).getD i []] := by
              have hi2 : i < ((List.range r).map fun j => unp tbl chk (bases.getD j 0) j chk.length).length := by rw [List.length_map, List.length_range]; omega
              rw [List.take_add_one, List.getD_eq_getElem?_getD, List.getElem?_eq_getElem hi2]; rfl
            rw [e]
            exact hys.snoc hd5 hr₁ lo5 fun q hq => by have := m4 q hq; omega
        · intro ys nw hPat2
          refine goal_gen ?_; intro GG hGG
          refine ex1 (hPat2) ?_; clear hPat2; intro new hZz; refine an2 (hZz) ?_; clear hZz; intro hE1 hys; subst hE1
          refine hGG ?_; clear hGG GG
          intro D h' tk' F₂ N₂ off
          dsimp only
          rw [List.size_toArray, hoi.length, List.length_map, List.length_range, List.take_of_length_le (by simp)] at hys
          refine BodyEnd.intro F₂ N₂ ⟨D, ys, ys.length, new, rfl, rfl, hys⟩ fun p hp => ?_
          rcases List.mem_append.mp (show p ∈ [(D, LCg.lst ys), (px, instObj 146 dp₁), (dp₁, packD h1 h2 h3 h4 t1 t2 t3 t4 bs tb ck ow), (bs, listOf bv.toArray nb), (tb, listOf ts.toArray nt), (ck, listOf cs.toArray nc), (ow, listOf ov.toArray no)] ++ new from hp) with h | h
          · revert p
            intro p _ h
            exact (show ∀ p ∈ [(D, LCg.lst ys), (px, instObj 146 dp₁), (dp₁, packD h1 h2 h3 h4 t1 t2 t3 t4 bs tb ck ow), (bs, listOf bv.toArray nb), (tb, listOf ts.toArray nt), (ck, listOf cs.toArray nc), (ow, listOf ov.toArray no)], p ∈ _ by k_allIn) p h
          · exact List.mem_cons_of_mem _ (List.mem_append_right _ h)
      · intro _; with_unfolding_all rfl
end


section
open PyProof.Rows.LSm
noncomputable def lawBody : List Stmt := match PySem.Challenge.rw_on0159_01.prog.main.body.getLast? with
  | some (.FunctionDef _ _ b _ _ _ _ _ _ _) => b
  | _ => []
noncomputable def lawScope : Scope := match PySem.Challenge.rw_on0159_01.prog.main.body.getLast? with
  | some (.FunctionDef _ _ _ _ _ _ sc _ _ _) => sc
  | _ => { kind := .function, names := [], isGenerator := false, isCoroutine := false, more := [] }
noncomputable def turnBody : List Stmt := match lawBody with
  | _ :: _ :: .For _ _ b _ _ :: _ => b
  | _ => []
noncomputable def askBody : List Stmt := match lawBody with
  | _ :: _ :: _ :: _ :: _ :: .For _ _ b _ _ :: _ => b
  | _ => []

theorem as_one {l : List Stmt} {a : Stmt} (P : List Stmt → Prop) (e : l = [a]) (h : P [a]) : P l := e ▸ h
theorem as_two {l : List Stmt} {a b : Stmt} (P : List Stmt → Prop) (e : l = [a, b]) (h : P [a, b]) : P l := e ▸ h
theorem as_three {l : List Stmt} {a b c : Stmt} (P : List Stmt → Prop) (e : l = [a, b, c]) (h : P [a, b, c]) : P l := e ▸ h

noncomputable def mpo : List (Str × Value) → (Str → Option Value) → Str → Option Value
  | [], m₀ => m₀
  | (k, v) :: r, m₀ => fun y => if y = k then some v else mpo r m₀ y

noncomputable abbrev lawCells (L : Addr) : List (Str × Addr) := [(Str.ofString "packed", L + 8), (Str.ofString "base", L + 7), (Str.ofString "number", L + 6), (Str.ofString "bases", L + 5), (Str.ofString "rows", L + 4), (Str.ofString "cells", L + 3), (Str.ofString "comb", L + 2), (Str.ofString "pen", L + 1)]

noncomputable abbrev lawA (dp un : Nat) (gd : Option (List Code)) (L fa : Addr) (cdv : Value) (outer : List Env) (sc : Scope) : Around :=
  ktrTop dp un gd (Str.ofString "law") sc L fa cdv [(Str.ofString "packed", L + 8), (Str.ofString "base", L + 7), (Str.ofString "number", L + 6), (Str.ofString "bases", L + 5), (Str.ofString "rows", L + 4), (Str.ofString "cells", L + 3), (Str.ofString "comb", L + 2), (Str.ofString "pen", L + 1)] outer
noncomputable abbrev lawE (L fa : Addr) (cdv : Value) (sc : Scope) : Env :=
  envX (Str.ofString "law") sc L fa cdv [(Str.ofString "packed", L + 8), (Str.ofString "base", L + 7), (Str.ofString "number", L + 6), (Str.ofString "bases", L + 5), (Str.ofString "rows", L + 4), (Str.ofString "cells", L + 3), (Str.ofString "comb", L + 2), (Str.ofString "pen", L + 1)]


theorem as_scope {sc : Scope} {k n g c m} (P : Scope → Prop) (e : sc = ⟨k, n, g, c, m⟩) (h : P ⟨k, n, g, c, m⟩) : P sc := e ▸ h

section
variable {prog : Program} {w : World} {A : Around} {s : Shared} {env : Env} {h₀ : Heap} {L : Addr} {x : Str} {px : Pos} {body : List Stmt} {Q : Flow → Shared → Prop}

theorem iter_range_cell {r : Addr} {a₀ b₀ : Int} {t₀ u₀ v₀ : Tok} {n : Nat} {m₀ : Str → Option Value} {news : Led} (J : Nat → (Str → Option Value) → Led → Prop)
    (hh : A.handled = none) (hr : IsRange s.heap r a₀ b₀ 1 t₀ u₀ v₀) (hsmall : Builtin.Range.small a₀ b₀ 1 = true) (hn : Builtin.Range.rangeSize a₀ b₀ 1 = (n : Int)) (F : Fr h₀ L s.heap m₀) (N : News h₀ L s.heap news) (hJ : J 0 m₀ news)
    (turn : ∀ (i : Nat) t m₁ nw I oI h tk, i < n → J i m₁ nw → (∀ p ∈ nw, @Ne Nat p.1 I) → Fr h₀ L h m₁ → News h₀ L h ((I, oI) :: nw) →
      wpAny (model prog w) A (storeName env x (.int (a₀ + (i : Int)) t)) (fun _ s' => wpAny (model prog w) A (execs body env) (TurnEnd h₀ L I oI (J (i + 1)) { s with heap := h, toks := tk } Q) (fun _ _ => False) s') (fun _ _ => False) { s with heap := h, toks := tk })
    (done : ∀ m₁ nw h tk, J n m₁ nw → Fr h₀ L h m₁ → News h₀ L h nw → Q .next { s with heap := h, toks := tk }) :
    wpAny (model prog w) A (pyIter (.ref r)) (fun it s₂ => codeAny (model prog w) A (.forLoop (.Name x px) it body [] env) (fun r s' => match r with | .ok f => Q f s' | .error e => cameBackBy (model prog w) A env (fun _ _ => False) e s') s₂) (fun _ _ => False) s := by
  refine wpAny_pyIter_range hr hsmall ?_
  rw [hn]
  have W := LCg.range_walks (prog := prog) (w := w) (I := s.heap.objs.size) hh a₀ n
  have hI0 : h₀.get? s.heap.objs.size = none := next_is_new F
  have hnw : ∀ p ∈ news, @Ne Nat p.1 s.heap.objs.size := fun p hp => Nat.ne_of_lt (Heap.lt_size (N p hp).1)
  refine codeAny_forLoop
    (fun k s' => ∃ h' tk m' nw i, s' = { s with heap := h', toks := tk } ∧ IsRangeIter h' s.heap.objs.size (a₀ + (i : Nat) * 1) ((n : Int) - (i : Nat)) 1 ∧ Fr h₀ L h' m' ∧ News h₀ L h' nw ∧ (∀ p ∈ nw, @Ne Nat p.1 s.heap.objs.size) ∧ J i m' nw ∧ i ≤ n ∧ k = n + 1 - i) ?_ (n + 1)
    ⟨_, _, m₀, news, 0, rfl, by simpa using Heap.get?_push_size _ rfl, F.push _, (fun p hp => ⟨Heap.get?_push_of_some _ (N p hp).1, (N p hp).2⟩), hnw, hJ, Nat.zero_le _, rfl⟩
  rintro k s' ⟨h', tk, m', nw, i, rfl, hst, F', N', hnw', hJ', hi, rfl⟩
  have hIL : s.heap.objs.size ≠ L := fun e => Nat.lt_irrefl _ (Nat.lt_of_lt_of_le F.ns.lt (Nat.le_of_eq e))
  have next : ∀ h₁ : Heap, (∀ b o, b ∉ [s.heap.objs.size] → h'.get? b = some o → h₁.get? b = some o) → Fr h₀ L h₁ m' ∧ News h₀ L h₁ nw := fun h₁ hk₁ =>
    ⟨⟨F'.ns.at' fun o e => hk₁ _ o (fun hm => hIL (List.mem_singleton.mp hm).symm) e, fun b o e => hk₁ b o (fun hm => by rw [List.mem_singleton.mp hm, hI0] at e; cases e) (F'.keep b o e), F'.above⟩, fun p hp => ⟨hk₁ _ _ (fun hm => hnw' p hp (List.mem_singleton.mp hm)) (N' p hp).1, (N' p hp).2⟩⟩
  by_cases hlt : i < n
  · refine W.item i _ _ _ hlt hst fun v h₁ tk₁ hP hst₁ hk₁ => ?_
    obtain ⟨t, rfl⟩ := hP
    obtain ⟨F₁, N₁⟩ := next h₁ hk₁
    have heI : h₁.get? s.heap.objs.size = some _ := hst₁
    refine wpAny_assign_Name ?_
    have N₂ : News h₀ L h₁ ((s.heap.objs.size, _) :: nw) := fun p hp => by
      rcases List.mem_cons.mp hp with rfl | hp
      · exact ⟨heI, hIL, hI0⟩
      · exact N₁ p hp
    refine wpAny_mono (turn i t m' nw s.heap.objs.size _ h₁ tk₁ hlt hJ' hnw' F₁ N₂) (fun _ s₂ h₂ => wpAny_mono h₂ (fun f s₃ h₃ => ?_) fun _ _ e => e.elim) fun _ _ e => e.elim
    · cases f with
      | ret v => exact h₃
      | brk => exact h₃
      | next =>
        obtain ⟨h₄, tk₄, m₄, nw₄, rfl, F₄, N₄, off₄, hJ₄⟩ := h₃
        exact ⟨n + 1 - (i + 1), by omega, h₄, tk₄, m₄, nw₄, i + 1, rfl, (N₄ _ (.head _)).1, F₄, fun p hp => N₄ p (List.mem_cons_of_mem _ hp), off₄, hJ₄, hlt, rfl⟩
      | cont =>
        obtain ⟨h₄, tk₄, m₄, nw₄, rfl, F₄, N₄, off₄, hJ₄⟩ := h₃
        exact ⟨n + 1 - (i + 1), by omega, h₄, tk₄, m₄, nw₄, i + 1, rfl, (N₄ _ (.head _)).1, F₄, fun p hp => N₄ p (List.mem_cons_of_mem _ hp), off₄, hJ₄, hlt, rfl⟩
  · have hin : i = n := by omega
    subst hin
    refine W.done _ _ _ hst fun h₁ tk₁ hk₁ => wpAny_execs_nil ?_
    obtain ⟨F₁, N₁⟩ := next h₁ hk₁
    exact done m' nw h₁ tk₁ hJ' F₁ N₁
end
end


section
open PyProof.Rows.LSm
noncomputable abbrev ND (l : Led) : Prop := (l.map (·.1)).Nodup

noncomputable def nth : Led → Nat → Led
  | [], _ => []
  | a :: _, 0 => [a]
  | _ :: r, n + 1 => nth r n
noncomputable def pk (all : Led) : List Nat → Led
  | [] => []
  | i :: r => nth all i ++ pk all r

theorem nth_sub : ∀ {all : Led} {i : Nat}, ∀ p ∈ nth all i, p ∈ all
  | [], _, _, h => nomatch h
  | a :: _, 0, p, h => by rw [List.mem_singleton.mp h]; exact .head _
  | _ :: r, n + 1, p, h => .tail _ (nth_sub p h)
theorem pk_sub {all : Led} : ∀ {is : List Nat}, ∀ p ∈ pk all is, p ∈ all
  | [], _, h => nomatch h
  | i :: r, p, h => by
    rcases List.mem_append.mp h with h | h
    · exact nth_sub p h
    · exact pk_sub p h
theorem pk_at {all : Led} : ∀ {is : List Nat}, ∀ p ∈ pk all is, ∃ i ∈ is, p ∈ nth all i
  | [], _, h => nomatch h
  | i :: r, p, h => by
    rcases List.mem_append.mp h with h | h
    · exact ⟨i, .head _, h⟩
    · obtain ⟨j, hj, h⟩ := pk_at p h
      exact ⟨j, .tail _ hj, h⟩
theorem mem_pk {all : Led} : ∀ {is : List Nat} {i : Nat}, i ∈ is → ∀ p ∈ nth all i, p ∈ pk all is
  | j :: r, i, hi, p, h => by
    rcases List.mem_cons.mp hi with rfl | hi
    · exact List.mem_append_left _ h
    · exact List.mem_append_right _ (mem_pk hi p h)

theorem nd_head {a : Addr × Obj} {r : Led} (nd : ND (a :: r)) : ∀ q ∈ r, @Ne Nat a.1 q.1 := fun q hq e => by
  have h := List.mem_map_of_mem (f := (·.1)) hq
  have h' : a.1 ∈ r.map (·.1) := by rw [show a.1 = q.1 from e]; exact h
  exact (List.nodup_cons.mp nd).1 h'

theorem nth_ne : ∀ {all : Led} (_ : ND all) {i j : Nat} (_ : i ≠ j), ∀ p ∈ nth all i, ∀ q ∈ nth all j, @Ne Nat p.1 q.1
  | [], _, _, _, _, _, h, _, _ => nomatch h
  | a :: r, nd, 0, 0, h, _, _, _, _ => absurd rfl h
  | a :: r, nd, 0, j + 1, _, p, hp, q, hq => by
    rw [List.mem_singleton.mp hp]
    exact nd_head nd q (nth_sub q hq)
  | a :: r, nd, i + 1, 0, _, p, hp, q, hq => by
    rw [List.mem_singleton.mp hq]
    exact (nd_head nd p (nth_sub p hp)).symm
  | a :: r, nd, i + 1, j + 1, h, p, hp, q, hq => nth_ne (List.nodup_cons.mp nd).2 (fun e => h (by rw [e])) p hp q hq
theorem nth_drop : ∀ {all : Led} (_ : ND all) {i n : Nat} (_ : i < n), ∀ p ∈ nth all i, ∀ q ∈ all.drop n, @Ne Nat p.1 q.1
  | [], _, _, _, _, _, h, _, _ => nomatch h
  | a :: r, nd, 0, n + 1, _, p, hp, q, hq => by
    rw [List.mem_singleton.mp hp]
    exact nd_head nd q (List.mem_of_mem_drop hq)
  | a :: r, nd, i + 1, n + 1, h, p, hp, q, hq => nth_drop (List.nodup_cons.mp nd).2 (Nat.lt_of_succ_lt_succ h) p hp q hq

theorem nd_ne {all : Led} (nd : ND all) (i j : Nat) {a b : Addr × Obj} (hi : nth all i = [a]) (hj : nth all j = [b]) (h : i ≠ j) : @Ne Nat a.1 b.1 :=
  nth_ne nd h a (hi ▸ .head _) b (hj ▸ .head _)
theorem nd_tl {all : Led} (nd : ND all) (i n : Nat) {a : Addr × Obj} (hi : nth all i = [a]) (h : i < n) : ∀ q ∈ all.drop n, @Ne Nat a.1 q.1 :=
  nth_drop nd h a (hi ▸ .head _)

noncomputable def okIdx (is js : List Nat) (n : Nat) : Bool := is.all (fun i => decide (i < n) && !js.contains i) && js.all (fun j => decide (j < n))

theorem okIdx.ne {is js : List Nat} {n : Nat} (h : okIdx is js n = true) : (∀ i ∈ is, i < n ∧ i ∉ js) ∧ ∀ j ∈ js, j < n := by
  simp only [okIdx, Bool.and_eq_true, List.all_eq_true, decide_eq_true_eq, Bool.not_eq_true', List.contains_iff_mem, Bool.eq_false_iff, ne_eq] at h
  exact ⟨fun i hi => ⟨(h.1 i hi).1, by simpa using (h.1 i hi).2⟩, h.2⟩

theorem pk_apart {all : Led} (nd : ND all) {is js : List Nat} {n : Nat} (ok : okIdx is js n = true) : Apart (pk all is) (pk all js ++ all.drop n) := fun p hp q hq => by
  obtain ⟨i, hi, hp⟩ := pk_at p hp
  have h := okIdx.ne ok
  rcases List.mem_append.mp hq with hq | hq
  · obtain ⟨j, hj, hq⟩ := pk_at q hq
    exact nth_ne nd (fun e : i = j => (h.1 i hi).2 (e ▸ hj)) p hp q hq
  · exact nth_drop nd (h.1 i hi).1 p hp q hq

theorem nd_append {l r : Led} (h1 : ND l) (h2 : ND r) (h : Apart l r) : ND (l ++ r) := by
  show ((l ++ r).map (·.1)).Nodup
  rw [List.map_append]
  refine List.nodup_append.mpr ⟨h1, h2, fun a ha b hb => ?_⟩
  obtain ⟨p, hp, rfl⟩ := List.mem_map.mp ha
  obtain ⟨q, hq, rfl⟩ := List.mem_map.mp hb
  exact h p hp q hq
theorem nd_cons {a : Addr} {o : Obj} {r : Led} (h : ∀ q ∈ r, @Ne Nat q.1 a) (h2 : ND r) : ND ((a, o) :: r) :=
  List.nodup_cons.mpr ⟨fun hm => by
    obtain ⟨q, hq, e⟩ := List.mem_map.mp hm
    exact h q hq e, h2⟩
theorem nd_lt {a : Addr} {o : Obj} {r : Led} (h : ∀ q ∈ r, q.1 < a) (h2 : ND r) : ND ((a, o) :: r) := nd_cons (fun q hq => Nat.ne_of_lt (h q hq)) h2

theorem nth_nd : ∀ {all : Led} {i : Nat}, ND (nth all i)
  | [], _ => List.nodup_nil
  | a :: _, 0 => by simp [ND, nth]
  | _ :: r, n + 1 => nth_nd (all := r)
theorem pk_nd {all : Led} (nd : ND all) : ∀ {is : List Nat}, is.Nodup → ND (pk all is)
  | [], _ => List.nodup_nil
  | i :: r, h => by
    refine nd_append nth_nd (pk_nd nd (List.nodup_cons.mp h).2) fun p hp q hq => ?_
    obtain ⟨j, hj, hq⟩ := pk_at q hq
    exact nth_ne nd (fun e : i = j => (List.nodup_cons.mp h).1 (e ▸ hj)) p hp q hq
theorem nd_pk {all : Led} (nd : ND all) (is : List Nat) (n : Nat) (hi : is.Nodup) (hn : ∀ i ∈ is, i < n) : ND (pk all is ++ all.drop n) := by
  have hd : ND (all.drop n) := List.Sublist.nodup ((List.drop_sublist n all).map _) nd
  refine nd_append (pk_nd nd hi) hd fun p hp q hq => ?_
  obtain ⟨i, hi, hp⟩ := pk_at p hp
  exact nth_drop nd (hn i hi) p hp q hq
theorem nd_pks {all : Led} (nd : ND all) (is : List Nat) (n : Nat) {t : Led} (ht : t.Sublist (all.drop n)) (hi : is.Nodup) (hn : ∀ i ∈ is, i < n) : ND (pk all is ++ t) :=
  List.Sublist.nodup (((List.Sublist.refl (pk all is)).append ht).map _) (nd_pk nd is n hi hn)
theorem news_pk {h₀ h : Heap} {L : Addr} {all : Led} (N : News h₀ L h all) (is : List Nat) (n : Nat) : News h₀ L h (pk all is ++ all.drop n) := fun p hp => by
  rcases List.mem_append.mp hp with hp | hp
  · exact N p (pk_sub p hp)
  · exact N p (List.mem_of_mem_drop hp)
theorem in_pk {all : Led} (is : List Nat) (n : Nat) : ∀ p ∈ pk all is ++ all.drop n, p ∈ all := fun p hp => by
  rcases List.mem_append.mp hp with hp | hp
  · exact pk_sub p hp
  · exact List.mem_of_mem_drop hp

theorem in_pks {all : Led} (is : List Nat) (n : Nat) {t : Led} (ht : t.Sublist (all.drop n)) : ∀ p ∈ pk all is ++ t, p ∈ all := fun p hp => by
  rcases List.mem_append.mp hp with hp | hp
  · exact pk_sub p hp
  · exact List.mem_of_mem_drop (ht.subset hp)
theorem news_pks {h₀ h : Heap} {L : Addr} {all : Led} (N : News h₀ L h all) (is : List Nat) (n : Nat) {t : Led} (ht : t.Sublist (all.drop n)) : News h₀ L h (pk all is ++ t) := fun p hp => N p (in_pks is n ht p hp)

theorem pk_fresh {all : Led} {is js : List Nat} {n : Nat} {l : Addr} (cov : ∀ i, i < n → i ∈ is ∨ i ∈ js) (h1 : ∀ q ∈ pk all is, @Ne Nat l q.1) (h2 : ∀ q ∈ pk all js ++ all.drop n, @Ne Nat l q.1) : ∀ q ∈ all, @Ne Nat q.1 l := fun q hq => by
  have key : ∀ (all : Led) (n : Nat), q ∈ all → (∃ i, i < n ∧ q ∈ nth all i) ∨ q ∈ all.drop n := by
    intro all
    induction all with
    | nil => intro n h; cases h
    | cons a r ih =>
      intro n h
      cases n with
      | zero => exact .inr h
      | succ n =>
        rcases List.mem_cons.mp h with rfl | h
        · exact .inl ⟨0, Nat.succ_pos _, .head _⟩
        · rcases ih n h with ⟨i, hi, h⟩ | h
          · exact .inl ⟨i + 1, Nat.succ_lt_succ hi, h⟩
          · exact .inr h
  rcases key all n hq with ⟨i, hi, h⟩ | h
  · rcases cov i hi with c | c
    · exact (h1 q (mem_pk c q h)).symm
    · exact (h2 q (List.mem_append_left _ (mem_pk c q h))).symm
  · exact (h2 q (List.mem_append_right _ h)).symm

theorem Spec.useI {k : Nat} {prog : Program} {w : World} {mean : ExcName → Option Value} {mg mb : Str → Option Value} {f : Addr} {vs : List Value} {news : Led} {R : Value → Led → Prop}
    (S : Spec k prog w mean mg mb f vs news R) {dp un : Nat} {gd : Option (List Code)} {cn : Str} {cs : Scope} {a : Addr} {ccd : Value} {cl : List (Str × Addr)} {outer : List Env} {A₀ : Around} {base h₀ : Heap} {L : Addr} {m : Str → Option Value} {all : Led} {s : Shared} {Q E : Value → Shared → Prop}
    (B : Below A₀ base outer h₀) (F : Fr h₀ L s.heap m) (X : (hd.heap_39 w.params).In h₀) (N : News h₀ L s.heap all) (T : Top hd.view_39 (looseW hd.view_39 []) mean mg mb h₀) (nd : ND all) (is js : List Nat) (n : Nat) (hck : cs.kind = .function) (hdp : dp + k < recursionLimit) (hun : un + 8 * k + 200 < cLine)
    (e : news = pk all is) (ok : okIdx is js n = true)
    (ret : ∀ v news' h' tk', R v news' → Fr h₀ L h' m → News h₀ L h' (news' ++ (pk all js ++ all.drop n)) → Apart news' (pk all js ++ all.drop n) → Q v { s with heap := h', toks := tk' }) :
    wpAny (model prog w) (ktrTop dp un gd cn cs L a ccd cl outer) (call (.ref f) vs) Q E s := by
  refine Spec.use S B F X N T hck hdp hun (pk all js ++ all.drop n) (fun p hp => ?_) (e ▸ pk_apart nd ok) ret
  rcases List.mem_append.mp hp with hp | hp
  · exact pk_sub p (e ▸ hp)
  · exact in_pk js n p hp

theorem Spec.useJ {k : Nat} {prog : Program} {w : World} {mean : ExcName → Option Value} {mg mb : Str → Option Value} {f : Addr} {vs : List Value} {news : Led} {R : Value → Led → Prop}
    (S : Spec k prog w mean mg mb f vs news R) {dp un : Nat} {gd : Option (List Code)} {cn : Str} {cs : Scope} {a : Addr} {ccd : Value} {cl : List (Str × Addr)} {outer : List Env} {A₀ : Around} {base h₀ : Heap} {L : Addr} {m : Str → Option Value} {all : Led} {s : Shared} {Q E : Value → Shared → Prop}
    (B : Below A₀ base outer h₀) (F : Fr h₀ L s.heap m) (X : (hd.heap_39 w.params).In h₀) (N : News h₀ L s.heap all) (T : Top hd.view_39 (looseW hd.view_39 []) mean mg mb h₀) (nd : ND all) (is js : List Nat) (n : Nat) (hck : cs.kind = .function) (hdp : dp + k < recursionLimit) (hun : un + 8 * k + 200 < cLine)
    (e : news = pk all is ++ all.drop n) (ok : okIdx js is n = true)
    (ret : ∀ v news' h' tk', R v news' → Fr h₀ L h' m → News h₀ L h' (news' ++ pk all js) → Apart news' (pk all js) → Q v { s with heap := h', toks := tk' }) :
    wpAny (model prog w) (ktrTop dp un gd cn cs L a ccd cl outer) (call (.ref f) vs) Q E s := by
  refine Spec.use S B F X N T hck hdp hun (pk all js) (fun p hp => ?_) (e ▸ fun p hp q hq => (pk_apart nd ok q hq p hp).symm) ret
  rcases List.mem_append.mp hp with hp | hp
  · exact in_pk is n p (e ▸ hp)
  · exact pk_sub p hp

theorem updF_at {c : Addr} {o : Obj} : ∀ {all : Led} (_ : ND all) (i : Nat) (_ : nth all i = [(c, o)]), UpdF c o all (fun o' => all.set i (c, o'))
  | [], _, _, e => nomatch e
  | a :: r, nd, 0, e => by
    obtain rfl : a = (c, o) := by simpa [nth] using e
    exact .head fun q hq => (nd_head nd q hq).symm
  | a :: r, nd, i + 1, e => by
    have e' : nth r i = [(c, o)] := e
    refine .tail (nd_head nd (c, o) (nth_sub (i := i) _ (by rw [e']; exact .head _))) (updF_at (List.nodup_cons.mp nd).2 i e')
theorem upd_at {c : Addr} {o o' : Obj} : ∀ {all : Led} (_ : ND all) (i : Nat) (_ : nth all i = [(c, o)]), Upd c o o' all (all.set i (c, o'))
  | [], _, _, e => nomatch e
  | a :: r, nd, 0, e => by
    obtain rfl : a = (c, o) := by simpa [nth] using e
    exact .head fun q hq => (nd_head nd q hq).symm
  | a :: r, nd, i + 1, e => by
    have e' : nth r i = [(c, o)] := e
    refine .tail (nd_head nd (c, o) (nth_sub (i := i) _ (by rw [e']; exact .head _))) (upd_at (List.nodup_cons.mp nd).2 i e')

theorem nd_off3 {I C D : Addr} {oI oC oD : Obj} : ∀ {l : Led}, ND l → LCg.Off3 I C D l → ((@Ne Nat I C) ∧ (@Ne Nat I D) ∧ (@Ne Nat C D)) → ND ((I, oI) :: (C, oC) :: (D, oD) :: l) := fun {l} nd off ne => by
  have key : ∀ l : Led, LCg.Off3 I C D l → ∀ q ∈ l, @Ne Nat q.1 I ∧ @Ne Nat q.1 C ∧ @Ne Nat q.1 D := by
    intro l
    induction l with
    | nil => intro _ q h; cases h
    | cons a r ih =>
      intro off q h
      rcases List.mem_cons.mp h with rfl | h
      · exact off.1
      · exact ih off.2 q h
  have k := key l off
  refine nd_cons (fun q hq => ?_) (nd_cons (fun q hq => ?_) (nd_cons (fun q hq => (k q hq).2.2) nd))
  · rcases List.mem_cons.mp hq with rfl | hq
    · exact ne.1.symm
    rcases List.mem_cons.mp hq with rfl | hq
    · exact ne.2.1.symm
    · exact (k q hq).1
  · rcases List.mem_cons.mp hq with rfl | hq
    · exact ne.2.2.symm
    · exact (k q hq).2.1
theorem off3_nd {I C D : Addr} {oI oC oD : Obj} : ∀ {l : Led}, ND ((I, oI) :: (C, oC) :: (D, oD) :: l) → LCg.Off3 I C D l := fun {l} nd => by
  have h1 := nd_head nd
  have nd2 := (List.nodup_cons.mp nd).2
  have h2 := nd_head (a := (C, oC)) (r := (D, oD) :: l) nd2
  have h3 := nd_head (a := (D, oD)) (r := l) (List.nodup_cons.mp nd2).2
  have key : ∀ l' : Led, (∀ q ∈ l', q ∈ l) → LCg.Off3 I C D l' := by
    intro l'
    induction l' with
    | nil => intro _; trivial
    | cons a r ih =>
      intro h
      have ha := h a (.head _)
      exact ⟨⟨(h1 a (.tail _ (.tail _ ha))).symm, (h2 a (.tail _ ha)).symm, (h3 a ha).symm⟩, ih fun q hq => h q (.tail _ hq)⟩
  exact key l fun _ h => h
theorem nd_tail {a : Addr × Obj} {l : Led} (nd : ND (a :: l)) : ND l := (List.nodup_cons.mp nd).2
end


section
open PyProof.Rows.LSm
noncomputable def led17 (L x dx tb ck d rw bs p q : Addr) (h1 h2 : Int) (t1 t2 : Tok) (qo o5 o4 o3 o2 o1 o8 : Obj) (rv : List Value) (nr : Nat) (bv : List Value) (nb : Nat) (ts : List Value) (nt : Nat) (cs : List Value) (nc : Nat) (od o6 o7 po : Obj) (tl : Led) : Led :=
  (x, instObj 73 dx) :: (dx, combD h1 h2 t1 t2 tb ck) :: (tb, listOf ts.toArray nt) :: (ck, listOf cs.toArray nc) :: (d, od) :: (rw, listOf rv.toArray nr) :: (bs, listOf bv.toArray nb) :: (p, po) :: (q, qo) :: (L + 8, o8) :: (L + 7, o7) :: (L + 6, o6) :: (L + 5, o5) :: (L + 4, o4) :: (L + 3, o3) :: (L + 2, o2) :: (L + 1, o1) :: tl
theorem mem_nth {all : Led} {p : Addr × Obj} (i : Nat) (h : nth all i = [p]) : p ∈ all := nth_sub p (by rw [h]; exact .head _)
end


section
open PyProof.Rows.LSm
theorem freeAt_tab' {kvs : List (Int × Value)} {own : Int → Int} {S : Nat} (hS : SizeOk kvs S) (hown : ∀ k, (valueAt kvs k).isSome = true → 0 ≤ own k) {c : Int} (hc : 0 ≤ c) :
    freeAt (tabOf kvs (fun c => own c + 1) S) c = !(valueAt kvs c).isSome := by
  have h := freeAt_tab hS hown c.toNat
  have e : (0 : Int) + (c.toNat : Int) = c := by omega
  have e2 : ((c.toNat : Nat) : Int) = c := by omega
  rw [e, e2] at h
  exact h

theorem all_free {kvs : List (Int × Value)} {own : Int → Int} {S : Nat} (hS : SizeOk kvs S) (hown : ∀ k, (valueAt kvs k).isSome = true → 0 ≤ own k) {ns : List Int} {b : Int} (h : ∀ c ∈ ns, 0 ≤ b + c) :
    (ns.all fun c => freeAt (tabOf kvs (fun c => own c + 1) S) (b + c)) = ns.all fun c => !(valueAt kvs (b + c)).isSome := by
  rw [Bool.eq_iff_iff, List.all_eq_true, List.all_eq_true]
  exact ⟨fun q c hc => by rw [← freeAt_tab' hS hown (h c hc)]; exact q c hc, fun q c hc => by rw [freeAt_tab' hS hown (h c hc)]; exact q c hc⟩

theorem fit_same {kvs : List (Int × Value)} {own : Int → Int} {S : Nat} (hS : SizeOk kvs S) (hown : ∀ k, (valueAt kvs k).isSome = true → 0 ≤ own k) {ns : List Int} (hcol : ColOk ns) {b b' : Int}
    (h : LeastFit (fun b => ns.all fun c => freeAt (tabOf kvs (fun c => own c + 1) S) (b + c)) (-(ns.getD 0 0)) b) (h' : LeastFit (fun b => ns.all fun c => !(valueAt kvs (b + c)).isSome) (-(ns.getD 0 0)) b') : b = b' :=
  LeastFit.same h h' fun x hx => all_free hS hown fun c hc => by have := asc_head hcol.2.1 c hc; omega

theorem all_filter {ns : List Int} {f : Int → Bool} : (ns.all fun c => !f c) = decide (ns.filter f = []) := by
  rw [Bool.eq_iff_iff, List.all_eq_true, decide_eq_true_eq, List.filter_eq_nil_iff]
  exact ⟨fun h c hc => by have := h c hc; simpa using this, fun h c hc => by have := h c hc; simpa using this⟩

theorem valueAt_stored {kvs : List (Int × Value)} {k : Int} (e : valueAt kvs k = none) (k' : Int) (v : Value) : valueAt (stored kvs k v) k' = if k' = k then some v else valueAt kvs k' := by
  rw [stored_absent e]
  simp only [valueAt, List.find?_append, List.find?_cons, List.find?_nil] at e ⊢
  by_cases h : k' = k
  · subst h
    have : kvs.find? (fun kv => decide (kv.1 = k')) = none := by simpa using e
    simp [this]
  · have h' : ¬ k = k' := fun q => h q.symm
    simp [h, h']

theorem layAll_getD (f : Int → Int) (b : Int) : ∀ (ns l : List Int) (k : Nat), (∀ c ∈ ns, 0 ≤ b + c) → k < l.length → (layAll f b ns l).getD k 0 = if ((k : Int) - b) ∈ ns then f ((k : Int) - b) else l.getD k 0
  | [], l, k, _, _ => by simp [layAll]
  | c :: r, l, k, h, hk => by
    have ih := layAll_getD f b r (l.set (b + c).toNat (f c)) k (fun c' hc' => h c' (.tail _ hc')) (by rw [List.length_set]; exact hk)
    have e : layAll f b (c :: r) l = layAll f b r (l.set (b + c).toNat (f c)) := rfl
    rw [e, ih]
    by_cases hr : ((k : Int) - b) ∈ r
    · rw [if_pos hr, if_pos (.tail _ hr)]
    · rw [if_neg hr]
      have h0 := h c (.head _)
      by_cases hc : (k : Int) - b = c
      · have e2 : (b + c).toNat = k := by omega
        rw [if_pos (by rw [hc]; exact .head _), hc, e2, List.getD_eq_getElem?_getD, List.getElem?_set_self hk]; rfl
      · have e2 : (b + c).toNat ≠ k := by omega
        rw [if_neg (fun hm => by rcases List.mem_cons.mp hm with q | q; exact hc q; exact hr q), List.getD_eq_getElem?_getD, List.getElem?_set_ne e2, ← List.getD_eq_getElem?_getD]

theorem growTo_length (many : Int) (l : List Int) : (growTo many l).length = max l.length many.toNat := by
  unfold growTo; rw [List.length_append, List.length_replicate]; omega
theorem growTo_getD (many : Int) (l : List Int) (k : Nat) : (growTo many l).getD k 0 = l.getD k 0 := by
  unfold growTo
  rw [List.getD_eq_getElem?_getD, List.getD_eq_getElem?_getD]
  by_cases h : k < l.length
  · rw [List.getElem?_append_left h]
  · rw [List.getElem?_append_right (by omega), List.getElem?_eq_none (l := l) (by omega), List.getElem?_replicate]
    split <;> rfl

theorem ext_getD {l r : List Int} (hl : l.length = r.length) (h : ∀ k, k < l.length → l.getD k 0 = r.getD k 0) : l = r :=
  List.ext_getElem hl fun k h1 h2 => by
    have := h k h1
    rw [List.getD_eq_getElem?_getD, List.getD_eq_getElem?_getD, List.getElem?_eq_getElem h1, List.getElem?_eq_getElem h2] at this
    exact this

theorem tab_step {kvs kvs' : List (Int × Value)} {f g g' : Int → Int} {b last : Int} {ns : List Int} {S : Nat} (hb : ∀ c ∈ ns, 0 ≤ b + c)
    (hlo : ∀ k, (valueAt kvs k).isSome = true → 0 ≤ k ∧ k < S)
    (hmem : ∀ k, (valueAt kvs' k).isSome = true ↔ (valueAt kvs k).isSome = true ∨ (k - b) ∈ ns) (hg : ∀ k, g' k = if (k - b) ∈ ns then f (k - b) else g k) :
    layAll f b ns (growTo (b + last + 1) (tabOf kvs g S)) = tabOf kvs' g' (max S (b + last + 1).toNat) := by
  have hlen : (growTo (b + last + 1) (tabOf kvs g S)).length = max S (b + last + 1).toNat := by rw [growTo_length, tabOf_length]
  refine ext_getD (by rw [layAll_length, hlen, tabOf_length]) fun k hk => ?_
  rw [layAll_length] at hk
  rw [layAll_getD f b ns _ k hb hk, growTo_getD, tabOf_getD kvs' g' _ _ (hlen ▸ hk), hg]
  by_cases hn : ((k : Int) - b) ∈ ns
  · rw [if_pos hn, if_pos hn, if_pos ((hmem k).mpr (.inr hn))]
  · rw [if_neg hn, if_neg hn]
    by_cases hs : k < S
    · rw [tabOf_getD _ _ _ _ hs]
      by_cases hv : (valueAt kvs k).isSome = true
      · rw [if_pos hv, if_pos ((hmem k).mpr (.inl hv))]
      · rw [if_neg hv, if_neg fun q => (hmem k).mp q |>.elim hv hn]
    · have hv : ¬ (valueAt kvs k).isSome = true := fun q => by have := hlo _ q; omega
      rw [if_neg fun q => (hmem k).mp q |>.elim hv hn, List.getD_eq_getElem?_getD, List.getElem?_eq_none (by rw [tabOf_length]; omega)]; rfl

theorem size_step {kvs kvs' : List (Int × Value)} {b last : Int} {ns : List Int} {S : Nat} (hS : SizeOk kvs S) (hb : ∀ c ∈ ns, 0 ≤ b + c ∧ c ≤ last) (hl : last ∈ ns)
    (hmem : ∀ k, (valueAt kvs' k).isSome = true ↔ (valueAt kvs k).isSome = true ∨ (k - b) ∈ ns) : SizeOk kvs' (max S (b + last + 1).toNat) where
  lo := fun k hk => by
    rcases (hmem k).mp hk with h | h
    · have := hS.lo k h; omega
    · have := hb _ h; omega
  top := fun _ => by
    have h0 := hb _ hl
    refine (hmem _).mpr ?_
    by_cases q : S ≤ (b + last + 1).toNat
    · right
      rw [Nat.max_eq_right q]
      have : ((b + last + 1).toNat : Int) - 1 - b = last := by omega
      rw [this]; exact hl
    · left
      rw [Nat.max_eq_left (by omega)]
      refine hS.top fun e => ?_
      have := hS.nil e
      omega
  nil := fun e => by
    have := (hmem (last + b)).mpr (.inr (by rw [Int.add_sub_cancel]; exact hl))
    rw [e] at this; cases this
end


section
open PyProof.Rows.LSm
theorem RowIs.app {kvs : List (Int × Value)} {M : List (Int × Int)} (h : RowIs kvs M) (c x : Int) (t : Tok) : RowIs (kvs ++ [(c, .int x t)]) (M ++ [(c, x)]) := by
  induction h with
  | nil => exact .cons c x t .nil
  | cons a b u _ ih => exact .cons a b u ih

noncomputable def TupRow (kr : List (Int × Value)) (ys : List Value) (tps : Led) : Prop :=
  kr.length = ys.length ∧ ∀ (j : Nat) pr, kr[j]? = some pr → ∃ a t1, ys[j]? = some (.ref a) ∧ (a, tup2 (.int pr.1 t1) pr.2) ∈ tps

theorem TupRow.snoc {kr : List (Int × Value)} {ys : List Value} {tps : Led} (h : TupRow kr ys tps) (T : Addr) (c : Int) (t : Tok) (v : Value) :
    TupRow (kr ++ [(c, v)]) (ys ++ [.ref T]) ((T, tup2 (.int c t) v) :: tps) := by
  refine ⟨by simp [h.1], fun j pr hj => ?_⟩
  by_cases hlt : j < kr.length
  · rw [List.getElem?_append_left hlt] at hj
    obtain ⟨a, t1, h1, h2⟩ := h.2 j pr hj
    exact ⟨a, t1, by rw [List.getElem?_append_left (by have := h.1; omega)]; exact h1, .tail _ h2⟩
  · rw [List.getElem?_append_right (by omega)] at hj
    have h0 : j - kr.length = 0 := by
      have := (List.getElem?_eq_some_iff.mp hj).1
      simp at this; omega
    rw [h0] at hj
    obtain rfl : (c, v) = pr := by simpa using hj
    have hl := h.1
    refine ⟨T, t, ?_, .head _⟩
    rw [List.getElem?_append_right (by omega), show j - ys.length = 0 by omega]; rfl

theorem TupRow.pairs {kr : List (Int × Value)} {ys : List Value} {tps all : Led} {h₀ h : Heap} {L : Addr} (H : TupRow kr ys tps) (N : News h₀ L h all) (hs : ∀ q ∈ tps, q ∈ all) :
    ∀ (j : Nat) pr, kr[j]? = some pr → ∃ a, ys[j]? = some (.ref a) ∧ PairAt h a pr.1 pr.2 := fun j pr hj => by
  obtain ⟨a, t1, h1, h2⟩ := H.2 j pr hj
  exact ⟨a, h1, _, t1, _, (N _ (hs _ h2)).1, rfl, rfl⟩

theorem col_nodup {ns : List Int} (h : ns.Pairwise (· < ·)) : ns.Nodup := h.imp fun h => Int.ne_of_lt h
theorem col_rev_nodup {ns : List Int} (h : ns.Pairwise (· < ·)) : ns.reverse.Nodup := (List.reverse_perm ns).nodup_iff.mpr (col_nodup h)
end


section
open PyProof.Rows.LSm
noncomputable def ownU (own : Int → Int) (b n : Int) (l : List Int) : Int → Int := fun k => if (k - b) ∈ l then n else own k
noncomputable def vlU (vl : Int → Int) (b : Int) (M : List (Int × Int)) (l : List Int) : Int → Int := fun k => if (k - b) ∈ l then (M.lookup (k - b)).getD 0 else vl k

theorem none_of_isSome {o : Option Value} (h : ¬ o.isSome = true) : o = none := by cases o <;> simp_all

theorem turn_cells {kvs kvs' : List (Int × Value)} {tl' : Led} {own vl : Int → Int} {cc : List Int} {b n : Int} {M : List (Int × Int)} {i : Nat} {c : Int} (T : Addr) (t t2 : Tok)
    (hnd : cc.Nodup) (hc : cc[i]? = some c) (hfree : ∀ c ∈ cc, (valueAt kvs (b + c)).isSome = false)
    (hmem : ∀ k, (valueAt kvs' k).isSome = true ↔ (valueAt kvs k).isSome = true ∨ (k - b) ∈ cc.take i) (hcell : CellsOk kvs' tl' (ownU own b n (cc.take i)) (vlU vl b M (cc.take i))) :
    (∀ k, (valueAt (stored kvs' (b + c) (.ref T)) k).isSome = true ↔ (valueAt kvs k).isSome = true ∨ (k - b) ∈ cc.take (i + 1)) ∧
    CellsOk (stored kvs' (b + c) (.ref T)) ((T, tup2 (.int n t) (.int ((M.lookup c).getD 0) t2)) :: tl') (ownU own b n (cc.take (i + 1))) (vlU vl b M (cc.take (i + 1))) := by
  have hst : cc.take (i + 1) = cc.take i ++ [c] := by rw [List.take_add_one, hc]; rfl
  have hcm : c ∈ cc := List.mem_of_getElem? hc
  have hcn : c ∉ cc.take i := by
    have h1 : (cc.take (i + 1)).Nodup := hnd.sublist (List.take_sublist _ _)
    rw [hst] at h1
    intro h
    exact (List.nodup_append.mp h1).2.2 c h c (List.mem_singleton.mpr rfl) rfl
  have hno : valueAt kvs' (b + c) = none := by
    refine none_of_isSome fun h => ?_
    rcases (hmem _).mp h with h | h
    · rw [hfree c hcm] at h; cases h
    · rw [show b + c - b = c by omega] at h; exact hcn h
  have hkc : ∀ k, k - b = c ↔ k = b + c := fun k => ⟨fun h => by omega, fun h => by omega⟩
  refine ⟨fun k => ?_, fun k v hv => ?_⟩
  · rw [valueAt_stored hno, hst, List.mem_append, List.mem_singleton]
    by_cases h : k = b + c
    · rw [if_pos h]; simp [(hkc k).mpr h]
    · rw [if_neg h, hmem]
      have h2 : ¬ k - b = c := fun q => h ((hkc k).mp q)
      simp [h2]
  · rw [valueAt_stored hno] at hv
    unfold ownU vlU
    rw [hst]
    by_cases h : k = b + c
    · rw [if_pos h] at hv
      obtain rfl := (Option.some.inj hv).symm
      have e := (hkc k).mpr h
      refine ⟨T, t, t2, rfl, ?_⟩
      rw [e, if_pos (List.mem_append_right _ (List.mem_singleton.mpr rfl)), if_pos (List.mem_append_right _ (List.mem_singleton.mpr rfl))]
      exact .head _
    · rw [if_neg h] at hv
      have h2 : ¬ k - b = c := fun q => h ((hkc k).mp q)
      obtain ⟨a, t1, t2, rfl, hm⟩ := hcell k v hv
      refine ⟨a, t1, t2, rfl, .tail _ ?_⟩
      have e : (k - b ∈ cc.take i ++ [c]) ↔ (k - b ∈ cc.take i) := by simp [h2]
      unfold ownU vlU at hm
      simp only [e]
      exact hm

theorem cells_nil {kvs : List (Int × Value)} {tl : Led} {own vl : Int → Int} {b n : Int} {M : List (Int × Int)} (h : CellsOk kvs tl own vl) (cc : List Int) : CellsOk kvs tl (ownU own b n (cc.take 0)) (vlU vl b M (cc.take 0)) := by
  intro k v hv
  obtain ⟨a, t1, t2, e, hm⟩ := h k v hv
  exact ⟨a, t1, t2, e, by simpa [ownU, vlU] using hm⟩

theorem LeastFit.free {kvs : List (Int × Value)} {cc : List Int} {lo b : Int} (h : LeastFit (fun b => cc.all fun c => !(valueAt kvs (b + c)).isSome) lo b) : ∀ c ∈ cc, (valueAt kvs (b + c)).isSome = false := fun c hc => by
  have := List.all_eq_true.mp h.2.1 c hc
  simpa using this

noncomputable def LoopMapO (x : Str) (rest : List (Str × Value)) (m₀ m : Str → Option Value) : Prop := m = mpo rest m₀ ∨ ∃ v, m = mpo ((x, v) :: rest) m₀
theorem LoopMapO.fr {x : Str} {rest : List (Str × Value)} {m₀ m : Str → Option Value} {h₀ : Heap} {L : Addr} {h : Heap} {v : Value} (hm : LoopMapO x rest m₀ m) (F : Fr h₀ L h (fun y => if y = x then some v else m y)) : Fr h₀ L h (mpo ((x, v) :: rest) m₀) := by
  rcases hm with rfl | ⟨v', rfl⟩
  · exact F
  · exact fr_dup F
end


section
open PyProof.Rows.LSm
structure Tied (kvs : List (Int × Value)) (own vl : Int → Int) (S : Nat) (bases : List Int) (Ms : List (List (Int × Int))) : Prop where
  size : SizeOk kvs S
  len : bases.length = Ms.length
  owned : ∀ k, (valueAt kvs k).isSome = true → 0 ≤ own k ∧ own k < Ms.length
  row : ∀ (j : Nat), j < Ms.length → ∀ c x, (c, x) ∈ Ms.getD j [] ↔ (valueAt kvs (bases.getD j 0 + c)).isSome = true ∧ own (bases.getD j 0 + c) = j ∧ vl (bases.getD j 0 + c) = x
  nd : ∀ (j : Nat), j < Ms.length → ((Ms.getD j []).map (·.1)).Nodup

theorem Tied.nil {own vl : Int → Int} : Tied [] own vl 0 [] [] where
  size := ⟨fun k h => (by cases h), fun h => absurd rfl h, fun _ => rfl⟩
  len := rfl
  owned := fun k h => by cases h
  row := fun j h => by cases h
  nd := fun j h => by cases h

theorem mem_lookup : ∀ {M : List (Int × Int)}, (M.map (·.1)).Nodup → ∀ c x, (c, x) ∈ M ↔ c ∈ M.map (·.1) ∧ (M.lookup c).getD 0 = x
  | [], _, c, x => by simp
  | (a, y) :: r, nd, c, x => by
    have nd' := List.nodup_cons.mp nd
    have ih := mem_lookup nd'.2 c x
    rw [List.lookup_cons]
    by_cases h : c = a
    · subst h
      rw [beq_self_eq_true]
      constructor
      · intro hm
        rcases List.mem_cons.mp hm with e | hm
        · exact ⟨.head _, by have := (Prod.mk.inj e).2; simp [this]⟩
        · exact absurd (List.mem_map_of_mem (f := (·.1)) hm) nd'.1
      · rintro ⟨_, e⟩
        have e' : y = x := by simpa using e
        rw [e']; exact .head _
    · rw [beq_eq_false_iff_ne.mpr h]
      have h1 : (c, x) ≠ (a, y) := fun e => h (Prod.mk.inj e).1
      constructor
      · intro hm
        rcases List.mem_cons.mp hm with e | hm
        · exact absurd e h1
        · exact ⟨.tail _ (ih.mp hm).1, (ih.mp hm).2⟩
      · rintro ⟨hm, e⟩
        rcases List.mem_cons.mp hm with e2 | hm
        · exact absurd e2 h
        · exact .tail _ (ih.mpr ⟨hm, e⟩)

theorem getD_snoc_lt {α : Type} {l : List α} {a d : α} {j : Nat} (h : j < l.length) : (l ++ [a]).getD j d = l.getD j d := by
  rw [List.getD_eq_getElem?_getD, List.getElem?_append_left h, ← List.getD_eq_getElem?_getD]
theorem getD_snoc_eq {α : Type} {l : List α} {a d : α} : (l ++ [a]).getD l.length d = a := by
  rw [List.getD_eq_getElem?_getD, List.getElem?_append_right (Nat.le_refl _), Nat.sub_self]; rfl

theorem Tied.step {kvs kvs' : List (Int × Value)} {own vl : Int → Int} {S : Nat} {bases : List Int} {Ms : List (List (Int × Int))} {cc : List Int} {M : List (Int × Int)} {b : Int}
    (H : Tied kvs own vl S bases Ms) (hcol : ColOk cc) (hM : (M.map (·.1)).Perm cc) (hb : ∀ c ∈ cc, 0 ≤ b + c) (hfree : ∀ c ∈ cc, (valueAt kvs (b + c)).isSome = false)
    (hmem : ∀ k, (valueAt kvs' k).isSome = true ↔ (valueAt kvs k).isSome = true ∨ (k - b) ∈ cc) :
    Tied kvs' (ownU own b Ms.length cc) (vlU vl b M cc) (max S (b + cc.getLastD 0 + 1).toNat) (bases ++ [b]) (Ms ++ [M]) where
  size := size_step H.size (fun c hc => ⟨hb c hc, asc_last hcol.2.1 c hc⟩) (last_mem hcol.1) hmem
  len := by rw [List.length_append, List.length_append, H.len]; rfl
  owned := fun k hk => by
    rw [List.length_append, List.length_singleton]
    unfold ownU
    by_cases h : (k - b) ∈ cc
    · rw [if_pos h]; omega
    · rw [if_neg h]
      rcases (hmem k).mp hk with h' | h'
      · have := H.owned k h'; omega
      · exact absurd h' h
  nd := fun j hj => by
    rw [List.length_append, List.length_singleton] at hj
    by_cases h : j < Ms.length
    · rw [getD_snoc_lt h]; exact H.nd j h
    · obtain rfl : j = Ms.length := by omega
      rw [getD_snoc_eq]; exact hM.nodup_iff.mpr (col_nodup hcol.2.1)
  row := fun j hj c x => by
    rw [List.length_append, List.length_singleton] at hj
    have hndM : (M.map (·.1)).Nodup := hM.nodup_iff.mpr (col_nodup hcol.2.1)
    by_cases h : j < Ms.length
    · rw [getD_snoc_lt h, getD_snoc_lt (by rw [H.len]; exact h), H.row j h c x, hmem]
      unfold ownU vlU
      by_cases hc : (bases.getD j 0 + c - b) ∈ cc
      · rw [if_pos hc]
        have := hfree _ hc
        rw [show b + (bases.getD j 0 + c - b) = bases.getD j 0 + c by omega] at this
        rw [this]
        constructor
        · rintro ⟨h1, _⟩; cases h1
        · rintro ⟨_, h1, _⟩; omega
      · rw [if_neg hc, if_neg hc]
        simp only [hc, or_false]
    · obtain rfl : j = Ms.length := by omega
      have e : bases.length = Ms.length := H.len
      rw [getD_snoc_eq, ← e, getD_snoc_eq, mem_lookup hndM, hmem, hM.mem_iff]
      unfold ownU vlU
      rw [show b + c - b = c by omega]
      by_cases hc : c ∈ cc
      · rw [if_pos hc, if_pos hc]
        simp only [hc, true_and, or_true]
      · rw [if_neg hc]
        simp only [hc, false_and, or_false]
        constructor
        · exact False.elim
        · rintro ⟨h1, h2, _⟩
          have := H.owned _ h1
          omega

theorem nd_out {all : Led} (nd : ND all) (is : List Nat) (n : Nat) {a b : Led} {x : Addr × Obj} (hd : all.drop n = a ++ x :: b) (hn : ∀ i ∈ is, i < n) : ∀ z ∈ pk all is ++ (a ++ b), @Ne Nat z.1 x.1 := fun z hz => by
  rcases List.mem_append.mp hz with hz | hz
  · obtain ⟨i, hi, h⟩ := pk_at z hz
    exact nth_drop nd (hn i hi) z h x (by rw [hd]; exact List.mem_append_right _ (.head _))
  · have h1 : ND (a ++ x :: b) := hd ▸ List.Sublist.nodup ((List.drop_sublist n all).map _) nd
    have h2 : ((a.map (·.1)) ++ (x.1 :: b.map (·.1))).Nodup := by rw [← List.map_cons, ← List.map_append]; exact h1
    have h3 := List.nodup_append.mp h2
    rcases List.mem_append.mp hz with hz | hz
    · exact h3.2.2 z.1 (List.mem_map_of_mem (f := (·.1)) hz) x.1 (.head _)
    · exact fun e => (List.nodup_cons.mp h3.2.1).1 (by
        have := List.mem_map_of_mem (f := (·.1)) hz
        rw [show x.1 = z.1 from e.symm]; exact this)

noncomputable def RowsIn (prog : Program) (w : World) (rv : List Value) (tl : Led) (Ms : List (List (Int × Int))) : Prop :=
  rv.length = Ms.length ∧ ∀ (j : Nat), j < Ms.length → ∃ a o kr, rv[j]? = some (.ref a) ∧ (a, o) ∈ tl ∧ o.IsDictOf (intKind prog w) kr ∧ RowIs kr (Ms.getD j []) ∧ (a == sysModules) = false

theorem RowsIn.mono {prog : Program} {w : World} {rv : List Value} {tl tl' : Led} {Ms : List (List (Int × Int))} (H : RowsIn prog w rv tl Ms) (h : ∀ q ∈ tl, q ∈ tl') : RowsIn prog w rv tl' Ms :=
  ⟨H.1, fun j hj => by
    obtain ⟨a, o, kr, h1, h2, h3⟩ := H.2 j hj
    exact ⟨a, o, kr, h1, h _ h2, h3⟩⟩
theorem RowsIn.snoc {prog : Program} {w : World} {rv : List Value} {tl : Led} {Ms : List (List (Int × Int))} (H : RowsIn prog w rv tl Ms) {r : Addr} {ro : Obj} {kr : List (Int × Value)} {M : List (Int × Int)} (hr : (r, ro) ∈ tl) (hro : ro.IsDictOf (intKind prog w) kr) (hkr : RowIs kr M) (lo : (r == sysModules) = false) :
    RowsIn prog w (rv ++ [.ref r]) tl (Ms ++ [M]) :=
  ⟨by rw [List.length_append, List.length_append, H.1]; rfl, fun j hj => by
    rw [List.length_append, List.length_singleton] at hj
    by_cases h : j < Ms.length
    · obtain ⟨a, o, kr, h1, h2, h3⟩ := H.2 j h
      exact ⟨a, o, kr, by rw [List.getElem?_append_left (by rw [H.1]; exact h)]; exact h1, h2, by rw [getD_snoc_lt h]; exact h3⟩
    · obtain rfl : j = Ms.length := by omega
      refine ⟨r, ro, kr, by rw [List.getElem?_append_right (by rw [H.1]; exact Nat.le_refl _), H.1, Nat.sub_self]; rfl, hr, hro, by rw [getD_snoc_eq]; exact hkr, lo⟩⟩

theorem CellsOk.mono {kvs : List (Int × Value)} {tl tl' : Led} {own vl : Int → Int} (H : CellsOk kvs tl own vl) (h : ∀ q ∈ tl, q ∈ tl') : CellsOk kvs tl' own vl := fun k v hv => by
  obtain ⟨a, t1, t2, e, hm⟩ := H k v hv
  exact ⟨a, t1, t2, e, h _ hm⟩

theorem mpo_swap {k j : Str} {u v : Value} {m₀ : Str → Option Value} (h : k ≠ j) : mpo [(k, u), (j, v)] m₀ = mpo [(j, v)] (mpo [(k, u)] m₀) := funext fun y => by
  by_cases h1 : y = k
  · subst h1
    show (if y = y then some u else _) = if y = j then some v else if y = y then some u else m₀ y
    rw [if_pos rfl, if_neg h, if_pos rfl]
  · show (if y = k then some u else if y = j then some v else m₀ y) = if y = j then some v else if y = k then some u else m₀ y
    rw [if_neg h1, if_neg h1]
theorem LoopMapO.top {x k : Str} {v : Value} {rest : List (Str × Value)} {m₀ m : Str → Option Value} (h : x ≠ k) (hm : LoopMapO x ((k, v) :: rest) m₀ m) : ∃ m₁, m = mpo [(k, v)] m₁ := by
  rcases hm with rfl | ⟨u, rfl⟩
  · exact ⟨mpo rest m₀, rfl⟩
  · refine ⟨mpo ((x, u) :: rest) m₀, funext fun y => ?_⟩
    by_cases h1 : y = x
    · subst h1
      show (if y = y then some u else _) = if y = k then some v else if y = y then some u else _
      rw [if_pos rfl, if_neg h, if_pos rfl]
    · show (if y = x then some u else if y = k then some v else mpo rest m₀ y) = if y = k then some v else if y = x then some u else mpo rest m₀ y
      rw [if_neg h1, if_neg h1]
end


section
open PyProof.Rows.LSm
theorem unp_mem {tbl chk : List Int} {b : Int} {j n : Nat} {c x : Int} : (c, x) ∈ unp tbl chk b j n ↔ ∃ i : Nat, i < n ∧ chk.getD i 0 = (j : Int) + 1 ∧ c = (i : Int) - b ∧ x = tbl.getD i 0 := by
  unfold unp
  rw [List.mem_filterMap]
  constructor
  · rintro ⟨i, hi, h⟩
    by_cases q : chk.getD i 0 = (j : Int) + 1
    · rw [if_pos q] at h
      have h := Option.some.inj h
      exact ⟨i, List.mem_range.mp hi, q, (Prod.mk.inj h).1.symm, (Prod.mk.inj h).2.symm⟩
    · rw [if_neg q] at h; cases h
  · rintro ⟨i, hi, q, rfl, rfl⟩
    exact ⟨i, List.mem_range.mpr hi, by rw [if_pos q]⟩

theorem unp_asc (tbl chk : List Int) (b : Int) (j n : Nat) : (unp tbl chk b j n).Pairwise (fun p q => p.1 < q.1) := by
  unfold unp
  rw [List.pairwise_filterMap]
  refine List.pairwise_lt_range.imp fun {i k} hik p hp q hq => ?_
  have one : ∀ {i : Nat} {p : Int × Int}, (if chk.getD i 0 = (j : Int) + 1 then some ((i : Int) - b, tbl.getD i 0) else none) = some p → p.1 = (i : Int) - b := by
    intro i p h
    by_cases q : chk.getD i 0 = (j : Int) + 1
    · rw [if_pos q] at h; rw [← Option.some.inj h]
    · rw [if_neg q] at h; cases h
  rw [one hp, one hq]
  omega

theorem nodup_of_keys {M : List (Int × Int)} (h : (M.map (·.1)).Nodup) : M.Nodup := by
  induction M with
  | nil => exact List.nodup_nil
  | cons a r ih =>
    have h' := List.nodup_cons.mp h
    exact List.nodup_cons.mpr ⟨fun hm => h'.1 (List.mem_map_of_mem (f := (·.1)) hm), ih h'.2⟩

section
variable {kvs : List (Int × Value)} {own vl : Int → Int} {S : Nat} {bases : List Int} {Ms : List (List (Int × Int))}

theorem Tied.unp_iff (H : Tied kvs own vl S bases Ms) {j : Nat} (hj : j < Ms.length) (c x : Int) :
    (c, x) ∈ unp (tabOf kvs vl S) (tabOf kvs (fun c => own c + 1) S) (bases.getD j 0) j S ↔ (c, x) ∈ Ms.getD j [] := by
  rw [unp_mem, H.row j hj]
  constructor
  · rintro ⟨i, hi, q, rfl, rfl⟩
    rw [tabOf_getD _ _ _ _ hi] at q ⊢
    by_cases h : (valueAt kvs i).isSome = true
    · rw [if_pos h] at q ⊢
      rw [show bases.getD j 0 + ((i : Int) - bases.getD j 0) = i by omega]
      exact ⟨h, by omega, rfl⟩
    · rw [if_neg h] at q; omega
  · rintro ⟨h, h1, h2⟩
    have hb := H.size.lo _ h
    have e : ((bases.getD j 0 + c).toNat : Int) = bases.getD j 0 + c := by omega
    refine ⟨(bases.getD j 0 + c).toNat, by omega, ?_, by omega, ?_⟩
    · rw [tabOf_getD _ _ _ _ (by omega), e, if_pos h]; omega
    · rw [tabOf_getD _ _ _ _ (by omega), e, if_pos h]; exact h2.symm

theorem Tied.unp_len (H : Tied kvs own vl S bases Ms) {j : Nat} (hj : j < Ms.length) :
    (unp (tabOf kvs vl S) (tabOf kvs (fun c => own c + 1) S) (bases.getD j 0) j S).length = (Ms.getD j []).length := by
  have h1 : (unp (tabOf kvs vl S) (tabOf kvs (fun c => own c + 1) S) (bases.getD j 0) j S).Nodup := (unp_asc _ _ _ _ _).imp fun h e => by rw [e] at h; exact Int.lt_irrefl _ h
  exact ((List.perm_ext_iff_of_nodup h1 (nodup_of_keys (H.nd j hj))).mpr fun p => H.unp_iff hj p.1 p.2).length_eq

theorem Tied.unp_hits (H : Tied kvs own vl S bases Ms) {j : Nat} (hj : j < Ms.length) :
    ∀ p ∈ unp (tabOf kvs vl S) (tabOf kvs (fun c => own c + 1) S) (bases.getD j 0) j S, p.1 ∈ (Ms.getD j []).map (·.1) ∧ ((Ms.getD j []).lookup p.1).getD 0 = p.2 := fun p hp =>
  (mem_lookup (H.nd j hj) p.1 p.2).mp ((H.unp_iff hj p.1 p.2).mp hp)

theorem lookup_none : ∀ {M : List (Int × Int)} {c : Int}, c ∉ M.map (·.1) → M.lookup c = none
  | [], _, _ => rfl
  | (a, y) :: r, c, h => by
    have h1 : c ≠ a := fun e => h (by simp [e])
    rw [List.lookup_cons, beq_eq_false_iff_ne.mpr h1]
    exact lookup_none fun q => h (.tail _ q)
theorem lookup_some {M : List (Int × Int)} (nd : (M.map (·.1)).Nodup) {c x : Int} (h : (c, x) ∈ M) : M.lookup c = some x := by
  induction M with
  | nil => cases h
  | cons a r ih =>
    obtain ⟨a, y⟩ := a
    have nd' := List.nodup_cons.mp nd
    rw [List.lookup_cons]
    rcases List.mem_cons.mp h with e | h
    · obtain ⟨rfl, rfl⟩ := Prod.mk.inj e
      rw [beq_self_eq_true]
    · have : c ≠ a := fun e => nd'.1 (by rw [← e]; exact List.mem_map_of_mem (f := (·.1)) h)
      rw [beq_eq_false_iff_ne.mpr this]
      exact ih nd'.2 h

theorem Tied.look (H : Tied kvs own vl S bases Ms) {j : Nat} (hj : j < Ms.length) {c : Int} {v : Value}
    (h : LookIs (tabOf kvs vl S) (tabOf kvs (fun c => own c + 1) S) (bases.getD j 0 + c) j v) : OptIs ((Ms.getD j []).lookup c) v := by
  unfold LookIs at h
  rw [tabOf_length] at h
  split at h
  · rename_i hc
    obtain ⟨h0, h1, h2⟩ := hc
    obtain ⟨t, rfl⟩ := h
    have hlt : (bases.getD j 0 + c).toNat < S := by omega
    have e : ((bases.getD j 0 + c).toNat : Int) = bases.getD j 0 + c := by omega
    rw [tabOf_getD _ _ _ _ hlt, e] at h2
    by_cases hs : (valueAt kvs (bases.getD j 0 + c)).isSome = true
    · rw [if_pos hs] at h2
      have hm : (c, vl (bases.getD j 0 + c)) ∈ Ms.getD j [] := (H.row j hj c _).mpr ⟨hs, by omega, rfl⟩
      rw [lookup_some (H.nd j hj) hm, tabOf_getD _ _ _ _ hlt, e, if_pos hs]
      exact ⟨t, rfl⟩
    · rw [if_neg hs] at h2; omega
  · rename_i hc
    rw [lookup_none]
    · exact h
    · intro hm
      obtain ⟨p, hp, rfl⟩ := List.mem_map.mp hm
      have := (H.row j hj p.1 p.2).mp hp
      have hb := H.size.lo _ this.1
      refine hc ⟨hb.1, hb.2, ?_⟩
      have e : ((bases.getD j 0 + p.1).toNat : Int) = bases.getD j 0 + p.1 := by omega
      rw [tabOf_getD _ _ _ _ (by omega), e, if_pos this.1]
      omega

theorem RowIs.get {kr : List (Int × Value)} {M : List (Int × Int)} (h : RowIs kr M) : ∀ c, OptIs (M.lookup c) ((valueAt kr c).getD .none) := by
  induction h with
  | nil => exact fun _ => rfl
  | cons a y t h ih =>
    intro c
    rw [List.lookup_cons]
    by_cases e : c = a
    · subst e
      rw [beq_self_eq_true]
      exact ⟨t, by simp [valueAt]⟩
    · have e2 : ¬ a = c := fun q => e q.symm
      have := ih c
      rw [beq_eq_false_iff_ne.mpr e]
      simp only [valueAt, List.find?_cons, decide_eq_false e2] at this ⊢
      exact this

theorem filter_range_len {kvs : List (Int × Value)} (nd : (kvs.map (·.1)).Nodup) {S : Nat} (hlo : ∀ k, (valueAt kvs k).isSome = true → 0 ≤ k ∧ k < S) :
    ((List.range S).filter fun (i : Nat) => (valueAt kvs i).isSome).length = kvs.length := by
  have h1 : (((List.range S).filter fun (i : Nat) => (valueAt kvs i).isSome).map fun (i : Nat) => (i : Int)).Perm (kvs.map (·.1)) := by
    refine (List.perm_ext_iff_of_nodup ?_ nd).mpr fun k => ?_
    · refine List.Pairwise.map (R := (· < ·)) _ (fun a b h => ?_) (List.Pairwise.filter _ List.pairwise_lt_range)
      show (a : Int) ≠ b
      omega
    · rw [← isSome_valueAt, List.mem_map]
      constructor
      · rintro ⟨i, hi, rfl⟩
        exact (List.mem_filter.mp hi).2
      · intro h
        have := hlo k h
        have e : ((k.toNat : Nat) : Int) = k := by omega
        exact ⟨k.toNat, List.mem_filter.mpr ⟨List.mem_range.mpr (by omega), by rw [e]; exact h⟩, e⟩
  have := h1.length_eq
  rw [List.length_map, List.length_map] at this
  exact this

theorem gaps_len (H : Tied kvs own vl S bases Ms) (nd : (kvs.map (·.1)).Nodup) : ((tabOf kvs (fun c => own c + 1) S).filter (· == 0)).length + kvs.length = S := by
  have e : ((tabOf kvs (fun c => own c + 1) S).filter (· == 0)).length = ((List.range S).filter fun (i : Nat) => !(valueAt kvs i).isSome).length := by
    unfold tabOf
    rw [List.filter_map, List.length_map]
    congr 1
    refine List.filter_congr fun i _ => ?_
    show ((if (valueAt kvs (i : Int)).isSome = true then own i + 1 else 0) == 0) = _
    by_cases h : (valueAt kvs (i : Int)).isSome = true
    · have := H.owned _ h
      rw [if_pos h, h]
      exact beq_eq_false_iff_ne.mpr (by omega)
    · rw [if_neg h, Bool.not_eq_true _ |>.mp h]; rfl
  have h2 := filter_range_len nd H.size.lo
  have h3 : ∀ (f : Nat → Bool) (l : List Nat), (l.filter fun i => !f i).length + (l.filter f).length = l.length := by
    intro f l
    induction l with
    | nil => rfl
    | cons a r ih =>
      cases h : f a <;> simp only [List.filter_cons, h, Bool.not_true, Bool.not_false, if_true, if_false, Bool.false_eq_true, List.length_cons] <;> omega
  have := h3 (fun (i : Nat) => (valueAt kvs i).isSome) (List.range S)
  rw [List.length_range] at this
  omega

theorem Tied.chk_own (H : Tied kvs own vl S bases Ms) : ∀ i < (tabOf kvs (fun c => own c + 1) S).length, (tabOf kvs (fun c => own c + 1) S).getD i 0 = 0 ∨ (1 ≤ (tabOf kvs (fun c => own c + 1) S).getD i 0 ∧ (tabOf kvs (fun c => own c + 1) S).getD i 0 ≤ Ms.length) := fun i hi => by
  rw [tabOf_length] at hi
  rw [tabOf_getD _ _ _ _ hi]
  by_cases h : (valueAt kvs (i : Int)).isSome = true
  · have := H.owned _ h
    rw [if_pos h]; omega
  · rw [if_neg h]; exact .inl rfl
end
end


section
open PyProof.Rows.LSm PySem.SeqAt
theorem all_cover {all : Led} {is js : List Nat} {n : Nat} (cov : ∀ i, i < n → i ∈ is ∨ i ∈ js) : ∀ z ∈ all, z ∈ pk all is ∨ z ∈ pk all js ++ all.drop n := fun z hz => by
  have key : ∀ (all : Led) (n : Nat), z ∈ all → (∃ i, i < n ∧ z ∈ nth all i) ∨ z ∈ all.drop n := by
    intro all
    induction all with
    | nil => intro n h; cases h
    | cons a r ih =>
      intro n h
      cases n with
      | zero => exact .inr h
      | succ n =>
        rcases List.mem_cons.mp h with rfl | h
        · exact .inl ⟨0, Nat.succ_pos _, .head _⟩
        · rcases ih n h with ⟨i, hi, h⟩ | h
          · exact .inl ⟨i + 1, Nat.succ_lt_succ hi, h⟩
          · exact .inr h
  rcases key all n hz with ⟨i, hi, h⟩ | h
  · rcases cov i hi with c | c
    · exact .inl (mem_pk c z h)
    · exact .inr (List.mem_append_left _ (mem_pk c z h))
  · exact .inr (List.mem_append_right _ h)

theorem news_back {h₀ h : Heap} {L : Addr} {all news' : Led} {is js : List Nat} {n : Nat} (N : News h₀ L h (news' ++ (pk all js ++ all.drop n))) (hs : ∀ z ∈ pk all is, z ∈ news') (cov : ∀ i, i < n → i ∈ is ∨ i ∈ js) : News h₀ L h all := fun z hz => by
  rcases all_cover cov z hz with h | h
  · exact N z (List.mem_append_left _ (hs z h))
  · exact N z (List.mem_append_right _ h)

theorem helds_eq {prog : Program} {w : World} {A : Around} {s : Shared} {h₀ : Heap} {L : Addr} {all led tl : Led} {vs rv : List Value} {Us Ms : List (List (Int × Int))} (N : News h₀ L s.heap all) (H : Helds prog w vs led Us) (R : RowsIn prog w rv tl Ms)
    (hled : ∀ z ∈ led, z ∈ all) (htl : ∀ z ∈ tl, z ∈ all) (hlen : Us.length = Ms.length) (hl : ∀ j, j < Ms.length → (Us.getD j []).length = (Ms.getD j []).length)
    (hh : ∀ j, j < Ms.length → ∀ p ∈ Us.getD j [], p.1 ∈ (Ms.getD j []).map (·.1) ∧ ((Ms.getD j []).lookup p.1).getD 0 = p.2) (hu : A.units < cLine) :
    ∀ (j : Nat) v u, vs[j]? = some v → rv[j]? = some u → EqAt A s v u true := fun j v u hv hu' => by
  have hj : j < Ms.length := by
    have := (List.getElem?_eq_some_iff.mp hu').1
    rw [R.1] at this; exact this
  obtain ⟨a, o, kv, pre, post, h1, rfl, hd, hr, lo, _⟩ := H.at j (by omega)
  obtain ⟨b, o', kr, g1, g2, g3, g4, g5⟩ := R.2 j hj
  rw [h1] at hv
  rw [g1] at hu'
  obtain rfl := Option.some.inj hv
  obtain rfl := Option.some.inj hu'
  by_cases e : a = b
  · subst e; exact EqAt.same _
  · exact EqAt.of_refs e (rc_dicts (N _ (hled _ (List.mem_append_right _ (.head _)))).1 (N _ (htl _ g2)).1 hd g3 lo g5 (by rw [hr.length, g4.length]; exact hl j hj) hu (hits_rows g4 hr (hh j hj)))
end


local macro_rules | `(tactic| walk_at "storeName") => `(tactic| (refine' storeX_C ?F ?N ?c ?U ?d ?_; (case F => k_asm); (case N => k_asm); (case c => rfl); (case U => first | exact updF_at (by assumption) 10 rfl | exact updF_at (by assumption) 11 rfl | exact updF_at (by assumption) 9 rfl); (case d => assumption); intro h' o' F' N' hd'; (try dsimp only [List.set] at N')))
local macro_rules | `(tactic| k_mem) => `(tactic| first | exact mem_nth 0 rfl | exact mem_nth 1 rfl | exact mem_nth 2 rfl | exact mem_nth 3 rfl | exact mem_nth 4 rfl | exact mem_nth 5 rfl | exact mem_nth 6 rfl | exact mem_nth 7 rfl | exact mem_nth 8 rfl | exact mem_nth 9 rfl | exact mem_nth 10 rfl | exact mem_nth 11 rfl | exact mem_nth 12 rfl | exact mem_nth 13 rfl | exact mem_nth 14 rfl | exact mem_nth 15 rfl | exact mem_nth 16 rfl | exact mem_nth 17 rfl | exact mem_nth 18 rfl | exact mem_nth 19 rfl | exact mem_nth 20 rfl | exact mem_nth 21 rfl | exact mem_nth 22 rfl | exact mem_nth 23 rfl | exact mem_nth 24 rfl | exact mem_nth 25 rfl)
local macro_rules | `(tactic| k_memK) => `(tactic| k_mem)
section
open PyProof.Rows.LSm
set_option maxRecDepth 100000 in
set_option maxHeartbeats 4000000 in
theorem segA {prog : Program} {w : World} {mean : ExcName → Option Value} {mg mb : Str → Option Value} {dp un : Nat} {gd : Option (List Code)} {outer : List Env} {A : Around} {base g : Heap} {L fa : Addr} {cdv : Value} {s : Shared} {h₁ : Heap} {tk : Nat} {m : Str → Option Value} {Q : Flow → Shared → Prop}
  {x dx tb ck d rw bs p q : Addr} {h1 h2 : Int} {t1 t2 : Tok} {nt nc nr nb : Nat} {ts cs rv bv : List Value} {od po qo o8 o7 o6 o5 o4 o3 o2 o1 : Obj} {tl : Led} {k : Nat}
  (B : Below A base outer g) (X : (hd.heap_39 w.params).In g) (T : Top hd.view_39 (looseW hd.view_39 []) mean mg mb g) (hdp : dp + 12 < recursionLimit) (hun : un + 8 * 12 + 200 < cLine) (F : Fr g L h₁ m) (N : News g L h₁ (led17 L x dx tb ck d rw bs p q h1 h2 t1 t2 qo o5 o4 o3 o2 o1 o8 rv nr bv nb ts nt cs nc od o6 o7 po tl)) (nd : ND (led17 L x dx tb ck d rw bs p q h1 h2 t1 t2 qo o5 o4 o3 o2 o1 o8 rv nr bv nb ts nt cs nc od o6 o7 po tl))
  (c1 : o1.data = .cell (some (.ref p))) (hp : PenOk k q po) (hq : InnerOk qo) (hk : k < 800) :
  wpAny (model prog w) (lawA dp un gd L fa cdv outer lawScope) (execs (turnBody.take 2) (lawE L fa cdv lawScope))
    (Mid g L s (fun m' nw => ∃ (la lc : Addr) (va vc : List Value) (na nl : Nat) (as cc : List Int) (po' : Obj), m' = mpo [(Str.ofString "asked", .ref la), (Str.ofString "columns", .ref lc)] m ∧
      nw = led17 L x dx tb ck d rw bs p q h1 h2 t1 t2 qo o5 o4 o3 o2 o1 o8 rv nr bv nb ts nt cs nc od o6 o7 po' ((la, listOf va.toArray na) :: (lc, listOf vc.toArray nl) :: tl) ∧ ND nw ∧ IntsAre va as ∧ IntsAre vc cc ∧ ColOk as ∧ ColOk cc ∧ PenOk (k + 22) q po') Q) (fun _ _ => False) { s with heap := h₁, toks := tk } := by
  have hpq : @Ne Nat p q := nd_ne nd 7 8 rfl rfl (by decide)
  ((refine as_two (fun l => wpAny _ _ (execs l _) _ _ _) rfl ?_; refine as_scope (fun sc => wpAny _ (lawA _ _ _ _ _ _ _ sc) (execs _ (lawE _ _ _ sc)) _ _ _) rfl ?_))
  refine execs_cut (g := g) (L := L) 1 (fun m' nw => ∃ (lc : Addr) (vc : List Value) (nl : Nat) (cc : List Int) (po' : Obj), m' = mpo [(Str.ofString "columns", .ref lc)] m ∧
      nw = led17 L x dx tb ck d rw bs p q h1 h2 t1 t2 qo o5 o4 o3 o2 o1 o8 rv nr bv nb ts nt cs nc od o6 o7 po' ((lc, listOf vc.toArray nl) :: tl) ∧ ND nw ∧ IntsAre vc cc ∧ ColOk cc ∧ PenOk (k + 11) q po') ?_ ?_
  · dsimp only [List.take]
    (((try k_fold); iterate 9 ((first | (k_unfold; (try dsimp only)) | (k_end; wrow_close) | walk1 | (dsimp only; walk1) | (dsimp only; k_unfold; (try dsimp only)) | (leave1; walk_say "STEP leave1"; try dsimp only)))))
    refine Spec.useI (columns_ok (k := k) hp hq (by omega) hpq) B (by assumption) X (by assumption) T nd [7, 8] [0, 1, 2, 3, 4, 5, 6, 9, 10, 11, 12, 13, 14, 15, 16] 17 rfl (up_dp hdp (by decide)) (up_un hun (by decide)) rfl (by decide) ?_
    intro v news' h' tk' hPat4 F₂ N₂ ap₂
    refine goal_gen ?_; intro GG hGG
    refine ex5 (hPat4) ?_; clear hPat4; intro l vs ns n po' hZz; refine an7 (hZz) ?_; clear hZz; intro hE5 hE6 hvs hcol hpen' hlp hlq; subst hE5; subst hE6
    refine hGG ?_; clear hGG GG
    have nd2 : ND ((l, listOf vs.toArray n) :: led17 L x dx tb ck d rw bs p q h1 h2 t1 t2 qo o5 o4 o3 o2 o1 o8 rv nr bv nb ts nt cs nc od o6 o7 po' tl) := nd_cons (pk_fresh (all := led17 L x dx tb ck d rw bs p q h1 h2 t1 t2 qo o5 o4 o3 o2 o1 o8 rv nr bv nb ts nt cs nc od o6 o7 po' tl) (is := [7, 8]) (js := [0, 1, 2, 3, 4, 5, 6, 9, 10, 11, 12, 13, 14, 15, 16]) (n := 17) (by decide) (List.forall_mem_cons.mpr ⟨hlp, List.forall_mem_cons.mpr ⟨hlq, List.forall_mem_nil _⟩⟩) (ap₂ (l, listOf vs.toArray n) (.head _))) nd
    have N3 : News g L h' (led17 L x dx tb ck d rw bs p q h1 h2 t1 t2 qo o5 o4 o3 o2 o1 o8 rv nr bv nb ts nt cs nc od o6 o7 po' ((l, listOf vs.toArray n) :: tl)) := news_pk N₂ [3, 4, 5, 6, 7, 8, 9, 1, 2, 10, 11, 12, 13, 14, 15, 16, 17, 0] 18
    clear N₂ N F ap₂
    (((try k_fold); repeat' ((first | (k_unfold; (try dsimp only)) | (k_end; wrow_close) | walk1 | (dsimp only; walk1) | (dsimp only; k_unfold; (try dsimp only)) | (leave1; walk_say "STEP leave1"; try dsimp only)))))
    (with_reducible rename Fr _ _ _ _ => F'); (with_reducible rename News _ _ _ _ => N')
    exact Mid.intro F' N' ⟨l, vs, n, ns, po', rfl, rfl, nd_pk nd2 [1, 2, 3, 4, 5, 6, 7, 8, 9, 10, 11, 12, 13, 14, 15, 16, 17, 0] 18 (by decide) (by decide), hvs, hcol, hpen'⟩ (fun _ h => h)
  · intro h' tk' m' news' F₂ N₂ hPat6
    refine goal_gen ?_; intro GG hGG
    refine ex5 (hPat6) ?_; clear hPat6; intro lc vc nl cc po' hZz; refine an6 (hZz) ?_; clear hZz; intro hE5 hE6 nd2 hvc hcc hpen'; subst hE5; subst hE6
    refine hGG ?_; clear hGG GG
    clear F N
    dsimp only [List.drop]
    (((try k_fold); iterate 9 ((first | (k_unfold; (try dsimp only)) | (k_end; wrow_close) | walk1 | (dsimp only; walk1) | (dsimp only; k_unfold; (try dsimp only)) | (leave1; walk_say "STEP leave1"; try dsimp only)))))
    refine Spec.useI (columns_ok (k := k + 11) hpen' hq (by omega) hpq) B (by assumption) X (by assumption) T nd2 [7, 8] [0, 1, 2, 3, 4, 5, 6, 9, 10, 11, 12, 13, 14, 15, 16, 17] 18 rfl (up_dp hdp (by decide)) (up_un hun (by decide)) rfl (by decide) ?_
    intro v news' h' tk' hPat4 F₃ N₃ ap₂
    refine goal_gen ?_; intro GG hGG
    refine ex5 (hPat4) ?_; clear hPat4; intro l vs ns n po2 hZz; refine an7 (hZz) ?_; clear hZz; intro hE5 hE6 hvs hcol hpen2 hlp hlq; subst hE5; subst hE6
    refine hGG ?_; clear hGG GG
    have nd3 : ND ((l, listOf vs.toArray n) :: led17 L x dx tb ck d rw bs p q h1 h2 t1 t2 qo o5 o4 o3 o2 o1 o8 rv nr bv nb ts nt cs nc od o6 o7 po2 ((lc, listOf vc.toArray nl) :: tl)) := nd_cons (pk_fresh (all := led17 L x dx tb ck d rw bs p q h1 h2 t1 t2 qo o5 o4 o3 o2 o1 o8 rv nr bv nb ts nt cs nc od o6 o7 po2 ((lc, listOf vc.toArray nl) :: tl)) (is := [7, 8]) (js := [0, 1, 2, 3, 4, 5, 6, 9, 10, 11, 12, 13, 14, 15, 16, 17]) (n := 18) (by decide) (List.forall_mem_cons.mpr ⟨hlp, List.forall_mem_cons.mpr ⟨hlq, List.forall_mem_nil _⟩⟩) (ap₂ (l, listOf vs.toArray n) (.head _))) nd2
    have N3 : News g L h' (led17 L x dx tb ck d rw bs p q h1 h2 t1 t2 qo o5 o4 o3 o2 o1 o8 rv nr bv nb ts nt cs nc od o6 o7 po2 ((l, listOf vs.toArray n) :: (lc, listOf vc.toArray nl) :: tl)) := news_pk N₃ [3, 4, 5, 6, 7, 8, 9, 1, 2, 10, 11, 12, 13, 14, 15, 16, 17, 0, 18] 19
    clear N₂ N₃ F₂ ap₂
    (((try k_fold); repeat' ((first | (k_unfold; (try dsimp only)) | (k_end; wrow_close) | walk1 | (dsimp only; walk1) | (dsimp only; k_unfold; (try dsimp only)) | (leave1; walk_say "STEP leave1"; try dsimp only)))))
    (with_reducible rename Fr _ _ _ _ => F'); (with_reducible rename News _ _ _ _ => N')
    exact Mid.intro F' N' ⟨l, lc, vs, vc, n, nl, ns, cc, po2, rfl, rfl, nd_pk nd3 [1, 2, 3, 4, 5, 6, 7, 8, 9, 10, 11, 12, 13, 14, 15, 16, 17, 0, 18] 19 (by decide) (by decide), hvs, hvc, hcol, hcc, hpen2⟩ (fun _ h => h)
end


section
open PyProof.Rows.LSm
set_option maxRecDepth 100000 in
set_option maxHeartbeats 4000000 in
theorem segB {prog : Program} {w : World} {mean : ExcName → Option Value} {mg mb : Str → Option Value} {dp un : Nat} {gd : Option (List Code)} {outer : List Env} {A : Around} {base g : Heap} {L fa : Addr} {cdv : Value} {s : Shared} {h₁ : Heap} {tk : Nat} {m : Str → Option Value} {Q : Flow → Shared → Prop}
  {x dx tb ck d rw bs p q : Addr} {h1 h2 : Int} {t1 t2 : Tok} {nt nc nr nb : Nat} {ts cs rv bv : List Value} {od po qo o8 o7 o6 o5 o4 o3 o2 o1 : Obj} {tl : Led} {S : Nat} {kvs : List (Int × Value)} {own vl : Int → Int} {la lc : Addr} {va vc : List Value} {na nl : Nat} {as : List Int}
  (B : Below A base outer g) (X : (hd.heap_39 w.params).In g) (T : Top hd.view_39 (looseW hd.view_39 []) mean mg mb g) (hdp : dp + 12 < recursionLimit) (hun : un + 8 * 12 + 200 < cLine) (F : Fr g L h₁ (mpo [(Str.ofString "asked", .ref la), (Str.ofString "columns", .ref lc)] m)) (N : News g L h₁ (led17 L x dx tb ck d rw bs p q h1 h2 t1 t2 qo o5 o4 o3 o2 o1 o8 rv nr bv nb ts nt cs nc od o6 o7 po ((la, listOf va.toArray na) :: (lc, listOf vc.toArray nl) :: tl))) (nd : ND (led17 L x dx tb ck d rw bs p q h1 h2 t1 t2 qo o5 o4 o3 o2 o1 o8 rv nr bv nb ts nt cs nc od o6 o7 po ((la, listOf va.toArray na) :: (lc, listOf vc.toArray nl) :: tl)))
  (c2 : o2.data = .cell (some (.ref x))) (c3 : o3.data = .cell (some (.ref d)))
  (hod : od.IsDictOf (intKind prog w) kvs) (lo : (d == sysModules) = false) (hS : SizeOk kvs S) (hS5 : S < 400) (hown : ∀ k, (valueAt kvs k).isSome = true → 0 ≤ own k)
  (hci : IntsAre cs (tabOf kvs (fun c => own c + 1) S)) (hva : IntsAre va as) (hcol : ColOk as) :
  wpAny (model prog w) (lawA dp un gd L fa cdv outer lawScope) (execs ((turnBody.drop 2).take 1) (lawE L fa cdv lawScope))
    (Mid g L s (fun m' nw => m' = mpo [(Str.ofString "asked", .ref la), (Str.ofString "columns", .ref lc)] m ∧
      nw = led17 L x dx tb ck d rw bs p q h1 h2 t1 t2 qo o5 o4 o3 o2 o1 o8 rv nr bv nb ts nt cs nc od o6 o7 po ((la, listOf va.toArray na) :: (lc, listOf vc.toArray nl) :: tl)) Q) (fun _ _ => False) { s with heap := h₁, toks := tk } := by
  ((refine as_one (fun l => wpAny _ _ (execs l _) _ _ _) rfl ?_; refine as_scope (fun sc => wpAny _ (lawA _ _ _ _ _ _ _ sc) (execs _ (lawE _ _ _ sc)) _ _ _) rfl ?_))
  have hlen : (tabOf kvs (fun c => own c + 1) S).length < 1000 := by rw [tabOf_length]; omega
  (((try k_fold); iterate 11 ((first | (k_unfold; (try dsimp only)) | (k_end; wrow_close) | walk1 | (dsimp only; walk1) | (dsimp only; k_unfold; (try dsimp only)) | (leave1; walk_say "STEP leave1"; try dsimp only)))))
  refine Spec.useI (first_fit_ok (tb := tb) (h1 := h1) (h2 := h2) (t1 := t1) (t2 := t2) (nc := nc) (nl := na) hva hci hcol hlen (nd_ne nd 17 0 rfl rfl (by decide)) (nd_ne nd 17 1 rfl rfl (by decide)) (nd_ne nd 17 3 rfl rfl (by decide))) B (by assumption) X (by assumption) T nd [0, 1, 3, 17] [2, 4, 5, 6, 7, 8, 9, 10, 11, 12, 13, 14, 15, 16, 18] 19 rfl (up_dp hdp (by decide)) (up_un hun (by decide)) rfl (by decide) ?_
  intro v news' h' tk' hPat4 F₂ N₂ ap₂
  refine goal_gen ?_; intro GG hGG
  refine an2 (hPat4) ?_; clear hPat4; intro hN0 hE1; obtain ⟨b, t, rfl, hb⟩ := hN0; subst hE1
  refine hGG ?_; clear hGG GG
  have N3 : News g L h' (led17 L x dx tb ck d rw bs p q h1 h2 t1 t2 qo o5 o4 o3 o2 o1 o8 rv nr bv nb ts nt cs nc od o6 o7 po ((la, listOf va.toArray na) :: (lc, listOf vc.toArray nl) :: tl)) := news_pk N₂ [0, 1, 4, 2, 5, 6, 7, 8, 9, 10, 11, 12, 13, 14, 15, 16, 17, 3, 18] 19
  clear N₂ N F ap₂
  (((try k_fold); iterate 9 ((first | (k_unfold; (try dsimp only)) | (k_end; wrow_close) | walk1 | (dsimp only; walk1) | (dsimp only; k_unfold; (try dsimp only)) | (leave1; walk_say "STEP leave1"; try dsimp only)))))
  refine Spec.useI (law_base_ok (nl := na) hod lo hva hcol (fun k hk => (hS.lo k hk).2) (nd_ne nd 4 17 rfl rfl (by decide))) B (by assumption) X (by assumption) T nd [4, 17] [0, 1, 2, 3, 5, 6, 7, 8, 9, 10, 11, 12, 13, 14, 15, 16, 18] 19 rfl (up_dp hdp (by decide)) (up_un hun (by decide)) rfl (by decide) ?_
  intro v news' h' tk' hPat4 F₃ N₃ ap₂
  refine goal_gen ?_; intro GG hGG
  refine an2 (hPat4) ?_; clear hPat4; intro hN0 hE1; obtain ⟨b', t', rfl, hb'⟩ := hN0; subst hE1
  refine hGG ?_; clear hGG GG
  obtain rfl := fit_same hS hown hcol hb hb'
  have N4 : News g L h' (led17 L x dx tb ck d rw bs p q h1 h2 t1 t2 qo o5 o4 o3 o2 o1 o8 rv nr bv nb ts nt cs nc od o6 o7 po ((la, listOf va.toArray na) :: (lc, listOf vc.toArray nl) :: tl)) := news_pk N₃ [2, 3, 4, 5, 0, 6, 7, 8, 9, 10, 11, 12, 13, 14, 15, 16, 17, 1, 18] 19
  clear N₃ N3 F₂ ap₂
  (((try k_fold); repeat' ((first | (k_unfold; (try dsimp only)) | (k_end; wrow_close) | walk1 | (dsimp only; walk1) | (dsimp only; k_unfold; (try dsimp only)) | (leave1; walk_say "STEP leave1"; try dsimp only)))))
  · exact absurd rfl ‹b ≠ b›
  · (with_reducible rename Fr _ _ _ _ => F'); (with_reducible rename News _ _ _ _ => N')
    exact Mid.intro F' N' ⟨rfl, rfl⟩ (fun _ h => h)

set_option maxRecDepth 100000 in
set_option maxHeartbeats 4000000 in
theorem segC {prog : Program} {w : World} {mean : ExcName → Option Value} {mg mb : Str → Option Value} {dp un : Nat} {gd : Option (List Code)} {outer : List Env} {A : Around} {base g : Heap} {L fa : Addr} {cdv : Value} {s : Shared} {h₁ : Heap} {tk : Nat} {m : Str → Option Value} {Q : Flow → Shared → Prop}
  {x dx tb ck d rw bs p q : Addr} {h1 h2 : Int} {t1 t2 : Tok} {nt nc nr nb : Nat} {ts cs rv bv : List Value} {od po qo o8 o7 o6 o5 o4 o3 o2 o1 : Obj} {tl : Led} {S k : Nat} {kvs : List (Int × Value)} {own vl : Int → Int} {la lc : Addr} {va vc : List Value} {na nl : Nat} {as : List Int} {vb : Option Value}
  (B : Below A base outer g) (X : (hd.heap_39 w.params).In g) (T : Top hd.view_39 (looseW hd.view_39 []) mean mg mb g) (hdp : dp + 12 < recursionLimit) (hun : un + 8 * 12 + 200 < cLine) (F : Fr g L h₁ (mpo [(Str.ofString "asked", .ref la), (Str.ofString "columns", .ref lc)] m)) (N : News g L h₁ (led17 L x dx tb ck d rw bs p q h1 h2 t1 t2 qo o5 o4 o3 o2 o1 o8 rv nr bv nb ts nt cs nc od o6 o7 po ((la, listOf va.toArray na) :: (lc, listOf vc.toArray nl) :: tl))) (nd : ND (led17 L x dx tb ck d rw bs p q h1 h2 t1 t2 qo o5 o4 o3 o2 o1 o8 rv nr bv nb ts nt cs nc od o6 o7 po ((la, listOf va.toArray na) :: (lc, listOf vc.toArray nl) :: tl)))
  (c1 : o1.data = .cell (some (.ref p))) (c2 : o2.data = .cell (some (.ref x))) (c3 : o3.data = .cell (some (.ref d))) (c7 : o7.data = .cell vb) (hp : PenOk k q po) (hq : InnerOk qo) (hk : k < 800)
  (hod : od.IsDictOf (intKind prog w) kvs) (lo : (d == sysModules) = false) (hS : SizeOk kvs S) (hS5 : S < 400) (hown : ∀ k, (valueAt kvs k).isSome = true → 0 ≤ own k)
  (hci : IntsAre cs (tabOf kvs (fun c => own c + 1) S)) (hva : IntsAre va as) (hcol : ColOk as) :
  wpAny (model prog w) (lawA dp un gd L fa cdv outer lawScope) (execs ((turnBody.drop 3).take 2) (lawE L fa cdv lawScope))
    (Mid g L s (fun m' nw => ∃ (po' o7' : Obj) (vb' : Option Value), m' = mpo [(Str.ofString "asked", .ref la), (Str.ofString "columns", .ref lc)] m ∧
      nw = led17 L x dx tb ck d rw bs p q h1 h2 t1 t2 qo o5 o4 o3 o2 o1 o8 rv nr bv nb ts nt cs nc od o6 o7' po' ((la, listOf va.toArray na) :: (lc, listOf vc.toArray nl) :: tl) ∧ o7'.data = .cell vb' ∧ PenOk (k + 1) q po') Q) (fun _ _ => False) { s with heap := h₁, toks := tk } := by
  have hpq : @Ne Nat p q := nd_ne nd 7 8 rfl rfl (by decide)
  ((refine as_two (fun l => wpAny _ _ (execs l _) _ _ _) rfl ?_; refine as_scope (fun sc => wpAny _ (lawA _ _ _ _ _ _ _ sc) (execs _ (lawE _ _ _ sc)) _ _ _) rfl ?_))
  have hlen : (tabOf kvs (fun c => own c + 1) S).length < 1000 := by rw [tabOf_length]; omega
  have hne : as ≠ [] := hcol.1
  have hlen0 : 0 < as.length := List.length_pos_iff.mpr hne
  have hlen4 := hcol.2.2.2
  have hbd := hcol.2.2.1
  refine execs_cut (g := g) (L := L) 1 (fun m' nw => ∃ (po' o7' : Obj) (b : Int) (t : Tok), m' = mpo [(Str.ofString "asked", .ref la), (Str.ofString "columns", .ref lc)] m ∧
      nw = led17 L x dx tb ck d rw bs p q h1 h2 t1 t2 qo o5 o4 o3 o2 o1 o8 rv nr bv nb ts nt cs nc od o6 o7' po' ((la, listOf va.toArray na) :: (lc, listOf vc.toArray nl) :: tl) ∧ o7'.data = .cell (some (.int b t)) ∧ PenOk (k + 1) q po' ∧ -(as.getD 0 0) ≤ b) ?_ ?_
  · dsimp only [List.take]
    (((try k_fold); iterate 12 ((first | (k_unfold; (try dsimp only)) | (k_end; wrow_close) | walk1 | (dsimp only; walk1) | (dsimp only; k_unfold; (try dsimp only)) | (leave1; walk_say "STEP leave1"; try dsimp only)))))
    refine Spec.useI (draw_spec (k := k) hp hq (by omega) hpq (by decide) (by decide)) B (by assumption) X (by assumption) T nd [7, 8] [0, 1, 2, 3, 4, 5, 6, 9, 10, 11, 12, 13, 14, 15, 16, 17, 18] 19 rfl (up_dp hdp (by decide)) (up_un hun (by decide)) rfl (by decide) ?_
    intro v news' h' tk' hPat4 F₂ N₂ ap₂
    refine goal_gen ?_; intro GG hGG
    refine ex3 (hPat4) ?_; clear hPat4; intro e t' po' hZz; refine an5 (hZz) ?_; clear hZz; intro hE3 hd0 hd1 hE6 hpen'; subst hE3; subst hE6
    refine hGG ?_; clear hGG GG
    have nd2 : ND (led17 L x dx tb ck d rw bs p q h1 h2 t1 t2 qo o5 o4 o3 o2 o1 o8 rv nr bv nb ts nt cs nc od o6 o7 po' ((la, listOf va.toArray na) :: (lc, listOf vc.toArray nl) :: tl)) := nd
    have N3 : News g L h' (led17 L x dx tb ck d rw bs p q h1 h2 t1 t2 qo o5 o4 o3 o2 o1 o8 rv nr bv nb ts nt cs nc od o6 o7 po' ((la, listOf va.toArray na) :: (lc, listOf vc.toArray nl) :: tl)) := news_pk N₂ [2, 3, 4, 5, 6, 7, 8, 0, 1, 9, 10, 11, 12, 13, 14, 15, 16, 17, 18] 19
    clear N₂ N F ap₂ nd
    (((try k_fold); repeat' ((first | (k_unfold; (try dsimp only)) | (k_end; wrow_close) | walk1 | (dsimp only; walk1) | (dsimp only; k_unfold; (try dsimp only)) | (leave1; walk_say "STEP leave1"; try dsimp only)))))
    (with_reducible rename Fr _ _ _ _ => F'); (with_reducible rename News _ _ _ _ => N')
    exact Mid.intro F' N' ⟨po', _, e - as.getD (Int.toNat 0) 0, _, rfl, rfl, by assumption, hpen', by show -(as.getD 0 0) ≤ e - as.getD 0 0; omega⟩ (fun _ h => h)
  · intro h' tk' m' news' F₂ N₂ hPat6
    refine goal_gen ?_; intro GG hGG
    refine ex4 (hPat6) ?_; clear hPat6; intro po' o7' b t hZz; refine an5 (hZz) ?_; clear hZz; intro hE4 hE5 c7' hpen' hb; subst hE4; subst hE5
    refine hGG ?_; clear hGG GG
    have nd2 : ND (led17 L x dx tb ck d rw bs p q h1 h2 t1 t2 qo o5 o4 o3 o2 o1 o8 rv nr bv nb ts nt cs nc od o6 o7' po' ((la, listOf va.toArray na) :: (lc, listOf vc.toArray nl) :: tl)) := nd
    clear F N nd
    dsimp only [List.drop]
    have hb0 : ∀ c ∈ as, 0 ≤ b + c := fun c hc => by have := asc_head hcol.2.1 c hc; omega
    (((try k_fold); iterate 13 ((first | (k_unfold; (try dsimp only)) | (k_end; wrow_close) | walk1 | (dsimp only; walk1) | (dsimp only; k_unfold; (try dsimp only)) | (leave1; walk_say "STEP leave1"; try dsimp only)))))
    refine Spec.useI (fits_ok (tb := tb) (h1 := h1) (h2 := h2) (t1 := t1) (t2 := t2) (nc := nc) (nl := na) hva hci hb0 hlen (nd_ne nd2 17 0 rfl rfl (by decide)) (nd_ne nd2 17 1 rfl rfl (by decide)) (nd_ne nd2 17 3 rfl rfl (by decide))) B (by assumption) X (by assumption) T nd2 [0, 1, 3, 17] [2, 4, 5, 6, 7, 8, 9, 10, 11, 12, 13, 14, 15, 16, 18] 19 rfl (up_dp hdp (by decide)) (up_un hun (by decide)) rfl (by decide) ?_
    intro v news' h' tk' hPat4 F₃ N₃ ap₂
    refine goal_gen ?_; intro GG hGG
    obtain ⟨rfl, rfl⟩ := hPat4
    refine hGG ?_; clear hGG GG
    rw [all_free hS hown hb0]
    have N3 : News g L h' (led17 L x dx tb ck d rw bs p q h1 h2 t1 t2 qo o5 o4 o3 o2 o1 o8 rv nr bv nb ts nt cs nc od o6 o7' po' ((la, listOf va.toArray na) :: (lc, listOf vc.toArray nl) :: tl)) := news_pk N₃ [0, 1, 4, 2, 5, 6, 7, 8, 9, 10, 11, 12, 13, 14, 15, 16, 17, 3, 18] 19
    clear N₃ N₂ F₂ ap₂
    (first | (k_unfold; (try dsimp only)) | (k_end; wrow_close) | walk1 | (dsimp only; walk1) | (dsimp only; k_unfold; (try dsimp only)) | (leave1; walk_say "STEP leave1"; try dsimp only))
    refine LCt.ListComp_T (cl := [(Str.ofString "cells", L + 3), (Str.ofString "base", L + 7)]) (by assumption) ?_ ?_ ?_ ?_ ?_ ?_ ?_
    · with_unfolding_all rfl
    · decide
    · rfl
    · decide
    · rfl
    · (first | (k_unfold; (try dsimp only)) | (k_end; wrow_close) | walk1 | (dsimp only; walk1) | (dsimp only; k_unfold; (try dsimp only)) | (leave1; walk_say "STEP leave1"; try dsimp only))
      refine LCt.CompSrcT.ledger rfl (by assumption) N3 (by k_memK) (by rw [List.size_toArray, hva.length, sizeLine_eq]; omega) (fun g' => restT_of (fun i ys nw => ∃ ks : List Int, nw = led17 L x dx tb ck d rw bs p q h1 h2 t1 t2 qo o5 o4 o3 o2 o1 o8 rv nr bv nb ts nt cs nc od o6 o7' po' ((la, listOf va.toArray na) :: (lc, listOf vc.toArray nl) :: tl) ∧ IntsAre ys ks ∧ ks = (as.take i).filter fun c => (valueAt kvs (b + c)).isSome) ?_ ?_ _ 0 [] _ (Nat.zero_add _) ⟨[], rfl, .nil, by simp⟩)
      · intro i v ys nw I oI C oC D m₂ h tk E' hin hP hJ hC hx F₂ N₂ off ne
        refine goal_gen ?_; intro GG hGG
        refine ex1 (hJ) ?_; clear hJ; intro ks hZz; refine an3 (hZz) ?_; clear hZz; intro hE1 hys hks; subst hE1
        refine hGG ?_; clear hGG GG
        obtain ⟨c, t', rfl, hc⟩ := IntsAre.at hva i v (by simpa using hP)
        have hst : as.take (i + 1) = as.take i ++ [c] := by rw [List.take_add_one, hc]; rfl
        (((try k_fold); repeat' ((first | (k_unfold; (try dsimp only)) | (k_end; wrow_close) | walk1 | (dsimp only; walk1) | (dsimp only; k_unfold; (try dsimp only)) | (leave1; walk_say "STEP leave1"; try dsimp only)))))
        · have hin : (valueAt kvs (b + c)).isSome = true := by assumption
          refine LCg.CompEnd.intro F₂ N₂ _ (fun _ hp => hp) off (.inr ⟨_, by k_memK, rfl, _, rfl⟩) ⟨_, rfl, IntsAre.append hys (.cons _ _ .nil), ?_⟩
          rw [hst, List.filter_append, ← hks]
          simp only [List.filter_cons, hin, if_true, List.filter_nil]
        · have hin : (valueAt kvs (b + c)).isSome = false := by simp_all
          refine LCg.CompEnd.intro F₂ N₂ _ (fun _ hp => hp) off (.inr ⟨_, by k_memK, rfl, _, rfl⟩) ⟨_, rfl, hys, ?_⟩
          rw [hst, List.filter_append, ← hks]
          simp only [List.filter_cons, hin, Bool.false_eq_true, if_false, List.filter_nil, List.append_nil]
      · intro ys nw hPat2
        refine goal_gen ?_; intro GG hGG
        refine ex1 (hPat2) ?_; clear hPat2; intro ks hZz; refine an3 (hZz) ?_; clear hZz; intro hE1 hys hks; subst hE1
        refine hGG ?_; clear hGG GG
        intro D h' tk' F₂ N₂ off
        rw [List.size_toArray, hva.length, List.take_length] at hks
        have hall : (as.all fun c => !(valueAt kvs (b + c)).isSome) = decide (ks = []) := by rw [hks]; exact all_filter
        rw [hall]
        (((try k_fold); repeat' ((first | (k_unfold; (try dsimp only)) | (k_end; wrow_close) | walk1 | (dsimp only; walk1) | (dsimp only; k_unfold; (try dsimp only)) | (leave1; walk_say "STEP leave1"; try dsimp only)))))
        · have hx : (decide (ks = []) != decide (ks = [])) = true := by assumption
          exact absurd hx (by cases decide (ks = []) <;> decide)
        · (with_reducible rename Fr _ _ _ _ => F'); (with_reducible rename News _ _ _ _ => N')
          exact Mid.intro F' N' ⟨po', o7', _, rfl, rfl, c7', hpen'⟩ (fun _ hp => .tail _ (.tail _ hp))
    · intro _; with_unfolding_all rfl
end


section
open PyProof.Rows.LSm
set_option maxRecDepth 100000 in
set_option maxHeartbeats 4000000 in
theorem segD {prog : Program} {w : World} {mean : ExcName → Option Value} {mg mb : Str → Option Value} {dp un : Nat} {gd : Option (List Code)} {outer : List Env} {A : Around} {base g : Heap} {L fa : Addr} {cdv : Value} {s : Shared} {h₁ : Heap} {tk : Nat} {m : Str → Option Value} {Q : Flow → Shared → Prop}
  {x dx tb ck d rw bs p q : Addr} {h1 h2 : Int} {t1 t2 : Tok} {nt nc nr nb : Nat} {ts cs rv bv : List Value} {od po qo o8 o7 o6 o5 o4 o3 o2 o1 : Obj} {tl : Led} {k : Nat} {lc : Addr} {vc : List Value} {nl : Nat} {cc : List Int}
  (B : Below A base outer g) (X : (hd.heap_39 w.params).In g) (T : Top hd.view_39 (looseW hd.view_39 []) mean mg mb g) (hdp : dp + 12 < recursionLimit) (hun : un + 8 * 12 + 200 < cLine) (F : Fr g L h₁ (mpo [(Str.ofString "columns", .ref lc)] m)) (N : News g L h₁ (led17 L x dx tb ck d rw bs p q h1 h2 t1 t2 qo o5 o4 o3 o2 o1 o8 rv nr bv nb ts nt cs nc od o6 o7 po ((lc, listOf vc.toArray nl) :: tl))) (nd : ND (led17 L x dx tb ck d rw bs p q h1 h2 t1 t2 qo o5 o4 o3 o2 o1 o8 rv nr bv nb ts nt cs nc od o6 o7 po ((lc, listOf vc.toArray nl) :: tl)))
  (c1 : o1.data = .cell (some (.ref p))) (hp : PenOk k q po) (hq : InnerOk qo) (hk : k < 800) (hvc : IntsAre vc cc) (hcol : ColOk cc) :
  wpAny (model prog w) (lawA dp un gd L fa cdv outer lawScope) (execs ((turnBody.drop 5).take 1) (lawE L fa cdv lawScope))
    (Mid g L s (fun m' nw => ∃ (po' : Obj) (r : Addr) (ro : Obj) (kr : List (Int × Value)) (M : List (Int × Int)), m' = mpo [(Str.ofString "row", .ref r), (Str.ofString "columns", .ref lc)] m ∧
      nw = led17 L x dx tb ck d rw bs p q h1 h2 t1 t2 qo o5 o4 o3 o2 o1 o8 rv nr bv nb ts nt cs nc od o6 o7 po' ((r, ro) :: (lc, listOf vc.toArray nl) :: tl) ∧ ND nw ∧ PenOk (k + 4) q po' ∧ ro.IsDictOf (intKind prog w) kr ∧ (r == sysModules) = false ∧ RowIs kr M ∧ M.map (·.1) = cc.reverse) Q) (fun _ _ => False) { s with heap := h₁, toks := tk } := by
  have hpq : @Ne Nat p q := nd_ne nd 7 8 rfl rfl (by decide)
  ((refine as_one (fun l => wpAny _ _ (execs l _) _ _ _) rfl ?_; refine as_scope (fun sc => wpAny _ (lawA _ _ _ _ _ _ _ sc) (execs _ (lawE _ _ _ sc)) _ _ _) rfl ?_))
  have hne : cc ≠ [] := hcol.1
  have hlen0 : 0 < cc.length := List.length_pos_iff.mpr hne
  have hlen4 := hcol.2.2.2
  have hbd := hcol.2.2.1
  iterate 6 ((first | (k_unfold; (try dsimp only)) | (k_end; wrow_close) | walk1 | (dsimp only; walk1) | (dsimp only; k_unfold; (try dsimp only)) | (leave1; walk_say "STEP leave1"; try dsimp only)))
  refine LCg.ListComp_U (cl := [(Str.ofString "pen", L + 1)]) (by assumption) ?_ ?_ ?_ ?_ ?_ ?_ ?_
  · with_unfolding_all rfl
  · decide
  · rfl
  · decide
  · rfl
  · iterate 10 ((first | (k_unfold; (try dsimp only)) | (k_end; wrow_close) | walk1 | (dsimp only; walk1) | (dsimp only; k_unfold; (try dsimp only)) | (leave1; walk_say "STEP leave1"; try dsimp only)))
    rename_i R ws hR FR NR l1 hws hwl
    have ndR : ND ((R, listOf ws.toArray 0) :: led17 L x dx tb ck d rw bs p q h1 h2 t1 t2 qo o5 o4 o3 o2 o1 o8 rv nr bv nb ts nt cs nc od o6 o7 po ((lc, listOf vc.toArray nl) :: tl)) := nd_lt (by first | exact l1 | exact allLt_all l1) nd
    have NR' : News g L hR (led17 L x dx tb ck d rw bs p q h1 h2 t1 t2 qo o5 o4 o3 o2 o1 o8 rv nr bv nb ts nt cs nc od o6 o7 po ((lc, listOf vc.toArray nl) :: (R, listOf ws.toArray 0) :: ([] ++ tl))) := news_pk NR [1, 2, 3, 4, 5, 6, 7, 8, 9, 10, 11, 12, 13, 14, 15, 16, 17, 18, 0] 19
    have nd1 : ND (led17 L x dx tb ck d rw bs p q h1 h2 t1 t2 qo o5 o4 o3 o2 o1 o8 rv nr bv nb ts nt cs nc od o6 o7 po ((lc, listOf vc.toArray nl) :: (R, listOf ws.toArray 0) :: ([] ++ tl))) := nd_pk ndR [1, 2, 3, 4, 5, 6, 7, 8, 9, 10, 11, 12, 13, 14, 15, 16, 17, 18, 0] 19 (by decide) (by decide)
    clear NR l1 nd ndR
    have hwl2 : ws.length = cc.length := by rw [hws.length, hwl]
    dsimp only
    refine LCg.CompSrc.ledger rfl (by assumption) NR' (by k_memK) (by rw [List.size_toArray, sizeLine_eq]; omega) (fun g' => rest_of (fun i ys nw => ∃ (po' : Obj) (tps : Led) (kr : List (Int × Value)) (M : List (Int × Int)), nw = led17 L x dx tb ck d rw bs p q h1 h2 t1 t2 qo o5 o4 o3 o2 o1 o8 rv nr bv nb ts nt cs nc od o6 o7 po' ((lc, listOf vc.toArray nl) :: (R, listOf ws.toArray 0) :: (tps ++ tl)) ∧ ND nw ∧
      PenOk (k + i) q po' ∧ RowIs kr M ∧ M.map (·.1) = cc.reverse.take i ∧ TupRow kr ys tps) ?_ ?_ _ 0 [] _ (Nat.zero_add _) ⟨po, [], [], [], rfl, nd1, hp, .nil, rfl, rfl, fun j pr h => by simp at h⟩)
    · intro i v ys nw I oI C oC D m₂ h tk E' hin hP hJ hC hx F₂ N₂ off ne
      refine goal_gen ?_; intro GG hGG
      refine ex4 (hJ) ?_; clear hJ; intro po' tps kr M hZz; refine an6 (hZz) ?_; clear hZz; intro hE4 nd2 hpen hkr hM htps; subst hE4
      refine hGG ?_; clear hGG GG
      obtain ⟨c, t', rfl, hc⟩ := IntsAre.at hws i v (by simpa using hP)
      have hst : cc.reverse.take (i + 1) = cc.reverse.take i ++ [c] := by rw [List.take_add_one, hc]; rfl
      have hi4 : i < 4 := by rw [List.size_toArray] at hin; omega
      (((try k_fold); iterate 26 ((first | (k_unfold; (try dsimp only)) | (k_end; wrow_close) | walk1 | (dsimp only; walk1) | (dsimp only; k_unfold; (try dsimp only)) | (leave1; walk_say "STEP leave1"; try dsimp only)))))
      rename_i sm hm4 F₄ N₄ l4
      have nd3 : ND ((sm, listOf #[Value.int 5 tk, Value.int (-3) (tk + 1 + 1), Value.int 0 (tk + 1 + 1 + 1), Value.int 200 (tk + 1 + 1 + 1 + 1)] 0) :: (I, oI) :: (C, oC) :: (D, LCg.lst ys) :: led17 L x dx tb ck d rw bs p q h1 h2 t1 t2 qo o5 o4 o3 o2 o1 o8 rv nr bv nb ts nt cs nc od o6 o7 po' ((lc, listOf vc.toArray nl) :: (R, listOf ws.toArray 0) :: (tps ++ tl))) := nd_lt (by first | exact l4 | exact allLt_all l4) (nd_off3 nd2 off ne)
      refine Spec.useI (pick_ok (k := k + i) (n := 0) (vs := [_, _, _, _]) (ns := [5, -3, 0, 200]) hpen hq (.cons _ _ (.cons _ _ (.cons _ _ (.cons _ _ .nil)))) (by decide) (by decide) (by omega) hpq (nd_ne nd3 11 0 rfl rfl (by decide)) (nd_ne nd3 12 0 rfl rfl (by decide))) B (by assumption) X (by assumption) T nd3 [11, 12, 0] [1, 2, 3, 4, 5, 6, 7, 8, 9, 10, 13, 14, 15, 16, 17, 18, 19, 20, 21, 22] 23 rfl (up_dp hdp (by decide)) (up_un hun (by decide)) rfl (by decide) ?_
      intro v news' h' tk' hPat4 F₅ N₅ ap₅
      refine goal_gen ?_; intro GG hGG
      obtain ⟨⟨xv, tx, rfl, hxv⟩, po2, hpen2, rfl⟩ := hPat4
      refine hGG ?_; clear hGG GG
      have N6 : News g L h' ((I, oI) :: (C, oC) :: (D, LCg.lst ys) :: led17 L x dx tb ck d rw bs p q h1 h2 t1 t2 qo o5 o4 o3 o2 o1 o8 rv nr bv nb ts nt cs nc od o6 o7 po2 ((lc, listOf vc.toArray nl) :: (R, listOf ws.toArray 0) :: (tps ++ tl))) := news_pk N₅ [3, 4, 5, 6, 7, 8, 9, 10, 11, 12, 0, 1, 13, 14, 15, 16, 17, 18, 19, 20, 21, 22] 23
      have nd6 : ND ((I, oI) :: (C, oC) :: (D, LCg.lst ys) :: led17 L x dx tb ck d rw bs p q h1 h2 t1 t2 qo o5 o4 o3 o2 o1 o8 rv nr bv nb ts nt cs nc od o6 o7 po2 ((lc, listOf vc.toArray nl) :: (R, listOf ws.toArray 0) :: (tps ++ tl))) := nd_tail nd3
      clear N₅ N₄ F₄ l4 nd3 ap₅
      (((try k_fold); repeat' ((first | (k_unfold; (try dsimp only)) | (k_end; wrow_close) | walk1 | (dsimp only; walk1) | (dsimp only; k_unfold; (try dsimp only)) | (leave1; walk_say "STEP leave1"; try dsimp only)))))
      rename_i T' hT F₇ N₇ l7
      have nd7 : ND ((T', tup2 (.int c t') (.int xv tx)) :: (I, oI) :: (C, oC) :: (D, LCg.lst ys) :: led17 L x dx tb ck d rw bs p q h1 h2 t1 t2 qo o5 o4 o3 o2 o1 o8 rv nr bv nb ts nt cs nc od o6 o7 po2 ((lc, listOf vc.toArray nl) :: (R, listOf ws.toArray 0) :: (tps ++ tl))) := nd_lt (by first | exact l7 | exact allLt_all l7) nd6
      have nd8 : ND ((I, oI) :: (C, oC) :: (D, LCg.lst ys) :: led17 L x dx tb ck d rw bs p q h1 h2 t1 t2 qo o5 o4 o3 o2 o1 o8 rv nr bv nb ts nt cs nc od o6 o7 po2 ((lc, listOf vc.toArray nl) :: (R, listOf ws.toArray 0) :: ((T', tup2 (.int c t') (.int xv tx)) :: tps ++ tl))) := nd_pk nd7 [1, 2, 3, 4, 5, 6, 7, 8, 9, 10, 11, 12, 13, 14, 15, 16, 17, 18, 19, 20, 21, 22, 0] 23 (by decide) (by decide)
      have N8 : News g L hT ((I, oI) :: (C, oC) :: (D, LCg.lst ys) :: led17 L x dx tb ck d rw bs p q h1 h2 t1 t2 qo o5 o4 o3 o2 o1 o8 rv nr bv nb ts nt cs nc od o6 o7 po2 ((lc, listOf vc.toArray nl) :: (R, listOf ws.toArray 0) :: ((T', tup2 (.int c t') (.int xv tx)) :: tps ++ tl))) := news_pk N₇ [1, 2, 3, 4, 5, 6, 7, 8, 9, 10, 11, 12, 13, 14, 15, 16, 17, 18, 19, 20, 21, 22, 0] 23
      dsimp only
      exact LCg.CompEnd.intro F₇ N8 _ (fun _ h => h) (off3_nd nd8) (.inr ⟨_, by k_memK, rfl, _, rfl⟩) ⟨po2, (T', _) :: tps, kr ++ [(c, .int xv tx)], M ++ [(c, xv)], rfl, nd_tail (nd_tail (nd_tail nd8)), hpen2, hkr.app c xv tx, by rw [List.map_append, hM, hst]; rfl, htps.snoc _ _ _ _⟩
    · intro ys nw hPat2
      refine goal_gen ?_; intro GG hGG
      refine ex4 (hPat2) ?_; clear hPat2; intro po' tps kr M hZz; refine an6 (hZz) ?_; clear hZz; intro hE4 nd2 hpen hkr hM htps; subst hE4
      refine hGG ?_; clear hGG GG
      intro D h' tk' F₂ N₂ off
      have hfull : cc.reverse.take ws.toArray.size = cc.reverse := List.take_of_length_le (by rw [List.size_toArray, List.length_reverse]; omega)
      rw [hfull] at hM
      have hkl : kr.length = cc.length := by rw [hkr.length, ← List.length_map (as := M) (·.1), hM, List.length_reverse]
      have hpen4 : PenOk (k + 4) q po' := by
        refine goal_gen ?_; intro GG hGG
        refine ex5 (hpen) ?_; clear hpen; intro sp u1 pool u2 n' hZz; refine an4 (hZz) ?_; clear hZz; intro e g1 g2 g3
        refine hGG ?_; clear hGG GG
        refine ⟨sp, u1, pool, u2, n', e, g1, ?_, g3⟩
        rw [List.size_toArray] at g2
        omega
      have nd3 : ND (led17 L x dx tb ck d rw bs p q h1 h2 t1 t2 qo o5 o4 o3 o2 o1 o8 rv nr bv nb ts nt cs nc od o6 o7 po' ((lc, listOf vc.toArray nl) :: tl)) := nd_pks nd2 [0, 1, 2, 3, 4, 5, 6, 7, 8, 9, 10, 11, 12, 13, 14, 15, 16, 17] 19 (t := tl) (List.sublist_append_right tps tl) (by decide) (by decide)
      (((try k_fold); repeat' ((first | (k_unfold; (try dsimp only)) | (k_end; wrow_close) | walk1 | (dsimp only; walk1) | (dsimp only; k_unfold; (try dsimp only)) | (leave1; walk_say "STEP leave1"; try dsimp only)))))
      refine dict_of_pairs (l := D) (ps := kr) rfl F₂ N₂ (Top.nolimit T) (.head _) htps.1 (htps.pairs N₂ fun z hz => List.mem_of_mem_drop (i := 20) (show z ∈ tps ++ tl from List.mem_append_left _ hz)) (by omega) (by rw [hkr.keys, hM]; exact col_rev_nodup hcol.2.1) ?_
      intro r h₃ ro tk₃ F₃ N₃ l3 lo3 hro
      have N4 : News g L h₃ (led17 L x dx tb ck d rw bs p q h1 h2 t1 t2 qo o5 o4 o3 o2 o1 o8 rv nr bv nb ts nt cs nc od o6 o7 po' ((r, ro) :: (lc, listOf vc.toArray nl) :: tl)) := news_pks N₃ [2, 3, 4, 5, 6, 7, 8, 9, 10, 11, 12, 13, 14, 15, 16, 17, 18, 0, 19] 21 (t := tl) (List.sublist_append_right tps tl)
      have nd5 : ND ((r, ro) :: led17 L x dx tb ck d rw bs p q h1 h2 t1 t2 qo o5 o4 o3 o2 o1 o8 rv nr bv nb ts nt cs nc od o6 o7 po' ((lc, listOf vc.toArray nl) :: tl)) := nd_lt (fun z hz => l3 z (in_pks (all := (D, LCg.lst ys) :: led17 L x dx tb ck d rw bs p q h1 h2 t1 t2 qo o5 o4 o3 o2 o1 o8 rv nr bv nb ts nt cs nc od o6 o7 po' ((lc, listOf vc.toArray nl) :: (R, listOf ws.toArray 0) :: (tps ++ tl))) [1, 2, 3, 4, 5, 6, 7, 8, 9, 10, 11, 12, 13, 14, 15, 16, 17, 18] 20 (t := tl) (List.sublist_append_right tps tl) z hz)) nd3
      clear N₃ N₂ l3
      (((try k_fold); repeat' ((first | (k_unfold; (try dsimp only)) | (k_end; wrow_close) | walk1 | (dsimp only; walk1) | (dsimp only; k_unfold; (try dsimp only)) | (leave1; walk_say "STEP leave1"; try dsimp only)))))
      (with_reducible rename Fr _ _ _ _ => F'); (with_reducible rename News _ _ _ _ => N')
      exact Mid.intro F' N' ⟨po', r, ro, kr, M, rfl, rfl, nd_pk nd5 [1, 2, 3, 4, 5, 6, 7, 8, 9, 10, 11, 12, 13, 14, 15, 16, 17, 0] 18 (by decide) (by decide), hpen4, hro, lo3, hkr, hM⟩ (fun _ h => h)
  · intro _; with_unfolding_all rfl
end


section
open PyProof.Rows.LSm
set_option maxRecDepth 100000 in
set_option maxHeartbeats 4000000 in
theorem segE {prog : Program} {w : World} {mean : ExcName → Option Value} {mg mb : Str → Option Value} {dp un : Nat} {gd : Option (List Code)} {outer : List Env} {A : Around} {base g : Heap} {L fa : Addr} {cdv : Value} {s : Shared} {h₁ : Heap} {tk : Nat} {m : Str → Option Value} {Q : Flow → Shared → Prop}
  {x dx tb ck d rw bs p q : Addr} {h1 h2 : Int} {t1 t2 : Tok} {nt nc nr nb : Nat} {ts cs rv bv : List Value} {od po qo o8 o7 o6 o5 o4 o3 o2 o1 : Obj} {tl : Led} {S i : Nat} {kvs kr : List (Int × Value)} {M : List (Int × Int)} {own vl : Int → Int} {lc r : Addr} {ro : Obj} {vc : List Value} {nl : Nat} {cc : List Int} {vb : Option Value} {t6 : Tok}
  (B : Below A base outer g) (X : (hd.heap_39 w.params).In g) (T : Top hd.view_39 (looseW hd.view_39 []) mean mg mb g) (hdp : dp + 12 < recursionLimit) (hun : un + 8 * 12 + 200 < cLine) (F : Fr g L h₁ (mpo [(Str.ofString "row", .ref r), (Str.ofString "columns", .ref lc)] m)) (N : News g L h₁ (led17 L x dx tb ck d rw bs p q h1 h2 t1 t2 qo o5 o4 o3 o2 o1 o8 rv nr bv nb ts nt cs nc od o6 o7 po ((r, ro) :: (lc, listOf vc.toArray nl) :: tl))) (nd : ND (led17 L x dx tb ck d rw bs p q h1 h2 t1 t2 qo o5 o4 o3 o2 o1 o8 rv nr bv nb ts nt cs nc od o6 o7 po ((r, ro) :: (lc, listOf vc.toArray nl) :: tl)))
  (c2 : o2.data = .cell (some (.ref x))) (c3 : o3.data = .cell (some (.ref d))) (c6 : o6.data = .cell (some (.int (i : Int) t6))) (c7 : o7.data = .cell vb) (hi5 : i < 5)
  (hod : od.IsDictOf (intKind prog w) kvs) (lo : (d == sysModules) = false) (hS : SizeOk kvs S) (hS5 : S < 400) (hown : ∀ k, (valueAt kvs k).isSome = true → 0 ≤ own k)
  (hti : IntsAre ts (tabOf kvs vl S)) (hci : IntsAre cs (tabOf kvs (fun c => own c + 1) S)) (hvc : IntsAre vc cc) (hcol : ColOk cc)
  (hro : ro.IsDictOf (intKind prog w) kr) (lor : (r == sysModules) = false) (hkr : RowIs kr M) (hM : M.map (·.1) = cc.reverse) :
  wpAny (model prog w) (lawA dp un gd L fa cdv outer lawScope) (execs ((turnBody.drop 6).take 2) (lawE L fa cdv lawScope))
    (Mid g L s (fun m' nw => ∃ (b : Int) (t7 : Tok) (o7' : Obj) (ts' cs' : List Value) (nt' nc' : Nat), m' = mpo [(Str.ofString "row", .ref r), (Str.ofString "columns", .ref lc)] m ∧
      nw = led17 L x dx tb ck d rw bs p q h1 h2 t1 t2 qo o5 o4 o3 o2 o1 o8 rv nr bv nb ts' nt' cs' nc' od o6 o7' po ((r, ro) :: (lc, listOf vc.toArray nl) :: tl) ∧ o7'.data = .cell (some (.int b t7)) ∧
      LeastFit (fun b => cc.all fun c => !(valueAt kvs (b + c)).isSome) (-(cc.getD 0 0)) b ∧ b ≤ S ∧
      IntsAre ts' (layAll (fun c => (M.lookup c).getD 0) b cc (growTo (b + cc.getLastD 0 + 1) (tabOf kvs vl S))) ∧ IntsAre cs' (layAll (fun _ => (i : Int) + 1) b cc (growTo (b + cc.getLastD 0 + 1) (tabOf kvs (fun c => own c + 1) S)))) Q) (fun _ _ => False) { s with heap := h₁, toks := tk } := by
  ((refine as_two (fun l => wpAny _ _ (execs l _) _ _ _) rfl ?_; refine as_scope (fun sc => wpAny _ (lawA _ _ _ _ _ _ _ sc) (execs _ (lawE _ _ _ sc)) _ _ _) rfl ?_))
  have hlen : (tabOf kvs (fun c => own c + 1) S).length < 500 := by rw [tabOf_length]; omega
  have hlen2 : (tabOf kvs vl S).length = (tabOf kvs (fun c => own c + 1) S).length := by rw [tabOf_length, tabOf_length]
  refine execs_cut (g := g) (L := L) 1 (fun m' nw => ∃ (b : Int) (t7 : Tok) (o7' : Obj), m' = mpo [(Str.ofString "row", .ref r), (Str.ofString "columns", .ref lc)] m ∧
      nw = led17 L x dx tb ck d rw bs p q h1 h2 t1 t2 qo o5 o4 o3 o2 o1 o8 rv nr bv nb ts nt cs nc od o6 o7' po ((r, ro) :: (lc, listOf vc.toArray nl) :: tl) ∧ o7'.data = .cell (some (.int b t7)) ∧
      LeastFit (fun b => cc.all fun c => !(valueAt kvs (b + c)).isSome) (-(cc.getD 0 0)) b) ?_ ?_
  · dsimp only [List.take]
    (((try k_fold); iterate 11 ((first | (k_unfold; (try dsimp only)) | (k_end; wrow_close) | walk1 | (dsimp only; walk1) | (dsimp only; k_unfold; (try dsimp only)) | (leave1; walk_say "STEP leave1"; try dsimp only)))))
    refine Spec.useI (law_base_ok (nl := nl) hod lo hvc hcol (fun k hk => (hS.lo k hk).2) (nd_ne nd 4 18 rfl rfl (by decide))) B (by assumption) X (by assumption) T nd [4, 18] [0, 1, 2, 3, 5, 6, 7, 8, 9, 10, 11, 12, 13, 14, 15, 16, 17] 19 rfl (up_dp hdp (by decide)) (up_un hun (by decide)) rfl (by decide) ?_
    intro v news' h' tk' hPat4 F₂ N₂ ap₂
    refine goal_gen ?_; intro GG hGG
    refine an2 (hPat4) ?_; clear hPat4; intro hN0 hE1; obtain ⟨b, t, rfl, hb⟩ := hN0; subst hE1
    refine hGG ?_; clear hGG GG
    have N3 : News g L h' (led17 L x dx tb ck d rw bs p q h1 h2 t1 t2 qo o5 o4 o3 o2 o1 o8 rv nr bv nb ts nt cs nc od o6 o7 po ((r, ro) :: (lc, listOf vc.toArray nl) :: tl)) := news_pk N₂ [2, 3, 4, 5, 0, 6, 7, 8, 9, 10, 11, 12, 13, 14, 15, 16, 17, 18, 1] 19
    clear N₂ N F ap₂
    (((try k_fold); repeat' ((first | (k_unfold; (try dsimp only)) | (k_end; wrow_close) | walk1 | (dsimp only; walk1) | (dsimp only; k_unfold; (try dsimp only)) | (leave1; walk_say "STEP leave1"; try dsimp only)))))
    (with_reducible rename Fr _ _ _ _ => F'); (with_reducible rename News _ _ _ _ => N')
    exact Mid.intro F' N' ⟨b, _, _, rfl, rfl, by assumption, hb⟩ (fun _ h => h)
  · intro h' tk' m' news' F₂ N₂ hPat6
    refine goal_gen ?_; intro GG hGG
    refine ex3 (hPat6) ?_; clear hPat6; intro b t7 o7' hZz; refine an4 (hZz) ?_; clear hZz; intro hE3 hE4 c7' hb; subst hE3; subst hE4
    refine hGG ?_; clear hGG GG
    have nd2 : ND (led17 L x dx tb ck d rw bs p q h1 h2 t1 t2 qo o5 o4 o3 o2 o1 o8 rv nr bv nb ts nt cs nc od o6 o7' po ((r, ro) :: (lc, listOf vc.toArray nl) :: tl)) := nd
    clear F N nd c7
    dsimp only [List.drop]
    (((try k_fold); iterate 13 ((first | (k_unfold; (try dsimp only)) | (k_end; wrow_close) | walk1 | (dsimp only; walk1) | (dsimp only; k_unfold; (try dsimp only)) | (leave1; walk_say "STEP leave1"; try dsimp only)))))
    refine Spec.useI (put_ok (nt := nt) (nc := nc) (h1 := h1) (h2 := h2) (t1 := t1) (t2 := t2) hti hci hlen2 hlen hkr hro lor (hM ▸ List.reverse_perm cc) hcol (by omega) (by omega)
      (nd_ne nd2 2 3 rfl rfl (by decide)) (nd_ne nd2 2 0 rfl rfl (by decide)) (nd_ne nd2 2 1 rfl rfl (by decide)) (nd_ne nd2 3 0 rfl rfl (by decide)) (nd_ne nd2 3 1 rfl rfl (by decide)) (nd_ne nd2 17 0 rfl rfl (by decide)) (nd_ne nd2 17 1 rfl rfl (by decide)) (nd_ne nd2 17 2 rfl rfl (by decide)) (nd_ne nd2 17 3 rfl rfl (by decide)))
      B (by assumption) X (by assumption) T nd2 [0, 1, 2, 3, 17] [4, 5, 6, 7, 8, 9, 10, 11, 12, 13, 14, 15, 16, 18] 19 rfl (up_dp hdp (by decide)) (up_un hun (by decide)) rfl (by decide) ?_
    intro v news' h' tk' hPat4 F₃ N₃ ap₂
    refine goal_gen ?_; intro GG hGG
    refine ex6 (hPat4) ?_; clear hPat4; intro b2 t ts' cs' nt' nc' hZz; refine an5 (hZz) ?_; clear hZz; intro hE6 hb2 hE8 hti' hci'; subst hE6; subst hE8
    refine hGG ?_; clear hGG GG
    have N3 : News g L h' (led17 L x dx tb ck d rw bs p q h1 h2 t1 t2 qo o5 o4 o3 o2 o1 o8 rv nr bv nb ts' nt' cs' nc' od o6 o7' po ((r, ro) :: (lc, listOf vc.toArray nl) :: tl)) := news_pk N₃ [0, 1, 2, 3, 5, 6, 7, 8, 9, 10, 11, 12, 13, 14, 15, 16, 17, 4, 18] 19
    have hbS := hb2.le (by have := hcol.2.2.1 _ (head_mem hcol.1); omega) fun c hc => (hcol.2.2.1 c hc).1
    rw [tabOf_length] at hbS
    obtain rfl := fit_same hS hown hcol hb2 hb
    clear N₃ N₂ F₂ ap₂
    (((try k_fold); repeat' ((first | (k_unfold; (try dsimp only)) | (k_end; wrow_close) | walk1 | (dsimp only; walk1) | (dsimp only; k_unfold; (try dsimp only)) | (leave1; walk_say "STEP leave1"; try dsimp only)))))
    · exact absurd rfl ‹b2 ≠ b2›
    · (with_reducible rename Fr _ _ _ _ => F'); (with_reducible rename News _ _ _ _ => N')
      exact Mid.intro F' N' ⟨b2, t7, o7', ts', cs', nt', nc', rfl, rfl, c7', hb, hbS, hti', hci'⟩ (fun _ h => h)
end


section
open PyProof.Rows.LSm
set_option maxRecDepth 100000 in
set_option maxHeartbeats 4000000 in
theorem segF {prog : Program} {w : World} {mean : ExcName → Option Value} {mg mb : Str → Option Value} {dp un : Nat} {gd : Option (List Code)} {outer : List Env} {A : Around} {base g : Heap} {L fa : Addr} {cdv : Value} {s : Shared} {h₁ : Heap} {tk : Nat} {m : Str → Option Value} {Q : Flow → Shared → Prop}
  {x dx tb ck d rw bs p q : Addr} {h1 h2 : Int} {t1 t2 : Tok} {nt nc nr nb : Nat} {ts cs rv bv : List Value} {od po qo o8 o7 o6 o5 o4 o3 o2 o1 : Obj} {tl : Led} {i : Nat} {kvs kr : List (Int × Value)} {M : List (Int × Int)} {own vl : Int → Int} {lc r : Addr} {ro : Obj} {vc : List Value} {nl : Nat} {cc : List Int} {b : Int} {t6 t7 : Tok} {tc : Led}
  (B : Below A base outer g) (X : (hd.heap_39 w.params).In g) (T : Top hd.view_39 (looseW hd.view_39 []) mean mg mb g) (hdp : dp + 12 < recursionLimit) (hun : un + 8 * 12 + 200 < cLine) (F : Fr g L h₁ (mpo [(Str.ofString "row", .ref r), (Str.ofString "columns", .ref lc)] m)) (N : News g L h₁ (led17 L x dx tb ck d rw bs p q h1 h2 t1 t2 qo o5 o4 o3 o2 o1 o8 rv nr bv nb ts nt cs nc od o6 o7 po ((r, ro) :: (lc, listOf vc.toArray nl) :: tl))) (nd : ND (led17 L x dx tb ck d rw bs p q h1 h2 t1 t2 qo o5 o4 o3 o2 o1 o8 rv nr bv nb ts nt cs nc od o6 o7 po ((r, ro) :: (lc, listOf vc.toArray nl) :: tl)))
  (c3 : o3.data = .cell (some (.ref d))) (c6 : o6.data = .cell (some (.int (i : Int) t6))) (c7 : o7.data = .cell (some (.int b t7)))
  (hod : od.IsDictOf (intKind prog w) kvs) (lo : (d == sysModules) = false) (hkl : kvs.length ≤ 400) (hcells : CellsOk kvs tc own vl) (hvc : IntsAre vc cc) (hcol : ColOk cc) (hfree : ∀ c ∈ cc, (valueAt kvs (b + c)).isSome = false)
  (hro : ro.IsDictOf (intKind prog w) kr) (hkr : RowIs kr M) (hM : M.map (·.1) = cc.reverse) :
  wpAny (model prog w) (lawA dp un gd L fa cdv outer lawScope) (execs ((turnBody.drop 8).take 1) (lawE L fa cdv lawScope))
    (Mid g L s (fun m' nw => ∃ (od' : Obj) (kvs' : List (Int × Value)) (tps : Led), LoopMapO (Str.ofString "column") [(Str.ofString "row", .ref r), (Str.ofString "columns", .ref lc)] m m' ∧
      nw = led17 L x dx tb ck d rw bs p q h1 h2 t1 t2 qo o5 o4 o3 o2 o1 o8 rv nr bv nb ts nt cs nc od' o6 o7 po ((r, ro) :: (lc, listOf vc.toArray nl) :: (tps ++ tl)) ∧ ND nw ∧ od'.IsDictOf (intKind prog w) kvs' ∧ kvs'.length ≤ kvs.length + 4 ∧
      (∀ k, (valueAt kvs' k).isSome = true ↔ (valueAt kvs k).isSome = true ∨ (k - b) ∈ cc) ∧ CellsOk kvs' (tps ++ tc) (ownU own b i cc) (vlU vl b M cc)) Q) (fun _ _ => False) { s with heap := h₁, toks := tk } := by
  ((refine as_one (fun l => wpAny _ _ (execs l _) _ _ _) rfl ?_; refine as_scope (fun sc => wpAny _ (lawA _ _ _ _ _ _ _ sc) (execs _ (lawE _ _ _ sc)) _ _ _) rfl ?_))
  have hnd := col_nodup hcol.2.1
  have hlen4 := hcol.2.2.2
  have hperm : (M.map (·.1)).Perm cc := hM ▸ List.reverse_perm cc
  (first | (k_unfold; (try dsimp only)) | (k_end; wrow_close) | walk1 | (dsimp only; walk1) | (dsimp only; k_unfold; (try dsimp only)) | (leave1; walk_say "STEP leave1"; try dsimp only))
  refine For_invVF (by assumption) rfl rfl ?_ (by intro _; rfl) PassesOwn.never
  (first | (k_unfold; (try dsimp only)) | (k_end; wrow_close) | walk1 | (dsimp only; walk1) | (dsimp only; k_unfold; (try dsimp only)) | (leave1; walk_say "STEP leave1"; try dsimp only))
  refine for_list (fun j m' nw => ∃ (od' : Obj) (kvs' : List (Int × Value)) (tps : Led), LoopMapO (Str.ofString "column") [(Str.ofString "row", .ref r), (Str.ofString "columns", .ref lc)] m m' ∧
      nw = led17 L x dx tb ck d rw bs p q h1 h2 t1 t2 qo o5 o4 o3 o2 o1 o8 rv nr bv nb ts nt cs nc od' o6 o7 po ((r, ro) :: (lc, listOf vc.toArray nl) :: (tps ++ tl)) ∧ ND nw ∧ od'.IsDictOf (intKind prog w) kvs' ∧ kvs'.length ≤ kvs.length + j ∧
      (∀ k, (valueAt kvs' k).isSome = true ↔ (valueAt kvs k).isSome = true ∨ (k - b) ∈ cc.take j) ∧ CellsOk kvs' (tps ++ tc) (ownU own b i (cc.take j)) (vlU vl b M (cc.take j))) rfl F N (by k_memK)
      ⟨od, kvs, [], .inl rfl, rfl, nd, hod, Nat.le_add_right _ _, fun k => by simp, cells_nil hcells cc⟩ (by rintro j m' nw ⟨od', kvs', tps, _, rfl, _⟩; k_memK) ?_ ?_
  · intro j v m₁ nw I oI h3 tk3 hv hPat9 off F₃ N₃
    refine goal_gen ?_; intro GG hGG
    refine ex3 (hPat9) ?_; clear hPat9; intro od' kvs' tps hZz; refine an7 (hZz) ?_; clear hZz; intro hm hE4 nd2 hod' hkl' hmem hcell; subst hE4
    refine hGG ?_; clear hGG GG
    replace F₃ := hm.fr F₃
    refine goal_gen ?_; intro GG hGG
    refine ex2 (IntsAre.at hvc j v hv) ?_; intro c tc hZz; refine an2 (hZz) ?_; clear hZz; intro hE2 hc; subst hE2
    refine hGG ?_; clear hGG GG
    have hcm : c ∈ cc := List.mem_of_getElem? hc
    have hj4 : j < 4 := by have := (List.getElem?_eq_some_iff.mp hc).1; omega
    obtain ⟨tv, hval⟩ := hkr.at c (hperm.mem_iff.mpr hcm)
    have nd3 : ND ((I, oI) :: led17 L x dx tb ck d rw bs p q h1 h2 t1 t2 qo o5 o4 o3 o2 o1 o8 rv nr bv nb ts nt cs nc od' o6 o7 po ((r, ro) :: (lc, listOf vc.toArray nl) :: (tps ++ tl))) := nd_cons off nd2
    (((try k_fold); iterate 17 ((first | (k_unfold; (try dsimp only)) | (k_end; wrow_close) | walk1 | (dsimp only; walk1) | (dsimp only; k_unfold; (try dsimp only)) | (leave1; walk_say "STEP leave1"; try dsimp only)))))
    rename_i T' hT F₇ N₇ l7
    have nd7 : ND ((T', tup2 (.int (i : Int) t6) (.int ((M.lookup c).getD 0) tv)) :: (I, oI) :: led17 L x dx tb ck d rw bs p q h1 h2 t1 t2 qo o5 o4 o3 o2 o1 o8 rv nr bv nb ts nt cs nc od' o6 o7 po ((r, ro) :: (lc, listOf vc.toArray nl) :: (tps ++ tl))) := nd_lt (by first | exact l7 | exact allLt_all l7) nd3
    refine kda_set F₇ N₇ (updF_at (all := (T', tup2 (.int (i : Int) t6) (.int ((M.lookup c).getD 0) tv)) :: (I, oI) :: led17 L x dx tb ck d rw bs p q h1 h2 t1 t2 qo o5 o4 o3 o2 o1 o8 rv nr bv nb ts nt cs nc od' o6 o7 po ((r, ro) :: (lc, listOf vc.toArray nl) :: (tps ++ tl))) nd7 6 rfl) hod' (intKind_is _ _ _ _) (by rw [sizeLine_eq]; omega) ?_
    intro h₅ o₅ F₅ N₅ hd₅
    obtain ⟨hm2, hc2⟩ := turn_cells T' t6 tv hnd hc hfree hmem hcell
    have N6 : News g L h₅ ((I, oI) :: led17 L x dx tb ck d rw bs p q h1 h2 t1 t2 qo o5 o4 o3 o2 o1 o8 rv nr bv nb ts nt cs nc o₅ o6 o7 po ((r, ro) :: (lc, listOf vc.toArray nl) :: ((T', tup2 (.int (i : Int) t6) (.int ((M.lookup c).getD 0) tv)) :: tps ++ tl))) := news_pk N₅ [1, 2, 3, 4, 5, 6, 7, 8, 9, 10, 11, 12, 13, 14, 15, 16, 17, 18, 19, 20, 0] 21
    have nd6 : ND ((I, oI) :: led17 L x dx tb ck d rw bs p q h1 h2 t1 t2 qo o5 o4 o3 o2 o1 o8 rv nr bv nb ts nt cs nc o₅ o6 o7 po ((r, ro) :: (lc, listOf vc.toArray nl) :: ((T', tup2 (.int (i : Int) t6) (.int ((M.lookup c).getD 0) tv)) :: tps ++ tl))) := nd_pk (all := (T', tup2 (.int (i : Int) t6) (.int ((M.lookup c).getD 0) tv)) :: (I, oI) :: led17 L x dx tb ck d rw bs p q h1 h2 t1 t2 qo o5 o4 o3 o2 o1 o8 rv nr bv nb ts nt cs nc od' o6 o7 po ((r, ro) :: (lc, listOf vc.toArray nl) :: (tps ++ tl))) nd7 [1, 2, 3, 4, 5, 6, 7, 8, 9, 10, 11, 12, 13, 14, 15, 16, 17, 18, 19, 20, 0] 21 (by decide) (by decide)
    have hsl := stored_length_le kvs' (b + c) (.ref T')
    clear N₅ N₇ F₇
    (((try k_fold); repeat' ((first | (k_unfold; (try dsimp only)) | (k_end; wrow_close) | walk1 | (dsimp only; walk1) | (dsimp only; k_unfold; (try dsimp only)) | (leave1; walk_say "STEP leave1"; try dsimp only)))))
    exact TurnEnd.intro F₅ N6 ⟨o₅, _, (T', _) :: tps, .inr ⟨_, rfl⟩, rfl, nd_tail nd6, hd₅, by omega, hm2, hc2⟩ (fun _ h => h) (fun z hz => (nd_head nd6 z hz).symm)
  · intro m₁ nw h3 tk3 hPat4 F₃ N₃
    refine goal_gen ?_; intro GG hGG
    refine ex3 (hPat4) ?_; clear hPat4; intro od' kvs' tps hZz; refine an7 (hZz) ?_; clear hZz; intro hm hE4 nd2 hod' hkl' hmem hcell; subst hE4
    refine hGG ?_; clear hGG GG
    rw [hvc.length, List.take_length] at hmem hcell
    rw [hvc.length] at hkl'
    (((try k_fold); repeat' ((first | (k_unfold; (try dsimp only)) | (k_end; wrow_close) | walk1 | (dsimp only; walk1) | (dsimp only; k_unfold; (try dsimp only)) | (leave1; walk_say "STEP leave1"; try dsimp only)))))
    exact Mid.intro F₃ N₃ ⟨od', kvs', tps, hm, rfl, nd2, hod', by omega, hmem, hcell⟩ (fun _ h => h)
end


local macro_rules | `(tactic| walk_at "call builtin:list.append") => `(tactic| ((with_reducible show wpAny _ _ (call (Value.builtin _) [Value.ref _, _]) _ _ _); k_dflt (refine' append_K ?k1 ?k2 ?k3 ?_ ?z; (case k1 => k_asm); (case k2 => k_asm); (case k3 => first | exact upd_at (by assumption) 5 rfl | exact upd_at (by assumption) 6 rfl); (case z => size_fits)); intro h' F' N'; (try dsimp only [List.set] at N')))
section
open PyProof.Rows.LSm
set_option maxRecDepth 100000 in
set_option maxHeartbeats 4000000 in
theorem segG {prog : Program} {w : World} {mean : ExcName → Option Value} {mg mb : Str → Option Value} {dp un : Nat} {gd : Option (List Code)} {outer : List Env} {A : Around} {base g : Heap} {L fa : Addr} {cdv : Value} {s : Shared} {h₁ : Heap} {tk : Nat} {m : Str → Option Value} {Q : Flow → Shared → Prop}
  {x dx tb ck d rw bs p q : Addr} {h1 h2 : Int} {t1 t2 : Tok} {nt nc nr nb : Nat} {ts cs rv bv : List Value} {od po qo o8 o7 o6 o5 o4 o3 o2 o1 : Obj} {tl : Led} {S : Nat} {kvs : List (Int × Value)} {own vl : Int → Int} {r : Addr} {b : Int} {t7 : Tok}
  (B : Below A base outer g) (X : (hd.heap_39 w.params).In g) (T : Top hd.view_39 (looseW hd.view_39 []) mean mg mb g) (hdp : dp + 12 < recursionLimit) (hun : un + 8 * 12 + 200 < cLine) (F : Fr g L h₁ (mpo [(Str.ofString "row", .ref r)] m)) (N : News g L h₁ (led17 L x dx tb ck d rw bs p q h1 h2 t1 t2 qo o5 o4 o3 o2 o1 o8 rv nr bv nb ts nt cs nc od o6 o7 po tl)) (nd : ND (led17 L x dx tb ck d rw bs p q h1 h2 t1 t2 qo o5 o4 o3 o2 o1 o8 rv nr bv nb ts nt cs nc od o6 o7 po tl))
  (c2 : o2.data = .cell (some (.ref x))) (c3 : o3.data = .cell (some (.ref d))) (c4 : o4.data = .cell (some (.ref rw))) (c5 : o5.data = .cell (some (.ref bs))) (c7 : o7.data = .cell (some (.int b t7)))
  (hod : od.IsDictOf (intKind prog w) kvs) (lo : (d == sysModules) = false) (hcells : CellsOk kvs tl own vl) (hS : SizeOk kvs S) (hS5 : S < 400) (hown : ∀ k, (valueAt kvs k).isSome = true → 0 ≤ own k)
  (hti : IntsAre ts (tabOf kvs vl S)) (hci : IntsAre cs (tabOf kvs (fun c => own c + 1) S)) (hrl : rv.length ≤ 5) (hbl : bv.length ≤ 5) :
  wpAny (model prog w) (lawA dp un gd L fa cdv outer lawScope) (execs ((turnBody.drop 9).take 3) (lawE L fa cdv lawScope))
    (Mid g L s (fun m' nw => ∃ (nr' nb' : Nat), nw = led17 L x dx tb ck d rw bs p q h1 h2 t1 t2 qo o5 o4 o3 o2 o1 o8 ((rv ++ [Value.ref r])) nr' ((bv ++ [Value.int b t7])) nb' ts nt cs nc od o6 o7 po tl) Q) (fun _ _ => False) { s with heap := h₁, toks := tk } := by
  ((refine as_three (fun l => wpAny _ _ (execs l _) _ _ _) rfl ?_; refine as_scope (fun sc => wpAny _ (lawA _ _ _ _ _ _ _ sc) (execs _ (lawE _ _ _ sc)) _ _ _) rfl ?_))
  (((try k_fold); iterate 13 ((first | (k_unfold; (try dsimp only)) | (k_end; wrow_close) | walk1 | (dsimp only; walk1) | (dsimp only; k_unfold; (try dsimp only)) | (leave1; walk_say "STEP leave1"; try dsimp only)))))
  refine Spec.useJ (alike_ok (S := S) (nt := nt) (nc := nc) (h1 := h1) (h2 := h2) (t1 := t1) (t2 := t2) hod lo hcells hS (by omega) hti hci (nd_ne nd 0 2 rfl rfl (by decide)) (nd_ne nd 0 4 rfl rfl (by decide)) (nd_ne nd 1 2 rfl rfl (by decide)) (nd_ne nd 1 4 rfl rfl (by decide)) (nd_ne nd 3 2 rfl rfl (by decide)) (nd_ne nd 3 4 rfl rfl (by decide)) hown
    (nd_tl nd 0 17 rfl (by decide)) (nd_tl nd 1 17 rfl (by decide)) (nd_tl nd 3 17 rfl (by decide))) B (by assumption) X (by assumption) T nd [0, 1, 2, 3, 4] [5, 6, 7, 8, 9, 10, 11, 12, 13, 14, 15, 16] 17 rfl (up_dp hdp (by decide)) (up_un hun (by decide)) rfl (by decide) ?_
  intro v news' h' tk' hPat4 F₂ N₂ ap₂
  refine goal_gen ?_; intro GG hGG
  obtain ⟨rfl, rfl⟩ := hPat4
  refine hGG ?_; clear hGG GG
  have N3 : News g L h' (led17 L x dx tb ck d rw bs p q h1 h2 t1 t2 qo o5 o4 o3 o2 o1 o8 rv nr bv nb ts nt cs nc od o6 o7 po tl) := fun z hz => N₂ z (by
    rcases List.mem_append.mp (show z ∈ pk (led17 L x dx tb ck d rw bs p q h1 h2 t1 t2 qo o5 o4 o3 o2 o1 o8 rv nr bv nb ts nt cs nc od o6 o7 po tl) [0, 1, 2, 3, 4, 5, 6, 7, 8, 9, 10, 11, 12, 13, 14, 15, 16] ++ tl from hz) with h | h
    · refine in_pk (all := (pk (led17 L x dx tb ck d rw bs p q h1 h2 t1 t2 qo o5 o4 o3 o2 o1 o8 rv nr bv nb ts nt cs nc od o6 o7 po tl) [0, 1, 2, 3, 4] ++ pk (led17 L x dx tb ck d rw bs p q h1 h2 t1 t2 qo o5 o4 o3 o2 o1 o8 rv nr bv nb ts nt cs nc od o6 o7 po tl) [5, 6, 7, 8, 9, 10, 11, 12, 13, 14, 15, 16]) ++ tl) [0, 1, 2, 3, 4, 5, 6, 7, 8, 9, 10, 11, 12, 13, 14, 15, 16] 17 z (List.mem_append_left _ h) |> fun h2 => ?_
      rcases List.mem_append.mp h2 with h3 | h3
      · rcases List.mem_append.mp h3 with h4 | h4
        · exact List.mem_append_left _ (List.mem_append_left _ h4)
        · exact List.mem_append_right _ h4
      · exact List.mem_append_left _ (List.mem_append_right [_, _, _, _, _] h3)
    · exact List.mem_append_left _ (List.mem_append_right [_, _, _, _, _] h))
  clear N₂ N F ap₂
  (((try k_fold); repeat' ((first | (k_unfold; (try dsimp only)) | (k_end; wrow_close) | walk1 | (dsimp only; walk1) | (dsimp only; k_unfold; (try dsimp only)) | (leave1; walk_say "STEP leave1"; try dsimp only)))))
  (with_reducible rename Fr _ _ _ _ => F'); (with_reducible rename News _ _ _ _ => N')
  rw [List.push_toArray, List.push_toArray] at N'
  exact Mid.intro F' N' ⟨_, _, rfl⟩ (fun _ h => h)
end


section
open PyProof.Rows.LSm
noncomputable def Inv (prog : Program) (w : World) (L x dx tb ck d rw bs p q : Addr) (h1 h2 : Int) (t1 t2 : Tok) (qo o8 o5 o4 o3 o2 o1 : Obj) (i : Nat) (nw : Led) : Prop :=
  ∃ (nt nc nr nb S : Nat) (ts cs rv bv : List Value) (od po o7 o6 : Obj) (tl : Led) (kvs : List (Int × Value)) (own vl : Int → Int) (bases : List Int) (Ms : List (List (Int × Int))) (v6 v7 : Option Value),
    nw = led17 L x dx tb ck d rw bs p q h1 h2 t1 t2 qo o5 o4 o3 o2 o1 o8 rv nr bv nb ts nt cs nc od o6 o7 po tl ∧ ND nw ∧ PenOk (1 + 27 * i) q po ∧ o6.data = .cell v6 ∧ o7.data = .cell v7 ∧ od.IsDictOf (intKind prog w) kvs ∧ kvs.length ≤ 4 * i ∧ CellsOk kvs tl own vl ∧ Tied kvs own vl S bases Ms ∧ S ≤ 10 * i ∧
    IntsAre ts (tabOf kvs vl S) ∧ IntsAre cs (tabOf kvs (fun c => own c + 1) S) ∧ IntsAre bv bases ∧ RowsIn prog w rv tl Ms ∧ Ms.length = i ∧ (1 ≤ i → kvs ≠ [])

set_option maxRecDepth 100000 in
set_option maxHeartbeats 4000000 in
theorem turn_ok {prog : Program} {w : World} {mean : ExcName → Option Value} {mg mb : Str → Option Value} {dp un : Nat} {gd : Option (List Code)} {outer : List Env} {A : Around} {base g : Heap} {L fa : Addr} {cdv : Value} {s : Shared} {h₁ : Heap} {tk : Nat} {m : Str → Option Value} {Q : Flow → Shared → Prop}
  {x dx tb ck d rw bs p q : Addr} {h1 h2 : Int} {t1 t2 : Tok} {qo o8 o5 o4 o3 o2 o1 : Obj} {I : Addr} {oI : Obj} {i : Nat} {t : Tok} {nw : Led}
  (B : Below A base outer g) (X : (hd.heap_39 w.params).In g) (T : Top hd.view_39 (looseW hd.view_39 []) mean mg mb g) (hdp : dp + 12 < recursionLimit) (hun : un + 8 * 12 + 200 < cLine) (c1 : o1.data = .cell (some (.ref p))) (c2 : o2.data = .cell (some (.ref x))) (c3 : o3.data = .cell (some (.ref d))) (c4 : o4.data = .cell (some (.ref rw))) (c5 : o5.data = .cell (some (.ref bs))) (hq : InnerOk qo) (lo : (d == sysModules) = false)
  (hi5 : i < 5) (hInv : Inv prog w L x dx tb ck d rw bs p q h1 h2 t1 t2 qo o8 o5 o4 o3 o2 o1 i nw) (off : ∀ z ∈ nw, @Ne Nat z.1 I) (F : Fr g L h₁ m) (N : News g L h₁ ((I, oI) :: nw)) :
  wpAny (model prog w) (lawA dp un gd L fa cdv outer lawScope) (storeName (lawE L fa cdv lawScope) (Str.ofString "number") (.int (i : Int) t))
    (fun _ s' => wpAny (model prog w) (lawA dp un gd L fa cdv outer lawScope) (execs turnBody (lawE L fa cdv lawScope)) (TurnEnd g L I oI (fun _ nw => Inv prog w L x dx tb ck d rw bs p q h1 h2 t1 t2 qo o8 o5 o4 o3 o2 o1 (i + 1) nw) { s with heap := h₁, toks := tk } Q) (fun _ _ => False) s') (fun _ _ => False) { s with heap := h₁, toks := tk } := by
  refine goal_gen ?_; intro GG hGG
  refine ex21 (hInv) ?_; clear hInv; intro nt nc nr nb S ts cs rv bv od po o7 o6 tl kvs own vl bases Ms v6 v7 hZz; refine an16 (hZz) ?_; clear hZz; intro hE21 nd hpen hc6 hc7 hod hkl hcells tied hS10 hti hci hbv hrows hMs _; subst hE21
  refine hGG ?_; clear hGG GG
  have nd0 : ND ((I, oI) :: led17 L x dx tb ck d rw bs p q h1 h2 t1 t2 qo o5 o4 o3 o2 o1 o8 rv nr bv nb ts nt cs nc od o6 o7 po tl) := nd_cons off nd
  have hS := tied.size
  have hown : ∀ k, (valueAt kvs k).isSome = true → 0 ≤ own k := fun k hk => (tied.owned k hk).1
  refine storeX_C F N rfl (updF_at nd0 12 rfl) hc6 ?_
  intro h₂ o6' F' N' hd6
  have nd1 : ND (led17 L x dx tb ck d rw bs p q h1 h2 t1 t2 qo o5 o4 o3 o2 o1 o8 rv nr bv nb ts nt cs nc od o6' o7 po ((I, oI) :: tl)) := nd_pk nd0 [1, 2, 3, 4, 5, 6, 7, 8, 9, 10, 11, 12, 13, 14, 15, 16, 17, 0] 18 (by decide) (by decide)
  have N1 : News g L h₂ (led17 L x dx tb ck d rw bs p q h1 h2 t1 t2 qo o5 o4 o3 o2 o1 o8 rv nr bv nb ts nt cs nc od o6' o7 po ((I, oI) :: tl)) := news_pk N' [1, 2, 3, 4, 5, 6, 7, 8, 9, 10, 11, 12, 13, 14, 15, 16, 17, 0] 18
  clear N' N F nd nd0
  dsimp only
  refine execs_cut 2 _ (segA B X T hdp hun F' N1 nd1 c1 hpen hq (by omega)) ?_
  intro h₃ tk₃ m₃ nw₃ F₃ N₃ hPat6
  refine goal_gen ?_; intro GG hGG
  refine ex9 (hPat6) ?_; clear hPat6; intro la lc va vc na nl as cc po₃ hZz; refine an8 (hZz) ?_; clear hZz; intro hE9 hE10 nd3 hva hvc hcola hcolc hpen3; subst hE9; subst hE10
  refine hGG ?_; clear hGG GG
  dsimp only
  refine execs_cut 1 _ (segB (vl := vl) B X T hdp hun F₃ N₃ nd3 c2 c3 hod lo hS (by omega) hown hci hva hcola) ?_
  intro h₄ tk₄ m₄ nw₄ F₄ N₄ hPat6
  refine goal_gen ?_; intro GG hGG
  obtain ⟨rfl, rfl⟩ := hPat6
  refine hGG ?_; clear hGG GG
  dsimp only
  rw [List.drop_drop]
  refine execs_cut 2 _ (segC (vl := vl) B X T hdp hun F₄ N₄ nd3 c1 c2 c3 hc7 hpen3 hq (by omega) hod lo hS (by omega) hown hci hva hcola) ?_
  intro h₅ tk₅ m₅ nw₅ F₅ N₅ hPat6
  refine goal_gen ?_; intro GG hGG
  refine ex3 (hPat6) ?_; clear hPat6; intro po₅ o7₅ v7₅ hZz; refine an4 (hZz) ?_; clear hZz; intro hE3 hE4 hc7₅ hpen5; subst hE3; subst hE4
  refine hGG ?_; clear hGG GG
  dsimp only
  rw [List.drop_drop]
  rw [mpo_swap (by decide)] at F₅
  have N5 : News g L h₅ (led17 L x dx tb ck d rw bs p q h1 h2 t1 t2 qo o5 o4 o3 o2 o1 o8 rv nr bv nb ts nt cs nc od o6' o7₅ po₅ ((lc, listOf vc.toArray nl) :: (I, oI) :: tl)) := news_pk N₅ [0, 1, 2, 3, 4, 5, 6, 7, 8, 9, 10, 11, 12, 13, 14, 15, 16, 18] 19
  have nd5 : ND (led17 L x dx tb ck d rw bs p q h1 h2 t1 t2 qo o5 o4 o3 o2 o1 o8 rv nr bv nb ts nt cs nc od o6' o7₅ po₅ ((lc, listOf vc.toArray nl) :: (I, oI) :: tl)) := nd_pk nd3 [0, 1, 2, 3, 4, 5, 6, 7, 8, 9, 10, 11, 12, 13, 14, 15, 16, 18] 19 (by decide) (by decide)
  clear N₅ N₄ N₃ F₄ F₃ N1 F' nd3 nd1
  refine execs_cut 1 _ (segD B X T hdp hun F₅ N5 nd5 c1 hpen5 hq (by omega) hvc hcolc) ?_
  intro h₆ tk₆ m₆ nw₆ F₆ N₆ hPat6
  refine goal_gen ?_; intro GG hGG
  refine ex5 (hPat6) ?_; clear hPat6; intro po₆ r ro kr M hZz; refine an8 (hZz) ?_; clear hZz; intro hE5 hE6 nd6 hpen6 hro lor hkr hM; subst hE5; subst hE6
  refine hGG ?_; clear hGG GG
  dsimp only
  rw [List.drop_drop]
  have hperm : (M.map (·.1)).Perm cc := hM ▸ List.reverse_perm cc
  refine execs_cut 2 _ (segE (i := i) B X T hdp hun F₆ N₆ nd6 c2 c3 hd6 hc7₅ hi5 hod lo hS (by omega) hown hti hci hvc hcolc hro lor hkr hM) ?_
  intro h₇ tk₇ m₇ nw₇ F₇ N₇ hPat6
  refine goal_gen ?_; intro GG hGG
  refine ex7 (hPat6) ?_; clear hPat6; intro b t7 o7₇ ts' cs' nt' nc' hZz; refine an7 (hZz) ?_; clear hZz; intro hE7 hE8 hc7₇ hfit hbS hti7 hci7; subst hE7; subst hE8
  refine hGG ?_; clear hGG GG
  dsimp only
  rw [List.drop_drop]
  have hfree := hfit.free
  have nd7 : ND (led17 L x dx tb ck d rw bs p q h1 h2 t1 t2 qo o5 o4 o3 o2 o1 o8 rv nr bv nb ts' nt' cs' nc' od o6' o7₇ po₆ ((r, ro) :: (lc, listOf vc.toArray nl) :: (I, oI) :: tl)) := nd6
  have hb0 : ∀ c ∈ cc, 0 ≤ b + c := fun c hc => by have := asc_head hcolc.2.1 c hc; have := hfit.1; omega
  refine execs_cut 1 _ (segF (i := i) (own := own) (vl := vl) B X T hdp hun F₇ N₇ nd7 c3 hd6 hc7₇ hod lo (by omega) hcells hvc hcolc hfree hro hkr hM) ?_
  intro h₈ tk₈ m₈ nw₈ F₈ N₈ hPat6
  refine goal_gen ?_; intro GG hGG
  refine ex3 (hPat6) ?_; clear hPat6; intro od' kvs' tps hZz; refine an7 (hZz) ?_; clear hZz; intro hm8 hE4 nd8 hod' hkl' hmem hcells'; subst hE4
  refine hGG ?_; clear hGG GG
  dsimp only
  rw [List.drop_drop]
  obtain ⟨m₉, rfl⟩ := hm8.top (by decide)
  have tied' := tied.step (M := M) hcolc hperm hb0 hfree hmem
  rw [hMs] at tied'
  have hti8 : IntsAre ts' (tabOf kvs' (vlU vl b M cc) (max S (b + cc.getLastD 0 + 1).toNat)) := tab_step (f := fun c => (M.lookup c).getD 0) (g := vl) (g' := vlU vl b M cc) (last := cc.getLastD 0) hb0 hS.lo hmem (fun k => rfl) ▸ hti7
  have hci8 : IntsAre cs' (tabOf kvs' (fun c => ownU own b i cc c + 1) (max S (b + cc.getLastD 0 + 1).toNat)) := tab_step (f := fun _ => (i : Int) + 1) (g := fun c => own c + 1) (last := cc.getLastD 0) (g' := fun c => ownU own b i cc c + 1) hb0 hS.lo hmem (fun k => by unfold ownU; split <;> rfl) ▸ hci7
  have hlast : cc.getLastD 0 ≤ 9 := by have := hcolc.2.2.1 _ (last_mem hcolc.1); omega
  have hrvl : rv.length ≤ 5 := by rw [hrows.1]; omega
  have hbvl : bv.length ≤ 5 := by rw [hbv.length, tied.len]; omega
  clear N₇ F₇ N₆ F₆ N5 F₅ nd7 nd6 nd5
  refine wpAny_mono (segG (Q := TurnEnd g L I oI (fun _ nw => Inv prog w L x dx tb ck d rw bs p q h1 h2 t1 t2 qo o8 o5 o4 o3 o2 o1 (i + 1) nw) { s with heap := h₁, toks := tk } Q) (S := max S (b + cc.getLastD 0 + 1).toNat) (kvs := kvs') B X T hdp hun F₈ N₈ nd8 c2 c3 c4 c5 hc7₇ hod' lo (hcells'.mono fun z h => .tail _ (.tail _ ((List.mem_append.mp h).elim (List.mem_append_left _) fun h => List.mem_append_right _ (.tail _ h)))) tied'.size (by omega) (fun k hk => (tied'.owned k hk).1) hti8 hci8 hrvl hbvl) (fun fl s' hfl => ?_) fun _ _ e => e
  cases fl with
  | ret v => exact hfl
  | brk => exact hfl
  | cont => exact hfl
  | next =>
    refine goal_gen ?_; intro GG hGG
    obtain ⟨h', tk', m', nw', rfl, F₉, N₉, nr', nb', rfl⟩ := hfl
    refine hGG ?_; clear hGG GG
    have sub : (tps ++ tl).Sublist (tps ++ (I, oI) :: tl) := (List.sublist_cons_self (I, oI) tl).append_left tps
    refine ⟨h', tk', m', led17 L x dx tb ck d rw bs p q h1 h2 t1 t2 qo o5 o4 o3 o2 o1 o8 ((rv ++ [Value.ref r])) nr' ((bv ++ [Value.int b t7])) nb' ts' nt' cs' nc' od' o6' o7₇ po₆ ((r, ro) :: (tps ++ tl)), rfl, F₉, fun z hz => ?_, ?_, ?_⟩
    · rcases List.mem_cons.mp hz with rfl | hz
      · exact N₉ _ (List.mem_of_mem_drop (i := 19) (show (I, oI) ∈ tps ++ (I, oI) :: tl from List.mem_append_right _ (.head _)))
      · exact news_pks N₉ [0, 1, 2, 3, 4, 5, 6, 7, 8, 9, 10, 11, 12, 13, 14, 15, 16, 17] 19 (t := tps ++ tl) sub z hz
    · exact nd_out (all := led17 L x dx tb ck d rw bs p q h1 h2 t1 t2 qo o5 o4 o3 o2 o1 o8 ((rv ++ [Value.ref r])) nr' ((bv ++ [Value.int b t7])) nb' ts' nt' cs' nc' od' o6' o7₇ po₆ ((r, ro) :: (lc, listOf vc.toArray nl) :: (tps ++ (I, oI) :: tl))) nd8 [0, 1, 2, 3, 4, 5, 6, 7, 8, 9, 10, 11, 12, 13, 14, 15, 16, 17] 19 (a := tps) (b := tl) (x := (I, oI)) rfl (by decide)
    · refine ⟨nt', nc', nr', nb', _, ts', cs', rv ++ [Value.ref r], bv ++ [Value.int b t7], od', po₆, o7₇, o6', (r, ro) :: (tps ++ tl), kvs', _, _, bases ++ [b], Ms ++ [M], _, _, rfl,
        nd_pks nd8 [0, 1, 2, 3, 4, 5, 6, 7, 8, 9, 10, 11, 12, 13, 14, 15, 16, 17] 19 (t := tps ++ tl) sub (by decide) (by decide), ?_, hd6, hc7₇, hod', by omega, ?_, tied', by omega, hti8, hci8, hbv.append (.cons _ _ .nil), ?_, by rw [List.length_append, hMs]; rfl, fun _ e => ?_⟩
      · have e : 1 + 27 * i + 22 + 1 + 4 = 1 + 27 * (i + 1) := by omega
        exact e ▸ hpen6
      · exact hcells'.mono fun _ h => .tail _ h
      · exact (hrows.mono fun _ h => .tail _ (List.mem_append_right _ h)).snoc (.head _) hro hkr lor
      · have hk := (hmem (b + cc.getLastD 0)).mpr (.inr (by rw [show b + cc.getLastD 0 - b = cc.getLastD 0 by omega]; exact last_mem hcolc.1))
        rw [e] at hk; cases hk
end


section
open PyProof.Rows.LSm
theorem Inv.start {prog : Program} {w : World} {L x dx tb ck d rw bs p q : Addr} {h1 h2 : Int} {t1 t2 : Tok} {od po qo o8 o7 o6 o5 o4 o3 o2 o1 : Obj} {nw : Led} (e : nw = led17 L x dx tb ck d rw bs p q h1 h2 t1 t2 qo o5 o4 o3 o2 o1 o8 ([]) 0 ([]) 0 ([]) 0 ([]) 0 od o6 o7 po ([])) (nd : ND nw)
    (hp : PenOk 1 q po) {v6 v7 : Option Value} (h6 : o6.data = .cell v6) (h7 : o7.data = .cell v7) (hod : od.IsDictOf (intKind prog w) []) : Inv prog w L x dx tb ck d rw bs p q h1 h2 t1 t2 qo o8 o5 o4 o3 o2 o1 0 nw :=
  ⟨0, 0, 0, 0, 0, [], [], [], [], od, po, o7, o6, [], [], fun _ => 0, fun _ => 0, [], [], v6, v7, e, nd, hp, h6, h7, hod, Nat.le_refl _, fun k v hv => (by cases hv), Tied.nil, Nat.le_refl _, .nil, .nil, .nil, ⟨rfl, fun j hj => (by cases hj)⟩, rfl, fun h => (by cases h)⟩

set_option maxRecDepth 100000 in
set_option maxHeartbeats 4000000 in
theorem loop_ok {prog : Program} {w : World} {mean : ExcName → Option Value} {mg mb : Str → Option Value} {dp un : Nat} {gd : Option (List Code)} {outer : List Env} {A : Around} {base g : Heap} {L fa : Addr} {cdv : Value} {s : Shared} {h₁ : Heap} {tk : Nat} {m : Str → Option Value} {Q : Flow → Shared → Prop}
  {x dx tb ck d rw bs p q : Addr} {h1 h2 : Int} {t1 t2 : Tok} {nt nc nr nb : Nat} {ts cs rv bv : List Value} {od po qo o8 o7 o6 o5 o4 o3 o2 o1 : Obj} {tl : Led} 
  (B : Below A base outer g) (X : (hd.heap_39 w.params).In g) (T : Top hd.view_39 (looseW hd.view_39 []) mean mg mb g) (hdp : dp + 12 < recursionLimit) (hun : un + 8 * 12 + 200 < cLine) (F : Fr g L h₁ m) (N : News g L h₁ (led17 L x dx tb ck d rw bs p q h1 h2 t1 t2 qo o5 o4 o3 o2 o1 o8 ([]) 0 ([]) 0 ([]) 0 ([]) 0 od o6 o7 po ([]))) (nd : ND (led17 L x dx tb ck d rw bs p q h1 h2 t1 t2 qo o5 o4 o3 o2 o1 o8 ([]) 0 ([]) 0 ([]) 0 ([]) 0 od o6 o7 po ([])))
  (c1 : o1.data = .cell (some (.ref p))) (c2 : o2.data = .cell (some (.ref x))) (c3 : o3.data = .cell (some (.ref d))) (c4 : o4.data = .cell (some (.ref rw))) (c5 : o5.data = .cell (some (.ref bs))) (hq : InnerOk qo) (lo : (d == sysModules) = false)
  (hp : PenOk 0 q po) {v6 v7 : Option Value} (h6 : o6.data = .cell v6) (h7 : o7.data = .cell v7) (hod : od.IsDictOf (intKind prog w) []) :
  wpAny (model prog w) (lawA dp un gd L fa cdv outer lawScope) (execs ((lawBody.drop 2).take 1) (lawE L fa cdv lawScope))
    (Mid g L s (fun _ nw => ∃ n : Nat, 1 ≤ n ∧ n ≤ 5 ∧ Inv prog w L x dx tb ck d rw bs p q h1 h2 t1 t2 qo o8 o5 o4 o3 o2 o1 n nw) Q) (fun _ _ => False) { s with heap := h₁, toks := tk } := by
  have hpq : @Ne Nat p q := nd_ne nd 7 8 rfl rfl (by decide)
  ((refine as_one (fun l => wpAny _ _ (execs l _) _ _ _) rfl ?_; refine as_scope (fun sc => wpAny _ (lawA _ _ _ _ _ _ _ sc) (execs _ (lawE _ _ _ sc)) _ _ _) rfl ?_))
  (first | (k_unfold; (try dsimp only)) | (k_end; wrow_close) | walk1 | (dsimp only; walk1) | (dsimp only; k_unfold; (try dsimp only)) | (leave1; walk_say "STEP leave1"; try dsimp only))
  refine wpAny_For ?_ (by intro _; rfl)
  (((try k_fold); iterate 15 ((first | (k_unfold; (try dsimp only)) | (k_end; wrow_close) | walk1 | (dsimp only; walk1) | (dsimp only; k_unfold; (try dsimp only)) | (leave1; walk_say "STEP leave1"; try dsimp only)))))
  refine Spec.useI (draw_spec (k := 0) hp hq (by omega) hpq (by decide) (by decide)) B (by assumption) X (by assumption) T nd [7, 8] [0, 1, 2, 3, 4, 5, 6, 9, 10, 11, 12, 13, 14, 15, 16] 17 rfl (up_dp hdp (by decide)) (up_un hun (by decide)) rfl (by decide) ?_
  intro v news' h' tk' hPat4 F₂ N₂ ap₂
  refine goal_gen ?_; intro GG hGG
  refine ex3 (hPat4) ?_; clear hPat4; intro e t' po' hZz; refine an5 (hZz) ?_; clear hZz; intro hE3 hd0 hd1 hE6 hpen'; subst hE3; subst hE6
  refine hGG ?_; clear hGG GG
  have N3 : News g L h' (led17 L x dx tb ck d rw bs p q h1 h2 t1 t2 qo o5 o4 o3 o2 o1 o8 ([]) 0 ([]) 0 ([]) 0 ([]) 0 od o6 o7 po' ([])) := news_pk N₂ [2, 3, 4, 5, 6, 7, 8, 0, 1, 9, 10, 11, 12, 13, 14, 15, 16] 17
  have nd2 : ND (led17 L x dx tb ck d rw bs p q h1 h2 t1 t2 qo o5 o4 o3 o2 o1 o8 ([]) 0 ([]) 0 ([]) 0 ([]) 0 od o6 o7 po' ([])) := nd
  clear N₂ N F ap₂ nd
  (((try k_fold); repeat' ((first | (k_unfold; (try dsimp only)) | (k_end; wrow_close) | walk1 | (dsimp only; walk1) | (dsimp only; k_unfold; (try dsimp only)) | (leave1; walk_say "STEP leave1"; try dsimp only)))))
  refine iter_range_cell (n := (1 + e).toNat) (fun i _ nw => Inv prog w L x dx tb ck d rw bs p q h1 h2 t1 t2 qo o8 o5 o4 o3 o2 o1 i nw) rfl (by assumption) (small_one (by omega) (by omega) (by omega) (by omega)) (by rw [rangeSize_nat]; omega) (by assumption) (by assumption) (Inv.start rfl nd2 hpen' h6 h7 hod) ?_ ?_
  · intro i t m₁ nw I oI h tk hi hJ off F₃ N₃
    rw [Int.zero_add]
    exact turn_ok B X T hdp hun c1 c2 c3 c4 c5 hq lo (by omega) hJ off F₃ N₃
  · intro m₁ nw h tk hJ F₃ N₃
    (((try k_fold); repeat' ((first | (k_unfold; (try dsimp only)) | (k_end; wrow_close) | walk1 | (dsimp only; walk1) | (dsimp only; k_unfold; (try dsimp only)) | (leave1; walk_say "STEP leave1"; try dsimp only)))))
    exact Mid.intro F₃ N₃ ⟨_, by omega, by omega, hJ⟩ (fun _ h => h)
end


section
open PyProof.Rows.LSm
set_option maxRecDepth 100000 in
set_option maxHeartbeats 4000000 in
theorem segH {prog : Program} {w : World} {mean : ExcName → Option Value} {mg mb : Str → Option Value} {base g : Heap} {L fa : Addr} {cdv : Value} {s : Shared} {h₁ : Heap} {tk : Nat} {m : Str → Option Value} {Q : Flow → Shared → Prop}
  {x dx tb ck d rw bs p q : Addr} {h1 h2 : Int} {t1 t2 : Tok} {nt nc nr nb : Nat} {ts cs rv bv : List Value} {od po qo o8 o7 o6 o5 o4 o3 o2 o1 : Obj} {tl : Led} {n : Nat}
  (B : Below callerA base [] g) (X : (hd.heap_39 w.params).In g) (T : Top hd.view_39 (looseW hd.view_39 []) mean mg mb g)
  (F : Fr g L h₁ m) (N : News g L h₁ (led17 L x dx tb ck d rw bs p q h1 h2 t1 t2 qo o5 o4 o3 o2 o1 o8 rv nr bv nb ts nt cs nc od o6 o7 po tl)) (nd : ND (led17 L x dx tb ck d rw bs p q h1 h2 t1 t2 qo o5 o4 o3 o2 o1 o8 rv nr bv nb ts nt cs nc od o6 o7 po tl))
  (c2 : o2.data = .cell (some (.ref x))) (c4 : o4.data = .cell (some (.ref rw))) (c5 : o5.data = .cell (some (.ref bs))) (c8 : o8.data = .cell none) (hrl : rv.length = n) (hn : n ≤ 5) :
  wpAny (model prog w) (lawA (callerA.depth + 1) (callerA.units + 3) (some []) L fa cdv [] lawScope) (execs ((lawBody.drop 3).take 1) (lawE L fa cdv lawScope))
    (Mid g L s (fun _ nw => ∃ (px dq ow : Addr) (o8' : Obj) (h3 h4 h5 h6 : Int) (t3 t4 t5 t6 : Tok) (ov : List Value) (no : Nat), nw = led17 L x dx tb ck d rw bs p q h1 h2 t1 t2 qo o5 o4 o3 o2 o1 o8' rv nr bv nb ts nt cs nc od o6 o7 po ((px, instObj 146 dq) :: (dq, packD h3 h4 h5 h6 t3 t4 t5 t6 bs tb ck ow) :: (ow, listOf ov.toArray no) :: tl) ∧ ND nw ∧
      o8'.data = .cell (some (.ref px)) ∧ IntsAre ov ((List.range n).map Int.ofNat)) Q) (fun _ _ => False) { s with heap := h₁, toks := tk } := by
  ((refine as_one (fun l => wpAny _ _ (execs l _) _ _ _) rfl ?_; refine as_scope (fun sc => wpAny _ (lawA _ _ _ _ _ _ _ sc) (execs _ (lawE _ _ _ sc)) _ _ _) rfl ?_))
  (((try k_fold); repeat' ((first | (k_unfold; (try dsimp only)) | (k_end; wrow_close) | walk1 | (dsimp only; walk1) | (dsimp only; k_unfold; (try dsimp only)) | (leave1; walk_say "STEP leave1"; try dsimp only)))))
  rename_i D vo co hA tA lD hI x' d' hB FB NB l1 l2 g' L' hC FG BB XX TT hD hE hF hG FF NN kF kN Tc kX
  clear FF NN TT XX BB FG NB FB
  have nd1 : ND ((D, listOf vo.toArray co) :: led17 L x dx tb ck d rw bs p q h1 h2 t1 t2 qo o5 o4 o3 o2 o1 o8 rv nr bv nb ts nt cs nc od o6 o7 po tl) := nd_lt (by first | exact lD | exact allLt_all lD) nd
  have nd2 : ND ((d', instObj 0 0) :: (D, listOf vo.toArray co) :: led17 L x dx tb ck d rw bs p q h1 h2 t1 t2 qo o5 o4 o3 o2 o1 o8 rv nr bv nb ts nt cs nc od o6 o7 po tl) := nd_lt (by first | exact l1 | exact allLt_all l1) nd1
  have nd3 : ND ((x', instObj 0 0) :: (d', instObj 0 0) :: (D, listOf vo.toArray co) :: led17 L x dx tb ck d rw bs p q h1 h2 t1 t2 qo o5 o4 o3 o2 o1 o8 rv nr bv nb ts nt cs nc od o6 o7 po tl) := nd_lt (fun z hz => by
    rcases List.mem_cons.mp hz with rfl | hz
    · exact l2
    · exact Nat.lt_trans (allLt_all (l := (D, listOf vo.toArray co) :: led17 L x dx tb ck d rw bs p q h1 h2 t1 t2 qo o5 o4 o3 o2 o1 o8 rv nr bv nb ts nt cs nc od o6 o7 po tl) l1 z hz) l2) nd2
  have nd4 : ND (led17 L x dx tb ck d rw bs p q h1 h2 t1 t2 qo o5 o4 o3 o2 o1 o8 rv nr bv nb ts nt cs nc od o6 o7 po ((x', instObj 146 d') :: (d', packD 0 0 0 0 0 0 0 0 bs tb ck D) :: (D, listOf vo.toArray co) :: tl)) := nd_pk nd3 [3, 4, 5, 6, 7, 8, 9, 10, 11, 12, 13, 14, 15, 16, 17, 18, 19, 0, 1, 2] 20 (by decide) (by decide)
  have N4 := news_pk kN [3, 4, 5, 6, 7, 8, 9, 10, 11, 12, 13, 14, 15, 16, 17, 18, 19, 0, 1, 2] 20
  refine storeX_C kF N4 rfl (updF_at (by exact nd4) 9 rfl) c8 ?_
  intro h9 o8' F9 N9 c8'
  clear kF kN N4
  have hI2 : IntsAre vo ((List.range n).map Int.ofNat) := by
    have e : rangeKs 0 ((rv.length : Int) - 0).toNat = (List.range n).map Int.ofNat := by
      unfold rangeKs
      rw [show ((rv.length : Int) - 0).toNat = n by omega]
      exact List.map_congr_left fun i _ => Int.zero_add _
    exact e ▸ hI
  (((try k_fold); repeat' ((first | (k_unfold; (try dsimp only)) | (k_end; wrow_close) | walk1 | (dsimp only; walk1) | (dsimp only; k_unfold; (try dsimp only)) | (leave1; walk_say "STEP leave1"; try dsimp only)))))
  exact Mid.intro F9 N9 ⟨x', d', D, o8', _, _, _, _, _, _, _, _, vo, co, rfl, by exact nd4, c8', hI2⟩ (fun _ h => h)
end


section
open PyProof.Rows.LSm
set_option maxRecDepth 100000 in
set_option maxHeartbeats 4000000 in
theorem segI {prog : Program} {w : World} {mean : ExcName → Option Value} {mg mb : Str → Option Value} {dp un : Nat} {gd : Option (List Code)} {outer : List Env} {A : Around} {base g : Heap} {L fa : Addr} {cdv : Value} {s : Shared} {h₁ : Heap} {tk : Nat} {m : Str → Option Value} {Q : Flow → Shared → Prop}
  {x dx tb ck d rw bs p q : Addr} {h1 h2 : Int} {t1 t2 : Tok} {nt nc nr nb : Nat} {ts cs rv bv : List Value} {od po qo o8 o7 o6 o5 o4 o3 o2 o1 : Obj} {tl : Led} {S : Nat} {kvs : List (Int × Value)} {own vl : Int → Int} {bases : List Int} {Ms : List (List (Int × Int))} {px dq ow : Addr} {h3 h4 h5 h6 : Int} {t3 t4 t5 t6 : Tok} {ov : List Value} {no : Nat}
  (B : Below A base outer g) (X : (hd.heap_39 w.params).In g) (T : Top hd.view_39 (looseW hd.view_39 []) mean mg mb g) (hdp : dp + 12 < recursionLimit) (hun : un + 8 * 12 + 200 < cLine) (F : Fr g L h₁ m) (N : News g L h₁ (led17 L x dx tb ck d rw bs p q h1 h2 t1 t2 qo o5 o4 o3 o2 o1 o8 rv nr bv nb ts nt cs nc od o6 o7 po ((px, instObj 146 dq) :: (dq, packD h3 h4 h5 h6 t3 t4 t5 t6 bs tb ck ow) :: (ow, listOf ov.toArray no) :: tl))) (nd : ND (led17 L x dx tb ck d rw bs p q h1 h2 t1 t2 qo o5 o4 o3 o2 o1 o8 rv nr bv nb ts nt cs nc od o6 o7 po ((px, instObj 146 dq) :: (dq, packD h3 h4 h5 h6 t3 t4 t5 t6 bs tb ck ow) :: (ow, listOf ov.toArray no) :: tl)))
  (c3 : o3.data = .cell (some (.ref d))) (c4 : o4.data = .cell (some (.ref rw))) (c8 : o8.data = .cell (some (.ref px)))
  (hod : od.IsDictOf (intKind prog w) kvs) (lo : (d == sysModules) = false) (hne : kvs ≠ []) (tied : Tied kvs own vl S bases Ms) (hS5 : S < 400) (hM5 : Ms.length ≤ 5) 
  (hti : IntsAre ts (tabOf kvs vl S)) (hci : IntsAre cs (tabOf kvs (fun c => own c + 1) S)) (hbv : IntsAre bv bases) (hov : IntsAre ov ((List.range Ms.length).map Int.ofNat)) (hrows : RowsIn prog w rv tl Ms) :
  wpAny (model prog w) (lawA dp un gd L fa cdv outer lawScope) (execs ((lawBody.drop 4).take 1) (lawE L fa cdv lawScope))
    (Mid g L s (fun _ nw => nw = led17 L x dx tb ck d rw bs p q h1 h2 t1 t2 qo o5 o4 o3 o2 o1 o8 rv nr bv nb ts nt cs nc od o6 o7 po ((px, instObj 146 dq) :: (dq, packD h3 h4 h5 h6 t3 t4 t5 t6 bs tb ck ow) :: (ow, listOf ov.toArray no) :: tl)) Q) (fun _ _ => False) { s with heap := h₁, toks := tk } := by
  have hl0 : (tabOf kvs vl S).length = S := tabOf_length ..
  have hl1 : (tabOf kvs (fun c => own c + 1) S).length = S := tabOf_length ..
  have hS := tied.size
  have hknd : (kvs.map (·.1)).Nodup := by obtain ⟨_, _, _, _, _, _, h⟩ := id hod; exact h
  ((refine as_one (fun l => wpAny _ _ (execs l _) _ _ _) rfl ?_; refine as_scope (fun sc => wpAny _ (lawA _ _ _ _ _ _ _ sc) (execs _ (lawE _ _ _ sc)) _ _ _) rfl ?_))
  (((try k_fold); iterate 8 ((first | (k_unfold; (try dsimp only)) | (k_end; wrow_close) | walk1 | (dsimp only; walk1) | (dsimp only; k_unfold; (try dsimp only)) | (leave1; walk_say "STEP leave1"; try dsimp only)))))
  refine Spec.useI (unpacked_ok (r := Ms.length) (h1 := h3) (h2 := h4) (h3 := h5) (h4 := h6) (t1 := t3) (t2 := t4) (t3 := t5) (t4 := t6) (nb := nb) (nt := nt) (nc := nc) (no := no) hbv hti hci hov (by omega) (by omega) tied.len (by omega) tied.chk_own) B (by assumption) X (by assumption) T nd [17, 18, 6, 2, 3, 19] [0, 1, 4, 5, 7, 8, 9, 10, 11, 12, 13, 14, 15, 16] 20 rfl (up_dp hdp (by decide)) (up_un hun (by decide)) rfl (by decide) ?_
  intro v news' h' tk' hPat4 F₂ N₂ ap₂
  refine goal_gen ?_; intro GG hGG
  refine ex4 (hPat4) ?_; clear hPat4; intro l us nu led hZz; refine an3 (hZz) ?_; clear hZz; intro hE4 hE5 hus; subst hE4; subst hE5
  refine hGG ?_; clear hGG GG
  rw [hl1] at hus
  have N3 : News g L h' (led17 L x dx tb ck d rw bs p q h1 h2 t1 t2 qo o5 o4 o3 o2 o1 o8 rv nr bv nb ts nt cs nc od o6 o7 po ((px, instObj 146 dq) :: (dq, packD h3 h4 h5 h6 t3 t4 t5 t6 bs tb ck ow) :: (ow, listOf ov.toArray no) :: tl)) := news_back (is := [17, 18, 6, 2, 3, 19]) N₂ (fun z hz => .tail _ (List.mem_append_left led hz)) (by decide)
  have N4 : News g L h' ((l, listOf us.toArray nu) :: led ++ led17 L x dx tb ck d rw bs p q h1 h2 t1 t2 qo o5 o4 o3 o2 o1 o8 rv nr bv nb ts nt cs nc od o6 o7 po ((px, instObj 146 dq) :: (dq, packD h3 h4 h5 h6 t3 t4 t5 t6 bs tb ck ow) :: (ow, listOf ov.toArray no) :: tl)) := fun z hz => by
    rcases List.mem_append.mp hz with hz | hz
    · rcases List.mem_cons.mp hz with rfl | hz
      · exact N₂ _ (.head _)
      · exact N₂ z (List.mem_append_left _ (.tail _ (List.mem_append_right [_, _, _, _, _, _] hz)))
    · exact N3 z hz
  clear N₂ ap₂
  (first | (k_unfold; (try dsimp only)) | (k_end; wrow_close) | walk1 | (dsimp only; walk1) | (dsimp only; k_unfold; (try dsimp only)) | (leave1; walk_say "STEP leave1"; try dsimp only))
  have hUs : ∀ j, j < Ms.length → ((List.range Ms.length).map fun j => unp (tabOf kvs vl S) (tabOf kvs (fun c => own c + 1) S) (bases.getD j 0) j S).getD j [] = unp (tabOf kvs vl S) (tabOf kvs (fun c => own c + 1) S) (bases.getD j 0) j S := fun j hj => by
    rw [List.getD_eq_getElem?_getD, List.getElem?_map, List.getElem?_range hj]; rfl
  refine ne_refs (na := nu) (nb := nr) N4 (.head _) (List.mem_append_right _ (.tail _ (.tail _ (.tail _ (.tail _ (.tail _ (.head _))))))) (by rw [hus.length, hrows.1, List.length_map, List.length_range]) (by units_room)
    (helds_eq N4 hus hrows (fun z hz => List.mem_append_left _ (.tail _ hz)) (fun z hz => List.mem_append_right _ (List.mem_of_mem_drop (i := 20) hz)) (by rw [List.length_map, List.length_range]) (fun j hj => by rw [hUs j hj]; exact tied.unp_len hj) (fun j hj => by rw [hUs j hj]; exact tied.unp_hits hj) (by units_room)) ?_
  clear N4
  (((try k_fold); iterate 9 ((first | (k_unfold; (try dsimp only)) | (k_end; wrow_close) | walk1 | (dsimp only; walk1) | (dsimp only; k_unfold; (try dsimp only)) | (leave1; walk_say "STEP leave1"; try dsimp only)))))
  refine Spec.useI (cell_count_ok (h1 := h3) (h2 := h4) (h3 := h5) (h4 := h6) (t1 := t3) (t2 := t4) (t3 := t5) (t4 := t6) (bs := bs) (ck := ck) (ow := ow) (nt := nt) hti (by omega)) B (by assumption) X (by assumption) T nd [17, 18, 2] [0, 1, 3, 4, 5, 6, 7, 8, 9, 10, 11, 12, 13, 14, 15, 16, 19] 20 rfl (up_dp hdp (by decide)) (up_un hun (by decide)) rfl (by decide) ?_
  intro v news' h' tk' hPat4 F₃ N₄ ap₂
  refine goal_gen ?_; intro GG hGG
  refine an2 (hPat4) ?_; clear hPat4; intro hN0 hE1; obtain ⟨t9, rfl⟩ := hN0; subst hE1
  refine hGG ?_; clear hGG GG
  have N5 : News g L h' (led17 L x dx tb ck d rw bs p q h1 h2 t1 t2 qo o5 o4 o3 o2 o1 o8 rv nr bv nb ts nt cs nc od o6 o7 po ((px, instObj 146 dq) :: (dq, packD h3 h4 h5 h6 t3 t4 t5 t6 bs tb ck ow) :: (ow, listOf ov.toArray no) :: tl)) := news_back (is := [17, 18, 2]) N₄ (fun z hz => hz) (by decide)
  clear N₄ ap₂ N3 F₂
  rw [hl0]
  (((try k_fold); repeat' ((first | (k_unfold; (try dsimp only)) | (k_end; wrow_close) | walk1 | (dsimp only; walk1) | (dsimp only; k_unfold; (try dsimp only)) | (leave1; walk_say "STEP leave1"; try dsimp only)))))
  · exfalso
    have hM : _ + 1 = (S : Int) := hS.max (by assumption) (by assumption)
    have hx := ‹(S : Int) ≠ _›
    omega
  · clear N5
    (with_reducible rename News _ _ _ _ => N5)
    refine Spec.useI (gaps_ok (h1 := h3) (h2 := h4) (h3 := h5) (h4 := h6) (t1 := t3) (t2 := t4) (t3 := t5) (t4 := t6) (bs := bs) (tb := tb) (ow := ow) (nc := nc) hci (by omega)) B (by assumption) X N5 T nd [17, 18, 3] [0, 1, 2, 4, 5, 6, 7, 8, 9, 10, 11, 12, 13, 14, 15, 16, 19] 20 rfl (up_dp hdp (by decide)) (up_un hun (by decide)) rfl (by decide) ?_
    intro v news' h' tk' hPat4 F₃ N₄ ap₂
    refine goal_gen ?_; intro GG hGG
    refine an2 (hPat4) ?_; clear hPat4; intro hN0 hE1; obtain ⟨t9, rfl⟩ := hN0; subst hE1
    refine hGG ?_; clear hGG GG
    have N6 : News g L h' (led17 L x dx tb ck d rw bs p q h1 h2 t1 t2 qo o5 o4 o3 o2 o1 o8 rv nr bv nb ts nt cs nc od o6 o7 po ((px, instObj 146 dq) :: (dq, packD h3 h4 h5 h6 t3 t4 t5 t6 bs tb ck ow) :: (ow, listOf ov.toArray no) :: tl)) := news_back (is := [17, 18, 3]) N₄ (fun z hz => hz) (by decide)
    clear N₄ ap₂ N5
    (((try k_fold); iterate 17 ((first | (k_unfold; (try dsimp only)) | (k_end; wrow_close) | walk1 | (dsimp only; walk1) | (dsimp only; k_unfold; (try dsimp only)) | (leave1; walk_say "STEP leave1"; try dsimp only)))))
    have hgap := gaps_len tied hknd
    (with_reducible rename News _ _ _ _ => N7)
    refine kda_len N7 (.tail _ (.tail _ (.tail _ (.tail _ (.head _))))) hod lo (by omega) ?_
    (((try k_fold); repeat' ((first | (k_unfold; (try dsimp only)) | (k_end; wrow_close) | walk1 | (dsimp only; walk1) | (dsimp only; k_unfold; (try dsimp only)) | (leave1; walk_say "STEP leave1"; try dsimp only)))))
    · exfalso
      have hM : _ + 1 = (S : Int) := hS.max (by assumption) (by assumption)
      rename_i hx
      omega
    · (with_reducible rename Fr _ _ _ _ => F'); (with_reducible rename News _ _ _ _ => N')
      exact Mid.intro F' N' rfl (fun _ h => h)
end


section
open PyProof.Rows.LSm
noncomputable def wantL (M : List (Int × Int)) (n : Nat) : List (Option Int) := (List.range n).map fun (a : Nat) => M.lookup (-1 + (a : Int))
theorem wantL_succ (M : List (Int × Int)) (n : Nat) : wantL M (n + 1) = wantL M n ++ [M.lookup (-1 + (n : Int))] := by
  unfold wantL; rw [List.range_succ, List.map_append]; rfl
theorem owner_at {n i : Nat} (h : i < n) : ((List.range n).map Int.ofNat).getD i 0 = (i : Int) := by
  rw [List.getD_eq_getElem?_getD, List.getElem?_map, List.getElem?_range h]; rfl

set_option maxRecDepth 100000 in
set_option maxHeartbeats 4000000 in
theorem segJ {prog : Program} {w : World} {mean : ExcName → Option Value} {mg mb : Str → Option Value} {dp un : Nat} {gd : Option (List Code)} {outer : List Env} {A : Around} {base g : Heap} {L fa : Addr} {cdv : Value} {s : Shared} {h₁ : Heap} {tk : Nat} {m : Str → Option Value} {Q : Flow → Shared → Prop}
  {x dx tb ck d rw bs p q : Addr} {h1 h2 : Int} {t1 t2 : Tok} {nt nc nr nb : Nat} {ts cs rv bv : List Value} {od po qo o8 o7 o6 o5 o4 o3 o2 o1 : Obj} {tl : Led} {S i : Nat} {kvs : List (Int × Value)} {own vl : Int → Int} {bases : List Int} {Ms : List (List (Int × Int))} {px dq ow : Addr} {h3 h4 h5 h6 : Int} {t3 t4 t5 t6 u6 : Tok} {ov : List Value} {no : Nat}
  (B : Below A base outer g) (X : (hd.heap_39 w.params).In g) (T : Top hd.view_39 (looseW hd.view_39 []) mean mg mb g) (hdp : dp + 12 < recursionLimit) (hun : un + 8 * 12 + 200 < cLine) (F : Fr g L h₁ m) (N : News g L h₁ (led17 L x dx tb ck d rw bs p q h1 h2 t1 t2 qo o5 o4 o3 o2 o1 o8 rv nr bv nb ts nt cs nc od o6 o7 po ((px, instObj 146 dq) :: (dq, packD h3 h4 h5 h6 t3 t4 t5 t6 bs tb ck ow) :: (ow, listOf ov.toArray no) :: tl))) (nd : ND (led17 L x dx tb ck d rw bs p q h1 h2 t1 t2 qo o5 o4 o3 o2 o1 o8 rv nr bv nb ts nt cs nc od o6 o7 po ((px, instObj 146 dq) :: (dq, packD h3 h4 h5 h6 t3 t4 t5 t6 bs tb ck ow) :: (ow, listOf ov.toArray no) :: tl)))
  (c6 : o6.data = .cell (some (.int (i : Int) u6))) (c8 : o8.data = .cell (some (.ref px)))
  (tied : Tied kvs own vl S bases Ms) (hS5 : S < 400) (hM5 : Ms.length ≤ 5) (hi : i < Ms.length)
  (hti : IntsAre ts (tabOf kvs vl S)) (hci : IntsAre cs (tabOf kvs (fun c => own c + 1) S)) (hbv : IntsAre bv bases) (hov : IntsAre ov ((List.range Ms.length).map Int.ofNat)) :
  wpAny (model prog w) (lawA dp un gd L fa cdv outer lawScope) (execs (askBody.take 1) (lawE L fa cdv lawScope))
    (Mid g L s (fun m' nw => ∃ (an : Addr) (va : List Value) (na : Nat), m' = mpo [(Str.ofString "answer", .ref an)] m ∧ nw = led17 L x dx tb ck d rw bs p q h1 h2 t1 t2 qo o5 o4 o3 o2 o1 o8 rv nr bv nb ts nt cs nc od o6 o7 po ((px, instObj 146 dq) :: (dq, packD h3 h4 h5 h6 t3 t4 t5 t6 bs tb ck ow) :: (ow, listOf ov.toArray no) :: (an, listOf va.toArray na) :: tl) ∧ ND nw ∧ OptsAre va (wantL (Ms.getD i []) 13)) Q) (fun _ _ => False) { s with heap := h₁, toks := tk } := by
  have hl0 : (tabOf kvs vl S).length = S := tabOf_length ..
  have hl1 : (tabOf kvs (fun c => own c + 1) S).length = S := tabOf_length ..
  have hbl := tied.len
  ((refine as_one (fun l => wpAny _ _ (execs l _) _ _ _) rfl ?_; refine as_scope (fun sc => wpAny _ (lawA _ _ _ _ _ _ _ sc) (execs _ (lawE _ _ _ sc)) _ _ _) rfl ?_))
  iterate 13 ((first | (k_unfold; (try dsimp only)) | (k_end; wrow_close) | walk1 | (dsimp only; walk1) | (dsimp only; k_unfold; (try dsimp only)) | (leave1; walk_say "STEP leave1"; try dsimp only)))
  dsimp only
  refine LCg.CompSrc.range (n := 13) rfl (by assumption) (by assumption) (by assumption) (by decide) rfl (by decide) (fun g' => rest_of (fun j ys nw => nw = led17 L x dx tb ck d rw bs p q h1 h2 t1 t2 qo o5 o4 o3 o2 o1 o8 rv nr bv nb ts nt cs nc od o6 o7 po ((px, instObj 146 dq) :: (dq, packD h3 h4 h5 h6 t3 t4 t5 t6 bs tb ck ow) :: (ow, listOf ov.toArray no) :: tl) ∧ OptsAre ys (wantL (Ms.getD i []) j)) ?_ ?_ 13 0 [] _ (Nat.zero_add _) ⟨rfl, .nil⟩)
  · intro j v ys nw I oI C oC D m₂ h tk E' hin hP hJ hC hx F₂ N₂ off ne
    obtain ⟨t, rfl⟩ := hP
    obtain ⟨rfl, hys⟩ := hJ
    have nd2 : ND ((I, oI) :: (C, oC) :: (D, LCg.lst ys) :: led17 L x dx tb ck d rw bs p q h1 h2 t1 t2 qo o5 o4 o3 o2 o1 o8 rv nr bv nb ts nt cs nc od o6 o7 po ((px, instObj 146 dq) :: (dq, packD h3 h4 h5 h6 t3 t4 t5 t6 bs tb ck ow) :: (ow, listOf ov.toArray no) :: tl)) := nd_off3 nd off ne
    (((try k_fold); iterate 11 ((first | (k_unfold; (try dsimp only)) | (k_end; wrow_close) | walk1 | (dsimp only; walk1) | (dsimp only; k_unfold; (try dsimp only)) | (leave1; walk_say "STEP leave1"; try dsimp only)))))
    refine Spec.useI (get_ok (nb := nb) (nt := nt) (nc := nc) (no := no) (h1 := h3) (h2 := h4) (h3 := h5) (h4 := h6) (t1 := t3) (t2 := t4) (t3 := t5) (t4 := t6) hbv hti hci hov (by omega) (by omega) (by omega) (by omega) (by omega) (by rw [List.length_map, List.length_range, hbl])
      (nd_ne nd2 9 20 rfl rfl (by decide)) (nd_ne nd2 9 21 rfl rfl (by decide)) (nd_ne nd2 9 22 rfl rfl (by decide)) (nd_ne nd2 5 20 rfl rfl (by decide)) (nd_ne nd2 5 21 rfl rfl (by decide)) (nd_ne nd2 5 22 rfl rfl (by decide)) (nd_ne nd2 6 20 rfl rfl (by decide)) (nd_ne nd2 6 21 rfl rfl (by decide)) (nd_ne nd2 6 22 rfl rfl (by decide)))
      B (by assumption) X (by assumption) T nd2 [20, 21, 9, 5, 6, 22] [0, 1, 2, 3, 4, 7, 8, 10, 11, 12, 13, 14, 15, 16, 17, 18, 19] 23 rfl (up_dp hdp (by decide)) (up_un hun (by decide)) rfl (by decide) ?_
    intro v news' h' tk' hPat4 F₃ N₃ ap₃
    refine goal_gen ?_; intro GG hGG
    obtain ⟨hv, rfl⟩ := hPat4
    refine hGG ?_; clear hGG GG
    have N4 : News g L h' ((I, oI) :: (C, oC) :: (D, LCg.lst ys) :: led17 L x dx tb ck d rw bs p q h1 h2 t1 t2 qo o5 o4 o3 o2 o1 o8 rv nr bv nb ts nt cs nc od o6 o7 po ((px, instObj 146 dq) :: (dq, packD h3 h4 h5 h6 t3 t4 t5 t6 bs tb ck ow) :: (ow, listOf ov.toArray no) :: tl)) := news_back (is := [20, 21, 9, 5, 6, 22]) N₃ (fun z hz => hz) (by decide)
    rw [Int.toNat_natCast, owner_at hi] at hv
    clear N₃ ap₃
    (((try k_fold); repeat' ((first | (k_unfold; (try dsimp only)) | (k_end; wrow_close) | walk1 | (dsimp only; walk1) | (dsimp only; k_unfold; (try dsimp only)) | (leave1; walk_say "STEP leave1"; try dsimp only)))))
    exact LCg.CompEnd.intro F₃ N4 _ (fun _ h => h) off trivial ⟨rfl, by rw [wantL_succ]; exact hys.snoc (tied.look hi hv)⟩
  · intro ys nw hPat2
    refine goal_gen ?_; intro GG hGG
    obtain ⟨rfl, hys⟩ := hPat2
    refine hGG ?_; clear hGG GG
    intro D h' tk' F₂ N₂ off
    have nd2 : ND ((D, LCg.lst ys) :: led17 L x dx tb ck d rw bs p q h1 h2 t1 t2 qo o5 o4 o3 o2 o1 o8 rv nr bv nb ts nt cs nc od o6 o7 po ((px, instObj 146 dq) :: (dq, packD h3 h4 h5 h6 t3 t4 t5 t6 bs tb ck ow) :: (ow, listOf ov.toArray no) :: tl)) := nd_cons (off1_all off) nd
    have N3 : News g L h' (led17 L x dx tb ck d rw bs p q h1 h2 t1 t2 qo o5 o4 o3 o2 o1 o8 rv nr bv nb ts nt cs nc od o6 o7 po ((px, instObj 146 dq) :: (dq, packD h3 h4 h5 h6 t3 t4 t5 t6 bs tb ck ow) :: (ow, listOf ov.toArray no) :: (D, LCg.lst ys) :: tl)) := news_pk N₂ [1, 2, 3, 4, 5, 6, 7, 8, 9, 10, 11, 12, 13, 14, 15, 16, 17, 18, 19, 20, 0] 21
    clear N₂
    (((try k_fold); repeat' ((first | (k_unfold; (try dsimp only)) | (k_end; wrow_close) | walk1 | (dsimp only; walk1) | (dsimp only; k_unfold; (try dsimp only)) | (leave1; walk_say "STEP leave1"; try dsimp only)))))
    exact Mid.intro F₂ N3 ⟨D, ys, _, rfl, rfl, nd_pk nd2 [1, 2, 3, 4, 5, 6, 7, 8, 9, 10, 11, 12, 13, 14, 15, 16, 17, 18, 19, 20, 0] 21 (by decide) (by decide), hys⟩ (fun _ h => h)

set_option maxRecDepth 100000 in
set_option maxHeartbeats 4000000 in
theorem segK {prog : Program} {w : World} {mean : ExcName → Option Value} {mg mb : Str → Option Value} {dp un : Nat} {gd : Option (List Code)} {outer : List Env} {A : Around} {base g : Heap} {L fa : Addr} {cdv : Value} {s : Shared} {h₁ : Heap} {tk : Nat} {m : Str → Option Value} {Q : Flow → Shared → Prop}
  {x dx tb ck d rw bs p q : Addr} {h1 h2 : Int} {t1 t2 : Tok} {nt nc nr nb : Nat} {ts cs rv bv : List Value} {od po qo o8 o7 o6 o5 o4 o3 o2 o1 : Obj} {tl : Led} {i : Nat} {Ms : List (List (Int × Int))} {px dq ow an : Addr} {h3 h4 h5 h6 : Int} {t3 t4 t5 t6 u6 : Tok} {ov va : List Value} {no na : Nat}
  (B : Below A base outer g) (X : (hd.heap_39 w.params).In g) (T : Top hd.view_39 (looseW hd.view_39 []) mean mg mb g) (hdp : dp + 12 < recursionLimit) (hun : un + 8 * 12 + 200 < cLine) (F : Fr g L h₁ (mpo [(Str.ofString "answer", .ref an)] m)) (N : News g L h₁ (led17 L x dx tb ck d rw bs p q h1 h2 t1 t2 qo o5 o4 o3 o2 o1 o8 rv nr bv nb ts nt cs nc od o6 o7 po ((px, instObj 146 dq) :: (dq, packD h3 h4 h5 h6 t3 t4 t5 t6 bs tb ck ow) :: (ow, listOf ov.toArray no) :: (an, listOf va.toArray na) :: tl))) (nd : ND (led17 L x dx tb ck d rw bs p q h1 h2 t1 t2 qo o5 o4 o3 o2 o1 o8 rv nr bv nb ts nt cs nc od o6 o7 po ((px, instObj 146 dq) :: (dq, packD h3 h4 h5 h6 t3 t4 t5 t6 bs tb ck ow) :: (ow, listOf ov.toArray no) :: (an, listOf va.toArray na) :: tl)))
  (c4 : o4.data = .cell (some (.ref rw))) (c6 : o6.data = .cell (some (.int (i : Int) u6)))
  (hM5 : Ms.length ≤ 5) (hi : i < Ms.length) (hrows : RowsIn prog w rv tl Ms) (hva : OptsAre va (wantL (Ms.getD i []) 13)) :
  wpAny (model prog w) (lawA dp un gd L fa cdv outer lawScope) (execs ((askBody.drop 1).take 1) (lawE L fa cdv lawScope))
    (Mid g L s (fun m' nw => m' = mpo [(Str.ofString "answer", .ref an)] m ∧ nw = led17 L x dx tb ck d rw bs p q h1 h2 t1 t2 qo o5 o4 o3 o2 o1 o8 rv nr bv nb ts nt cs nc od o6 o7 po ((px, instObj 146 dq) :: (dq, packD h3 h4 h5 h6 t3 t4 t5 t6 bs tb ck ow) :: (ow, listOf ov.toArray no) :: (an, listOf va.toArray na) :: tl)) Q) (fun _ _ => False) { s with heap := h₁, toks := tk } := by
  have hrl := hrows.1
  refine goal_gen ?_; intro GG hGG
  refine ex3 (hrows.2 i hi) ?_; intro ra ro kr hZz; refine an5 (hZz) ?_; clear hZz; intro hr1 hr2 hro hkr lor
  refine hGG ?_; clear hGG GG
  have hr1' : rv[((i : Nat) : Int).toNat]? = some (.ref ra) := by rw [Int.toNat_natCast]; exact hr1
  ((refine as_one (fun l => wpAny _ _ (execs l _) _ _ _) rfl ?_; refine as_scope (fun sc => wpAny _ (lawA _ _ _ _ _ _ _ sc) (execs _ (lawE _ _ _ sc)) _ _ _) rfl ?_))
  iterate 16 ((first | (k_unfold; (try dsimp only)) | (k_end; wrow_close) | walk1 | (dsimp only; walk1) | (dsimp only; k_unfold; (try dsimp only)) | (leave1; walk_say "STEP leave1"; try dsimp only)))
  dsimp only
  refine LCg.CompSrc.range (n := 13) rfl (by assumption) (by assumption) (by assumption) (by decide) rfl (by decide) (fun g' => rest_of (fun j ys nw => nw = led17 L x dx tb ck d rw bs p q h1 h2 t1 t2 qo o5 o4 o3 o2 o1 o8 rv nr bv nb ts nt cs nc od o6 o7 po ((px, instObj 146 dq) :: (dq, packD h3 h4 h5 h6 t3 t4 t5 t6 bs tb ck ow) :: (ow, listOf ov.toArray no) :: (an, listOf va.toArray na) :: tl) ∧ OptsAre ys (wantL (Ms.getD i []) j)) ?_ ?_ 13 0 [] _ (Nat.zero_add _) ⟨rfl, .nil⟩)
  · intro j v ys nw I oI C oC D m₂ h tk E' hin hP hJ hC hx F₂ N₂ off ne
    obtain ⟨t, rfl⟩ := hP
    obtain ⟨rfl, hys⟩ := hJ
    have hmem : ∀ z ∈ tl, z ∈ (I, oI) :: (C, oC) :: (D, LCg.lst ys) :: led17 L x dx tb ck d rw bs p q h1 h2 t1 t2 qo o5 o4 o3 o2 o1 o8 rv nr bv nb ts nt cs nc od o6 o7 po ((px, instObj 146 dq) :: (dq, packD h3 h4 h5 h6 t3 t4 t5 t6 bs tb ck ow) :: (ow, listOf ov.toArray no) :: (an, listOf va.toArray na) :: tl) := fun z hz => List.mem_of_mem_drop (i := 24) hz
    (((try k_fold); iterate 6 ((first | (k_unfold; (try dsimp only)) | (k_end; wrow_close) | walk1 | (dsimp only; walk1) | (dsimp only; k_unfold; (try dsimp only)) | (leave1; walk_say "STEP leave1"; try dsimp only)))))
    (with_reducible rename News _ _ _ _ => N₃)
    refine kdg_method N₃ (hmem _ hr2) hro ?_
    (((try k_fold); iterate 4 ((first | (k_unfold; (try dsimp only)) | (k_end; wrow_close) | walk1 | (dsimp only; walk1) | (dsimp only; k_unfold; (try dsimp only)) | (leave1; walk_say "STEP leave1"; try dsimp only)))))
    (with_reducible rename News _ _ _ _ => N₃)
    refine kdg_get1 N₃ (hmem _ hr2) hro lor (intKind_is _ _ _ _) (valueAt kr (-1 + (j : Int))) rfl ?_
    (((try k_fold); repeat' ((first | (k_unfold; (try dsimp only)) | (k_end; wrow_close) | walk1 | (dsimp only; walk1) | (dsimp only; k_unfold; (try dsimp only)) | (leave1; walk_say "STEP leave1"; try dsimp only)))))
    (with_reducible rename Fr _ _ _ _ => F₄); (with_reducible rename News _ _ _ _ => N₄)
    exact LCg.CompEnd.intro F₄ N₄ _ (fun _ h => h) off trivial ⟨rfl, by rw [wantL_succ]; exact hys.snoc (hkr.get _)⟩
  · intro ys nw hPat2
    refine goal_gen ?_; intro GG hGG
    obtain ⟨rfl, hys⟩ := hPat2
    refine hGG ?_; clear hGG GG
    intro D h' tk' F₂ N₂ off
    refine ne_opts (na := na) (nb := ys.length) N₂ (.tail _ (by k_memK)) (.head _) hva hys (by units_room) ?_
    (((try k_fold); repeat' ((first | (k_unfold; (try dsimp only)) | (k_end; wrow_close) | walk1 | (dsimp only; walk1) | (dsimp only; k_unfold; (try dsimp only)) | (leave1; walk_say "STEP leave1"; try dsimp only)))))
    (with_reducible rename Fr _ _ _ _ => F'); (with_reducible rename News _ _ _ _ => N')
    exact Mid.intro F' N' ⟨rfl, rfl⟩ (fun _ hz => .tail _ hz)
end


section
open PyProof.Rows.LSm
set_option maxRecDepth 100000 in
set_option maxHeartbeats 4000000 in
theorem segL {prog : Program} {w : World} {mean : ExcName → Option Value} {mg mb : Str → Option Value} {dp un : Nat} {gd : Option (List Code)} {outer : List Env} {A : Around} {base g : Heap} {L fa : Addr} {cdv : Value} {s : Shared} {h₁ : Heap} {tk : Nat} {m : Str → Option Value} {Q : Flow → Shared → Prop}
  {x dx tb ck d rw bs p q : Addr} {h1 h2 : Int} {t1 t2 : Tok} {nt nc nr nb : Nat} {ts cs rv bv : List Value} {od po qo o8 o7 o6 o5 o4 o3 o2 o1 : Obj} {tl : Led} {S i : Nat} {kvs : List (Int × Value)} {own vl : Int → Int} {bases : List Int} {Ms : List (List (Int × Int))} {px dq ow an : Addr} {h3 h4 h5 h6 : Int} {t3 t4 t5 t6 u6 : Tok} {ov va : List Value} {no na : Nat}
  (B : Below A base outer g) (X : (hd.heap_39 w.params).In g) (T : Top hd.view_39 (looseW hd.view_39 []) mean mg mb g) (hdp : dp + 12 < recursionLimit) (hun : un + 8 * 12 + 200 < cLine) (F : Fr g L h₁ (mpo [(Str.ofString "answer", .ref an)] m)) (N : News g L h₁ (led17 L x dx tb ck d rw bs p q h1 h2 t1 t2 qo o5 o4 o3 o2 o1 o8 rv nr bv nb ts nt cs nc od o6 o7 po ((px, instObj 146 dq) :: (dq, packD h3 h4 h5 h6 t3 t4 t5 t6 bs tb ck ow) :: (ow, listOf ov.toArray no) :: (an, listOf va.toArray na) :: tl))) (nd : ND (led17 L x dx tb ck d rw bs p q h1 h2 t1 t2 qo o5 o4 o3 o2 o1 o8 rv nr bv nb ts nt cs nc od o6 o7 po ((px, instObj 146 dq) :: (dq, packD h3 h4 h5 h6 t3 t4 t5 t6 bs tb ck ow) :: (ow, listOf ov.toArray no) :: (an, listOf va.toArray na) :: tl)))
  (c2 : o2.data = .cell (some (.ref x))) (c5 : o5.data = .cell (some (.ref bs))) (c6 : o6.data = .cell (some (.int (i : Int) u6)))
  (tied : Tied kvs own vl S bases Ms) (hS5 : S < 400) (hM5 : Ms.length ≤ 5) (hi : i < Ms.length)
  (hti : IntsAre ts (tabOf kvs vl S)) (hci : IntsAre cs (tabOf kvs (fun c => own c + 1) S)) (hbv : IntsAre bv bases) (hva : OptsAre va (wantL (Ms.getD i []) 13)) :
  wpAny (model prog w) (lawA dp un gd L fa cdv outer lawScope) (execs ((askBody.drop 2).take 1) (lawE L fa cdv lawScope))
    (Mid g L s (fun m' nw => m' = mpo [(Str.ofString "answer", .ref an)] m ∧ nw = led17 L x dx tb ck d rw bs p q h1 h2 t1 t2 qo o5 o4 o3 o2 o1 o8 rv nr bv nb ts nt cs nc od o6 o7 po ((px, instObj 146 dq) :: (dq, packD h3 h4 h5 h6 t3 t4 t5 t6 bs tb ck ow) :: (ow, listOf ov.toArray no) :: (an, listOf va.toArray na) :: tl)) Q) (fun _ _ => False) { s with heap := h₁, toks := tk } := by
  have hl0 : (tabOf kvs vl S).length = S := tabOf_length ..
  have hl1 : (tabOf kvs (fun c => own c + 1) S).length = S := tabOf_length ..
  have hbl := tied.len
  ((refine as_one (fun l => wpAny _ _ (execs l _) _ _ _) rfl ?_; refine as_scope (fun sc => wpAny _ (lawA _ _ _ _ _ _ _ sc) (execs _ (lawE _ _ _ sc)) _ _ _) rfl ?_))
  iterate 15 ((first | (k_unfold; (try dsimp only)) | (k_end; wrow_close) | walk1 | (dsimp only; walk1) | (dsimp only; k_unfold; (try dsimp only)) | (leave1; walk_say "STEP leave1"; try dsimp only)))
  dsimp only
  refine LCg.CompSrc.range (n := 13) rfl (by assumption) (by assumption) (by assumption) (by decide) rfl (by decide) (fun g' => rest_of (fun j ys nw => nw = led17 L x dx tb ck d rw bs p q h1 h2 t1 t2 qo o5 o4 o3 o2 o1 o8 rv nr bv nb ts nt cs nc od o6 o7 po ((px, instObj 146 dq) :: (dq, packD h3 h4 h5 h6 t3 t4 t5 t6 bs tb ck ow) :: (ow, listOf ov.toArray no) :: (an, listOf va.toArray na) :: tl) ∧ OptsAre ys (wantL (Ms.getD i []) j)) ?_ ?_ 13 0 [] _ (Nat.zero_add _) ⟨rfl, .nil⟩)
  · intro j v ys nw I oI C oC D m₂ h tk E' hin hP hJ hC hx F₂ N₂ off ne
    obtain ⟨t, rfl⟩ := hP
    obtain ⟨rfl, hys⟩ := hJ
    have nd2 : ND ((I, oI) :: (C, oC) :: (D, LCg.lst ys) :: led17 L x dx tb ck d rw bs p q h1 h2 t1 t2 qo o5 o4 o3 o2 o1 o8 rv nr bv nb ts nt cs nc od o6 o7 po ((px, instObj 146 dq) :: (dq, packD h3 h4 h5 h6 t3 t4 t5 t6 bs tb ck ow) :: (ow, listOf ov.toArray no) :: (an, listOf va.toArray na) :: tl)) := nd_off3 nd off ne
    (((try k_fold); iterate 22 ((first | (k_unfold; (try dsimp only)) | (k_end; wrow_close) | walk1 | (dsimp only; walk1) | (dsimp only; k_unfold; (try dsimp only)) | (leave1; walk_say "STEP leave1"; try dsimp only)))))
    refine Spec.useI (look_up_ok (nb := nb) (nt := nt) (nc := nc) hbv hti hci (by omega) (by omega) (by omega) (by omega) (by omega)) B (by assumption) X (by assumption) T nd2 [9, 5, 6] [0, 1, 2, 3, 4, 7, 8, 10, 11, 12, 13, 14, 15, 16, 17, 18, 19, 20, 21, 22, 23] 24 rfl (up_dp hdp (by decide)) (up_un hun (by decide)) rfl (by decide) ?_
    intro v news' h' tk' hPat4 F₃ N₃ ap₃
    refine goal_gen ?_; intro GG hGG
    obtain ⟨hv, rfl⟩ := hPat4
    refine hGG ?_; clear hGG GG
    have N4 : News g L h' ((I, oI) :: (C, oC) :: (D, LCg.lst ys) :: led17 L x dx tb ck d rw bs p q h1 h2 t1 t2 qo o5 o4 o3 o2 o1 o8 rv nr bv nb ts nt cs nc od o6 o7 po ((px, instObj 146 dq) :: (dq, packD h3 h4 h5 h6 t3 t4 t5 t6 bs tb ck ow) :: (ow, listOf ov.toArray no) :: (an, listOf va.toArray na) :: tl)) := news_back (is := [9, 5, 6]) N₃ (fun z hz => hz) (by decide)
    rw [Int.toNat_natCast] at hv
    clear N₃ ap₃
    (((try k_fold); repeat' ((first | (k_unfold; (try dsimp only)) | (k_end; wrow_close) | walk1 | (dsimp only; walk1) | (dsimp only; k_unfold; (try dsimp only)) | (leave1; walk_say "STEP leave1"; try dsimp only)))))
    exact LCg.CompEnd.intro F₃ N4 _ (fun _ h => h) off trivial ⟨rfl, by rw [wantL_succ]; exact hys.snoc (tied.look hi hv)⟩
  · intro ys nw hPat2
    refine goal_gen ?_; intro GG hGG
    obtain ⟨rfl, hys⟩ := hPat2
    refine hGG ?_; clear hGG GG
    intro D h' tk' F₂ N₂ off
    (first | (k_unfold; (try dsimp only)) | (k_end; wrow_close) | walk1 | (dsimp only; walk1) | (dsimp only; k_unfold; (try dsimp only)) | (leave1; walk_say "STEP leave1"; try dsimp only))
    refine ne_opts (na := ys.length) (nb := na) N₂ (.head _) (.tail _ (by k_memK)) hys hva (by units_room) ?_
    (((try k_fold); repeat' ((first | (k_unfold; (try dsimp only)) | (k_end; wrow_close) | walk1 | (dsimp only; walk1) | (dsimp only; k_unfold; (try dsimp only)) | (leave1; walk_say "STEP leave1"; try dsimp only)))))
    (with_reducible rename Fr _ _ _ _ => F'); (with_reducible rename News _ _ _ _ => N')
    exact Mid.intro F' N' ⟨rfl, rfl⟩ (fun _ hz => .tail _ hz)
end


section
open PyProof.Rows.LSm
set_option maxRecDepth 100000 in
set_option maxHeartbeats 4000000 in
theorem ask_turn {prog : Program} {w : World} {mean : ExcName → Option Value} {mg mb : Str → Option Value} {dp un : Nat} {gd : Option (List Code)} {outer : List Env} {A : Around} {base g : Heap} {L fa : Addr} {cdv : Value} {s : Shared} {h₁ : Heap} {tk : Nat} {m : Str → Option Value} {Q : Flow → Shared → Prop}
  {x dx tb ck d rw bs p q : Addr} {h1 h2 : Int} {t1 t2 : Tok} {nt nc nr nb : Nat} {ts cs rv bv : List Value} {od po qo o8 o7 o6 o5 o4 o3 o2 o1 : Obj} {tl : Led} {I : Addr} {oI : Obj} {S i : Nat} {t : Tok} {v6 : Option Value} {kvs : List (Int × Value)} {own vl : Int → Int} {bases : List Int} {Ms : List (List (Int × Int))} {px dq ow : Addr} {h3 h4 h5 h6 : Int} {t3 t4 t5 t6 : Tok} {ov : List Value} {no : Nat}
  (B : Below A base outer g) (X : (hd.heap_39 w.params).In g) (T : Top hd.view_39 (looseW hd.view_39 []) mean mg mb g) (hdp : dp + 12 < recursionLimit) (hun : un + 8 * 12 + 200 < cLine) (c2 : o2.data = .cell (some (.ref x))) (c4 : o4.data = .cell (some (.ref rw))) (c5 : o5.data = .cell (some (.ref bs))) (c6 : o6.data = .cell v6) (c8 : o8.data = .cell (some (.ref px)))
  (tied : Tied kvs own vl S bases Ms) (hS5 : S < 400) (hM5 : Ms.length ≤ 5) (hi : i < Ms.length)
  (hti : IntsAre ts (tabOf kvs vl S)) (hci : IntsAre cs (tabOf kvs (fun c => own c + 1) S)) (hbv : IntsAre bv bases) (hov : IntsAre ov ((List.range Ms.length).map Int.ofNat)) (hrows : RowsIn prog w rv tl Ms)
  (nd : ND (led17 L x dx tb ck d rw bs p q h1 h2 t1 t2 qo o5 o4 o3 o2 o1 o8 rv nr bv nb ts nt cs nc od o6 o7 po ((px, instObj 146 dq) :: (dq, packD h3 h4 h5 h6 t3 t4 t5 t6 bs tb ck ow) :: (ow, listOf ov.toArray no) :: tl))) (off : ∀ z ∈ led17 L x dx tb ck d rw bs p q h1 h2 t1 t2 qo o5 o4 o3 o2 o1 o8 rv nr bv nb ts nt cs nc od o6 o7 po ((px, instObj 146 dq) :: (dq, packD h3 h4 h5 h6 t3 t4 t5 t6 bs tb ck ow) :: (ow, listOf ov.toArray no) :: tl), @Ne Nat z.1 I) (F : Fr g L h₁ m) (N : News g L h₁ ((I, oI) :: led17 L x dx tb ck d rw bs p q h1 h2 t1 t2 qo o5 o4 o3 o2 o1 o8 rv nr bv nb ts nt cs nc od o6 o7 po ((px, instObj 146 dq) :: (dq, packD h3 h4 h5 h6 t3 t4 t5 t6 bs tb ck ow) :: (ow, listOf ov.toArray no) :: tl))) :
  wpAny (model prog w) (lawA dp un gd L fa cdv outer lawScope) (storeName (lawE L fa cdv lawScope) (Str.ofString "number") (.int (i : Int) t))
    (fun _ s' => wpAny (model prog w) (lawA dp un gd L fa cdv outer lawScope) (execs askBody (lawE L fa cdv lawScope)) (TurnEnd g L I oI (fun _ nw => ∃ (o6' : Obj) (v6' : Option Value), o6'.data = .cell v6' ∧ nw = led17 L x dx tb ck d rw bs p q h1 h2 t1 t2 qo o5 o4 o3 o2 o1 o8 rv nr bv nb ts nt cs nc od o6' o7 po ((px, instObj 146 dq) :: (dq, packD h3 h4 h5 h6 t3 t4 t5 t6 bs tb ck ow) :: (ow, listOf ov.toArray no) :: tl)) { s with heap := h₁, toks := tk } Q) (fun _ _ => False) s') (fun _ _ => False) { s with heap := h₁, toks := tk } := by
  have nd0 : ND ((I, oI) :: led17 L x dx tb ck d rw bs p q h1 h2 t1 t2 qo o5 o4 o3 o2 o1 o8 rv nr bv nb ts nt cs nc od o6 o7 po ((px, instObj 146 dq) :: (dq, packD h3 h4 h5 h6 t3 t4 t5 t6 bs tb ck ow) :: (ow, listOf ov.toArray no) :: tl)) := nd_cons off nd
  refine storeX_C F N rfl (updF_at nd0 12 rfl) c6 ?_
  intro h₂ o6' F' N' hd6
  have nd1 : ND (led17 L x dx tb ck d rw bs p q h1 h2 t1 t2 qo o5 o4 o3 o2 o1 o8 rv nr bv nb ts nt cs nc od o6' o7 po ((px, instObj 146 dq) :: (dq, packD h3 h4 h5 h6 t3 t4 t5 t6 bs tb ck ow) :: (ow, listOf ov.toArray no) :: (I, oI) :: tl)) := nd_pk nd0 [1, 2, 3, 4, 5, 6, 7, 8, 9, 10, 11, 12, 13, 14, 15, 16, 17, 18, 19, 20, 0] 21 (by decide) (by decide)
  have N1 : News g L h₂ (led17 L x dx tb ck d rw bs p q h1 h2 t1 t2 qo o5 o4 o3 o2 o1 o8 rv nr bv nb ts nt cs nc od o6' o7 po ((px, instObj 146 dq) :: (dq, packD h3 h4 h5 h6 t3 t4 t5 t6 bs tb ck ow) :: (ow, listOf ov.toArray no) :: (I, oI) :: tl)) := news_pk N' [1, 2, 3, 4, 5, 6, 7, 8, 9, 10, 11, 12, 13, 14, 15, 16, 17, 18, 19, 20, 0] 21
  clear N' N F
  dsimp only
  refine execs_cut 1 _ (segJ B X T hdp hun F' N1 nd1 hd6 c8 tied hS5 hM5 hi hti hci hbv hov) ?_
  intro h₃ tk₃ m₃ nw₃ F₃ N₃ hPat6
  refine goal_gen ?_; intro GG hGG
  refine ex3 (hPat6) ?_; clear hPat6; intro an va na hZz; refine an4 (hZz) ?_; clear hZz; intro hE3 hE4 nd3 hva; subst hE3; subst hE4
  refine hGG ?_; clear hGG GG
  dsimp only
  refine execs_cut 1 _ (segK B X T hdp hun F₃ N₃ nd3 c4 hd6 hM5 hi (hrows.mono fun _ h => .tail _ h) hva) ?_
  intro h₄ tk₄ m₄ nw₄ F₄ N₄ hPat6
  refine goal_gen ?_; intro GG hGG
  obtain ⟨rfl, rfl⟩ := hPat6
  refine hGG ?_; clear hGG GG
  dsimp only
  rw [List.drop_drop]
  refine wpAny_mono (segL (Q := TurnEnd g L I oI (fun _ nw => ∃ (o6' : Obj) (v6' : Option Value), o6'.data = .cell v6' ∧ nw = led17 L x dx tb ck d rw bs p q h1 h2 t1 t2 qo o5 o4 o3 o2 o1 o8 rv nr bv nb ts nt cs nc od o6' o7 po ((px, instObj 146 dq) :: (dq, packD h3 h4 h5 h6 t3 t4 t5 t6 bs tb ck ow) :: (ow, listOf ov.toArray no) :: tl)) { s with heap := h₁, toks := tk } Q) B X T hdp hun F₄ N₄ nd3 c2 c5 hd6 tied hS5 hM5 hi hti hci hbv hva) (fun fl s' hfl => ?_) fun _ _ e => e
  cases fl with
  | ret v => exact hfl
  | brk => exact hfl
  | cont => exact hfl
  | next =>
    refine goal_gen ?_; intro GG hGG
    refine ex4 (hfl) ?_; clear hfl; intro h' tk' m' nw' hZz; refine an5 (hZz) ?_; clear hZz; intro hE4 F₉ N₉ hE7 hE8; subst hE4; subst hE7; subst hE8
    refine hGG ?_; clear hGG GG
    exact ⟨h', tk', _, led17 L x dx tb ck d rw bs p q h1 h2 t1 t2 qo o5 o4 o3 o2 o1 o8 rv nr bv nb ts nt cs nc od o6' o7 po ((px, instObj 146 dq) :: (dq, packD h3 h4 h5 h6 t3 t4 t5 t6 bs tb ck ow) :: (ow, listOf ov.toArray no) :: tl), rfl, F₉, news_pk N₉ [21, 0, 1, 2, 3, 4, 5, 6, 7, 8, 9, 10, 11, 12, 13, 14, 15, 16, 17, 18, 19] 22, (fun z hz => (nd_head (a := (I, oI)) (r := led17 L x dx tb ck d rw bs p q h1 h2 t1 t2 qo o5 o4 o3 o2 o1 o8 rv nr bv nb ts nt cs nc od o6' o7 po ((px, instObj 146 dq) :: (dq, packD h3 h4 h5 h6 t3 t4 t5 t6 bs tb ck ow) :: (ow, listOf ov.toArray no) :: tl)) nd0 z hz).symm), o6', _, hd6, rfl⟩

set_option maxRecDepth 100000 in
set_option maxHeartbeats 4000000 in
theorem ask_ok {prog : Program} {w : World} {mean : ExcName → Option Value} {mg mb : Str → Option Value} {dp un : Nat} {gd : Option (List Code)} {outer : List Env} {A : Around} {base g : Heap} {L fa : Addr} {cdv : Value} {s : Shared} {h₁ : Heap} {tk : Nat} {m : Str → Option Value} {Q : Flow → Shared → Prop}
  {x dx tb ck d rw bs p q : Addr} {h1 h2 : Int} {t1 t2 : Tok} {nt nc nr nb : Nat} {ts cs rv bv : List Value} {od po qo o8 o7 o6 o5 o4 o3 o2 o1 : Obj} {tl : Led} {S : Nat} {v6 : Option Value} {kvs : List (Int × Value)} {own vl : Int → Int} {bases : List Int} {Ms : List (List (Int × Int))} {px dq ow : Addr} {h3 h4 h5 h6 : Int} {t3 t4 t5 t6 : Tok} {ov : List Value} {no : Nat}
  (B : Below A base outer g) (X : (hd.heap_39 w.params).In g) (T : Top hd.view_39 (looseW hd.view_39 []) mean mg mb g) (hdp : dp + 12 < recursionLimit) (hun : un + 8 * 12 + 200 < cLine) (F : Fr g L h₁ m) (N : News g L h₁ (led17 L x dx tb ck d rw bs p q h1 h2 t1 t2 qo o5 o4 o3 o2 o1 o8 rv nr bv nb ts nt cs nc od o6 o7 po ((px, instObj 146 dq) :: (dq, packD h3 h4 h5 h6 t3 t4 t5 t6 bs tb ck ow) :: (ow, listOf ov.toArray no) :: tl))) (nd : ND (led17 L x dx tb ck d rw bs p q h1 h2 t1 t2 qo o5 o4 o3 o2 o1 o8 rv nr bv nb ts nt cs nc od o6 o7 po ((px, instObj 146 dq) :: (dq, packD h3 h4 h5 h6 t3 t4 t5 t6 bs tb ck ow) :: (ow, listOf ov.toArray no) :: tl)))
  (c2 : o2.data = .cell (some (.ref x))) (c4 : o4.data = .cell (some (.ref rw))) (c5 : o5.data = .cell (some (.ref bs))) (c6 : o6.data = .cell v6) (c8 : o8.data = .cell (some (.ref px)))
  (tied : Tied kvs own vl S bases Ms) (hS5 : S < 400) (hM5 : Ms.length ≤ 5)
  (hti : IntsAre ts (tabOf kvs vl S)) (hci : IntsAre cs (tabOf kvs (fun c => own c + 1) S)) (hbv : IntsAre bv bases) (hov : IntsAre ov ((List.range Ms.length).map Int.ofNat)) (hrows : RowsIn prog w rv tl Ms) :
  wpAny (model prog w) (lawA dp un gd L fa cdv outer lawScope) (execs ((lawBody.drop 5).take 1) (lawE L fa cdv lawScope))
    (Mid g L s (fun _ nw => ∃ (o6' : Obj) (v6' : Option Value), o6'.data = .cell v6' ∧ nw = led17 L x dx tb ck d rw bs p q h1 h2 t1 t2 qo o5 o4 o3 o2 o1 o8 rv nr bv nb ts nt cs nc od o6' o7 po ((px, instObj 146 dq) :: (dq, packD h3 h4 h5 h6 t3 t4 t5 t6 bs tb ck ow) :: (ow, listOf ov.toArray no) :: tl)) Q) (fun _ _ => False) { s with heap := h₁, toks := tk } := by
  have hrl := hrows.1
  ((refine as_one (fun l => wpAny _ _ (execs l _) _ _ _) rfl ?_; refine as_scope (fun sc => wpAny _ (lawA _ _ _ _ _ _ _ sc) (execs _ (lawE _ _ _ sc)) _ _ _) rfl ?_))
  (first | (k_unfold; (try dsimp only)) | (k_end; wrow_close) | walk1 | (dsimp only; walk1) | (dsimp only; k_unfold; (try dsimp only)) | (leave1; walk_say "STEP leave1"; try dsimp only))
  refine wpAny_For ?_ (by intro _; rfl)
  (((try k_fold); repeat' ((first | (k_unfold; (try dsimp only)) | (k_end; wrow_close) | walk1 | (dsimp only; walk1) | (dsimp only; k_unfold; (try dsimp only)) | (leave1; walk_say "STEP leave1"; try dsimp only)))))
  refine iter_range_cell (n := Ms.length) (fun _ _ nw => ∃ (o6' : Obj) (v6' : Option Value), o6'.data = .cell v6' ∧ nw = led17 L x dx tb ck d rw bs p q h1 h2 t1 t2 qo o5 o4 o3 o2 o1 o8 rv nr bv nb ts nt cs nc od o6' o7 po ((px, instObj 146 dq) :: (dq, packD h3 h4 h5 h6 t3 t4 t5 t6 bs tb ck ow) :: (ow, listOf ov.toArray no) :: tl)) rfl (by assumption) (small_one (by omega) (by omega) (by omega) (by omega)) (by rw [rangeSize_nat]; omega) (by assumption) (by assumption) ⟨o6, v6, c6, rfl⟩ ?_ ?_
  · intro i t m₁ nw I oI h tk hi hPat9 off F₃ N₃
    refine goal_gen ?_; intro GG hGG
    refine ex2 (hPat9) ?_; clear hPat9; intro o6' v6' hZz; refine an2 (hZz) ?_; clear hZz; intro c6' hE3; subst hE3
    refine hGG ?_; clear hGG GG
    rw [Int.zero_add]
    exact ask_turn B X T hdp hun c2 c4 c5 c6' c8 tied hS5 hM5 hi hti hci hbv hov hrows nd off F₃ N₃
  · rintro m₁ nw h tk hJ F₃ N₃
    (((try k_fold); repeat' ((first | (k_unfold; (try dsimp only)) | (k_end; wrow_close) | walk1 | (dsimp only; walk1) | (dsimp only; k_unfold; (try dsimp only)) | (leave1; walk_say "STEP leave1"; try dsimp only)))))
    exact Mid.intro F₃ N₃ hJ (fun _ h => h)
end


section
open PyProof.Rows.LSm
set_option maxRecDepth 100000 in
set_option maxHeartbeats 4000000 in
theorem segM {prog : Program} {w : World} {mean : ExcName → Option Value} {mg mb : Str → Option Value} {dp un : Nat} {gd : Option (List Code)} {outer : List Env} {A : Around} {base g : Heap} {L fa : Addr} {cdv : Value} {s : Shared} {h₁ : Heap} {tk : Nat} {m : Str → Option Value} {Q : Flow → Shared → Prop}
  {x dx tb ck d rw bs p q : Addr} {h1 h2 : Int} {t1 t2 : Tok} {nt nc nr nb : Nat} {ts cs rv bv : List Value} {od po qo o8 o7 o6 o5 o4 o3 o2 o1 : Obj} {tl : Led} {S k : Nat} {tbl chk : List Int}
  (B : Below A base outer g) (X : (hd.heap_39 w.params).In g) (T : Top hd.view_39 (looseW hd.view_39 []) mean mg mb g) (hdp : dp + 12 < recursionLimit) (hun : un + 8 * 12 + 200 < cLine) (F : Fr g L h₁ m) (N : News g L h₁ (led17 L x dx tb ck d rw bs p q h1 h2 t1 t2 qo o5 o4 o3 o2 o1 o8 rv nr bv nb ts nt cs nc od o6 o7 po tl)) (nd : ND (led17 L x dx tb ck d rw bs p q h1 h2 t1 t2 qo o5 o4 o3 o2 o1 o8 rv nr bv nb ts nt cs nc od o6 o7 po tl))
  (c1 : o1.data = .cell (some (.ref p))) (c2 : o2.data = .cell (some (.ref x))) (hp : PenOk k q po) (hq : InnerOk qo) (hk : k < 900)
  (hS5 : S < 400) (hti : IntsAre ts tbl) (hl : tbl.length = S) :
  wpAny (model prog w) (lawA dp un gd L fa cdv outer lawScope) (execs ((lawBody.drop 6).take 2) (lawE L fa cdv lawScope))
    (Mid g L s (fun m' nw => ∃ (po' : Obj) (e : Int) (te tz : Tok) (hl : Addr) (vh : List Value) (nh : Nat), m' = mpo [(Str.ofString "size", .int (S : Int) tz), (Str.ofString "held", .ref hl), (Str.ofString "many", .int e te)] m ∧ nw = led17 L x dx tb ck d rw bs p q h1 h2 t1 t2 qo o5 o4 o3 o2 o1 o8 rv nr bv nb ts nt cs nc od o6 o7 po' ((hl, listOf vh.toArray nh) :: tl) ∧ ND nw ∧ 0 ≤ e ∧ e < 20 ∧ IntsAre vh tbl) Q) (fun _ _ => False) { s with heap := h₁, toks := tk } := by
  have hpq : @Ne Nat p q := nd_ne nd 7 8 rfl rfl (by decide)
  have htl := hti.length
  ((refine as_two (fun l => wpAny _ _ (execs l _) _ _ _) rfl ?_; refine as_scope (fun sc => wpAny _ (lawA _ _ _ _ _ _ _ sc) (execs _ (lawE _ _ _ sc)) _ _ _) rfl ?_))
  refine execs_cut (g := g) (L := L) 1 (fun m' nw => ∃ (po' : Obj) (e : Int) (te : Tok), m' = mpo [(Str.ofString "many", .int e te)] m ∧ nw = led17 L x dx tb ck d rw bs p q h1 h2 t1 t2 qo o5 o4 o3 o2 o1 o8 rv nr bv nb ts nt cs nc od o6 o7 po' tl ∧ 0 ≤ e ∧ e < 20) ?_ ?_
  · dsimp only [List.take]
    (((try k_fold); repeat' ((first | (k_unfold; (try dsimp only)) | (k_end; wrow_close) | walk1 | (dsimp only; walk1) | (dsimp only; k_unfold; (try dsimp only)) | (leave1; walk_say "STEP leave1"; try dsimp only)))))
    refine Spec.useI (draw_spec (k := k) hp hq (by omega) hpq (by decide) (by decide)) B (by assumption) X (by assumption) T nd [7, 8] [0, 1, 2, 3, 4, 5, 6, 9, 10, 11, 12, 13, 14, 15, 16] 17 rfl (up_dp hdp (by decide)) (up_un hun (by decide)) rfl (by decide) ?_
    intro v news' h' tk' hPat4 F₂ N₂ ap₂
    refine goal_gen ?_; intro GG hGG
    refine ex3 (hPat4) ?_; clear hPat4; intro e t' po' hZz; refine an5 (hZz) ?_; clear hZz; intro hE3 hd0 hd1 hE6 hpen'; subst hE3; subst hE6
    refine hGG ?_; clear hGG GG
    have N3 : News g L h' (led17 L x dx tb ck d rw bs p q h1 h2 t1 t2 qo o5 o4 o3 o2 o1 o8 rv nr bv nb ts nt cs nc od o6 o7 po' tl) := news_pk N₂ [2, 3, 4, 5, 6, 7, 8, 0, 1, 9, 10, 11, 12, 13, 14, 15, 16] 17
    clear N₂ N F ap₂
    (((try k_fold); repeat' ((first | (k_unfold; (try dsimp only)) | (k_end; wrow_close) | walk1 | (dsimp only; walk1) | (dsimp only; k_unfold; (try dsimp only)) | (leave1; walk_say "STEP leave1"; try dsimp only)))))
    (with_reducible rename Fr _ _ _ _ => F'); (with_reducible rename News _ _ _ _ => N')
    exact Mid.intro F' N' ⟨po', e, _, rfl, rfl, hd0, hd1⟩ (fun _ h => h)
  · intro h' tk' m' news' F₂ N₂ hPat6
    refine goal_gen ?_; intro GG hGG
    refine ex3 (hPat6) ?_; clear hPat6; intro po' e te hZz; refine an4 (hZz) ?_; clear hZz; intro hE3 hE4 he0 he1; subst hE3; subst hE4
    refine hGG ?_; clear hGG GG
    have nd2 : ND (led17 L x dx tb ck d rw bs p q h1 h2 t1 t2 qo o5 o4 o3 o2 o1 o8 rv nr bv nb ts nt cs nc od o6 o7 po' tl) := nd
    clear F N nd
    dsimp only [List.drop]
    (((try k_fold); repeat' ((first | (k_unfold; (try dsimp only)) | (k_end; wrow_close) | walk1 | (dsimp only; walk1) | (dsimp only; k_unfold; (try dsimp only)) | (leave1; walk_say "STEP leave1"; try dsimp only)))))
    rename_i D c hA lD T' hB lT hC hD hE F₃ N₃
    subst hl
    have nd3 : ND ((D, listOf ts.toArray c) :: led17 L x dx tb ck d rw bs p q h1 h2 t1 t2 qo o5 o4 o3 o2 o1 o8 rv nr bv nb ts nt cs nc od o6 o7 po' tl) := nd_lt (by first | exact lD | exact allLt_all lD) nd2
    exact Mid.intro F₃ (news_pk N₃ [2, 3, 4, 5, 6, 7, 8, 9, 10, 11, 12, 13, 14, 15, 16, 17, 18, 1] 19) ⟨po', e, te, _, D, ts, c, (by first | rfl | (rw [← htl]; rfl)), rfl, nd_pk nd3 [1, 2, 3, 4, 5, 6, 7, 8, 9, 10, 11, 12, 13, 14, 15, 16, 17, 0] 18 (by decide) (by decide), he0, he1, hti⟩ (fun _ h => h)

set_option maxRecDepth 100000 in
set_option maxHeartbeats 4000000 in
theorem segN {prog : Program} {w : World} {mean : ExcName → Option Value} {mg mb : Str → Option Value} {dp un : Nat} {gd : Option (List Code)} {outer : List Env} {A : Around} {base g : Heap} {L fa : Addr} {cdv : Value} {s : Shared} {h₁ : Heap} {tk : Nat} {m : Str → Option Value} {Q : Flow → Shared → Prop}
  {x dx tb ck d rw bs p q : Addr} {h1 h2 : Int} {t1 t2 : Tok} {nt nc nr nb : Nat} {ts cs rv bv : List Value} {od po qo o8 o7 o6 o5 o4 o3 o2 o1 : Obj} {tl : Led} {S : Nat} {tbl chk : List Int} {e : Int} {te tz : Tok} {hl : Addr} {vh : List Value} {nh : Nat}
  (B : Below A base outer g) (X : (hd.heap_39 w.params).In g) (T : Top hd.view_39 (looseW hd.view_39 []) mean mg mb g) (hdp : dp + 12 < recursionLimit) (hun : un + 8 * 12 + 200 < cLine) (F : Fr g L h₁ (mpo [(Str.ofString "size", .int (S : Int) tz), (Str.ofString "held", .ref hl), (Str.ofString "many", .int e te)] m)) (N : News g L h₁ (led17 L x dx tb ck d rw bs p q h1 h2 t1 t2 qo o5 o4 o3 o2 o1 o8 rv nr bv nb ts nt cs nc od o6 o7 po ((hl, listOf vh.toArray nh) :: tl))) (nd : ND (led17 L x dx tb ck d rw bs p q h1 h2 t1 t2 qo o5 o4 o3 o2 o1 o8 rv nr bv nb ts nt cs nc od o6 o7 po ((hl, listOf vh.toArray nh) :: tl)))
  (c2 : o2.data = .cell (some (.ref x))) (he0 : 0 ≤ e) (he1 : e < 20) (hS5 : S < 400) (hti : IntsAre ts tbl) (hci : IntsAre cs chk) (hl1 : tbl.length = S) (hl2 : chk.length = S) :
  wpAny (model prog w) (lawA dp un gd L fa cdv outer lawScope) (execs ((lawBody.drop 8).take 2) (lawE L fa cdv lawScope))
    (Mid g L s (fun m' nw => ∃ (ts' cs' : List Value) (nt' nc' : Nat) (mo : Addr) (vm : List Value) (nm : Nat), m' = mpo [(Str.ofString "more", .ref mo), (Str.ofString "size", .int (S : Int) tz), (Str.ofString "held", .ref hl), (Str.ofString "many", .int e te)] m ∧
      nw = led17 L x dx tb ck d rw bs p q h1 h2 t1 t2 qo o5 o4 o3 o2 o1 o8 rv nr bv nb ts' nt' cs' nc' od o6 o7 po ((hl, listOf vh.toArray nh) :: (mo, listOf vm.toArray nm) :: tl) ∧ ND nw ∧ IntsAre ts' (growTo e tbl) ∧ IntsAre cs' (growTo e chk) ∧ IntsAre vm (List.replicate (e - S).toNat 0)) Q) (fun _ _ => False) { s with heap := h₁, toks := tk } := by
  ((refine as_two (fun l => wpAny _ _ (execs l _) _ _ _) rfl ?_; refine as_scope (fun sc => wpAny _ (lawA _ _ _ _ _ _ _ sc) (execs _ (lawE _ _ _ sc)) _ _ _) rfl ?_))
  refine execs_cut (g := g) (L := L) 1 (fun m' nw => ∃ (ts' cs' : List Value) (nt' nc' : Nat), m' = mpo [(Str.ofString "size", .int (S : Int) tz), (Str.ofString "held", .ref hl), (Str.ofString "many", .int e te)] m ∧
      nw = led17 L x dx tb ck d rw bs p q h1 h2 t1 t2 qo o5 o4 o3 o2 o1 o8 rv nr bv nb ts' nt' cs' nc' od o6 o7 po ((hl, listOf vh.toArray nh) :: tl) ∧ IntsAre ts' (growTo e tbl) ∧ IntsAre cs' (growTo e chk)) ?_ ?_
  · dsimp only [List.take]
    (((try k_fold); repeat' ((first | (k_unfold; (try dsimp only)) | (k_end; wrow_close) | walk1 | (dsimp only; walk1) | (dsimp only; k_unfold; (try dsimp only)) | (leave1; walk_say "STEP leave1"; try dsimp only)))))
    refine Spec.useI (grow_ok (nt := nt) (nc := nc) (h1 := h1) (h2 := h2) (t1 := t1) (t2 := t2) hti hci (by omega) (by omega) (by omega) (nd_ne nd 2 3 rfl rfl (by decide)) (nd_ne nd 2 0 rfl rfl (by decide)) (nd_ne nd 2 1 rfl rfl (by decide)) (nd_ne nd 3 0 rfl rfl (by decide)) (nd_ne nd 3 1 rfl rfl (by decide))) B (by assumption) X (by assumption) T nd [0, 1, 2, 3] [4, 5, 6, 7, 8, 9, 10, 11, 12, 13, 14, 15, 16, 17] 18 rfl (up_dp hdp (by decide)) (up_un hun (by decide)) rfl (by decide) ?_
    intro v news' h' tk' hPat4 F₂ N₂ ap₂
    refine goal_gen ?_; intro GG hGG
    refine ex4 (hPat4) ?_; clear hPat4; intro ts' cs' nt' nc' hZz; refine an4 (hZz) ?_; clear hZz; intro hE4 hE5 hti' hci'; subst hE4; subst hE5
    refine hGG ?_; clear hGG GG
    have N3 : News g L h' (led17 L x dx tb ck d rw bs p q h1 h2 t1 t2 qo o5 o4 o3 o2 o1 o8 rv nr bv nb ts' nt' cs' nc' od o6 o7 po ((hl, listOf vh.toArray nh) :: tl)) := N₂
    clear N₂ N F ap₂
    (((try k_fold); repeat' ((first | (k_unfold; (try dsimp only)) | (k_end; wrow_close) | walk1 | (dsimp only; walk1) | (dsimp only; k_unfold; (try dsimp only)) | (leave1; walk_say "STEP leave1"; try dsimp only)))))
    (with_reducible rename Fr _ _ _ _ => F'); (with_reducible rename News _ _ _ _ => N')
    exact Mid.intro F' N' ⟨ts', cs', nt', nc', rfl, rfl, hti', hci'⟩ (fun _ h => h)
  · intro h' tk' m' news' F₂ N₂ hPat6
    refine goal_gen ?_; intro GG hGG
    refine ex4 (hPat6) ?_; clear hPat6; intro ts' cs' nt' nc' hZz; refine an4 (hZz) ?_; clear hZz; intro hE4 hE5 hti' hci'; subst hE4; subst hE5
    refine hGG ?_; clear hGG GG
    have nd2 : ND (led17 L x dx tb ck d rw bs p q h1 h2 t1 t2 qo o5 o4 o3 o2 o1 o8 rv nr bv nb ts' nt' cs' nc' od o6 o7 po ((hl, listOf vh.toArray nh) :: tl)) := nd
    clear F N nd
    dsimp only [List.drop]
    (((try k_fold); repeat' ((first | (k_unfold; (try dsimp only)) | (k_end; wrow_close) | walk1 | (dsimp only; walk1) | (dsimp only; k_unfold; (try dsimp only)) | (leave1; walk_say "STEP leave1"; try dsimp only)))))
    rename_i lz hA lA hB tA D hC iD n1 s1 e1 e2 e3 lD hD F₃ N₃
    have hk : (if e - (S : Int) > 0 then e - (S : Int) else 0).toNat = (e - S).toNat := by split <;> omega
    rw [hk, List.flatten_replicate_singleton, List.flatten_replicate_singleton] at iD
    rw [hk, List.flatten_replicate_singleton] at N₃
    have nd3 : ND ((D, instObj 0 0) :: (lz, instObj 0 0) :: led17 L x dx tb ck d rw bs p q h1 h2 t1 t2 qo o5 o4 o3 o2 o1 o8 rv nr bv nb ts' nt' cs' nc' od o6 o7 po ((hl, listOf vh.toArray nh) :: tl)) := nd_lt (by first | exact lD | exact allLt_all (l := (lz, instObj 0 0) :: led17 L x dx tb ck d rw bs p q h1 h2 t1 t2 qo o5 o4 o3 o2 o1 o8 rv nr bv nb ts' nt' cs' nc' od o6 o7 po ((hl, listOf vh.toArray nh) :: tl)) lD) (nd_lt (by first | exact lA | exact allLt_all lA) nd2)
    exact Mid.intro F₃ (news_pk N₃ [2, 3, 4, 5, 6, 7, 8, 9, 10, 11, 12, 13, 14, 15, 16, 17, 18, 19, 0] 20) ⟨ts', cs', nt', nc', D, _, _, rfl, rfl, by exact nd_pk nd3 [2, 3, 4, 5, 6, 7, 8, 9, 10, 11, 12, 13, 14, 15, 16, 17, 18, 19, 0] 20 (by decide) (by decide), hti', hci', iD⟩ (fun _ h => h)
end


section
open PyProof.Rows.LSm
set_option maxRecDepth 100000 in
set_option maxHeartbeats 4000000 in
theorem segO {prog : Program} {w : World} {mean : ExcName → Option Value} {mg mb : Str → Option Value} {dp un : Nat} {gd : Option (List Code)} {outer : List Env} {A : Around} {base g : Heap} {L fa : Addr} {cdv : Value} {s : Shared} {h₁ : Heap} {tk : Nat} {m : Str → Option Value} {Q : Flow → Shared → Prop}
  {x dx tb ck d rw bs p q : Addr} {h1 h2 : Int} {t1 t2 : Tok} {nt nc nr nb : Nat} {ts cs rv bv : List Value} {od po qo o8 o7 o6 o5 o4 o3 o2 o1 : Obj} {tl : Led} {S z : Nat} {tbl chk : List Int} {e : Int} {te tz : Tok} {hl mo : Addr} {vh vm : List Value} {nh nm : Nat}
  (B : Below A base outer g) (X : (hd.heap_39 w.params).In g) (T : Top hd.view_39 (looseW hd.view_39 []) mean mg mb g) (hdp : dp + 12 < recursionLimit) (hun : un + 8 * 12 + 200 < cLine) (F : Fr g L h₁ (mpo [(Str.ofString "more", .ref mo), (Str.ofString "size", .int (S : Int) tz), (Str.ofString "held", .ref hl), (Str.ofString "many", .int e te)] m)) (N : News g L h₁ (led17 L x dx tb ck d rw bs p q h1 h2 t1 t2 qo o5 o4 o3 o2 o1 o8 rv nr bv nb ts nt cs nc od o6 o7 po ((hl, listOf vh.toArray nh) :: (mo, listOf vm.toArray nm) :: tl))) (nd : ND (led17 L x dx tb ck d rw bs p q h1 h2 t1 t2 qo o5 o4 o3 o2 o1 o8 rv nr bv nb ts nt cs nc od o6 o7 po ((hl, listOf vh.toArray nh) :: (mo, listOf vm.toArray nm) :: tl)))
  (c2 : o2.data = .cell (some (.ref x))) (hz : z ≤ 20) (hS5 : S < 400) (hti : IntsAre ts (tbl ++ List.replicate z 0)) (hci : IntsAre cs (chk ++ List.replicate z 0)) (hvh : IntsAre vh tbl) (hvm : IntsAre vm (List.replicate z 0)) (hl1 : tbl.length = S) (hl2 : chk.length = S)
  (hQ : ∀ h' tk' m', Fr g L h' m' → Q (.ret (.bool true)) { s with heap := h', toks := tk' }) :
  wpAny (model prog w) (lawA dp un gd L fa cdv outer lawScope) (execs ((lawBody.drop 10).take 1) (lawE L fa cdv lawScope)) Q (fun _ _ => False) { s with heap := h₁, toks := tk } := by
  have k1 : (tbl ++ List.replicate z 0).length = S + z := by rw [List.length_append, List.length_replicate, hl1]
  have k2 : (chk ++ List.replicate z 0).length = S + z := by rw [List.length_append, List.length_replicate, hl2]
  have k3 : cs.length = S + z := hci.length.trans k2
  have k4 : ts.length = S + z := hti.length.trans k1
  ((refine as_one (fun l => wpAny _ _ (execs l _) _ _ _) rfl ?_; refine as_scope (fun sc => wpAny _ (lawA _ _ _ _ _ _ _ sc) (execs _ (lawE _ _ _ sc)) _ _ _) rfl ?_))
  iterate 37 ((first | (k_unfold; (try dsimp only)) | (k_end; wrow_close) | walk1 | (dsimp only; walk1) | (dsimp only; k_unfold; (try dsimp only)) | (leave1; walk_say "STEP leave1"; try dsimp only)))
  · iterate 2 ((first | (k_unfold; (try dsimp only)) | (k_end; wrow_close) | walk1 | (dsimp only; walk1) | (dsimp only; k_unfold; (try dsimp only)) | (leave1; walk_say "STEP leave1"; try dsimp only)))
    refine LCt.ListComp_T (cl := []) (by assumption) ?_ ?_ ?_ ?_ ?_ ?_ ?_
    · with_unfolding_all rfl
    · decide
    · rfl
    · decide
    · rfl
    · iterate 9 ((first | (k_unfold; (try dsimp only)) | (k_end; wrow_close) | walk1 | (dsimp only; walk1) | (dsimp only; k_unfold; (try dsimp only)) | (leave1; walk_say "STEP leave1"; try dsimp only)))
      refine kba_turn (value' := PySem.Expr.Name (PySem.Str.ofString "_") ⟨0, 0, 0, 0⟩) (fun _ => rfl) ?_
      have m1 := kmk_from hci (show (0 : Int) ≤ (S : Int) by omega)
      refine' kmk_slice_ints ?zzF ?zzN ?zzl ?zzp ?zzq hci m1 rfl ?_ ?zzs ?zzt ?zzz
      (case zzF => k_asm)
      (case zzN => k_asm)
      (case zzl => exact News.isList (by k_asm) (by k_mem))
      (case zzp => exact IsPart.int _ _)
      (case zzq => exact IsPart.none)
      (case zzs => with_unfolding_all rfl)
      (case zzt => intro _; with_unfolding_all rfl)
      (case zzz => rw [List.size_toArray, sizeLine_eq]; omega)
      intro R wr hR FR NR lR hws hwl hwl2
      rename_i D vd hD FD ND' hID lD hEq
      rw [Int.toNat_natCast, List.drop_left' hl2] at hws
      dsimp only
      refine LCt.CompSrcT.ledger rfl FR NR (.head _) (by rw [List.size_toArray, hws.length, List.length_replicate, sizeLine_eq]; omega) (fun g' => restT_of (fun i ys nw => nw = (R, listOf wr.toArray 0) :: (D, listOf vd.toArray 0) :: led17 L x dx tb ck d rw bs p q h1 h2 t1 t2 qo o5 o4 o3 o2 o1 o8 rv nr bv nb ts nt cs nc od o6 o7 po ((hl, listOf vh.toArray nh) :: (mo, listOf vm.toArray nm) :: tl) ∧ ys = []) ?_ ?_ _ 0 [] _ (Nat.zero_add _) ⟨rfl, rfl⟩)
      · intro i v ys nw I oI C oC D2 m₂ h tk E' hin hP hJ hC hx F₂ N₂ off ne
        obtain ⟨rfl, rfl⟩ := hJ
        obtain ⟨c, t', rfl, hc⟩ := IntsAre.at hws i v (by simpa using hP)
        obtain rfl : c = 0 := by
          have := List.mem_of_getElem? hc
          exact (List.mem_replicate.mp this).2
        (((try k_fold); repeat' ((first | (k_unfold; (try dsimp only)) | (k_end; wrow_close) | walk1 | (dsimp only; walk1) | (dsimp only; k_unfold; (try dsimp only)) | (leave1; walk_say "STEP leave1"; try dsimp only)))))
        exact LCg.CompEnd.intro F₂ N₂ _ (fun _ h => h) off (.inr ⟨_, .head _, rfl, _, rfl⟩) ⟨rfl, rfl⟩
      · intro ys nw hPat2
        refine goal_gen ?_; intro GG hGG
        obtain ⟨rfl, rfl⟩ := hPat2
        refine hGG ?_; clear hGG GG
        intro D2 h' tk' F₂ N₂ off
        (((try k_fold); repeat' ((first | (k_unfold; (try dsimp only)) | (k_end; wrow_close) | walk1 | (dsimp only; walk1) | (dsimp only; k_unfold; (try dsimp only)) | (leave1; walk_say "STEP leave1"; try dsimp only)))))
        (with_reducible rename Fr _ _ _ _ => F')
        exact hQ _ _ _ F'
    · intro _; with_unfolding_all rfl
  · rename_i hne
    exact absurd (by rw [k3, k4]) hne
end


section
open PyProof.Rows.LSm
set_option maxRecDepth 100000 in
set_option maxHeartbeats 4000000 in
theorem law_rest {prog : Program} {w : World} {mean : ExcName → Option Value} {mg mb : Str → Option Value} {base g : Heap} {L fa : Addr} {cdv : Value} {s : Shared} {h₁ : Heap} {tk : Nat} {m : Str → Option Value} {Q : Flow → Shared → Prop}
  {x dx tb ck d rw bs p q : Addr} {h1 h2 : Int} {t1 t2 : Tok} {od po qo o8 o7 o6 o5 o4 o3 o2 o1 : Obj}
  (B : Below callerA base [] g) (X : (hd.heap_39 w.params).In g) (T : Top hd.view_39 (looseW hd.view_39 []) mean mg mb g) (F : Fr g L h₁ m) (N : News g L h₁ (led17 L x dx tb ck d rw bs p q h1 h2 t1 t2 qo o5 o4 o3 o2 o1 o8 ([]) 0 ([]) 0 ([]) 0 ([]) 0 od o6 o7 po ([]))) (nd : ND (led17 L x dx tb ck d rw bs p q h1 h2 t1 t2 qo o5 o4 o3 o2 o1 o8 ([]) 0 ([]) 0 ([]) 0 ([]) 0 od o6 o7 po ([])))
  (c1 : o1.data = .cell (some (.ref p))) (c2 : o2.data = .cell (some (.ref x))) (c3 : o3.data = .cell (some (.ref d))) (c4 : o4.data = .cell (some (.ref rw))) (c5 : o5.data = .cell (some (.ref bs))) (hq : InnerOk qo) (lo : (d == sysModules) = false)
  (hp : PenOk 0 q po) {v6 v7 : Option Value} (h6 : o6.data = .cell v6) (h7 : o7.data = .cell v7) (c8 : o8.data = .cell none) (hod : od.IsDictOf (intKind prog w) [])
  (hQ : ∀ h' tk' m', Fr g L h' m' → Q (.ret (.bool true)) { s with heap := h', toks := tk' }) :
  wpAny (model prog w) (lawA (callerA.depth + 1) (callerA.units + 3) (some []) L fa cdv [] lawScope) (execs (lawBody.drop 2) (lawE L fa cdv lawScope)) Q (fun _ _ => False) { s with heap := h₁, toks := tk } := by
  have hdp : callerA.depth + 1 + 12 < recursionLimit := by decide
  have hun : callerA.units + 3 + 8 * 12 + 200 < cLine := by rw [cLine_is]; decide
  refine execs_cut 1 _ (loop_ok (nt := 0) (nc := 0) (nr := 0) (nb := 0) (ts := []) (cs := []) (rv := []) (bv := []) (tl := []) B X T hdp hun F N nd c1 c2 c3 c4 c5 hq lo hp h6 h7 hod) ?_
  intro h₂ tk₂ m₂ nw₂ F₂ N₂ hPat6
  refine goal_gen ?_; intro GG hGG
  refine ex1 (hPat6) ?_; clear hPat6; intro n hZz; refine an3 (hZz) ?_; clear hZz; intro hn1 hn5 hInv
  refine hGG ?_; clear hGG GG
  clear N F nd h6 h7 hod hp od po o7 o6
  refine goal_gen ?_; intro GG hGG
  refine ex21 (hInv) ?_; clear hInv; intro nt nc nr nb S ts cs rv bv od po o7 o6 tl kvs own vl bases Ms v6 v7 hZz; refine an16 (hZz) ?_; clear hZz; intro hE21 nd hpen hc6 hc7 hod hkl hcells tied hS10 hti hci hbv hrows hMs hne; subst hE21
  refine hGG ?_; clear hGG GG
  dsimp only
  rw [List.drop_drop]
  have hne1 := hne hn1
  subst hMs
  refine execs_cut 1 _ (segH B X T F₂ N₂ nd c2 c4 c5 c8 hrows.1 hn5) ?_
  intro h₃ tk₃ m₃ nw₃ F₃ N₃ hPat6
  refine goal_gen ?_; intro GG hGG
  refine ex14 (hPat6) ?_; clear hPat6; intro px dq ow o8' h3 h4 h5 h6 t3 t4 t5 t6 ov no hZz; refine an4 (hZz) ?_; clear hZz; intro hE14 nd3 hc8 hov; subst hE14
  refine hGG ?_; clear hGG GG
  dsimp only
  rw [List.drop_drop]
  refine execs_cut 1 _ (segI B X T hdp hun F₃ N₃ nd3 c3 c4 hc8 hod lo hne1 tied (by omega) hn5 hti hci hbv hov hrows) ?_
  rintro h₄ tk₄ m₄ nw₄ F₄ N₄ rfl
  dsimp only
  rw [List.drop_drop]
  refine execs_cut 1 _ (ask_ok B X T hdp hun F₄ N₄ nd3 c2 c4 c5 hc6 hc8 tied (by omega) hn5 hti hci hbv hov hrows) ?_
  intro h₅ tk₅ m₅ nw₅ F₅ N₅ hPat6
  refine goal_gen ?_; intro GG hGG
  refine ex2 (hPat6) ?_; clear hPat6; intro o6' v6' hZz; refine an2 (hZz) ?_; clear hZz; intro hd6 hE3; subst hE3
  refine hGG ?_; clear hGG GG
  dsimp only
  rw [List.drop_drop]
  refine execs_cut 2 _ (segM (k := 1 + 27 * Ms.length) (chk := []) B X T hdp hun F₅ N₅ nd3 c1 c2 hpen hq (by omega) (by omega) hti (tabOf_length ..)) ?_
  intro h₆ tk₆ m₆ nw₆ F₆ N₆ hPat6
  refine goal_gen ?_; intro GG hGG
  refine ex7 (hPat6) ?_; clear hPat6; intro po' e te tz hl vh nh hZz; refine an6 (hZz) ?_; clear hZz; intro hE7 hE8 nd6 he0 he1 hvh; subst hE7; subst hE8
  refine hGG ?_; clear hGG GG
  dsimp only
  rw [List.drop_drop]
  refine execs_cut 2 _ (segN B X T hdp hun F₆ N₆ nd6 c2 he0 he1 (by omega) hti hci (tabOf_length ..) (tabOf_length ..)) ?_
  intro h₇ tk₇ m₇ nw₇ F₇ N₇ hPat6
  refine goal_gen ?_; intro GG hGG
  refine ex7 (hPat6) ?_; clear hPat6; intro ts' cs' nt' nc' mo vm nm hZz; refine an6 (hZz) ?_; clear hZz; intro hE7 hE8 nd7 hti' hci' hvm; subst hE7; subst hE8
  refine hGG ?_; clear hGG GG
  dsimp only
  rw [List.drop_drop]
  unfold growTo at hti' hci'
  rw [tabOf_length] at hti' hci'
  exact segO B X T hdp hun F₇ N₇ nd7 c2 (by omega) (by omega) hti' hci' hvh hvm (tabOf_length ..) (tabOf_length ..) hQ
end


section
open PyProof.Rows.LSm
noncomputable def upward : Nat → List Nat → Prop
  | _, [] => True
  | a, b :: l => a < b ∧ upward b l
theorem upward_lt : ∀ {a : Nat} {l : List Nat}, upward a l → ∀ b ∈ l, a < b
  | _, [], _, _, h => nomatch h
  | a, c :: l, h, b, hb => by
    rcases List.mem_cons.mp hb with rfl | hb
    · exact h.1
    · exact Nat.lt_trans h.1 (upward_lt h.2 b hb)
theorem upward_nodup : ∀ {a : Nat} {l : List Nat}, upward a l → (a :: l).Nodup
  | a, [], _ => by simp
  | a, c :: l, h => List.nodup_cons.mpr ⟨fun hm => Nat.lt_irrefl _ (upward_lt (l := c :: l) h a hm), upward_nodup h.2⟩

theorem nd_start {L x dx tb ck d rw bs p q : Addr} {o : Obj} {a1' a2' a3' a4' a5' a6' a7' a8' a9' b1' b2' b3' b4' b5' b6' b7' b8' : Obj} (f8 : @LT.lt Nat _ (L + 8) p) (hpq : @Ne Nat p q) (e8 : @Ne Nat (L + 8) q) (e7 : @Ne Nat (L + 7) q) (e6 : @Ne Nat (L + 6) q) (e5 : @Ne Nat (L + 5) q) (e4 : @Ne Nat (L + 4) q) (e3 : @Ne Nat (L + 3) q) (e2 : @Ne Nat (L + 2) q) (e1 : @Ne Nat (L + 1) q)
    (a1 : @LT.lt Nat _ p dx) (a2 : @LT.lt Nat _ q dx) (a3 : @LT.lt Nat _ dx x) (a4 : @LT.lt Nat _ x tb) (a5 : @LT.lt Nat _ tb ck) (a6 : @LT.lt Nat _ ck d) (a7 : @LT.lt Nat _ d rw) (a8 : @LT.lt Nat _ rw bs) :
    ND [(x, a1'), (dx, a2'), (tb, a3'), (ck, a4'), (d, a5'), (rw, a6'), (bs, a7'), (p, a8'), (q, a9'), (L + 8, b8'), (L + 7, b7'), (L + 6, b6'), (L + 5, b5'), (L + 4, b4'), (L + 3, b3'), (L + 2, b2'), (L + 1, b1')] := by
  have h2 : ([L + 1, L + 2, L + 3, L + 4, L + 5, L + 6, L + 7, L + 8, p, dx, x, tb, ck, d, rw, bs] : List Nat).Nodup := upward_nodup
    ⟨Nat.lt_succ_self _, Nat.lt_succ_self _, Nat.lt_succ_self _, Nat.lt_succ_self _, Nat.lt_succ_self _, Nat.lt_succ_self _, Nat.lt_succ_self _, f8, a1, a3, a4, a5, a6, a7, a8, trivial⟩
  have g1 := Nat.lt_trans a2 a3
  have g2 := Nat.lt_trans g1 a4
  have g3 := Nat.lt_trans g2 a5
  have g4 := Nat.lt_trans g3 a6
  have g5 := Nat.lt_trans g4 a7
  have g6 := Nat.lt_trans g5 a8
  have h3 : q ∉ ([L + 1, L + 2, L + 3, L + 4, L + 5, L + 6, L + 7, L + 8, p, dx, x, tb, ck, d, rw, bs] : List Nat) := by
    simp only [List.mem_cons, List.not_mem_nil, or_false, not_or]
    exact ⟨e1.symm, e2.symm, e3.symm, e4.symm, e5.symm, e6.symm, e7.symm, e8.symm, hpq.symm, Nat.ne_of_lt a2, Nat.ne_of_lt g1, Nat.ne_of_lt g2, Nat.ne_of_lt g3, Nat.ne_of_lt g4, Nat.ne_of_lt g5, Nat.ne_of_lt g6⟩
  have h4 : ND [(q, o), (L + 1, o), (L + 2, o), (L + 3, o), (L + 4, o), (L + 5, o), (L + 6, o), (L + 7, o), (L + 8, o), (p, o), (dx, o), (x, o), (tb, o), (ck, o), (d, o), (rw, o), (bs, o)] := List.nodup_cons.mpr ⟨h3, h2⟩
  exact nd_pk h4 [11, 10, 12, 13, 14, 15, 16, 9, 0, 8, 7, 6, 5, 4, 3, 2, 1] 17 (by decide) (by decide)

set_option maxRecDepth 100000 in
set_option maxHeartbeats 8000000 in
theorem law_walk : PySem.Challenge.rw_on0159_01.Holds := by
  refine Mine.hd ?_
  w_strict k_go0
  rename_i w s₀ s₁ mg mb G Y fa o pm doc ho hg KX X V GL T B TE TW w17 w16 M w15 w14 hcd xs hs hlay0 hL1 hr1 hl2 w12 w11 sc vs w8 hL ra w1 r0 hI hr hc1 hc2 K0 hD h₁ tk₁ F o8 o7 o6 o5 o4 o3 o2 o1 l6 l5 l4 l3 l2 l1 l0 rt N0 X0
  clear hcd hD w1 r0 ra hr w12 w11 hs hlay0 hL1 hr1 hl2 hc2 GL TE TW B Y
  replace l6 : o8.data = .cell none := l6
  replace l5 : o7.data = .cell none := l5
  replace l4 : o6.data = .cell none := l4
  replace l3 : o5.data = .cell none := l3
  replace l2 : o4.data = .cell none := l2
  replace l1 : o3.data = .cell none := l1
  replace l0 : o2.data = .cell none := l0
  replace rt : o1.data = .cell none := rt
  clear X0
  replace F := fr_same F (m' := mp [(Str.ofString "script", .ref sc)]) (fun y => rfl)
  generalize s₁.heap.objs.size = L at F N0 ⊢
  refine execs_cut (g := s₁.heap) (L := L) 1 (fun m nw => ∃ (p q : Addr) (po qo o1' : Obj), m = mp [(Str.ofString "script", .ref sc)] ∧
    nw = [(p, po), (q, qo), (L + 8, o8), (L + 7, o7), (L + 6, o6), (L + 5, o5), (L + 4, o4), (L + 3, o3), (L + 2, o2), (L + 1, o1')] ∧
    o1'.data = .cell (some (.ref p)) ∧ PenOk 0 q po ∧ InnerOk qo ∧ @Ne Nat p q ∧ @LT.lt Nat _ (L + 8) p ∧ (@Ne Nat (L + 8) q ∧ @Ne Nat (L + 7) q ∧ @Ne Nat (L + 6) q ∧ @Ne Nat (L + 5) q ∧ @Ne Nat (L + 4) q ∧ @Ne Nat (L + 3) q ∧ @Ne Nat (L + 2) q ∧ @Ne Nat (L + 1) q)) ?_ ?_
  · dsimp only [List.take]
    (((try k_fold); repeat' ((first | (k_unfold; (try dsimp only)) | (k_end; wrow_close) | walk1 | (dsimp only; walk1) | (dsimp only; k_unfold; (try dsimp only)) | (leave1; walk_say "STEP leave1"; try dsimp only)))))
    rename_i D1 ws h3 hI1 hC1 hL1 l1a hk1 hk2 g1 hI8 hL8 q h4 tq oq p h5 F5 N5 l1b Tc kX h6 o1' F6 N6 d6
    refine Mid.intro F6 N6 ⟨p, q, _, _, o1', rfl, rfl, d6, ⟨0, _, 0, _, _, rfl, Int.le_refl _, Int.le_refl _, Int.le_refl _⟩, ⟨ys, _, _, rfl, hI8, ?_⟩, Nat.ne_of_gt l1b.1, l1b.2.2.1, oq.2.1, oq.2.2.1, oq.2.2.2.1, oq.2.2.2.2.1, oq.2.2.2.2.2.1, oq.2.2.2.2.2.2.1, oq.2.2.2.2.2.2.2.1, by first | exact oq.2.2.2.2.2.2.2.2 | exact oq.2.2.2.2.2.2.2.2.1⟩ (by k_allIn)
    rw [List.length_map, List.length_take]; exact Nat.min_le_left _ _
  · intro h' tk' m' news' F₂ N₂ hPat6
    refine goal_gen ?_; intro GG hGG
    refine ex5 (hPat6) ?_; clear hPat6; intro p q po qo o1' hZz; refine an15 (hZz) ?_; clear hZz; intro hE5 hE6 hp1 hpen hin hpq f8 e8 e7 e6 e5 e4 e3 e2 e1; subst hE5; subst hE6
    refine hGG ?_; clear hGG GG
    clear F N0 rt
    dsimp only [List.drop]
    have hdp : callerA.depth + 1 + 20 < recursionLimit := by decide
    have hun : callerA.units + 3 + 8 * 20 + 200 < cLine := by rw [cLine_is]; decide
    change wpAny _ (ktrTop (callerA.depth + 1) (callerA.units + 3) (some []) _ _ _ _ _ [(Str.ofString "packed", L + 8), (Str.ofString "base", L + 7), (Str.ofString "number", L + 6), (Str.ofString "bases", L + 5), (Str.ofString "rows", L + 4), (Str.ofString "cells", L + 3), (Str.ofString "comb", L + 2), (Str.ofString "pen", L + 1)] []) (execs _ (envX _ _ _ _ _ [(Str.ofString "packed", L + 8), (Str.ofString "base", L + 7), (Str.ofString "number", L + 6), (Str.ofString "bases", L + 5), (Str.ofString "rows", L + 4), (Str.ofString "cells", L + 3), (Str.ofString "comb", L + 2), (Str.ofString "pen", L + 1)])) _ _ _
    generalize hde : callerA.depth + 1 = dp at hdp ⊢
    generalize hue : callerA.units + 3 = un at hun ⊢
    have K1 : Below callerA s₁.heap [] s₁.heap := K0
    have T1 : Top hd.view_39 (looseW hd.view_39 []) (ExcName.means s₀.heap) mg mb s₁.heap := T
    clear K0 T M V X ho hL hI hc1 G
    refine execs_cut (g := s₁.heap) (L := L) 1 (fun m nw => ∃ (x dx tb ck d rw bs : Addr) (h1 h2 : Int) (t1 t2 : Tok) (od o2' o3' o4' o5' : Obj), m = mp [(Str.ofString "script", .ref sc)] ∧
      nw = [(x, instObj 73 dx), (dx, combD h1 h2 t1 t2 tb ck), (tb, listOf #[] 0), (ck, listOf #[] 0), (d, od), (rw, listOf #[] 0), (bs, listOf #[] 0), (p, po), (q, qo), (L + 8, o8), (L + 7, o7), (L + 6, o6), (L + 5, o5'), (L + 4, o4'), (L + 3, o3'), (L + 2, o2'), (L + 1, o1')] ∧
      o2'.data = .cell (some (.ref x)) ∧ o3'.data = .cell (some (.ref d)) ∧ o4'.data = .cell (some (.ref rw)) ∧ o5'.data = .cell (some (.ref bs)) ∧ od.IsDictOf (intKind Challenge.rw_on0159_01.row.prog w) [] ∧ (d == sysModules) = false ∧
      @LT.lt Nat _ p dx ∧ @LT.lt Nat _ q dx ∧ @LT.lt Nat _ dx x ∧ @LT.lt Nat _ x tb ∧ @LT.lt Nat _ tb ck ∧ @LT.lt Nat _ ck d ∧ @LT.lt Nat _ d rw ∧ @LT.lt Nat _ rw bs) ?_ ?_
    · dsimp only [List.take]
      subst hde hue
      (((try k_fold); repeat' ((first | (k_unfold; (try dsimp only)) | (k_end; wrow_close) | walk1 | (dsimp only; walk1) | (dsimp only; k_unfold; (try dsimp only)) | (leave1; walk_say "STEP leave1"; try dsimp only)))))
      rename_i x dx hA lA l2 gg LL hB BB XX TT tA tb hC lB hD tB ck hE lC hF FF NN tC Tcc kXX d hG od lo hs fs hi fi lD rw hH lE bs hI lF D hJ lG hK hL o2' c2 hM o3' c3 hN o4' c4 hO o5' F' N' c5
      clear FF NN BB TT XX
      exact Mid.intro F' N' ⟨x, dx, tb, ck, d, rw, bs, _, _, _, _, od, o2', o3', o4', o5', rfl, rfl, c2, c3, c4, c5, hi, lo, by omega, by omega, by omega, by omega, by omega, by omega, by omega, by omega⟩ (by k_allIn)
    · intro h' tk' m' news' F₃ N₃ hPat6
      refine goal_gen ?_; intro GG hGG
      refine ex16 (hPat6) ?_; clear hPat6; intro x dx tb ck d rw bs h1 h2 t1 t2 od o2' o3' o4' o5' hZz; refine an16 (hZz) ?_; clear hZz; intro hE16 hE17 c2 c3 c4 c5 hod lo a1 a2 a3 a4 a5 a6 a7 a8; subst hE16; subst hE17
      refine hGG ?_; clear hGG GG
      clear F₂ N₂ l2 l1 l0
      dsimp only [List.drop]
      have nd : ND ((x, instObj 73 dx) :: (dx, combD h1 h2 t1 t2 tb ck) :: (tb, listOf (List.toArray []) 0) :: (ck, listOf (List.toArray []) 0) :: (d, od) :: (rw, listOf (List.toArray []) 0) :: (bs, listOf (List.toArray []) 0) :: (p, po) :: (q, qo) :: (L + 8, o8) :: (L + 7, o7) :: (L + 6, o6) :: (L + 5, o5') :: (L + 4, o4') :: (L + 3, o3') :: (L + 2, o2') :: (L + 1, o1') :: []) := nd_start (o := po) f8 hpq e8 e7 e6 e5 e4 e3 e2 e1 a1 a2 a3 a4 a5 a6 a7 a8
      subst hde hue
      refine wpAny_mono (law_rest (h1 := h1) (h2 := h2) (t1 := t1) (t2 := t2) K1 KX T1 F₃ N₃ nd hp1 c2 c3 c4 c5 hin lo hpen l4 l5 l6 hod (Q := fun f s' => GoodW Challenge.rw_on0159_01.row.claim (classAt s₀.heap) (ExcName.means s₀.heap) [ofPy (PyData.list (List.map PyData.int xs))] s₁ (Except.ok (Flow.ret (match f with | Flow.ret v => v | x => Value.none))) s') ?_) (fun _ _ h => h) (fun _ _ h => h.elim)
      intro h' tk' m' F'
      dsimp only
      wrow_close
end

end Mine
set_option maxRecDepth 100000 in
theorem PySem.Challenge.cw_on0159_01_holds : PySem.Challenge.rw_on0159_01.Holds := by
  exact Mine.law_walk
