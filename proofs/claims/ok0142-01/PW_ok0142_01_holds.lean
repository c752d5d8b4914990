import PyProof.Rows.All
import Wide.All
import OpenK.AllK
import Wide.FinOn
import PyProof.InstStore
import PyProof.InstStoreFacts
import PyProof.InstLoad
import PyProof.ExcArgsOwn
import PySem.Challenge.RW_ok0142_01
set_option Elab.async false
section
open PySem PySem.W PyProof.Rows
namespace Mine
theorem twin0 : @PySem.instDecidableEqStr = @PySem.instDecidableEqStr := rfl
-- the names of the big constants' twins are taken, so that the head makes no twin of them: each would be a proof of some megabytes
name_quick tw7974539635466776896 for PySem.instDecidableEqStr by twin0
name_quick tw8075568018651887793 for PySem.instDecidableEqStr by twin0
name_quick tw9506841374142046533 for PySem.instDecidableEqStr by twin0
name_quick tw17059012051798962494 for PySem.instDecidableEqStr by twin0
name_quick tw14979626087600564940 for PySem.instDecidableEqStr by twin0
name_quick tw9413021647563260571 for PySem.instDecidableEqStr by twin0
name_quick tw13057501360547312074 for PySem.instDecidableEqStr by twin0
name_quick tw15189097556100943862 for PySem.instDecidableEqStr by twin0
name_quick tw5986070226099191233 for PySem.instDecidableEqStr by twin0
name_quick tw6489507552545477252 for PySem.instDecidableEqStr by twin0
name_quick tw16966814322356759819 for PySem.instDecidableEqStr by twin0
name_quick tw16697116713213952808 for PySem.instDecidableEqStr by twin0
name_quick tw10245695241705296601692 for PySem.instDecidableEqStr by twin0
name_quick tw7695134704397734373 for PySem.instDecidableEqStr by twin0
name_quick tw12522872232266410630 for PySem.instDecidableEqStr by twin0
name_quick tw5076957145309523181 for PySem.instDecidableEqStr by twin0
name_quick tw12700139031502230420 for PySem.instDecidableEqStr by twin0
name_quick tw2660918139993853925 for PySem.instDecidableEqStr by twin0
name_quick tw10695241705296601692 for PySem.instDecidableEqStr by twin0
name_quick tw2670528217467546775 for PySem.instDecidableEqStr by twin0
name_quick tw13759679279233594173 for PySem.instDecidableEqStr by twin0
name_quick tw11130039905162102590 for PySem.instDecidableEqStr by twin0
name_quick tw900395245841561262 for PySem.instDecidableEqStr by twin0
name_quick tw14821650378409806113 for PySem.instDecidableEqStr by twin0
name_quick tw9501820088010722379 for PySem.instDecidableEqStr by twin0
name_quick tw15450981722951097364 for PySem.instDecidableEqStr by twin0
name_quick tw16979880578912567463 for PySem.instDecidableEqStr by twin0
name_quick tw4224760802259116069 for PySem.instDecidableEqStr by twin0
name_quick tw17552769576498331613 for PySem.instDecidableEqStr by twin0
name_quick tw1620339239838986703 for PySem.instDecidableEqStr by twin0
name_quick tw3916196269025109296 for PySem.instDecidableEqStr by twin0
name_quick tw18416463498863911781 for PySem.instDecidableEqStr by twin0
name_quick tw4407734736301137906 for PySem.instDecidableEqStr by twin0
name_quick tw1523951592034530338 for PySem.instDecidableEqStr by twin0
name_quick tw4978915544186085027 for PySem.instDecidableEqStr by twin0
name_quick tw16643706677886111943 for PySem.instDecidableEqStr by twin0
name_quick tw11964429278604863157 for PySem.instDecidableEqStr by twin0
name_quick tw16145008321745377990 for PySem.instDecidableEqStr by twin0
name_quick tw6929956602132211858 for PySem.instDecidableEqStr by twin0
name_quick tw387338674003428930 for PySem.instDecidableEqStr by twin0
name_quick tw15663404670287596823 for PySem.instDecidableEqStr by twin0
name_quick tw6792406925840432001 for PySem.instDecidableEqStr by twin0
name_quick tw3764465048917985505 for PySem.instDecidableEqStr by twin0
name_quick tw16752143609539240740 for PySem.instDecidableEqStr by twin0
name_quick tw1537898542681612871 for PySem.instDecidableEqStr by twin0
name_quick tw667198328695590252 for PySem.instDecidableEqStr by twin0
name_quick tw17476080006546285661 for PySem.instDecidableEqStr by twin0
name_quick tw17000155066101142889 for PySem.instDecidableEqStr by twin0
name_quick tw16439824349840649037 for PySem.instDecidableEqStr by twin0
name_quick tw4933834842325187142 for PySem.instDecidableEqStr by twin0
name_quick tw7496433998918960881 for PySem.instDecidableEqStr by twin0
name_quick tw4011157648589011858 for PySem.instDecidableEqStr by twin0
name_quick tw9315938663221665524 for PySem.instDecidableEqStr by twin0
name_quick tw10346894026039390216 for PySem.instDecidableEqStr by twin0
name_quick tw1218959903707654005 for PySem.instDecidableEqStr by twin0
name_quick tw2422670821966735624 for PySem.instDecidableEqStr by twin0
name_quick tw3976722010076183465 for PySem.instDecidableEqStr by twin0
name_quick tw14311459727803291754 for PySem.instDecidableEqStr by twin0
name_quick tw15168306246750427876 for PySem.instDecidableEqStr by twin0
name_quick tw8400853705098224536 for PySem.instDecidableEqStr by twin0
name_quick tw704327219915372674 for PySem.instDecidableEqStr by twin0
name_quick tw11270796479367742343 for PySem.instDecidableEqStr by twin0
name_quick tw16241802466949684156 for PySem.instDecidableEqStr by twin0
name_quick tw9407582987413476825 for PySem.instDecidableEqStr by twin0
name_quick tw16296994325663420285 for PySem.instDecidableEqStr by twin0
name_quick tw13145125596335152023 for PySem.instDecidableEqStr by twin0
name_quick tw10029231156530900338 for PySem.instDecidableEqStr by twin0
name_quick tw15475462885187679331 for PySem.instDecidableEqStr by twin0
name_quick tw4071324889030633612 for PySem.instDecidableEqStr by twin0
name_quick tw2905824091091238844 for PySem.instDecidableEqStr by twin0
name_quick tw912392155897948271 for PySem.instDecidableEqStr by twin0
name_quick tw6122645084068987007 for PySem.instDecidableEqStr by twin0
name_quick tw17111948838632640456 for PySem.instDecidableEqStr by twin0
name_quick tw8693227569615203950 for PySem.instDecidableEqStr by twin0
name_quick tw5131478536388391638 for PySem.instDecidableEqStr by twin0
name_quick tw14433975572909055671 for PySem.instDecidableEqStr by twin0
name_quick tw12268644228514654432 for PySem.instDecidableEqStr by twin0
name_quick tw6711915476519705758 for PySem.instDecidableEqStr by twin0
name_quick tw11543547407058413889 for PySem.instDecidableEqStr by twin0
name_quick tw13317431791736044220 for PySem.instDecidableEqStr by twin0
name_quick tw219737044198020058 for PySem.instDecidableEqStr by twin0
name_quick tw460243522976405022 for PySem.instDecidableEqStr by twin0
name_quick tw15278061642289888581 for PySem.instDecidableEqStr by twin0
name_quick tw1962928258387122110 for PySem.instDecidableEqStr by twin0
name_quick tw2408619945344806742 for PySem.instDecidableEqStr by twin0
name_quick tw9136488742655976645 for PySem.instDecidableEqStr by twin0
name_quick tw11994158751524154303 for PySem.instDecidableEqStr by twin0
name_quick tw11186114360453789277 for PySem.instDecidableEqStr by twin0
name_quick tw4775785305629353868 for PySem.instDecidableEqStr by twin0
name_quick tw2039238271031011813 for PySem.instDecidableEqStr by twin0
name_quick tw2862820112641550484 for PySem.instDecidableEqStr by twin0
name_quick tw5200128776193632040 for PySem.instDecidableEqStr by twin0
name_quick tw13607416678640721797 for PySem.instDecidableEqStr by twin0
name_quick tw4549333791460862111 for PySem.instDecidableEqStr by twin0
name_quick tw10007627690174824804 for PySem.instDecidableEqStr by twin0
name_quick tw6380047634161181297 for PySem.instDecidableEqStr by twin0
name_quick tw2283851925072248500 for PySem.instDecidableEqStr by twin0
name_quick tw17975652961387846372 for PySem.instDecidableEqStr by twin0
name_quick tw17057272898397164401 for PySem.instDecidableEqStr by twin0
name_quick tw18350330562280901221 for PySem.instDecidableEqStr by twin0
name_quick tw13180171748994924942 for PySem.instDecidableEqStr by twin0
name_quick tw5978237884098788730 for PySem.instDecidableEqStr by twin0
name_quick tw1414301608579184545 for PySem.instDecidableEqStr by twin0
name_quick tw8424611434330503625 for PySem.instDecidableEqStr by twin0
name_quick tw13559156169165276386 for PySem.instDecidableEqStr by twin0
name_quick tw17964007177503468958 for PySem.instDecidableEqStr by twin0
name_quick tw12172078356533094185 for PySem.instDecidableEqStr by twin0
name_quick tw5111356299099525756 for PySem.instDecidableEqStr by twin0
name_quick tw16817318245366136608 for PySem.instDecidableEqStr by twin0
name_quick tw8753696776887207221 for PySem.instDecidableEqStr by twin0
name_quick tw4302124980754421698 for PySem.instDecidableEqStr by twin0
name_quick tw14168537005229113720 for PySem.instDecidableEqStr by twin0
name_quick tw662354867322794072 for PySem.instDecidableEqStr by twin0
name_quick tw8206430501311747189 for PySem.instDecidableEqStr by twin0
name_quick tw12635297910168745909 for PySem.instDecidableEqStr by twin0
name_quick tw15894407043143930727 for PySem.instDecidableEqStr by twin0
set_option maxRecDepth 100000 in
set_option maxHeartbeats 8000000 in
open_top hd for PySem.Challenge.rw_ok0142_01
end Mine
end
namespace Mine
section
open PySem PySem.W PyProof.Rows
theorem flush_B0 : (if (1 : Nat) = 1 then True else True) := by
  w_top off
  (try walk1)
  all_goals (first | trivial | simp)
end
section
open PySem PySem.W PyProof.Rows
section
abbrev Led := List (Addr × Obj)

/-- a goal as a letter, while hypotheses are taken apart -/
theorem opq {C : Prop} (h : ∀ X : Prop, (C → X) → X) : C := h C id

-- facts taken apart in one step
theorem ea_0_4 {p0 p1 p2 p3 : Prop} {C : Prop} (h : p0 ∧ p1 ∧ p2 ∧ p3) (k : p0 → p1 → p2 → p3 → C) : C :=
  by obtain ⟨h0, h1, h2, h3⟩ := h; exact k h0 h1 h2 h3
theorem ea_0_5 {p0 p1 p2 p3 p4 : Prop} {C : Prop} (h : p0 ∧ p1 ∧ p2 ∧ p3 ∧ p4) (k : p0 → p1 → p2 → p3 → p4 → C) : C :=
  by obtain ⟨h0, h1, h2, h3, h4⟩ := h; exact k h0 h1 h2 h3 h4
theorem ea_0_6 {p0 p1 p2 p3 p4 p5 : Prop} {C : Prop} (h : p0 ∧ p1 ∧ p2 ∧ p3 ∧ p4 ∧ p5) (k : p0 → p1 → p2 → p3 → p4 → p5 → C) : C :=
  by obtain ⟨h0, h1, h2, h3, h4, h5⟩ := h; exact k h0 h1 h2 h3 h4 h5
theorem ea_0_7 {p0 p1 p2 p3 p4 p5 p6 : Prop} {C : Prop} (h : p0 ∧ p1 ∧ p2 ∧ p3 ∧ p4 ∧ p5 ∧ p6) (k : p0 → p1 → p2 → p3 → p4 → p5 → p6 → C) : C :=
  by obtain ⟨h0, h1, h2, h3, h4, h5, h6⟩ := h; exact k h0 h1 h2 h3 h4 h5 h6
theorem ea_0_8 {p0 p1 p2 p3 p4 p5 p6 p7 : Prop} {C : Prop} (h : p0 ∧ p1 ∧ p2 ∧ p3 ∧ p4 ∧ p5 ∧ p6 ∧ p7) (k : p0 → p1 → p2 → p3 → p4 → p5 → p6 → p7 → C) : C :=
  by obtain ⟨h0, h1, h2, h3, h4, h5, h6, h7⟩ := h; exact k h0 h1 h2 h3 h4 h5 h6 h7
theorem ea_1_3 {α0 : Type} {p0 p1 p2 : α0 → Prop} {C : Prop} (h : ∃ a0, p0 a0 ∧ p1 a0 ∧ p2 a0) (k : ∀ a0, p0 a0 → p1 a0 → p2 a0 → C) : C :=
  by obtain ⟨a0, h0, h1, h2⟩ := h; exact k a0 h0 h1 h2
theorem ea_1_4 {α0 : Type} {p0 p1 p2 p3 : α0 → Prop} {C : Prop} (h : ∃ a0, p0 a0 ∧ p1 a0 ∧ p2 a0 ∧ p3 a0) (k : ∀ a0, p0 a0 → p1 a0 → p2 a0 → p3 a0 → C) : C :=
  by obtain ⟨a0, h0, h1, h2, h3⟩ := h; exact k a0 h0 h1 h2 h3
theorem ea_2_4 {α0 α1 : Type} {p0 p1 p2 p3 : α0 → α1 → Prop} {C : Prop} (h : ∃ a0 a1, p0 a0 a1 ∧ p1 a0 a1 ∧ p2 a0 a1 ∧ p3 a0 a1) (k : ∀ a0 a1, p0 a0 a1 → p1 a0 a1 → p2 a0 a1 → p3 a0 a1 → C) : C :=
  by obtain ⟨a0, a1, h0, h1, h2, h3⟩ := h; exact k a0 a1 h0 h1 h2 h3
theorem ea_3_2 {α0 α1 α2 : Type} {p0 p1 : α0 → α1 → α2 → Prop} {C : Prop} (h : ∃ a0 a1 a2, p0 a0 a1 a2 ∧ p1 a0 a1 a2) (k : ∀ a0 a1 a2, p0 a0 a1 a2 → p1 a0 a1 a2 → C) : C :=
  by obtain ⟨a0, a1, a2, h0, h1⟩ := h; exact k a0 a1 a2 h0 h1
theorem ea_3_3 {α0 α1 α2 : Type} {p0 p1 p2 : α0 → α1 → α2 → Prop} {C : Prop} (h : ∃ a0 a1 a2, p0 a0 a1 a2 ∧ p1 a0 a1 a2 ∧ p2 a0 a1 a2) (k : ∀ a0 a1 a2, p0 a0 a1 a2 → p1 a0 a1 a2 → p2 a0 a1 a2 → C) : C :=
  by obtain ⟨a0, a1, a2, h0, h1, h2⟩ := h; exact k a0 a1 a2 h0 h1 h2
theorem ea_3_4 {α0 α1 α2 : Type} {p0 p1 p2 p3 : α0 → α1 → α2 → Prop} {C : Prop} (h : ∃ a0 a1 a2, p0 a0 a1 a2 ∧ p1 a0 a1 a2 ∧ p2 a0 a1 a2 ∧ p3 a0 a1 a2) (k : ∀ a0 a1 a2, p0 a0 a1 a2 → p1 a0 a1 a2 → p2 a0 a1 a2 → p3 a0 a1 a2 → C) : C :=
  by obtain ⟨a0, a1, a2, h0, h1, h2, h3⟩ := h; exact k a0 a1 a2 h0 h1 h2 h3
theorem ea_3_5 {α0 α1 α2 : Type} {p0 p1 p2 p3 p4 : α0 → α1 → α2 → Prop} {C : Prop} (h : ∃ a0 a1 a2, p0 a0 a1 a2 ∧ p1 a0 a1 a2 ∧ p2 a0 a1 a2 ∧ p3 a0 a1 a2 ∧ p4 a0 a1 a2) (k : ∀ a0 a1 a2, p0 a0 a1 a2 → p1 a0 a1 a2 → p2 a0 a1 a2 → p3 a0 a1 a2 → p4 a0 a1 a2 → C) : C :=
  by obtain ⟨a0, a1, a2, h0, h1, h2, h3, h4⟩ := h; exact k a0 a1 a2 h0 h1 h2 h3 h4
theorem ea_4_5 {α0 α1 α2 α3 : Type} {p0 p1 p2 p3 p4 : α0 → α1 → α2 → α3 → Prop} {C : Prop} (h : ∃ a0 a1 a2 a3, p0 a0 a1 a2 a3 ∧ p1 a0 a1 a2 a3 ∧ p2 a0 a1 a2 a3 ∧ p3 a0 a1 a2 a3 ∧ p4 a0 a1 a2 a3) (k : ∀ a0 a1 a2 a3, p0 a0 a1 a2 a3 → p1 a0 a1 a2 a3 → p2 a0 a1 a2 a3 → p3 a0 a1 a2 a3 → p4 a0 a1 a2 a3 → C) : C :=
  by obtain ⟨a0, a1, a2, a3, h0, h1, h2, h3, h4⟩ := h; exact k a0 a1 a2 a3 h0 h1 h2 h3 h4
theorem ea_4_6 {α0 α1 α2 α3 : Type} {p0 p1 p2 p3 p4 p5 : α0 → α1 → α2 → α3 → Prop} {C : Prop} (h : ∃ a0 a1 a2 a3, p0 a0 a1 a2 a3 ∧ p1 a0 a1 a2 a3 ∧ p2 a0 a1 a2 a3 ∧ p3 a0 a1 a2 a3 ∧ p4 a0 a1 a2 a3 ∧ p5 a0 a1 a2 a3) (k : ∀ a0 a1 a2 a3, p0 a0 a1 a2 a3 → p1 a0 a1 a2 a3 → p2 a0 a1 a2 a3 → p3 a0 a1 a2 a3 → p4 a0 a1 a2 a3 → p5 a0 a1 a2 a3 → C) : C :=
  by obtain ⟨a0, a1, a2, a3, h0, h1, h2, h3, h4, h5⟩ := h; exact k a0 a1 a2 a3 h0 h1 h2 h3 h4 h5
theorem ea_6_6 {α0 α1 α2 α3 α4 α5 : Type} {p0 p1 p2 p3 p4 p5 : α0 → α1 → α2 → α3 → α4 → α5 → Prop} {C : Prop} (h : ∃ a0 a1 a2 a3 a4 a5, p0 a0 a1 a2 a3 a4 a5 ∧ p1 a0 a1 a2 a3 a4 a5 ∧ p2 a0 a1 a2 a3 a4 a5 ∧ p3 a0 a1 a2 a3 a4 a5 ∧ p4 a0 a1 a2 a3 a4 a5 ∧ p5 a0 a1 a2 a3 a4 a5) (k : ∀ a0 a1 a2 a3 a4 a5, p0 a0 a1 a2 a3 a4 a5 → p1 a0 a1 a2 a3 a4 a5 → p2 a0 a1 a2 a3 a4 a5 → p3 a0 a1 a2 a3 a4 a5 → p4 a0 a1 a2 a3 a4 a5 → p5 a0 a1 a2 a3 a4 a5 → C) : C :=
  by obtain ⟨a0, a1, a2, a3, a4, a5, h0, h1, h2, h3, h4, h5⟩ := h; exact k a0 a1 a2 a3 a4 a5 h0 h1 h2 h3 h4 h5
theorem ea_6_7 {α0 α1 α2 α3 α4 α5 : Type} {p0 p1 p2 p3 p4 p5 p6 : α0 → α1 → α2 → α3 → α4 → α5 → Prop} {C : Prop} (h : ∃ a0 a1 a2 a3 a4 a5, p0 a0 a1 a2 a3 a4 a5 ∧ p1 a0 a1 a2 a3 a4 a5 ∧ p2 a0 a1 a2 a3 a4 a5 ∧ p3 a0 a1 a2 a3 a4 a5 ∧ p4 a0 a1 a2 a3 a4 a5 ∧ p5 a0 a1 a2 a3 a4 a5 ∧ p6 a0 a1 a2 a3 a4 a5) (k : ∀ a0 a1 a2 a3 a4 a5, p0 a0 a1 a2 a3 a4 a5 → p1 a0 a1 a2 a3 a4 a5 → p2 a0 a1 a2 a3 a4 a5 → p3 a0 a1 a2 a3 a4 a5 → p4 a0 a1 a2 a3 a4 a5 → p5 a0 a1 a2 a3 a4 a5 → p6 a0 a1 a2 a3 a4 a5 → C) : C :=
  by obtain ⟨a0, a1, a2, a3, a4, a5, h0, h1, h2, h3, h4, h5, h6⟩ := h; exact k a0 a1 a2 a3 a4 a5 h0 h1 h2 h3 h4 h5 h6
theorem ea_7_7 {α0 α1 α2 α3 α4 α5 α6 : Type} {p0 p1 p2 p3 p4 p5 p6 : α0 → α1 → α2 → α3 → α4 → α5 → α6 → Prop} {C : Prop} (h : ∃ a0 a1 a2 a3 a4 a5 a6, p0 a0 a1 a2 a3 a4 a5 a6 ∧ p1 a0 a1 a2 a3 a4 a5 a6 ∧ p2 a0 a1 a2 a3 a4 a5 a6 ∧ p3 a0 a1 a2 a3 a4 a5 a6 ∧ p4 a0 a1 a2 a3 a4 a5 a6 ∧ p5 a0 a1 a2 a3 a4 a5 a6 ∧ p6 a0 a1 a2 a3 a4 a5 a6) (k : ∀ a0 a1 a2 a3 a4 a5 a6, p0 a0 a1 a2 a3 a4 a5 a6 → p1 a0 a1 a2 a3 a4 a5 a6 → p2 a0 a1 a2 a3 a4 a5 a6 → p3 a0 a1 a2 a3 a4 a5 a6 → p4 a0 a1 a2 a3 a4 a5 a6 → p5 a0 a1 a2 a3 a4 a5 a6 → p6 a0 a1 a2 a3 a4 a5 a6 → C) : C :=
  by obtain ⟨a0, a1, a2, a3, a4, a5, a6, h0, h1, h2, h3, h4, h5, h6⟩ := h; exact k a0 a1 a2 a3 a4 a5 a6 h0 h1 h2 h3 h4 h5 h6
theorem ea_7_8 {α0 α1 α2 α3 α4 α5 α6 : Type} {p0 p1 p2 p3 p4 p5 p6 p7 : α0 → α1 → α2 → α3 → α4 → α5 → α6 → Prop} {C : Prop} (h : ∃ a0 a1 a2 a3 a4 a5 a6, p0 a0 a1 a2 a3 a4 a5 a6 ∧ p1 a0 a1 a2 a3 a4 a5 a6 ∧ p2 a0 a1 a2 a3 a4 a5 a6 ∧ p3 a0 a1 a2 a3 a4 a5 a6 ∧ p4 a0 a1 a2 a3 a4 a5 a6 ∧ p5 a0 a1 a2 a3 a4 a5 a6 ∧ p6 a0 a1 a2 a3 a4 a5 a6 ∧ p7 a0 a1 a2 a3 a4 a5 a6) (k : ∀ a0 a1 a2 a3 a4 a5 a6, p0 a0 a1 a2 a3 a4 a5 a6 → p1 a0 a1 a2 a3 a4 a5 a6 → p2 a0 a1 a2 a3 a4 a5 a6 → p3 a0 a1 a2 a3 a4 a5 a6 → p4 a0 a1 a2 a3 a4 a5 a6 → p5 a0 a1 a2 a3 a4 a5 a6 → p6 a0 a1 a2 a3 a4 a5 a6 → p7 a0 a1 a2 a3 a4 a5 a6 → C) : C :=
  by obtain ⟨a0, a1, a2, a3, a4, a5, a6, h0, h1, h2, h3, h4, h5, h6, h7⟩ := h; exact k a0 a1 a2 a3 a4 a5 a6 h0 h1 h2 h3 h4 h5 h6 h7
theorem ea_10_2 {α0 α1 α2 α3 α4 α5 α6 α7 α8 α9 : Type} {p0 p1 : α0 → α1 → α2 → α3 → α4 → α5 → α6 → α7 → α8 → α9 → Prop} {C : Prop} (h : ∃ a0 a1 a2 a3 a4 a5 a6 a7 a8 a9, p0 a0 a1 a2 a3 a4 a5 a6 a7 a8 a9 ∧ p1 a0 a1 a2 a3 a4 a5 a6 a7 a8 a9) (k : ∀ a0 a1 a2 a3 a4 a5 a6 a7 a8 a9, p0 a0 a1 a2 a3 a4 a5 a6 a7 a8 a9 → p1 a0 a1 a2 a3 a4 a5 a6 a7 a8 a9 → C) : C :=
  by obtain ⟨a0, a1, a2, a3, a4, a5, a6, a7, a8, a9, h0, h1⟩ := h; exact k a0 a1 a2 a3 a4 a5 a6 a7 a8 a9 h0 h1
theorem ea_14_2 {α0 α1 α2 α3 α4 α5 α6 α7 α8 α9 α10 α11 α12 α13 : Type} {p0 p1 : α0 → α1 → α2 → α3 → α4 → α5 → α6 → α7 → α8 → α9 → α10 → α11 → α12 → α13 → Prop} {C : Prop} (h : ∃ a0 a1 a2 a3 a4 a5 a6 a7 a8 a9 a10 a11 a12 a13, p0 a0 a1 a2 a3 a4 a5 a6 a7 a8 a9 a10 a11 a12 a13 ∧ p1 a0 a1 a2 a3 a4 a5 a6 a7 a8 a9 a10 a11 a12 a13) (k : ∀ a0 a1 a2 a3 a4 a5 a6 a7 a8 a9 a10 a11 a12 a13, p0 a0 a1 a2 a3 a4 a5 a6 a7 a8 a9 a10 a11 a12 a13 → p1 a0 a1 a2 a3 a4 a5 a6 a7 a8 a9 a10 a11 a12 a13 → C) : C :=
  by obtain ⟨a0, a1, a2, a3, a4, a5, a6, a7, a8, a9, a10, a11, a12, a13, h0, h1⟩ := h; exact k a0 a1 a2 a3 a4 a5 a6 a7 a8 a9 a10 a11 a12 a13 h0 h1
theorem ea_19_2 {α0 α1 α2 α3 α4 α5 α6 α7 α8 α9 α10 α11 α12 α13 α14 α15 α16 α17 α18 : Type} {p0 p1 : α0 → α1 → α2 → α3 → α4 → α5 → α6 → α7 → α8 → α9 → α10 → α11 → α12 → α13 → α14 → α15 → α16 → α17 → α18 → Prop} {C : Prop} (h : ∃ a0 a1 a2 a3 a4 a5 a6 a7 a8 a9 a10 a11 a12 a13 a14 a15 a16 a17 a18, p0 a0 a1 a2 a3 a4 a5 a6 a7 a8 a9 a10 a11 a12 a13 a14 a15 a16 a17 a18 ∧ p1 a0 a1 a2 a3 a4 a5 a6 a7 a8 a9 a10 a11 a12 a13 a14 a15 a16 a17 a18) (k : ∀ a0 a1 a2 a3 a4 a5 a6 a7 a8 a9 a10 a11 a12 a13 a14 a15 a16 a17 a18, p0 a0 a1 a2 a3 a4 a5 a6 a7 a8 a9 a10 a11 a12 a13 a14 a15 a16 a17 a18 → p1 a0 a1 a2 a3 a4 a5 a6 a7 a8 a9 a10 a11 a12 a13 a14 a15 a16 a17 a18 → C) : C :=
  by obtain ⟨a0, a1, a2, a3, a4, a5, a6, a7, a8, a9, a10, a11, a12, a13, a14, a15, a16, a17, a18, h0, h1⟩ := h; exact k a0 a1 a2 a3 a4 a5 a6 a7 a8 a9 a10 a11 a12 a13 a14 a15 a16 a17 a18 h0 h1
theorem ea_21_9 {α0 α1 α2 α3 α4 α5 α6 α7 α8 α9 α10 α11 α12 α13 α14 α15 α16 α17 α18 α19 α20 : Type} {p0 p1 p2 p3 p4 p5 p6 p7 p8 : α0 → α1 → α2 → α3 → α4 → α5 → α6 → α7 → α8 → α9 → α10 → α11 → α12 → α13 → α14 → α15 → α16 → α17 → α18 → α19 → α20 → Prop} {C : Prop} (h : ∃ a0 a1 a2 a3 a4 a5 a6 a7 a8 a9 a10 a11 a12 a13 a14 a15 a16 a17 a18 a19 a20, p0 a0 a1 a2 a3 a4 a5 a6 a7 a8 a9 a10 a11 a12 a13 a14 a15 a16 a17 a18 a19 a20 ∧ p1 a0 a1 a2 a3 a4 a5 a6 a7 a8 a9 a10 a11 a12 a13 a14 a15 a16 a17 a18 a19 a20 ∧ p2 a0 a1 a2 a3 a4 a5 a6 a7 a8 a9 a10 a11 a12 a13 a14 a15 a16 a17 a18 a19 a20 ∧ p3 a0 a1 a2 a3 a4 a5 a6 a7 a8 a9 a10 a11 a12 a13 a14 a15 a16 a17 a18 a19 a20 ∧ p4 a0 a1 a2 a3 a4 a5 a6 a7 a8 a9 a10 a11 a12 a13 a14 a15 a16 a17 a18 a19 a20 ∧ p5 a0 a1 a2 a3 a4 a5 a6 a7 a8 a9 a10 a11 a12 a13 a14 a15 a16 a17 a18 a19 a20 ∧ p6 a0 a1 a2 a3 a4 a5 a6 a7 a8 a9 a10 a11 a12 a13 a14 a15 a16 a17 a18 a19 a20 ∧ p7 a0 a1 a2 a3 a4 a5 a6 a7 a8 a9 a10 a11 a12 a13 a14 a15 a16 a17 a18 a19 a20 ∧ p8 a0 a1 a2 a3 a4 a5 a6 a7 a8 a9 a10 a11 a12 a13 a14 a15 a16 a17 a18 a19 a20) (k : ∀ a0 a1 a2 a3 a4 a5 a6 a7 a8 a9 a10 a11 a12 a13 a14 a15 a16 a17 a18 a19 a20, p0 a0 a1 a2 a3 a4 a5 a6 a7 a8 a9 a10 a11 a12 a13 a14 a15 a16 a17 a18 a19 a20 → p1 a0 a1 a2 a3 a4 a5 a6 a7 a8 a9 a10 a11 a12 a13 a14 a15 a16 a17 a18 a19 a20 → p2 a0 a1 a2 a3 a4 a5 a6 a7 a8 a9 a10 a11 a12 a13 a14 a15 a16 a17 a18 a19 a20 → p3 a0 a1 a2 a3 a4 a5 a6 a7 a8 a9 a10 a11 a12 a13 a14 a15 a16 a17 a18 a19 a20 → p4 a0 a1 a2 a3 a4 a5 a6 a7 a8 a9 a10 a11 a12 a13 a14 a15 a16 a17 a18 a19 a20 → p5 a0 a1 a2 a3 a4 a5 a6 a7 a8 a9 a10 a11 a12 a13 a14 a15 a16 a17 a18 a19 a20 → p6 a0 a1 a2 a3 a4 a5 a6 a7 a8 a9 a10 a11 a12 a13 a14 a15 a16 a17 a18 a19 a20 → p7 a0 a1 a2 a3 a4 a5 a6 a7 a8 a9 a10 a11 a12 a13 a14 a15 a16 a17 a18 a19 a20 → p8 a0 a1 a2 a3 a4 a5 a6 a7 a8 a9 a10 a11 a12 a13 a14 a15 a16 a17 a18 a19 a20 → C) : C :=
  by obtain ⟨a0, a1, a2, a3, a4, a5, a6, a7, a8, a9, a10, a11, a12, a13, a14, a15, a16, a17, a18, a19, a20, h0, h1, h2, h3, h4, h5, h6, h7, h8⟩ := h; exact k a0 a1 a2 a3 a4 a5 a6 a7 a8 a9 a10 a11 a12 a13 a14 a15 a16 a17 a18 a19 a20 h0 h1 h2 h3 h4 h5 h6 h7 h8

/-- a call's contract: in any frame, upon any ledger -/
def Spec (w : World) (d : Nat) (f : Addr) (args : List Value) (news : Led) (Post : Value → Led → Prop) : Prop :=
  ∀ (loose : List Str) (mean : ExcName → Option Value) (mg mb : Str → Option Value) (dp un : Nat) (gd : Option (List Code)) (cn : Str) (cs : Scope) (a : Addr) (ccd : Value) (cl : List (Str × Addr)) (outer : List Env)
    (A₀ : Around) (base h₀ : Heap) (L : Addr) (m : Str → Option Value) (s : Shared) (Q E : Value → Shared → Prop),
    Below A₀ base outer h₀ → Fr h₀ L s.heap m → (hd.heap_39 w.params).In h₀ → News h₀ L s.heap news → Top hd.view_39 loose mean mg mb h₀ → cs.kind = .function →
    dp + d < 1000 → un + 8 * d < 9900 →
    (∀ r news' h' tk', Fr h₀ L h' m → News h₀ L h' news' → Post r news' → Q r { s with heap := h', toks := tk' }) →
    wpAny (model Challenge.rw_ok0142_01.row.prog w) (ktrTop dp un gd cn cs L a ccd cl outer) (call (.ref f) args) Q E s

theorem Spec.use {w : World} {d : Nat} {f : Addr} {args : List Value} {news : Led} {Post : Value → Led → Prop} (S : Spec w d f args news Post)
    {loose : List Str} {mean : ExcName → Option Value} {mg mb : Str → Option Value} {dp un : Nat} {gd : Option (List Code)} {cn : Str} {cs : Scope} {a : Addr} {ccd : Value} {cl : List (Str × Addr)} {outer : List Env}
    {A₀ : Around} {base h₀ : Heap} {L : Addr} {m : Str → Option Value} {s : Shared} {Q E : Value → Shared → Prop}
    (B : Below A₀ base outer h₀) (F : Fr h₀ L s.heap m) (X : (hd.heap_39 w.params).In h₀) (N : News h₀ L s.heap news) (T : Top hd.view_39 loose mean mg mb h₀) (hk : cs.kind = .function)
    (hd : dp + d < 1000) (hu : un + 8 * d < 9900)
    (ret : ∀ r news' h' tk', Fr h₀ L h' m → News h₀ L h' news' → Post r news' → Q r { s with heap := h', toks := tk' }) :
    wpAny (model Challenge.rw_ok0142_01.row.prog w) (ktrTop dp un gd cn cs L a ccd cl outer) (call (.ref f) args) Q E s :=
  S loose mean mg mb dp un gd cn cs a ccd cl outer A₀ base h₀ L m s Q E B F X N T hk hd hu ret

/-- what a call's contract asks of the caller, in one -/
def UseK (w : World) (d : Nat) (loose : List Str) (mean : ExcName → Option Value) (mg mb : Str → Option Value) (dp un : Nat) (cs : Scope) (outer : List Env) (A₀ : Around) (base h₀ : Heap) (L : Addr) (m : Str → Option Value) (h : Heap) (news : Led) : Prop :=
  Below A₀ base outer h₀ ∧ Fr h₀ L h m ∧ (hd.heap_39 w.params).In h₀ ∧ News h₀ L h news ∧ Top hd.view_39 loose mean mg mb h₀ ∧ cs.kind = .function ∧ dp + d < 1000 ∧ un + 8 * d < 9900
theorem UseK.mk {w : World} {d : Nat} {loose : List Str} {mean : ExcName → Option Value} {mg mb : Str → Option Value} {dp un : Nat} {cs : Scope} {outer : List Env} {A₀ : Around} {base h₀ : Heap} {L : Addr} {m : Str → Option Value} {h : Heap} {news : Led}
    (B : Below A₀ base outer h₀) (F : Fr h₀ L h m) (X : (hd.heap_39 w.params).In h₀) (N : News h₀ L h news) (T : Top hd.view_39 loose mean mg mb h₀) (hk : cs.kind = .function)
    (hd : dp + d < 1000) (hu : un + 8 * d < 9900) : UseK w d loose mean mg mb dp un cs outer A₀ base h₀ L m h news := ⟨B, F, X, N, T, hk, hd, hu⟩
theorem Spec.use2 {w : World} {d : Nat} {f : Addr} {args : List Value} {news : Led} {Post : Value → Led → Prop} (S : Spec w d f args news Post)
    {loose : List Str} {mean : ExcName → Option Value} {mg mb : Str → Option Value} {dp un : Nat} {gd : Option (List Code)} {cn : Str} {cs : Scope} {a : Addr} {ccd : Value} {cl : List (Str × Addr)} {outer : List Env}
    {A₀ : Around} {base h₀ : Heap} {L : Addr} {m : Str → Option Value} {s : Shared} {Q E : Value → Shared → Prop}
    (K : UseK w d loose mean mg mb dp un cs outer A₀ base h₀ L m s.heap news)
    (ret : ∀ r news' h' tk', Fr h₀ L h' m → News h₀ L h' news' → Post r news' → Q r { s with heap := h', toks := tk' }) :
    wpAny (model Challenge.rw_ok0142_01.row.prog w) (ktrTop dp un gd cn cs L a ccd cl outer) (call (.ref f) args) Q E s :=
  Spec.use S K.1 K.2.1 K.2.2.1 K.2.2.2.1 K.2.2.2.2.1 K.2.2.2.2.2.1 K.2.2.2.2.2.2.1 K.2.2.2.2.2.2.2 ret

/-- the same ledger, an int -/
def IntP (news : Led) (x : Int) (r : Value) (n' : Led) : Prop := n' = news ∧ ∃ t, r = .int x t
theorem intP {news : Led} {x y : Int} {t : Tok} (e : y = x) : IntP news x (.int y t) news := ⟨rfl, t, by rw [e]⟩

def keptF (p n : Int) : Int := if p < 0 then 0 else if p < n then p else n - 1
def partsF (m n : Int) : Int := Int.fdiv (m + n - 1) n
def partedF (s o m : Int) : Int := Int.fdiv (s * o + m - 1) m
def biasF (x a d : Int) : Int := if a = 2 ∧ d = 1 then Int.fmod x 2 else if a = 2 ∧ d = 2 then 1 + Int.fmod x 2 else Int.fdiv (a * d) 2

set_option maxRecDepth 100000 in
set_option maxHeartbeats 8000000 in
theorem kept_spec (w : World) (news : Led) (x : Int) (tx : Tok) (n : Int) (tn : Tok) : Spec w 2 208 [.int x tx, .int n tn] news (IntP news (keptF x n)) := by
  intro loose mean mg mb dp un gd cn cs a ccd cl outer A₀ base h₀ L m s Q E hB hF hX hN hT hk hdp hun hret
  revert hX; k_fill; intro hX
  refine wpAny_call ?_
  k_dflt ktr_enter
  k_steps
  all_goals (refine hret _ _ _ _ (by assumption) (by assumption) (intP ?_))
  all_goals (unfold keptF; (repeat' split) <;> omega)
end
section
theorem Spec.useI {w : World} {d : Nat} {f : Addr} {args : List Value} {news : Led} {x : Int} (S : Spec w d f args news (IntP news x))
    {loose : List Str} {mean : ExcName → Option Value} {mg mb : Str → Option Value} {dp un : Nat} {gd : Option (List Code)} {cn : Str} {cs : Scope} {a : Addr} {ccd : Value} {cl : List (Str × Addr)} {outer : List Env}
    {A₀ : Around} {base h₀ : Heap} {L : Addr} {m : Str → Option Value} {s : Shared} {Q E : Value → Shared → Prop}
    (B : Below A₀ base outer h₀) (F : Fr h₀ L s.heap m) (X : (hd.heap_39 w.params).In h₀) (N : News h₀ L s.heap news) (T : Top hd.view_39 loose mean mg mb h₀) (hk : cs.kind = .function)
    (hd : dp + d < 1000) (hu : un + 8 * d < 9900)
    (ret : ∀ t h' tk', Fr h₀ L h' m → News h₀ L h' news → Q (.int x t) { s with heap := h', toks := tk' }) :
    wpAny (model Challenge.rw_ok0142_01.row.prog w) (ktrTop dp un gd cn cs L a ccd cl outer) (call (.ref f) args) Q E s :=
  S loose mean mg mb dp un gd cn cs a ccd cl outer A₀ base h₀ L m s Q E B F X N T hk hd hu fun r n' h' tk' F2 N2 P => by
    obtain ⟨e, t, rfl⟩ := P
    rw [e] at N2
    exact ret t h' tk' F2 N2
theorem Spec.useI2 {w : World} {d : Nat} {f : Addr} {args : List Value} {news : Led} {x : Int} (S : Spec w d f args news (IntP news x))
    {loose : List Str} {mean : ExcName → Option Value} {mg mb : Str → Option Value} {dp un : Nat} {gd : Option (List Code)} {cn : Str} {cs : Scope} {a : Addr} {ccd : Value} {cl : List (Str × Addr)} {outer : List Env}
    {A₀ : Around} {base h₀ : Heap} {L : Addr} {m : Str → Option Value} {s : Shared} {Q E : Value → Shared → Prop}
    (K : UseK w d loose mean mg mb dp un cs outer A₀ base h₀ L m s.heap news)
    (ret : ∀ t h' tk', Fr h₀ L h' m → News h₀ L h' news → Q (.int x t) { s with heap := h', toks := tk' }) :
    wpAny (model Challenge.rw_ok0142_01.row.prog w) (ktrTop dp un gd cn cs L a ccd cl outer) (call (.ref f) args) Q E s :=
  Spec.useI S K.1 K.2.1 K.2.2.1 K.2.2.2.1 K.2.2.2.2.1 K.2.2.2.2.2.1 K.2.2.2.2.2.2.1 K.2.2.2.2.2.2.2 ret
end
end
section
open PySem PySem.W PyProof.Rows
theorem flush_B1 : (if (1 : Nat) = 1 then True else True) := by
  w_top off
  (try walk1)
  all_goals (first | trivial | simp)
end
section
open PySem PySem.W PyProof.Rows
section
set_option maxRecDepth 100000 in
set_option maxHeartbeats 8000000 in
theorem parts_spec (w : World) (news : Led) (x : Int) (tx : Tok) (n : Int) (tn : Tok) (hn : 0 < n) (hn2 : n ≤ 100) : Spec w 2 79 [.int x tx, .int n tn] news (IntP news (partsF x n)) := by
  intro loose mean mg mb dp un gd cn cs a ccd cl outer A₀ base h₀ L m s Q E hB hF hX hN hT hk hdp hun hret
  revert hX; k_fill; intro hX
  refine wpAny_call ?_
  k_dflt ktr_enter
  k_steps
  all_goals (refine hret _ _ _ _ (by assumption) (by assumption) (intP ?_))
  all_goals (unfold partsF; rfl)

set_option maxRecDepth 100000 in
set_option maxHeartbeats 8000000 in
theorem parted_spec (w : World) (news : Led) (x : Int) (tx : Tok) (o : Int) (to : Tok) (n : Int) (tn : Tok) (hn : 0 < n) (hn2 : n ≤ 100) (hx0 : 0 ≤ x) (hx : x ≤ 100) (ho0 : 0 ≤ o) (ho : o ≤ 100) :
    Spec w 2 220 [.int x tx, .int o to, .int n tn] news (IntP news (partedF x o n)) := by
  intro loose mean mg mb dp un gd cn cs a ccd cl outer A₀ base h₀ L m s Q E hB hF hX hN hT hk hdp hun hret
  revert hX; k_fill; intro hX
  refine wpAny_call ?_
  k_dflt ktr_enter
  k_steps
  all_goals (refine hret _ _ _ _ (by assumption) (by assumption) (intP ?_))
  all_goals (unfold partedF; rfl)

set_option maxRecDepth 100000 in
set_option maxHeartbeats 8000000 in
theorem bias_spec (w : World) (news : Led) (x : Int) (tx : Tok) (a : Int) (ta : Tok) (d : Int) (td : Tok) (ha0 : 0 ≤ a) (ha : a ≤ 100) (hd0 : 0 ≤ d) (hd : d ≤ 100) :
    Spec w 2 239 [.int x tx, .int a ta, .int d td] news (IntP news (biasF x a d)) := by
  intro loose mean mg mb dp un gd cn cs a' ccd cl outer A₀ base h₀ L m s Q E hB hF hX hN hT hk hdp hun hret
  revert hX; k_fill; intro hX
  refine wpAny_call ?_
  k_dflt ktr_enter
  k_steps
  all_goals (refine hret _ _ _ _ (by assumption) (by assumption) (intP ?_))
  all_goals (simp_all [biasF])
end
end
section
open PySem PySem.W PyProof.Rows
theorem flush_B2 : (if (1 : Nat) = 1 then True else True) := by
  w_top off
  (try walk1)
  all_goals (first | trivial | simp)
end
section
open PySem PySem.W PyProof.Rows
set_option linter.unusedVariables false
section
abbrev lstO (vs : List Value) (k : Nat) : Obj := { cls := .type "list", data := .seq vs.toArray k }
def Rows (news : Led) (vs : List Value) (cells : List (List Int)) (wd : Int) : Prop :=
  vs.length = cells.length ∧ ∀ (i : Nat) (c : List Int), cells[i]? = some c → (c.length : Int) = wd ∧ ∃ (a : Addr) (us : List Value) (k : Nat), vs[i]? = some (Value.ref a) ∧ (a, lstO us k) ∈ news ∧ IntsAre us c
def PlaneAt (news : Led) (p r : Addr) (wd ht : Int) : Prop :=
  ∃ (dx : Addr) (h1 h2 h3 : Int) (k1 k2 k3 t1 t2 : Tok) (n : Nat), (p, instObj 197 dx) ∈ news ∧
    (dx, dictOf [⟨h1, .str (Str.ofString "width") k1, .int wd t1⟩, ⟨h2, .str (Str.ofString "height") k2, .int ht t2⟩, ⟨h3, .str (Str.ofString "rows") k3, .ref r⟩] n) ∈ news
def cellF (cells : List (List Int)) (x y : Int) : Int := (cells.getD y.toNat []).getD x.toNat 0

section
variable {prog : Program} {w : World} {A : Around} {E : Value → Shared → Prop} {s : Shared} {h₀ : Heap} {L : Addr} {news : Led} {value slice : PySem.Expr}
theorem item_ints {a : Addr} {us : List Value} {k : Nat} {c : List Int} {i : Int} {u : Tok} {Q : Value → Shared → Prop} (N : News h₀ L s.heap news) (hm : (a, lstO us k) ∈ news) (hI : IntsAre us c)
    (h0 : 0 ≤ i) (h1 : i < c.length) (hfit : i < 2 ^ 63) (h : ∀ t, Q (.int (c.getD i.toNat 0) t) s)
    (hs : subscripted slice false (.ref a) (.int i u) = operate [.ref a, .int i u] (getItem (.ref a) (.int i u))) :
    wpAny (model prog w) A (subscriptTail value slice (.ref a) (.int i u)) Q E s :=
  item_list_intsT ⟨_, (N _ hm).1, rfl, k, rfl⟩ hI h0 h1 hfit h hs
theorem item_rows {r : Addr} {vs : List Value} {kk : Nat} {cells : List (List Int)} {wd i : Int} {u : Tok} {Q : Value → Shared → Prop} (N : News h₀ L s.heap news) (hm : (r, lstO vs kk) ∈ news) (hR : Rows news vs cells wd)
    (h0 : 0 ≤ i) (h1 : i < cells.length) (hfit : i < 2 ^ 63) (h : ∀ a us k, (a, lstO us k) ∈ news → IntsAre us (cells.getD i.toNat []) → ((cells.getD i.toNat []).length : Int) = wd → Q (.ref a) s)
    (hs : subscripted slice false (.ref r) (.int i u) = operate [.ref r, .int i u] (getItem (.ref r) (.int i u))) :
    wpAny (model prog w) A (subscriptTail value slice (.ref r) (.int i u)) Q E s := by
  have hlt : i.toNat < cells.length := by omega
  have hc : cells[i.toNat]? = some (cells.getD i.toNat []) := by simp [List.getD_eq_getElem?_getD, List.getElem?_eq_getElem hlt]
  obtain ⟨hlen, a, us, k, hv, hmem, hI⟩ := hR.2 _ _ hc
  have hl : s.heap.IsList r vs.toArray := ⟨_, (N _ hm).1, rfl, kk, rfl⟩
  exact tail_any hl.typeIs slot_list_getitem.lookup (wpAny_getItem_list hl h0 hfit (by simpa using hv) (h a us k hmem hI hlen)) hs
end

theorem keptF_bd (x n : Int) (h : 1 ≤ n) : 0 ≤ keptF x n ∧ keptF x n < n := by
  unfold keptF; (repeat' split) <;> omega

set_option maxRecDepth 100000
set_option maxHeartbeats 8000000
local macro_rules | `(tactic| walk_at "call ref") => `(tactic| (k_here; k_dflt (refine' Spec.use (kept_spec _ _ _ _ _ _) ?k1 ?k2 ?k3 ?k4 ?k5 ?kK ?kd ?ku ?_; (case k1 => k_asm); (case k2 => k_asm); (case k3 => k_asm); (case k4 => k_asm); (case k5 => k_asm); (case kK => first | exact rfl | assumption); (case kd => (dsimp only [ktrTop, Around.deeper, Around.in1]; omega)); (case ku => (dsimp only [ktrTop, Around.deeper, Around.in1]; omega)); k_whole); intro r' n' h' tk' F' N' P'; obtain ⟨e1', t', e2'⟩ := P'; subst e1' e2'; (try dsimp only); (try k_fold)))
local macro_rules | `(tactic| walk_at "subscriptTail") => `(tactic| (k_here; (with_reducible show wpAny _ _ (subscriptTail _ _ (Value.ref _) (Value.int _ _)) _ _ _); k_dflt (first
  | (refine' item_ints ?k1 ?k2 ?k3 ?k4 ?k5 ?k6 ?_ ?k7; (case k1 => k_asm); (case k2 => k_mem); (case k3 => assumption); (case k4 => omega); (case k5 => omega); (case k6 => omega); (case k7 => with_unfolding_all rfl); k_whole; intro t')
  | (refine' item_rows ?k1 ?k2 ?k3 ?k4 ?k5 ?k6 ?_ ?k7; (case k1 => k_asm); (case k2 => k_mem); (case k3 => assumption); (case k4 => omega); (case k5 => omega); (case k6 => omega); (case k7 => with_unfolding_all rfl); k_whole; intro a' us' k' hm' hI' hl'))))
theorem at_spec (w : World) (news : Led) (p r : Addr) (wd ht : Int) (vs : List Value) (kk : Nat) (cells : List (List Int)) (x : Int) (tx : Tok) (y : Int) (ty : Tok)
    (hP : PlaneAt news p r wd ht) (hr : (r, lstO vs kk) ∈ news) (hR : Rows news vs cells wd) (hG : (cells.length : Int) = ht) (hw : 1 ≤ wd) (hh : 1 ≤ ht) (hw2 : wd ≤ 100) (hh2 : ht ≤ 100) :
    Spec w 5 187 [.ref p, .int x tx, .int y ty] news (IntP news (cellF cells (keptF x wd) (keptF y ht))) := by
  intro loose mean mg mb dp un gd cn cs a ccd cl outer A₀ base h₀ L m s Q E hB hF hX hN hT hk hdp hun hret
  revert hX; k_fill; intro hX
  obtain ⟨dx, h1, h2, h3, k1, k2, k3, t1, t2, n, hp1, hp2⟩ := hP
  have b1 := keptF_bd x wd hw
  have b2 := keptF_bd y ht hh
  refine wpAny_call ?_
  k_dflt ktr_enter
  k_steps
  all_goals (refine hret _ _ _ _ (by assumption) (by assumption) (intP ?_))
  all_goals rfl
end
section
theorem Rows.mono {news news' : Led} {vs : List Value} {cells : List (List Int)} {wd : Int} (h : Rows news vs cells wd) (hs : ∀ q ∈ news, q ∈ news') : Rows news' vs cells wd :=
  ⟨h.1, fun i c e => by obtain ⟨l, a, us, k, x, y, z⟩ := h.2 i c e; exact ⟨l, a, us, k, x, hs _ y, z⟩⟩
theorem PlaneAt.mono {news news' : Led} {p r : Addr} {wd ht : Int} (h : PlaneAt news p r wd ht) (hs : ∀ q ∈ news, q ∈ news') : PlaneAt news' p r wd ht := by
  obtain ⟨dx, h1, h2, h3, k1, k2, k3, t1, t2, n, x, y⟩ := h
  exact ⟨dx, h1, h2, h3, k1, k2, k3, t1, t2, n, hs _ x, hs _ y⟩
end
section
theorem Rows.snoc {rest : Led} {us : Array Value} {cs : List (List Int)} {a : Int} {D : Addr} {ys : List Value} {c : List Int} {kk : Nat} (h : Rows rest us.toList cs a) (hI : IntsAre ys c) (hc : (c.length : Int) = a) :
    Rows ((D, lstO ys kk) :: rest) (us.push (Value.ref D)).toList (cs ++ [c]) a := by
  have h' := h.mono (news' := (D, lstO ys kk) :: rest) fun q hq => List.mem_cons_of_mem _ hq
  refine ⟨by have := h.1; simp only [Array.toList_push, List.length_append, List.length_cons, List.length_nil]; omega, fun i c' e => ?_⟩
  have hl := h.1
  by_cases hi : i < cs.length
  · rw [List.getElem?_append_left hi] at e
    obtain ⟨l, x, us', k, e1, e2, e3⟩ := h'.2 i c' e
    refine ⟨l, x, us', k, ?_, e2, e3⟩
    rw [Array.toList_push, List.getElem?_append_left (by omega)]
    exact e1
  · rw [List.getElem?_append_right (by omega)] at e
    have hi' : i = cs.length := by
      cases hn : i - cs.length with
      | zero => omega
      | succ n => rw [hn] at e; simp at e
    subst hi'
    simp at e
    subst e
    refine ⟨hc, D, ys, kk, ?_, List.mem_cons_self, hI⟩
    rw [Array.toList_push, List.getElem?_append_right (by omega), hl]
    simp
end
section
theorem Rows.snocL {rest : Led} {us : List Value} {cs : List (List Int)} {a : Int} {D : Addr} {ys : List Value} {c : List Int} {kk : Nat} (h : Rows rest us cs a) (hI : IntsAre ys c) (hc : (c.length : Int) = a) :
    Rows ((D, lstO ys kk) :: rest) (us ++ [Value.ref D]) (cs ++ [c]) a := by
  have := Rows.snoc (us := us.toArray) (D := D) (kk := kk) (by simpa using h) hI hc
  simpa using this
end
end
section
open PySem PySem.W PyProof.Rows
theorem flush_L0 : (if (1 : Nat) = 1 then True else True) := by
  w_top off
  (try walk1)
  all_goals (first | trivial | simp)
end
section
open PySem PySem.W PyProof.Rows
set_option linter.unusedVariables false
section
section
variable {prog : Program} {w : World} {A : Around} {E : Value → Shared → Prop} {s : Shared} {env : Env} {h₀ : Heap} {x : Str} {body : List Stmt} {Q : Flow → Shared → Prop}

theorem fr_eq {h₀ h : Heap} {L : Addr} {m m' : Str → Option Value} (F : Fr h₀ L h m) (e : ∀ y, m y = m' y) : Fr h₀ L h m' := by
  have : m = m' := funext e
  rw [← this]; exact F

theorem unrEnd_mono {L I : Addr} {it : Obj} {R R' : (Str → Option Value) → List (Addr × Obj) → Prop} {s₁ s₂ : Shared} (h : UnrEnd h₀ L s₁ I it R s₂) (k : ∀ m n, (∀ p ∈ n, p.1 ≠ I) → R m n → R' m n) : UnrEnd h₀ L s₁ I it R' s₂ := by
  obtain ⟨h', tk, m', news', e, F, N, off, r⟩ := h
  exact ⟨h', tk, m', news', e, F, N, off, k _ _ off r⟩
theorem unrPost_mono {L I : Addr} {it : Obj} {R R' : (Str → Option Value) → List (Addr × Obj) → Prop} {s₁ s₂ : Shared} {f : Flow} (h : UnrPost h₀ L s₁ I it R Q f s₂) (k : ∀ m n, (∀ p ∈ n, p.1 ≠ I) → R m n → R' m n) : UnrPost h₀ L s₁ I it R' Q f s₂ := by
  cases f with
  | ret v => exact h
  | brk => exact h
  | next => exact unrEnd_mono (show UnrEnd h₀ L s₁ I it R s₂ from h) k
  | cont => exact unrEnd_mono (show UnrEnd h₀ L s₁ I it R s₂ from h) k

/-- a loop over a range, by an invariant over the frame's map and the ledger -/
theorem range_inv {L r : Addr} (hL : env.locals = L) {a₀ b₀ : Int} {t₀ u₀ v₀ : Tok} {n : Nat} {m₀ : Str → Option Value} {news : List (Addr × Obj)} (J : Nat → (Str → Option Value) → List (Addr × Obj) → Prop)
    (hh : A.handled = none) (hr : IsRange s.heap r a₀ b₀ 1 t₀ u₀ v₀) (hsmall : Builtin.Range.small a₀ b₀ 1 = true) (hn : Builtin.Range.rangeSize a₀ b₀ 1 = (n : Int)) (F : Fr h₀ L s.heap m₀) (N : News h₀ L s.heap news)
    (hj : J 0 m₀ news)
    (turn : ∀ (i : Nat) m₁ news₁ I it t h tk, i < n → J i m₁ news₁ → it.cls = .type "range_iterator" → (∀ p ∈ news₁, p.1 ≠ I) → Fr h₀ L h (fun y => if y = x then some (.int (a₀ + (i : Int)) t) else m₁ y) → News h₀ L h ((I, it) :: news₁) →
      wpAny (model prog w) A (execs body env) (UnrPost h₀ L { s with heap := h, toks := tk } I it (J (i + 1)) Q) E { s with heap := h, toks := tk })
    (done : ∀ m₁ news₁ h tk, J n m₁ news₁ → Fr h₀ L h m₁ → News h₀ L h news₁ → Q .next { s with heap := h, toks := tk }) :
    wpAny (model prog w) A (pyIter (.ref r)) (fun it s₂ => LoopAtV prog w A h₀ env x body Q E it s₂) E s := by
  subst hL
  refine iter_rangeUnr hh hr hsmall hn F N (fun I lI => ?_)
  have gen : ∀ k i m₁ news₁, k + i = n → J i m₁ news₁ → (∀ p ∈ news₁, p.1 ≠ I) → RangeRest prog w A E h₀ env x body Q s I a₀ n k i m₁ news₁ := by
    intro k
    induction k with
    | zero =>
      intro i m₁ news₁ hk hJ off
      have : i = n := by omega
      subst this
      exact RangeRest.zero fun h tk F N => done m₁ news₁ h tk hJ F N
    | succ k ih =>
      intro i m₁ news₁ hk hJ off
      refine RangeRest.succ fun t h tk F N => ?_
      exact wpAny_mono (turn i m₁ news₁ I _ t h tk (by omega) hJ rfl off F N) (fun f s₂ p => unrPost_mono p fun m n off' hR => ih (i + 1) m n (by omega) hR off') fun _ _ e => e
  exact gen n 0 m₀ news rfl hj fun p hp => Nat.ne_of_lt (lI p hp)

/-- a loop over a list of the ledger, by an invariant -/
theorem list_inv {L ax : Addr} (hL : env.locals = L) {lo : Obj} {vs : List Value} {n : Nat} {m₀ : Str → Option Value} {news : List (Addr × Obj)} (J : Nat → (Str → Option Value) → List (Addr × Obj) → Prop)
    (hh : A.handled = none) (F : Fr h₀ L s.heap m₀) (N : News h₀ L s.heap news) (hm : (ax, lo) ∈ news) (hc : lo.cls = .type "list") (hd : lo.data = .seq vs.toArray n)
    (hj : J 0 m₀ news)
    (turn : ∀ (i : Nat) v m₁ news₁ I it h tk, vs[i]? = some v → J i m₁ news₁ → (ax, lo) ∈ news₁ → it.cls = .type "list_iterator" → (∀ p ∈ news₁, p.1 ≠ I) → Fr h₀ L h (fun y => if y = x then some v else m₁ y) → News h₀ L h ((I, it) :: news₁) →
      wpAny (model prog w) A (execs body env) (UnrPost h₀ L { s with heap := h, toks := tk } I it (fun m' n' => (ax, lo) ∈ n' ∧ J (i + 1) m' n') Q) E { s with heap := h, toks := tk })
    (done : ∀ m₁ news₁ h tk, J vs.length m₁ news₁ → Fr h₀ L h m₁ → News h₀ L h news₁ → Q .next { s with heap := h, toks := tk }) :
    wpAny (model prog w) A (pyIter (.ref ax)) (fun it s₂ => LoopAtV prog w A h₀ env x body Q E it s₂) E s := by
  subst hL
  refine iter_listUnr hh F N hm hc hd (fun I lI => ?_)
  have gen : ∀ (r : List Value) (i : Nat) m₁ news₁, r = vs.drop i → i ≤ vs.length → J i m₁ news₁ → (ax, lo) ∈ news₁ → (∀ p ∈ news₁, p.1 ≠ I) → ListRest prog w A E h₀ env x body Q s I (ax, lo) r m₁ news₁ := by
    intro r
    induction r with
    | nil =>
      intro i m₁ news₁ hk hi hJ hm' off
      have : i = vs.length := by
        have := congrArg List.length hk
        simp at this; omega
      subst this
      exact ListRest.zero fun h tk F N => done m₁ news₁ h tk hJ F N
    | cons v r ih =>
      intro i m₁ news₁ hk hi hJ hm' off
      have hlt : i < vs.length := by
        have := congrArg List.length hk
        simp at this; omega
      have hdr := List.drop_eq_getElem_cons hlt
      rw [← hk] at hdr
      have hv : vs[i]? = some v := by
        rw [List.getElem?_eq_getElem hlt]; exact congrArg some (List.cons.inj hdr).1.symm
      refine ListRest.succ fun it h tk hit F N => ?_
      exact wpAny_mono (turn i v m₁ news₁ I it h tk hv hJ hm' hit off F N) (fun f s₂ p => unrPost_mono p fun m n off' hR => ⟨hR.1, ih (i + 1) m n (List.cons.inj hdr).2 hlt hR.2 hR.1 off'⟩) fun _ _ e => e
  exact gen vs 0 m₀ news (by simp) (Nat.zero_le _) hj hm fun p hp => Nat.ne_of_lt (lI p hp)
end

section
variable {prog : Program} {w : World} {A : Around} {s : Shared} {h₀ : Heap} {L : Addr} {m : Str → Option Value} {env : Env}
open LCg
theorem compEnd_mono {I C D : Addr} {oI oC oD : Obj} {S : List (Addr × Obj) → Prop} {R R' : Value → List (Addr × Obj) → Prop} {s₁ s₂ : Shared} {y : Value} (h : CompEnd h₀ L m s₁ I oI C oC D oD S R y s₂)
    (k : ∀ n, Off3 I C D n → S n → R y n → R' y n) : CompEnd h₀ L m s₁ I oI C oC D oD S R' y s₂ := by
  obtain ⟨h', tk, n, e, F, N, off, hS, r⟩ := h
  exact ⟨h', tk, n, e, F, N, off, hS, k n off hS r⟩
/-- a comprehension, by an invariant over what is made and the ledger -/
theorem compRest_inv {elt : PySem.Expr} {x : Str} {scope : Scope} {cl : List (Str × Addr)} {S : List (Addr × Obj) → Prop} {P : Nat → Value → Prop} {Fin : List Value → List (Addr × Obj) → Prop} {n : Nat} {news : List (Addr × Obj)}
    (J : Nat → List Value → List (Addr × Obj) → Prop) (hj : J 0 [] news) (hS : S news)
    (turn : ∀ (i : Nat) ys news₁ v I oI C oC D m₂ h tk (E' : Value → Shared → Prop), i < n → ys.length = i → J i ys news₁ → S news₁ → P i v → NsObj oC m₂ → m₂ x = some v → Fr h₀ L h m → News h₀ L h ((I, oI) :: (C, oC) :: (D, lst ys) :: news₁) → Off3 I C D news₁ → ((@Ne Nat I C) ∧ (@Ne Nat I D) ∧ (@Ne Nat C D)) →
      wpAny (model prog w) A (eval elt (compEnvC scope cl C env)) (CompEnd h₀ L m { s with heap := h, toks := tk } I oI C oC D (lst ys) S (fun y news' => J (i + 1) (ys ++ [y]) news')) E' { s with heap := h, toks := tk })
    (fin : ∀ ys news', ys.length = n → J n ys news' → Fin ys news') : CompRest prog w A h₀ L m env elt x scope cl s S P Fin n 0 [] news := by
  have gen : ∀ k i ys news₁, k + i = n → ys.length = i → J i ys news₁ → S news₁ → CompRest prog w A h₀ L m env elt x scope cl s S P Fin k i ys news₁ := by
    intro k
    induction k with
    | zero =>
      intro i ys news₁ hk hl hJ _
      have : i = n := by omega
      subst this
      exact CompRest.zero (fin ys news₁ hl hJ)
    | succ k ih =>
      intro i ys news₁ hk hl hJ hS
      refine CompRest.succ fun v I oI C oC D m₂ h tk E' hP hC hx F N off hne => ?_
      exact wpAny_mono (turn i ys news₁ v I oI C oC D m₂ h tk E' (by omega) hl hJ hS hP hC hx F N off hne) (fun y s₂ c => compEnd_mono c fun n' off' hS' hR => ih (i + 1) (ys ++ [y]) n' (by omega) (by simp [hl]) hR hS') fun _ _ e => e
  exact gen n 0 [] news rfl rfl hj hS
end
end
section
theorem map1 {m base : Str → Option Value} {a : Str} (hz : ∀ z, z ≠ a → m z = base z) : ∃ u, m = fun z => if z = a then u else base z :=
  ⟨m a, funext fun z => by
    by_cases h1 : z = a
    · subst h1; simp
    · simp only [if_neg h1]; exact hz z h1⟩
theorem map2 {m base : Str → Option Value} {a b : Str} {v : Option Value} (hb : m b = v) (hz : ∀ z, z ≠ a → z ≠ b → m z = base z) : ∃ u, m = fun z => if z = a then u else if z = b then v else base z :=
  ⟨m a, funext fun z => by
    by_cases h1 : z = a
    · subst h1; simp
    · simp only [if_neg h1]
      by_cases h2 : z = b
      · subst h2; simpa using hb
      · simp only [if_neg h2]; exact hz z h1 h2⟩
theorem map3 {m base : Str → Option Value} {a b c : Str} {v : Option Value} (hc : m c = v) (hz : ∀ z, z ≠ a → z ≠ b → z ≠ c → m z = base z) :
    ∃ u1 u2, m = fun z => if z = a then u1 else if z = b then u2 else if z = c then v else base z :=
  ⟨m a, m b, funext fun z => by
    by_cases h1 : z = a
    · subst h1; simp
    · simp only [if_neg h1]
      by_cases h2 : z = b
      · subst h2; simp
      · simp only [if_neg h2]
        by_cases h3 : z = c
        · subst h3; simpa using hc
        · simp only [if_neg h3]; exact hz z h1 h2 h3⟩
end
section
def Stop (P : Prop) : Prop := P
theorem Stop.out {P : Prop} (h : Stop P) : P := h
end
section
section
variable {prog : Program} {w : World} {A : Around} {E : Value → Shared → Prop} {s : Shared} {env : Env} {h₀ : Heap} {body : List Stmt} {Q : Flow → Shared → Prop}
/-- the same, the loop's name being a cell -/
theorem range_invT {L r : Addr} {y : Str} {py : Pos} (hL : env.locals = L) {a₀ b₀ : Int} {t₀ u₀ v₀ : Tok} {n : Nat} {m₀ : Str → Option Value} {news : List (Addr × Obj)} (J : Nat → (Str → Option Value) → List (Addr × Obj) → Prop)
    (hh : A.handled = none) (hr : IsRange s.heap r a₀ b₀ 1 t₀ u₀ v₀) (hsmall : Builtin.Range.small a₀ b₀ 1 = true) (hn : Builtin.Range.rangeSize a₀ b₀ 1 = (n : Int)) (F : Fr h₀ L s.heap m₀) (N : News h₀ L s.heap news)
    (hj : J 0 m₀ news)
    (turn : ∀ (i : Nat) m₁ news₁ I it t h tk, i < n → J i m₁ news₁ → it.cls = .type "range_iterator" → (∀ p ∈ news₁, p.1 ≠ I) → Fr h₀ L h m₁ → News h₀ L h ((I, it) :: news₁) →
      wpAny (model prog w) A (assign (.Name y py) env (.int (a₀ + (i : Int)) t)) (fun _ s₂ => wpAny (model prog w) A (execs body env) (UnrPost h₀ L { s with heap := h, toks := tk } I it (J (i + 1)) Q) E s₂) E { s with heap := h, toks := tk })
    (done : ∀ m₁ news₁ h tk, J n m₁ news₁ → Fr h₀ L h m₁ → News h₀ L h news₁ → Q .next { s with heap := h, toks := tk }) :
    wpAny (model prog w) A (pyIter (.ref r)) (fun it s₂ => TurnsAt prog w A h₀ env (.Name y py) body Q E it s₂) E s := by
  subst hL
  refine wpAny_pyIter_range hr hsmall ?_
  have W : Walks prog w A s.heap.objs.size [s.heap.objs.size] [s.heap.objs.size] n (fun i v => i < n ∧ ∃ t, v = .int (a₀ + i * 1) t)
      (fun i h => IsRangeIter h s.heap.objs.size (a₀ + (i : Nat) * 1) ((n : Int) - (i : Nat)) 1) := (Walks.range hh _ a₀ 1 n).bound
  have hnew := next_is_new F
  have K := KTurns.ofWalks (target := .Name y py) W fun i v s Q E st q => wpAny_pure q
  refine ⟨_, _, _, n, _, _, _, m₀, news, J, rfl, K, ?_, ?_, ?_, (by show IsRangeIter _ _ _ _ _; rw [hn]; simpa using Heap.get?_push_size _ rfl), F.push _, (fun p hp => ⟨Heap.get?_push_of_some _ (N p hp).1, (N p hp).2⟩), hj, ?_, ?_⟩
  · intro hm
    exact absurd F.ns.lt ((List.mem_singleton.mp hm) ▸ Nat.lt_irrefl _)
  · intro b hb
    rw [List.mem_singleton.mp hb]
    exact hnew
  · intro p hp hI
    exact absurd (Heap.lt_size (N p hp).1) ((List.mem_singleton.mp hI) ▸ Nat.lt_irrefl _)
  · intro i v m₁ news₁ hh' tk' own hin hP hJ hoff hown hget hall hst F₁ N₁
    obtain ⟨_, t, rfl⟩ := hP
    have hst' : hh'.get? s.heap.objs.size = some (itR (a₀ + ((i + 1 : Nat) : Int)) ((n : Int) - ((i + 1 : Nat) : Int))) := by
      have q : IsRangeIter hh' s.heap.objs.size (a₀ + ((i + 1 : Nat) : Int) * 1) ((n : Int) - ((i + 1 : Nat) : Int)) 1 := hst
      rw [Int.mul_one] at q
      exact q
    have hmem := hall s.heap.objs.size (List.mem_singleton.mpr rfl) hnew _ hst'
    have e1 : a₀ + (i : Int) * 1 = a₀ + (i : Int) := by rw [Int.mul_one]
    rw [e1]
    have N₂ : News h₀ env.locals hh' ((s.heap.objs.size, itR (a₀ + ((i + 1 : Nat) : Int)) ((n : Int) - ((i + 1 : Nat) : Int))) :: news₁) := fun p hp => by
      rcases List.mem_cons.mp hp with rfl | hp
      · exact N₁ _ (List.mem_append_left _ hmem)
      · exact N₁ _ (List.mem_append_right _ hp)
    refine wpAny_mono (turn i m₁ news₁ _ _ t hh' tk' hin hJ rfl (fun p hp e => hoff p hp (List.mem_singleton.mpr e)) F₁ N₂) (fun _ s₃ h₃ => wpAny_mono h₃ (fun f s₂ p => ?_) fun _ _ e => e) fun _ _ e => e
    have fin : UnrEnd h₀ env.locals { s with heap := hh', toks := tk' } s.heap.objs.size (itR (a₀ + ((i + 1 : Nat) : Int)) ((n : Int) - ((i + 1 : Nat) : Int))) (J (i + 1)) s₂ →
        LoopStepU h₀ env.locals [s.heap.objs.size] own (J (i + 1)) { s with heap := hh', toks := tk' } .next s₂ := by
      rintro ⟨h', tk, m', news', e, F', N', ho, r⟩
      refine ⟨rfl, h', tk, m', news', e, F', fun p hp => ?_, fun p hp hI => ho p hp (List.mem_singleton.mp hI), r⟩
      rcases List.mem_append.mp hp with hp | hp
      · have h1 : p.1 = s.heap.objs.size := List.mem_singleton.mp (hown p hp)
        have h2 : hh'.get? p.1 = some p.2 := hget p hp
        have h3 : p = (s.heap.objs.size, itR (a₀ + ((i + 1 : Nat) : Int)) ((n : Int) - ((i + 1 : Nat) : Int))) := by
          rw [h1, hst'] at h2
          exact Prod.ext h1 (Option.some.inj h2).symm
        rw [h3]; exact N' _ (List.mem_cons_self ..)
      · exact N' _ (List.mem_cons_of_mem _ hp)
    cases f with
    | ret v => exact .ret p
    | brk => exact .brk p
    | next => exact .next (fin p)
    | cont => exact .cont (fin p)
  · intro h' tk m' news' F' N' _ hJ
    exact done m' news' h' tk hJ F' N'
end
end
section
section
variable {prog : Program} {w : World} {A : Around} {E : Value → Shared → Prop} {s : Shared} {env : Env} {h₀ : Heap} {body : List Stmt} {Q : Flow → Shared → Prop}
/-- the loop's name a cell, the frame's map as it was -/
theorem range_invTm {L r : Addr} {y : Str} {py : Pos} (hL : env.locals = L) {a₀ b₀ : Int} {t₀ u₀ v₀ : Tok} {n : Nat} {m₀ : Str → Option Value} {news : List (Addr × Obj)} (J : Nat → List (Addr × Obj) → Prop)
    (hh : A.handled = none) (hr : IsRange s.heap r a₀ b₀ 1 t₀ u₀ v₀) (hsmall : Builtin.Range.small a₀ b₀ 1 = true) (hn : Builtin.Range.rangeSize a₀ b₀ 1 = (n : Int)) (F : Fr h₀ L s.heap m₀) (N : News h₀ L s.heap news)
    (hj : J 0 news)
    (turn : ∀ (i : Nat) news₁ I it t h tk, i < n → J i news₁ → it.cls = .type "range_iterator" → (∀ p ∈ news₁, p.1 ≠ I) → Fr h₀ L h m₀ → News h₀ L h ((I, it) :: news₁) →
      wpAny (model prog w) A (assign (.Name y py) env (.int (a₀ + (i : Int)) t)) (fun _ s₂ => wpAny (model prog w) A (execs body env) (UnrPost h₀ L { s with heap := h, toks := tk } I it (fun m' n' => m' = m₀ ∧ J (i + 1) n') Q) E s₂) E { s with heap := h, toks := tk })
    (done : ∀ news₁ h tk, J n news₁ → Fr h₀ L h m₀ → News h₀ L h news₁ → Q .next { s with heap := h, toks := tk }) :
    wpAny (model prog w) A (pyIter (.ref r)) (fun it s₂ => TurnsAt prog w A h₀ env (.Name y py) body Q E it s₂) E s :=
  range_invT hL (J := fun i m n => m = m₀ ∧ J i n) hh hr hsmall hn F N ⟨rfl, hj⟩ (fun i m n I it t h tk hi hJ hit off F2 N2 => by
    obtain ⟨rfl, hJ⟩ := hJ
    exact turn i n I it t h tk hi hJ hit off F2 N2) fun m n h tk hJ F2 N2 => by
    obtain ⟨rfl, hJ⟩ := hJ
    exact done n h tk hJ F2 N2
end
end
section
theorem off1_of {I : Addr} : ∀ {l : List (Addr × Obj)}, (∀ p ∈ l, p.1 ≠ I) → LCg.Off1 I l
  | [], _ => trivial
  | p :: r, h => ⟨h p List.mem_cons_self, off1_of fun q hq => h q (List.mem_cons_of_mem _ hq)⟩
theorem off1_mem {I : Addr} {l : List (Addr × Obj)} (h : LCg.Off1 I l) : ∀ p ∈ l, p.1 ≠ I := by
  induction l with
  | nil => intro p hp; cases hp
  | cons q r ih =>
    intro p hp
    rcases List.mem_cons.mp hp with e | hp
    · rw [e]; exact h.1
    · exact ih h.2 p hp
/-- new addresses above a frame's -/
theorem ownOff_of {news : List (Addr × Obj)} {L : Nat} (h : ∀ p ∈ news, p.1 < L) (bs : List Nat) (hb : ∀ b ∈ bs, L < b) : OwnOff news bs := by
  intro q hq b hb' e
  have h1 : @LT.lt Nat _ q.1 L := h q hq
  have h2 := hb b hb'
  rw [e] at h1
  omega
theorem ownOff_cons {news : List (Addr × Obj)} {D : Addr} {o : Obj} {bs : List Nat} (h : OwnOff news bs) (hd : ∀ b ∈ bs, @Ne Nat D b) : OwnOff ((D, o) :: news) bs := by
  intro q hq b hb
  rcases List.mem_cons.mp hq with rfl | hq
  · exact hd b hb
  · exact h q hq b hb
end
section
theorem ints_snoc {vs : List Value} {ns : List Int} (h : IntsAre vs ns) (n : Int) (t : Tok) : IntsAre (vs ++ [.int n t]) (ns ++ [n]) := by
  induction h with
  | nil => exact .cons n t .nil
  | cons k u _ ih => exact .cons k u ih
theorem ints_range {vs : List Value} {f : Nat → Int} {j : Nat} (h : IntsAre vs ((List.range j).map f)) {x : Int} (e : x = f j) (t : Tok) : IntsAre (vs ++ [.int x t]) ((List.range (j + 1)).map f) := by
  rw [List.range_succ, List.map_append, List.map_cons, List.map_nil, e]
  exact ints_snoc h _ t
end
section
theorem ownOff_one {news : List (Addr × Obj)} {d : Nat} (h : ∀ p ∈ news, p.1 < d) : OwnOff news [d] := by
  intro q hq b hb e
  have h1 : @LT.lt Nat _ q.1 d := h q hq
  rw [List.mem_singleton] at hb
  rw [e, hb] at h1
  exact absurd h1 (Nat.lt_irrefl _)
end

section
theorem lt_a1 {n : Nat} : n < n + 1 := Nat.lt_succ_self n
theorem lt_a2 {n : Nat} : n < n + 1 + 1 := Nat.lt_succ_of_lt lt_a1
theorem lt_a3 {n : Nat} : n < n + 1 + 1 + 1 := Nat.lt_succ_of_lt lt_a2
theorem lt_a4 {n : Nat} : n < n + 1 + 1 + 1 + 1 := Nat.lt_succ_of_lt lt_a3
theorem sub_cons {α : Type} {x : α} {l l' : List α} (h : x ∈ l) (hs : ∀ q ∈ l', q ∈ l) : ∀ q ∈ x :: l', q ∈ l := fun q hq => by
  rcases List.mem_cons.mp hq with rfl | hq
  · exact h
  · exact hs q hq
theorem sub_nil {α : Type} {l : List α} : ∀ q ∈ ([] : List α), q ∈ l := fun q hq => nomatch hq
theorem sub_id {α : Type} {l : List α} : ∀ q ∈ l, q ∈ l := fun q hq => hq
theorem sub_tl {α : Type} {x : α} {l l' : List α} (hs : ∀ q ∈ l', q ∈ l) : ∀ q ∈ l', q ∈ x :: l := fun q hq => List.mem_cons_of_mem _ (hs q hq)
end

theorem news_sub {h₀ h : Heap} {L : Addr} {news news' : List (Addr × Obj)} (N : News h₀ L h news) (hs : ∀ q ∈ news', q ∈ news) : News h₀ L h news' := fun q hq => N q (hs q hq)
section
section
variable {prog : Program} {w : World} {A : Around} {E : Value → Shared → Prop} {s : Shared} {env : Env} {h₀ : Heap} {x : Str} {body : List Stmt} {Q : Flow → Shared → Prop}
/-- a plain loop's name; nothing else of the frame's map turns -/
theorem range_invx {L r : Addr} (hL : env.locals = L) {a₀ b₀ : Int} {t₀ u₀ v₀ : Tok} {n : Nat} {m₀ : Str → Option Value} {news : List (Addr × Obj)} (J : Nat → List (Addr × Obj) → Prop)
    (hh : A.handled = none) (hr : IsRange s.heap r a₀ b₀ 1 t₀ u₀ v₀) (hsmall : Builtin.Range.small a₀ b₀ 1 = true) (hn : Builtin.Range.rangeSize a₀ b₀ 1 = (n : Int)) (F : Fr h₀ L s.heap m₀) (N : News h₀ L s.heap news)
    (hj : J 0 news)
    (turn : ∀ (i : Nat) news₁ I it t h tk, i < n → J i news₁ → it.cls = .type "range_iterator" → (∀ p ∈ news₁, p.1 ≠ I) → Fr h₀ L h (fun y => if y = x then some (.int (a₀ + (i : Int)) t) else m₀ y) → News h₀ L h ((I, it) :: news₁) →
      wpAny (model prog w) A (execs body env) (UnrPost h₀ L { s with heap := h, toks := tk } I it (fun m' n' => (∀ z, z ≠ x → m' z = m₀ z) ∧ J (i + 1) n') Q) E { s with heap := h, toks := tk })
    (done : ∀ u news₁ h tk, J n news₁ → Fr h₀ L h (fun z => if z = x then u else m₀ z) → News h₀ L h news₁ → Q .next { s with heap := h, toks := tk }) :
    wpAny (model prog w) A (pyIter (.ref r)) (fun it s₂ => LoopAtV prog w A h₀ env x body Q E it s₂) E s :=
  range_inv hL (J := fun i m n => (∀ z, z ≠ x → m z = m₀ z) ∧ J i n) hh hr hsmall hn F N ⟨fun _ _ => rfl, hj⟩ (fun i m n I it t h tk hi hJ hit off F2 N2 =>
    turn i n I it t h tk hi hJ.2 hit off (fr_eq F2 fun y => by
      by_cases hy : y = x
      · simp only [if_pos hy]
      · simp only [if_neg hy]; exact hJ.1 y hy) N2) fun m n h tk hJ F2 N2 => by
    obtain ⟨u, e⟩ := map1 hJ.1
    rw [e] at F2
    exact done u n h tk hJ.2 F2 N2
/-- the same over a list of the ledger -/
theorem list_invx {L ax : Addr} (hL : env.locals = L) {lo : Obj} {vs : List Value} {n : Nat} {m₀ : Str → Option Value} {news : List (Addr × Obj)} (J : Nat → List (Addr × Obj) → Prop)
    (hh : A.handled = none) (F : Fr h₀ L s.heap m₀) (N : News h₀ L s.heap news) (hm : (ax, lo) ∈ news) (hc : lo.cls = .type "list") (hd : lo.data = .seq vs.toArray n)
    (hj : J 0 news)
    (turn : ∀ (i : Nat) v news₁ I it h tk, vs[i]? = some v → J i news₁ → (ax, lo) ∈ news₁ → it.cls = .type "list_iterator" → (∀ p ∈ news₁, p.1 ≠ I) → Fr h₀ L h (fun y => if y = x then some v else m₀ y) → News h₀ L h ((I, it) :: news₁) →
      wpAny (model prog w) A (execs body env) (UnrPost h₀ L { s with heap := h, toks := tk } I it (fun m' n' => (ax, lo) ∈ n' ∧ (∀ z, z ≠ x → m' z = m₀ z) ∧ J (i + 1) n') Q) E { s with heap := h, toks := tk })
    (done : ∀ u news₁ h tk, J vs.length news₁ → Fr h₀ L h (fun z => if z = x then u else m₀ z) → News h₀ L h news₁ → Q .next { s with heap := h, toks := tk }) :
    wpAny (model prog w) A (pyIter (.ref ax)) (fun it s₂ => LoopAtV prog w A h₀ env x body Q E it s₂) E s :=
  list_inv hL (J := fun i m n => (∀ z, z ≠ x → m z = m₀ z) ∧ J i n) hh F N hm hc hd ⟨fun _ _ => rfl, hj⟩ (fun i v m n I it h tk hi hJ hm' hit off F2 N2 =>
    turn i v n I it h tk hi hJ.2 hm' hit off (fr_eq F2 fun y => by
      by_cases hy : y = x
      · simp only [if_pos hy]
      · simp only [if_neg hy]; exact hJ.1 y hy) N2) fun m n h tk hJ F2 N2 => by
    obtain ⟨u, e⟩ := map1 hJ.1
    rw [e] at F2
    exact done u n h tk hJ.2 F2 N2
theorem ints_at {vs : List Value} {n : Nat} {f : Nat → Int} (h : IntsAre vs ((List.range n).map f)) {i : Nat} {v : Value} (e : vs[i]? = some v) : ∃ t, v = .int (f i) t ∧ i < n := by
  obtain ⟨k, t, rfl, hk⟩ := IntsAre.at h i v e
  rw [List.getElem?_map] at hk
  cases hr : (List.range n)[i]? with
  | none => rw [hr] at hk; cases hk
  | some j =>
    rw [hr] at hk
    have hlt : i < n := by
      have := List.getElem?_eq_some_iff.mp hr
      obtain ⟨h1, _⟩ := this
      simpa using h1
    rw [List.getElem?_range hlt] at hr
    cases hr
    cases hk
    exact ⟨t, rfl, hlt⟩
end
end
section
theorem ownOff_add {news : List (Addr × Obj)} {b : Addr} {bs : List Nat} (h1 : LCg.Off1 b news) (h : OwnOff news bs) : OwnOff news (b :: bs) := by
  intro q hq c hc
  rcases List.mem_cons.mp hc with rfl | hc
  · exact off1_mem h1 q hq
  · exact h q hq c hc
end
section
theorem ownOff_c1 {news : List (Addr × Obj)} {D src : Addr} {o : Obj} (hd : @Ne Nat D src) (h : OwnOff news [src]) : OwnOff ((D, o) :: news) [src] :=
  ownOff_cons h fun b hb => by rw [List.mem_singleton.mp hb]; exact hd
theorem ownOff_weak {news : List (Addr × Obj)} {bs bs' : List Addr} (h : OwnOff news bs) (hb : ∀ b ∈ bs', b ∈ bs) : OwnOff news bs' := fun q hq b hb' => h q hq b (hb b hb')
theorem off1_own {news : List (Addr × Obj)} {src : Addr} (h : LCg.Off1 src news) : OwnOff news [src] := fun q hq b hb e => off1_mem h q hq (by rw [e, List.mem_singleton.mp hb])
end
section
section
variable {prog : Program} {w : World} {A : Around} {E : Value → Shared → Prop} {env : Env} {test : PySem.Expr} {body orelse : List Stmt} {Q : Flow → Shared → Prop}
def WEnd (Q : Flow → Shared → Prop) (I : Nat → Shared → Prop) (n : Nat) (f : Flow) (s : Shared) : Prop :=
  match f with
  | .ret v => Q (.ret v) s
  | .brk => Q .next s
  | _ => ∃ m, m < n ∧ I m s
theorem while_inv (I : Nat → Shared → Prop) (hE : PassesOwn (model prog w) A env E)
    (turn : ∀ n s, I n s → wpAny (model prog w) A (isTrue test env (eval test env)) (fun b s₂ => WhlIf b (wpAny (model prog w) A (execs body env) (WEnd Q I n) E s₂) (wpAny (model prog w) A (execs orelse env) Q E s₂)) E s) :
    ∀ (n k : Nat) (s : Shared), I n s → WhlRest prog w A E env test body orelse Q k s := by
  intro n
  induction n using Nat.strongRecOn with
  | ind n ih =>
    intro k s h
    refine whl_turn (k := k) hE (wpAny_mono (turn n s h) (fun b s₂ hb => ?_) fun _ _ e => e)
    cases b with
    | false => exact WhlIf.no rfl (by unfold WhlIf at hb; rw [if_neg Bool.false_ne_true] at hb; exact hb)
    | true =>
      refine WhlIf.yes rfl ?_
      unfold WhlIf at hb
      rw [if_pos rfl] at hb
      refine wpAny_mono hb (fun f s₃ hf => ?_) fun _ _ e => e
      cases f with
      | ret v => exact hf
      | brk => exact hf
      | next => obtain ⟨m, hm, hI⟩ := hf; exact ih m hm k s₃ hI
      | cont => obtain ⟨m, hm, hI⟩ := hf; exact ih m hm k s₃ hI
end
end
section
theorem fr_over {h₀ h : Heap} {L : Addr} {k : Str} {v u : Option Value} {b : Str → Option Value} (F : Fr h₀ L h (fun y => if y = k then v else if y = k then u else b y)) : Fr h₀ L h (fun y => if y = k then v else b y) :=
  fr_eq F fun y => by
    by_cases hy : y = k
    · simp only [if_pos hy]
    · simp only [if_neg hy]
end
end
section
open PySem PySem.W PyProof.Rows
theorem flush_X1 : (if (1 : Nat) = 1 then True else True) := by
  w_top off
  (try walk1)
  all_goals (first | trivial | simp)
end
section
open PySem PySem.W PyProof.Rows PySem.Calls PySem.Spec
set_option linter.unusedVariables false
section
/-! an exception in flight whose own attributes are kept in sight -/
theorem dict_mapFields (o : Obj) (f) : (o.mapFields f).dict = o.dict := by
  obtain ⟨c, d, dt, sl⟩ := o
  cases dt <;> rfl

def TracedD (h base : Heap) (e : Addr) (cls : Value) (dd : Option Addr) (a0 fl : Value) : Prop :=
  ∃ oe vs T oT ts, h.get? e = some oe ∧ (oe.cls = cls ∧ oe.dict = dd ∧ vs[0]? = some a0) ∧ oe.data = .fields vs ∧ vs[1]? = some (.ref T) ∧ base.get? T = none ∧ T ≠ e ∧ h.get? T = some oT ∧ oT.data = .fields ts ∧ ts[3]? = some fl

def FlyD (base : Heap) (l : List Env) (e : Addr) (cls : Value) (dd : Option Addr) (a0 fl : Value) (h : Heap) : Prop :=
  base.StaysIn h ∧ base.get? e = none ∧ h.FunFrames base l ∧ TracedD h base e cls dd a0 fl

section
variable {M : Model} {A : Around} {E : Value → Shared → Prop} {s : Shared}

theorem entryD {base : Heap} {env : Env} {outer : List Env} {L e : Addr} {oe : Obj} {vs : Array Value} {head a0 : Value} {hadNext : Bool} {Q : Unit → Shared → Prop}
    (hfr : A.frames = some (env :: outer)) (hl : s.heap.FunFrames base (env :: outer)) (hf : env.frame = some L)
    (he : s.heap.get? e = some oe) (hkb : base.StaysIn s.heap) (hen : base.get? e = none) (hd : oe.data = .fields vs) (hsz : 1 < vs.size) (h0 : vs[0]? = some a0)
    (h : ∀ h', FlyD base (env :: outer) e oe.cls oe.dict a0 (rawInt L) h' → s.heap.UpToSlots h' → Q () { s with heap := h' }) :
    wpAny M A (do let a ← frameOf env; let pl ← entryPlaceOf L hadNext; let b ← EntryCells.newEntry head a .none (rawInt L) .none pl; setField (.ref e) 1 b) Q E s := by
  have hene : e ∉ (env :: outer).filterMap (·.frame) := fun hm => by
    obtain ⟨_, o, ho, hnf⟩ := hl.mem hm
    rw [he] at ho; injection ho with ho; subst ho; exact hnf vs hd
  refine wpAny_bind (wpAny_frameOf_fun hfr hl hf fun h₁ hs₁ => ?_)
  refine wpAny_bind (wpAny_entryPlaceOf fun pl hpl => ?_)
  unfold EntryCells.newEntry newFields
  refine wpAny_bind (wpAny_newObj_type ?_ (hpl.sizeOk5 _ _ _ _ _))
  have he₁ : h₁.get? e = some oe := (hs₁.2.1 e hene).trans he
  have kb₁ : base.StaysIn h₁ := fun b o hbo => (hs₁.2.1 b fun hm => by rw [(hl.mem hm).1] at hbo; cases hbo).trans (hkb b o hbo)
  generalize hO : ({ cls := .type "traceback", dict := none, data := .fields ([head, .ref L, .none, rawInt L, .none] ++ (if pl.isEmpty then List.replicate 6 Value.none else pl)).toArray } : Obj) = oN
  have he₂ := Heap.get?_push_of_some (h := h₁) oN he₁
  refine wpAny_setField he₂ hd hsz ?_
  have hTe : h₁.objs.size ≠ e := Nat.ne_of_gt (Heap.lt_size he₁)
  have hd₃ := Obj.data_mapFields hd (·.setIfInBounds 1 (Value.ref h₁.objs.size))
  have he₃ := Heap.get?_update_self (Obj.mapFields (·.setIfInBounds 1 (Value.ref h₁.objs.size))) he₂ (Obj.isFreed_of_fields hd₃)
  have hT₃ := (Heap.get?_update_other (h₁.push oN) (Obj.mapFields (·.setIfInBounds 1 (Value.ref h₁.objs.size))) (Ne.symm hTe)).trans (Heap.get?_push_size h₁ (by rw [← hO]; rfl))
  have keep : ∀ b o, b ≠ e → h₁.get? b = some o → ((h₁.push oN).update e (Obj.mapFields (·.setIfInBounds 1 (Value.ref h₁.objs.size)))).get? b = some o := fun b o hbe hb => by
    rw [Heap.get?_update_other _ _ (Ne.symm hbe)]
    exact Heap.get?_push_of_some _ hb
  have noRecord : ∀ b o, s.heap.get? b = some o → (∀ vs, o.data ≠ .fields vs) → b ≠ e := fun b o hb hnf q => by
    rw [q, he] at hb; injection hb with hb; subst hb; exact hnf vs hd
  have hfl : FlyD base (env :: outer) e oe.cls oe.dict a0 (rawInt L) ((h₁.push oN).update e (Obj.mapFields (·.setIfInBounds 1 (Value.ref h₁.objs.size)))) := by
    refine ⟨fun b o hbo => keep b o (fun q => by rw [q, hen] at hbo; cases hbo) (kb₁ b o hbo), hen, hl.of_keeps fun b o hb hnf => ?_, ?_⟩
    · obtain ⟨sl, hs⟩ := hs₁.2.2 b o hb
      exact ⟨_, keep b _ (noRecord b o hb hnf) hs, rfl⟩
    · exact ⟨_, _, h₁.objs.size, _, _, he₃, ⟨Obj.cls_mapFields _ _, dict_mapFields _ _, by rw [Array.getElem?_setIfInBounds_ne (by decide)]; exact h0⟩, hd₃, by simp [hsz], kb₁.fresh, hTe, hT₃, by rw [← hO], by first | (simp; done) | (rcases hpl with rfl | ⟨_, _, _, _, _, _, _, rfl⟩ <;> simp)⟩
  have hup : s.heap.UpToSlots ((h₁.push oN).update e (Obj.mapFields (·.setIfInBounds 1 (Value.ref h₁.objs.size)))) := fun b o hb hnf => by
    obtain ⟨sl, hs⟩ := hs₁.2.2 b o hb
    exact ⟨sl, keep b _ (noRecord b o hb hnf) hs⟩
  exact h _ hfl hup

theorem setFlightD {base : Heap} {l : List Env} {e : Addr} {cls a0 fl : Value} {dd : Option Addr} {Q : Unit → Shared → Prop} (hh : FlyD base l e cls dd a0 fl s.heap)
    (h : ∀ h', FlyD base l e cls dd a0 .none h' → s.heap.UpToSlots h' → Q () { s with heap := h' }) : wpAny M A (setFlight (.ref e) none) Q E s := by
  obtain ⟨hkb, hen, hl, oe, vs, T, oT, ts, he, hcls, hd, h1, hnT, hTe, hT, hdT, h3⟩ := hh
  have hsz3 : 3 < ts.size := (Array.getElem?_eq_some_iff.mp h3).1
  have other : ∀ b, b ≠ T → (s.heap.update T (Obj.mapFields (·.setIfInBounds 3 ((none : Option Addr).elim Value.none fun f => rawInt f)))).get? b = s.heap.get? b :=
    fun b hb => Heap.get?_update_other _ _ (Ne.symm hb)
  have noRecord : ∀ b o, s.heap.get? b = some o → (∀ vs, o.data ≠ .fields vs) → b ≠ T := fun b o hb hnf q => by
    rw [q, hT] at hb; injection hb with hb; subst hb; exact hnf ts hdT
  unfold setFlight
  refine wpAny_bind (wpAny_field he hd h1 ?_)
  rw [if_pos (show (Value.ref T != Value.none) = true from by simp)]
  refine wpAny_setField hT hdT hsz3 (h _ ⟨fun b o hbo => (other b fun q => by rw [q, hnT] at hbo; cases hbo).trans (hkb b o hbo), hen,
    hl.of_keeps fun b o hb hnf => ⟨o, (other b (noRecord b o hb hnf)).trans hb, rfl⟩, ?_⟩ fun b o hb hnf => ⟨o.slots, (other b (noRecord b o hb hnf)).trans hb⟩)
  exact ⟨oe, vs, T, _, _, (other e (Ne.symm hTe)).trans he, hcls, hd, h1, hnT, hTe, Heap.get?_update_self _ hT (Obj.isFreed_of_fields (Obj.data_mapFields hdT _)), Obj.data_mapFields hdT _, by simp [hsz3]⟩

/-- the first frame that it leaves -/
theorem leaving_firstD {base : Heap} {env : Env} {outer : List Env} {L e : Addr} {oe : Obj} {vs : Array Value} {a0 : Value} {Q : Unit → Shared → Prop}
    (hfr : A.frames = some (env :: outer)) (hl : s.heap.FunFrames base (env :: outer)) (hf : env.frame = some L)
    (he : s.heap.get? e = some oe) (hkb : base.StaysIn s.heap) (hen : base.get? e = none) (hd : oe.data = .fields vs) (h1 : vs[1]? = some .none) (h0 : vs[0]? = some a0)
    (h : ∀ h', FlyD base (env :: outer) e oe.cls oe.dict a0 .none h' → s.heap.UpToSlots h' → Q () { s with heap := h' }) : wpAny M A (leaving env (.ref e)) Q E s := by
  unfold leaving noteFrame
  simp only [hf]
  refine wpAny_bind (wpAny_bind (wpAny_field he hd h1 ?_))
  rw [if_neg (by decide)]
  refine entryD hfr hl hf he hkb hen hd (Array.getElem?_eq_some_iff.mp h1).1 h0 fun h₁ x1 x2 => ?_
  exact setFlightD (s := { s with heap := h₁ }) x1 fun h₂ y1 y2 => h h₂ y1 (x2.trans y2)

/-- the frame that it comes to -/
theorem noteFrameD {base : Heap} {env : Env} {outer : List Env} {L e : Addr} {cls a0 : Value} {dd : Option Addr} {Q : Unit → Shared → Prop}
    (hfr : A.frames = some (env :: outer)) (hf : env.frame = some L) (hh : FlyD base (env :: outer) e cls dd a0 .none s.heap)
    (h : ∀ h', FlyD base (env :: outer) e cls dd a0 (rawInt L) h' → s.heap.UpToSlots h' → Q () { s with heap := h' }) : wpAny M A (noteFrame (.ref e) env) Q E s := by
  obtain ⟨hkb, hen, hl, oe, vs, T, oT, ts, he, ⟨hcls, hdd, h0⟩, hd, h1, hnT, hTe, hT, hdT, h3⟩ := hh
  subst hcls hdd
  unfold noteFrame
  simp only [hf]
  refine wpAny_bind (wpAny_field he hd h1 ?_)
  rw [if_pos (show (Value.ref T != Value.none) = true from by simp)]
  refine wpAny_bind (wpAny_field hT hdT h3 ?_)
  rw [if_neg (show ¬ ((Value.none == rawInt L) = true) from by simp [rawInt])]
  refine wpAny_bind (wpAny_setField hT hdT (Array.getElem?_eq_some_iff.mp h3).1 ?_)
  have other : ∀ b, b ≠ T → (s.heap.update T (Obj.mapFields (·.setIfInBounds 3 Value.none))).get? b = s.heap.get? b := fun b hb => Heap.get?_update_other _ _ (Ne.symm hb)
  have noRecord : ∀ b o, s.heap.get? b = some o → (∀ vs, o.data ≠ .fields vs) → b ≠ T := fun b o hb hnf q => by
    rw [q, hT] at hb; injection hb with hb; subst hb; exact hnf ts hdT
  exact entryD hfr (hl.of_keeps fun b o hb hnf => ⟨o, (other b (noRecord b o hb hnf)).trans hb, rfl⟩) hf ((other e (Ne.symm hTe)).trans he)
    (fun b o hbo => (other b fun q => by rw [q, hnT] at hbo; cases hbo).trans (hkb b o hbo)) hen hd (Array.getElem?_eq_some_iff.mp h1).1 h0
    fun h' x1 x2 => h h' x1 fun b o hb hnf => x2 b o ((other b (noRecord b o hb hnf)).trans hb) hnf
end
end
end
section
open PySem PySem.W PyProof.Rows
theorem flush_X2 : (if (1 : Nat) = 1 then True else True) := by
  w_top off
  (try walk1)
  all_goals (first | trivial | simp)
end
section
open PySem PySem.W PyProof.Rows PySem.Calls PySem.Spec PyProof.V
set_option linter.unusedVariables false
set_option maxRecDepth 100000
section
def RaisedD (base G : Heap) (l : List Env) (e : Addr) (cls : Value) (dd : Option Addr) (a0 : Value) (news : List (Addr × Obj)) (h : Heap) : Prop :=
  ∃ B : Heap, base.StaysIn B ∧ (∀ b o, G.get? b = some o → b ∉ l.filterMap (·.frame) → B.get? b = some o) ∧ (∀ q ∈ news, B.get? q.1 = some q.2 ∧ G.get? q.1 = none ∧ base.get? q.1 = none) ∧ FlyD B l e cls dd a0 .none h

section
variable {M : Model} {A : Around} {E : Value → Shared → Prop} {s' : Shared} {base g h : Heap} {outer : List Env} {L a e : Addr} {m : Str → Option Value} {name : Str} {scope : Scope} {cd : Value} {Q : Unit → Shared → Prop} {news : List (Addr × Obj)}
theorem leaveD {oe : Obj} {vs : Array Value} {a0 : Value} (K : Below A base outer g) (F : Fr g L s'.heap m) (N : News g L s'.heap ((e, oe) :: news)) (off : ∀ q ∈ news, q.1 ≠ e) (hd : oe.data = .fields vs) (h1 : vs[1]? = some .none) (h0 : vs[0]? = some a0)
    (hQ : ∀ h', RaisedD base g outer e oe.cls oe.dict a0 news h' → g.UpToSlots h' → Q () { s' with heap := h' }) (hk : scope.kind = .function := by rfl) :
    wpAny M (A.deeper (envOf name scope L a cd)) (leaving (envOf name scope L a cd) (.ref e)) Q E s' := by
  have K' := K.push (name := name) (a := a) (cd := cd) F hk
  generalize hfs : (envOf name scope L a cd :: outer).filterMap (·.frame) = fs
  have hin : ∀ env ∈ (envOf name scope L a cd :: outer), ∀ b, env.frame = some b → b ∈ e :: fs := fun env he b hb => List.mem_cons_of_mem _ (by rw [← hfs]; exact List.mem_filterMap.mpr ⟨env, he, hb⟩)
  obtain ⟨he, heL, heg⟩ := N (e, oe) List.mem_cons_self
  dsimp only at he heL heg
  have heb : base.get? e = none := fresh_of_stays K.stays heg
  have hfrm : ∀ b ∈ fs, base.get? b = none ∧ ∃ o, s'.heap.get? b = some o ∧ ∀ vs, o.data ≠ .fields vs := fun b hb => K'.frames.mem (by rw [hfs]; exact hb)
  have st : base.StaysIn (hideAll s'.heap (e :: fs)) := fun b o q => hideAll_get _ (K'.stays b o q) fun hm => by
    rcases List.mem_cons.mp hm with rfl | hm
    · rw [heb] at q; cases q
    · rw [(hfrm b hm).1] at q; cases q
  have split : ∀ b, b ∈ fs → b = L ∨ b ∈ outer.filterMap (·.frame) := fun b hb => kts_mem (by rw [hfs]; exact hb)
  have sg : ∀ b o, g.get? b = some o → b ∉ outer.filterMap (·.frame) → (hideAll s'.heap (e :: fs)).get? b = some o := fun b o q nm => hideAll_get _ (F.keep b o q) fun hm => by
    rcases List.mem_cons.mp hm with rfl | hm
    · rw [heg] at q; cases q
    · rcases split b hm with z | z
      · rw [z, kts_self F] at q; cases q
      · exact nm z
  have hl : ∀ q ∈ news, (hideAll s'.heap (e :: fs)).get? q.1 = some q.2 ∧ g.get? q.1 = none ∧ base.get? q.1 = none := fun q hq => by
    have Nq := N q (List.mem_cons_of_mem _ hq)
    refine ⟨hideAll_get _ Nq.1 fun hm => ?_, Nq.2.2, fresh_of_stays K.stays Nq.2.2⟩
    rcases List.mem_cons.mp hm with z | hm
    · exact off q hq z
    · rcases split q.1 hm with z | z
      · exact Nq.2.1 z
      · obtain ⟨_, o, ho, _⟩ := K.frames.mem z
        rw [Nq.2.2] at ho; cases ho
  refine leaving_firstD (base := hideAll s'.heap (e :: fs)) K'.stack (funFrames_hide K'.frames hin) rfl he (fun b o q => of_hideAll _ q) (hideAll_none _ List.mem_cons_self) hd h1 h0 fun h' hL hup => ?_
  obtain ⟨k1, k2, ⟨_, _, k3⟩, k4⟩ := hL
  exact hQ h' ⟨_, st, sg, hl, k1, k2, k3, k4⟩ ((Heap.UpToSlots.of_keeps F.keep).trans hup)
end

section
variable {prog : Program} {w : World} {A₀ : Around} {E : Value → Shared → Prop} {s' : Shared} {base g G : Heap} {outer : List Env} {L a e C : Addr} {m : Str → Option Value} {name : Str} {scope : Scope} {cd : Value}
  {n : Str} {b₀ : Stmt} {suite : List Stmt} {pos np : Pos} {rest : List ExceptHandler} {Q : Flow → Shared → Prop} {news : List (Addr × Obj)} {KF : Frag}
  {p : Program} {loose : List Str} {mean : ExcName → Option Value} {mg mb : Str → Option Value} {x : Str} {dd : Option Addr} {a0 : Value}
theorem caughtD (R : RaisedD base G (envOf name scope L a cd :: outer) e (.ref C) dd a0 news s'.heap) (F : Fr g L G m) (K : Below A₀ base outer g) (hsm : G.UpToSlots s'.heap) (XB : KF.In base) (TB : Top p loose mean mg mb base)
    (ex : nsIn KF mainGlobals x = some (some (.ref C))) (q : ktsIn KF C "BaseException" = true)
    (k : ∀ h' g' oe ws tk, KtsTurn (outer.filterMap (·.frame)) g g' → Fr g' L h' (fun y => if y = n then some (.ref e) else m y) → News g' L h' ((e, oe) :: news) → oe.cls = .ref C → oe.dict = dd → oe.data = .fields ws → Below A₀ base outer g' → KF.In g' → Top p loose mean mg mb g' →
      wpAny (model prog w) ((A₀.deeper (envOf name scope L a cd)).mark (some (.ref e))) (execs (b₀ :: suite) (envOf name scope L a cd))
        (fun f s₄ => wpAny (model prog w) (A₀.deeper (envOf name scope L a cd)) (do bindName (envOf name scope L a cd) n .none; unbindBehindTheSuite (envOf name scope L a cd) n pos) (fun _ s₅ => Q f s₅) E s₄)
        (AsSuiteRaised (model prog w) ((A₀.deeper (envOf name scope L a cd)).mark (some (.ref e))) (envOf name scope L a cd) n pos (notedBy (model prog w) ((A₀.deeper (envOf name scope L a cd)).mark (some (.ref e))) (envOf name scope L a cd) (cameBackBy (model prog w) (A₀.deeper (envOf name scope L a cd)) (envOf name scope L a cd) E)))
        { s' with heap := h', toks := tk })
    (hk : scope.kind = .function := by rfl) (hlo : (envOf name scope L a cd).kindOf n = some .local := by rfl) (hx : (envOf name scope L a cd).kindOf x = some .globalImplicit := by rfl) (hd : (x == ("__debug__" : Str)) = false := by decide) :
    wpAny (model prog w) (A₀.deeper (envOf name scope L a cd)) (noteFrame (.ref e) (envOf name scope L a cd))
      (fun _ s₂ => wpAny (model prog w) (A₀.deeper (envOf name scope L a cd)) (setFlight (.ref e) none) (fun _ s₃ =>
        wpAny (model prog w) (A₀.deeper (envOf name scope L a cd)) (handleBy (.ref e) (envOf name scope L a cd) (.ExceptHandler (some (.Name x np)) (some n) (b₀ :: suite) pos :: rest)) Q E s₃) E s₂) E s' := by
  obtain ⟨B, hB, hBG, hl, hfl⟩ := R
  have hL : B.get? L = none := by
    obtain ⟨_, ⟨L', _, hf, hn', _⟩, _⟩ := hfl.2.2.1
    obtain rfl : L = L' := Option.some.inj hf
    exact hn'
  have fr := Around.frames_deeper (env := envOf name scope L a cd) K.stack
  refine noteFrameD fr rfl hfl fun h₄ hf₄ sm₄ => ?_
  refine setFlightD (s := { s' with heap := h₄ }) hf₄ fun h₅ hf₅ sm₅' => ?_
  have sm₅ := sm₄.trans sm₅'
  obtain ⟨g₅, T₅, F₅, K₅⟩ := kts_ground K F hBG hf₅.1 (hsm.trans sm₅)
  have X₅ : KF.In g₅ := XB.keeps K₅.stays
  have P₅ : TopRead p loose mg mb g₅ := topRead_of (TB.keeps K₅.stays)
  obtain ⟨ob, _, _, _, _, hob, ⟨hobc, _⟩, _⟩ := id hf₅.2.2.2
  obtain ⟨nm, q', N, bs, bm, hdct, sn, sub, ab, col, dd', k0, k1, k2, k3, k5, newId, hC, hbase, hbT⟩ := kts_cls X₅ q
  have hC₅ := F₅.keep _ _ hC
  refine wpAny_handleBy_cons (codeAny_handlers_test (name_K F₅ X₅ P₅ ex ?_ hk hx hd)) (by intro q; cases q)
  refine wpAny_excMatches_sub_self hC₅ hob hobc hbase (codeAny_handlers_suite_as ?_)
  refine setFlightD (s := { s' with heap := h₅ }) hf₅ fun h₆ hf₆ sm₆ => ?_
  obtain ⟨g₆, T₆, F₆, K₆⟩ := kts_ground K F hBG hf₆.1 ((hsm.trans sm₅).trans sm₆)
  obtain ⟨oe, ws, _, _, _, hoe, ⟨hoec, hoedd, _⟩, hoed, _⟩ := id hf₆.2.2.2
  have ne₆ : g₆.get? e = none := T₆.none_ _ (kts_fresh F hBG hf₆.2.1 fun o ho m => by
    obtain ⟨_, o', ho', hd⟩ := K.frames.mem m
    rw [ho] at ho'
    cases ho'
    obtain ⟨sl, hs⟩ := ((hsm.trans sm₅).trans sm₆) _ _ (F.keep _ _ ho) hd
    rw [hoe] at hs
    cases hs
    exact hd _ hoed)
  have N₆ := News.more F₆ News.nil hoe (fun es n q => by rw [hoed] at q; cases q) ne₆
  have Nl : News g₆ L h₆ news := fun q hq => ⟨hf₆.1 _ _ (hl q hq).1, (fun z => by have := (hl q hq).1; rw [z, hL] at this; cases this), T₆.none_ _ (kts_none F.keep (hl q hq).2.1)⟩
  have X₆ : KF.In g₆ := XB.keeps K₆.stays
  have P₆ : Top p loose mean mg mb g₆ := TB.keeps K₆.stays
  refine stN F₆ (news := (e, oe) :: news) (fun q hq => (List.mem_cons.mp hq).elim (fun z => N₆ q (by rw [z]; exact List.mem_cons_self)) (Nl q)) (fun h₇ F₇ N₇ => ?_) hk hlo
  exact k h₇ g₆ oe ws _ T₆ F₇ N₇ hoec hoedd hoed K₆ X₆ P₆
end
end
end
section
open PySem PySem.W PyProof.Rows
theorem flush_X3 : (if (1 : Nat) = 1 then True else True) := by
  w_top off
  (try walk1)
  all_goals (first | trivial | simp)
end
section
open PySem
open PySem.Sem (wp)
set_option linter.unusedVariables false
set_option maxRecDepth 100000
section
section
variable {M : Model} {A : Around} {E : Value → Shared → Prop} {h : Heap} {g : Array GenState} {d : Drawn} {t : Nat} {os : OsState}
variable {nm q : Str} {C N : Addr} {bs bm bmB : List Value} {hdct : Bool} {sn : List Str} {sub : List Value} {ab : Bool} {col : Option Bool} {dd : Option Addr} {k0 k1 k2 k3 k5 : Option Value} {B newId initId : String}
theorem check_newD (F : ExcBaseFacts B newId initId bmB) (hB : bm.contains (.type B) = true) {rest : List Value} {Q : Unit → Shared → Prop} (hC : h.get? C = some (excClassObj nm q C N bs bm hdct sn sub ab col dd k0 k1 k2 k3 k5 newId))
    (hq : Q () ⟨h, g, d, t, os⟩) : wpAny M A (checkBuiltinCall newId ⟨.ref C :: rest, []⟩) Q E ⟨h, g, d, t, os⟩ := by
  have hcont : (Value.ref C :: bm).contains (.type B) = true := by rw [List.contains_cons, hB, Bool.or_true]
  have hstar := F.noStar
  simp only [checkBuiltinCall, F.newKind, F.newSplit, F.newRow]
  repeat (first | refine wpAny_loadPart_at hC ?_ | (refine wpAny_isSubtype_exc hC ?_; rw [hcont]) | refine wpAny_staticBase_exc hC ?_ | refine wpAny_madeBy_exc hC ?_ | simp only [bne_self_eq_false, Bool.false_eq_true, if_false] | wp_step)
  exact hq
theorem check_initD (F : ExcBaseFacts B newId initId bmB) (hB : bm.contains (.type B) = true) {e : Addr} {oe : Obj} {rest : List Value} {Q : Unit → Shared → Prop}
    (hC : h.get? C = some (excClassObj nm q C N bs bm hdct sn sub ab col dd k0 k1 k2 k3 k5 newId)) (he : h.get? e = some oe) (hcls : oe.cls = .ref C) (hq : Q () ⟨h, g, d, t, os⟩) :
    wpAny M A (checkBuiltinCall initId ⟨.ref e :: rest, []⟩) Q E ⟨h, g, d, t, os⟩ := by
  have hcB : (Value.ref C :: bm).contains (.type B) = true := by rw [List.contains_cons, hB, Bool.or_true]
  have hshort := F.noStar
  simp only [checkBuiltinCall, F.initKind, F.initSplit, F.initRow]
  repeat (first | (with_reducible refine wpAny_loadPart_at he ?_; rw [hcls]) | with_reducible refine wpAny_loadPart_at hC ?_ | (with_reducible refine wpAny_isSubtype_exc hC ?_; rw [hcB]) | wp_step)
  refine wpAny_onRaise ?_
  rw [show ∀ (a b : String) (n : Nat), Bind.check ⟨.positional, "*", B, .self, [⟨"args", .varPos, false⟩]⟩ a b n (List.map (fun x => x.fst) ({ pos := Value.ref e :: rest } : Args).kw) = pure () from
    fun a b n => check_star_args _ _ _ _ _ _]
  exact wpAny_pure hq
end
section
variable {prog : Program} {w : World} {A : Around} {R : Result → Shared → Prop} {E : Value → Shared → Prop} {h : Heap} {g : Array GenState} {d : Drawn} {t : Nat} {os : OsState}
variable {nm q : Str} {C N P : Addr} {bs bm bmB : List Value} {hdct : Bool} {sn : List Str} {sub : List Value} {ab : Bool} {col : Option Bool} {dd : Option Addr} {k0 k1 k2 k3 k5 : Option Value} {B newId initId : String}
theorem code_newD (F : ExcBaseFacts B newId initId bmB) (hB : bm.contains (.type B) = true) (hA : bm.contains (.type "AttributeError") = false) (hN : bm.contains (.type "NameError") = false) {rest : List Value} (hC : h.get? C = some (excClassObj nm q C N bs bm hdct sn sub ab col dd k0 k1 k2 k3 k5 newId))
    (hq : R (.ok (.ret (.ref (h.objs.size + 1)))) ⟨(h.push { cls := .type "tuple", data := .seq rest.toArray }).push
      { cls := .ref C, data := .fields #[.ref h.objs.size, .none, .none, .none, .bool false, .none] }, g, d, t, os⟩) (hrest : rest.length ≤ sizeLine := by size_fits) :
    codeAny (model prog w) A (.builtin newId ⟨.ref C :: rest, []⟩) R ⟨h, g, d, t, os⟩ := by
  have hends := F.ends
  have hcB : (Value.ref C :: bm).contains (.type B) = true := by rw [List.contains_cons, hB, Bool.or_true]
  have hcA : (Value.ref C :: bm).contains (.type "AttributeError") = false := by rw [List.contains_cons, hA]; rfl
  have hcN : (Value.ref C :: bm).contains (.type "NameError") = false := by rw [List.contains_cons, hN]; rfl
  refine codeAny_builtinAt F.entry ?_
  unfold Builtin.«BaseException.__new__»
  refine wpAt_bind ?_
  show wpAt _ _ _ (stack >>= _) _ _ _
  refine wpAt_bind (wpAt_stack fun p below => wpAt_of_wpAny ?_)
  wp_walk
  refine wpAt_of_wpAny ?_
  rw [F.owner]
  repeat (first | with_reducible refine wpAny_madeHere_exc F.canon hC ?_ | with_reducible refine wpAny_loadPart_at hC ?_ | (with_reducible refine wpAny_isSubtype_exc hC ?_; first | rw [hcB] | rw [hcA] | rw [hcN]) | wp_step)
  show R _ _
  rw [Heap.size_push]
  exact hq

theorem lookup_initD {M : Model} {c0 : Value} {dP : Option Addr} {cdP : ClassData} {slP : Array (Option Value)} {mN mP : Str → Option Value} {bmR : List Value} {v : Value} {Q : Option Value → Shared → Prop}
    (hC : h.get? C = some (excClassObj nm q C N bs (.ref P :: bmR) hdct sn sub ab col dd k0 k1 k2 k3 k5 newId)) (hn : h.Ns N mN) (hni : mN "__init__" = none)
    (hP : h.get? P = some { cls := c0, dict := dP, data := .cls cdP, slots := slP }) (hnP : h.Ns cdP.ns mP) (hi : mP "__init__" = some v) (hq : Q (some v) ⟨h, g, d, t, os⟩) :
    wpAny M A (typeLookup (.ref C) "__init__") Q E ⟨h, g, d, t, os⟩ := by
  rw [typeLookup_eq]
  refine wpAny_bind (wpAny_mroOf_exc hC ?_)
  rw [lookupAlong_cons]
  refine wpAny_bind (wpAny_classOwn_exc hC hn ?_)
  rw [hni]
  rw [lookupAlong_cons]
  refine wpAny_bind (wpAny_classOwn_cls hP hnP ?_)
  rw [hi]
  exact wpAny_pure hq

theorem type_callD (F : ExcBaseFacts B newId initId bmB) {c0 : Value} {dP : Option Addr} {cdP : ClassData} {slP : Array (Option Value)} {mN mP : Str → Option Value} {bmR : List Value}
    (hB : bmR.contains (.type B) = true) (hA : bmR.contains (.type "AttributeError") = false) (hN : bmR.contains (.type "NameError") = false)
    {rest : List Value} {fI : Addr} {oI : Obj} {Q : Fin → Shared → Prop}
    (hC : h.get? C = some (excClassObj nm q C N bs (.ref P :: bmR) hdct sn sub ab col dd k0 k1 k2 k3 k5 newId)) (hn : h.Ns N mN) (hni : mN "__init__" = none)
    (hP : h.get? P = some { cls := c0, dict := dP, data := .cls cdP, slots := slP }) (hnP : h.Ns cdP.ns mP) (hi : mP "__init__" = some (.ref fI))
    (hfI : h.get? fI = some oI) (hfc : oI.cls = .type "function")
    (hq : ∀ h', h' = (h.push { cls := .type "tuple", data := .seq rest.toArray }).push { cls := .ref C, data := .fields #[.ref h.objs.size, .none, .none, .none, .bool false, .none] } →
      wpAny (model prog w) A (call (.ref fI) (.ref (h.objs.size + 1) :: rest)) (fun r s' => r = .none ∧ Q (.done (.ret (.ref (h.objs.size + 1)))) s') E ⟨h', g, d, t, os⟩) (hrest : rest.length ≤ sizeLine := by size_fits) :
    wpAny (model prog w) A (Builtin.«type.__call__» ⟨.ref C :: rest, []⟩) Q E ⟨h, g, d, t, os⟩ := by
  have hB' : (Value.ref P :: bmR).contains (.type B) = true := by rw [List.contains_cons, hB, Bool.or_true]
  have hA' : (Value.ref P :: bmR).contains (.type "AttributeError") = false := by rw [List.contains_cons, hA]; rfl
  have hN' : (Value.ref P :: bmR).contains (.type "NameError") = false := by rw [List.contains_cons, hN]; rfl
  repeat (first | with_reducible refine wpAny_loadPart_at hC ?_ | with_reducible refine wpAny_madeBy_exc hC ?_ | wp_step)
  refine codeAny_call_builtin_code (Code.quiet_builtin _ F.quiet) (check_newD F hB' hC ?_)
  refine code_newD F hB' hA' hN' hC ?_ hrest
  show wpAny _ _ _ _ _ _
  have two : ∀ {b o}, h.get? b = some o → ((h.push { cls := .type "tuple", data := .seq rest.toArray }).push { cls := .ref C, data := .fields #[.ref h.objs.size, .none, .none, .none, .bool false, .none] }).get? b = some o := fun e => Heap.get?_push_of_some _ (Heap.get?_push_of_some _ e)
  have twoN : ∀ {b mm}, h.Ns b mm → ((h.push { cls := .type "tuple", data := .seq rest.toArray }).push { cls := .ref C, data := .fields #[.ref h.objs.size, .none, .none, .none, .bool false, .none] }).Ns b mm := fun hn =>
    let ⟨o, es, ep, e, r⟩ := hn; ⟨o, es, ep, two e, r⟩
  have hC₁ := two hC
  have hget : ((h.push { cls := .type "tuple", data := .seq rest.toArray }).push
      { cls := .ref C, data := .fields #[.ref h.objs.size, .none, .none, .none, .bool false, .none] }).get? (h.objs.size + 1) = some
      { cls := .ref C, data := .fields #[.ref h.objs.size, .none, .none, .none, .bool false, .none] } := by heap_get
  have hcC : (Value.ref C :: .ref P :: bmR).contains (.ref C) = true := by simp
  unfold isInstance
  repeat (first | with_reducible refine wpAny_loadPart_at hget ?_ | (with_reducible refine wpAny_isSubtype_exc hC₁ ?_; rw [hcC]) | wp_step)
  show wpAny _ _ (typeLookup (.ref C) _) _ _ _
  refine lookup_initD hC₁ (twoN hn) hni (two hP) (twoN hnP) hi ?_
  refine wpAny_holding (wpAny_bind ?_)
  unfold bindSpecial
  refine wpAny_bind (wpAny_typeOf (T := "function") ⟨_, two hfI, hfc⟩ ?_)
  rw [if_pos (by decide)]
  refine wpAny_pure (wpAny_bind (wpAny_mono (hq _ rfl) (fun r s' hr => ?_) fun _ _ x => x))
  obtain ⟨rfl, hQ⟩ := hr
  wp_walk
  exact hQ

theorem call_excD (F : ExcBaseFacts B newId initId bmB) {c0 : Value} {dP : Option Addr} {cdP : ClassData} {slP : Array (Option Value)} {mN mP : Str → Option Value} {bmR : List Value}
    (hB : bmR.contains (.type B) = true) (hA : bmR.contains (.type "AttributeError") = false) (hN : bmR.contains (.type "NameError") = false)
    {rest : List Value} {fI : Addr} {oI : Obj} {Q : Value → Shared → Prop}
    (hC : h.get? C = some (excClassObj nm q C N bs (.ref P :: bmR) hdct sn sub ab col dd k0 k1 k2 k3 k5 newId)) (hn : h.Ns N mN) (hni : mN "__init__" = none)
    (hP : h.get? P = some { cls := c0, dict := dP, data := .cls cdP, slots := slP }) (hnP : h.Ns cdP.ns mP) (hi : mP "__init__" = some (.ref fI))
    (hfI : h.get? fI = some oI) (hfc : oI.cls = .type "function")
    (hq : ∀ h', h' = (h.push { cls := .type "tuple", data := .seq rest.toArray }).push { cls := .ref C, data := .fields #[.ref h.objs.size, .none, .none, .none, .bool false, .none] } →
      wpAny (model prog w) (A.under (.builtin "type.__call__" ⟨.ref C :: rest, []⟩)) (call (.ref fI) (.ref (h.objs.size + 1) :: rest)) (fun r s' => r = .none ∧ Q (.ref (h.objs.size + 1)) s') E ⟨h', g, d, t, os⟩) (hrest : rest.length ≤ sizeLine := by size_fits) :
    wpAny (model prog w) A (call (.ref C) rest) Q E ⟨h, g, d, t, os⟩ := by
  have f1 := tc_lookup
  have f2 := tc_bind (.ref C)
  have hT : (⟨h, g, d, t, os⟩ : Shared).TypeIs (.ref C) "type" := ⟨_, hC, rfl⟩
  refine wpAny_call (codeAny_of_tree ?_)
  show wpAny _ _ (callAny (.ref C) _) _ _ _
  repeat (any_goals (first | assumption | with_reducible refine wpAny_loadPart_at hC ?_ | wp_step))
  refine ⟨rfl, ?_⟩
  exact codeAny_call_builtin_at (Code.quiet_builtin _ (by decide +kernel)) entry_typeCall (wpAny_check_type_call_sub hC (type_callD (hrest := hrest) F hB hA hN hC hn hni hP hnP hi hfI hfc hq))
end
end
end
section
open PySem PySem.W PyProof.Rows
theorem flush_X3b : (if (1 : Nat) = 1 then True else True) := by
  w_top off
  (try walk1)
  all_goals (first | trivial | simp)
end
section
open PySem
open PySem.Sem (wp)
open Builtin Builtin.ObjectAttr
set_option linter.unusedVariables false
set_option maxRecDepth 100000
section
section
variable {prog : Program} {w : World} {M : Model} {A : Around} {E : Value → Shared → Prop} {h : Heap} {g : Array GenState} {d : Drawn} {t : Nat} {os : OsState}
variable {nm q : Str} {C N P x : Addr} {bs bmR : List Value} {hdct : Bool} {sn : List Str} {sub : List Value} {ab : Bool} {col : Option Bool} {dd : Option Addr} {k0 k1 k2 k3 k5 : Option Value} {B newId sa owner : String}
  {mN mP mA : Str → Option Value} {name : Str} {v : Value} {c0 : Value} {dP : Option Addr} {cdP : ClassData} {slP : Array (Option Value)}
/-- a name that neither class of the program's own answers -/
theorem lookup_twoD {y : Option Value} {Q : Option Value → Shared → Prop}
    (hC : h.get? C = some (excClassObj nm q C N bs (.ref P :: bmR) hdct sn sub ab col dd k0 k1 k2 k3 k5 newId)) (hn : h.Ns N mN) (hni : mN name = none)
    (hP : h.get? P = some { cls := c0, dict := dP, data := .cls cdP, slots := slP }) (hnP : h.Ns cdP.ns mP) (hp : mP name = none)
    (hbm : mroOf (.type B) = pure bmR) (hB : typeLookup (.type B) name = pure y) (hq : Q y ⟨h, g, d, t, os⟩) : wpAny M A (typeLookup (.ref C) name) Q E ⟨h, g, d, t, os⟩ := by
  have hrest : lookupAlong bmR name = pure y := by rw [typeLookup_eq, hbm] at hB; exact hB
  rw [typeLookup_eq]
  refine wpAny_bind (wpAny_mroOf_exc hC ?_)
  rw [lookupAlong_cons]
  refine wpAny_bind (wpAny_classOwn_exc hC hn ?_)
  rw [hni]
  dsimp only
  rw [lookupAlong_cons]
  refine wpAny_bind (wpAny_classOwn_cls hP hnP ?_)
  rw [hp]
  dsimp only
  rw [hrest]
  exact wpAny_pure hq

theorem check_saD {o : Obj} {nameV : Value} {Q : Unit → Shared → Prop} (SF : StoreFacts B bmR sa owner)
    (hC : h.get? C = some (excClassObj nm q C N bs (.ref P :: bmR) true sn sub ab col dd k0 k1 k2 k3 k5 newId)) (hx : h.get? x = some o) (hc : o.cls = .ref C) (hq : Q () ⟨h, g, d, t, os⟩) :
    wpAny M A (checkBuiltinCall sa ⟨[.ref x, nameV, v], []⟩) Q E ⟨h, g, d, t, os⟩ := by
  have hcB : (Value.ref C :: .ref P :: bmR).contains (.type owner) = true := by rw [List.contains_cons, List.contains_cons, SF.hasOwner, Bool.or_true, Bool.or_true]
  have ha := SF.args (.ref x) nameV v
  simp only [checkBuiltinCall, SF.kind, SF.split]
  refine wpAny_bind ?_
  · unfold isInstance
    repeat (first | (with_reducible refine wpAny_loadPart_at hx ?_; rw [hc]) | (with_reducible refine wpAny_isSubtype_exc hC ?_; rw [hcB]) | wp_step)
    cases hsig : Manifest.signature? sa with
    | none => exact wpAny_pure hq
    | some sig =>
      simp only [argsOk, hsig] at ha
      have h2 : Bind.checkArgs sa sig ⟨[.ref x, nameV, v], []⟩ = pure () := ha
      show wpAny M A (Bind.checkArgs sa sig ⟨[.ref x, nameV, v], []⟩) Q E _
      rw [h2]; exact wpAny_pure hq

/-- the first attribute of an object that has none: the dict is made -/
theorem store_entryD {tk : Tok} {o : Obj} {Q : Fin → Shared → Prop} (SF : StoreFacts B bmR sa owner)
    (hC : h.get? C = some (excClassObj nm q C N bs (.ref P :: bmR) true sn sub ab col dd k0 k1 k2 k3 k5 newId)) (hn : h.Ns N mN) (hna : mN name = none)
    (hP : h.get? P = some { cls := c0, dict := dP, data := .cls cdP, slots := slP }) (hnP : h.Ns cdP.ns mP) (hp : mP name = none)
    (hB : typeLookup (.type B) name = pure none) (hx : h.get? x = some o) (hc : o.cls = .ref C) (hnc : ∀ c, o.data ≠ .cls c) (hdn : o.dict = none)
    (hq : ∀ h' tk', h'.get? x = some { o with dict := some h.objs.size } → h'.Ns1 h.objs.size (fun y => if y = name then some v else none) → (∀ b ob, b ≠ x → h.get? b = some ob → h'.get? b = some ob) → Q (.done (.ret .none)) ⟨h', g, d, tk', os⟩) :
    wpAny (model prog w) A (Builtin.«object.__setattr__» ⟨[.ref x, .str name tk, v], []⟩) Q E ⟨h, g, d, t, os⟩ := by
  have hpass := SF.passes (.ref x)
  unfold Builtin.«object.__setattr__»
  repeat (first | rw [refuse_eq] | (rw [refuseLoop_ref, refuseLoop_ref, hpass]) | (with_reducible refine wpAny_loadPart_at hx ?_; rw [hc]) | with_reducible refine wpAny_mroOf_exc hC ?_ | (with_reducible refine lookup_twoD hC hn hna hP hnP hp SF.mro hB ?_) | wp_step)
  rw [hdn, if_neg (by simp [typeHasDict])]
  split
  · rename_i hcd
    cases hcd
  split
  · rename_i c hcd
    exact absurd hcd (hnc c)
  have hx₁ : (h.push { cls := .type "dict", data := .dict #[] }).get? x = some o := Heap.get?_push_of_some _ hx
  have hxs : x ≠ h.objs.size := Nat.ne_of_lt (Heap.lt_size hx)
  refine wpAny_bind (wpAny_alloc' ?_)
  refine wpAny_bind (wpAny_update' hx₁ ?_)
  refine wpAny_pure ?_
  have hgd : ((h.push { cls := .type "dict", data := .dict #[] }).update x fun o => { cls := o.cls, dict := some h.objs.size, data := o.data, slots := o.slots }).get? h.objs.size
      = some { cls := .type "dict", data := .dict #[] } :=
    (Heap.get?_update_ne _ _ _ _ hxs.symm).trans (Heap.get?_push_at rfl rfl)
  have hnd : ((h.push { cls := .type "dict", data := .dict #[] }).update x fun o => { cls := o.cls, dict := some h.objs.size, data := o.data, slots := o.slots }).Ns h.objs.size (fun _ => none) :=
    ⟨_, #[], _, hgd, rfl, fun e he => absurd he (by simp), fun _ => rfl⟩
  show wpAny _ _ (storeInDict h.objs.size (.str name tk) name v) _ _ _
  unfold storeInDict newKeyGuard
  refine wpAny_bind (wpAny_pure (wpAny_bind (wpAny_nsSet1 (Heap.Ns1.of_empty hnd) fun h' hn' hs => ?_)))
  obtain ⟨oD, esD, epD, hoD, hdD, hcD⟩ := hn'.count (Within.cons name v Within.nil)
  refine wpAny_bind (wpAny_lookBehind hoD (by rw [hdD]; exact pastItsLine_dict (Nat.le_trans hcD (by rw [List.length_cons, List.length_nil, sizeLine_eq]; omega))) ?_)
  wp_walk
  refine hq h' _ ?_ ?_ fun b ob hbx hb => ?_
  · refine (hs.2 x hxs).trans (Heap.get?_update_self _ hx₁ ?_)
    have hfr := (Heap.get?_some_iff.mp hx).2
    obtain ⟨oc, od, odt, osl⟩ := o
    cases odt <;> first | rfl | exact hfr
  · obtain ⟨o', es, ep, e1, e2, e3, eu, e4⟩ := hn'
    exact ⟨o', es, ep, e1, e2, e3, eu, e4⟩
  · exact (hs.2 b (Nat.ne_of_lt (Heap.lt_size hb))).trans ((Heap.get?_update_ne _ _ _ _ hbx).trans (Heap.get?_push_of_some _ hb))

theorem store_attrD {o : Obj} {Q : Unit → Shared → Prop} (SF : StoreFacts B bmR sa owner)
    (hC : h.get? C = some (excClassObj nm q C N bs (.ref P :: bmR) true sn sub ab col dd k0 k1 k2 k3 k5 newId)) (hn : h.Ns N mN) (hns : mN "__setattr__" = none) (hna : mN name = none)
    (hP : h.get? P = some { cls := c0, dict := dP, data := .cls cdP, slots := slP }) (hnP : h.Ns cdP.ns mP) (hps : mP "__setattr__" = none) (hp : mP name = none)
    (hB : typeLookup (.type B) name = pure none) (hx : h.get? x = some o) (hc : o.cls = .ref C) (hnc : ∀ c, o.data ≠ .cls c) (hdn : o.dict = none)
    (hq : ∀ h' tk', h'.get? x = some { o with dict := some h.objs.size } → h'.Ns1 h.objs.size (fun y => if y = name then some v else none) → (∀ b ob, b ≠ x → h.get? b = some ob → h'.get? b = some ob) → Q () ⟨h', g, d, tk', os⟩) :
    wpAny (model prog w) A (setAttr (.ref x) name v) Q E ⟨h, g, d, t, os⟩ := by
  have f3 := SF.slot.bind (.ref x)
  unfold setAttr callSpecial? specialOf
  repeat (any_goals (first | assumption | (with_reducible refine wpAny_loadPart_at hx ?_; rw [hc]) | (with_reducible refine lookup_twoD hC hn hns hP hnP hps SF.mro SF.slot.lookup ?_) | wp_step))
  refine codeAny_call_builtin SF.slot.plain SF.entry (check_saD SF hC hx hc (store_entryD SF hC hn hna hP hnP hp hB hx hc hnc hdn fun h' tk' e1 e2 e3 => ?_))
  repeat (any_goals (first | assumption | wp_step))
  exact hq h' tk' e1 e2 e3
end
end
end
section
open PySem PySem.W PyProof.Rows
local macro_rules | `(tactic| walk_at "kk") => `(tactic| (exact UseK.mk (by k_asm) (by k_asm) (by k_asm) (by k_asm) (by k_asm) (by first | exact rfl | assumption) (by ((try dsimp only [ktrTop, Around.deeper, Around.in1]); first | omega | decide)) (by ((try dsimp only [ktrTop, Around.deeper, Around.in1]); first | omega | decide))))
local macro_rules | `(tactic| walk_at "om") => `(tactic| (first | with_reducible assumption | ((repeat (rename Ne _ _ => zz; clear zz)); first | ((repeat (rename And _ _ => zz; clear zz)); omega) | omega)))
local macro_rules | `(tactic| walk_at "pl") => `(tactic| (first | assumption | exact PlaneAt.mono (by assumption) (by intro q hq; repeat (first | exact hq | apply List.mem_cons_of_mem))))
local macro_rules | `(tactic| walk_at "rw") => `(tactic| (first | assumption | exact Rows.mono (by assumption) (by intro q hq; repeat (first | exact hq | apply List.mem_cons_of_mem))))
local macro_rules | `(tactic| walk_at "st") => `(tactic| (intro r' n' h' tk' F' N' P'; refine Stop.out ?_))
local macro_rules | `(tactic| walk_at "it") => `(tactic| (intro t' h' tk' F' N'; (try k_sweep); (try dsimp only); (try k_fold)))
local macro_rules | `(tactic| walk_at "me") => `(tactic| first | with_reducible assumption | with_reducible exact List.mem_cons_self | (with_reducible refine List.mem_cons_of_mem _ ?_; walk_at "me"))
local macro_rules | `(tactic| walk_at "md") => `(tactic| first | exact List.mem_cons_self | (refine List.mem_cons_of_mem _ ?_; walk_at "md"))
local macro_rules | `(tactic| walk_at "mm") => `(tactic| first | walk_at "me" | walk_at "md")
local macro_rules | `(tactic| k_mem) => `(tactic| walk_at "mm")
local macro_rules | `(tactic| walk_at "eval Call") => `(tactic| (k_here; (with_reducible show wpAny _ _ (eval (Expr.Call (Expr.Name _ _) _ [] _) _) _ _ _); k_dflt (refine Call_ ?_)))
local macro_rules | `(tactic| walk_at "eval Call Attribute") => `(tactic| (k_here; (with_reducible show wpAny _ _ (eval (Expr.Call (Expr.Attribute _ _ _) _ [] _) _) _ _ _); k_dflt (refine MethodCall_ ?_)))
local macro_rules | `(tactic| walk_at "pyIter ref") => `(tactic| (k_here; refine Stop.out ?_))
local macro_rules | `(tactic| walk_at "UnrPost") => `(tactic| refine Stop.out ?_)
local macro_rules | `(tactic| walk_at "exec For Name Call cons nil") => `(tactic| (k_here; (rename Fr _ _ _ _ => lF'); k_dflt (with_unfolding_all refine' For_invVF lF' ?k1 ?k2 ?_; (case k1 => exact rfl); (case k2 => exact rfl); k_whole)))
local macro_rules | `(tactic| walk_at "subscriptTail") => `(tactic| (k_here; (with_reducible show wpAny _ _ (subscriptTail _ _ (Value.ref _) (Value.int _ _)) _ _ _); k_dflt (first
  | (refine' item_ints ?k1 ?k2 ?k3 ?k4 ?k5 ?k6 ?_ ?k7; (case k1 => k_asm); (case k2 => walk_at "mm"); (case k3 => assumption); (case k4 => walk_at "om"); (case k5 => walk_at "om"); (case k6 => walk_at "om"); (case k7 => with_unfolding_all rfl); k_whole; intro t')
  | (refine' item_rows ?k1 ?k2 ?k3 ?k4 ?k5 ?k6 ?_ ?k7; (case k1 => k_asm); (case k2 => walk_at "mm"); (case k3 => walk_at "rw"); (case k4 => walk_at "om"); (case k5 => walk_at "om"); (case k6 => walk_at "om"); (case k7 => with_unfolding_all rfl); k_whole; intro a' us' k' hm' hI' hl'))))
local macro_rules | `(tactic| k_ne) => `(tactic| (refine neN ?_; (try dsimp only); first | assumption | exact Ne.symm (by assumption) | exact Nat.ne_of_gt (by assumption) | exact Nat.ne_of_lt (by assumption)))
local macro_rules | `(tactic| size_fits) => `(tactic| first | assumption | (simp only [List.size_toArray]; assumption))
local macro_rules | `(tactic| walk_at "eval ListComp") => `(tactic| (k_here; refine Stop.out ?_))
local macro_rules | `(tactic| walk_at "exec Assign cons ListComp") => `(tactic| (k_here; refine Stop.out ?_))
local macro_rules | `(tactic| ktr_unf) => `(tactic| k_dflt (refine' code_defC ?k1 ?k2 ?k3 ?k4 ?k5 ?kA ?kF ?kK ?k6 ?k7 ?k8 ?k9 ?kB ?kD ?_ ?c2 ?c3 ?c4; (case kA => exact rfl); (case kF => exact rfl); (case kK => assumption); (case k1 => k_asm); (case k2 => k_asm); (case k3 => k_asm); (case k4 => k_asm); (case k5 => k_asm); (case k6 => k_is); (case k7 => k_is); (case k8 => ktr_room); (case k9 => exact BindsTo.of_eq rfl); (case kB => exact rfl); (case kD => decide +kernel); (case c2 => exact rfl); (case c3 => exact rfl); (case c4 => exact rfl); k_whole; intro g' L' h' tk' cells' FG' F' N' Y' B' X' T' l1; k_cells Y'; (try simp only [List.cons_append, List.nil_append] at N'); (try dsimp only); (try k_lift B'); (try k_fold)))
local macro_rules | `(tactic| walk_at "CompSrc") => `(tactic| refine Stop.out ?_)
local macro_rules | `(tactic| walk_at "CompEnd") => `(tactic| refine Stop.out ?_)
local macro_rules | `(tactic| walk_at "exec For Name Call cons nil") => `(tactic| (k_here; (rename Fr _ _ _ _ => lF'); k_dflt (first | (with_unfolding_all refine' For_invVF lF' ?k1 ?k2 ?_; (case k1 => exact rfl); (case k2 => exact rfl); k_whole) | (refine' For_turns lF' ?_; k_whole))))
local macro_rules | `(tactic| walk_at "binaryOp Mult int int") => `(tactic| (k_dflt (first | (refine PyProof.Rows.mul_int ?_ (PySem.IntMulOk.of_right (by decide))) | (refine PyProof.Rows.mul_int ?_ (PySem.IntMulOk.of_left (by decide))) | (refine PyProof.Rows.mul_int ?_ (PySem.IntMulOk.of_right (PySem.intBits_le_64 (by walk_at "om") (by walk_at "om")))) | (refine PyProof.Rows.mul_int ?_ (PySem.IntMulOk.of_left (PySem.intBits_le_64 (by walk_at "om") (by walk_at "om")))))))
section
open PySem PySem.W PyProof.Rows
theorem flush_B3 : (if (1 : Nat) = 1 then True else True) := by
  w_top off
  (try walk1)
  all_goals (first | trivial | simp)
end
section
open PySem PySem.W PyProof.Rows
set_option linter.unusedVariables false
section
theorem small1 {b : Int} (h0 : 0 ≤ b) (h1 : b ≤ 1000) : Builtin.Range.small 0 b 1 = true := by
  have hz := rangeSize_nat 0 b
  simp only [Builtin.Range.small, Builtin.Range.rangeFitsLong, hz]
  simp; omega
theorem rsize1 (b : Int) : Builtin.Range.rangeSize 0 b 1 = ((b.toNat : Nat) : Int) := by rw [rangeSize_nat]; simp

def sum1 (f : Nat → Int) : Nat → Int
  | 0 => 0
  | n + 1 => sum1 f n + f n
def lineF (cells : List (List Int)) (wd ht x y a d : Int) (st : Nat) (n : Nat) : Int := sum1 (fun tu => cellF cells (keptF (x * a + (0 + (tu : Int))) wd) (keptF (y * d + (0 + (st : Int))) ht)) n
def totF (cells : List (List Int)) (wd ht x y a d : Int) (n : Nat) : Int := sum1 (fun st => lineF cells wd ht x y a d st a.toNat) n
def meanF (cells : List (List Int)) (wd ht x y a d : Int) : Int := Int.fdiv (totF cells wd ht x y a d d.toNat + biasF x a d) (a * d)

set_option maxRecDepth 100000
set_option maxHeartbeats 8000000

local macro_rules | `(tactic| walk_at "call ref") => `(tactic| (k_here; (with_reducible show wpAny _ _ (call (Value.ref 239) _) _ _ _); k_dflt (refine' Spec.useI2 (bias_spec _ _ _ _ _ _ _ _ ?p0 ?p1 ?p2 ?p3) ?kk ?_; (case kk => walk_at "kk"); (case p0 => walk_at "om"); (case p1 => walk_at "om"); (case p2 => walk_at "om"); (case p3 => walk_at "om"); k_whole); walk_at "it"))
local macro_rules | `(tactic| walk_at "call ref") => `(tactic| (k_here; (with_reducible show wpAny _ _ (call (Value.ref 187) _) _ _ _); k_dflt (refine' Spec.useI2 (at_spec _ _ _ _ _ _ _ _ _ _ _ _ _ ?p0 ?p1 ?p2 ?p3 ?p4 ?p5 ?p6 ?p7) ?kk ?_; (case kk => walk_at "kk"); (case p0 => walk_at "pl"); (case p1 => k_mem); (case p2 => walk_at "rw"); (case p3 => assumption); (case p4 => walk_at "om"); (case p5 => walk_at "om"); (case p6 => walk_at "om"); (case p7 => walk_at "om"); k_whole); walk_at "it"))
theorem mean_spec (w : World) (news : Led) (p r : Addr) (wd ht : Int) (vs : List Value) (kk : Nat) (cells : List (List Int)) (x : Int) (tx : Tok) (y : Int) (ty : Tok) (a : Int) (ta : Tok) (d : Int) (td : Tok)
    (hP : PlaneAt news p r wd ht) (hr : (r, lstO vs kk) ∈ news) (hR : Rows news vs cells wd) (hG : (cells.length : Int) = ht) (hw : 1 ≤ wd) (hh : 1 ≤ ht) (hw2 : wd ≤ 100) (hh2 : ht ≤ 100)
    (ha0 : 1 ≤ a) (ha : a ≤ 100) (hd0 : 1 ≤ d) (hd : d ≤ 100) :
    Spec w 8 232 [.ref p, .int x tx, .int y ty, .int a ta, .int d td] news (IntP news (meanF cells wd ht x y a d)) := by
  intro loose mean mg mb dp un gd cn cs a' ccd cl outer A₀ base h₀ L m s Q E hB hF hX hN hT hk hdp hun hret
  revert hX; k_fill; intro hX
  have hP' := hP
  refine opq ?_
  intro zX zH
  (refine' ea_10_2 (hP') ?_; intro dx h1 h2 h3 k1 k2 k3 t1 t2 n hp1 hp2; (try clear hP'))
  refine zH ?_
  clear zH zX
  have had1 : 1 ≤ a * d := by
    have := Int.mul_le_mul ha0 hd0 (by (walk_at "om")) (by (walk_at "om")); omega
  have had2 : a * d ≤ 10000 := by
    have := Int.mul_le_mul ha hd (by (walk_at "om")) (by (walk_at "om")); omega
  refine wpAny_call ?_
  k_dflt ktr_enter
  k_steps
  unfold Stop
  rename Fr _ _ _ _ => lF'
  rename News _ _ _ _ => lN'
  rename IsRange _ _ _ _ _ _ _ _ => lR'
  refine' range_inv (n := d.toNat) (J := fun i m₁ led => news = led ∧ (∃ t, m₁ (Str.ofString "total") = some (.int (totF cells wd ht x y a d i) t)) ∧ ∀ z, z ≠ Str.ofString "step" → z ≠ Str.ofString "turn" → z ≠ Str.ofString "total" → m₁ z =
      [(Str.ofString "down", Value.int d td), (Str.ofString "across", .int a ta), (Str.ofString "y", .int y ty), (Str.ofString "x", Value.int x tx), (Str.ofString "plane", Value.ref p)].lookup z) (by rfl) (by rfl) lR' (small1 (by (walk_at "om")) (by (walk_at "om"))) (rsize1 d) lF' lN' ?j ?turn ?done
  case j =>
    refine ⟨rfl, ⟨_, rfl⟩, fun z h1 h2 h3 => ?_⟩
    simp only [if_neg h3]
    rfl
  case turn =>
    intro i m₁ n₁ I it ts h tk hi hJ hit off F N
    refine opq ?_
    intro zX zH
    obtain ⟨rfl, ⟨tt, hm⟩, hz⟩ := hJ
    obtain ⟨u1, u2, rfl⟩ := map3 hm hz
    refine zH ?_
    clear zH zX
    clear hm hz lF' lN' lR'
    k_sweep
    (try dsimp only)
    k_steps
    unfold Stop
    rename Fr _ _ _ _ => lF'
    rename News _ _ _ _ => lN'
    rename IsRange _ _ _ _ _ _ _ _ => lR'
    refine' range_inv (n := a.toNat) (J := fun j m₁ led => (I, it) :: news = led ∧ (∃ t, m₁ (Str.ofString "total") = some (.int (totF cells wd ht x y a d i + lineF cells wd ht x y a d i j) t)) ∧ ∀ z, z ≠ Str.ofString "turn" → z ≠ Str.ofString "total" → m₁ z =
        if z = Str.ofString "step" then some (.int (0 + (i : Int)) ts) else [(Str.ofString "down", Value.int d td), (Str.ofString "across", .int a ta), (Str.ofString "y", .int y ty), (Str.ofString "x", Value.int x tx), (Str.ofString "plane", Value.ref p)].lookup z) (by rfl) (by rfl) lR' (small1 (by (walk_at "om")) (by (walk_at "om"))) (rsize1 a) lF' lN' ?j ?turn2 ?done2
    case j =>
      refine ⟨rfl, ⟨tt, by dsimp only [lineF, sum1]; rw [Int.add_zero]; rfl⟩, fun z h1 h2 => ?_⟩
      by_cases h3 : z = Str.ofString "step"
      · subst h3; rfl
      · simp only [if_neg h1, if_neg h2, if_neg h3]
    case turn2 =>
      intro j m₁ n₁ I2 it2 ts2 h2 tk2 hj hJ hit2 off2 F N
      refine opq ?_
      intro zX zH
      obtain ⟨rfl, ⟨tt2, hm⟩, hz⟩ := hJ
      obtain ⟨u3, rfl⟩ := map2 hm hz
      refine zH ?_
      clear zH zX
      clear hm hz lF' lN' lR'
      k_sweep
      (try dsimp only)
      k_steps
      unfold Stop
      rename Fr _ _ _ _ => lF'
      rename News _ _ _ _ => lN'
      refine UnrEnd.intro lF' lN' ((I, it) :: news) (fun q hq => hq) off2 ⟨rfl, ?_, fun z h1 h2 => ?_⟩
      · have hv : totF cells wd ht x y a d i + lineF cells wd ht x y a d i (j + 1) = totF cells wd ht x y a d i + lineF cells wd ht x y a d i j + cellF cells (keptF (x * a + (0 + (j : Int))) wd) (keptF (y * d + (0 + (i : Int))) ht) := by
          rw [Int.add_assoc]; rfl
        rw [hv]
        exact ⟨_, rfl⟩
      · simp only [if_neg h1, if_neg h2]
    case done2 =>
      intro m₁ n₁ h2 tk2 hJ F N
      refine opq ?_
      intro zX zH
      obtain ⟨rfl, ⟨tt2, hm⟩, hz⟩ := hJ
      obtain ⟨u3, rfl⟩ := map2 hm hz
      refine zH ?_
      clear zH zX
      clear hm hz lF' lN' lR'
      k_sweep
      (try dsimp only)
      k_steps
      unfold Stop
      rename Fr _ _ _ _ => lF'
      rename News _ _ _ _ => lN'
      refine UnrEnd.intro lF' lN' news (fun q hq => hq) off ⟨rfl, ⟨_, rfl⟩, fun z h1 h2 h3 => ?_⟩
      simp only [if_neg h1, if_neg h2, if_neg h3]
  case done =>
    intro m₁ n₁ h tk hJ F N
    refine opq ?_
    intro zX zH
    obtain ⟨rfl, ⟨tt, hm⟩, hz⟩ := hJ
    obtain ⟨u1, u2, rfl⟩ := map3 hm hz
    refine zH ?_
    clear zH zX
    clear hm hz lF' lN' lR'
    k_sweep
    (try dsimp only)
    k_steps
    exact hret _ _ _ _ (by assumption) (by assumption) (intP rfl)
end
end
section
open PySem PySem.W PyProof.Rows
theorem flush_B5 : (if (1 : Nat) = 1 then True else True) := by
  w_top off
  (try walk1)
  all_goals (first | trivial | simp)
end
section
open PySem PySem.W PyProof.Rows
set_option linter.unusedVariables false
section
set_option maxRecDepth 100000
set_option maxHeartbeats 8000000

theorem plane_new (w : World) (news : Led) (r : Addr) (wd : Int) (t1 : Tok) (ht : Int) (t2 : Tok) :
    Spec w 4 197 [.int wd t1, .int ht t2, .ref r] news (fun v n' => ∃ x, v = .ref x ∧ PlaneAt n' x r wd ht ∧ ∀ q ∈ news, q ∈ n') := by
  intro loose mean mg mb dp un gd cn cs a' ccd cl outer A₀ base h₀ L m s Q E hB hF hX hN hT hk hdp hun hret
  revert hX; k_fill; intro hX
  k_dflt (refine' call_cls ?k1 ?k2 ?k3 ?k4 ?k5 ?k6 ?_; (case k1 => k_asm); (case k2 => k_asm); (case k3 => k_asm); (case k4 => k_is); (case k5 => k_is); (case k6 => k_is); k_whole)
  intro x dx h F N l1 l2
  have off := ownOff_one l1
  replace l2 := ltN l2
  k_sweep
  k_dflt ktr_enter
  k_steps
  refine hret _ _ _ _ (by assumption) (by assumption) ?_
  exact ⟨x, rfl, ⟨dx, _, _, _, _, _, _, _, _, _, List.mem_cons_self, List.mem_cons_of_mem _ List.mem_cons_self⟩, fun q hq => List.mem_cons_of_mem _ (List.mem_cons_of_mem _ hq)⟩
end
end
section
open PySem PySem.W PyProof.Rows
theorem flush_B4 : (if (1 : Nat) = 1 then True else True) := by
  w_top off
  (try walk1)
  all_goals (first | trivial | simp)
end
section
open PySem PySem.W PyProof.Rows
set_option linter.unusedVariables false
section
set_option maxRecDepth 100000
set_option maxHeartbeats 8000000

local macro_rules | `(tactic| walk_at "call ref") => `(tactic| (k_here; (with_reducible show wpAny _ _ (call (Value.ref 239) _) _ _ _); k_dflt (refine' Spec.useI2 (bias_spec _ _ _ _ _ _ _ _ ?p0 ?p1 ?p2 ?p3) ?kk ?_; (case kk => walk_at "kk"); (case p0 => walk_at "om"); (case p1 => walk_at "om"); (case p2 => walk_at "om"); (case p3 => walk_at "om"); k_whole); walk_at "it"))
local macro_rules | `(tactic| walk_at "call ref") => `(tactic| (k_here; (with_reducible show wpAny _ _ (call (Value.ref 187) _) _ _ _); k_dflt (refine' Spec.useI2 (at_spec _ _ _ _ _ _ _ _ _ _ _ _ _ ?p0 ?p1 ?p2 ?p3 ?p4 ?p5 ?p6 ?p7) ?kk ?_; (case kk => walk_at "kk"); (case p0 => walk_at "pl"); (case p1 => k_mem); (case p2 => walk_at "rw"); (case p3 => assumption); (case p4 => walk_at "om"); (case p5 => walk_at "om"); (case p6 => walk_at "om"); (case p7 => walk_at "om"); k_whole); walk_at "it"))
local macro_rules | `(tactic| walk_at "call ref") => `(tactic| (k_here; (with_reducible show wpAny _ _ (call (Value.ref 232) _) _ _ _); k_dflt (refine' Spec.useI2 (mean_spec _ _ _ _ _ _ _ _ _ _ _ _ _ _ _ _ _ ?p0 ?p1 ?p2 ?p3 ?p4 ?p5 ?p6 ?p7 ?p8 ?p9 ?p10 ?p11) ?kk ?_; (case kk => walk_at "kk"); (case p0 => walk_at "pl"); (case p1 => k_mem); (case p2 => walk_at "rw"); (case p3 => assumption); (case p4 => walk_at "om"); (case p5 => walk_at "om"); (case p6 => walk_at "om"); (case p7 => walk_at "om"); (case p8 => walk_at "om"); (case p9 => walk_at "om"); (case p10 => walk_at "om"); (case p11 => walk_at "om"); k_whole); walk_at "it"))
local macro_rules | `(tactic| walk_at "call ref") => `(tactic| (k_here; (with_reducible show wpAny _ _ (call (Value.ref 197) _) _ _ _); k_dflt (refine' Spec.use2 (plane_new _ _ _ _ _ _ _ ) ?kk ?_; (case kk => walk_at "kk");  k_whole); walk_at "st"))
def PlaneMade (news : Led) (cells : List (List Int)) (wd ht : Int) (v : Value) (n' : Led) : Prop :=
  ∃ (p r : Addr) (vs : List Value) (k : Nat), v = .ref p ∧ PlaneAt n' p r wd ht ∧ (r, lstO vs k) ∈ n' ∧ Rows n' vs cells wd ∧ ∀ q ∈ news, q ∈ n'
def cutF (cells : List (List Int)) (wd ht x y a d : Int) : List (List Int) :=
  (List.range d.toNat).map fun (st : Nat) => (List.range a.toNat).map fun (tu : Nat) => cellF cells (keptF (x + (0 + (tu : Int))) wd) (keptF (y + (0 + (st : Int))) ht)
theorem cut_spec (w : World) (news : Led) (p r : Addr) (wd ht : Int) (vs : List Value) (kk : Nat) (cells : List (List Int)) (x : Int) (tx : Tok) (y : Int) (ty : Tok) (a : Int) (ta : Tok) (d : Int) (td : Tok)
    (hP : PlaneAt news p r wd ht) (hr : (r, lstO vs kk) ∈ news) (hR : Rows news vs cells wd) (hG : (cells.length : Int) = ht) (hw : 1 ≤ wd) (hh : 1 ≤ ht) (hw2 : wd ≤ 100) (hh2 : ht ≤ 100)
    (ha0 : 1 ≤ a) (ha : a ≤ 100) (hd0 : 1 ≤ d) (hd : d ≤ 100) :
    Spec w 12 213 [.ref p, .int x tx, .int y ty, .int a ta, .int d td] news (PlaneMade news (cutF cells wd ht x y a d) a d) := by
  intro loose mean mg mb dp un gd cn cs a' ccd cl outer A₀ base h₀ L m s Q E hB hF hX hN hT hk hdp hun hret
  revert hX; k_fill; intro hX
  have hP' := hP
  refine opq ?_
  intro zX zH
  (refine' ea_10_2 (hP') ?_; intro dx h1 h2 h3 k1 k2 k3 t1 t2 n hp1 hp2; (try clear hP'))
  refine zH ?_
  clear zH zX
  refine wpAny_call ?_
  ktr_unf
  rename_i g' L' h' tk' FG F B X T l1 oS oY oX oP dS dY dX dP N
  replace dP : oP.data = .cell (some (.ref p)) := dP
  replace dX : oX.data = .cell (some (.int x tx)) := dX
  replace dY : oY.data = .cell (some (.int y ty)) := dY
  replace dS : oS.data = .cell none := dS
  k_steps
  unfold Stop
  rename_i R h6 hl h7 F7 N7 h8 tk8 t8 u8 v8 lR' lF' lN' keep8
  refine opq ?_
  intro zX zH
  (refine' ea_0_5 (hl) ?_; intro q1 q2 q3 q4 q5; (try clear hl))
  refine zH ?_
  clear zH zX
  have off0 : OwnOff news [R, L' + 1 + 1 + 1 + 1, L' + 1 + 1 + 1, L' + 1 + 1, L' + 1] := ownOff_of l1 _ (by
    intro b hb
    simp only [List.mem_cons, List.not_mem_nil, or_false] at hb
    rcases hb with rfl | rfl | rfl | rfl | rfl <;> first | exact lt_a1 | exact lt_a2 | exact lt_a3 | exact lt_a4 | with_reducible assumption | exact Ne.symm (by with_reducible assumption) | (walk_at "om") | omega)
  refine' range_invTm (n := d.toNat) (J := fun i led => ∃ oS' us k rest, led = (R, W.listOf us k) :: (L' + 1 + 1 + 1 + 1, oS') :: (L' + 1 + 1 + 1, oY) :: (L' + 1 + 1, oX) :: (L' + 1, oP) :: rest ∧ OwnOff rest [R, L' + 1 + 1 + 1 + 1, L' + 1 + 1 + 1, L' + 1 + 1, L' + 1] ∧ (∀ q ∈ news, q ∈ rest) ∧
    us.size = i ∧ (∃ v, oS'.data = .cell v) ∧ Rows rest us.toList ((List.range i).map fun (st : Nat) => (List.range a.toNat).map fun (tu : Nat) => cellF cells (keptF (x + (0 + (tu : Int))) wd) (keptF (y + (0 + (st : Int))) ht)) a) (by rfl) (by rfl) lR' (small1 (by (walk_at "om")) (by (walk_at "om"))) (rsize1 d) lF' lN' ?j ?turn ?done
  case j =>
    exact ⟨oS, _, _, news, rfl, off0, fun q hq => hq, rfl, ⟨_, dS⟩, rfl, fun i c e => by simp at e⟩
  case turn =>
    intro i led I it ts h tk hi hJ hit off F N
    refine opq ?_
    intro zX zH
    (refine' ea_4_6 (hJ) ?_; intro oS' us k rest zr4 off1 hsub hus zr8 hRr; obtain rfl := zr4; obtain ⟨vS, dS'⟩ := zr8; (try clear hJ))
    refine zH ?_
    clear zH zX
    have offI := off1_of off
    simp only [LCg.Off1] at offI
    refine opq ?_
    intro zX zH
    (refine' ea_0_6 (offI) ?_; intro f1 f2 f3 f4 f5 f6; (try clear offI))
    refine zH ?_
    clear zH zX
    have hp1r := hsub _ hp1
    have hp2r := hsub _ hp2
    have hrr := hsub _ hr
    have hPr := hP.mono hsub
    have hRr0 := hR.mono hsub
    clear N7 F7 keep8 lR'
    k_sweep
    (try dsimp only)
    k_steps
    unfold Stop
    rename_i h9 oS2 F9 N9 d9
    refine LCg.ListComp_U (F₀ := F9) (by with_unfolding_all rfl) (by decide) (by rfl) (by decide) (by rfl) ?_
    k_steps
    unfold Stop
    rename Fr _ _ _ _ => lF'
    rename News _ _ _ _ => lN'
    rename IsRange _ _ _ _ _ _ _ _ => lR'
    refine LCg.CompSrc.range (n := a.toNat) rfl lF' lN' lR' (small1 (by (walk_at "om")) (by (walk_at "om"))) (rsize1 a) (Nat.le_trans (by (walk_at "om") : a.toNat ≤ 100) (by decide)) fun gg => ?_
    refine compRest_inv (J := fun j ys n2 => (I, it) :: (R, W.listOf us k) :: (L' + 1 + 1 + 1 + 1, oS2) :: (L' + 1 + 1 + 1, oY) :: (L' + 1 + 1, oX) :: (L' + 1, oP) :: rest = n2 ∧ IntsAre ys ((List.range j).map fun (tu : Nat) => cellF cells (keptF (x + (0 + (tu : Int))) wd) (keptF (y + (0 + (i : Int))) ht))) ⟨rfl, .nil⟩ trivial ?turn2 ?fin2
    case turn2 =>
      intro j ys n2 v I2 oI C oC D m2 h2 tk2 E' hj hys hJ hS hPv hC hx2 F N offs hne
      refine opq ?_
      intro zX zH
      obtain ⟨t2, rfl⟩ := hPv
      obtain ⟨rfl, hI⟩ := hJ
      refine zH ?_
      clear zH zX
      clear lF' lN' lR'
      k_sweep
      (try dsimp only)
      k_steps
      unfold Stop
      rename Fr _ _ _ _ => lF'
      rename News _ _ _ _ => lN'
      exact LCg.CompEnd.intro lF' lN' _ (fun q hq => hq) offs hS ⟨rfl, ints_range (f := fun (tu : Nat) => cellF cells (keptF (x + (0 + (tu : Int))) wd) (keptF (y + (0 + (i : Int))) ht)) hI rfl _⟩
    case fin2 =>
      intro ys n2 hys hJ
      refine opq ?_
      intro zX zH
      obtain ⟨rfl, hI⟩ := hJ
      refine zH ?_
      clear zH zX
      unfold LCg.FinE
      intro D h2 tk2 F N o1
      clear lF' lN' lR'
      k_sweep
      simp only [LCg.Off1] at o1
      refine opq ?_
      intro zX zH
      (refine' ea_0_7 (o1) ?_; intro e1 e2 e3 e4 e5 e6 e7; (try clear o1))
      refine zH ?_
      clear zH zX
      have hsz : us.size ≤ sizeLine := Nat.le_trans (by (walk_at "om") : us.size ≤ 100) (by decide)
      k_steps
      unfold Stop
      rename Fr _ _ _ _ => lF'
      rename News _ _ _ _ => lN'
      refine UnrEnd.intro lF' lN' ((R, W.listOf (us.push (.ref D)) (k + 1)) :: (L' + 1 + 1 + 1 + 1, oS2) :: (L' + 1 + 1 + 1, oY) :: (L' + 1 + 1, oX) :: (L' + 1, oP) :: (D, LCg.lst ys) :: rest) ?sub (off1_mem ⟨f1, f2, f3, f4, f5, e1.symm, f6⟩)
        ⟨rfl, oS2, _, _, (D, LCg.lst ys) :: rest, rfl, ownOff_cons off1 ?dd, fun q hq => List.mem_cons_of_mem _ (hsub q hq), by simp [hus], ⟨_, d9⟩, ?rows⟩
      case sub =>
        repeat (refine sub_cons ?_ ?_; focus k_mem)
        repeat (first | exact sub_nil | exact sub_id | refine sub_tl ?_)
      case dd =>
        intro b hb
        simp only [List.mem_cons, List.not_mem_nil, or_false] at hb
        rcases hb with rfl | rfl | rfl | rfl | rfl <;> first | exact lt_a1 | exact lt_a2 | exact lt_a3 | exact lt_a4 | with_reducible assumption | exact Ne.symm (by with_reducible assumption) | (walk_at "om") | omega
      case rows =>
        rw [List.range_succ, List.map_append, List.map_cons, List.map_nil]
        refine Rows.snoc hRr hI ?_
        simp; (walk_at "om")
  case done =>
    intro led h tk hJ F N
    refine opq ?_
    intro zX zH
    (refine' ea_4_6 (hJ) ?_; intro oS' us k rest zr4 off1 hsub hus zr8 hRr; obtain rfl := zr4; obtain ⟨vS, dS'⟩ := zr8; (try clear hJ))
    refine zH ?_
    clear zH zX
    clear N7 F7 keep8 lR'
    k_sweep
    (try dsimp only)
    k_steps
    unfold Stop
    rename_i v9 n9 h9 tk9 F9 N9 P9
    refine opq ?_
    intro zX zH
    (refine' ea_1_3 (P9) ?_; intro pl zr1 hPl hs9; obtain rfl := zr1; (try clear P9))
    refine zH ?_
    clear zH zX
    k_steps
    refine hret _ _ _ _ (by assumption) (by assumption) ?_
    refine ⟨pl, R, us.toList, k, rfl, hPl, hs9 _ (List.mem_cons_self), hRr.mono fun q hq => hs9 _ ?_, fun q hq => hs9 _ ?_⟩
    · simp only [List.mem_cons, hq, or_true]
    · simp only [List.mem_cons, hsub _ hq, or_true]
end
end
section
open PySem PySem.W PyProof.Rows
theorem flush_B6 : (if (1 : Nat) = 1 then True else True) := by
  w_top off
  (try walk1)
  all_goals (first | trivial | simp)
end
section
open PySem PySem.W PyProof.Rows
set_option linter.unusedVariables false
section
theorem partedF_bd (s m : Int) (hs : 1 ≤ s) (hs2 : s ≤ 100) (hm : 1 ≤ m) (hm2 : m ≤ 100) : 1 ≤ partedF s 1 m ∧ partedF s 1 m ≤ 100 := by
  unfold partedF
  rw [Int.fdiv_eq_ediv_of_nonneg _ (by ((repeat (rename Ne _ _ => zz; clear zz)); omega)), Int.mul_one]
  constructor
  · rw [Int.le_ediv_iff_mul_le (by ((repeat (rename Ne _ _ => zz; clear zz)); omega))]; omega
  · have : (s + m - 1) / m < 101 := by
      rw [Int.ediv_lt_iff_lt_mul (by ((repeat (rename Ne _ _ => zz; clear zz)); omega))]
      have : 100 * m ≥ 100 := by ((repeat (rename Ne _ _ => zz; clear zz)); omega)
      have : s + m - 1 < 101 * m := by ((repeat (rename Ne _ _ => zz; clear zz)); omega)
      exact this
    omega
def shrF (cells : List (List Int)) (wd ht a d : Int) : List (List Int) :=
  if a = 1 ∧ d = 1 then cutF cells wd ht 0 0 (partedF wd 1 a) (partedF ht 1 d)
  else (List.range (partedF ht 1 d).toNat).map fun (st : Nat) => (List.range (partedF wd 1 a).toNat).map fun (tu : Nat) => meanF cells wd ht (0 + (tu : Int)) (0 + (st : Int)) a d
set_option maxRecDepth 100000
set_option maxHeartbeats 8000000

local macro_rules | `(tactic| walk_at "call ref") => `(tactic| (k_here; (with_reducible show wpAny _ _ (call (Value.ref 220) _) _ _ _); k_dflt (refine' Spec.useI2 (parted_spec _ _ _ _ _ _ _ _ ?p0 ?p1 ?p2 ?p3 ?p4 ?p5) ?kk ?_; (case kk => walk_at "kk"); (case p0 => walk_at "om"); (case p1 => walk_at "om"); (case p2 => walk_at "om"); (case p3 => walk_at "om"); (case p4 => walk_at "om"); (case p5 => walk_at "om"); k_whole); walk_at "it"))
local macro_rules | `(tactic| walk_at "call ref") => `(tactic| (k_here; (with_reducible show wpAny _ _ (call (Value.ref 232) _) _ _ _); k_dflt (refine' Spec.useI2 (mean_spec _ _ _ _ _ _ _ _ _ _ _ _ _ _ _ _ _ ?p0 ?p1 ?p2 ?p3 ?p4 ?p5 ?p6 ?p7 ?p8 ?p9 ?p10 ?p11) ?kk ?_; (case kk => walk_at "kk"); (case p0 => walk_at "pl"); (case p1 => k_mem); (case p2 => walk_at "rw"); (case p3 => assumption); (case p4 => walk_at "om"); (case p5 => walk_at "om"); (case p6 => walk_at "om"); (case p7 => walk_at "om"); (case p8 => walk_at "om"); (case p9 => walk_at "om"); (case p10 => walk_at "om"); (case p11 => walk_at "om"); k_whole); walk_at "it"))
local macro_rules | `(tactic| walk_at "call ref") => `(tactic| (k_here; (with_reducible show wpAny _ _ (call (Value.ref 197) _) _ _ _); k_dflt (refine' Spec.use2 (plane_new _ _ _ _ _ _ _ ) ?kk ?_; (case kk => walk_at "kk");  k_whole); walk_at "st"))
local macro_rules | `(tactic| walk_at "call ref") => `(tactic| (k_here; (with_reducible show wpAny _ _ (call (Value.ref 213) _) _ _ _); k_dflt (refine' Spec.use2 (cut_spec _ _ _ _ _ _ _ _ _ _ _ _ _ _ _ _ _ ?p0 ?p1 ?p2 ?p3 ?p4 ?p5 ?p6 ?p7 ?p8 ?p9 ?p10 ?p11) ?kk ?_; (case kk => walk_at "kk"); (case p0 => walk_at "pl"); (case p1 => k_mem); (case p2 => walk_at "rw"); (case p3 => assumption); (case p4 => walk_at "om"); (case p5 => walk_at "om"); (case p6 => walk_at "om"); (case p7 => walk_at "om"); (case p8 => walk_at "om"); (case p9 => walk_at "om"); (case p10 => walk_at "om"); (case p11 => walk_at "om"); k_whole); walk_at "st"))
def Mark : Prop := True
def TestEnd (b : Bool) (s : Shared) (c : Bool) (s' : Shared) : Prop := c = b ∧ ∃ tk, s' = { s with toks := tk }
theorem pick_test {M : Model} {A : Around} {t : Sem Bool} {b : Bool} {Q : Bool → Shared → Prop} {E : Value → Shared → Prop} {s : Shared} (h : wpAny M A t (TestEnd b s) E s) (k : ∀ tk, Q b { s with toks := tk }) : wpAny M A t Q E s :=
  wpAny_mono h (fun c s' hc => by obtain ⟨rfl, tk, rfl⟩ := hc; exact k tk) fun _ _ h => h
local macro_rules | `(tactic| walk_at "isTrue BoolOp") => `(tactic| (k_here; (rename Mark => mk0); refine Stop.out ?_))
theorem shrunk_spec (w : World) (news : Led) (p r : Addr) (wd ht : Int) (vs : List Value) (kk : Nat) (cells : List (List Int)) (a : Int) (ta : Tok) (d : Int) (td : Tok)
    (hP : PlaneAt news p r wd ht) (hr : (r, lstO vs kk) ∈ news) (hR : Rows news vs cells wd) (hG : (cells.length : Int) = ht) (hw : 1 ≤ wd) (hh : 1 ≤ ht) (hw2 : wd ≤ 100) (hh2 : ht ≤ 100)
    (ha0 : 1 ≤ a) (ha : a ≤ 100) (hd0 : 1 ≤ d) (hd : d ≤ 100) :
    Spec w 16 225 [.ref p, .int a ta, .int d td] news (PlaneMade news (shrF cells wd ht a d) (partedF wd 1 a) (partedF ht 1 d)) := by
  intro loose mean mg mb dp un gd cn cs a' ccd cl outer A₀ base h₀ L m s Q E hB hF hX hN hT hk hdp hun hret
  revert hX; k_fill; intro hX
  have hP' := hP
  refine opq ?_
  intro zX zH
  (refine' ea_10_2 (hP') ?_; intro dx h1 h2 h3 k1 k2 k3 t1 t2 n hp1 hp2; (try clear hP'))
  refine zH ?_
  clear zH zX
  have b1 := partedF_bd wd a hw hw2 ha0 ha
  have b2 := partedF_bd ht d hh hh2 hd0 hd
  refine wpAny_call ?_
  ktr_unf
  rename_i g' L' h' tk' FG F B X T l1 oY oD oA oP dY dD dA dP N
  replace dP : oP.data = .cell (some (.ref p)) := dP
  replace dA : oA.data = .cell (some (.int a ta)) := dA
  replace dD : oD.data = .cell (some (.int d td)) := dD
  replace dY : oY.data = .cell none := dY
  by_cases hc : a = 1 ∧ d = 1
  · refine opq ?_
    intro zX zH
    obtain ⟨hc1, hc2⟩ := hc
    refine zH ?_
    clear zH zX
    k_steps
    all_goals (try (exfalso; first | contradiction | omega))
    unfold Stop
    rename_i v9 n9 h9 tk9 F9 N9 P9
    refine opq ?_
    intro zX zH
    (refine' ea_4_5 (P9) ?_; intro pl rr vv k9 zr4 hPl hrl hRl hs9; obtain rfl := zr4; (try clear P9))
    refine zH ?_
    clear zH zX
    k_steps
    refine hret _ _ _ _ (by assumption) (by assumption) ?_
    refine ⟨pl, rr, vv, k9, rfl, hPl, hrl, ?_, fun q hq => hs9 _ ?_⟩
    · rw [show shrF cells wd ht a d = cutF cells wd ht 0 0 (partedF wd 1 a) (partedF ht 1 d) from if_pos ⟨hc1, hc2⟩]
      exact hRl
    · simp only [List.mem_cons, hq, or_true]
  · have hneg : shrF cells wd ht a d = (List.range (partedF ht 1 d).toNat).map fun (st : Nat) => (List.range (partedF wd 1 a).toNat).map fun (tu : Nat) => meanF cells wd ht (0 + (tu : Int)) (0 + (st : Int)) a d := if_neg hc
    have mk0 : Mark := trivial
    k_steps
    unfold Stop
    (rename Mark => mk0; clear mk0)
    refine pick_test (b := false) ?test fun tkb => ?_
    case test =>
      k_steps
      all_goals (first | exact ⟨rfl, _, rfl⟩ | (exfalso; first | contradiction | omega))
    have mk0 : Mark := trivial
    k_steps
    unfold Stop
    (rename Mark => mk0; clear mk0)
    refine pick_test (b := false) ?test2 fun tkc => ?_
    case test2 =>
      k_steps
      all_goals (first | exact ⟨rfl, _, rfl⟩ | (exfalso; first | contradiction | omega))
    k_steps
    all_goals (
      unfold Stop
      rename_i R h6 hl h7 F7 N7 h8 tk8 t8 u8 v8 lR' lF' lN0 keep8
      refine opq ?_
      intro zX zH
      (refine' ea_0_6 (hl) ?_; intro q0 q1 q2 q3 q4 q5; (try clear hl))
      refine zH ?_
      clear zH zX
      have lN' := news_sub lN0 (news' := (R, W.listOf #[] 0) :: (L' + 1 + 1 + 1 + 1, oY) :: (L' + 1 + 1 + 1, oD) :: (L' + 1 + 1, oA) :: (L' + 1, oP) :: news) (by
        repeat (refine sub_cons ?_ ?_; focus k_mem)
        repeat (first | exact sub_nil | exact sub_id | refine sub_tl ?_))
      clear lN0
      have off0 : OwnOff news [R, L' + 1 + 1 + 1 + 1, L' + 1 + 1 + 1, L' + 1 + 1, L' + 1] := ownOff_of l1 _ (by
        intro b hb
        simp only [List.mem_cons, List.not_mem_nil, or_false] at hb
        rcases hb with rfl | rfl | rfl | rfl | rfl <;> first | exact lt_a1 | exact lt_a2 | exact lt_a3 | exact lt_a4 | with_reducible assumption | exact Ne.symm (by with_reducible assumption) | (walk_at "om") | omega)
      refine' range_invTm (n := (partedF ht 1 d).toNat) (J := fun i led => ∃ oS' us k rest, led = (R, W.listOf us k) :: (L' + 1 + 1 + 1 + 1, oS') :: (L' + 1 + 1 + 1, oD) :: (L' + 1 + 1, oA) :: (L' + 1, oP) :: rest ∧ OwnOff rest [R, L' + 1 + 1 + 1 + 1, L' + 1 + 1 + 1, L' + 1 + 1, L' + 1] ∧ (∀ q ∈ news, q ∈ rest) ∧
        us.size = i ∧ (∃ v, oS'.data = .cell v) ∧ Rows rest us.toList ((List.range i).map fun (st : Nat) => (List.range (partedF wd 1 a).toNat).map fun (tu : Nat) => meanF cells wd ht (0 + (tu : Int)) (0 + (st : Int)) a d) (partedF wd 1 a)) (by rfl) (by rfl) lR' (small1 (by (walk_at "om")) (by (walk_at "om"))) (rsize1 (partedF ht 1 d)) lF' lN' ?j ?turn ?done
      case j =>
        exact ⟨oY, _, _, news, rfl, off0, fun q hq => hq, rfl, ⟨_, dY⟩, rfl, fun i c e => by simp at e⟩
      case turn =>
        intro i led I it ts h tk hi hJ hit off F N
        refine opq ?_
        intro zX zH
        (refine' ea_4_6 (hJ) ?_; intro oS' us k rest zr4 off1 hsub hus zr8 hRr; obtain rfl := zr4; obtain ⟨vS, dS'⟩ := zr8; (try clear hJ))
        refine zH ?_
        clear zH zX
        have offI := off1_of off
        simp only [LCg.Off1] at offI
        refine opq ?_
        intro zX zH
        (refine' ea_0_6 (offI) ?_; intro f1 f2 f3 f4 f5 f6; (try clear offI))
        refine zH ?_
        clear zH zX
        have hp1r := hsub _ hp1
        have hp2r := hsub _ hp2
        have hrr := hsub _ hr
        have hPr := hP.mono hsub
        have hRr0 := hR.mono hsub
        clear N7 F7 keep8 lR'
        k_sweep
        (try dsimp only)
        k_steps
        unfold Stop
        rename_i h9 oS2 F9 N9 d9
        refine LCg.ListComp_U (F₀ := F9) (by with_unfolding_all rfl) (by decide) (by rfl) (by decide) (by rfl) ?_
        k_steps
        unfold Stop
        rename Fr _ _ _ _ => lF'
        rename News _ _ _ _ => lN'
        rename IsRange _ _ _ _ _ _ _ _ => lR'
        refine LCg.CompSrc.range (n := (partedF wd 1 a).toNat) rfl lF' lN' lR' (small1 (by (walk_at "om")) (by (walk_at "om"))) (rsize1 (partedF wd 1 a)) (Nat.le_trans (by (walk_at "om") : (partedF wd 1 a).toNat ≤ 100) (by decide)) fun gg => ?_
        refine compRest_inv (J := fun j ys n2 => (I, it) :: (R, W.listOf us k) :: (L' + 1 + 1 + 1 + 1, oS2) :: (L' + 1 + 1 + 1, oD) :: (L' + 1 + 1, oA) :: (L' + 1, oP) :: rest = n2 ∧ IntsAre ys ((List.range j).map fun (tu : Nat) => meanF cells wd ht (0 + (tu : Int)) (0 + (i : Int)) a d)) ⟨rfl, .nil⟩ trivial ?turn2 ?fin2
        case turn2 =>
          intro j ys n2 v I2 oI C oC D m2 h2 tk2 E' hj hys hJ hS hPv hC hx2 F N offs hne
          refine opq ?_
          intro zX zH
          obtain ⟨t2, rfl⟩ := hPv
          obtain ⟨rfl, hI⟩ := hJ
          refine zH ?_
          clear zH zX
          clear lF' lN' lR'
          k_sweep
          (try dsimp only)
          k_steps
          unfold Stop
          rename Fr _ _ _ _ => lF'
          rename News _ _ _ _ => lN'
          exact LCg.CompEnd.intro lF' lN' _ (fun q hq => hq) offs hS ⟨rfl, ints_range (f := fun (tu : Nat) => meanF cells wd ht (0 + (tu : Int)) (0 + (i : Int)) a d) hI rfl _⟩
        case fin2 =>
          intro ys n2 hys hJ
          refine opq ?_
          intro zX zH
          obtain ⟨rfl, hI⟩ := hJ
          refine zH ?_
          clear zH zX
          unfold LCg.FinE
          intro D h2 tk2 F N o1
          clear lF' lN' lR'
          k_sweep
          simp only [LCg.Off1] at o1
          refine opq ?_
          intro zX zH
          (refine' ea_0_7 (o1) ?_; intro e1 e2 e3 e4 e5 e6 e7; (try clear o1))
          refine zH ?_
          clear zH zX
          have hsz : us.size ≤ sizeLine := Nat.le_trans (by (walk_at "om") : us.size ≤ 100) (by decide)
          k_steps
          unfold Stop
          rename Fr _ _ _ _ => lF'
          rename News _ _ _ _ => lN'
          refine UnrEnd.intro lF' lN' ((R, W.listOf (us.push (.ref D)) (k + 1)) :: (L' + 1 + 1 + 1 + 1, oS2) :: (L' + 1 + 1 + 1, oD) :: (L' + 1 + 1, oA) :: (L' + 1, oP) :: (D, LCg.lst ys) :: rest) ?sub (off1_mem ⟨f1, f2, f3, f4, f5, e1.symm, f6⟩)
            ⟨rfl, oS2, _, _, (D, LCg.lst ys) :: rest, rfl, ownOff_cons off1 ?dd, fun q hq => List.mem_cons_of_mem _ (hsub q hq), by simp [hus], ⟨_, d9⟩, ?rows⟩
          case sub =>
            repeat (refine sub_cons ?_ ?_; focus k_mem)
            repeat (first | exact sub_nil | exact sub_id | refine sub_tl ?_)
          case dd =>
            intro b hb
            simp only [List.mem_cons, List.not_mem_nil, or_false] at hb
            rcases hb with rfl | rfl | rfl | rfl | rfl <;> first | exact lt_a1 | exact lt_a2 | exact lt_a3 | exact lt_a4 | with_reducible assumption | exact Ne.symm (by with_reducible assumption) | (walk_at "om") | omega
          case rows =>
            rw [List.range_succ, List.map_append, List.map_cons, List.map_nil]
            refine Rows.snoc hRr hI ?_
            simp; (walk_at "om")
      case done =>
        intro led h tk hJ F N
        refine opq ?_
        intro zX zH
        (refine' ea_4_6 (hJ) ?_; intro oS' us k rest zr4 off1 hsub hus zr8 hRr; obtain rfl := zr4; obtain ⟨vS, dS'⟩ := zr8; (try clear hJ))
        refine zH ?_
        clear zH zX
        clear N7 F7 keep8 lR'
        k_sweep
        (try dsimp only)
        k_steps
        unfold Stop
        rename_i v9 n9 h9 tk9 F9 N9 P9
        refine opq ?_
        intro zX zH
        (refine' ea_1_3 (P9) ?_; intro pl zr1 hPl hs9; obtain rfl := zr1; (try clear P9))
        refine zH ?_
        clear zH zX
        k_steps
        refine hret _ _ _ _ (by assumption) (by assumption) ?_
        refine ⟨pl, R, us.toList, k, rfl, hPl, hs9 _ (List.mem_cons_self), ?_, fun q hq => hs9 _ ?_⟩
        · rw [hneg]
          exact hRr.mono fun q hq => hs9 _ (by simp only [List.mem_cons, hq, or_true])
        · simp only [List.mem_cons, hsub _ hq, or_true])
end
end
section
open PySem PySem.W PyProof.Rows
theorem flush_B7 : (if (1 : Nat) = 1 then True else True) := by
  w_top off
  (try walk1)
  all_goals (first | trivial | simp)
end
section
open PySem PySem.W PyProof.Rows
set_option linter.unusedVariables false
section
def repF (cells : List (List Int)) (wd ht a d wo ho : Int) : List (List Int) :=
  (List.range ho.toNat).map fun (st : Nat) => (List.range wo.toNat).map fun (tu : Nat) => cellF cells (keptF (Int.fdiv ((0 + (tu : Int)) * 1) a) wd) (keptF (Int.fdiv ((0 + (st : Int)) * 1) d) ht)
set_option maxRecDepth 100000
set_option maxHeartbeats 8000000

local macro_rules | `(tactic| walk_at "call ref") => `(tactic| (k_here; (with_reducible show wpAny _ _ (call (Value.ref 187) _) _ _ _); k_dflt (refine' Spec.useI2 (at_spec _ _ _ _ _ _ _ _ _ _ _ _ _ ?p0 ?p1 ?p2 ?p3 ?p4 ?p5 ?p6 ?p7) ?kk ?_; (case kk => walk_at "kk"); (case p0 => walk_at "pl"); (case p1 => k_mem); (case p2 => walk_at "rw"); (case p3 => assumption); (case p4 => walk_at "om"); (case p5 => walk_at "om"); (case p6 => walk_at "om"); (case p7 => walk_at "om"); k_whole); walk_at "it"))
local macro_rules | `(tactic| walk_at "call ref") => `(tactic| (k_here; (with_reducible show wpAny _ _ (call (Value.ref 197) _) _ _ _); k_dflt (refine' Spec.use2 (plane_new _ _ _ _ _ _ _ ) ?kk ?_; (case kk => walk_at "kk");  k_whole); walk_at "st"))
theorem repeated_spec (w : World) (news : Led) (p r : Addr) (wd ht : Int) (vs : List Value) (kk : Nat) (cells : List (List Int)) (a : Int) (ta : Tok) (d : Int) (td : Tok) (wo : Int) (tw : Tok) (ho : Int) (th : Tok) (to1 to2 : Tok)
    (hP : PlaneAt news p r wd ht) (hr : (r, lstO vs kk) ∈ news) (hR : Rows news vs cells wd) (hG : (cells.length : Int) = ht) (hw : 1 ≤ wd) (hh : 1 ≤ ht) (hw2 : wd ≤ 100) (hh2 : ht ≤ 100)
    (ha0 : 1 ≤ a) (ha : a ≤ 100) (hd0 : 1 ≤ d) (hd : d ≤ 100) (hwo0 : 1 ≤ wo) (hwo : wo ≤ 100) (hho0 : 1 ≤ ho) (hho : ho ≤ 100) :
    Spec w 12 251 [.ref p, .int a ta, .int 1 to1, .int d td, .int 1 to2, .int wo tw, .int ho th] news (PlaneMade news (repF cells wd ht a d wo ho) wo ho) := by
  intro loose mean mg mb dp un gd cn cs a' ccd cl outer A₀ base h₀ L m s Q E hB hF hX hN hT hk hdp hun hret
  revert hX; k_fill; intro hX
  have hP' := hP
  refine opq ?_
  intro zX zH
  (refine' ea_10_2 (hP') ?_; intro dx h1 h2 h3 k1 k2 k3 t1 t2 n hp1 hp2; (try clear hP'))
  refine zH ?_
  clear zH zX
  refine wpAny_call ?_
  ktr_unf
  rename_i g' L' h' tk' FG F B X T l1 oL oO oA oP dL dO dA dP N
  replace dP : oP.data = .cell (some (.ref p)) := dP
  replace dA : oA.data = .cell (some (.int a ta)) := dA
  replace dO : oO.data = .cell (some (.int 1 to1)) := dO
  replace dL : oL.data = .cell none := dL
  k_steps
  unfold Stop
  refine LCg.Assign_ListComp_U (F₀ := F) (by rfl) (by with_unfolding_all rfl) (by with_unfolding_all rfl) (by decide) (by rfl) (by decide) (by rfl) (by rfl) (by rfl) ?_
  k_steps
  unfold Stop
  rename Fr _ _ _ _ => lF'
  rename News _ _ _ _ => lN'
  rename IsRange _ _ _ _ _ _ _ _ => lR'
  refine LCg.CompSrc.range (n := wo.toNat) rfl lF' lN' lR' (small1 (by (walk_at "om")) (by (walk_at "om"))) (rsize1 wo) (Nat.le_trans (by (walk_at "om") : wo.toNat ≤ 100) (by decide)) fun gg => ?_
  refine compRest_inv (J := fun j ys n2 => (L' + 1 + 1 + 1 + 1, oL) :: (L' + 1 + 1 + 1, oO) :: (L' + 1 + 1, oA) :: (L' + 1, oP) :: news = n2 ∧ IntsAre ys ((List.range j).map fun (tu : Nat) => Int.fdiv ((0 + (tu : Int)) * 1) a)) ⟨rfl, .nil⟩ trivial ?turn2 ?fin2
  case turn2 =>
    intro j ys n2 v I2 oI C oC D m2 h2 tk2 E' hj hys hJ hS hPv hC hx2 F N offs hne
    refine opq ?_
    intro zX zH
    obtain ⟨t2, rfl⟩ := hPv
    obtain ⟨rfl, hI⟩ := hJ
    refine zH ?_
    clear zH zX
    clear lF' lN' lR'
    k_sweep
    (try dsimp only)
    k_steps
    unfold Stop
    rename Fr _ _ _ _ => lF'
    rename News _ _ _ _ => lN'
    exact LCg.CompEnd.intro lF' lN' _ (fun q hq => hq) offs hS ⟨rfl, ints_range (f := fun (tu : Nat) => Int.fdiv ((0 + (tu : Int)) * 1) a) hI rfl _⟩
  case fin2 =>
    intro cs n2 hcs hJ
    refine opq ?_
    intro zX zH
    obtain ⟨rfl, hIc⟩ := hJ
    refine zH ?_
    clear zH zX
    unfold LCg.FinA
    intro Dc h2 tk2 F N o1
    clear lF' lN' lR'
    k_sweep
    simp only [LCg.Off1] at o1
    refine opq ?_
    intro zX zH
    (refine' ea_0_5 (o1) ?_; intro c1 c2 c3 c4 c5; (try clear o1))
    refine zH ?_
    clear zH zX
    k_steps
    unfold Stop
    rename_i R h6 hl h7 F7 N7 h8 tk8 t8 u8 v8 lR' lF' lN' keep8
    refine opq ?_
    intro zX zH
    (refine' ea_0_6 (hl) ?_; intro q0 q1 q2 q3 q4 q5; (try clear hl))
    refine zH ?_
    clear zH zX
    have off0 : OwnOff news [R, Dc, L' + 1 + 1 + 1 + 1, L' + 1 + 1 + 1, L' + 1 + 1, L' + 1] := ownOff_add (off1_of fun q hq => Nat.ne_of_lt (Nat.lt_of_lt_of_le (ltN (l1 q hq)) (by (walk_at "om")))) (ownOff_add c5 (ownOff_of l1 _ (by
      intro b hb
      simp only [List.mem_cons, List.not_mem_nil, or_false] at hb
      rcases hb with rfl | rfl | rfl | rfl <;> first | exact lt_a1 | exact lt_a2 | exact lt_a3 | exact lt_a4 | with_reducible assumption | exact Ne.symm (by with_reducible assumption) | (walk_at "om") | omega)))
    refine' range_invx (n := ho.toNat) (J := fun i led => ∃ oS' us k rest, led = (R, PySem.W.listOf us k) :: (Dc, LCg.lst cs) :: (L' + 1 + 1 + 1 + 1, oS') :: (L' + 1 + 1 + 1, oO) :: (L' + 1 + 1, oA) :: (L' + 1, oP) :: rest ∧ OwnOff rest [R, Dc, L' + 1 + 1 + 1 + 1, L' + 1 + 1 + 1, L' + 1 + 1, L' + 1] ∧ (∀ q ∈ news, q ∈ rest) ∧
      us.size = i ∧ (∃ v, oS'.data = .cell v) ∧ Rows rest us.toList ((List.range i).map fun (st : Nat) => (List.range wo.toNat).map fun (tu : Nat) => cellF cells (keptF (Int.fdiv ((0 + (tu : Int)) * 1) a) wd) (keptF (Int.fdiv ((0 + (st : Int)) * 1) d) ht)) wo) (by rfl) (by rfl) lR' (small1 (by (walk_at "om")) (by (walk_at "om"))) (rsize1 ho) lF' lN' ?j ?turn ?done
    case j =>
      exact ⟨oL, _, _, news, rfl, off0, fun q hq => hq, rfl, ⟨_, dL⟩, rfl, fun i c e => by simp at e⟩
    case turn =>
      intro i led I it ts h tk hi hJ hit off F N
      refine opq ?_
      intro zX zH
      (refine' ea_4_6 (hJ) ?_; intro oS' us k rest zr4 off1 hsub hus zr8 hRr; obtain rfl := zr4; obtain ⟨vS, dS'⟩ := zr8; (try clear hJ))
      refine zH ?_
      clear zH zX
      have offI := off1_of off
      simp only [LCg.Off1] at offI
      refine opq ?_
      intro zX zH
      (refine' ea_0_7 (offI) ?_; intro f1 f0 f2 f3 f4 f5 f6; (try clear offI))
      refine zH ?_
      clear zH zX
      have hp1r := hsub _ hp1
      have hp2r := hsub _ hp2
      have hrr := hsub _ hr
      have hPr := hP.mono hsub
      have hRr0 := hR.mono hsub
      clear N7 F7 keep8 lR'
      k_sweep
      (try dsimp only)
      k_steps
      unfold Stop
      rename_i h9 oS2 F9 N9 d9
      refine LCg.ListComp_U (F₀ := F9) (by with_unfolding_all rfl) (by decide) (by rfl) (by decide) (by rfl) ?_
      k_steps
      unfold Stop
      rename Fr _ _ _ _ => lF'
      rename News _ _ _ _ => lN'
      refine LCg.CompSrc.ledger (its := cs.toArray) (k := cs.length) rfl lF' lN' (by k_mem) (Nat.le_trans (by simp only [List.size_toArray]; (walk_at "om") : cs.toArray.size ≤ 100) (by decide)) fun gg => ?_
      refine compRest_inv (J := fun j ys n2 => (I, it) :: (R, PySem.W.listOf us k) :: (Dc, LCg.lst cs) :: (L' + 1 + 1 + 1 + 1, oS2) :: (L' + 1 + 1 + 1, oO) :: (L' + 1 + 1, oA) :: (L' + 1, oP) :: rest = n2 ∧ IntsAre ys ((List.range j).map fun (tu : Nat) => cellF cells (keptF (Int.fdiv ((0 + (tu : Int)) * 1) a) wd) (keptF (Int.fdiv ((0 + (i : Int)) * 1) d) ht))) ⟨rfl, .nil⟩ (.inr ⟨_, by k_mem, rfl, _, rfl⟩) ?turn2 ?fin2
      case turn2 =>
        intro j ys n2 v I2 oI C oC D m2 h2 tk2 E' hj hys hJ hS hPv hC hx2 F N offs hne
        refine opq ?_
        intro zX zH
        obtain ⟨t2, rfl, hj2⟩ := ints_at hIc (i := j) (v := v) (by simpa using hPv)
        obtain ⟨rfl, hI⟩ := hJ
        refine zH ?_
        clear zH zX
        clear lF' lN'
        k_sweep
        (try dsimp only)
        k_steps
        unfold Stop
        rename Fr _ _ _ _ => lF'
        rename News _ _ _ _ => lN'
        exact LCg.CompEnd.intro lF' lN' _ (fun q hq => hq) offs hS ⟨rfl, ints_range (f := fun (tu : Nat) => cellF cells (keptF (Int.fdiv ((0 + (tu : Int)) * 1) a) wd) (keptF (Int.fdiv ((0 + (i : Int)) * 1) d) ht)) hI rfl _⟩
      case fin2 =>
        intro ys n2 hys hJ
        refine opq ?_
        intro zX zH
        obtain ⟨rfl, hI⟩ := hJ
        refine zH ?_
        clear zH zX
        have hys2 : ys.length = wo.toNat := by rw [hys, List.size_toArray, hcs]
        rw [List.size_toArray, hcs] at hI
        unfold LCg.FinE
        intro D h2 tk2 F N o1
        clear lF' lN'
        k_sweep
        simp only [LCg.Off1] at o1
        refine opq ?_
        intro zX zH
        (refine' ea_0_8 (o1) ?_; intro e1 e2 e0 e3 e4 e5 e6 e7; (try clear o1))
        refine zH ?_
        clear zH zX
        have hsz : us.size ≤ sizeLine := Nat.le_trans (by (walk_at "om") : us.size ≤ 100) (by decide)
        k_steps
        unfold Stop
        rename Fr _ _ _ _ => lF'
        rename News _ _ _ _ => lN'
        refine UnrEnd.intro lF' lN' ((R, PySem.W.listOf (us.push (.ref D)) (k + 1)) :: (Dc, LCg.lst cs) :: (L' + 1 + 1 + 1 + 1, oS2) :: (L' + 1 + 1 + 1, oO) :: (L' + 1 + 1, oA) :: (L' + 1, oP) :: (D, LCg.lst ys) :: rest) ?sub (off1_mem ⟨f1, f0, f2, f3, f4, f5, e1.symm, f6⟩)
          ⟨fun z hz => if_neg hz, oS2, _, _, (D, LCg.lst ys) :: rest, rfl, ownOff_cons off1 ?dd, fun q hq => List.mem_cons_of_mem _ (hsub q hq), by simp [hus], ⟨_, d9⟩, ?rows⟩
        case sub =>
          repeat (refine sub_cons ?_ ?_; focus k_mem)
          repeat (first | exact sub_nil | exact sub_id | refine sub_tl ?_)
        case dd =>
          intro b hb
          simp only [List.mem_cons, List.not_mem_nil, or_false] at hb
          rcases hb with rfl | rfl | rfl | rfl | rfl | rfl <;> first | exact lt_a1 | exact lt_a2 | exact lt_a3 | exact lt_a4 | with_reducible assumption | exact Ne.symm (by with_reducible assumption) | (walk_at "om") | omega
        case rows =>
          rw [List.range_succ, List.map_append, List.map_cons, List.map_nil]
          refine Rows.snoc hRr hI ?_
          simp; (walk_at "om")
    case done =>
      intro uu led h tk hJ F N
      refine opq ?_
      intro zX zH
      (refine' ea_4_6 (hJ) ?_; intro oS' us k rest zr4 off1 hsub hus zr8 hRr; obtain rfl := zr4; obtain ⟨vS, dS'⟩ := zr8; (try clear hJ))
      refine zH ?_
      clear zH zX
      clear N7 F7 keep8 lR'
      k_sweep
      (try dsimp only)
      k_steps
      unfold Stop
      rename_i v9 n9 h9 tk9 F9 N9 P9
      refine opq ?_
      intro zX zH
      (refine' ea_1_3 (P9) ?_; intro pl zr1 hPl hs9; obtain rfl := zr1; (try clear P9))
      refine zH ?_
      clear zH zX
      k_steps
      refine hret _ _ _ _ (by assumption) (by assumption) ?_
      refine ⟨pl, R, us.toList, k, rfl, hPl, hs9 _ (List.mem_cons_self), hRr.mono fun q hq => hs9 _ ?_, fun q hq => hs9 _ ?_⟩
      · simp only [List.mem_cons, hq, or_true]
      · simp only [List.mem_cons, hsub _ hq, or_true]
end
end
section
open PySem PySem.W PyProof.Rows
theorem flush_B8 : (if (1 : Nat) = 1 then True else True) := by
  w_top off
  (try walk1)
  all_goals (first | trivial | simp)
end
section
open PySem PySem.W PyProof.Rows
set_option linter.unusedVariables false
section
section
variable {prog : Program} {w : World} {A : Around} {E : Value → Shared → Prop} {s : Shared} {h₀ : Heap} {L : Addr} {news : Led} {value slice : PySem.Expr}
theorem item_two0 {a : Addr} {v0 v1 : Value} {k : Nat} {u : Tok} {Q : Value → Shared → Prop} (N : News h₀ L s.heap news) (hm : (a, lstO [v0, v1] k) ∈ news) (h : Q v0 s)
    (hs : subscripted slice false (.ref a) (.int 0 u) = operate [.ref a, .int 0 u] (getItem (.ref a) (.int 0 u))) :
    wpAny (model prog w) A (subscriptTail value slice (.ref a) (.int 0 u)) Q E s :=
  have hl : s.heap.IsList a [v0, v1].toArray := ⟨_, (N _ hm).1, rfl, k, rfl⟩
  tail_any hl.typeIs slot_list_getitem.lookup (wpAny_getItem_list hl (by decide) (by decide) rfl h) hs
theorem item_two1 {a : Addr} {v0 v1 : Value} {k : Nat} {u : Tok} {Q : Value → Shared → Prop} (N : News h₀ L s.heap news) (hm : (a, lstO [v0, v1] k) ∈ news) (h : Q v1 s)
    (hs : subscripted slice false (.ref a) (.int 1 u) = operate [.ref a, .int 1 u] (getItem (.ref a) (.int 1 u))) :
    wpAny (model prog w) A (subscriptTail value slice (.ref a) (.int 1 u)) Q E s :=
  have hl : s.heap.IsList a [v0, v1].toArray := ⟨_, (N _ hm).1, rfl, k, rfl⟩
  tail_any hl.typeIs slot_list_getitem.lookup (wpAny_getItem_list hl (by decide) (by decide) rfl h) hs
end
set_option maxRecDepth 100000
set_option maxHeartbeats 1000000

local macro_rules | `(tactic| walk_at "call ref") => `(tactic| (k_here; (with_reducible show wpAny _ _ (call (Value.ref 251) _) _ _ _); k_dflt (refine' Spec.use2 (repeated_spec _ _ _ _ _ _ _ _ _ _ _ _ _ _ _ _ _ _ _ ?p0 ?p1 ?p2 ?p3 ?p4 ?p5 ?p6 ?p7 ?p8 ?p9 ?p10 ?p11 ?p12 ?p13 ?p14 ?p15) ?kk ?_; (case kk => walk_at "kk"); (case p0 => walk_at "pl"); (case p1 => k_mem); (case p2 => walk_at "rw"); (case p3 => assumption); (case p4 => walk_at "om"); (case p5 => walk_at "om"); (case p6 => walk_at "om"); (case p7 => walk_at "om"); (case p8 => walk_at "om"); (case p9 => walk_at "om"); (case p10 => walk_at "om"); (case p11 => walk_at "om"); (case p12 => walk_at "om"); (case p13 => walk_at "om"); (case p14 => walk_at "om"); (case p15 => walk_at "om"); k_whole); walk_at "st"))

local macro_rules | `(tactic| walk_at "subscriptTail Name Constant ref int") => `(tactic| (k_here; ((with_reducible show wpAny _ _ (subscriptTail _ _ (Value.ref _) (Value.int 0 _)) _ _ _); k_dflt (refine' item_two0 ?k1 ?k2 ?_ ?k7; (case k1 => k_asm); (case k2 => walk_at "mm"); (case k7 => with_unfolding_all rfl); k_whole))))
local macro_rules | `(tactic| walk_at "subscriptTail Name Constant ref int") => `(tactic| (k_here; ((with_reducible show wpAny _ _ (subscriptTail _ _ (Value.ref _) (Value.int 1 _)) _ _ _); k_dflt (refine' item_two1 ?k1 ?k2 ?_ ?k7; (case k1 => k_asm); (case k2 => walk_at "mm"); (case k7 => with_unfolding_all rfl); k_whole))))


theorem grown_spec (w : World) (news : Led) (p r : Addr) (wd ht : Int) (vs : List Value) (kk : Nat) (cells : List (List Int)) (a : Int) (ta : Tok) (d : Int) (td : Tok) (wo : Int) (tw : Tok) (ho : Int) (th : Tok)
    (hP : PlaneAt news p r wd ht) (hr : (r, lstO vs kk) ∈ news) (hR : Rows news vs cells wd) (hG : (cells.length : Int) = ht) (hw : 1 ≤ wd) (hh : 1 ≤ ht) (hw2 : wd ≤ 100) (hh2 : ht ≤ 100)
    (ha0 : 1 ≤ a) (ha : a ≤ 100) (hd0 : 1 ≤ d) (hd : d ≤ 100) (hwo0 : 1 ≤ wo) (hwo : wo ≤ 100) (hho0 : 1 ≤ ho) (hho : ho ≤ 100) :
    Spec w 16 246 [.ref p, .int a ta, .int d td, .int wo tw, .int ho th, .bool false] news (PlaneMade news (repF cells wd ht a d wo ho) wo ho) := by
  intro loose mean mg mb dp un gd cn cs a' ccd cl outer A₀ base h₀ L m s Q E hB hF hX hN hT hk hdp hun hret
  revert hX; k_fill; intro hX
  refine wpAny_call ?_
  k_dflt ktr_enter
  k_steps
  unfold Stop
  rename_i v9 n9 h9 tk9 F9 N9 P9
  k_steps
  exact hret _ _ _ _ (by assumption) (by assumption) P9

def TakeP (src : Addr) (top : Int) (rest : Led) (v : Value) (n' : Led) : Prop :=
  ∃ (x : Int) (t : Tok) (a b : Int) (ta tb : Tok) (k : Nat), v = .int x t ∧ 0 ≤ x ∧ x < top ∧ n' = (src, lstO [.int a ta, .int b tb] k) :: rest ∧ 0 ≤ a ∧ 0 ≤ b ∧ b < 2147483647
theorem take_core (w : World) (src : Addr) (a b : Int) (ta tb : Tok) (k : Nat) (rest : Led) (top : Int) (tt : Tok) (hoff : OwnOff rest [src]) (ha : 0 ≤ a) (hb : 0 ≤ b) (hb2 : b < 2147483647) (ht : 1 ≤ top) (ht2 : top ≤ 1000) :
    Spec w 4 284 [.ref src, .int top tt] ((src, lstO [.int a ta, .int b tb] k) :: rest) (TakeP src top rest) := by
  intro loose mean mg mb dp un gd cn cs a' ccd cl outer A₀ base h₀ L m s Q E hB hF hX hN hT hk hdp hun hret
  revert hX; k_fill; intro hX
  refine wpAny_call ?_
  k_dflt ktr_enter
  k_steps
  · exact hret _ _ _ _ (by assumption) (by assumption) ⟨_, _, _, _, _, _, _, rfl, Int.fmod_nonneg_of_pos _ (by (walk_at "om")), Int.fmod_lt_of_pos _ (by (walk_at "om")), rfl, Int.fdiv_nonneg ha (by (walk_at "om")), hb, hb2⟩
  · exact hret _ _ _ _ (by assumption) (by assumption) ⟨_, _, _, _, _, _, _, rfl, Int.fmod_nonneg_of_pos _ (by (walk_at "om")), Int.fmod_lt_of_pos _ (by (walk_at "om")), rfl, ha, Int.fmod_nonneg_of_pos _ (by decide), Int.fmod_lt_of_pos _ (by decide)⟩
end
end
section
open PySem PySem.W PyProof.Rows
theorem flush_B9 : (if (1 : Nat) = 1 then True else True) := by
  w_top off
  (try walk1)
  all_goals (first | trivial | simp)
end
section
open PySem PySem.W PyProof.Rows
set_option linter.unusedVariables false
section
set_option maxRecDepth 100000
set_option maxHeartbeats 1000000

local macro_rules | `(tactic| walk_at "call ref") => `(tactic| (k_here; (with_reducible show wpAny _ _ (call (Value.ref 284) _) _ _ _); refine Stop.out ?_))
theorem plane_new2 (w : World) (news : Led) (r : Addr) (wd : Int) (t1 : Tok) (ht : Int) (t2 : Tok) :
    Spec w 4 197 [.int wd t1, .int ht t2, .ref r] news (fun v n' => ∃ x tl, v = .ref x ∧ n' = tl ++ news ∧ PlaneAt tl x r wd ht ∧ ∀ p ∈ tl, ∀ q ∈ news, @LT.lt Nat _ q.1 p.1) := by
  intro loose mean mg mb dp un gd cn cs a' ccd cl outer A₀ base h₀ L m s Q E hB hF hX hN hT hk hdp hun hret
  revert hX; k_fill; intro hX
  k_dflt (refine' call_cls ?k1 ?k2 ?k3 ?k4 ?k5 ?k6 ?_; (case k1 => k_asm); (case k2 => k_asm); (case k3 => k_asm); (case k4 => k_is); (case k5 => k_is); (case k6 => k_is); k_whole)
  intro x dx h F N l1 l2
  have off := ownOff_one l1
  replace l2 := ltN l2
  k_sweep
  k_dflt ktr_enter
  k_steps
  refine hret _ _ _ _ (by assumption) (by assumption) ?_
  refine ⟨x, [(x, _), (dx, _)], rfl, rfl, ⟨dx, _, _, _, _, _, _, _, _, _, List.mem_cons_self, List.mem_cons_of_mem _ List.mem_cons_self⟩, fun p hp q hq => ?_⟩
  have h1 := ltN (l1 q hq)
  simp only [List.mem_cons, List.not_mem_nil, or_false] at hp
  rcases hp with rfl | rfl
  · exact Nat.lt_trans h1 l2
  · exact h1
local macro_rules | `(tactic| walk_at "call ref") => `(tactic| (k_here; (with_reducible show wpAny _ _ (call (Value.ref 197) _) _ _ _); k_dflt (refine' Spec.use2 (plane_new2 _ _ _ _ _ _ _ ) ?kk ?_; (case kk => walk_at "kk");  k_whole); walk_at "st"))
def LawPlaneP (src : Addr) (rest : Led) (wd ht : Int) (v : Value) (n' : Led) : Prop :=
  ∃ (cs : List (List Int)) (a b : Int) (ta tb : Tok) (k : Nat) (B : Led), (src, lstO [.int a ta, .int b tb] k) ∈ n' ∧ 0 ≤ a ∧ 0 ≤ b ∧ b < 2147483647 ∧ OwnOff B [src] ∧ (∀ q ∈ B, q ∈ n') ∧ PlaneMade rest cs wd ht v B ∧ (cs.length : Int) = ht
theorem lawplane_spec (w : World) (src : Addr) (a b : Int) (ta tb : Tok) (k : Nat) (rest : Led) (wd : Int) (t1 : Tok) (ht : Int) (t2 : Tok) (hoff : OwnOff rest [src]) (ha : 0 ≤ a) (hb : 0 ≤ b) (hb2 : b < 2147483647)
    (hw : 1 ≤ wd) (hh : 1 ≤ ht) (hw2 : wd ≤ 100) (hh2 : ht ≤ 100) :
    Spec w 10 289 [.ref src, .int wd t1, .int ht t2] ((src, lstO [.int a ta, .int b tb] k) :: rest) (LawPlaneP src rest wd ht) := by
  intro loose mean mg mb dp un gd cn cs a' ccd cl outer A₀ base h₀ L m s Q E hB hF hX hN hT hk hdp hun hret
  revert hX; k_fill; intro hX
  refine wpAny_call ?_
  ktr_unf
  rename_i g' L' h' tk' FG F B X T l1 oW oS dW dS N
  replace dS : oS.data = .cell (some (.ref src)) := dS
  replace dW : oW.data = .cell (some (.int wd t1)) := dW
  k_steps
  unfold Stop
  have lsrc : @LT.lt Nat _ src L' := l1 (src, _) List.mem_cons_self
  have off0 : OwnOff rest [src, L' + 1 + 1, L' + 1] := ownOff_add (by
    exact off1_of fun q hq => hoff q hq src (List.mem_singleton.mpr rfl)) (ownOff_of (fun q hq => l1 q (List.mem_cons_of_mem _ hq)) _ (by
      intro b hb
      simp only [List.mem_cons, List.not_mem_nil, or_false] at hb
      rcases hb with rfl | rfl <;> first | exact lt_a1 | exact lt_a2 | exact lt_a3 | exact lt_a4 | with_reducible assumption | exact Ne.symm (by with_reducible assumption) | (walk_at "om") | omega))
  refine LCg.ListComp_U (F₀ := F) (by with_unfolding_all rfl) (by decide) (by rfl) (by decide) (by rfl) ?_
  k_steps
  unfold Stop
  rename Fr _ _ _ _ => lF'
  rename News _ _ _ _ => lN'
  rename IsRange _ _ _ _ _ _ _ _ => lR'
  refine LCg.CompSrc.range (n := ht.toNat) rfl lF' lN' lR' (small1 (by (walk_at "om")) (by (walk_at "om"))) (rsize1 ht) (Nat.le_trans (by (walk_at "om") : ht.toNat ≤ 100) (by decide)) fun gg => ?_
  refine compRest_inv (J := fun j ys n2 => ∃ a0 b0 ta0 tb0 k0 rest2 cs, (L' + 1 + 1, oW) :: (L' + 1, oS) :: (src, lstO [.int a0 ta0, .int b0 tb0] k0) :: rest2 = n2 ∧ OwnOff rest2 [src, L' + 1 + 1, L' + 1] ∧ (∀ q ∈ rest, q ∈ rest2) ∧ 0 ≤ a0 ∧ 0 ≤ b0 ∧ b0 < 2147483647 ∧
    cs.length = j ∧ Rows rest2 ys cs wd) ⟨a, b, ta, tb, k, rest, [], rfl, off0, fun q hq => hq, ha, hb, hb2, rfl, rfl, fun i c e => by simp at e⟩ trivial ?turn ?fin
  case turn =>
    intro j ys n2 v I oI C oC D m2 h2 tk2 E' hj hys hJ hS hPv hC hx2 F N offs hne
    refine opq ?_
    intro zX zH
    obtain ⟨t2', rfl⟩ := hPv
    (refine' ea_7_8 (hJ) ?_; intro a0 b0 ta0 tb0 k0 rest2 cs zr7 off2 hsub ha0 hb0 hbb0 hcs hRs; obtain rfl := zr7; (try clear hJ))
    refine zH ?_
    clear zH zX
    simp only [LCg.Off3] at offs
    refine opq ?_
    intro zX zH
    (refine' ea_0_4 (offs) ?_; intro zr0 zr1 zr2 offr; obtain ⟨o1, o2, o3⟩ := zr0; obtain ⟨o4, o5, o6⟩ := zr1; obtain ⟨o7, o8, o9⟩ := zr2; (try clear offs))
    refine zH ?_
    clear zH zX
    clear lF' lN' lR'
    k_sweep
    refine LCg.ListComp_U (F₀ := F) (by with_unfolding_all rfl) (by decide) (by rfl) (by decide) (by rfl) ?_
    k_steps
    unfold Stop
    rename Fr _ _ _ _ => lF'
    rename News _ _ _ _ => lN'
    rename IsRange _ _ _ _ _ _ _ _ => lR'
    refine LCg.CompSrc.range (n := wd.toNat) rfl lF' lN' lR' (small1 (by (walk_at "om")) (by (walk_at "om"))) (rsize1 wd) (Nat.le_trans (by (walk_at "om") : wd.toNat ≤ 100) (by decide)) fun gg => ?_
    refine compRest_inv (J := fun j3 zs n3 => ∃ a0 b0 ta0 tb0 k0 ns, (I, oI) :: (C, oC) :: (D, LCg.lst ys) :: (L' + 1 + 1, oW) :: (L' + 1, oS) :: (src, lstO [.int a0 ta0, .int b0 tb0] k0) :: rest2 = n3 ∧ 0 ≤ a0 ∧ 0 ≤ b0 ∧ b0 < 2147483647 ∧
      IntsAre zs ns ∧ ns.length = j3) ⟨a0, b0, ta0, tb0, k0, [], rfl, ha0, hb0, hbb0, .nil, rfl⟩ trivial ?turn3 ?fin3
    case turn3 =>
      clear ha0 hb0 hbb0
      intro j3 zs n3 v3 I3 oI3 C3 oC3 D3 m3 h3 tk3 E3 hj3 hzs hJ3 hS3 hP3 hC3 hx3 F N offs3 hne3
      refine opq ?_
      intro zX zH
      obtain ⟨t3, rfl⟩ := hP3
      (refine' ea_6_6 (hJ3) ?_; intro a0 b0 ta0 tb0 k0 ns zr6 ha0 hb0 hbb0 hI hns; obtain rfl := zr6; (try clear hJ3))
      refine zH ?_
      clear zH zX
      have offs3' := offs3
      simp only [LCg.Off3] at offs3'
      refine opq ?_
      intro zX zH
      (refine' ea_0_7 (offs3') ?_; intro zr0 zr1 zr2 zr3 zr4 zr5 offr3; obtain ⟨p1, p2, p3⟩ := zr0; obtain ⟨p4, p5, p6⟩ := zr1; obtain ⟨p7, p8, p9⟩ := zr2; obtain ⟨p10, p11, p12⟩ := zr3; obtain ⟨p13, p14, p15⟩ := zr4; obtain ⟨p16, p17, p18⟩ := zr5; (try clear offs3'))
      refine zH ?_
      clear zH zX
      clear lF' lN' lR'
      k_sweep
      (try dsimp only)
      k_steps
      (try unfold Stop)
      rename News _ _ _ _ => lN'
      have N2 := news_sub lN' (news' := (src, lstO [.int a0 ta0, .int b0 tb0] k0) :: (I3, oI3) :: (C3, oC3) :: (D3, LCg.lst zs) :: (I, oI) :: (C, oC) :: (D, LCg.lst ys) :: (L' + 1 + 1, oW) :: (L' + 1, oS) :: rest2) (by
        repeat (refine sub_cons ?_ ?_; focus k_mem)
        repeat (first | exact sub_nil | exact sub_id | refine sub_tl ?_))
      k_dflt (refine' Spec.use (take_core w src a0 b0 ta0 tb0 k0 ((I3, oI3) :: (C3, oC3) :: (D3, LCg.lst zs) :: (I, oI) :: (C, oC) :: (D, LCg.lst ys) :: (L' + 1 + 1, oW) :: (L' + 1, oS) :: rest2) 256 _ ?hoff ha0 hb0 hbb0 (by decide) (by decide)) ?k1 ?k2 ?k3 N2 ?k5 ?kK ?kd ?ku ?_; (case k1 => k_asm); (case k2 => k_asm); (case k3 => k_asm); (case k5 => k_asm); (case kK => first | exact rfl | assumption); (case kd => ((try dsimp only [ktrTop, Around.deeper, Around.in1]); first | omega | decide)); (case ku => ((try dsimp only [ktrTop, Around.deeper, Around.in1]); first | omega | decide)))
      case hoff =>
        exact ownOff_c1 p16.symm (ownOff_c1 p17.symm (ownOff_c1 p18.symm (ownOff_c1 o7.symm (ownOff_c1 o8.symm (ownOff_c1 o9.symm (ownOff_c1 (by (walk_at "om")) (ownOff_c1 (by (walk_at "om")) (ownOff_weak off2 fun b hb => by rw [List.mem_singleton.mp hb]; exact List.mem_cons_self))))))))
      intro r9 n9 h9 tk9 F9 N9 P9
      refine opq ?_
      intro zX zH
      (refine' ea_7_7 (P9) ?_; intro x9 t9 a9 b9 ta9 tb9 k9 zr7 hx0 hx1 zr10 ha9 hb9 hbb9; obtain rfl := zr7; obtain rfl := zr10; (try clear P9))
      refine zH ?_
      clear zH zX
      clear lN' N2
      k_sweep
      (try dsimp only)
      k_steps
      unfold Stop
      rename Fr _ _ _ _ => lF'
      rename News _ _ _ _ => lN'
      exact LCg.CompEnd.intro lF' lN' ((I, oI) :: (C, oC) :: (D, LCg.lst ys) :: (L' + 1 + 1, oW) :: (L' + 1, oS) :: (src, lstO [.int a9 ta9, .int b9 tb9] k9) :: rest2)
        (by
          repeat (refine sub_cons ?_ ?_; focus k_mem)
          repeat (first | exact sub_nil | exact sub_id | refine sub_tl ?_))
        ⟨⟨p1, p2, p3⟩, ⟨p4, p5, p6⟩, ⟨p7, p8, p9⟩, ⟨p10, p11, p12⟩, ⟨p13, p14, p15⟩, ⟨p16, p17, p18⟩, offr3⟩ hS3 ⟨a9, b9, ta9, tb9, k9, ns ++ [x9], rfl, ha9, hb9, hbb9, ints_snoc hI _ _, by simp [hns]⟩
    case fin3 =>
      intro zs n3 hzs hJ3
      refine opq ?_
      intro zX zH
      (refine' ea_6_6 (hJ3) ?_; intro a1 b1 ta1 tb1 k1 ns zr6 ha1 hb1 hbb1 hI hns; obtain rfl := zr6; (try clear hJ3))
      refine zH ?_
      clear zH zX
      unfold LCg.FinE
      intro D4 h4 tk4 F N o1'
      simp only [LCg.Off1] at o1'
      refine opq ?_
      intro zX zH
      (refine' ea_0_7 (o1') ?_; intro e1 e2 e3 e4 e5 e6 e7; (try clear o1'))
      refine zH ?_
      clear zH zX
      clear lF' lN' lR'
      k_sweep
      (try dsimp only)
      k_steps
      unfold Stop
      rename Fr _ _ _ _ => lF'
      rename News _ _ _ _ => lN'
      exact LCg.CompEnd.intro lF' lN' ((L' + 1 + 1, oW) :: (L' + 1, oS) :: (src, lstO [.int a1 ta1, .int b1 tb1] k1) :: (D4, LCg.lst zs) :: rest2)
        (by
          repeat (refine sub_cons ?_ ?_; focus k_mem)
          repeat (first | exact sub_nil | exact sub_id | refine sub_tl ?_))
        ⟨⟨o1, o2, o3⟩, ⟨o4, o5, o6⟩, ⟨o7, o8, o9⟩, ⟨e1.symm, e2.symm, e3.symm⟩, offr⟩ hS ⟨a1, b1, ta1, tb1, k1, (D4, LCg.lst zs) :: rest2, cs ++ [ns], rfl, ownOff_cons off2 (by
          intro b hb
          simp only [List.mem_cons, List.not_mem_nil, or_false] at hb
          rcases hb with rfl | rfl | rfl
          · exact e6.symm
          · exact e4.symm
          · exact e5.symm), fun q hq => List.mem_cons_of_mem _ (hsub q hq), ha1, hb1, hbb1, by simp [hcs], hRs.snocL hI (by (walk_at "om"))⟩
  case fin =>
    intro ys n2 hys hJ
    refine opq ?_
    intro zX zH
    (refine' ea_7_8 (hJ) ?_; intro a1 b1 ta1 tb1 k1 rest2 cs zr7 off2 hsub ha1 hb1 hbb1 hcs hRs; obtain rfl := zr7; (try clear hJ))
    refine zH ?_
    clear zH zX
    unfold LCg.FinE
    intro D4 h4 tk4 F N o1'
    simp only [LCg.Off1] at o1'
    refine opq ?_
    intro zX zH
    (refine' ea_0_4 (o1') ?_; intro e4 e5 e6 e7; (try clear o1'))
    refine zH ?_
    clear zH zX
    clear lF' lN' lR'
    k_sweep
    (try dsimp only)
    k_steps
    unfold Stop
    rename_i v9 n9 h9 tk9 F9 N9 P9
    refine opq ?_
    intro zX zH
    (refine' ea_2_4 (P9) ?_; intro pl tl zr2 zr3 hPl htl; obtain rfl := zr2; obtain rfl := zr3; (try clear P9))
    refine zH ?_
    clear zH zX
    k_steps
    refine hret _ _ _ _ (by assumption) (by assumption) ?_
    refine ⟨cs, a1, b1, ta1, tb1, k1, tl ++ (D4, LCg.lst ys) :: rest2, ?m1, ha1, hb1, hbb1, ?m2, ?m3, ⟨pl, D4, ys, ys.length, rfl, hPl.mono ?m4, ?m5, hRs.mono ?m6, ?m7⟩, by (walk_at "om")⟩
    case m1 => exact List.mem_append_right _ (by simp only [List.mem_cons, true_or, or_true])
    case m2 =>
      intro q hq b hb e
      rw [List.mem_singleton.mp hb] at e
      rcases List.mem_append.mp hq with hq | hq
      · have := htl q hq (src, lstO [.int a1 ta1, .int b1 tb1] k1) (by simp only [List.mem_cons, true_or, or_true])
        rw [e] at this
        exact absurd this (Nat.lt_irrefl _)
      · rcases List.mem_cons.mp hq with rfl | hq
        · exact e6 e.symm
        · exact off2 q hq src List.mem_cons_self e
    case m3 =>
      intro q hq
      rcases List.mem_append.mp hq with hq | hq
      · exact List.mem_append_left _ hq
      · refine List.mem_append_right _ ?_
        simp only [List.mem_cons] at hq ⊢
        rcases hq with h | h <;> simp only [h, true_or, or_true]
    case m4 => exact fun q hq => List.mem_append_left _ hq
    case m5 => exact List.mem_append_right _ List.mem_cons_self
    case m6 => exact fun q hq => List.mem_append_right _ (List.mem_cons_of_mem _ hq)
    case m7 => exact fun q hq => List.mem_append_right _ (List.mem_cons_of_mem _ (hsub q hq))
end
end
section
open PySem PySem.W PyProof.Rows
theorem flush_B10 : (if (1 : Nat) = 1 then True else True) := by
  w_top off
  (try walk1)
  all_goals (first | trivial | simp)
end
section
open PySem PySem.W PyProof.Rows
set_option linter.unusedVariables false
section
theorem partedF_ceil (s o g : Int) (hg : 1 ≤ g) (hso : 0 ≤ s * o) : s * o ≤ partedF s o g * g ∧ (partedF s o g - 1) * g < s * o ∧ 0 ≤ partedF s o g := by
  unfold partedF
  rw [Int.fdiv_eq_ediv_of_nonneg _ (by ((repeat (rename Ne _ _ => zz; clear zz)); omega))]
  generalize s * o = q at *
  have h1 := Int.mul_ediv_add_emod (q + g - 1) g
  have h2 := Int.emod_nonneg (q + g - 1) (by ((repeat (rename Ne _ _ => zz; clear zz)); omega) : g ≠ 0)
  have h3 := Int.emod_lt_of_pos (q + g - 1) (by ((repeat (rename Ne _ _ => zz; clear zz)); omega) : 0 < g)
  have h4 : 0 ≤ (q + g - 1) / g := Int.ediv_nonneg (by ((repeat (rename Ne _ _ => zz; clear zz)); omega)) (by ((repeat (rename Ne _ _ => zz; clear zz)); omega))
  generalize (q + g - 1) / g = c at *
  generalize (q + g - 1) % g = e at *
  rw [Int.mul_comm] at h1
  refine ⟨by ((repeat (rename Ne _ _ => zz; clear zz)); omega), ?_, h4⟩
  rw [Int.sub_mul]; omega
set_option maxRecDepth 100000
set_option maxHeartbeats 1000000


local macro_rules | `(tactic| walk_at "exec While Compare cons nil") => `(tactic| (k_here; refine Stop.out ?_))
local macro_rules | `(tactic| walk_at "WhlPost") => `(tactic| (refine Stop.out ?_))
theorem covered_spec (w : World) (news : Led) (x : Int) (tx : Tok) (o : Int) (to : Tok) (n : Int) (tn : Tok) (hn : 1 ≤ n) (hn2 : n ≤ 100) (hx0 : 0 ≤ x) (hx : x ≤ 100) (ho0 : 0 ≤ o) (ho : o ≤ 100) :
    Spec w 2 301 [.int x tx, .int o to, .int n tn] news (IntP news (partedF x o n)) := by
  intro loose mean mg mb dp un gd cn cs a ccd cl outer A₀ base h₀ L m s Q E hB hF hX hN hT hk hdp hun hret
  revert hX; k_fill; intro hX
  refine opq ?_
  intro zX zH
  obtain ⟨hc1, hc2, hc0⟩ := partedF_ceil x o n hn (Int.mul_nonneg hx0 ho0)
  refine zH ?_
  clear zH zX
  refine wpAny_call ?_
  k_dflt ktr_enter
  rename_i g' L' h1 FG F N B X T
  k_steps
  unfold Stop
  refine whl_start 0 ?_
  rename Fr _ _ _ _ => lF'
  rename News _ _ _ _ => lN'
  refine while_inv (I := fun N st => ∃ v t h tk, st = { s with heap := h, toks := tk } ∧ 0 ≤ v ∧ v ≤ partedF x o n ∧ (partedF x o n - v).toNat = N ∧ Fr g' L' h (fun y => if y = Str.ofString "least" then some (.int v t) else [(Str.ofString "greatest", Value.int n tn), (Str.ofString "own", .int o to), (Str.ofString "size", .int x tx)].lookup y) ∧ News g' L' h news)
    (by with_unfolding_all passes_own) ?_ (partedF x o n).toNat 0 _ ?_
  · rintro N st ⟨v, t, h, tk, rfl, hv0, hv1, hN2, F2, N2⟩
    clear lF' lN'
    k_sweep
    (try dsimp only)
    k_steps
    by_cases hlt : v * n < x * o
    · have hvc : v < partedF x o n := by
        rcases Int.lt_or_le v (partedF x o n) with h | h
        · exact h
        · have := Int.mul_le_mul_of_nonneg_right h (by (walk_at "om") : 0 ≤ n)
          omega
      refine WhlIf.yes (decide_eq_true hlt) ?_
      k_steps
      rename Fr _ _ _ _ => lF'
      rename News _ _ _ _ => lN'
      refine ⟨(partedF x o n - (v + 1)).toNat, by (walk_at "om"), v + 1, _, _, _, rfl, by (walk_at "om"), by (walk_at "om"), rfl, fr_over lF', lN'⟩
    · have hvc : v = partedF x o n := by
        rcases Int.lt_or_le v (partedF x o n) with h | h
        · have := Int.mul_le_mul_of_nonneg_right (by (walk_at "om") : v ≤ partedF x o n - 1) (by (walk_at "om") : 0 ≤ n)
          omega
        · omega
      refine WhlIf.no (decide_eq_false hlt) ?_
      k_steps
      exact hret _ _ _ _ (by assumption) (by assumption) (intP hvc)
  · exact ⟨0, _, _, _, rfl, by (walk_at "om"), hc0, by simp, lF', lN'⟩
end
end
section
open PySem PySem.W PyProof.Rows
theorem flush_L1 : (if (1 : Nat) = 1 then True else True) := by
  w_top off
  (try walk1)
  all_goals (first | trivial | simp)
end
section
open PySem PySem.W PyProof.Rows
set_option linter.unusedVariables false
section
def maxL : List Int → Int
  | [] => 0
  | x :: r => r.foldr max x
def minL : List Int → Int
  | [] => 0
  | x :: r => r.foldr min x
theorem maxL_spec (x : Int) (r : List Int) : maxL (x :: r) ∈ x :: r ∧ ∀ a ∈ x :: r, a ≤ maxL (x :: r) := by
  show r.foldr max x ∈ x :: r ∧ ∀ a ∈ x :: r, a ≤ r.foldr max x
  induction r with
  | nil => simp
  | cons y r ih =>
    obtain ⟨h1, h2⟩ := ih
    simp only [List.foldr_cons, List.mem_cons] at *
    refine ⟨?_, fun a ha => ?_⟩
    · rcases Int.le_total y (r.foldr max x) with h | h
      · rw [Int.max_eq_right h]
        rcases h1 with h1 | h1
        · exact .inl h1
        · exact .inr (.inr h1)
      · rw [Int.max_eq_left h]; exact .inr (.inl rfl)
    · rcases ha with rfl | rfl | ha
      · exact Int.le_trans (h2 _ (.inl rfl)) (Int.le_max_right _ _)
      · exact Int.le_max_left _ _
      · exact Int.le_trans (h2 _ (.inr ha)) (Int.le_max_right _ _)
theorem minL_spec (x : Int) (r : List Int) : minL (x :: r) ∈ x :: r ∧ ∀ a ∈ x :: r, minL (x :: r) ≤ a := by
  show r.foldr min x ∈ x :: r ∧ ∀ a ∈ x :: r, r.foldr min x ≤ a
  induction r with
  | nil => simp
  | cons y r ih =>
    obtain ⟨h1, h2⟩ := ih
    simp only [List.foldr_cons, List.mem_cons] at *
    refine ⟨?_, fun a ha => ?_⟩
    · rcases Int.le_total y (r.foldr min x) with h | h
      · rw [Int.min_eq_left h]; exact .inr (.inl rfl)
      · rw [Int.min_eq_right h]
        rcases h1 with h1 | h1
        · exact .inl h1
        · exact .inr (.inr h1)
    · rcases ha with rfl | rfl | ha
      · exact Int.le_trans (Int.min_le_right _ _) (h2 _ (.inl rfl))
      · exact Int.min_le_left _ _
      · exact Int.le_trans (Int.min_le_right _ _) (h2 _ (.inr ha))
theorem maxL_uniq {ns : List Int} {M : Int} (h1 : M ∈ ns) (h2 : ∀ a ∈ ns, a ≤ M) : M = maxL ns := by
  cases ns with
  | nil => cases h1
  | cons x r =>
    obtain ⟨h3, h4⟩ := maxL_spec x r
    exact Int.le_antisymm (h4 _ h1) (h2 _ h3)
theorem minL_uniq {ns : List Int} {M : Int} (h1 : M ∈ ns) (h2 : ∀ a ∈ ns, M ≤ a) : M = minL ns := by
  cases ns with
  | nil => cases h1
  | cons x r =>
    obtain ⟨h3, h4⟩ := minL_spec x r
    exact Int.le_antisymm (h2 _ h3) (h4 _ h1)
section
variable {prog : Program} {w : World} {A : Around} {E : Value → Shared → Prop} {s : Shared} {h₀ : Heap} {L : Addr} {m : Str → Option Value} {news : List (Addr × Obj)}
theorem call_maxL {D : Addr} {ys : List Value} {k : Nat} {ns : List Int} {Q : Value → Shared → Prop} (hh : A.handled = none) (F : Fr h₀ L s.heap m) (N : News h₀ L s.heap news) (hm : (D, ({ cls := .type "list", data := .seq ys.toArray k } : Obj)) ∈ news)
    (hi : IntsAre ys ns) (hne : 0 < ns.length) (h : ∀ h' (t : Tok) tk, Fr h₀ L h' m → News h₀ L h' news → Q (.int (maxL ns) t) { s with heap := h', toks := tk }) :
    wpAny (model prog w) A (call (.builtin "max") [.ref D]) Q E s :=
  max_list_N hh F N ⟨_, (N _ hm).1, rfl, _, rfl⟩ hi hne fun h' M t tk F' N' h1 h2 => by
    rw [maxL_uniq h1 h2]; exact h h' t tk F' N'
theorem call_minL {D : Addr} {ys : List Value} {k : Nat} {ns : List Int} {Q : Value → Shared → Prop} (hh : A.handled = none) (F : Fr h₀ L s.heap m) (N : News h₀ L s.heap news) (hm : (D, ({ cls := .type "list", data := .seq ys.toArray k } : Obj)) ∈ news)
    (hi : IntsAre ys ns) (hne : 0 < ns.length) (h : ∀ h' (t : Tok) tk, Fr h₀ L h' m → News h₀ L h' news → Q (.int (minL ns) t) { s with heap := h', toks := tk }) :
    wpAny (model prog w) A (call (.builtin "min") [.ref D]) Q E s :=
  min_list_N hh F N ⟨_, (N _ hm).1, rfl, _, rfl⟩ hi hne fun h' M t tk F' N' h1 h2 => by
    rw [minL_uniq h1 h2]; exact h h' t tk F' N'
end
end
section
section
variable {prog : Program} {w : World} {A : Around} {E : Value → Shared → Prop} {s : Shared} {env : Env} {h₀ : Heap} {body : List Stmt} {Q : Flow → Shared → Prop}
/-- the loop's name a cell; one other name turns -/
theorem range_invTy {L r : Addr} {y : Str} {py : Pos} (g : Str) (hL : env.locals = L) {a₀ b₀ : Int} {t₀ u₀ v₀ : Tok} {n : Nat} {m₀ : Str → Option Value} {news : List (Addr × Obj)} (J : Nat → List (Addr × Obj) → Prop)
    (hh : A.handled = none) (hr : IsRange s.heap r a₀ b₀ 1 t₀ u₀ v₀) (hsmall : Builtin.Range.small a₀ b₀ 1 = true) (hn : Builtin.Range.rangeSize a₀ b₀ 1 = (n : Int)) (F : Fr h₀ L s.heap m₀) (N : News h₀ L s.heap news)
    (hj : J 0 news)
    (turn : ∀ (i : Nat) u news₁ I it t h tk, i < n → J i news₁ → it.cls = .type "range_iterator" → (∀ p ∈ news₁, p.1 ≠ I) → Fr h₀ L h (fun z => if z = g then u else m₀ z) → News h₀ L h ((I, it) :: news₁) →
      wpAny (model prog w) A (assign (.Name y py) env (.int (a₀ + (i : Int)) t)) (fun _ s₂ => wpAny (model prog w) A (execs body env) (UnrPost h₀ L { s with heap := h, toks := tk } I it (fun m' n' => (∀ z, z ≠ g → m' z = m₀ z) ∧ J (i + 1) n') Q) E s₂) E { s with heap := h, toks := tk })
    (done : ∀ u news₁ h tk, J n news₁ → Fr h₀ L h (fun z => if z = g then u else m₀ z) → News h₀ L h news₁ → Q .next { s with heap := h, toks := tk }) :
    wpAny (model prog w) A (pyIter (.ref r)) (fun it s₂ => TurnsAt prog w A h₀ env (.Name y py) body Q E it s₂) E s :=
  range_invT hL (J := fun i m n => (∀ z, z ≠ g → m z = m₀ z) ∧ J i n) hh hr hsmall hn F N ⟨fun _ _ => rfl, hj⟩ (fun i m n I it t h tk hi hJ hit off F2 N2 => by
    obtain ⟨u, e⟩ := map1 hJ.1
    rw [e] at F2
    exact turn i u n I it t h tk hi hJ.2 hit off F2 N2) fun m n h tk hJ F2 N2 => by
    obtain ⟨u, e⟩ := map1 hJ.1
    rw [e] at F2
    exact done u n h tk hJ.2 F2 N2
end
theorem fdiv_whole (M s : Int) : M.fdiv s * s = M ↔ M.fmod s = 0 := by
  have h := Int.mul_fdiv_add_fmod M s
  rw [Int.mul_comm] at h
  omega
end
section
theorem unrEnd_d1 {h₀ : Heap} {L I : Addr} {it : Obj} {e1 : Addr × Obj} {rest : (Str → Option Value) → List (Addr × Obj) → Prop} {s₁ : Shared} {h' : Heap} {tk : Nat} {m' : Str → Option Value} {news' : List (Addr × Obj)}
    (F : Fr h₀ L h' m') (N : News h₀ L h' (e1 :: (I, it) :: news')) (off : ∀ p ∈ news', p.1 ≠ I) (r : rest m' news') : UnrEnd h₀ L s₁ I it rest { s₁ with heap := h', toks := tk } :=
  UnrEnd.intro F N news' (fun q hq => List.mem_cons_of_mem _ hq) off r
end
end
section
open PySem PySem.W PyProof.Rows
theorem flush_B11 : (if (1 : Nat) = 1 then True else True) := by
  w_top off
  (try walk1)
  all_goals (first | trivial | simp)
end
section
open PySem PySem.W PyProof.Rows
set_option linter.unusedVariables false
section
def CompAt (news : Led) (c : Addr) (p : Int × Int) : Prop :=
  ∃ (cx : Addr) (h1 h2 h3 h4 : Int) (k1 k2 k3 k4 t2 t3 : Tok) (v1 v4 : Value) (n : Nat), (c, instObj 96 cx) ∈ news ∧
    (cx, dictOf [⟨h1, .str (Str.ofString "ident") k1, v1⟩, ⟨h2, .str (Str.ofString "across") k2, .int p.1 t2⟩, ⟨h3, .str (Str.ofString "down") k3, .int p.2 t3⟩, ⟨h4, .str (Str.ofString "quant") k4, v4⟩] n) ∈ news
def CompsAt (news : Led) (vs : List Value) (sm : List (Int × Int)) : Prop :=
  vs.length = sm.length ∧ ∀ (i : Nat) (p : Int × Int), sm[i]? = some p → ∃ c : Addr, vs[i]? = some (Value.ref c) ∧ CompAt news c p
def FrameAt (news : Led) (f cl : Addr) (wd ht : Int) : Prop :=
  ∃ (fx : Addr) (h1 h2 h3 h4 h5 h6 : Int) (k1 k2 k3 k4 k5 k6 t3 t4 : Tok) (v1 v2 v6 : Value) (n : Nat), (f, instObj 162 fx) ∈ news ∧
    (fx, dictOf [⟨h1, .str (Str.ofString "kind") k1, v1⟩, ⟨h2, .str (Str.ofString "precision") k2, v2⟩, ⟨h3, .str (Str.ofString "height") k3, .int ht t3⟩, ⟨h4, .str (Str.ofString "width") k4, .int wd t4⟩, ⟨h5, .str (Str.ofString "components") k5, .ref cl⟩, ⟨h6, .str (Str.ofString "n") k6, v6⟩] n) ∈ news
theorem CompAt.mono {news news' : Led} {c : Addr} {p : Int × Int} (h : CompAt news c p) (hs : ∀ q ∈ news, q ∈ news') : CompAt news' c p := by
  refine opq ?_
  intro zX zH
  (refine' ea_14_2 (h) ?_; intro cx h1 h2 h3 h4 k1 k2 k3 k4 t2 t3 v1 v4 n a b; (try clear h))
  refine zH ?_
  clear zH zX
  exact ⟨cx, h1, h2, h3, h4, k1, k2, k3, k4, t2, t3, v1, v4, n, hs _ a, hs _ b⟩
theorem CompsAt.mono {news news' : Led} {vs : List Value} {sm : List (Int × Int)} (h : CompsAt news vs sm) (hs : ∀ q ∈ news, q ∈ news') : CompsAt news' vs sm :=
  ⟨h.1, fun i p e => by obtain ⟨c, a, b⟩ := h.2 i p e; exact ⟨c, a, b.mono hs⟩⟩
theorem FrameAt.mono {news news' : Led} {f cl : Addr} {wd ht : Int} (h : FrameAt news f cl wd ht) (hs : ∀ q ∈ news, q ∈ news') : FrameAt news' f cl wd ht := by
  refine opq ?_
  intro zX zH
  (refine' ea_19_2 (h) ?_; intro fx h1 h2 h3 h4 h5 h6 k1 k2 k3 k4 k5 k6 t3 t4 v1 v2 v6 n a b; (try clear h))
  refine zH ?_
  clear zH zX
  exact ⟨fx, h1, h2, h3, h4, h5, h6, k1, k2, k3, k4, k5, k6, t3, t4, v1, v2, v6, n, hs _ a, hs _ b⟩

set_option maxRecDepth 100000
set_option maxHeartbeats 1000000

local macro_rules | `(tactic| walk_at "call builtin:max") => `(tactic| (k_here; (with_reducible show wpAny _ _ (call (Value.builtin "max") [Value.ref _]) _ _ _); k_dflt (refine' call_maxL ?k0 ?k1 ?k2 ?k3 ?k4 ?k5 ?_; (case k0 => rfl); (case k1 => k_asm); (case k2 => k_asm); (case k3 => k_mem); (case k4 => assumption); (case k5 => first | assumption | (simp only [List.length_map]; omega)); k_whole); intro h' t' tk' F' N'; (try k_sweep); (try dsimp only); (try k_fold)))
local macro_rules | `(tactic| walk_at "call builtin:min") => `(tactic| (k_here; (with_reducible show wpAny _ _ (call (Value.builtin "min") [Value.ref _]) _ _ _); k_dflt (refine' call_minL ?k0 ?k1 ?k2 ?k3 ?k4 ?k5 ?_; (case k0 => rfl); (case k1 => k_asm); (case k2 => k_asm); (case k3 => k_mem); (case k4 => assumption); (case k5 => first | assumption | (simp only [List.length_map]; omega)); k_whole); intro h' t' tk' F' N'; (try k_sweep); (try dsimp only); (try k_fold)))
theorem most_across_spec (w : World) (news : Led) (f cl : Addr) (wd ht : Int) (vs : List Value) (kk : Nat) (sm : List (Int × Int))
    (hF : FrameAt news f cl wd ht) (hcl : (cl, lstO vs kk) ∈ news) (hC : CompsAt news vs sm) (hlen : sm ≠ []) (hlen2 : sm.length ≤ 3) :
    Spec w 4 119 [.ref f] news (IntP news (maxL (sm.map (·.1)))) := by
  intro loose mean mg mb dp un gd cn cs a' ccd cl' outer A₀ base h₀ L m s Q E hB hF0 hX hN hT hk hdp hun hret
  revert hX; k_fill; intro hX
  refine opq ?_
  intro zX zH
  (refine' ea_19_2 (hF) ?_; intro fx h1 h2 h3 h4 h5 h6 k1 k2 k3 k4 k5 k6 t3 t4 v1 v2 v6 n hf1 hf2; (try clear hF))
  refine zH ?_
  clear zH zX
  refine wpAny_call ?_
  k_dflt ktr_enter
  rename_i g' L' hh1 FG F N B X T
  k_steps
  unfold Stop
  refine LCg.ListComp_U (F₀ := F) (by with_unfolding_all rfl) (by decide) (by rfl) (by decide) (by rfl) ?_
  k_steps
  unfold Stop
  rename Fr _ _ _ _ => lF'
  rename News _ _ _ _ => lN'
  refine LCg.CompSrc.ledger (its := vs.toArray) (k := kk) rfl lF' lN' (by k_mem) (Nat.le_trans (by simp only [List.size_toArray]; rw [hC.1]; (walk_at "om") : vs.toArray.size ≤ 100) (by decide)) fun gg => ?_
  refine compRest_inv (J := fun j ys n2 => news = n2 ∧ IntsAre ys ((sm.take j).map (·.1))) ⟨rfl, .nil⟩ (.inr ⟨_, by k_mem, rfl, _, rfl⟩) ?turn2 ?fin2
  case turn2 =>
    intro j ys n2 v I2 oI C oC D m2 hh2 tk2 E' hj hys hJ hS hPv hC2 hx2 F N offs hne
    refine opq ?_
    intro zX zH
    obtain ⟨rfl, hI⟩ := hJ
    have hj2 : j < sm.length := by rw [← hC.1]; simpa using hj
    obtain ⟨c, hc1, zc⟩ := hC.2 j _ (List.getElem?_eq_getElem hj2)
    (refine' ea_14_2 (zc) ?_; intro cx g1 g2 g3 g4 q1 q2 q3 q4 u2 u3 w1 w4 nn hc2 hc3; (try clear zc))
    refine zH ?_
    clear zH zX
    have hv : v = .ref c := by
      have : vs[j]? = some v := by simpa using hPv
      rw [hc1] at this; exact (Option.some.inj this).symm
    subst hv
    clear lF' lN'
    k_sweep
    (try dsimp only)
    k_steps
    unfold Stop
    rename Fr _ _ _ _ => lF'
    rename News _ _ _ _ => lN'
    refine LCg.CompEnd.intro lF' lN' _ (fun q hq => hq) offs hS ⟨rfl, ?_⟩
    rw [List.take_add_one, List.map_append, List.getElem?_eq_getElem hj2]
    exact ints_snoc hI _ _
  case fin2 =>
    intro ys n2 hys hJ
    refine opq ?_
    intro zX zH
    obtain ⟨rfl, hI⟩ := hJ
    refine zH ?_
    clear zH zX
    have hys2 : ys.length = sm.length := by rw [hys, List.size_toArray, hC.1]
    rw [List.size_toArray, hC.1, List.take_length] at hI
    unfold LCg.FinE
    intro D hh2 tk2 F N o1
    clear lF' lN'
    k_sweep
    have hpos : 0 < sm.length := List.length_pos_iff.mpr hlen
    k_steps
    rename Fr _ _ _ _ => lF'
    rename News _ _ _ _ => lN'
    exact hret _ news _ _ lF' (news_sub lN' fun q hq => List.mem_cons_of_mem _ hq) (intP rfl)
theorem most_down_spec (w : World) (news : Led) (f cl : Addr) (wd ht : Int) (vs : List Value) (kk : Nat) (sm : List (Int × Int))
    (hF : FrameAt news f cl wd ht) (hcl : (cl, lstO vs kk) ∈ news) (hC : CompsAt news vs sm) (hlen : sm ≠ []) (hlen2 : sm.length ≤ 3) :
    Spec w 4 124 [.ref f] news (IntP news (maxL (sm.map (·.2)))) := by
  intro loose mean mg mb dp un gd cn cs a' ccd cl' outer A₀ base h₀ L m s Q E hB hF0 hX hN hT hk hdp hun hret
  revert hX; k_fill; intro hX
  refine opq ?_
  intro zX zH
  (refine' ea_19_2 (hF) ?_; intro fx h1 h2 h3 h4 h5 h6 k1 k2 k3 k4 k5 k6 t3 t4 v1 v2 v6 n hf1 hf2; (try clear hF))
  refine zH ?_
  clear zH zX
  refine wpAny_call ?_
  k_dflt ktr_enter
  rename_i g' L' hh1 FG F N B X T
  k_steps
  unfold Stop
  refine LCg.ListComp_U (F₀ := F) (by with_unfolding_all rfl) (by decide) (by rfl) (by decide) (by rfl) ?_
  k_steps
  unfold Stop
  rename Fr _ _ _ _ => lF'
  rename News _ _ _ _ => lN'
  refine LCg.CompSrc.ledger (its := vs.toArray) (k := kk) rfl lF' lN' (by k_mem) (Nat.le_trans (by simp only [List.size_toArray]; rw [hC.1]; (walk_at "om") : vs.toArray.size ≤ 100) (by decide)) fun gg => ?_
  refine compRest_inv (J := fun j ys n2 => news = n2 ∧ IntsAre ys ((sm.take j).map (·.2))) ⟨rfl, .nil⟩ (.inr ⟨_, by k_mem, rfl, _, rfl⟩) ?turn2 ?fin2
  case turn2 =>
    intro j ys n2 v I2 oI C oC D m2 hh2 tk2 E' hj hys hJ hS hPv hC2 hx2 F N offs hne
    refine opq ?_
    intro zX zH
    obtain ⟨rfl, hI⟩ := hJ
    have hj2 : j < sm.length := by rw [← hC.1]; simpa using hj
    obtain ⟨c, hc1, zc⟩ := hC.2 j _ (List.getElem?_eq_getElem hj2)
    (refine' ea_14_2 (zc) ?_; intro cx g1 g2 g3 g4 q1 q2 q3 q4 u2 u3 w1 w4 nn hc2 hc3; (try clear zc))
    refine zH ?_
    clear zH zX
    have hv : v = .ref c := by
      have : vs[j]? = some v := by simpa using hPv
      rw [hc1] at this; exact (Option.some.inj this).symm
    subst hv
    clear lF' lN'
    k_sweep
    (try dsimp only)
    k_steps
    unfold Stop
    rename Fr _ _ _ _ => lF'
    rename News _ _ _ _ => lN'
    refine LCg.CompEnd.intro lF' lN' _ (fun q hq => hq) offs hS ⟨rfl, ?_⟩
    rw [List.take_add_one, List.map_append, List.getElem?_eq_getElem hj2]
    exact ints_snoc hI _ _
  case fin2 =>
    intro ys n2 hys hJ
    refine opq ?_
    intro zX zH
    obtain ⟨rfl, hI⟩ := hJ
    refine zH ?_
    clear zH zX
    have hys2 : ys.length = sm.length := by rw [hys, List.size_toArray, hC.1]
    rw [List.size_toArray, hC.1, List.take_length] at hI
    unfold LCg.FinE
    intro D hh2 tk2 F N o1
    clear lF' lN'
    k_sweep
    have hpos : 0 < sm.length := List.length_pos_iff.mpr hlen
    k_steps
    rename Fr _ _ _ _ => lF'
    rename News _ _ _ _ => lN'
    exact hret _ news _ _ lF' (news_sub lN' fun q hq => List.mem_cons_of_mem _ hq) (intP rfl)
end
end
section
open PySem PySem.W PyProof.Rows
theorem flush_B12 : (if (1 : Nat) = 1 then True else True) := by
  w_top off
  (try walk1)
  all_goals (first | trivial | simp)
end
section
open PySem PySem.W PyProof.Rows
set_option linter.unusedVariables false
section
abbrev tupO (vs : List Value) : Obj := { cls := .type "tuple", data := .seq vs.toArray }
section
variable {prog : Program} {w : World} {A : Around} {E : Value → Shared → Prop} {s : Shared} {h₀ : Heap} {L : Addr} {news : Led} {value slice : PySem.Expr}
theorem item_comps {r : Addr} {vs : List Value} {kk : Nat} {sm : List (Int × Int)} {i : Int} {u : Tok} {Q : Value → Shared → Prop} (N : News h₀ L s.heap news) (hm : (r, lstO vs kk) ∈ news) (hC : CompsAt news vs sm)
    (h0 : 0 ≤ i) (h1 : i < sm.length) (hfit : i < 2 ^ 63) (h : ∀ c, CompAt news c (sm.getD i.toNat (0, 0)) → Q (.ref c) s)
    (hs : subscripted slice false (.ref r) (.int i u) = operate [.ref r, .int i u] (getItem (.ref r) (.int i u))) :
    wpAny (model prog w) A (subscriptTail value slice (.ref r) (.int i u)) Q E s := by
  have hlt : i.toNat < sm.length := by ((repeat (rename Ne _ _ => zz; clear zz)); omega)
  have hc : sm[i.toNat]? = some (sm.getD i.toNat (0, 0)) := by simp [List.getD_eq_getElem?_getD, List.getElem?_eq_getElem hlt]
  refine opq ?_
  intro zX zH
  obtain ⟨c, hv, hC'⟩ := hC.2 _ _ hc
  refine zH ?_
  clear zH zX
  have hl : s.heap.IsList r vs.toArray := ⟨_, (N _ hm).1, rfl, kk, rfl⟩
  exact tail_any hl.typeIs slot_list_getitem.lookup (wpAny_getItem_list hl h0 hfit (by simpa using hv) (h c hC')) hs
end
theorem maxL_bd {ns : List Int} {a b : Int} (hne : ns ≠ []) (h : ∀ x ∈ ns, a ≤ x ∧ x ≤ b) : a ≤ maxL ns ∧ maxL ns ≤ b := by
  cases ns with
  | nil => exact absurd rfl hne
  | cons x r => exact h _ (maxL_spec x r).1
/-- the samplings' bounds -/
def SmOk (sm : List (Int × Int)) : Prop := sm ≠ [] ∧ sm.length ≤ 3 ∧ ∀ p ∈ sm, (1 ≤ p.1 ∧ p.1 ≤ 4) ∧ 1 ≤ p.2 ∧ p.2 ≤ 4
theorem SmOk.at {sm : List (Int × Int)} (h : SmOk sm) {i : Nat} (hi : i < sm.length) : ((1 ≤ (sm.getD i (0, 0)).1 ∧ (sm.getD i (0, 0)).1 ≤ 4) ∧ 1 ≤ (sm.getD i (0, 0)).2 ∧ (sm.getD i (0, 0)).2 ≤ 4) := by
  have : sm.getD i (0, 0) = sm[i] := by simp [List.getD_eq_getElem?_getD, List.getElem?_eq_getElem hi]
  rw [this]
  exact h.2.2 _ (List.getElem_mem hi)
theorem SmOk.m1 {sm : List (Int × Int)} (h : SmOk sm) : 1 ≤ maxL (sm.map (·.1)) ∧ maxL (sm.map (·.1)) ≤ 4 :=
  maxL_bd (by simpa using h.1) fun x hx => by
    refine opq ?_
    intro zX zH
    obtain ⟨p, hp, rfl⟩ := List.mem_map.mp hx
    refine zH ?_
    clear zH zX
    exact (h.2.2 p hp).1
theorem SmOk.m2 {sm : List (Int × Int)} (h : SmOk sm) : 1 ≤ maxL (sm.map (·.2)) ∧ maxL (sm.map (·.2)) ≤ 4 :=
  maxL_bd (by simpa using h.1) fun x hx => by
    refine opq ?_
    intro zX zH
    obtain ⟨p, hp, rfl⟩ := List.mem_map.mp hx
    refine zH ?_
    clear zH zX
    exact (h.2.2 p hp).2
set_option maxRecDepth 100000
set_option maxHeartbeats 1000000

local macro_rules | `(tactic| walk_at "call builtin:max") => `(tactic| (k_here; (with_reducible show wpAny _ _ (call (Value.builtin "max") [Value.ref _]) _ _ _); k_dflt (refine' call_maxL ?k0 ?k1 ?k2 ?k3 ?k4 ?k5 ?_; (case k0 => rfl); (case k1 => k_asm); (case k2 => k_asm); (case k3 => k_mem); (case k4 => assumption); (case k5 => first | assumption | (simp only [List.length_map]; omega)); k_whole); intro h' t' tk' F' N'; (try k_sweep); (try dsimp only); (try k_fold)))
local macro_rules | `(tactic| walk_at "call builtin:min") => `(tactic| (k_here; (with_reducible show wpAny _ _ (call (Value.builtin "min") [Value.ref _]) _ _ _); k_dflt (refine' call_minL ?k0 ?k1 ?k2 ?k3 ?k4 ?k5 ?_; (case k0 => rfl); (case k1 => k_asm); (case k2 => k_asm); (case k3 => k_mem); (case k4 => assumption); (case k5 => first | assumption | (simp only [List.length_map]; omega)); k_whole); intro h' t' tk' F' N'; (try k_sweep); (try dsimp only); (try k_fold)))
local macro_rules | `(tactic| walk_at "call ref") => `(tactic| (k_here; (with_reducible show wpAny _ _ (call (Value.ref 119) _) _ _ _); k_dflt (refine' Spec.useI2 (most_across_spec _ _ _ _ _ _ _ _ _ ?p0 ?p1 ?p2 ?p3 ?p4) ?kk ?_; (case kk => walk_at "kk"); (case p0 => first | assumption | exact FrameAt.mono (by assumption) (by intro q hq; repeat (first | exact hq | apply List.mem_cons_of_mem))); (case p1 => k_mem); (case p2 => first | assumption | exact CompsAt.mono (by assumption) (by intro q hq; repeat (first | exact hq | apply List.mem_cons_of_mem))); (case p3 => assumption); (case p4 => assumption); k_whole); walk_at "it"))
local macro_rules | `(tactic| walk_at "call ref") => `(tactic| (k_here; (with_reducible show wpAny _ _ (call (Value.ref 124) _) _ _ _); k_dflt (refine' Spec.useI2 (most_down_spec _ _ _ _ _ _ _ _ _ ?p0 ?p1 ?p2 ?p3 ?p4) ?kk ?_; (case kk => walk_at "kk"); (case p0 => first | assumption | exact FrameAt.mono (by assumption) (by intro q hq; repeat (first | exact hq | apply List.mem_cons_of_mem))); (case p1 => k_mem); (case p2 => first | assumption | exact CompsAt.mono (by assumption) (by intro q hq; repeat (first | exact hq | apply List.mem_cons_of_mem))); (case p3 => assumption); (case p4 => assumption); k_whole); walk_at "it"))
local macro_rules | `(tactic| walk_at "subscriptTail") => `(tactic| (k_here; (with_reducible show wpAny _ _ (subscriptTail _ _ (Value.ref _) (Value.int _ _)) _ _ _); k_dflt (refine' item_comps ?k1 ?k2 ?k3 ?k4 ?k5 ?k6 ?_ ?k7; (case k1 => k_asm); (case k2 => walk_at "mm"); (case k3 => first | assumption | exact CompsAt.mono (by assumption) (by intro q hq; repeat (first | exact hq | apply List.mem_cons_of_mem))); (case k4 => walk_at "om"); (case k5 => walk_at "om"); (case k6 => walk_at "om"); (case k7 => with_unfolding_all rfl); k_whole; intro c' hc'; obtain ⟨cx', y1', y2', y3', y4', y5', y6', y7', y8', y9', y10', y11', y12', y13', hm1', hm2'⟩ := hc')))
local macro_rules | `(tactic| walk_at "call ref") => `(tactic| (k_here; (with_reducible show wpAny _ _ (call (Value.ref 79) _) _ _ _); k_dflt (refine' Spec.useI2 (parts_spec _ _ _ _ _ _ ?p0 ?p1) ?kk ?_; (case kk => walk_at "kk"); (case p0 => walk_at "om"); (case p1 => walk_at "om"); k_whole); walk_at "it"))

def TupP (news : Led) (a b : Int) (v : Value) (n' : Led) : Prop :=
  ∃ (T : Addr) (t1 t2 : Tok), v = .ref T ∧ (T, tupO [.int a t1, .int b t2]) ∈ n' ∧ ∀ q ∈ news, q ∈ n'
theorem plane_size_spec (w : World) (news : Led) (f cl : Addr) (wd ht : Int) (vs : List Value) (kk : Nat) (sm : List (Int × Int)) (i : Int) (ti : Tok)
    (hF : FrameAt news f cl wd ht) (hcl : (cl, lstO vs kk) ∈ news) (hC : CompsAt news vs sm) (hS : SmOk sm) (hi0 : 0 ≤ i) (hi1 : i < sm.length) (hw : 1 ≤ wd) (hw2 : wd ≤ 100) (hh : 1 ≤ ht) (hh2 : ht ≤ 100) :
    Spec w 8 145 [.ref f, .int i ti] news (TupP news (partedF wd (sm.getD i.toNat (0, 0)).1 (maxL (sm.map (·.1)))) (partedF ht (sm.getD i.toNat (0, 0)).2 (maxL (sm.map (·.2))))) := by
  intro loose mean mg mb dp un gd cn cs a' ccd cl' outer A₀ base h₀ L m s Q E hB hF0 hX hN hT hk hdp hun hret
  revert hX; k_fill; intro hX
  have hF' := hF
  refine opq ?_
  intro zX zH
  (refine' ea_19_2 (hF') ?_; intro fx h1 h2 h3 h4 h5 h6 k1 k2 k3 k4 k5 k6 t3 t4 v1 v2 v6 n hf1 hf2; (try clear hF'))
  obtain ⟨hlen, hlen2, hall⟩ := id hS
  refine zH ?_
  clear zH zX
  have hb1 := hS.m1
  have hb2 := hS.m2
  have hb3 := hS.at (i := i.toNat) (by (walk_at "om"))
  refine wpAny_call ?_
  k_dflt ktr_enter
  rename_i g' L' hh1 FG F N B X T
  k_steps
  exact hret _ _ _ _ (by assumption) (by assumption) ⟨_, _, _, rfl, List.mem_cons_self, fun q hq => List.mem_cons_of_mem _ hq⟩
theorem factors_ok (w : World) (news : Led) (f cl : Addr) (wd ht : Int) (vs : List Value) (kk : Nat) (sm : List (Int × Int)) (i : Int) (ti : Tok)
    (hF : FrameAt news f cl wd ht) (hcl : (cl, lstO vs kk) ∈ news) (hC : CompsAt news vs sm) (hS : SmOk sm) (hi0 : 0 ≤ i) (hi1 : i < sm.length)
    (hd1 : (maxL (sm.map (·.1))).fmod (sm.getD i.toNat (0, 0)).1 = 0) (hd2 : (maxL (sm.map (·.2))).fmod (sm.getD i.toNat (0, 0)).2 = 0) :
    Spec w 8 72 [.ref f, .int i ti] news (TupP news ((maxL (sm.map (·.1))).fdiv (sm.getD i.toNat (0, 0)).1) ((maxL (sm.map (·.2))).fdiv (sm.getD i.toNat (0, 0)).2)) := by
  intro loose mean mg mb dp un gd cn cs a' ccd cl' outer A₀ base h₀ L m s Q E hB hF0 hX hN hT hk hdp hun hret
  revert hX; k_fill; intro hX
  have hF' := hF
  refine opq ?_
  intro zX zH
  (refine' ea_19_2 (hF') ?_; intro fx h1 h2 h3 h4 h5 h6 k1 k2 k3 k4 k5 k6 t3 t4 v1 v2 v6 n hf1 hf2; (try clear hF'))
  obtain ⟨hlen, hlen2, hall⟩ := id hS
  refine zH ?_
  clear zH zX
  have hb1 := hS.m1
  have hb2 := hS.m2
  have hb3 := hS.at (i := i.toNat) (by (walk_at "om"))
  refine wpAny_call ?_
  k_dflt ktr_enter
  rename_i g' L' hh1 FG F N B X T
  k_steps
  all_goals (try (exfalso; first | contradiction | omega))
  exact hret _ _ _ _ (by assumption) (by assumption) ⟨_, _, _, rfl, List.mem_cons_self, fun q hq => List.mem_cons_of_mem _ hq⟩
end
end
section
open PySem PySem.W PyProof.Rows
theorem flush_B13 : (if (1 : Nat) = 1 then True else True) := by
  w_top off
  (try walk1)
  all_goals (first | trivial | simp)
end
section
open PySem PySem.W PyProof.Rows
set_option linter.unusedVariables false
section
def pk (p : Int × Int) (k : Int) : Int := if k = 0 then p.1 else p.2
def TupsAt (news : Led) (vs : List Value) (sm : List (Int × Int)) : Prop :=
  vs.length = sm.length ∧ ∀ (i : Nat) (p : Int × Int), sm[i]? = some p → ∃ (t : Addr) (t1 t2 : Tok), vs[i]? = some (Value.ref t) ∧ (t, tupO [.int p.1 t1, .int p.2 t2]) ∈ news
theorem TupsAt.mono {news news' : Led} {vs : List Value} {sm : List (Int × Int)} (h : TupsAt news vs sm) (hs : ∀ q ∈ news, q ∈ news') : TupsAt news' vs sm :=
  ⟨h.1, fun i p e => by obtain ⟨c, t1, t2, a, b⟩ := h.2 i p e; exact ⟨c, t1, t2, a, hs _ b⟩⟩
section
variable {prog : Program} {w : World} {A : Around} {E : Value → Shared → Prop} {s : Shared} {h₀ : Heap} {L : Addr} {news : Led} {value slice : PySem.Expr}
theorem item_tup2 {r : Addr} {a b : Int} {t1 t2 : Tok} {k : Int} {u : Tok} {Q : Value → Shared → Prop} (N : News h₀ L s.heap news) (hm : (r, tupO [.int a t1, .int b t2]) ∈ news)
    (h0 : 0 ≤ k) (h1 : k < 2) (h : ∀ t, Q (.int (pk (a, b) k) t) s)
    (hs : subscripted slice false (.ref r) (.int k u) = operate [.ref r, .int k u] (getItem (.ref r) (.int k u))) :
    wpAny (model prog w) A (subscriptTail value slice (.ref r) (.int k u)) Q E s := by
  have hT : IsTup s.heap r [Value.int a t1, Value.int b t2].toArray := News.isTup N hm
  have hk : k = 0 ∨ k = 1 := by ((repeat (rename Ne _ _ => zz; clear zz)); omega)
  rcases hk with rfl | rfl
  · exact item_tupleT hT (by decide) (by decide) rfl rfl (h t1) hs
  · exact item_tupleT hT (by decide) (by decide) rfl rfl (h t2) hs
theorem item_tups {r : Addr} {vs : List Value} {kk : Nat} {sm : List (Int × Int)} {i : Int} {u : Tok} {Q : Value → Shared → Prop} (N : News h₀ L s.heap news) (hm : (r, lstO vs kk) ∈ news) (hC : TupsAt news vs sm)
    (h0 : 0 ≤ i) (h1 : i < sm.length) (hfit : i < 2 ^ 63) (h : ∀ c t1 t2, (c, tupO [.int (sm.getD i.toNat (0, 0)).1 t1, .int (sm.getD i.toNat (0, 0)).2 t2]) ∈ news → Q (.ref c) s)
    (hs : subscripted slice false (.ref r) (.int i u) = operate [.ref r, .int i u] (getItem (.ref r) (.int i u))) :
    wpAny (model prog w) A (subscriptTail value slice (.ref r) (.int i u)) Q E s := by
  have hlt : i.toNat < sm.length := by ((repeat (rename Ne _ _ => zz; clear zz)); omega)
  have hc : sm[i.toNat]? = some (sm.getD i.toNat (0, 0)) := by simp [List.getD_eq_getElem?_getD, List.getElem?_eq_getElem hlt]
  refine opq ?_
  intro zX zH
  (refine' ea_3_2 (hC.2 _ _ hc) ?_; intro c t1 t2 hv hC')
  refine zH ?_
  clear zH zX
  have hl : s.heap.IsList r vs.toArray := ⟨_, (N _ hm).1, rfl, kk, rfl⟩
  exact tail_any hl.typeIs slot_list_getitem.lookup (wpAny_getItem_list hl h0 hfit (by simpa using hv) (h c t1 t2 hC')) hs
end
def dueM (sm : List (Int × Int)) (k : Int) : Int := maxL (sm.map fun p => pk p k)
def dueQ (sm : List (Int × Int)) (p : Int × Int) (k : Int) : Int := (dueM sm k).fdiv (pk p k)
def dueR (sm : List (Int × Int)) (p : Int × Int) (k : Int) : Int := (dueM sm k).fmod (pk p k)
theorem pk_bd {p : Int × Int} (h : (1 ≤ p.1 ∧ p.1 ≤ 4) ∧ 1 ≤ p.2 ∧ p.2 ≤ 4) (k : Int) : 1 ≤ pk p k ∧ pk p k ≤ 4 := by
  unfold pk; split <;> omega
theorem pk_max {sm : List (Int × Int)} (h : SmOk sm) (k : Int) : 1 ≤ dueM sm k ∧ dueM sm k ≤ 4 :=
  maxL_bd (by simpa using h.1) fun x hx => by
    refine opq ?_
    intro zX zH
    obtain ⟨p, hp, rfl⟩ := List.mem_map.mp hx
    refine zH ?_
    clear zH zX
    exact pk_bd (h.2.2 p hp) k
theorem dueR0 (sm : List (Int × Int)) (p : Int × Int) : dueR sm p (0 + ((0 : Nat) : Int)) = (maxL (sm.map (·.1))).fmod p.1 := by simp [dueR, dueM, pk]
theorem dueR1 (sm : List (Int × Int)) (p : Int × Int) : dueR sm p (0 + ((1 : Nat) : Int)) = (maxL (sm.map (·.2))).fmod p.2 := by simp [dueR, dueM, pk]
theorem dueQ0 (sm : List (Int × Int)) (p : Int × Int) : dueQ sm p (0 + ((0 : Nat) : Int)) = (maxL (sm.map (·.1))).fdiv p.1 := by simp [dueQ, dueM, pk]
theorem dueQ1 (sm : List (Int × Int)) (p : Int × Int) : dueQ sm p (0 + ((1 : Nat) : Int)) = (maxL (sm.map (·.2))).fdiv p.2 := by simp [dueQ, dueM, pk]
set_option maxRecDepth 100000
set_option maxHeartbeats 1000000

local macro_rules | `(tactic| walk_at "call builtin:max") => `(tactic| (k_here; (with_reducible show wpAny _ _ (call (Value.builtin "max") [Value.ref _]) _ _ _); k_dflt (refine' call_maxL ?k0 ?k1 ?k2 ?k3 ?k4 ?k5 ?_; (case k0 => rfl); (case k1 => k_asm); (case k2 => k_asm); (case k3 => k_mem); (case k4 => assumption); (case k5 => first | assumption | (simp only [List.length_map]; omega)); k_whole); intro h' t' tk' F' N'; (try k_sweep); (try dsimp only); (try k_fold)))
local macro_rules | `(tactic| walk_at "call builtin:min") => `(tactic| (k_here; (with_reducible show wpAny _ _ (call (Value.builtin "min") [Value.ref _]) _ _ _); k_dflt (refine' call_minL ?k0 ?k1 ?k2 ?k3 ?k4 ?k5 ?_; (case k0 => rfl); (case k1 => k_asm); (case k2 => k_asm); (case k3 => k_mem); (case k4 => assumption); (case k5 => first | assumption | (simp only [List.length_map]; omega)); k_whole); intro h' t' tk' F' N'; (try k_sweep); (try dsimp only); (try k_fold)))
local macro_rules | `(tactic| walk_at "subscriptTail") => `(tactic| (k_here; (with_reducible show wpAny _ _ (subscriptTail _ _ (Value.ref _) (Value.int _ _)) _ _ _); k_dflt (first
  | (refine' item_tup2 ?k1 ?k2 ?k4 ?k5 ?_ ?k7; (case k1 => k_asm); (case k2 => walk_at "mm"); (case k4 => walk_at "om"); (case k5 => walk_at "om"); (case k7 => with_unfolding_all rfl); k_whole; intro t')
  | (refine' item_tups ?k1 ?k2 ?k3 ?k4 ?k5 ?k6 ?_ ?k7; (case k1 => k_asm); (case k2 => walk_at "mm"); (case k3 => first | assumption | exact TupsAt.mono (by assumption) (by intro q hq; repeat (first | exact hq | apply List.mem_cons_of_mem))); (case k4 => walk_at "om"); (case k5 => walk_at "om"); (case k6 => walk_at "om"); (case k7 => with_unfolding_all rfl); k_whole; intro c' y1' y2' hm1'))))

def DueP (news : Led) (sm : List (Int × Int)) (p : Int × Int) (v : Value) (n' : Led) : Prop :=
  (((maxL (sm.map (·.1))).fmod p.1 = 0 ∧ (maxL (sm.map (·.2))).fmod p.2 = 0) ∧ TupP news ((maxL (sm.map (·.1))).fdiv p.1) ((maxL (sm.map (·.2))).fdiv p.2) v n') ∨
  (¬ ((maxL (sm.map (·.1))).fmod p.1 = 0 ∧ (maxL (sm.map (·.2))).fmod p.2 = 0) ∧ v = .none ∧ ∀ q ∈ news, q ∈ n')
theorem due_spec (w : World) (news : Led) (r : Addr) (vs : List Value) (kk : Nat) (sm : List (Int × Int)) (i : Int) (ti : Tok)
    (hr : (r, lstO vs kk) ∈ news) (hC : TupsAt news vs sm) (hS : SmOk sm) (hi0 : 0 ≤ i) (hi1 : i < sm.length) :
    Spec w 8 294 [.ref r, .int i ti] news (DueP news sm (sm.getD i.toNat (0, 0))) := by
  intro loose mean mg mb dp un gd cn cs a' ccd cl' outer A₀ base h₀ L m s Q E hB hF0 hX hN hT hk hdp hun hret
  revert hX; k_fill; intro hX
  refine opq ?_
  intro zX zH
  obtain ⟨hlen, hlen2, hall⟩ := id hS
  refine zH ?_
  clear zH zX
  have hb1 := hS.m1
  have hb2 := hS.m2
  have hb3 := hS.at (i := i.toNat) (by (walk_at "om"))
  refine wpAny_call ?_
  ktr_unf
  rename_i g' L' hh1 tk' FG F B X T l1 oA dA N
  replace dA : oA.data = .cell none := dA
  k_steps
  unfold Stop
  rename_i Fd h6 hl h7 F7 N7 h8 tk8 t8 u8 v8 lR' lF' lN' keep8
  refine opq ?_
  intro zX zH
  obtain ⟨q0, q1⟩ := hl
  refine zH ?_
  clear zH zX
  have off0 : OwnOff news [Fd, L' + 1] := ownOff_of l1 _ (by
    intro b hb
    simp only [List.mem_cons, List.not_mem_nil, or_false] at hb
    rcases hb with rfl | rfl <;> first | exact lt_a1 | exact lt_a2 | exact lt_a3 | exact lt_a4 | with_reducible assumption | exact Ne.symm (by with_reducible assumption) | (walk_at "om") | omega)
  refine' range_invTy (n := 2) (g := Str.ofString "greatest") (J := fun j led => ∃ oA' items kf rest, led = (Fd, PySem.W.listOf items kf) :: (L' + 1, oA') :: rest ∧ OwnOff rest [Fd, L' + 1] ∧ (∀ q ∈ news, q ∈ rest) ∧ (∃ v, oA'.data = .cell v) ∧
    IntsAre items.toList ((List.range j).map fun (t : Nat) => dueQ sm (sm.getD i.toNat (0, 0)) (0 + (t : Int))) ∧ ∀ t : Nat, t < j → dueR sm (sm.getD i.toNat (0, 0)) (0 + (t : Int)) = 0) (by rfl) (by rfl) lR' (by decide) (by decide) lF' lN' ?j ?turn ?done
  case j =>
    exact ⟨oA, _, _, news, rfl, off0, fun q hq => hq, ⟨_, dA⟩, .nil, fun t ht => absurd ht (Nat.not_lt_zero _)⟩
  case turn =>
    intro j uG led I it ts h tk hj hJ hit off F N
    refine opq ?_
    intro zX zH
    (refine' ea_4_6 (hJ) ?_; intro oA' items kf rest zr4 off1 hsub zr7 hIt hok; obtain rfl := zr4; obtain ⟨vA, dA'⟩ := zr7; (try clear hJ))
    refine zH ?_
    clear zH zX
    have offI := off1_of off
    simp only [LCg.Off1] at offI
    refine opq ?_
    intro zX zH
    obtain ⟨f1, f2, f6⟩ := offI
    refine zH ?_
    clear zH zX
    have hrr := hsub _ hr
    have hCr := hC.mono hsub
    have hj2 : j < 2 := hj
    have hpk : 1 ≤ pk ((sm.getD i.toNat (0, 0)).1, (sm.getD i.toNat (0, 0)).2) (0 + (j : Int)) ∧ pk ((sm.getD i.toNat (0, 0)).1, (sm.getD i.toNat (0, 0)).2) (0 + (j : Int)) ≤ 4 := pk_bd hb3 _
    have hpM : 1 ≤ maxL (sm.map fun p => pk p (0 + (j : Int))) ∧ maxL (sm.map fun p => pk p (0 + (j : Int))) ≤ 4 := pk_max hS _
    have hpos : 0 < sm.length := List.length_pos_iff.mpr hlen
    clear N7 F7 keep8 lR'
    k_sweep
    (try dsimp only)
    k_steps
    unfold Stop
    rename_i h9 oA2 F9 N9 d9
    refine LCg.ListComp_U (F₀ := F9) (by with_unfolding_all rfl) (by decide) (by rfl) (by decide) (by rfl) ?_
    k_steps
    unfold Stop
    rename Fr _ _ _ _ => lF'
    rename News _ _ _ _ => lN'
    refine LCg.CompSrc.ledger (its := vs.toArray) (k := kk) rfl lF' lN' (by k_mem) (Nat.le_trans (by simp only [List.size_toArray]; rw [hC.1]; (walk_at "om") : vs.toArray.size ≤ 100) (by decide)) fun gg => ?_
    refine compRest_inv (J := fun j2 ys n2 => (I, it) :: (Fd, PySem.W.listOf items kf) :: (L' + 1, oA2) :: rest = n2 ∧ IntsAre ys ((sm.take j2).map fun p => pk p (0 + (j : Int)))) ⟨rfl, .nil⟩ (.inr ⟨_, by k_mem, rfl, _, rfl⟩) ?turn2 ?fin2
    case turn2 =>
      intro j3 ys n2 v I2 oI C oC D m2 hh2 tk2 E' hj3 hys hJ hS3 hPv hC2 hx2 F N offs hne
      refine opq ?_
      intro zX zH
      obtain ⟨rfl, hI⟩ := hJ
      have hj4 : j3 < sm.length := by rw [← hC.1]; simpa using hj3
      (refine' ea_3_2 (hCr.2 j3 _ (List.getElem?_eq_getElem hj4)) ?_; intro c u1 u2 hc1 hc2)
      refine zH ?_
      clear zH zX
      have hv : v = .ref c := by
        have : vs[j3]? = some v := by simpa using hPv
        rw [hc1] at this; exact (Option.some.inj this).symm
      subst hv
      clear lF' lN'
      k_sweep
      (try dsimp only)
      k_steps
      unfold Stop
      rename Fr _ _ _ _ => lF'
      rename News _ _ _ _ => lN'
      refine LCg.CompEnd.intro lF' lN' _ (fun q hq => hq) offs hS3 ⟨rfl, ?_⟩
      rw [List.take_add_one, List.map_append, List.getElem?_eq_getElem hj4]
      exact ints_snoc hI _ _
    case fin2 =>
      intro ys n2 hys hJ
      refine opq ?_
      intro zX zH
      obtain ⟨rfl, hI⟩ := hJ
      refine zH ?_
      clear zH zX
      rw [List.size_toArray, hC.1, List.take_length] at hI
      unfold LCg.FinE
      intro D hh2 tk2 F N o1
      simp only [LCg.Off1] at o1
      refine opq ?_
      intro zX zH
      (refine' ea_0_4 (o1) ?_; intro e1 e2 e3 e4; (try clear o1))
      refine zH ?_
      clear zH zX
      clear lF' lN'
      k_sweep
      have hsz : items.size ≤ sizeLine := by
        have := hIt.length
        simp at this
        exact Nat.le_trans (by (walk_at "om") : items.size ≤ 100) (by decide)
      k_steps
      · unfold Stop
        rename ((_ : Int) * _ ≠ _) => hne
        have hR : dueR sm (sm.getD i.toNat (0, 0)) (0 + (j : Int)) ≠ 0 := fun e => hne ((fdiv_whole _ _).mpr e)
        dsimp only [UnrPost]
        k_steps
        refine hret _ _ _ _ (by assumption) (by assumption) (.inr ⟨?nn, rfl, ?ss⟩)
        case nn =>
          rintro ⟨z1, z2⟩
          have : j = 0 ∨ j = 1 := by (walk_at "om")
          rcases this with rfl | rfl
          · exact hR ((dueR0 _ _).trans z1)
          · exact hR ((dueR1 _ _).trans z2)
        case ss =>
          intro q hq
          have := hsub q hq
          simp only [List.mem_cons, this, or_true]
      · unfold Stop
        rename ((_ : Int) * _ = _) => heq
        have hR : dueR sm (sm.getD i.toNat (0, 0)) (0 + (j : Int)) = 0 := (fdiv_whole _ _).mp heq
        rename Fr _ _ _ _ => lF'
        rename News _ _ _ _ => lN'
        refine unrEnd_d1 lF' lN' (off1_mem ⟨f1, f2, f6⟩) ⟨fun z hz => by simp only [if_neg hz], oA2, _, _, rest, rfl, off1, hsub, ⟨_, d9⟩, ?hin, ?oks⟩
        case hin =>
          rw [Array.toList_push]
          exact ints_range (f := fun (t : Nat) => dueQ sm (sm.getD i.toNat (0, 0)) (0 + (t : Int))) hIt rfl _
        case oks =>
          intro t ht
          rcases Nat.lt_or_ge t j with h | h
          · exact hok t h
          · have : t = j := by (walk_at "om")
            subst this; exact hR
  case done =>
    intro uG led h tk hJ F N
    refine opq ?_
    intro zX zH
    (refine' ea_4_6 (hJ) ?_; intro oA' items kf rest zr4 off1 hsub zr7 hIt hok; obtain rfl := zr4; obtain ⟨vA, dA'⟩ := zr7; (try clear hJ))
    refine zH ?_
    clear zH zX
    clear N7 F7 keep8 lR'
    k_sweep
    (try dsimp only)
    k_steps
    rename News _ _ _ _ => lN'
    have hIt2 : IntsAre items.toList [dueQ sm (sm.getD i.toNat (0, 0)) (0 + ((0 : Nat) : Int)), dueQ sm (sm.getD i.toNat (0, 0)) (0 + ((1 : Nat) : Int))] := hIt
    refine opq ?_
    intro zX zH
    obtain ⟨t0, r0, e0, hr0⟩ := IntsAre.cons_inv hIt2
    obtain ⟨t1, r1, e1, hr1⟩ := IntsAre.cons_inv hr0
    refine zH ?_
    clear zH zX
    have e2 := IntsAre.nil_inv hr1
    subst e2
    subst e1
    rw [e0] at lN'
    have z1 := hok 0 (by decide)
    have z2 := hok 1 (by decide)
    rw [dueR0] at z1
    rw [dueR1] at z2
    rw [dueQ0, dueQ1] at lN'
    refine hret _ _ _ _ (by assumption) lN' (.inl ⟨⟨z1, z2⟩, _, t0, t1, rfl, List.mem_cons_self, fun q hq => ?_⟩)
    have := hsub q hq
    simp only [List.mem_cons, this, or_true]
end
end
section
open PySem PySem.W PyProof.Rows
theorem flush_B14 : (if (1 : Nat) = 1 then True else True) := by
  w_top off
  (try walk1)
  all_goals (first | trivial | simp)
end
section
open PySem PySem.W PyProof.Rows
set_option linter.unusedVariables false
section
theorem cut_at {α : Type} (us : List α) (b c : Nat) : (us.drop (min b us.length)).take (min (b + c) us.length - min b us.length) = (us.drop b).take c := by
  by_cases h : b ≤ us.length
  · rw [Nat.min_eq_left h]
    by_cases h2 : b + c ≤ us.length
    · rw [Nat.min_eq_left h2, Nat.add_sub_cancel_left]
    · rw [Nat.min_eq_right (by ((repeat (rename Ne _ _ => zz; clear zz)); omega)), List.take_of_length_le (by rw [List.length_drop]; omega), List.take_of_length_le (by rw [List.length_drop]; omega)]
  · rw [Nat.min_eq_right (show us.length ≤ b by ((repeat (rename Ne _ _ => zz; clear zz)); omega)), Nat.min_eq_right (show us.length ≤ b + c by ((repeat (rename Ne _ _ => zz; clear zz)); omega)), List.drop_of_length_le (Nat.le_refl _), List.drop_of_length_le (show us.length ≤ b by ((repeat (rename Ne _ _ => zz; clear zz)); omega))]; simp
section
variable {prog : Program} {w : World} {A : Around} {E : Value → Shared → Prop} {s : Shared} {h₀ : Heap} {L : Addr} {m : Str → Option Value} {news : Led} {value slice : PySem.Expr}
theorem slice_l {a : Addr} {us : List Value} {k : Nat} {x y : Int} {tx ty : Tok} {Q : Value → Shared → Prop} (b c : Nat) (F : Fr h₀ L s.heap m) (N : News h₀ L s.heap news) (hm : (a, lstO us k) ∈ news)
    (hx : x = (b : Int)) (hy : y = ((b + c : Nat) : Int)) (hz : us.length ≤ 100)
    (h : ∀ D h', Fr h₀ L h' m → News h₀ L h' ((D, lstO ((us.drop b).take c) 0) :: news) → (∀ p ∈ news, p.1 < D) → Q (.ref D) { s with heap := h' })
    (hs : subscripted slice false (.ref a) (.ref s.heap.objs.size) = operate [.ref s.heap.objs.size, .ref a] (getItem (.ref a) (.ref s.heap.objs.size))) :
    wpAny (model prog w) A (subscriptTail value slice (.ref a) (.ref s.heap.objs.size)) Q E { s with heap := s.heap.push { cls := .type "slice", data := .fields #[.int x tx, .int y ty, .none] } } :=
  kba_turn (value' := PySem.Expr.Name (Str.ofString "_") ⟨0, 0, 0, 0⟩) (fun _ => rfl) <| kms_slice_lit F N ⟨_, (N _ hm).1, rfl, k, rfl⟩ (IsPart.int _ _) (IsPart.int _ _) (by
    subst hx hy
    unfold kms_pick kms_lo kms_hi
    simp only [if_neg (show ¬ ((b : Int) < 0) by ((repeat (rename Ne _ _ => zz; clear zz)); omega)), if_neg (show ¬ (((b + c : Nat) : Int) < 0) by ((repeat (rename Ne _ _ => zz; clear zz)); omega)), Int.toNat_natCast]
    exact cut_at us b c) h hs (fun _ => rfl) (Nat.le_trans (by simpa using hz) (by decide : 100 ≤ sizeLine))
theorem add_l {a b : Addr} {us ws : List Value} {k k2 : Nat} {Q : Value → Shared → Prop} (F : Fr h₀ L s.heap m) (N : News h₀ L s.heap news) (ha : (a, lstO us k) ∈ news) (hb : (b, lstO ws k2) ∈ news) (hz : us.length + ws.length ≤ 20000)
    (h : ∀ D h', Fr h₀ L h' m → News h₀ L h' ((D, lstO (us ++ ws) 0) :: news) → (∀ p ∈ news, p.1 < D) → Q (.ref D) { s with heap := h' }) :
    wpAny (model prog w) A (binaryOp .Add (.ref a) (.ref b)) Q E s :=
  kmk_add_lit F N ⟨_, (N _ ha).1, rfl, k, rfl⟩ ⟨_, (N _ hb).1, rfl, k2, rfl⟩ (by simp) h (Nat.le_trans (by simpa using hz) (by decide : 20000 ≤ sizeLine))
end
theorem Rows.cut {news : Led} {vs : List Value} {cells : List (List Int)} {wd : Int} (h : Rows news vs cells wd) (b c : Nat) : Rows news ((vs.drop b).take c) ((cells.drop b).take c) wd := by
  refine ⟨by simp [h.1], fun i r e => ?_⟩
  have hi : i < c := by
    have := (List.getElem?_eq_some_iff.mp e).1
    simp at this; omega
  rw [List.getElem?_take_of_lt hi, List.getElem?_drop] at e ⊢
  exact h.2 _ _ e
def someF (cells : List (List Int)) (a d x y : Nat) : List Int := ((cells.drop (y * d)).take d).flatMap fun row => (row.drop (x * a)).take a
set_option maxRecDepth 100000
set_option maxHeartbeats 1000000

local macro_rules | `(tactic| walk_at "call builtin:max") => `(tactic| (k_here; (with_reducible show wpAny _ _ (call (Value.builtin "max") [Value.ref _]) _ _ _); k_dflt (refine' call_maxL ?k0 ?k1 ?k2 ?k3 ?k4 ?k5 ?_; (case k0 => rfl); (case k1 => k_asm); (case k2 => k_asm); (case k3 => k_mem); (case k4 => assumption); (case k5 => first | assumption | (simp only [List.length_map]; omega)); k_whole); intro h' t' tk' F' N'; (try k_sweep); (try dsimp only); (try k_fold)))
local macro_rules | `(tactic| walk_at "call builtin:min") => `(tactic| (k_here; (with_reducible show wpAny _ _ (call (Value.builtin "min") [Value.ref _]) _ _ _); k_dflt (refine' call_minL ?k0 ?k1 ?k2 ?k3 ?k4 ?k5 ?_; (case k0 => rfl); (case k1 => k_asm); (case k2 => k_asm); (case k3 => k_mem); (case k4 => assumption); (case k5 => first | assumption | (simp only [List.length_map]; omega)); k_whole); intro h' t' tk' F' N'; (try k_sweep); (try dsimp only); (try k_fold)))
local macro_rules | `(tactic| walk_at "subscriptTail") => `(tactic| (k_here; (with_reducible show wpAny _ _ (subscriptTail _ _ (Value.ref _) (Value.int _ _)) _ _ _); k_dflt (first
  | (refine' item_tup2 ?k1 ?k2 ?k4 ?k5 ?_ ?k7; (case k1 => k_asm); (case k2 => walk_at "mm"); (case k4 => walk_at "om"); (case k5 => walk_at "om"); (case k7 => with_unfolding_all rfl); k_whole; intro t')
  | (refine' item_tups ?k1 ?k2 ?k3 ?k4 ?k5 ?k6 ?_ ?k7; (case k1 => k_asm); (case k2 => walk_at "mm"); (case k3 => first | assumption | exact TupsAt.mono (by assumption) (by intro q hq; repeat (first | exact hq | apply List.mem_cons_of_mem))); (case k4 => walk_at "om"); (case k5 => walk_at "om"); (case k6 => walk_at "om"); (case k7 => with_unfolding_all rfl); k_whole; intro c' y1' y2' hm1'))))

local macro_rules | `(tactic| walk_at "subscriptTail") => `(tactic| (k_here; (with_reducible show wpAny _ _ (subscriptTail _ (PySem.Expr.Slice _ _ none _) (Value.ref _) (Value.ref _)) _ _ _); refine Stop.out ?_))
local macro_rules | `(tactic| walk_at "subscriptTail Name Slice ref ref") => `(tactic| (k_here; (with_reducible show wpAny _ _ (subscriptTail _ (PySem.Expr.Slice _ _ none _) (Value.ref _) (Value.ref _)) _ _ _); refine Stop.out ?_))
local macro_rules | `(tactic| walk_at "binaryOp Add ref ref") => `(tactic| (k_here; refine Stop.out ?_))
theorem shrunk_right_spec (w : World) (news : Led) (p r : Addr) (wd ht : Int) (vs : List Value) (kk : Nat) (cells : List (List Int)) (p2 r2 : Addr) (lw lh : Int) (vs2 : List Value) (kk2 : Nat) (cells2 : List (List Int)) (T : Addr) (a d : Int) (ta td : Tok)
    (hP : PlaneAt news p r wd ht) (hr : (r, lstO vs kk) ∈ news) (hR : Rows news vs cells wd) (hG : (cells.length : Int) = ht) (hw : 1 ≤ wd) (hh : 1 ≤ ht) (hw2 : wd ≤ 100) (hh2 : ht ≤ 100)
    (hP2 : PlaneAt news p2 r2 lw lh) (hr2 : (r2, lstO vs2 kk2) ∈ news) (hR2 : Rows news vs2 cells2 lw) (hG2 : (cells2.length : Int) = lh) (hlw : 1 ≤ lw) (hlh : 1 ≤ lh) (hlw2 : lw ≤ 100) (hlh2 : lh ≤ 100)
    (hT : (T, tupO [.int a ta, .int d td]) ∈ news) (ha0 : 1 ≤ a) (ha : a ≤ 100) (hd0 : 1 ≤ d) (hd : d ≤ 100)
    (H : ∀ x y : Nat, (x : Int) < lw → (y : Int) < lh → someF cells a.toNat d.toNat x y ≠ [] ∧ minL (someF cells a.toNat d.toNat x y) ≤ cellF cells2 x y ∧ cellF cells2 x y ≤ maxL (someF cells a.toNat d.toNat x y)) :
    Spec w 8 315 [.ref p, .ref p2, .ref T] news (fun v n' => v = .bool true ∧ ∀ q ∈ news, q ∈ n') := by
  intro loose mean mg mb dp un gd cn cs a' ccd cl' outer A₀ base h₀ L m s Q E hB hF0 hX hN hT0 hk hdp hun hret
  revert hX; k_fill; intro hX
  have hP' := hP
  refine opq ?_
  intro zX zH
  (refine' ea_10_2 (hP') ?_; intro dx h1 h2 h3 k1 k2 k3 t1 t2 n hp1 hp2; (try clear hP'))
  have hP2' := hP2
  (refine' ea_10_2 (hP2') ?_; intro dx' h1' h2' h3' k1' k2' k3' t1' t2' n' hp1' hp2'; (try clear hP2'))
  refine zH ?_
  clear zH zX
  refine wpAny_call ?_
  k_dflt ktr_enter
  rename_i g' L' hh1 FG F N B X TT
  k_steps
  unfold Stop
  rename Fr _ _ _ _ => lF'
  rename News _ _ _ _ => lN'
  rename IsRange _ _ _ _ _ _ _ _ => lR'
  refine' range_inv (n := lh.toNat) (J := fun j m₁ led => news = led ∧ ∀ z, z ≠ Str.ofString "y" → z ≠ Str.ofString "rows" → z ≠ Str.ofString "x" → z ≠ Str.ofString "some" → z ≠ Str.ofString "row" → m₁ z =
     [(Str.ofString "times", Value.ref T), (Str.ofString "lesser", Value.ref p2), (Str.ofString "plane", .ref p)].lookup z) (by rfl) (by rfl) lR' (small1 (by (walk_at "om")) (by (walk_at "om"))) (rsize1 lh) lF' lN' ?j ?turn ?done
  case j => exact ⟨rfl, fun z h1 h2 h3 h4 h5 => rfl⟩
  case turn =>
    intro y m₁ n₁ I it ts h tk hy hJ hit off F N
    refine opq ?_
    intro zX zH
    obtain ⟨rfl, hz⟩ := hJ
    refine zH ?_
    clear zH zX
    have F2 : Fr g' L' h (fun z => if z = Str.ofString "y" then some (Value.int (0 + (y : Int)) ts) else if z = Str.ofString "rows" then m₁ z else if z = Str.ofString "x" then m₁ z else if z = Str.ofString "some" then m₁ z else if z = Str.ofString "row" then m₁ z else [(Str.ofString "times", Value.ref T), (Str.ofString "lesser", Value.ref p2), (Str.ofString "plane", .ref p)].lookup z) := fr_eq F fun z => by
      (repeat' split) <;> first | rfl | (apply hz <;> assumption)
    clear F lF' lN' lR'
    k_sweep
    k_steps
    unfold Stop
    rename Fr _ _ _ _ => lF'
    rename News _ _ _ _ => lN'
    refine' slice_l (y * d.toNat) d.toNat lF' lN' ?cm ?cx ?cy ?cz ?ch ?cs
    case cm => k_mem
    case cx => show (0 + (y : Int)) * d = _; rw [Int.natCast_mul, Int.toNat_of_nonneg (by (walk_at "om")), Int.zero_add]
    case cy => show (0 + (y : Int) + 1) * d = _; rw [Int.natCast_add, Int.natCast_mul, Int.toNat_of_nonneg (by (walk_at "om")), Int.zero_add, Int.add_mul, Int.one_mul]
    case cz => rw [hR.1]; (walk_at "om")
    case cs => with_unfolding_all rfl
    case ch =>
    intro Dr h' F N oDr
    clear lF' lN'
    k_sweep
    have hZ := hR.cut (y * d.toNat) d.toNat
    have hoff2 := off
    k_steps
    unfold Stop
    rename Fr _ _ _ _ => lF'
    rename News _ _ _ _ => lN'
    rename IsRange _ _ _ _ _ _ _ _ => lR'
    refine' range_inv (n := lw.toNat) (J := fun j m₁ led => ((Dr, lstO (List.take d.toNat (List.drop (y * d.toNat) vs)) 0) :: (I, it) :: news) = led ∧ ∀ z, z ≠ Str.ofString "x" → z ≠ Str.ofString "some" → z ≠ Str.ofString "row" → m₁ z =
      if z = Str.ofString "rows" then some (Value.ref Dr) else if z = Str.ofString "y" then some (Value.int (0 + (y : Int)) ts) else [(Str.ofString "times", Value.ref T), (Str.ofString "lesser", Value.ref p2), (Str.ofString "plane", .ref p)].lookup z) (by rfl) (by rfl) lR' (small1 (by (walk_at "om")) (by (walk_at "om"))) (rsize1 lw) lF' lN' ?jx ?turnx ?donex
    case jx =>
      refine ⟨rfl, fun z h1 h2 h3 => ?_⟩
      simp only [if_neg h1, if_neg h2, if_neg h3]
      by_cases e1 : z = Str.ofString "rows"
      · simp only [if_pos e1]
      · simp only [if_neg e1]
    case turnx =>
      intro x m₂ n₂ Ix itx tx h2 tk2 hx hJx hitx offx F N
      refine opq ?_
      intro zX zH
      obtain ⟨rfl, hzx⟩ := hJx
      refine zH ?_
      clear zH zX
      have F2 : Fr g' L' h2 (fun z => if z = Str.ofString "x" then some (Value.int (0 + (x : Int)) tx) else if z = Str.ofString "some" then m₂ z else if z = Str.ofString "row" then m₂ z else if z = Str.ofString "rows" then some (Value.ref Dr) else if z = Str.ofString "y" then some (Value.int (0 + (y : Int)) ts) else [(Str.ofString "times", Value.ref T), (Str.ofString "lesser", Value.ref p2), (Str.ofString "plane", .ref p)].lookup z) := fr_eq F fun z => by
        by_cases e1 : z = Str.ofString "x"
        · simp only [if_pos e1]
        · by_cases e2 : z = Str.ofString "some"
          · simp only [if_neg e1, if_pos e2]
          · by_cases e3 : z = Str.ofString "row"
            · simp only [if_neg e1, if_neg e2, if_pos e3]
            · simp only [if_neg e1, if_neg e2, if_neg e3]; exact hzx z e1 e2 e3
      clear F lF' lN' lR'
      k_sweep
      have hxl : (x : Int) < lw := by (walk_at "om")
      have hyl : (y : Int) < lh := by (walk_at "om")
      refine opq ?_
      intro zX zH
      obtain ⟨Hne, Hmin, Hmax⟩ := H x y hxl hyl
      refine zH ?_
      clear zH zX
      k_steps
      rename Fr _ _ _ _ => lF'
      with_unfolding_all refine' For_invVF lF' ?k1 ?k2 ?_
      case k1 => exact rfl
      case k2 => exact rfl
      k_steps
      unfold Stop
      rename Fr _ _ _ _ => lF'
      rename News _ _ _ _ => lN'
      rename_i D0 hD0 hltD hH0
      have hzl : ((cells.drop (y * d.toNat)).take d.toNat).length ≤ 100 := by simp only [List.length_take, List.length_drop]; (walk_at "om")
      refine' list_inv (ax := Dr) (vs := List.take d.toNat (List.drop (y * d.toNat) vs)) (n := 0) (J := fun i m led => ∃ D us k, led = (D, lstO us k) :: (Ix, itx) :: (Dr, lstO (List.take d.toNat (List.drop (y * d.toNat) vs)) 0) :: (I, it) :: news ∧ m (Str.ofString "some") = some (Value.ref D) ∧
        IntsAre us ((((cells.drop (y * d.toNat)).take d.toNat).take i).flatMap fun row => (row.drop (x * a.toNat)).take a.toNat) ∧ us.length ≤ i * 100 ∧ ∀ z, z ≠ Str.ofString "some" → z ≠ Str.ofString "row" → m z =
        if z = Str.ofString "x" then some (Value.int (0 + (x : Int)) tx) else if z = Str.ofString "rows" then some (Value.ref Dr) else if z = Str.ofString "y" then some (Value.int (0 + (y : Int)) ts) else [(Str.ofString "times", Value.ref T), (Str.ofString "lesser", Value.ref p2), (Str.ofString "plane", .ref p)].lookup z) (by rfl) (by rfl) lF' lN' (by k_mem) rfl rfl ?jr ?turnr ?doner
      case jr =>
        refine ⟨_, [], 0, rfl, rfl, .nil, Nat.zero_le _, fun z h1 h2 => ?_⟩
        simp only [if_neg h1, if_neg h2]
      case turnr =>
        intro i v m₃ n₃ Ir itr h3 tk3 hv hJr hmr hitr offr F N
        refine opq ?_
        intro zX zH
        (refine' ea_3_5 (hJr) ?_; intro D us k zr3 hsm hI hlen hzr; obtain rfl := zr3; (try clear hJr))
        have hi : i < ((cells.drop (y * d.toNat)).take d.toNat).length := by rw [← hZ.1]; exact (List.getElem?_eq_some_iff.mp hv).1
        obtain ⟨hrl, ra, rus, rk, hrv, hrm, hrI⟩ := hZ.2 i _ (List.getElem?_eq_getElem hi)
        refine zH ?_
        clear zH zX
        have hv2 : v = .ref ra := by rw [hrv] at hv; exact (Option.some.inj hv).symm
        subst hv2
        have F2 : Fr g' L' h3 (fun z => if z = Str.ofString "row" then some (Value.ref ra) else if z = Str.ofString "some" then some (Value.ref D) else if z = Str.ofString "x" then some (Value.int (0 + (x : Int)) tx) else if z = Str.ofString "rows" then some (Value.ref Dr) else if z = Str.ofString "y" then some (Value.int (0 + (y : Int)) ts) else [(Str.ofString "times", Value.ref T), (Str.ofString "lesser", Value.ref p2), (Str.ofString "plane", .ref p)].lookup z) := fr_eq F fun z => by
          by_cases e1 : z = Str.ofString "row"
          · simp only [if_pos e1]
          · by_cases e2 : z = Str.ofString "some"
            · simp only [if_neg e1, if_pos e2]; rw [e2]; exact hsm
            · simp only [if_neg e1, if_neg e2]; exact hzr z e2 e1
        clear F lF' lN'
        k_sweep
        have hrl2 : rus.length ≤ 100 := by rw [hrI.length]; (walk_at "om")
        k_steps
        unfold Stop
        rename Fr _ _ _ _ => lF'
        rename News _ _ _ _ => lN'
        refine' slice_l (x * a.toNat) a.toNat lF' lN' ?cm ?cx ?cy ?cz ?ch ?cs
        case cm => exact List.mem_cons_of_mem _ (by k_mem)
        case cx => show (0 + (x : Int)) * a = _; rw [Int.natCast_mul, Int.toNat_of_nonneg (by (walk_at "om")), Int.zero_add]
        case cy => show (0 + (x : Int) + 1) * a = _; rw [Int.natCast_add, Int.natCast_mul, Int.toNat_of_nonneg (by (walk_at "om")), Int.zero_add, Int.add_mul, Int.one_mul]
        case cz => exact hrl2
        case cs => with_unfolding_all rfl
        case ch =>
        intro Ds h4 F N oDs
        clear lF' lN'
        k_sweep
        have hcl : (List.take a.toNat (List.drop (x * a.toNat) rus)).length ≤ 100 := by simp only [List.length_take, List.length_drop]; (walk_at "om")
        k_steps
        unfold Stop
        rename Fr _ _ _ _ => lF'
        rename News _ _ _ _ => lN'
        refine add_l lF' lN' (by k_mem) (by k_mem) (by (walk_at "om")) (fun D2 h5 F N oD2 => ?_)
        clear lF' lN'
        k_sweep
        k_steps
        unfold Stop
        rename Fr _ _ _ _ => lF'
        rename News _ _ _ _ => lN'
        refine UnrEnd.intro lF' lN' ((D2, lstO (us ++ List.take a.toNat (List.drop (x * a.toNat) rus)) 0) :: (Ix, itx) :: (Dr, lstO (List.take d.toNat (List.drop (y * d.toNat) vs)) 0) :: (I, it) :: news) ?sub ?offe ⟨by k_mem, D2, _, _, rfl, rfl, ?hints, ?len, ?mapz⟩
        case sub =>
          repeat (refine sub_cons ?_ ?_; focus k_mem)
          repeat (first | exact sub_nil | exact sub_id | refine sub_tl ?_)
        case offe =>
          intro q hq
          rcases List.mem_cons.mp hq with rfl | h
          · exact Nat.ne_of_gt (oD2 (Ir, itr) (by k_mem))
          · exact offr q (List.mem_cons_of_mem _ h)
        case hints =>
          rw [List.take_add_one, List.flatMap_append, List.getElem?_eq_getElem hi]
          simp only [Option.toList_some, List.flatMap_cons, List.flatMap_nil, List.append_nil]
          exact hI.append ((hrI.drop _).take _)
        case len =>
          rw [List.length_append]; (walk_at "om")
        case mapz =>
          intro z h1 h2
          simp only [if_neg h1, if_neg h2]
      case doner =>
        intro m₃ n₃ h3 tk3 hJr F N
        refine opq ?_
        intro zX zH
        (refine' ea_3_5 (hJr) ?_; intro D us k zr3 hsm hI hlen hzr; obtain rfl := zr3; (try clear hJr))
        refine zH ?_
        clear zH zX
        rw [hZ.1, List.take_length] at hI
        have hI2 : IntsAre us (someF cells a.toNat d.toNat x y) := hI
        clear hI
        have hpos : 0 < (someF cells a.toNat d.toNat x y).length := List.length_pos_iff.mpr Hne
        have F2 : Fr g' L' h3 (fun z => if z = Str.ofString "row" then m₃ z else if z = Str.ofString "some" then some (Value.ref D) else if z = Str.ofString "x" then some (Value.int (0 + (x : Int)) tx) else if z = Str.ofString "rows" then some (Value.ref Dr) else if z = Str.ofString "y" then some (Value.int (0 + (y : Int)) ts) else [(Str.ofString "times", Value.ref T), (Str.ofString "lesser", Value.ref p2), (Str.ofString "plane", .ref p)].lookup z) := fr_eq F fun z => by
          by_cases e1 : z = Str.ofString "row"
          · simp only [if_pos e1]
          · by_cases e2 : z = Str.ofString "some"
            · simp only [if_neg e1, if_pos e2]; rw [e2]; exact hsm
            · simp only [if_neg e1, if_neg e2]; exact hzr z e2 e1
        clear F lF' lN'
        k_sweep
        have Hmin2 : minL (someF cells a.toNat d.toNat x y) ≤ (cells2.getD (0 + (y : Int)).toNat []).getD (0 + (x : Int)).toNat 0 := by rw [Int.zero_add, Int.zero_add]; exact Hmin
        have Hmax2 : (cells2.getD (0 + (y : Int)).toNat []).getD (0 + (x : Int)).toNat 0 ≤ maxL (someF cells a.toNat d.toNat x y) := by rw [Int.zero_add, Int.zero_add]; exact Hmax
        k_steps
        unfold Stop
        rename Fr _ _ _ _ => lF'
        rename News _ _ _ _ => lN'
        refine UnrEnd.intro lF' lN' ((Dr, lstO (List.take d.toNat (List.drop (y * d.toNat) vs)) 0) :: (I, it) :: news) ?sub ?offe ⟨rfl, ?mapz⟩
        case sub =>
          repeat (refine sub_cons ?_ ?_; focus k_mem)
          repeat (first | exact sub_nil | exact sub_id | refine sub_tl ?_)
        case offe => exact offx
        case mapz =>
          intro z h1 h2 h3
          simp only [if_neg h1, if_neg h2, if_neg h3]
    case donex =>
      intro m₂ n₂ h2 tk2 hJx F N
      refine opq ?_
      intro zX zH
      obtain ⟨rfl, hzx⟩ := hJx
      refine zH ?_
      clear zH zX
      clear lF' lN' lR'
      k_sweep
      k_steps
      unfold Stop
      rename Fr _ _ _ _ => lF'
      rename News _ _ _ _ => lN'
      refine UnrEnd.intro lF' lN' news (fun q hq => List.mem_cons_of_mem _ hq) off ⟨rfl, ?mapz⟩
      case mapz =>
        intro z h1 h2 h3 h4 h5
        rw [hzx z h3 h4 h5]
        simp only [if_neg h1, if_neg h2]
  case done =>
    intro m₁ n₁ h tk hJ F N
    refine opq ?_
    intro zX zH
    obtain ⟨rfl, hz⟩ := hJ
    refine zH ?_
    clear zH zX
    clear lF' lN' lR'
    k_sweep
    k_steps
    exact hret _ _ _ _ (by assumption) (by assumption) ⟨rfl, fun q hq => hq⟩
end
end
section
open PySem PySem.W PyProof.Rows
theorem flush_L2 : (if (1 : Nat) = 1 then True else True) := by
  w_top off
  (try walk1)
  all_goals (first | trivial | simp)
end
section
open PySem PySem.W PyProof.Rows
set_option linter.unusedVariables false
section
section
variable {prog : Program} {w : World} {A : Around} {E : Value → Shared → Prop} {s : Shared} {h₀ h : Heap} {L : Addr} {m : Str → Option Value} {news : Led}
/-- some entries to the front, the rest off them -/
theorem news_split (cs : Led) {n' : Led} (N : News h₀ L h n') (hin : ∀ q ∈ cs, q ∈ n') : ∃ rest : Led, News h₀ L h (cs ++ rest) ∧ OwnOff rest (cs.map (·.1)) ∧ (∀ q ∈ n', (∀ c ∈ cs, q.1 ≠ c.1) → q ∈ rest) ∧ (∀ q ∈ rest, q ∈ n') ∧
    ∀ q ∈ n', (∀ c ∈ cs, q.2 ≠ c.2) → q ∈ rest := by
  classical
  refine ⟨n'.filter (fun q => decide (∀ c ∈ cs, q.1 ≠ c.1)), ?_, ?_, ?_, ?_, ?_⟩
  · intro q hq
    rcases List.mem_append.mp hq with h1 | h1
    · exact N q (hin q h1)
    · exact N q (List.mem_filter.mp h1).1
  · intro q hq b hb
    obtain ⟨c, hc, rfl⟩ := List.mem_map.mp hb
    exact (of_decide_eq_true (List.mem_filter.mp hq).2) c hc
  · intro q hq h1
    exact List.mem_filter.mpr ⟨hq, decide_eq_true h1⟩
  · intro q hq
    exact (List.mem_filter.mp hq).1
  · intro q hq h1
    refine List.mem_filter.mpr ⟨hq, decide_eq_true fun c hc e => h1 c hc ?_⟩
    have e1 := (N q hq).1
    have e2 := (N c (hin c hc)).1
    rw [e, e2] at e1
    exact (Option.some.inj e1).symm
end
theorem Rows.filt {n' rest : Led} {vs : List Value} {cells : List (List Int)} {wd : Int} (h : Rows n' vs cells wd) (hs : ∀ q ∈ n', (∀ v, q.2.data ≠ .cell v) → q ∈ rest) : Rows rest vs cells wd :=
  ⟨h.1, fun i c e => by obtain ⟨a, b, us, k, x, y, z⟩ := h.2 i c e; exact ⟨a, b, us, k, x, hs _ y (fun _ e => by cases e), z⟩⟩
theorem PlaneAt.filt {n' rest : Led} {p r : Addr} {wd ht : Int} (h : PlaneAt n' p r wd ht) (hs : ∀ q ∈ n', (∀ v, q.2.data ≠ .cell v) → q ∈ rest) : PlaneAt rest p r wd ht := by
  obtain ⟨dx, h1, h2, h3, k1, k2, k3, t1, t2, n, a, b⟩ := h
  exact ⟨dx, h1, h2, h3, k1, k2, k3, t1, t2, n, hs _ a (fun _ e => by cases e), hs _ b (fun _ e => by cases e)⟩
theorem datInts {news : Led} : ∀ {us : List Value} {c : List Int}, IntsAre us c → DatAll news us (c.map Dat.int)
  | _, _, .nil => .nil
  | _, _, .cons n t r => .cons (.int n t) (datInts r)
theorem Rows.dat {news : Led} : ∀ {cells : List (List Int)} {vs : List Value} {wd : Int}, Rows news vs cells wd → DatAll news vs (cells.map fun c => Dat.list (c.map Dat.int))
  | [], vs, wd, h => by
    have : vs = [] := List.length_eq_zero_iff.mp (by rw [h.1]; rfl)
    subst this; exact .nil
  | c :: r, vs, wd, h => by
    cases vs with
    | nil => have := h.1; simp at this
    | cons v vs =>
      obtain ⟨hl, a, us, k, hv, hm, hI⟩ := h.2 0 c rfl
      have : v = .ref a := by simpa using hv
      subst this
      refine .cons (.list hm (datInts hI)) (Rows.dat (wd := wd) ⟨by have := h.1; simpa using this, fun i c e => ?_⟩)
      have := h.2 (i + 1) c (by simpa using e)
      simpa using this
section
variable {prog : Program} {w : World} {A : Around} {E : Value → Shared → Prop} {s : Shared} {h₀ h : Heap} {L : Addr} {m : Str → Option Value} {news : Led}
theorem eq_rows {r1 r2 : Addr} {vs1 vs2 : List Value} {k1 k2 : Nat} {cells : List (List Int)} {w1 w2 : Int} {Q : Value → Shared → Prop} (N : News h₀ L s.heap news) (m1 : (r1, lstO vs1 k1) ∈ news) (R1 : Rows news vs1 cells w1) (m2 : (r2, lstO vs2 k2) ∈ news) (R2 : Rows news vs2 cells w2)
    (hu : A.units + 64 < cLine) (h : Q (.bool true) s) : wpAny (model prog w) A (compareOp .Eq (.ref r1) (.ref r2)) Q E s := by
  have ok : ∀ d ∈ cells.map (fun c => Dat.list (c.map Dat.int)), kqdOk 8 d = true := by
    intro d hd
    obtain ⟨c, _, rfl⟩ := List.mem_map.mp hd
    rw [kqdOk, List.all_eq_true]
    intro e he
    obtain ⟨i, _, rfl⟩ := List.mem_map.mp he
    rfl
  refine kqd_eq N m1 rfl rfl R1.dat (fun _ h => h) m2 rfl rfl R2.dat (fun _ h => h) ok ok hu ?_
  simpa using h
end
section
variable {prog : Program} {w : World} {A : Around} {E : Value → Shared → Prop} {s : Shared} {h₀ : Heap} {L : Addr} {news : Led} {value slice : PySem.Expr}
theorem item_t0 {T : Addr} {a d : Int} {ta td u : Tok} {Q : Value → Shared → Prop} (N : News h₀ L s.heap news) (hm : (T, tupO [.int a ta, .int d td]) ∈ news) (h : ∀ t, Q (.int a t) s)
    (hs : subscripted slice false (.ref T) (.int 0 u) = operate [.ref T, .int 0 u] (getItem (.ref T) (.int 0 u))) : wpAny (model prog w) A (subscriptTail value slice (.ref T) (.int 0 u)) Q E s :=
  item_tup2 N hm (by decide) (by decide) h hs
theorem item_t1 {T : Addr} {a d : Int} {ta td u : Tok} {Q : Value → Shared → Prop} (N : News h₀ L s.heap news) (hm : (T, tupO [.int a ta, .int d td]) ∈ news) (h : ∀ t, Q (.int d t) s)
    (hs : subscripted slice false (.ref T) (.int 1 u) = operate [.ref T, .int 1 u] (getItem (.ref T) (.int 1 u))) : wpAny (model prog w) A (subscriptTail value slice (.ref T) (.int 1 u)) Q E s :=
  item_tup2 N hm (by decide) (by decide) h hs
end
end
end
section
open PySem PySem.W PyProof.Rows
theorem flush_B15 : (if (1 : Nat) = 1 then True else True) := by
  w_top off
  (try walk1)
  all_goals (first | trivial | simp)
end
section
open PySem PySem.W PyProof.Rows
set_option linter.unusedVariables false
section
set_option maxRecDepth 100000
set_option maxHeartbeats 1000000

local macro_rules | `(tactic| walk_at "subscriptTail") => `(tactic| (k_here; (with_reducible show wpAny _ _ (subscriptTail _ _ (Value.ref _) (Value.int _ _)) _ _ _); k_dflt (first
  | (refine' item_tup2 ?k1 ?k2 ?k4 ?k5 ?_ ?k7; (case k1 => k_asm); (case k2 => walk_at "mm"); (case k4 => walk_at "om"); (case k5 => walk_at "om"); (case k7 => with_unfolding_all rfl); k_whole; intro t')
  | (refine' item_tups ?k1 ?k2 ?k3 ?k4 ?k5 ?k6 ?_ ?k7; (case k1 => k_asm); (case k2 => walk_at "mm"); (case k3 => first | assumption | exact TupsAt.mono (by assumption) (by intro q hq; repeat (first | exact hq | apply List.mem_cons_of_mem))); (case k4 => walk_at "om"); (case k5 => walk_at "om"); (case k6 => walk_at "om"); (case k7 => with_unfolding_all rfl); k_whole; intro c' y1' y2' hm1'))))
local macro_rules | `(tactic| walk_at "subscriptTail") => `(tactic| (k_here; (with_reducible show wpAny _ _ (subscriptTail _ _ (Value.ref _) (Value.int 0 _)) _ _ _); k_dflt (refine' item_t0 ?k1 ?k2 ?_ ?k7; (case k1 => k_asm); (case k2 => walk_at "mm"); (case k7 => with_unfolding_all rfl); k_whole; intro t')))
local macro_rules | `(tactic| walk_at "subscriptTail") => `(tactic| (k_here; (with_reducible show wpAny _ _ (subscriptTail _ _ (Value.ref _) (Value.int 1 _)) _ _ _); k_dflt (refine' item_t1 ?k1 ?k2 ?_ ?k7; (case k1 => k_asm); (case k2 => walk_at "mm"); (case k7 => with_unfolding_all rfl); k_whole; intro t')))

local macro_rules | `(tactic| walk_at "call ref") => `(tactic| (k_here; (with_reducible show wpAny _ _ (call (Value.ref 246) _) _ _ _); k_dflt (refine' Spec.use2 (grown_spec _ _ _ _ _ _ _ _ _ _ _ _ _ _ _ _ _ ?p0 ?p1 ?p2 ?p3 ?p4 ?p5 ?p6 ?p7 ?p8 ?p9 ?p10 ?p11 ?p12 ?p13 ?p14 ?p15) ?kk ?_; (case kk => walk_at "kk"); (case p0 => walk_at "pl"); (case p1 => k_mem); (case p2 => walk_at "rw"); (case p3 => assumption); (case p4 => walk_at "om"); (case p5 => walk_at "om"); (case p6 => walk_at "om"); (case p7 => walk_at "om"); (case p8 => walk_at "om"); (case p9 => walk_at "om"); (case p10 => walk_at "om"); (case p11 => walk_at "om"); (case p12 => walk_at "om"); (case p13 => walk_at "om"); (case p14 => walk_at "om"); (case p15 => walk_at "om"); k_whole); walk_at "st"))
local macro_rules | `(tactic| walk_at "call ref") => `(tactic| (k_here; (with_reducible show wpAny _ _ (call (Value.ref 225) _) _ _ _); k_dflt (refine' Spec.use2 (shrunk_spec _ _ _ _ _ _ _ _ _ _ _ _ _ ?p0 ?p1 ?p2 ?p3 ?p4 ?p5 ?p6 ?p7 ?p8 ?p9 ?p10 ?p11) ?kk ?_; (case kk => walk_at "kk"); (case p0 => walk_at "pl"); (case p1 => k_mem); (case p2 => walk_at "rw"); (case p3 => assumption); (case p4 => walk_at "om"); (case p5 => walk_at "om"); (case p6 => walk_at "om"); (case p7 => walk_at "om"); (case p8 => walk_at "om"); (case p9 => walk_at "om"); (case p10 => walk_at "om"); (case p11 => walk_at "om"); k_whole); walk_at "st"))
local macro_rules | `(tactic| walk_at "compareOp NotEq ref ref") => `(tactic| (k_here; refine Stop.out ?_))
local macro_rules | `(tactic| walk_at "compareOp Eq ref ref") => `(tactic| (k_here; refine Stop.out ?_))
theorem grown_right_spec (w : World) (news : Led) (f fl : Addr) (wd ht : Int) (p r : Addr) (lw lh : Int) (vs : List Value) (kk : Nat) (cells : List (List Int)) (T : Addr) (a d : Int) (ta td : Tok)
    (hFr : FrameAt news f fl wd ht) (hw : 1 ≤ wd) (hh : 1 ≤ ht) (hw2 : wd ≤ 100) (hh2 : ht ≤ 100)
    (hP : PlaneAt news p r lw lh) (hr : (r, lstO vs kk) ∈ news) (hR : Rows news vs cells lw) (hG : (cells.length : Int) = lh) (hlw : 1 ≤ lw) (hlh : 1 ≤ lh) (hlw2 : lw ≤ 100) (hlh2 : lh ≤ 100)
    (hT : (T, tupO [.int a ta, .int d td]) ∈ news) (ha0 : 1 ≤ a) (ha : a ≤ 100) (hd0 : 1 ≤ d) (hd : d ≤ 100)
    (Hx : ∀ x : Nat, (x : Int) < wd → 0 ≤ Int.fdiv (0 + (x : Int)) a ∧ Int.fdiv (0 + (x : Int)) a < lw) (Hy : ∀ y : Nat, (y : Int) < ht → 0 ≤ Int.fdiv (0 + (y : Int)) d ∧ Int.fdiv (0 + (y : Int)) d < lh)
    (Hg : ∀ y : Nat, (y : Int) < ht → (repF cells lw lh a d wd ht).getD (0 + (y : Int)).toNat [] = (List.range wd.toNat).map fun (tu : Nat) => (cells.getD (Int.fdiv (0 + (y : Int)) d).toNat []).getD (Int.fdiv (0 + (tu : Int)) a).toNat 0)
    (Hs : shrF (repF cells lw lh a d wd ht) wd ht a d = cells) :
    Spec w 20 320 [.ref f, .ref p, .ref T] news (fun v n' => v = .bool true ∧ ∀ q ∈ news, q ∈ n') := by
  intro loose mean mg mb dp un gd cn cs a' ccd cl' outer A₀ base h₀ L m s Q E hB hF0 hX hN hT0 hk hdp hun hret
  revert hX; k_fill; intro hX
  have hP' := hP
  refine opq ?_
  intro zX zH
  (refine' ea_10_2 (hP') ?_; intro dx h1 h2 h3 k1 k2 k3 t1 t2 n hp1 hp2; (try clear hP'))
  have hF' := hFr
  (refine' ea_19_2 (hF') ?_; intro fx g1 g2 g3 g4 g5 g6 q1 q2 q3 q4 q5 q6 u3 u4 w1 w2 w6 n' hf1 hf2; (try clear hF'))
  refine zH ?_
  clear zH zX
  refine wpAny_call ?_
  ktr_unf
  rename_i g' L' h' tk' FG F B X TT l1 oY oT oP dY dT dP N
  replace dP : oP.data = .cell (some (.ref p)) := dP
  replace dT : oT.data = .cell (some (.ref T)) := dT
  replace dY : oY.data = .cell none := dY
  have off0 : OwnOff news [L' + 1 + 1 + 1, L' + 1 + 1, L' + 1] := ownOff_of l1 _ (by
    intro b hb
    simp only [List.mem_cons, List.not_mem_nil, or_false] at hb
    rcases hb with rfl | rfl | rfl <;> first | exact lt_a1 | exact lt_a2 | exact lt_a3 | exact lt_a4 | with_reducible assumption | exact Ne.symm (by with_reducible assumption) | (walk_at "om") | omega)
  k_steps
  unfold Stop
  rename_i v9 n9 h9 tk9 F9 N9 P9
  refine opq ?_
  intro zX zH
  (refine' ea_4_5 (P9) ?_; intro pf rf vsf kf zr4 hPf hrf hRf hsf; obtain rfl := zr4; (try clear P9))
  refine zH ?_
  clear zH zX
  obtain ⟨rest, N2, off1, hin1, hin2, hin3⟩ := news_split [(L' + 1 + 1 + 1, oY), (L' + 1 + 1, oT), (L' + 1, oP)] N9 (by
    intro q hq
    refine hsf q ?_
    simp only [List.mem_cons, List.not_mem_nil, or_false] at hq ⊢
    rcases hq with h | h | h <;> simp only [h, true_or, or_true])
  have hin4 : ∀ q ∈ n9, (∀ v, q.2.data ≠ .cell v) → q ∈ rest := fun q hq hv => hin3 q hq fun c hc e => by
    simp only [List.mem_cons, List.not_mem_nil, or_false] at hc
    rcases hc with rfl | rfl | rfl
    · exact hv _ (by rw [e]; exact dY)
    · exact hv _ (by rw [e]; exact dT)
    · exact hv _ (by rw [e]; exact dP)
  have hnr : ∀ q ∈ news, q ∈ rest := fun q hq => hin1 q (hsf q (by simp only [List.mem_cons, hq, or_true])) fun c hc => by
    refine off0 q hq c.1 ?_
    simp only [List.mem_cons, List.not_mem_nil, or_false] at hc ⊢
    rcases hc with rfl | rfl | rfl <;> simp only [true_or, or_true]
  replace hPf := hPf.filt hin4
  replace hRf := hRf.filt hin4
  replace hrf : (rf, lstO vsf kf) ∈ rest := hin4 _ hrf (fun _ e => by cases e)
  clear hin1 hin2 hin3 hin4 N9 hsf
  replace hP := hP.mono hnr
  replace hr := hnr _ hr
  replace hR := hR.mono hnr
  replace hT := hnr _ hT
  replace hf1 := hnr _ hf1
  replace hf2 := hnr _ hf2
  replace hp1 := hnr _ hp1
  replace hp2 := hnr _ hp2
  have off2 : OwnOff rest [L' + 1 + 1 + 1, L' + 1 + 1, L' + 1] := off1
  have hPf' := hPf
  refine opq ?_
  intro zX zH
  (refine' ea_10_2 (hPf') ?_; intro fdx e1 e2 e3 o1 o2 o3 x1 x2 n'' hpf1 hpf2; (try clear hPf'))
  refine zH ?_
  clear zH zX
  simp only [List.cons_append, List.nil_append] at N2
  clear off1 N off0
  k_sweep
  have hRfl : ((repF cells lw lh a d wd ht).length : Int) = ht := by unfold repF; rw [List.length_map, List.length_range]; (walk_at "om")
  k_steps
  unfold Stop
  rename_i h8 tk8 t8 u8 v8 lR' lF' lN' keep8
  refine' range_invTm (n := ht.toNat) (J := fun i led => ∃ oY', led = (L' + 1 + 1 + 1, oY') :: (L' + 1 + 1, oT) :: (L' + 1, oP) :: rest ∧ (∃ v, oY'.data = .cell v)) (by rfl) (by rfl) lR' (small1 (by (walk_at "om")) (by (walk_at "om"))) (rsize1 ht) lF' lN' ?j ?turn ?done
  case j => exact ⟨oY, rfl, _, dY⟩
  case turn =>
    intro y led I it ts h tk hy hJ hit off F N
    refine opq ?_
    intro zX zH
    obtain ⟨oY', rfl, vY, dY'⟩ := hJ
    refine zH ?_
    clear zH zX
    have offI := off1_of off
    simp only [LCg.Off1] at offI
    refine opq ?_
    intro zX zH
    (refine' ea_0_4 (offI) ?_; intro z1 z2 z3 z6; (try clear offI))
    refine zH ?_
    clear zH zX
    have hyl : (y : Int) < ht := by (walk_at "om")
    have Hy1 := Hy y hyl
    have Hg1 := Hg y hyl
    clear keep8 lR'
    k_sweep
    (try dsimp only)
    k_steps
    unfold Stop
    rename_i h9 oY2 F9 N9 d9 ra us9 k9 hm9 hI9 hl9
    refine LCg.ListComp_U (F₀ := F9) (by with_unfolding_all rfl) (by decide) (by rfl) (by decide) (by rfl) ?_
    k_steps
    unfold Stop
    rename Fr _ _ _ _ => lF'
    rename News _ _ _ _ => lN'
    rename IsRange _ _ _ _ _ _ _ _ => lR'
    refine LCg.CompSrc.range (n := wd.toNat) rfl lF' lN' lR' (small1 (by (walk_at "om")) (by (walk_at "om"))) (rsize1 wd) (Nat.le_trans (by (walk_at "om") : wd.toNat ≤ 100) (by decide)) fun gg => ?_
    refine compRest_inv (J := fun j ys n2 => (I, it) :: (L' + 1 + 1 + 1, oY2) :: (L' + 1 + 1, oT) :: (L' + 1, oP) :: rest = n2 ∧ IntsAre ys ((List.range j).map fun (tu : Nat) => (cells.getD (Int.fdiv (0 + (y : Int)) d).toNat []).getD (Int.fdiv (0 + (tu : Int)) a).toNat 0)) ⟨rfl, .nil⟩ trivial ?turn2 ?fin2
    case turn2 =>
      intro j ys n2 v I2 oI C oC D m2 h2 tk2 E' hj hys hJ hS hPv hC hx2 F N offs hne
      refine opq ?_
      intro zX zH
      obtain ⟨t2, rfl⟩ := hPv
      obtain ⟨rfl, hI⟩ := hJ
      refine zH ?_
      clear zH zX
      have Hx1 := Hx j (by (walk_at "om"))
      clear lF' lN' lR'
      k_sweep
      (try dsimp only)
      k_steps
      unfold Stop
      rename Fr _ _ _ _ => lF'
      rename News _ _ _ _ => lN'
      exact LCg.CompEnd.intro lF' lN' _ (fun q hq => hq) offs hS ⟨rfl, ints_range (f := fun (tu : Nat) => (cells.getD (Int.fdiv (0 + (y : Int)) d).toNat []).getD (Int.fdiv (0 + (tu : Int)) a).toNat 0) hI rfl _⟩
    case fin2 =>
      intro ys n2 hys hJ
      refine opq ?_
      intro zX zH
      obtain ⟨rfl, hI⟩ := hJ
      refine zH ?_
      clear zH zX
      unfold LCg.FinE
      intro D h2 tk2 F N o1
      clear lF' lN' lR'
      k_sweep
      rw [Hg1] at hI9
      k_steps
      unfold Stop
      rename Fr _ _ _ _ => lF'
      rename News _ _ _ _ => lN'
      refine ke_ne_ints ⟨_, (lN' _ (List.mem_cons_of_mem _ hm9)).1, rfl, _, rfl⟩ (News.isList lN' (by k_mem)) hI9 hI (by ke_room) ?_
      simp only [decide_true, Bool.not_true]
      k_steps
      unfold Stop
      rename Fr _ _ _ _ => lF2
      rename News _ _ _ _ => lN2
      refine UnrEnd.intro lF2 lN2 ((L' + 1 + 1 + 1, oY2) :: (L' + 1 + 1, oT) :: (L' + 1, oP) :: rest) ?sub (off1_mem ⟨z1, z2, z3, z6⟩) ⟨rfl, _, rfl, _, d9⟩
      case sub =>
        repeat (refine sub_cons ?_ ?_; focus k_mem)
        repeat (first | exact sub_nil | exact sub_id | refine sub_tl ?_)
  case done =>
    intro led h tk hJ F N
    refine opq ?_
    intro zX zH
    obtain ⟨oY', rfl, vY, dY'⟩ := hJ
    refine zH ?_
    clear zH zX
    clear keep8 lR'
    k_sweep
    (try dsimp only)
    k_steps
    unfold Stop
    rename_i v7 n7 h7 tk7 F7 N7 P7
    refine opq ?_
    intro zX zH
    (refine' ea_4_5 (P7) ?_; intro ps rs vss ks zr4 hPs hrs hRs hss; obtain rfl := zr4; (try clear P7))
    (refine' ea_10_2 (hPs) ?_; intro sdx b1 b2 b3 c1 c2 c3 y1 y2 m'' hps1 hps2; (try clear hPs))
    refine zH ?_
    clear zH zX
    rw [Hs] at hRs
    have cP := hss (L' + 1, oP) (by k_mem)
    have rp1 := hss _ (List.mem_cons_of_mem _ (List.mem_cons_of_mem _ (List.mem_cons_of_mem _ hp1)))
    have rp2 := hss _ (List.mem_cons_of_mem _ (List.mem_cons_of_mem _ (List.mem_cons_of_mem _ hp2)))
    have rr := hss _ (List.mem_cons_of_mem _ (List.mem_cons_of_mem _ (List.mem_cons_of_mem _ hr)))
    have rR := hR.mono fun q hq => hss _ (List.mem_cons_of_mem _ (List.mem_cons_of_mem _ (List.mem_cons_of_mem _ hq)))
    k_sweep
    (try dsimp only)
    k_steps
    unfold Stop
    rename News _ _ _ _ => lN'
    refine eq_rows lN' hrs hRs rr rR (by ke_room) ?_
    k_steps
    refine hret _ _ _ _ (by assumption) (by assumption) ⟨rfl, fun q hq => hss _ (List.mem_cons_of_mem _ (List.mem_cons_of_mem _ (List.mem_cons_of_mem _ (hnr q hq))))⟩
end
end
section
open PySem PySem.W PyProof.Rows
theorem flush_X4 : (if (1 : Nat) = 1 then True else True) := by
  w_top off
  (try walk1)
  all_goals (first | trivial | simp)
end
section
open PySem PySem.W PyProof.Rows PySem.Calls PySem.Spec PyProof.V
set_option linter.unusedVariables false
section
def FE : Addr := 51
def excO (dd : Option Addr) (t : Addr) : Obj := { cls := .ref 51, dict := dd, data := .fields #[.ref t, .none, .none, .none, .bool false, .none] }
def MsgD (od : Obj) (v : Value) : Prop := ∃ es ep, od.data = .dict es ep ∧ StrKeys es ∧ ∀ name, nsFind es name = if name = Str.ofString "message" then some v else none
def MadeFE (msg : Str) (news : Led) (v : Value) (n' : Led) : Prop :=
  ∃ (e dd t : Addr) (od : Obj) (mt : Tok) (rest : Led), v = .ref e ∧ n' = (e, excO (some dd) t) :: rest ∧ (∀ q ∈ rest, q.1 ≠ e) ∧ (dd, od) ∈ rest ∧ MsgD od (.str msg mt) ∧ ∀ q ∈ news, q ∈ rest
theorem ns_at {h : Heap} {a : Addr} {o : Obj} {l : List DictEntry} {n : Nat} (ho : h.get? a = some o) (hd : o.data = .dict l.toArray n) (hk : ∀ e ∈ l, ∃ x t, e.key = .str x t) : h.Ns a fun x => (l.find? fun e => e.key.isStr x).map (·.val) :=
  ⟨o, l.toArray, n, ho, hd, fun e he => hk e (by simpa using he), fun x => by simp [nsFind, findBy]⟩
set_option maxRecDepth 100000
set_option maxHeartbeats 1000000
def FeAt (h : Heap) : Prop :=
  ∃ (nm q : Str) (N : Addr) (bs : List Value) (sn : List Str) (sub : List Value) (ab : Bool) (col : Option Bool) (dd : Option Addr) (k0 k1 k2 k3 k5 : Option Value) (mN mP : Str → Option Value) (c0 : Value) (dP : Option Addr) (cdP : ClassData) (slP : Array (Option Value)) (oI : Obj),
    h.get? 51 = some (excClassObj nm q 51 N bs (.ref 38 :: [.type "Exception", .type "BaseException", .type "object"]) true sn sub ab col dd k0 k1 k2 k3 k5 "Exception.__new__") ∧ h.Ns N mN ∧
    h.get? 38 = some { cls := c0, dict := dP, data := .cls cdP, slots := slP } ∧ h.Ns cdP.ns mP ∧ mP "__init__" = some (.ref 35) ∧ h.get? 35 = some oI ∧ oI.cls = .type "function" ∧ mN "__init__" = none ∧
    (∀ x ∈ (["__setattr__", "message", "__getattribute__", "__getattr__"] : List Str), mN x = none ∧ mP x = none)
theorem feAt {h : Heap} {P : Params} (X : (hd.heap_39 P).In h) : FeAt h := by
  refine ⟨_, _, _, _, _, _, _, _, _, _, _, _, _, _, _, _, _, _, _, _, _, X 51 _ (by rfl), ns_at (X 50 _ (by rfl)) (by rfl) (l := [_, _, _, _]) (by intro e he; simp only [List.mem_cons, List.not_mem_nil, or_false] at he; rcases he with rfl | rfl | rfl | rfl <;> exact ⟨_, _, rfl⟩),
    X 38 _ (by rfl), ns_at (X 37 _ (by rfl)) (by rfl) (l := [_, _, _, _, _, _]) (by intro e he; simp only [List.mem_cons, List.not_mem_nil, or_false] at he; rcases he with rfl | rfl | rfl | rfl | rfl | rfl <;> exact ⟨_, _, rfl⟩),
    by rfl, X 35 _ (by rfl), rfl, by rfl, ?_⟩
  intro x hx
  simp only [List.mem_cons, List.not_mem_nil, or_false] at hx
  rcases hx with rfl | rfl | rfl | rfl <;> exact ⟨by rfl, by rfl⟩
section
variable {prog : Program} {w : World} {M : Model} {A : Around} {E : Value → Shared → Prop} {s : Shared} {K : Frag} {h₀ : Heap} {L : Addr} {m : PySem.Str → Option Value} {news : List (Addr × Obj)}
theorem getm_init {pl : Sem Bool} {Q : Value × List Value → Shared → Prop} (F : Fr h₀ L s.heap m) (X₀ : K.In h₀)
    (e : findCls K (.type "Exception") (.type "type") (PySem.Str.ofString "__init__") = some (.val (.builtin "Exception.__init__")))
    (h : Q (.builtin "Exception.__init__", []) { s with toks := s.toks + 1 }) :
    wpAny (model prog w) A (getMethod (.type "Exception") (PySem.Str.ofString "__init__") pl) Q E s := by
  have X := X₀.keeps F.keep
  have hstub : opaqueClassAbove (.type "Exception") = pure none := by unfold opaqueClassAbove; dsimp only; rw [show Manifest.isStub "Exception" = false by decide +kernel]; rfl
  have ht : typeOf (.type "Exception") = pure (.type "type") := by first | rfl | kernel_rfl
  have L0 : Looks (model prog w) s.heap (typeOf (.type "Exception")) (.type "type") := Looks.of_pure ht
  have hg : findIn K (.type "type") "__getattribute__" = some (some (.builtin "type.__getattribute__")) := type_tga
  unfold getMethod specialOf
  refine wpAny_bind (wpAny_bind (L0.here ((looks_findIn X hg).here ?_)))
  dsimp only
  rw [if_pos canon_tga]
  refine wpAny_bind (wpAny_mono (Q := fun v => Q (v, [])) (E := E) ?_ (fun _ _ z => wpAny_pure z) fun _ _ z => z)
  have LO : Looks (model prog w) s.heap (opaqueClassAbove (.type "Exception")) none := Looks.of_pure hstub
  refine cls_open X LO L0 hg (looks_hook X (r := none) (by rfl)) (by show subIn K _ _ = _; rfl) e ?_
  show wpAny _ _ (ret (.builtin "Exception.__init__")) _ _ _
  exact wpAny_pure (wpAny_pure h)

theorem call_initD {B newId initId : String} {bm bmB : List Value} (FE' : ExcBaseFacts B newId initId bmB) {nm q : Str} {C N : Addr} {bs : List Value} {hdct : Bool} {sn : List Str} {sub : List Value} {ab : Bool} {col : Option Bool} {dd : Option Addr} {k0 k1 k2 k3 k5 : Option Value} {rest : List Value} {Q : Value → Shared → Prop} {e : Addr} {dx : Option Addr} {t0 : Addr} {led : Led}
    (F : Fr h₀ L s.heap m) (NN : News h₀ L s.heap ((e, { cls := .ref C, dict := dx, data := .fields #[.ref t0, .none, .none, .none, .bool false, .none] }) :: led)) (off : ∀ q ∈ led, q.1 ≠ e)
    (hB : bm.contains (.type B) = true) (hC : s.heap.get? C = some (excClassObj nm q C N bs bm hdct sn sub ab col dd k0 k1 k2 k3 k5 newId)) (hrest : rest.length ≤ sizeLine)
    (h : ∀ t h', Fr h₀ L h' m → News h₀ L h' ((e, { cls := .ref C, dict := dx, data := .fields #[.ref t, .none, .none, .none, .bool false, .none] }) :: (t, { cls := .type "tuple", data := .seq rest.toArray }) :: led) → (∀ q ∈ led, q.1 < t) → e < t → Q .none { s with heap := h' }) :
    wpAny (model prog w) A (call (.builtin initId) (.ref e :: rest)) Q E s := by
  refine opq ?_
  intro zX zH
  obtain ⟨hp, g, d, t, os⟩ := s
  refine zH ?_
  clear zH zX
  have he := (NN _ List.mem_cons_self).1
  refine wpAny_call (codeAny_call_builtin FE'.init.plain FE'.initEntry (check_initD FE' hB hC he rfl ?_))
  wp_walk
  have hL := F.ns.lt
  have hne : e ≠ L := (NN _ List.mem_cons_self).2.1
  have heg : h₀.get? e = none := (NN _ List.mem_cons_self).2.2
  have hlt : e < hp.objs.size := Heap.lt_size he
  have F1 := F.push { cls := .type "tuple", data := .seq rest.toArray }
  have N1 := News.push F NN { cls := .type "tuple", data := .seq rest.toArray }
  have oth : ∀ b, b ≠ e → ∀ f : Obj → Obj, ((hp.push { cls := .type "tuple", data := .seq rest.toArray }).update e f).get? b = (hp.push { cls := .type "tuple", data := .seq rest.toArray }).get? b := fun b hb f => Heap.get?_update_other _ _ (Ne.symm hb)
  refine h hp.objs.size _ ⟨?_, fun b o q => ?_, F.above⟩ (fun q hq => ?_) (fun q hq => Heap.lt_size (NN q (List.mem_cons_of_mem _ hq)).1) hlt
  · refine opq ?_
    intro zX zH
    (refine' ea_3_2 (F1.ns) ?_; intro o es ep ho r)
    refine zH ?_
    clear zH zX
    exact ⟨o, es, ep, (oth _ (Ne.symm hne) _).trans ho, r⟩
  · exact (oth b (fun z => by rw [z, heg] at q; cases q) _).trans (F1.keep b o q)
  · rcases List.mem_cons.mp hq with rfl | hq
    · exact ⟨Heap.get?_update_self _ (Heap.get?_push_of_some _ he) rfl, hne, heg⟩
    · rcases List.mem_cons.mp hq with rfl | hq
      · have Nt := N1 _ List.mem_cons_self
        exact ⟨(oth _ (Nat.ne_of_gt hlt) _).trans Nt.1, Nt.2⟩
      · have Nq := N1 q (List.mem_cons_of_mem _ (List.mem_cons_of_mem _ hq))
        exact ⟨(oth _ (off q hq) _).trans Nq.1, Nq.2⟩
end

theorem new_fe (w : World) (news : Led) (msg : Str) (tm : Tok) :
    Spec w 8 51 [.str msg tm] news (MadeFE msg news) := by
  intro loose mean mg mb dp un gd cn cs a' ccd cl' outer A₀ base h₀ L m s Q E hB hF0 hX hN hT0 hk hdp hun hret
  revert hX; k_fill; intro hX
  refine opq ?_
  intro zX zH
  obtain ⟨h, g, d, tk, os⟩ := s
  (refine' ea_21_9 (feAt (hX.keeps hF0.keep)) ?_; intro nm q N50 bs sn sub ab col dd k0 k1 k2 k3 k5 mN mP c0 dP cdP slP oI hC hn hP hnP hi hI hIc hni hq)
  refine zH ?_
  clear zH zX
  refine call_excD (P := 38) PySem.F.excBase_Exception (by rfl) (by rfl) (by rfl) hC hn hni hP hnP hi hI hIc ?_ (by exact (by decide : 1 ≤ sizeLine))
  rintro h' rfl
  have F1 := hF0.push { cls := .type "tuple", data := .seq [Value.str msg tm].toArray }
  have N1 := News.push hF0 hN { cls := .type "tuple", data := .seq [Value.str msg tm].toArray }
  have F2 := F1.push { cls := .ref 51, data := .fields #[.ref h.objs.size, .none, .none, .none, .bool false, .none] }
  have N2 := News.push F1 N1 { cls := .ref 51, data := .fields #[.ref h.objs.size, .none, .none, .none, .bool false, .none] }
  rw [Heap.size_push] at N2
  have l1 : ∀ p ∈ news, p.1 < h.objs.size := fun p hp => Heap.lt_size (hN p hp).1
  dsimp only at F2 N2
  generalize hh' : (Heap.push _ _ : Heap) = h' at F2 N2 ⊢
  generalize h.objs.size = t at *
  clear F1 N1 hF0 hN
  refine wpAny_call ?_
  k_dflt ktr_enter
  rename_i g' L' hh1 FG FF NN BB XX TT
  k_steps
  refine getm_init (by assumption) (by assumption) (by k_is) ?_
  k_steps
  rename Fr _ _ _ _ => lF'
  rename News _ _ _ _ => lN'
  have off1 : ∀ q ∈ (t, ({ cls := .type "tuple", data := .seq #[Value.str msg tm] } : Obj)) :: news, q.1 ≠ t + 1 := by
    intro q hq
    rcases List.mem_cons.mp hq with rfl | hq
    · exact Nat.ne_of_lt (Nat.lt_succ_self t)
    · exact Nat.ne_of_lt (Nat.lt_succ_of_lt (l1 q hq))
  refine opq ?_
  intro zX zH
  (refine' ea_21_9 (feAt (XX.keeps lF'.keep)) ?_; intro nm q N50 bs sn sub ab col dd k0 k1 k2 k3 k5 mN mP c0 dP cdP slP oI hC4 zr22 zr23 zr24 zr25 zr26 zr27 zr28 zr29; clear zr22; clear zr23; clear zr24; clear zr25; clear zr26; clear zr27; clear zr28; clear zr29)
  refine zH ?_
  clear zH zX
  refine call_initD PySem.F.excBase_Exception lF' lN' off1 (by rfl) hC4 (by exact (by decide : 1 ≤ sizeLine)) ?_
  intro t1 h2 F N l2 l3
  clear lF' lN'
  k_sweep
  (try dsimp only)
  k_steps
  refine opq ?_
  intro zX zH
  (refine' ea_21_9 (feAt (XX.keeps F.keep)) ?_; intro nm q N50 bs sn sub ab col dd k0 k1 k2 k3 k5 mN mP c0 dP cdP slP oI hC5 hn5 hP5 hnP5 zr25 zr26 zr27 zr28 hq5; clear zr25; clear zr26; clear zr27; clear zr28)
  refine zH ?_
  clear zH zX
  have z1 := hq5 "__setattr__" (by simp)
  have z2 := hq5 "message" (by simp)
  have NX := N _ List.mem_cons_self
  have hB5 : typeLookup (.type "Exception") (Str.ofString "message") = pure none := by rw [typeLookup_type, builtinLookup_eq_fast]; kernel_rfl
  refine store_attrD PySem.F.store_Exception hC5 hn5 z1.1 z2.1 hP5 hnP5 z1.2 z2.2 hB5 NX.1 rfl (fun c e => by cases e) rfl ?_
  intro h3 tk3 e1 e2 e3
  refine opq ?_
  intro zX zH
  (refine' ea_3_5 (e2) ?_; intro od es ep ho hd hks hun hfind; (try clear e2))
  refine zH ?_
  clear zH zX
  have F3 : Fr g' L' h3 _ := ⟨by
    refine opq ?_
    intro zX zH
    (refine' ea_3_2 (F.ns) ?_; intro o es ep ho r)
    refine zH ?_
    clear zH zX
    exact ⟨o, es, ep, e3 _ _ (Ne.symm NX.2.1) ho, r⟩, fun b o q => e3 b o (fun z => by rw [z, NX.2.2] at q; cases q) (F.keep b o q), F.above⟩
  have hsz : ∀ q ∈ ((t + 1, ({ cls := .ref 51, data := .fields #[.ref t1, .none, .none, .none, .bool false, .none] } : Obj)) :: (t1, ({ cls := .type "tuple", data := .seq #[Value.str msg tm] } : Obj)) :: (t, ({ cls := .type "tuple", data := .seq #[Value.str msg tm] } : Obj)) :: news), q.1 < h2.objs.size := fun q hq => Heap.lt_size (N q hq).1
  have hte : t + 1 < h2.objs.size := hsz _ List.mem_cons_self
  have N3 : News g' L' h3 ((t + 1, excO (some h2.objs.size) t1) :: (h2.objs.size, od) :: (t1, ({ cls := .type "tuple", data := .seq #[Value.str msg tm] } : Obj)) :: (t, ({ cls := .type "tuple", data := .seq #[Value.str msg tm] } : Obj)) :: news) := by
    intro q hq
    rcases List.mem_cons.mp hq with rfl | hq
    · exact ⟨e1, NX.2⟩
    · rcases List.mem_cons.mp hq with rfl | hq
      · exact ⟨ho, Nat.ne_of_gt F.ns.lt, none_at_size (s := ⟨h2, g, d, 0, os⟩) F⟩
      · have Nq := N q (List.mem_cons_of_mem _ hq)
        refine ⟨e3 _ _ ?_ Nq.1, Nq.2⟩
        rcases List.mem_cons.mp hq with rfl | hq
        · exact Nat.ne_of_gt l3
        · exact off1 q hq
  have hoff : ∀ q ∈ (h2.objs.size, od) :: (t1, ({ cls := .type "tuple", data := .seq #[Value.str msg tm] } : Obj)) :: (t, ({ cls := .type "tuple", data := .seq #[Value.str msg tm] } : Obj)) :: news, q.1 ≠ t + 1 := by
    intro q hq
    rcases List.mem_cons.mp hq with rfl | hq
    · exact Nat.ne_of_gt hte
    · rcases List.mem_cons.mp hq with rfl | hq
      · exact Nat.ne_of_gt l3
      · exact off1 q hq
  generalize h2.objs.size = dz at *
  clear N F e1 e3 NX hC5 hn5 hP5 hnP5 ho hsz hC4
  dsimp only
  k_sweep
  (try dsimp only)
  k_steps
  refine hret _ _ _ _ (by assumption) (by assumption) ⟨t + 1, dz, t1, od, tm, _, rfl, rfl, hoff, List.mem_cons_self, ⟨es, ep, hd, hks, hfind⟩, fun q hq => List.mem_cons_of_mem _ (List.mem_cons_of_mem _ (List.mem_cons_of_mem _ hq))⟩
end
end
section
open PySem PySem.W PyProof.Rows
theorem flush_X5 : (if (1 : Nat) = 1 then True else True) := by
  w_top off
  (try walk1)
  all_goals (first | trivial | simp)
end
section
open PySem
open PySem.Sem (wp)
set_option linter.unusedVariables false
set_option maxRecDepth 100000
section
section
variable {M : Model} {prog : Program} {w : World} {A : Around} {E : Value → Shared → Prop} {env : Env}
variable {nm q : Str} {C N : Addr} {bs bm : List Value} {hdct : Bool} {sn : List Str} {sub : List Value} {ab : Bool} {col : Option Bool} {dd : Option Addr} {k0 k1 k2 k3 k5 : Option Value} {newId : String}
theorem raiseStmtD {s : Shared} {x : Sem Value} {Q : Flow → Shared → Prop} (hbase : bm.contains (.type "BaseException") = true) (hh : A.handled = none)
    (h : wpAny M A x (fun v s₁ => ∃ e t dx, v = .ref e ∧ s₁.heap.get? C = some (excClassObj nm q C N bs bm hdct sn sub ab col dd k0 k1 k2 k3 k5 newId) ∧
      s₁.heap.get? e = some { cls := .ref C, dict := dx, data := .fields #[.ref t, .none, .none, .none, .bool false, .none] } ∧ E (.ref e) s₁) E s) :
    wpAny M A (raiseStmt env (some x) none) Q E s := by
  have hcB : (Value.ref C :: bm).contains (.type "BaseException") = true := by rw [List.contains_cons, hbase, Bool.or_true]
  unfold raiseStmt
  refine wpAny_bind (wpAny_mono h (fun v s₁ h₁ => ?_) fun _ _ x => x)
  refine opq ?_
  intro zX zH
  (refine' ea_3_4 (h₁) ?_; intro e t dx zr3 hC he hE; obtain rfl := zr3; (try clear h₁))
  obtain ⟨hp, g, d, tk, os⟩ := s₁
  refine zH ?_
  clear zH zX
  repeat (first | with_reducible refine wpAny_loadPart_at he ?_ | with_reducible refine wpAny_loadPart_at hC ?_ | (with_reducible refine wpAny_isSubtype_exc hC ?_; rw [hcB]) | wp_step)
  exact wpAny_raiseNew_none hh hE
end
section
variable {prog : Program} {w : World} {A : Around} {E : Value → Shared → Prop} {env : Env}
/-- `raise` of a call that makes a FrameError -/
theorem Raise_fe {s : Shared} {c : Expr} {pos : Pos} {Q : Flow → Shared → Prop} (hC0 : FeAt s.heap) (hh : A.handled = none)
    (h : wpAny (model prog w) A (eval c env) (fun v s₁ => (∀ b o, s.heap.get? b = some o → b = 51 → s₁.heap.get? b = some o) ∧ ∃ e t dx, v = .ref e ∧ s₁.heap.get? e = some (excO dx t) ∧ E (.ref e) s₁) E s) :
    wpAny (model prog w) A (exec (.Raise (some c) none pos) env) Q E s := by
  refine opq ?_
  intro zX zH
  (refine' ea_21_9 (hC0) ?_; intro nm q N50 bs sn sub ab col dd k0 k1 k2 k3 k5 mN mP c0 dP cdP slP oI hC zr22 zr23 zr24 zr25 zr26 zr27 zr28 zr29; clear zr22; clear zr23; clear zr24; clear zr25; clear zr26; clear zr27; clear zr28; clear zr29; (try clear hC0))
  refine zH ?_
  clear zH zX
  rw [arm_exec_Raise]
  refine wpAny_bind (wpAny_standAt (raiseStmtD (C := 51) (nm := nm) (q := q) (N := N50) (bs := bs) (bm := .ref 38 :: [.type "Exception", .type "BaseException", .type "object"]) (hdct := true) (sn := sn) (sub := sub) (ab := ab) (col := col) (dd := dd) (k0 := k0) (k1 := k1) (k2 := k2) (k3 := k3) (k5 := k5) (newId := "Exception.__new__") (by rfl) hh ?_))
  refine wpAny_bind (wpAny_mono h (fun v s₁ h₁ => wpAny_bind (wpAny_standAt (wpAny_pure ?_))) fun _ _ x => x)
  refine opq ?_
  intro zX zH
  obtain ⟨hk, e, t, dx, rfl, he, hE⟩ := h₁
  refine zH ?_
  clear zH zX
  exact ⟨e, t, dx, rfl, hk 51 _ hC rfl, he, hE⟩
end
end
end
section
open PySem PySem.W PyProof.Rows
theorem flush_X6 : (if (1 : Nat) = 1 then True else True) := by
  w_top off
  (try walk1)
  all_goals (first | trivial | simp)
end
section
open PySem PySem.W PyProof.Rows PySem.Calls PySem.Spec PyProof.V
set_option linter.unusedVariables false
section
/-- the ledger that a FrameError leaves -/
def HasMsg (news : Led) (dd : Addr) (n' : Led) : Prop := ∃ od msg mt, (dd, od) ∈ n' ∧ MsgD od (.str msg mt) ∧ msg ≠ Str.ofString "" ∧ ∀ q ∈ news, q ∈ n'
/-- a call that raises a FrameError -/
def SpecX (w : World) (d : Nat) (f : Addr) (args : List Value) (news : Led) : Prop :=
  ∀ (loose : List Str) (mean : ExcName → Option Value) (mg mb : Str → Option Value) (dp un : Nat) (gd : Option (List Code)) (cn : Str) (cs : Scope) (a : Addr) (ccd : Value) (cl : List (Str × Addr)) (outer : List Env)
    (A₀ : Around) (base h₀ : Heap) (L : Addr) (m : Str → Option Value) (s : Shared) (Q E : Value → Shared → Prop),
    Below A₀ base outer h₀ → Fr h₀ L s.heap m → (hd.heap_39 w.params).In h₀ → News h₀ L s.heap news → Top hd.view_39 loose mean mg mb h₀ → cs.kind = .function →
    dp + d < 1000 → un + 8 * d < 9900 →
    (∀ G h' tk' e dd a0 n', Fr h₀ L G m → RaisedD base G (envX cn cs L a ccd cl :: outer) e (.ref 51) (some dd) a0 n' h' → G.UpToSlots h' → HasMsg news dd n' → E (.ref e) { s with heap := h', toks := tk' }) →
    wpAny (model Challenge.rw_ok0142_01.row.prog w) (ktrTop dp un gd cn cs L a ccd cl outer) (call (.ref f) args) Q E s
theorem keep51 {P : Params} {g h h2 : Heap} {L L2 : Addr} {m m2 : Str → Option Value} (X : (hd.heap_39 P).In g) (F : Fr g L h m) (F2 : Fr g L2 h2 m2) : ∀ b o, h.get? b = some o → b = 51 → h2.get? b = some o := by
  intro b o e z
  subst z
  have hC := X 51 _ (by rfl)
  have e1 := F.keep _ _ hC
  rw [e1] at e
  rw [← e]
  exact F2.keep _ _ hC
set_option maxRecDepth 100000
set_option maxHeartbeats 1000000


local macro_rules | `(tactic| walk_at "subscriptTail") => `(tactic| (k_here; (with_reducible show wpAny _ _ (subscriptTail _ _ (Value.ref _) (Value.int _ _)) _ _ _); k_dflt (refine' item_comps ?k1 ?k2 ?k3 ?k4 ?k5 ?k6 ?_ ?k7; (case k1 => k_asm); (case k2 => walk_at "mm"); (case k3 => first | assumption | exact CompsAt.mono (by assumption) (by intro q hq; repeat (first | exact hq | apply List.mem_cons_of_mem))); (case k4 => walk_at "om"); (case k5 => walk_at "om"); (case k6 => walk_at "om"); (case k7 => with_unfolding_all rfl); k_whole; intro c' hc'; obtain ⟨cx', y1', y2', y3', y4', y5', y6', y7', y8', y9', y10', y11', y12', y13', hm1', hm2'⟩ := hc')))
local macro_rules | `(tactic| walk_at "call ref") => `(tactic| (k_here; (with_reducible show wpAny _ _ (call (Value.ref 119) _) _ _ _); k_dflt (refine' Spec.useI2 (most_across_spec _ _ _ _ _ _ _ _ _ ?p0 ?p1 ?p2 ?p3 ?p4) ?kk ?_; (case kk => walk_at "kk"); (case p0 => first | assumption | exact FrameAt.mono (by assumption) (by intro q hq; repeat (first | exact hq | apply List.mem_cons_of_mem))); (case p1 => k_mem); (case p2 => first | assumption | exact CompsAt.mono (by assumption) (by intro q hq; repeat (first | exact hq | apply List.mem_cons_of_mem))); (case p3 => assumption); (case p4 => assumption); k_whole); walk_at "it"))
local macro_rules | `(tactic| walk_at "call ref") => `(tactic| (k_here; (with_reducible show wpAny _ _ (call (Value.ref 124) _) _ _ _); k_dflt (refine' Spec.useI2 (most_down_spec _ _ _ _ _ _ _ _ _ ?p0 ?p1 ?p2 ?p3 ?p4) ?kk ?_; (case kk => walk_at "kk"); (case p0 => first | assumption | exact FrameAt.mono (by assumption) (by intro q hq; repeat (first | exact hq | apply List.mem_cons_of_mem))); (case p1 => k_mem); (case p2 => first | assumption | exact CompsAt.mono (by assumption) (by intro q hq; repeat (first | exact hq | apply List.mem_cons_of_mem))); (case p3 => assumption); (case p4 => assumption); k_whole); walk_at "it"))
local macro_rules | `(tactic| walk_at "call ref") => `(tactic| (k_here; (with_reducible show wpAny _ _ (call (Value.ref 51) _) _ _ _); k_dflt (refine' Spec.use2 (new_fe _ _ _ _ ) ?kk ?_; (case kk => walk_at "kk");  k_whole); walk_at "st"))
local macro_rules | `(tactic| walk_at "exec Raise some none") => `(tactic| (k_here; refine Stop.out ?_))
theorem factors_bad (w : World) (news : Led) (f cl : Addr) (wd ht : Int) (vs : List Value) (kk : Nat) (sm : List (Int × Int)) (i : Int) (ti : Tok)
    (hF : FrameAt news f cl wd ht) (hcl : (cl, lstO vs kk) ∈ news) (hC : CompsAt news vs sm) (hS : SmOk sm) (hi0 : 0 ≤ i) (hi1 : i < sm.length)
    (hbad : ¬ ((maxL (sm.map (·.1))).fmod (sm.getD i.toNat (0, 0)).1 = 0 ∧ (maxL (sm.map (·.2))).fmod (sm.getD i.toNat (0, 0)).2 = 0)) :
    SpecX w 12 72 [.ref f, .int i ti] news := by
  intro loose mean mg mb dp un gd cn cs a' ccd cl' outer A₀ base h₀ L m s Q E hB hF0 hX hN hT hk hdp hun hexc
  revert hX; k_fill; intro hX
  have hF' := hF
  refine opq ?_
  intro zX zH
  (refine' ea_19_2 (hF') ?_; intro fx h1 h2 h3 h4 h5 h6 k1 k2 k3 k4 k5 k6 t3 t4 v1 v2 v6 n hf1 hf2; (try clear hF'))
  obtain ⟨hlen, hlen2, hall⟩ := id hS
  refine zH ?_
  clear zH zX
  have hb1 := hS.m1
  have hb2 := hS.m2
  have hb3 := hS.at (i := i.toNat) (by (walk_at "om"))
  refine wpAny_call ?_
  k_dflt ktr_enter
  rename_i g' L' hh1 FG FF NN BB XX TT
  k_steps
  all_goals (try (exact absurd ⟨by assumption, by assumption⟩ hbad))
  all_goals
    unfold Stop
    rename Fr g' _ _ _ => lF'
    refine Raise_fe (feAt (XX.keeps lF'.keep)) (by rfl) ?_
    k_steps
    unfold Stop
    rename_i v9 n9 h9 tk9 F9 N9 P9
    refine opq ?_
    intro zX zH
    (refine' ea_6_6 (P9) ?_; intro e dd t od mt rest zr6 zr7 hoff hdd hmsg hsub; obtain rfl := zr6; obtain rfl := zr7; (try clear P9))
    refine zH ?_
    clear zH zX
    refine ⟨keep51 XX lF' F9, e, t, some dd, rfl, (N9 _ List.mem_cons_self).1, ?_⟩
    refine leaveD BB F9 N9 hoff rfl rfl rfl (fun h' R U => ?_)
    exact hexc g' _ _ e dd _ rest FG R U ⟨od, _, mt, hdd, hmsg, by decide, hsub⟩
end
end
section
open PySem PySem.W PyProof.Rows
theorem flush_X7 : (if (1 : Nat) = 1 then True else True) := by
  w_top off
  (try walk1)
  all_goals (first | trivial | simp)
end
section
open PySem PySem.W PyProof.Rows PySem.Calls PySem.Spec PyProof.V
set_option linter.unusedVariables false
set_option maxRecDepth 100000
section
section
variable {prog : Program} {w : World} {A₀ A : Around} {s : Shared} {base h₀ : Heap} {L : Addr} {m : Str → Option Value} {news : List (Addr × Obj)} {K : Frag} {p : Program} {loose : List Str} {mean : ExcName → Option Value} {mg mb : Str → Option Value}
    {R : Result → Shared → Prop} {name qual : Str} {params : Arguments} {body : List Stmt} {scope : Scope} {dV kV doc pm cdv ct oc : Value} {an od : Option Addr} {osl : Array (Option Value)} {f : Addr} {args : Args} {binds : List (Str × Value)} {env : Env}
/-- a function, called from the outermost frame, that may turn the frames' slots -/
theorem code_defH (B : Below A₀ base [] h₀) (F : Fr h₀ L s.heap m) (X₀ : K.In h₀) (N : News h₀ L s.heap news) (T : Top p loose mean mg mb h₀) (hA : A.frames = some [env]) (hf : env.frame = some L) (hke : env.scope.kind = .function)
    (ho : K.lookup f = some ⟨oc, od, .func (fnOf name qual params body scope dV kV doc pm an cdv ct), osl⟩) (hcd : codeIn K cdv qual = true) (hroom : A.depth < recursionLimit)
    (hbind : BindsTo s (fnOf name qual params body scope dV kV doc pm an cdv ct) args binds) (hloc : ∀ y ∈ binds, scope.names.lookup y.1 = some .local)
    (h : ∀ g L' h₁, Fr h₀ L g m → Fr g L' h₁ (fun y => binds.reverse.lookup y) → News g L' h₁ news → Below A base [env] g → K.In g → Top p loose mean mg mb g →
      wpAny (model prog w) (A.deeper (envOf qual scope L' f cdv)) (execs body (envOf qual scope L' f cdv))
        (fun fl s' => LeaveS0 [L] h₀ L m g R (match fl with | .ret v => v | _ => .none) s')
        (fun e s' => wpAny (model prog w) (A.deeper (envOf qual scope L' f cdv)) (leaving (envOf qual scope L' f cdv) e) (fun _ s'' => R (.error e) s'') (fun e' s'' => R (.error e') s'') s')
        { s with heap := h₁, toks := s.toks + binds.length })
    (hco : scope.isCoroutine = false) (hgen : scope.isGenerator = false) (hk : scope.kind = .function)
    (hcell : ∀ x ∈ scope.names, x.2 ≠ .cell) : codeAny (model prog w) A (.call (.ref f) args) R s := by
  have X := X₀.keeps F.keep
  refine opq ?_
  intro zX zH
  obtain ⟨FG, BG, st, -⟩ := groundX (R := R) B F N hA hf hke
  refine zH ?_
  clear zH zX
  refine codeAny_call_def (fd := fnOf name qual params body scope dV kV doc pm an cdv ct) (body := body) (binds := binds) hroom (X _ _ ho) rfl (T.nolimit.keeps F.keep) (codeRec_of X hcd) rfl hbind hcell hloc (fun h₁ hns hk₁ => ?_) hco hgen hk
  refine wpAny_mono (h _ s.heap.objs.size h₁ FG ⟨hns, fun b o e => hk₁ b o (of_hideAll _ e), Nat.le_of_eq (hideAll_size _ _)⟩
    (fun p hp => ⟨hk₁ _ _ (N p hp).1, Nat.ne_of_lt (Heap.lt_size (N p hp).1), hideAll_none _ (List.mem_map_of_mem hp)⟩) BG (X₀.keeps st) (T.keeps st)) (fun fl s' hl => ?_) fun _ _ y => y
  refine opq ?_
  intro zX zH
  obtain ⟨g', L', m', news', T', F', N', k⟩ := hl
  have nL₀ : h₀.get? L = none := kts_self F
  (refine' ea_3_4 (FG.ns) ?_; intro oL es ep hLg hLd hLk hLf)
  obtain ⟨sl, hs⟩ := T'.up hLg
  refine zH ?_
  clear zH zX
  refine k ⟨⟨_, es, ep, F'.keep _ _ hs, hLd, hLk, hLf⟩, fun b o e => F'.keep b o (T'.other b o (st b o e) (fun q => by
    rw [List.mem_singleton.mp q, nL₀] at e; cases e)), F.above⟩ fun p hp => ⟨(N' p hp).1, fun q => ?_, ?_⟩
  · have := (N' p hp).2.2; rw [q, hs] at this; cases this
  · cases q : h₀.get? p.1 with
    | none => rfl
    | some o =>
      refine opq ?_
      intro zX zH
      obtain ⟨sl', hs'⟩ := T'.up (st _ _ q)
      refine zH ?_
      clear zH zX
      have := (N' p hp).2.2
      rw [hs'] at this
      cases this
end
end
end
section
open PySem PySem.W PyProof.Rows
theorem flush_X8 : (if (1 : Nat) = 1 then True else True) := by
  w_top off
  (try walk1)
  all_goals (first | trivial | simp)
end
section
open PySem
open PySem.Sem (wp)
open Builtin Builtin.ObjectAttr
set_option linter.unusedVariables false
set_option maxRecDepth 100000
set_option maxHeartbeats 1000000
section
section
variable {prog : Program} {w : World} {M : Model} {A : Around} {E : Value → Shared → Prop} {h : Heap} {g : Array GenState} {d : Drawn} {t : Nat} {os : OsState}
variable {nm q : Str} {C N P x : Addr} {bs bmR : List Value} {hdct : Bool} {sn : List Str} {sub : List Value} {ab : Bool} {col : Option Bool} {dd : Option Addr} {k0 k1 k2 k3 k5 : Option Value} {B newId : String}
  {mN mP mA : Str → Option Value} {name : Str} {v : Value} {c0 : Value} {dP : Option Addr} {cdP : ClassData} {slP : Array (Option Value)} {dx : Addr} {o : Obj}

theorem check_gaD {nameV : Value} {Q : Unit → Shared → Prop} (FB : ExcAttrBase B bmR) (hC : h.get? C = some (excClassObj nm q C N bs (.ref P :: bmR) hdct sn sub ab col dd k0 k1 k2 k3 k5 newId))
    (hx : h.get? x = some o) (hc : o.cls = .ref C) (hq : Q () ⟨h, g, d, t, os⟩) : wpAny M A (checkBuiltinCall "BaseException.__getattribute__" ⟨[.ref x, nameV], []⟩) Q E ⟨h, g, d, t, os⟩ := by
  have hk : builtinKind "BaseException.__getattribute__" = some .slot := by decide +kernel
  have hsplit : splitId "BaseException.__getattribute__" = some ("BaseException", "__getattribute__") := by decide +kernel
  have hcB : (Value.ref C :: .ref P :: bmR).contains (.type "BaseException") = true := by rw [List.contains_cons, List.contains_cons, FB.hasBase]; rfl
  have ha := F.args_bexc_ga (.ref x) nameV
  simp only [checkBuiltinCall, hk, hsplit]
  refine wpAny_bind ?_
  · unfold isInstance
    repeat (first | (with_reducible refine wpAny_loadPart_at hx ?_; rw [hc]) | (with_reducible refine wpAny_isSubtype_exc hC ?_; rw [hcB]) | wp_step)
    exact hq

theorem load_entryD {tk : Tok} {Q : Fin → Shared → Prop} (FB : ExcAttrBase B bmR)
    (hC : h.get? C = some (excClassObj nm q C N bs (.ref P :: bmR) true sn sub ab col dd k0 k1 k2 k3 k5 newId)) (hn : h.Ns N mN) (hna : mN name = none)
    (hP : h.get? P = some { cls := c0, dict := dP, data := .cls cdP, slots := slP }) (hnP : h.Ns cdP.ns mP) (hp : mP name = none)
    (hB : typeLookup (.type B) name = pure none) (hx : h.get? x = some o) (hc : o.cls = .ref C) (hnc : ∀ c, o.data ≠ .cls c) (hdx : o.dict = some dx) (hns : h.Ns dx mA) (hv : mA name = some v) (hq : Q (.done (.ret v)) ⟨h, g, d, t, os⟩) :
    wpAny (model prog w) A (Builtin.«object.__getattribute__» ⟨[.ref x, .str name tk], []⟩) Q E ⟨h, g, d, t, os⟩ := by
  unfold Builtin.«object.__getattribute__»
  repeat (first | (with_reducible refine wpAny_loadPart_at hx ?_; rw [hc]) | (with_reducible refine lookup_twoD hC hn hna hP hnP hp FB.mro hB ?_) | wp_step)
  split
  · rename_i c hcd
    exact absurd hcd (hnc c)
  unfold instanceDict
  repeat (first | (with_reducible refine wpAny_loadPart_at hx ?_; rw [hc]) | with_reducible refine wpAny_loadPart_at hC ?_ | wp_step)
  rw [hdx]
  repeat (first | (with_reducible refine wpAny_nsGet hns ?_; rw [hv]) | wp_step)
  exact hq

theorem load_attrD {expr : Bool} {Q : Value → Shared → Prop} (FB : ExcAttrBase B bmR)
    (hC : h.get? C = some (excClassObj nm q C N bs (.ref P :: bmR) true sn sub ab col dd k0 k1 k2 k3 k5 newId)) (hn : h.Ns N mN)
    (hP : h.get? P = some { cls := c0, dict := dP, data := .cls cdP, slots := slP }) (hnP : h.Ns cdP.ns mP)
    (hqs : ∀ x ∈ (["__getattribute__", "__getattr__", name] : List Str), mN x = none ∧ mP x = none)
    (hB : typeLookup (.type B) name = pure none) (hx : h.get? x = some o) (hc : o.cls = .ref C) (hnc : ∀ c, o.data ≠ .cls c) (hdx : o.dict = some dx) (hns : h.Ns dx mA) (hv : mA name = some v) (hh : handedOut v = pure v) (hq : Q v ⟨h, g, d, t + 1, os⟩) :
    wpAny (model prog w) A (getAttr (.ref x) name expr) Q E ⟨h, g, d, t, os⟩ := by
  have f3 := FB.ga.bind (.ref x)
  have hx0 : (expr && onTheHeap (Value.builtin "BaseException.__getattribute__")) = false := by cases expr <;> rfl
  have hx2 : (Value.builtin "BaseException.__getattribute__" == Value.builtin "object.__getattribute__") = false := by decide +kernel
  have hx1 : (onTheHeap (Value.ref C) && Value.builtin "BaseException.__getattribute__" == Value.builtin "object.__getattribute__") = false := by rw [hx2]; rfl
  have z1 := hqs "__getattribute__" (by simp)
  have z2 := hqs "__getattr__" (by simp)
  have z3 := hqs name (by simp)
  unfold getAttr
  unfold getAttrBy
  repeat (any_goals (first | assumption | (with_reducible refine wpAny_loadPart_at hx ?_; rw [hc]) | with_reducible refine lookup_twoD hC hn z1.1 hP hnP z1.2 FB.mro FB.ga.lookup ?_ | with_reducible refine lookup_twoD hC hn z2.1 hP hnP z2.2 FB.mro FB.noGetattr ?_ | wp_step))
  refine codeAny_call_builtin FB.ga.plain F.entry_bexc_ga (check_gaD FB hC hx hc (load_entryD FB hC hn z3.1 hP hnP z3.2 hB hx hc hnc hdx hns hv ?_))
  repeat (any_goals (first | assumption | wp_step))
end
end
end
section
open PySem PySem.W PyProof.Rows
theorem flush_X9 : (if (1 : Nat) = 1 then True else True) := by
  w_top off
  (try walk1)
  all_goals (first | trivial | simp)
end
section
open PySem PySem.W PyProof.Rows PySem.Calls PySem.Spec PyProof.V
set_option linter.unusedVariables false
section
set_option maxRecDepth 100000
set_option maxHeartbeats 1000000

local macro_rules | `(tactic| walk_at "call ref") => `(tactic| (k_here; (with_reducible show wpAny _ _ (call (Value.ref 72) _) _ _ _); k_dflt (refine' Spec.use2 (factors_ok _ _ _ _ _ _ _ _ _ _ _ ?p0 ?p1 ?p2 ?p3 ?p4 ?p5 ?p6 ?p7) ?kk ?_; (case kk => walk_at "kk"); (case p0 => first | assumption | exact FrameAt.mono (by assumption) (by intro q hq; repeat (first | exact hq | apply List.mem_cons_of_mem))); (case p1 => k_mem); (case p2 => first | assumption | exact CompsAt.mono (by assumption) (by intro q hq; repeat (first | exact hq | apply List.mem_cons_of_mem))); (case p3 => assumption); (case p4 => walk_at "om"); (case p5 => walk_at "om"); (case p6 => assumption); (case p7 => assumption); k_whole); walk_at "st"))
theorem heard_ok (w : World) (news : Led) (f cl : Addr) (wd ht : Int) (vs : List Value) (kk : Nat) (sm : List (Int × Int)) (i : Int) (ti : Tok)
    (hF : FrameAt news f cl wd ht) (hcl : (cl, lstO vs kk) ∈ news) (hC : CompsAt news vs sm) (hS : SmOk sm) (hi0 : 0 ≤ i) (hi1 : i < sm.length)
    (hd1 : (maxL (sm.map (·.1))).fmod (sm.getD i.toNat (0, 0)).1 = 0) (hd2 : (maxL (sm.map (·.2))).fmod (sm.getD i.toNat (0, 0)).2 = 0) :
    Spec w 12 308 [.ref f, .int i ti] news (TupP news ((maxL (sm.map (·.1))).fdiv (sm.getD i.toNat (0, 0)).1) ((maxL (sm.map (·.2))).fdiv (sm.getD i.toNat (0, 0)).2)) := by
  intro loose mean mg mb dp un gd cn cs a' ccd cl' outer A₀ base h₀ L m s Q E hB hF0 hX hN hT hk hdp hun hret
  revert hX; k_fill; intro hX
  refine wpAny_call ?_
  k_dflt ktr_enter
  rename_i g' L' hh1 FG FF NN BB XX TT
  k_steps
  unfold Stop
  rename_i v9 n9 h9 tk9 F9 N9 P9
  dsimp only
  k_steps
  exact hret _ _ _ _ (by assumption) (by assumption) P9
end
end
section
open PySem PySem.W PyProof.Rows
theorem flush_X10 : (if (1 : Nat) = 1 then True else True) := by
  w_top off
  (try walk1)
  all_goals (first | trivial | simp)
end
section
open PySem PySem.W PyProof.Rows PySem.Calls PySem.Spec PyProof.V
set_option linter.unusedVariables false
section
/-- a contract in the outermost frame alone -/
def SpecT (w : World) (d : Nat) (f : Addr) (args : List Value) (news : Led) (Post : Value → Led → Prop) : Prop :=
  ∀ (loose : List Str) (mean : ExcName → Option Value) (mg mb : Str → Option Value) (dp un : Nat) (gd : Option (List Code)) (cn : Str) (cs : Scope) (a : Addr) (ccd : Value) (cl : List (Str × Addr))
    (A₀ : Around) (h₀ : Heap) (L : Addr) (m : Str → Option Value) (s : Shared) (Q E : Value → Shared → Prop),
    Below A₀ h₀ [] h₀ → Fr h₀ L s.heap m → (hd.heap_39 w.params).In h₀ → News h₀ L s.heap news → Top hd.view_39 loose mean mg mb h₀ → cs.kind = .function →
    dp + d < 1000 → un + 8 * d < 9900 →
    (∀ r news' h' tk', Fr h₀ L h' m → News h₀ L h' news' → Post r news' → Q r { s with heap := h', toks := tk' }) →
    wpAny (model Challenge.rw_ok0142_01.row.prog w) (ktrTop dp un gd cn cs L a ccd cl []) (call (.ref f) args) Q E s
theorem SpecX.use {w : World} {d : Nat} {f : Addr} {args : List Value} {news : Led} (S : SpecX w d f args news)
    {loose : List Str} {mean : ExcName → Option Value} {mg mb : Str → Option Value} {dp un : Nat} {gd : Option (List Code)} {cn : Str} {cs : Scope} {a : Addr} {ccd : Value} {cl : List (Str × Addr)} {outer : List Env}
    {A₀ : Around} {base h₀ : Heap} {L : Addr} {m : Str → Option Value} {s : Shared} {Q E : Value → Shared → Prop}
    (B : Below A₀ base outer h₀) (F : Fr h₀ L s.heap m) (X : (hd.heap_39 w.params).In h₀) (N : News h₀ L s.heap news) (T : Top hd.view_39 loose mean mg mb h₀) (hk : cs.kind = .function)
    (hd : dp + d < 1000) (hu : un + 8 * d < 9900)
    (exc : ∀ G h' tk' e dd a0 n', Fr h₀ L G m → RaisedD base G (envX cn cs L a ccd cl :: outer) e (.ref 51) (some dd) a0 n' h' → G.UpToSlots h' → HasMsg news dd n' → E (.ref e) { s with heap := h', toks := tk' }) :
    wpAny (model Challenge.rw_ok0142_01.row.prog w) (ktrTop dp un gd cn cs L a ccd cl outer) (call (.ref f) args) Q E s :=
  S loose mean mg mb dp un gd cn cs a ccd cl outer A₀ base h₀ L m s Q E B F X N T hk hd hu exc
set_option maxRecDepth 100000
set_option maxHeartbeats 1000000

local macro_rules | `(tactic| walk_at "call ref") => `(tactic| (k_here; (with_reducible show wpAny _ _ (call (Value.ref 72) _) _ _ _); refine Stop.out ?_))
theorem heard_bad (w : World) (news : Led) (f cl : Addr) (wd ht : Int) (vs : List Value) (kk : Nat) (sm : List (Int × Int)) (i : Int) (ti : Tok)
    (hF : FrameAt news f cl wd ht) (hcl : (cl, lstO vs kk) ∈ news) (hC : CompsAt news vs sm) (hS : SmOk sm) (hi0 : 0 ≤ i) (hi1 : i < sm.length)
    (hbad : ¬ ((maxL (sm.map (·.1))).fmod (sm.getD i.toNat (0, 0)).1 = 0 ∧ (maxL (sm.map (·.2))).fmod (sm.getD i.toNat (0, 0)).2 = 0)) :
    SpecT w 16 308 [.ref f, .int i ti] news (fun v n' => v = .none ∧ ∀ q ∈ news, q ∈ n') := by
  intro loose mean mg mb dp un gd cn cs a' ccd cl' A₀ h₀ L m s Q E hB hF0 hX hN hT hk hdp hun hret
  revert hX; k_fill; intro hX
  refine wpAny_call ?_
  k_dflt (refine' code_defH ?k1 ?k2 ?k3 ?k4 ?k5 ?kA ?kF ?kK ?k6 ?k7 ?k8 ?k9 ?kB ?_ ?c2 ?c3 ?c4 ?c5; (case kA => exact rfl); (case kF => exact rfl); (case kK => assumption); (case k1 => k_asm); (case k2 => k_asm); (case k3 => k_asm); (case k4 => k_asm); (case k5 => k_asm); (case k6 => k_is); (case k7 => k_is); (case k8 => ktr_room); (case k9 => exact BindsTo.of_eq rfl); (case c5 => decide); (case kB => exact locs rfl); (case c2 => exact rfl); (case c3 => exact rfl); (case c4 => exact rfl); k_whole; intro g' L' h' FG' F' N' B' X' T'; (try dsimp only); (try k_fold))
  k_steps
  unfold Stop
  k_dflt (refine' SpecX.use (factors_bad w news f cl wd ht vs kk sm i ti hF hcl hC hS hi0 hi1 hbad) ?k1 ?k2 ?k3 ?k4 ?k5 ?kK ?kd ?ku ?_; (case k1 => k_asm); (case k2 => k_asm); (case k3 => k_asm); (case k4 => k_asm); (case k5 => k_asm); (case kK => first | exact rfl | assumption); (case kd => (dsimp only [ktrTop, Around.deeper, Around.in1]; omega)); (case ku => (dsimp only [ktrTop, Around.deeper, Around.in1]; omega)))
  intro G h6 tk6 e dd a0 n6 FG6 R U HM
  dsimp only
  k_dflt (refine' caughtD R FG6 B' U hX hT ?ex ?q ?_; (case ex => k_is); (case q => rfl))
  intro h7 g7 oe ws tk7 TU F7 N7 hoc hod hof B7 X7 T7
  refine opq ?_
  intro zX zH
  (refine' ea_3_4 (HM) ?_; intro od msg mt hdd zr4 hne hsub; obtain ⟨es, ep, hd1, hd2, hd3⟩ := zr4; (try clear HM))
  refine zH ?_
  clear zH zX
  have hod2 := N7 _ (List.mem_cons_of_mem _ hdd)
  have heo := N7 _ List.mem_cons_self
  clear F' N' FG6 R U B' X' T'
  k_sweep
  (try dsimp only)
  k_steps
  refine opq ?_
  intro zX zH
  (refine' ea_21_9 (feAt (X7.keeps F7.keep)) ?_; intro nm q N50 bs sn sub ab col dd5 k0 k1 k2 k3 k5 mN mP c0 dP cdP slP oI hC5 hn5 hP5 hnP5 zr25 zr26 zr27 zr28 hq5; clear zr25; clear zr26; clear zr27; clear zr28)
  refine zH ?_
  clear zH zX
  have hB5 : typeLookup (.type "Exception") (Str.ofString "message") = pure none := by rw [typeLookup_type, builtinLookup_eq_fast]; kernel_rfl
  refine load_attrD PySem.F.attrBase_Exception hC5 hn5 hP5 hnP5 (fun x hx => hq5 x ?_) hB5 heo.1 hoc (fun c e => by rw [hof] at e; cases e) hod (mA := fun y => if y = Str.ofString "message" then some (.str msg mt) else none) ⟨od, es, ep, hod2.1, hd1, hd2, hd3⟩ rfl (by rfl) ?_
  · simp only [List.mem_cons, List.not_mem_nil, or_false] at hx ⊢
    rcases hx with h | h | h <;> simp only [h, true_or, or_true]
  k_steps
  all_goals (try (exfalso; rename ((msg != _) = false) => hz; exact hne (by simpa using hz)))
  exact hret _ _ _ _ (by assumption) (by assumption) ⟨rfl, fun q hq => List.mem_cons_of_mem _ (hsub q hq)⟩
end
end
section
open PySem PySem.W PyProof.Rows
theorem flush_P2 : (if (1 : Nat) = 1 then True else True) := by
  w_top off
  (try walk1)
  all_goals (first | trivial | simp)
end
section
open PySem PySem.W PyProof.Rows
set_option linter.unusedVariables false
set_option maxRecDepth 100000
set_option maxHeartbeats 2000000
section
def PoolP (news : Led) (v : Value) (n' : Led) : Prop := ∃ (D : Addr) (a b : Int) (ta tb : Tok) (k : Nat), v = .ref D ∧ n' = (D, lstO [.int a ta, .int b tb] k) :: news ∧ (∀ q ∈ news, q.1 < D) ∧ 0 ≤ a ∧ 0 ≤ b ∧ b < 2147483647
theorem pool_a (c : Int) (P : Prop) [Decidable P] : 0 ≤ (if -1 - c > c then -1 - c else c) * (if P then 1 else 0) := by
  split <;> split <;> omega
theorem pool_b (x : Int) : 0 ≤ x.fmod 2147483647 ∧ x.fmod 2147483647 < 2147483647 := ⟨Int.fmod_nonneg_of_pos _ (by decide), Int.fmod_lt_of_pos _ (by decide)⟩

theorem pool_spec (w : World) (news : Led) (l : Addr) (vs : List Value) (ns : List Int) (t0 : Tok) (hI : IntsAre vs ns) (hlay : (PyData.list (ns.map PyData.int)).layable0 = true) :
  ∀ (loose : List Str) (mean : ExcName → Option Value) (mg mb : Str → Option Value) (dp un : Nat) (gd : Option (List Code)) (cn : Str) (cs : Scope) (a : Addr) (ccd : Value) (cl : List (Str × Addr)) (outer : List Env)
    (A₀ : Around) (base h₀ : Heap) (L : Addr) (m : Str → Option Value) (s : Shared) (Q E : Value → Shared → Prop),
    Below A₀ base outer h₀ → Fr h₀ L s.heap m → (hd.heap_39 w.params).In h₀ → News h₀ L s.heap news → Top hd.view_39 loose mean mg mb h₀ → cs.kind = .function → h₀.IsList l vs.toArray →
    dp + 8 < 1000 → un + 8 * 8 < 9900 →
    (∀ r news' h' tk', Fr h₀ L h' m → News h₀ L h' news' → PoolP news r news' → Q r { s with heap := h', toks := tk' }) →
    wpAny (model Challenge.rw_ok0142_01.row.prog w) (ktrTop dp un gd cn cs L a ccd cl outer) (call (.ref 277) [.ref l, .int 0 t0]) Q E s := by
  intro loose mean mg mb dp un gd cn cs a' ccd cl' outer A₀ base h₀ L m s Q E hB hF0 hX hN hT hk hl hdp hun hret
  revert hX; k_fill; intro hX
  refine wpAny_call ?_
  k_dflt ktr_enter
  rename_i g' L' hh1 FG FF NN BB XX TT
  have hl2 : g'.IsList l vs.toArray := by
    refine opq ?_
    intro zX zH
    obtain ⟨o, ho, hc, n, hd⟩ := hl
    refine zH ?_
    clear zH zX
    exact ⟨o, FG.keep _ _ ho, hc, n, hd⟩
  k_steps
  all_goals
    refine hret _ _ _ _ (by assumption) (by assumption) ⟨_, _, _, _, _, 0, rfl, rfl, by assumption, pool_a _ _, (pool_b _).1, (pool_b _).2⟩
end
end
section
open PySem PySem.W PyProof.Rows
theorem flush_P3 : (if (1 : Nat) = 1 then True else True) := by
  w_top off
  (try walk1)
  all_goals (first | trivial | simp)
end
section
open PySem PySem.W PyProof.Rows
set_option linter.unusedVariables false
set_option maxRecDepth 100000
set_option maxHeartbeats 1000000
section

theorem comp_new (w : World) (news : Led) (v1 : Value) (a : Int) (t2 : Tok) (d : Int) (t3 : Tok) (v4 : Value) :
    Spec w 4 96 [v1, .int a t2, .int d t3, v4] news (fun v n' => ∃ x tl, v = .ref x ∧ n' = tl ++ news ∧ CompAt tl x (a, d) ∧ ∀ p ∈ tl, ∀ q ∈ news, @LT.lt Nat _ q.1 p.1) := by
  intro loose mean mg mb dp un gd cn cs a' ccd cl' outer A₀ base h₀ L m s Q E hB hF hX hN hT hk hdp hun hret
  revert hX; k_fill; intro hX
  k_dflt (refine' call_cls ?k1 ?k2 ?k3 ?k4 ?k5 ?k6 ?_; (case k1 => k_asm); (case k2 => k_asm); (case k3 => k_asm); (case k4 => k_is); (case k5 => k_is); (case k6 => k_is); k_whole)
  intro x dx h F N l1 l2
  have off := ownOff_one l1
  have l2' := l2
  replace l2 := ltN l2
  k_sweep
  k_dflt ktr_enter
  k_steps
  refine hret _ _ _ _ (by assumption) (by assumption) ?_
  refine ⟨x, [(x, _), (dx, _)], rfl, rfl, ⟨dx, _, _, _, _, _, _, _, _, _, _, _, _, _, List.mem_cons_self, List.mem_cons_of_mem _ List.mem_cons_self⟩, fun p hp q hq => ?_⟩
  have h1 := ltN (l1 q hq)
  simp only [List.mem_cons, List.not_mem_nil, or_false] at hp
  rcases hp with rfl | rfl
  · exact Nat.lt_trans h1 l2
  · exact h1
theorem frame_new (w : World) (news : Led) (v1 v2 : Value) (ht : Int) (t3 : Tok) (wd : Int) (t4 : Tok) (r : Addr) (v6 : Value) :
    Spec w 4 162 [v1, v2, .int ht t3, .int wd t4, .ref r, v6] news (fun v n' => ∃ x tl, v = .ref x ∧ n' = tl ++ news ∧ FrameAt tl x r wd ht ∧ ∀ p ∈ tl, ∀ q ∈ news, @LT.lt Nat _ q.1 p.1) := by
  intro loose mean mg mb dp un gd cn cs a' ccd cl' outer A₀ base h₀ L m s Q E hB hF hX hN hT hk hdp hun hret
  revert hX; k_fill; intro hX
  k_dflt (refine' call_cls ?k1 ?k2 ?k3 ?k4 ?k5 ?k6 ?_; (case k1 => k_asm); (case k2 => k_asm); (case k3 => k_asm); (case k4 => k_is); (case k5 => k_is); (case k6 => k_is); k_whole)
  intro x dx h F N l1 l2
  have off := ownOff_one l1
  have l2' := l2
  replace l2 := ltN l2
  k_sweep
  k_dflt ktr_enter
  k_steps
  refine hret _ _ _ _ (by assumption) (by assumption) ?_
  refine ⟨x, [(x, _), (dx, _)], rfl, rfl, ⟨dx, _, _, _, _, _, _, _, _, _, _, _, _, _, _, _, _, _, _, List.mem_cons_self, List.mem_cons_of_mem _ List.mem_cons_self⟩, fun p hp q hq => ?_⟩
  have h1 := ltN (l1 q hq)
  simp only [List.mem_cons, List.not_mem_nil, or_false] at hp
  rcases hp with rfl | rfl
  · exact Nat.lt_trans h1 l2
  · exact h1
end
end
section
open PySem PySem.W PyProof.Rows
theorem flush_Q1 : (if (1 : Nat) = 1 then True else True) := by
  w_top off
  (try walk1)
  all_goals (first | trivial | simp)
end
section
open PySem PySem.W PyProof.Rows
set_option linter.unusedVariables false
section
theorem ceil_uniq {q g c c' : Int} (hg : 1 ≤ g) (h1 : q ≤ c * g) (h2 : (c - 1) * g < q) (h3 : q ≤ c' * g) (h4 : (c' - 1) * g < q) : c = c' := by
  have a1 : (c - 1) * g < c' * g := Int.lt_of_lt_of_le h2 h3
  have a2 : (c' - 1) * g < c * g := Int.lt_of_lt_of_le h4 h1
  have b1 := Int.lt_of_mul_lt_mul_right a1 (by omega)
  have b2 := Int.lt_of_mul_lt_mul_right a2 (by omega)
  omega
/-- the sizes agree where the sampling divides -/
theorem parted_div {s o t : Int} (hs : 0 ≤ s) (ho : 1 ≤ o) (ht : 1 ≤ t) : partedF s o (t * o) = partedF s 1 t := by
  obtain ⟨a1, a2, a3⟩ := partedF_ceil s o (t * o) (Int.mul_pos (by omega) (by omega)) (Int.mul_nonneg hs (by omega))
  obtain ⟨b1, b2, b3⟩ := partedF_ceil s 1 t ht (by omega)
  rw [Int.mul_one] at b1 b2
  refine ceil_uniq ht ?_ ?_ b1 b2
  · rw [← Int.mul_assoc] at a1
    exact Int.le_of_mul_le_mul_right a1 (by omega)
  · rw [← Int.mul_assoc] at a2
    exact Int.lt_of_mul_lt_mul_right a2 (by omega)
/-- a kept place lies in its own block -/
theorem kept_block {n a x tu : Int} (ha : 1 ≤ a) (hx0 : 0 ≤ x) (hx : x * a < n) (h0 : 0 ≤ tu) (h1 : tu < a) : x * a ≤ keptF (x * a + tu) n ∧ keptF (x * a + tu) n < n ∧ keptF (x * a + tu) n < x * a + a := by
  have : 0 ≤ x * a := Int.mul_nonneg hx0 (by omega)
  unfold keptF
  split
  · omega
  · split <;> omega
theorem fdiv_block {a x k : Int} (ha : 1 ≤ a) (h1 : x * a ≤ k) (h2 : k < x * a + a) : Int.fdiv k a = x := by
  rw [Int.fdiv_eq_ediv_of_nonneg _ (by omega)]
  have e := Int.mul_ediv_add_emod k a
  have m0 := Int.emod_nonneg k (show a ≠ 0 by omega)
  have m1 := Int.emod_lt_of_pos k (show 0 < a by omega)
  rw [Int.mul_comm] at e
  have c1 : k / a * a < (x + 1) * a := by rw [Int.add_mul]; omega
  have c2 : x * a < (k / a + 1) * a := by rw [Int.add_mul]; omega
  have d1 := Int.lt_of_mul_lt_mul_right c1 (by omega)
  have d2 := Int.lt_of_mul_lt_mul_right c2 (by omega)
  omega
theorem sum1_le {f : Nat → Int} {M : Int} : ∀ (n : Nat), (∀ i, i < n → f i ≤ M) → sum1 f n ≤ n * M
  | 0, _ => by simp [sum1]
  | n + 1, h => by
    have := sum1_le n fun i hi => h i (by omega)
    have h2 := h n (by omega)
    simp only [sum1]
    rw [Int.natCast_add, Int.add_mul]
    simp only [Int.natCast_one, Int.one_mul]
    omega
theorem le_sum1 {f : Nat → Int} {M : Int} : ∀ (n : Nat), (∀ i, i < n → M ≤ f i) → n * M ≤ sum1 f n
  | 0, _ => by simp [sum1]
  | n + 1, h => by
    have := le_sum1 n fun i hi => h i (by omega)
    have h2 := h n (by omega)
    simp only [sum1]
    rw [Int.natCast_add, Int.add_mul]
    simp only [Int.natCast_one, Int.one_mul]
    omega
theorem bias_bd {x a d : Int} (ha : 1 ≤ a) (hd : 1 ≤ d) : 0 ≤ biasF x a d ∧ biasF x a d ≤ a * d - 1 := by
  unfold biasF
  split
  · rename_i h
    obtain ⟨rfl, rfl⟩ := h
    rw [Int.fmod_eq_emod_of_nonneg _ (by decide)]
    omega
  · split
    · rename_i h
      obtain ⟨rfl, rfl⟩ := h
      rw [Int.fmod_eq_emod_of_nonneg _ (by decide)]
      omega
    · have : 1 ≤ a * d := Int.mul_pos (by omega) (by omega)
      rw [Int.fdiv_eq_ediv_of_nonneg _ (by decide)]
      generalize a * d = q at *
      omega
theorem mean_bd {cells : List (List Int)} {wd ht x y a d lo hi : Int} (ha : 1 ≤ a) (hd : 1 ≤ d)
    (h : ∀ tu st : Nat, (tu : Int) < a → (st : Int) < d → lo ≤ cellF cells (keptF (x * a + (0 + (tu : Int))) wd) (keptF (y * d + (0 + (st : Int))) ht) ∧ cellF cells (keptF (x * a + (0 + (tu : Int))) wd) (keptF (y * d + (0 + (st : Int))) ht) ≤ hi) :
    lo ≤ meanF cells wd ht x y a d ∧ meanF cells wd ht x y a d ≤ hi := by
  obtain ⟨b1, b2⟩ := bias_bd (x := x) ha hd
  have hn : 1 ≤ a * d := Int.mul_pos (by omega) (by omega)
  have ea : ((a.toNat : Nat) : Int) = a := Int.toNat_of_nonneg (by omega)
  have ed : ((d.toNat : Nat) : Int) = d := Int.toNat_of_nonneg (by omega)
  have l1 : ∀ st : Nat, st < d.toNat → a * lo ≤ lineF cells wd ht x y a d st a.toNat ∧ lineF cells wd ht x y a d st a.toNat ≤ a * hi := fun st hs => by
    have u := le_sum1 (f := fun tu => cellF cells (keptF (x * a + (0 + (tu : Int))) wd) (keptF (y * d + (0 + (st : Int))) ht)) (M := lo) a.toNat fun i hi' => (h i st (by omega) (by omega)).1
    have v := sum1_le (f := fun tu => cellF cells (keptF (x * a + (0 + (tu : Int))) wd) (keptF (y * d + (0 + (st : Int))) ht)) (M := hi) a.toNat fun i hi' => (h i st (by omega) (by omega)).2
    rw [ea] at u v
    exact ⟨u, v⟩
  have u := le_sum1 (f := fun st => lineF cells wd ht x y a d st a.toNat) (M := a * lo) d.toNat fun i hi' => (l1 i hi').1
  have v := sum1_le (f := fun st => lineF cells wd ht x y a d st a.toNat) (M := a * hi) d.toNat fun i hi' => (l1 i hi').2
  rw [ed, ← Int.mul_assoc, Int.mul_comm d a] at u v
  unfold meanF
  have u' : a * d * lo ≤ totF cells wd ht x y a d d.toNat := u
  have v' : totF cells wd ht x y a d d.toNat ≤ a * d * hi := v
  rw [Int.fdiv_eq_ediv_of_nonneg _ (by omega)]
  generalize totF cells wd ht x y a d d.toNat = T at *
  generalize a * d = q at *
  constructor
  · rw [Int.le_ediv_iff_mul_le (by omega), Int.mul_comm]; omega
  · have : T + biasF x a d < (hi + 1) * q := by rw [Int.add_mul, Int.mul_comm hi q]; omega
    have := Int.ediv_lt_of_lt_mul (by omega) this
    omega
end
end
section
open PySem PySem.W PyProof.Rows
theorem flush_Q2 : (if (1 : Nat) = 1 then True else True) := by
  w_top off
  (try walk1)
  all_goals (first | trivial | simp)
end
section
open PySem PySem.W PyProof.Rows
set_option linter.unusedVariables false
section
/-- the value at a place of a made plane -/
theorem cell_made {f : Nat → Nat → Int} {w h : Nat} {x y : Int} (hx0 : 0 ≤ x) (hx : x < w) (hy0 : 0 ≤ y) (hy : y < h) : cellF ((List.range h).map fun st => (List.range w).map fun tu => f st tu) x y = f y.toNat x.toNat := by
  unfold cellF
  have h1 : y.toNat < h := by omega
  have h2 : x.toNat < w := by omega
  simp [List.getD_eq_getElem?_getD, h1, h2]
theorem kept_id {x n : Int} (h0 : 0 ≤ x) (h1 : x < n) : keptF x n = x := by
  unfold keptF; rw [if_neg (by omega), if_pos h1]
/-- a made plane is its cells -/
theorem made_self {cells : List (List Int)} {w h : Nat} (hl : cells.length = h) (hr : ∀ c ∈ cells, c.length = w) {f : Nat → Nat → Int} (hf : ∀ st tu : Nat, st < h → tu < w → f st tu = cellF cells tu st) :
    ((List.range h).map fun st => (List.range w).map fun tu => f st tu) = cells := by
  refine List.ext_getElem (by simp [hl]) fun i h1 h2 => ?_
  have hi : i < h := by simpa using h1
  have hc := hr cells[i] (List.getElem_mem h2)
  simp only [List.getElem_map, List.getElem_range]
  refine List.ext_getElem (by simp [hc]) fun j h3 h4 => ?_
  have hj : j < w := by simpa using h3
  simp only [List.getElem_map, List.getElem_range]
  rw [hf i j hi hj]
  unfold cellF
  simp [List.getD_eq_getElem?_getD, List.getElem?_eq_getElem h2, List.getElem?_eq_getElem h4]
theorem cell_mem_some {cells : List (List Int)} {wd ht a d kx ky : Int} {x y : Nat} (hl : (cells.length : Int) = ht) (hr : ∀ c ∈ cells, (c.length : Int) = wd) (ha : 1 ≤ a) (hd : 1 ≤ d)
    (h1 : x * a ≤ kx) (h2 : kx < x * a + a) (h3 : kx < wd) (h4 : y * d ≤ ky) (h5 : ky < y * d + d) (h6 : ky < ht) : cellF cells kx ky ∈ someF cells a.toNat d.toNat x y := by
  have ea : ((a.toNat : Nat) : Int) = a := Int.toNat_of_nonneg (by omega)
  have ed : ((d.toNat : Nat) : Int) = d := Int.toNat_of_nonneg (by omega)
  have hx0 : 0 ≤ (x : Int) * a := Int.mul_nonneg (by omega) (by omega)
  have hy0 : 0 ≤ (y : Int) * d := Int.mul_nonneg (by omega) (by omega)
  have exa : ((x * a.toNat : Nat) : Int) = x * a := by rw [Int.natCast_mul, ea]
  have eyd : ((y * d.toNat : Nat) : Int) = y * d := by rw [Int.natCast_mul, ed]
  have hy1 : ky.toNat < cells.length := by omega
  have hc := hr cells[ky.toNat] (List.getElem_mem hy1)
  have hx1 : kx.toNat < cells[ky.toNat].length := by omega
  have e : cellF cells kx ky = cells[ky.toNat][kx.toNat] := by
    unfold cellF
    simp [List.getD_eq_getElem?_getD, List.getElem?_eq_getElem hy1, List.getElem?_eq_getElem hx1]
  rw [e]
  unfold someF
  refine List.mem_flatMap.mpr ⟨cells[ky.toNat], ?_, ?_⟩
  · refine List.mem_of_getElem? (i := ky.toNat - y * d.toNat) ?_
    rw [List.getElem?_take_of_lt (by omega), List.getElem?_drop, show y * d.toNat + (ky.toNat - y * d.toNat) = ky.toNat by omega]
    exact List.getElem?_eq_getElem hy1
  · refine List.mem_of_getElem? (i := kx.toNat - x * a.toNat) ?_
    rw [List.getElem?_take_of_lt (by omega), List.getElem?_drop, show x * a.toNat + (kx.toNat - x * a.toNat) = kx.toNat by omega]
    exact List.getElem?_eq_getElem hx1
theorem min_le {l : List Int} {v : Int} (h : v ∈ l) : minL l ≤ v := by
  cases l with
  | nil => cases h
  | cons x r => exact (minL_spec x r).2 v h
theorem le_max {l : List Int} {v : Int} (h : v ∈ l) : v ≤ maxL l := by
  cases l with
  | nil => cases h
  | cons x r => exact (maxL_spec x r).2 v h
/-- the block of a lesser place begins within the plane -/
theorem block_in {wd a : Int} {x : Nat} (hw : 0 ≤ wd) (ha : 1 ≤ a) (hx : (x : Int) < partedF wd 1 a) : x * a < wd := by
  obtain ⟨h1, h2, h3⟩ := partedF_ceil wd 1 a ha (by omega)
  rw [Int.mul_one] at h2
  have : (x : Int) * a ≤ (partedF wd 1 a - 1) * a := Int.mul_le_mul_of_nonneg_right (by omega) (by omega)
  omega
/-- the law of the lesser plane -/
theorem shrunk_law {cells : List (List Int)} {wd ht a d : Int} (hl : (cells.length : Int) = ht) (hr : ∀ c ∈ cells, (c.length : Int) = wd) (hw : 1 ≤ wd) (hh : 1 ≤ ht) (ha : 1 ≤ a) (hd : 1 ≤ d) (x y : Nat)
    (hx : (x : Int) < partedF wd 1 a) (hy : (y : Int) < partedF ht 1 d) :
    someF cells a.toNat d.toNat x y ≠ [] ∧ minL (someF cells a.toNat d.toNat x y) ≤ cellF (shrF cells wd ht a d) x y ∧ cellF (shrF cells wd ht a d) x y ≤ maxL (someF cells a.toNat d.toNat x y) := by
  have bx := block_in (by omega) ha hx
  have by' := block_in (by omega) hd hy
  have key : ∀ tu st : Nat, (tu : Int) < a → (st : Int) < d → cellF cells (keptF (x * a + (0 + (tu : Int))) wd) (keptF (y * d + (0 + (st : Int))) ht) ∈ someF cells a.toNat d.toNat x y := fun tu st h1 h2 => by
    obtain ⟨p1, p2, p3⟩ := kept_block (n := wd) (x := (x : Int)) (tu := 0 + (tu : Int)) ha (by omega) bx (by omega) (by omega)
    obtain ⟨q1, q2, q3⟩ := kept_block (n := ht) (x := (y : Int)) (tu := 0 + (st : Int)) hd (by omega) by' (by omega) (by omega)
    exact cell_mem_some hl hr ha hd p1 p3 p2 q1 q3 q2
  refine ⟨fun e => ?_, ?_⟩
  · have := key 0 0 (by omega) (by omega)
    rw [e] at this; cases this
  have hpw := (partedF_ceil wd 1 a ha (by omega)).2.2
  have hph := (partedF_ceil ht 1 d hd (by omega)).2.2
  unfold shrF
  split
  · rename_i h
    obtain ⟨rfl, rfl⟩ := h
    unfold cutF
    rw [cell_made (by omega) (by omega) (by omega) (by omega)]
    have := key 0 0 (by omega) (by omega)
    simp only [Int.mul_one] at this
    have e : cellF cells (keptF (0 + (0 + ((Int.toNat (x : Int) : Nat) : Int))) wd) (keptF (0 + (0 + ((Int.toNat (y : Int) : Nat) : Int))) ht) = cellF cells (keptF ((x : Int) + (0 + ((0 : Nat) : Int))) wd) (keptF ((y : Int) + (0 + ((0 : Nat) : Int))) ht) := by
      simp
    rw [e]
    exact ⟨min_le this, le_max this⟩
  · rw [cell_made (by omega) (by omega) (by omega) (by omega)]
    have hm := mean_bd (cells := cells) (wd := wd) (ht := ht) (x := (x : Int)) (y := (y : Int)) (lo := minL (someF cells a.toNat d.toNat x y)) (hi := maxL (someF cells a.toNat d.toNat x y)) ha hd fun tu st h1 h2 => ⟨min_le (key tu st h1 h2), le_max (key tu st h1 h2)⟩
    simpa using hm
theorem shr_len {cells : List (List Int)} {wd ht a d : Int} (hd : 1 ≤ d) (hh : 0 ≤ ht) : ((shrF cells wd ht a d).length : Int) = partedF ht 1 d := by
  have := (partedF_ceil ht 1 d hd (by omega)).2.2
  unfold shrF cutF
  split <;> simp <;> omega
/-- the grown plane's cells -/
theorem rep_cell {cells : List (List Int)} {wd ht a d wo ho : Int} {kx ky : Int} (ha : 1 ≤ a) (hd : 1 ≤ d) (hx0 : 0 ≤ kx) (hx : kx < wo) (hy0 : 0 ≤ ky) (hy : ky < ho) (h1 : Int.fdiv kx a < wd) (h2 : Int.fdiv ky d < ht) :
    cellF (repF cells wd ht a d wo ho) kx ky = cellF cells (Int.fdiv kx a) (Int.fdiv ky d) := by
  unfold repF
  rw [cell_made hx0 (by omega) hy0 (by omega)]
  have e1 : (0 + ((kx.toNat : Nat) : Int)) * 1 = kx := by omega
  have e2 : (0 + ((ky.toNat : Nat) : Int)) * 1 = ky := by omega
  rw [e1, e2, kept_id (Int.fdiv_nonneg hx0 (by omega)) h1, kept_id (Int.fdiv_nonneg hy0 (by omega)) h2]
theorem fdiv_in {wd a : Int} {x : Nat} (ha : 1 ≤ a) (hw : 0 ≤ wd) (hx : (x : Int) < wd) : 0 ≤ Int.fdiv (0 + (x : Int)) a ∧ Int.fdiv (0 + (x : Int)) a < partedF wd 1 a := by
  obtain ⟨h1, h2, h3⟩ := partedF_ceil wd 1 a ha (by omega)
  rw [Int.mul_one] at h1
  refine ⟨Int.fdiv_nonneg (by omega) (by omega), ?_⟩
  rw [Int.fdiv_eq_ediv_of_nonneg _ (by omega)]
  exact Int.ediv_lt_of_lt_mul (by omega) (by omega)
theorem grown_rows {cells : List (List Int)} {lw lh a d wd ht : Int} (ha : 1 ≤ a) (hd : 1 ≤ d) (Hx : ∀ x : Nat, (x : Int) < wd → 0 ≤ Int.fdiv (0 + (x : Int)) a ∧ Int.fdiv (0 + (x : Int)) a < lw) (Hy : ∀ y : Nat, (y : Int) < ht → 0 ≤ Int.fdiv (0 + (y : Int)) d ∧ Int.fdiv (0 + (y : Int)) d < lh)
    (y : Nat) (hy : (y : Int) < ht) : (repF cells lw lh a d wd ht).getD (0 + (y : Int)).toNat [] = (List.range wd.toNat).map fun (tu : Nat) => (cells.getD (Int.fdiv (0 + (y : Int)) d).toNat []).getD (Int.fdiv (0 + (tu : Int)) a).toNat 0 := by
  have hy2 : y < ht.toNat := by omega
  unfold repF
  rw [show (0 + (y : Int)).toNat = y by omega, List.getD_eq_getElem?_getD, List.getElem?_map, List.getElem?_range hy2]
  simp only [Option.map_some, Option.getD_some]
  refine List.map_congr_left fun tu htu => ?_
  have htu2 : (tu : Int) < wd := by have := List.mem_range.mp htu; omega
  rw [Int.mul_one, Int.mul_one, kept_id (Hx tu htu2).1 (Hx tu htu2).2, kept_id (Hy y hy).1 (Hy y hy).2]
  rfl
/-- the lesser plane of the grown one is the plane -/
theorem grown_law {cells : List (List Int)} {wd ht a d : Int} (hw : 1 ≤ wd) (hh : 1 ≤ ht) (ha : 1 ≤ a) (hd : 1 ≤ d) (hl : (cells.length : Int) = partedF ht 1 d) (hr : ∀ c ∈ cells, (c.length : Int) = partedF wd 1 a) :
    shrF (repF cells (partedF wd 1 a) (partedF ht 1 d) a d wd ht) wd ht a d = cells := by
  have hpw := (partedF_ceil wd 1 a ha (by omega)).2.2
  have hph := (partedF_ceil ht 1 d hd (by omega)).2.2
  have hl2 : cells.length = (partedF ht 1 d).toNat := by omega
  have hr2 : ∀ c ∈ cells, c.length = (partedF wd 1 a).toNat := fun c hc => by have := hr c hc; omega
  have key : ∀ x y : Nat, (x : Int) < partedF wd 1 a → (y : Int) < partedF ht 1 d → ∀ tu st : Nat, (tu : Int) < a → (st : Int) < d →
      cellF (repF cells (partedF wd 1 a) (partedF ht 1 d) a d wd ht) (keptF (x * a + (0 + (tu : Int))) wd) (keptF (y * d + (0 + (st : Int))) ht) = cellF cells x y := fun x y hx hy tu st h1 h2 => by
    have bx := block_in (by omega) ha hx
    have by' := block_in (by omega) hd hy
    obtain ⟨p1, p2, p3⟩ := kept_block (n := wd) (x := (x : Int)) (tu := 0 + (tu : Int)) ha (by omega) bx (by omega) (by omega)
    obtain ⟨q1, q2, q3⟩ := kept_block (n := ht) (x := (y : Int)) (tu := 0 + (st : Int)) hd (by omega) by' (by omega) (by omega)
    have f1 := fdiv_block ha p1 p3
    have f2 := fdiv_block hd q1 q3
    have g1 : 0 ≤ (x : Int) * a := Int.mul_nonneg (by omega) (by omega)
    have g2 : 0 ≤ (y : Int) * d := Int.mul_nonneg (by omega) (by omega)
    rw [rep_cell ha hd (by omega) p2 (by omega) q2 (by rw [f1]; exact hx) (by rw [f2]; exact hy), f1, f2]
  unfold shrF
  split
  · rename_i h
    obtain ⟨rfl, rfl⟩ := h
    unfold cutF
    refine made_self hl2 hr2 fun st tu hst htu => ?_
    have := key tu st (by omega) (by omega) 0 0 (by omega) (by omega)
    simpa using this
  · refine made_self hl2 hr2 fun st tu hst htu => ?_
    have hm := mean_bd (cells := repF cells (partedF wd 1 a) (partedF ht 1 d) a d wd ht) (wd := wd) (ht := ht) (x := (tu : Int)) (y := (st : Int)) (lo := cellF cells tu st) (hi := cellF cells tu st) ha hd fun tu' st' h1 h2 => by
      rw [key tu st (by omega) (by omega) tu' st' h1 h2]
      exact ⟨Int.le_refl _, Int.le_refl _⟩
    rw [Int.zero_add, Int.zero_add]
    omega
end
end
section
open PySem PySem.W PyProof.Rows
theorem flush_P4 : (if (1 : Nat) = 1 then True else True) := by
  w_top off
  (try walk1)
  all_goals (first | trivial | simp)
end
section
open PySem PySem.W PyProof.Rows PyProof.V PySem.Spec
set_option linter.unusedVariables false
set_option maxRecDepth 100000
set_option maxHeartbeats 2000000
section
theorem pool_use {w : World} {news : Led} {l : Addr} {vs : List Value} {ns : List Int} {t0 : Tok} (hI : IntsAre vs ns) (hlay : (PyData.list (ns.map PyData.int)).layable0 = true)
    {loose : List Str} {mean : ExcName → Option Value} {mg mb : Str → Option Value} {dp un : Nat} {gd : Option (List Code)} {cn : Str} {cs : Scope} {a : Addr} {ccd : Value} {cl : List (Str × Addr)} {outer : List Env}
    {A₀ : Around} {base h₀ : Heap} {L : Addr} {m : Str → Option Value} {s : Shared} {Q E : Value → Shared → Prop}
    (B : Below A₀ base outer h₀) (F : Fr h₀ L s.heap m) (X : (hd.heap_39 w.params).In h₀) (N : News h₀ L s.heap news) (T : Top hd.view_39 loose mean mg mb h₀) (hk : cs.kind = .function) (hl : h₀.IsList l vs.toArray)
    (hdp : dp + 8 < 1000) (hu : un + 8 * 8 < 9900)
    (ret : ∀ r news' h' tk', Fr h₀ L h' m → News h₀ L h' news' → PoolP news r news' → Q r { s with heap := h', toks := tk' }) :
    wpAny (model Challenge.rw_ok0142_01.row.prog w) (ktrTop dp un gd cn cs L a ccd cl outer) (call (.ref 277) [.ref l, .int 0 t0]) Q E s :=
  pool_spec w news l vs ns t0 hI hlay loose mean mg mb dp un gd cn cs a ccd cl outer A₀ base h₀ L m s Q E B F X N T hk hl hdp hu ret
section
variable {prog : Program} {w : World} {A : Around} {E : Value → Shared → Prop} {s : Shared} {h₀ : Heap} {L : Addr} {news : Led}
theorem len_l {a : Addr} {vs : List Value} {k : Nat} {Q : Value → Shared → Prop} (N : News h₀ L s.heap news) (hm : (a, lstO vs k) ∈ news) (hz : vs.length ≤ 100)
    (h : Q (.int (vs.length : Int) (s.toks + 1)) { s with toks := s.toks + 1 + 1 }) : wpAny (model prog w) A (call (.builtin "len") [.ref a]) Q E s := by
  refine len_list ⟨_, (N _ hm).1, rfl, k, rfl⟩ (by simp; omega) ?_
  simpa using h
theorem ne_pair {T1 T2 : Addr} {a b a' b' : Int} {t1 t2 t3 t4 : Tok} {Q : Value → Shared → Prop} (N : News h₀ L s.heap news) (m1 : (T1, tupO [.int a t1, .int b t2]) ∈ news) (m2 : (T2, tupO [.int a' t3, .int b' t4]) ∈ news)
    (ea : a = a') (eb : b = b') (hu : A.units + 64 < cLine) (h : Q (.bool false) s) : wpAny (model prog w) A (compareOp .NotEq (.ref T1) (.ref T2)) Q E s := by
  subst ea eb
  refine ne_dataH (reads_tuple_at (N _ m1).1 rfl rfl (.cons (.int _ _) (.cons (.int _ _) .nil))) (reads_tuple_at (N _ m2).1 rfl rfl (.cons (.int _ _) (.cons (.int _ _) .nil))) rfl rfl hu ?_
  simpa [PyData.eqv, PyData.eqvAll] using h
end
theorem TupsAt.snoc {rest : Led} {vs : List Value} {sm : List (Int × Int)} {T : Addr} {a d : Int} {t1 t2 : Tok} (h : TupsAt rest vs sm) : TupsAt ((T, tupO [.int a t1, .int d t2]) :: rest) (vs ++ [.ref T]) (sm ++ [(a, d)]) := by
  have hl := h.1
  refine ⟨by simp [hl], fun i p e => ?_⟩
  by_cases hi : i < sm.length
  · rw [List.getElem?_append_left hi] at e
    refine opq ?_
    intro zX zH
    obtain ⟨t, u1, u2, e1, e2⟩ := h.2 i p e
    refine zH ?_
    clear zH zX
    exact ⟨t, u1, u2, by rw [List.getElem?_append_left (by omega)]; exact e1, List.mem_cons_of_mem _ e2⟩
  · rw [List.getElem?_append_right (by omega)] at e
    have hi' : i = sm.length := by
      cases hn : i - sm.length with
      | zero => omega
      | succ n => rw [hn] at e; simp at e
    subst hi'
    simp at e
    subst e
    exact ⟨T, t1, t2, by rw [List.getElem?_append_right (by omega), hl]; simp, List.mem_cons_self⟩
theorem CompsAt.snoc {rest tl : Led} {vs : List Value} {sm : List (Int × Int)} {c : Addr} {p : Int × Int} (h : CompsAt rest vs sm) (hc : CompAt tl c p) : CompsAt (tl ++ rest) (vs ++ [.ref c]) (sm ++ [p]) := by
  have hl := h.1
  refine ⟨by simp [hl], fun i q e => ?_⟩
  by_cases hi : i < sm.length
  · rw [List.getElem?_append_left hi] at e
    refine opq ?_
    intro zX zH
    obtain ⟨t, e1, e2⟩ := h.2 i q e
    refine zH ?_
    clear zH zX
    exact ⟨t, by rw [List.getElem?_append_left (by omega)]; exact e1, e2.mono fun x hx => List.mem_append_right _ hx⟩
  · rw [List.getElem?_append_right (by omega)] at e
    have hi' : i = sm.length := by
      cases hn : i - sm.length with
      | zero => omega
      | succ n => rw [hn] at e; simp at e
    subst hi'
    simp at e
    subst e
    exact ⟨c, by rw [List.getElem?_append_right (by omega), hl]; simp, hc.mono fun x hx => List.mem_append_left _ hx⟩
theorem pickE {a z : Str} {v x y : Option Value} (h1 : z = a → y = v) (h2 : z ≠ a → y = x) : y = if z = a then v else x := by
  by_cases h : z = a
  · rw [if_pos h]; exact h1 h
  · rw [if_neg h]; exact h2 h
theorem pickL {a z : Str} {v x y : Option Value} (h1 : z = a → v = y) (h2 : z ≠ a → x = y) : (if z = a then v else x) = y := by
  by_cases h : z = a
  · rw [if_pos h]; exact h1 h
  · rw [if_neg h]; exact h2 h
theorem pickC {a z : Str} {v x y : Option Value} (h2 : z ≠ a → x = y) : (if z = a then v else x) = if z = a then v else y := by
  by_cases h : z = a
  · rw [if_pos h, if_pos h]
  · rw [if_neg h, if_neg h]; exact h2 h
def Bd (a b : Int) : Prop := 0 ≤ a ∧ 0 ≤ b ∧ b < 2147483647
theorem news_front {h₀ h : Heap} {L : Addr} {x : Addr × Obj} {news n' : Led} (N : News h₀ L h n') (hx : x ∈ n') (hs : ∀ q ∈ news, q ∈ n') : News h₀ L h (x :: news) := news_sub N fun q hq => by
  rcases List.mem_cons.mp hq with rfl | hq
  · exact hx
  · exact hs q hq
theorem news_ne {h₀ h : Heap} {L a b : Addr} {o o' : Obj} {n : Led} (N : News h₀ L h n) (ha : (a, o) ∈ n) (hb : (b, o') ∈ n) (hc : o.cls ≠ o'.cls) : @Ne Nat a b := fun e => hc (by
  have h1 : h.get? a = some o := (N _ ha).1
  have h2 : h.get? b = some o' := (N _ hb).1
  have e2 : a = b := e
  rw [e2, h2] at h1
  rw [Option.some.inj h1])
theorem Rows.len {news : Led} {vs : List Value} {cells : List (List Int)} {wd : Int} (h : Rows news vs cells wd) : ∀ c ∈ cells, (c.length : Int) = wd := fun c hc => by
  refine opq ?_
  intro zX zH
  obtain ⟨i, hi⟩ := List.getElem?_of_mem hc
  refine zH ?_
  clear zH zX
  exact (h.2 i c hi).1
theorem due_ok {news n' : Led} {sm : List (Int × Int)} {p : Int × Int} {v : Value} (h : DueP news sm p v n') (hd : (maxL (sm.map (·.1))).fmod p.1 = 0 ∧ (maxL (sm.map (·.2))).fmod p.2 = 0) :
    TupP news ((maxL (sm.map (·.1))).fdiv p.1) ((maxL (sm.map (·.2))).fdiv p.2) v n' := by
  rcases h with h | h
  · exact h.2
  · exact absurd hd h.1
theorem due_bad {news n' : Led} {sm : List (Int × Int)} {p : Int × Int} {v : Value} (h : DueP news sm p v n') (hd : ¬ ((maxL (sm.map (·.1))).fmod p.1 = 0 ∧ (maxL (sm.map (·.2))).fmod p.2 = 0)) :
    v = .none ∧ ∀ q ∈ news, q ∈ n' := by
  rcases h with h | h
  · exact absurd h.1 hd
  · exact h.2
theorem base_of {h₀ h : Heap} {L : Addr} {x d2 d1 : Addr × Obj} {src : Addr} {o : Obj} {B : Led} (N : News h₀ L h (x :: d2 :: d1 :: (src, o) :: B)) (off : OwnOff B [src]) (hx : @LT.lt Nat _ src x.1) :
    ∃ B5 : Led, x ∈ B5 ∧ (∀ q ∈ B, q ∈ B5) ∧ OwnOff B5 [src] ∧ News h₀ L h ((src, o) :: B5) := by
  refine ⟨x :: B, List.mem_cons_self, fun q hq => List.mem_cons_of_mem _ hq, ?_, news_sub N fun q hq => ?_⟩
  · intro q hq b hb
    rw [List.mem_singleton.mp hb]
    rcases List.mem_cons.mp hq with rfl | hq
    · exact Nat.ne_of_gt hx
    · exact off q hq src List.mem_cons_self
  · simp only [List.mem_cons] at hq ⊢
    rcases hq with h | h | h <;> simp only [h, true_or, or_true]
theorem SpecT.use {w : World} {d : Nat} {f : Addr} {args : List Value} {news : Led} {Post : Value → Led → Prop} (S : SpecT w d f args news Post)
    {loose : List Str} {mean : ExcName → Option Value} {mg mb : Str → Option Value} {dp un : Nat} {gd : Option (List Code)} {cn : Str} {cs : Scope} {a : Addr} {ccd : Value} {cl : List (Str × Addr)}
    {A₀ : Around} {h₀ : Heap} {L : Addr} {m : Str → Option Value} {s : Shared} {Q E : Value → Shared → Prop}
    (B : Below A₀ h₀ [] h₀) (F : Fr h₀ L s.heap m) (X : (hd.heap_39 w.params).In h₀) (N : News h₀ L s.heap news) (T : Top hd.view_39 loose mean mg mb h₀) (hk : cs.kind = .function)
    (hd : dp + d < 1000) (hu : un + 8 * d < 9900)
    (ret : ∀ r news' h' tk', Fr h₀ L h' m → News h₀ L h' news' → Post r news' → Q r { s with heap := h', toks := tk' }) :
    wpAny (model Challenge.rw_ok0142_01.row.prog w) (ktrTop dp un gd cn cs L a ccd cl []) (call (.ref f) args) Q E s :=
  S loose mean mg mb dp un gd cn cs a ccd cl A₀ h₀ L m s Q E B F X N T hk hd hu ret
theorem parted_bd {n a : Int} (hn : 1 ≤ n) (ha : 1 ≤ a) : 1 ≤ partedF n 1 a ∧ partedF n 1 a ≤ n := by
  refine opq ?_
  intro zX zH
  obtain ⟨h1, h2, h3⟩ := partedF_ceil n 1 a ha (by omega)
  refine zH ?_
  clear zH zX
  generalize partedF n 1 a = c at *
  rw [Int.mul_one] at h1 h2
  constructor
  · rcases Int.lt_or_le 0 c with h | h
    · exact h
    · have : c * a ≤ 0 * a := Int.mul_le_mul_of_nonneg_right h (by omega)
      omega
  · rcases Int.lt_or_le n c with h | h
    · have : n * 1 ≤ (c - 1) * a := Int.mul_le_mul (by omega) ha (by omega) (by omega)
      omega
    · exact h
theorem div_bd {M s : Int} (h1 : 1 ≤ M) (h4 : M ≤ 4) (hs : 1 ≤ s) (hm : M.fmod s = 0) : (1 ≤ M.fdiv s ∧ M.fdiv s ≤ 4) ∧ M.fdiv s * s = M := by
  have e := (fdiv_whole M s).mpr hm
  generalize M.fdiv s = a at *
  refine ⟨⟨?_, ?_⟩, e⟩
  · rcases Int.lt_or_le 0 a with h | h
    · exact h
    · have : a * s ≤ 0 * s := Int.mul_le_mul_of_nonneg_right h (by omega)
      omega
  · rcases Int.lt_or_le 4 a with h | h
    · have : a * 1 ≤ a * s := Int.mul_le_mul_of_nonneg_left hs (by omega)
      omega
    · exact h

local macro_rules | `(tactic| walk_at "call builtin:len") => `(tactic| (k_here; (with_reducible show wpAny _ _ (call (Value.builtin "len") [Value.ref _]) _ _ _); k_dflt (refine' len_l ?k1 ?k2 ?k3 ?_; (case k1 => k_asm); (case k2 => k_mem); (case k3 => omega); k_whole)))

local macro_rules | `(tactic| walk_at "subscriptTail") => `(tactic| (k_here; (with_reducible show wpAny _ _ (subscriptTail _ _ (Value.ref _) (Value.int _ _)) _ _ _); k_dflt (first
  | (refine' item_tup2 ?k1 ?k2 ?k4 ?k5 ?_ ?k7; (case k1 => k_asm); (case k2 => walk_at "mm"); (case k4 => walk_at "om"); (case k5 => walk_at "om"); (case k7 => with_unfolding_all rfl); k_whole; intro t')
  | (refine' item_tups ?k1 ?k2 ?k3 ?k4 ?k5 ?k6 ?_ ?k7; (case k1 => k_asm); (case k2 => walk_at "mm"); (case k3 => first | assumption | exact TupsAt.mono (by assumption) (by intro q hq; repeat (first | exact hq | apply List.mem_cons_of_mem))); (case k4 => walk_at "om"); (case k5 => walk_at "om"); (case k6 => walk_at "om"); (case k7 => with_unfolding_all rfl); k_whole; intro c' y1' y2' hm1'))))
local macro_rules | `(tactic| walk_at "subscriptTail") => `(tactic| (k_here; (with_reducible show wpAny _ _ (subscriptTail _ _ (Value.ref _) (Value.int 0 _)) _ _ _); k_dflt (refine' item_t0 ?k1 ?k2 ?_ ?k7; (case k1 => k_asm); (case k2 => walk_at "mm"); (case k7 => with_unfolding_all rfl); k_whole; intro t')))
local macro_rules | `(tactic| walk_at "subscriptTail") => `(tactic| (k_here; (with_reducible show wpAny _ _ (subscriptTail _ _ (Value.ref _) (Value.int 1 _)) _ _ _); k_dflt (refine' item_t1 ?k1 ?k2 ?_ ?k7; (case k1 => k_asm); (case k2 => walk_at "mm"); (case k7 => with_unfolding_all rfl); k_whole; intro t')))
local macro_rules | `(tactic| walk_at "call ref") => `(tactic| (k_here; (with_reducible show wpAny _ _ (call (Value.ref _) _) _ _ _); refine Stop.out ?_))
local macro_rules | `(tactic| walk_at "call builtin:max") => `(tactic| (k_here; (with_reducible show wpAny _ _ (call (Value.builtin "max") [Value.ref _]) _ _ _); k_dflt (refine' call_maxL ?k0 ?k1 ?k2 ?k3 ?k4 ?k5 ?_; (case k0 => rfl); (case k1 => k_asm); (case k2 => k_asm); (case k3 => k_mem); (case k4 => assumption); (case k5 => first | assumption | (simp only [List.length_map]; omega)); k_whole); intro h' t' tk' F' N'; (try k_sweep); (try dsimp only); (try k_fold)))
local macro_rules | `(tactic| walk_at "call builtin:min") => `(tactic| (k_here; (with_reducible show wpAny _ _ (call (Value.builtin "min") [Value.ref _]) _ _ _); k_dflt (refine' call_minL ?k0 ?k1 ?k2 ?k3 ?k4 ?k5 ?_; (case k0 => rfl); (case k1 => k_asm); (case k2 => k_asm); (case k3 => k_mem); (case k4 => assumption); (case k5 => first | assumption | (simp only [List.length_map]; omega)); k_whole); intro h' t' tk' F' N'; (try k_sweep); (try dsimp only); (try k_fold)))
local macro_rules | `(tactic| walk_at "call ref") => `(tactic| (k_here; (with_reducible show wpAny _ _ (call (Value.ref 301) _) _ _ _); k_dflt (refine' Spec.useI2 (covered_spec _ _ _ _ _ _ _ _ ?p0 ?p1 ?p2 ?p3 ?p4 ?p5) ?kk ?_; (case kk => walk_at "kk"); (case p0 => walk_at "om"); (case p1 => walk_at "om"); (case p2 => walk_at "om"); (case p3 => walk_at "om"); (case p4 => walk_at "om"); (case p5 => walk_at "om"); k_whole); walk_at "it"))
local macro_rules | `(tactic| walk_at "compareOp NotEq ref ref") => `(tactic| (k_here; refine Stop.out ?_))
theorem law_try : PySem.Challenge.rw_ok0142_01.Holds := Mine.hd (by
  k_go0
  all_goals (try k_fold)
  k_steps
  unfold Stop
  rename_i h1 tk1 lF' oM oS0 dM dS0 lN' X0
  rename World => w
  rename Shared => s1
  rename Below _ _ _ _ => lK
  rename PyData.layable0 _ = true => lay
  rename IntsAre _ _ => hI
  rename Heap.IsList _ _ _ => hL
  rename Top _ _ _ _ _ _ => lT
  rename Frag.In _ _ => lX
  k_dflt (refine' pool_use hI lay lK lF' lX lN' lT rfl hL ?kd ?ku ?_; (case kd => first | omega | decide); (case ku => first | omega | decide))
  intro r9 n9 h9 tk9 F9 N9 P9
  refine opq ?_
  intro zX zH
  (refine' ea_6_6 (P9) ?_; intro src a0 b0 ta0 tb0 k0 zr6 zr7 hq ha0 hb0 hbb0; obtain rfl := zr6; obtain rfl := zr7; (try clear P9))
  refine zH ?_
  clear zH zX
  have qM := (Nat.ne_of_lt (hq _ (List.mem_cons_self)))
  have qS := (Nat.ne_of_lt (hq _ (List.mem_cons_of_mem _ (List.mem_cons_self))))
  clear lF' lN'
  k_sweep
  (try dsimp only)
  (try k_fold)
  k_steps
  rename_i h10 oS F10 N10 dS
  have lK : Below callerA s1.heap [] s1.heap := lK
  have lF' : Fr s1.heap s1.heap.objs.size h10 (fun y => if y = Str.ofString "script" then some (.ref _) else none) := fr_eq F10 (fun y => by with_unfolding_all rfl)
  have N11 : News s1.heap s1.heap.objs.size h10 [(src, lstO [.int a0 ta0, .int b0 tb0] k0), (s1.heap.objs.size + 1 + 1, oM), (s1.heap.objs.size + 1, oS)] := N10
  replace dM : oM.data = .cell none := dM
  clear F10 N10 X0 dS0
  -- HEADCLEAR
  (try (rename Flt.MathXP _ _ _ => zz; clear zz))
  (try (rename LooseAre _ _ _ => zz; clear zz))
  (try (rename Tables _ _ _ _ => zz; clear zz))
  (try (rename TopE _ _ _ _ => zz; clear zz))
  (try (rename TopW _ _ _ => zz; clear zz))
  (try (rename BMod _ _ _ _ _ => zz; clear zz))
  (try (rename Glob _ _ _ _ _ _ _ _ => zz; clear zz))
  (try (rename Glob _ _ _ _ _ _ _ => zz; clear zz))
  (try (rename Heap.CodeRec _ _ _ => zz; clear zz))
  (try (rename Dflts _ _ _ => zz; clear zz))
  (try (rename ReadsAll _ _ _ _ => zz; clear zz))
  (try (rename Well _ _ _ _ => zz; clear zz))
  (try (rename Reads _ _ _ _ => zz; clear zz))
  (try (rename ReadsAllW _ _ _ _ _ _ => zz; clear zz))
  dsimp only at qM qS
  have off0 : OwnOff [(s1.heap.objs.size + 1 + 1, oM), (s1.heap.objs.size + 1, oS)] [src] := ownOff_c1 qM (ownOff_c1 qS (fun q hq => nomatch hq))
  (try unfold Stop)
  rename News _ _ _ _ => lN'
  have N2 := news_sub lN' (news' := (src, lstO [.int a0 ta0, .int b0 tb0] k0) :: [(s1.heap.objs.size + 1 + 1, oM), (s1.heap.objs.size + 1, oS)]) (by
    repeat (refine sub_cons ?_ ?_; focus k_mem)
    repeat (first | exact sub_nil | exact sub_id | refine sub_tl ?_))
  k_dflt (refine' Spec.use (take_core w src a0 b0 ta0 tb0 k0 ([(s1.heap.objs.size + 1 + 1, oM), (s1.heap.objs.size + 1, oS)]) 5 _ ?hoff ha0 hb0 hbb0 (by decide) (by decide)) ?k1 ?k2 ?k3 N2 ?k5 ?kK ?kd ?ku ?_; (case k1 => k_asm); (case k2 => k_asm); (case k3 => k_asm); (case k5 => k_asm); (case kK => first | exact rfl | assumption); (case kd => ((try dsimp only [ktrTop, Around.deeper, Around.in1]); first | omega | decide)); (case ku => ((try dsimp only [ktrTop, Around.deeper, Around.in1]); first | omega | decide)))
  case hoff => exact off0
  intro r9 n9 h9 tk9 F9 N9 P9
  clear ha0 hb0 hbb0
  refine opq ?_
  intro zX zH
  (refine' ea_7_7 (P9) ?_; intro x1 tx1 a0 b0 ta0 tb0 k0 zr7 hx1 hx1' zr10 ha0 hb0 hbb0; obtain rfl := zr7; obtain rfl := zr10; (try clear P9))
  refine zH ?_
  clear zH zX
  clear lN' N2
  (try clear lF')
  k_sweep
  (try dsimp only)
  (try k_fold)
  k_steps
  (try unfold Stop)
  rename News _ _ _ _ => lN'
  have N2 := news_sub lN' (news' := (src, lstO [.int a0 ta0, .int b0 tb0] k0) :: [(s1.heap.objs.size + 1 + 1, oM), (s1.heap.objs.size + 1, oS)]) (by
    repeat (refine sub_cons ?_ ?_; focus k_mem)
    repeat (first | exact sub_nil | exact sub_id | refine sub_tl ?_))
  k_dflt (refine' Spec.use (take_core w src a0 b0 ta0 tb0 k0 ([(s1.heap.objs.size + 1 + 1, oM), (s1.heap.objs.size + 1, oS)]) 4 _ ?hoff ha0 hb0 hbb0 (by decide) (by decide)) ?k1 ?k2 ?k3 N2 ?k5 ?kK ?kd ?ku ?_; (case k1 => k_asm); (case k2 => k_asm); (case k3 => k_asm); (case k5 => k_asm); (case kK => first | exact rfl | assumption); (case kd => ((try dsimp only [ktrTop, Around.deeper, Around.in1]); first | omega | decide)); (case ku => ((try dsimp only [ktrTop, Around.deeper, Around.in1]); first | omega | decide)))
  case hoff => exact off0
  intro r9 n9 h9 tk9 F9 N9 P9
  clear ha0 hb0 hbb0
  refine opq ?_
  intro zX zH
  (refine' ea_7_7 (P9) ?_; intro x2 tx2 a0 b0 ta0 tb0 k0 zr7 hx2 hx2' zr10 ha0 hb0 hbb0; obtain rfl := zr7; obtain rfl := zr10; (try clear P9))
  refine zH ?_
  clear zH zX
  clear lN' N2
  (try clear lF')
  k_sweep
  (try dsimp only)
  (try k_fold)
  k_steps
  unfold Stop
  rename Fr _ _ _ _ => lF'
  (with_reducible refine wpAny_Assign_Name ?_ ?_; rotate_left; with_unfolding_all rfl)
  refine LCg.ListComp_U (F₀ := lF') (by with_unfolding_all rfl) (by decide) (by rfl) (by decide) (by rfl) ?_
  k_steps
  (try unfold Stop)
  rename News _ _ _ _ => lN'
  have N2 := news_sub lN' (news' := (src, lstO [.int a0 ta0, .int b0 tb0] k0) :: [(s1.heap.objs.size + 1 + 1, oM), (s1.heap.objs.size + 1, oS)]) (by
    repeat (refine sub_cons ?_ ?_; focus k_mem)
    repeat (first | exact sub_nil | exact sub_id | refine sub_tl ?_))
  k_dflt (refine' Spec.use (take_core w src a0 b0 ta0 tb0 k0 ([(s1.heap.objs.size + 1 + 1, oM), (s1.heap.objs.size + 1, oS)]) 3 _ ?hoff ha0 hb0 hbb0 (by decide) (by decide)) ?k1 ?k2 ?k3 N2 ?k5 ?kK ?kd ?ku ?_; (case k1 => k_asm); (case k2 => k_asm); (case k3 => k_asm); (case k5 => k_asm); (case kK => first | exact rfl | assumption); (case kd => ((try dsimp only [ktrTop, Around.deeper, Around.in1]); first | omega | decide)); (case ku => ((try dsimp only [ktrTop, Around.deeper, Around.in1]); first | omega | decide)))
  case hoff => exact off0
  intro r9 n9 h9 tk9 F9 N9 P9
  clear ha0 hb0 hbb0
  refine opq ?_
  intro zX zH
  (refine' ea_7_7 (P9) ?_; intro x3 tx3 a0 b0 ta0 tb0 k0 zr7 hx3 hx3' zr10 ha0 hb0 hbb0; obtain rfl := zr7; obtain rfl := zr10; (try clear P9))
  refine zH ?_
  clear zH zX
  clear lN' N2 lF'
  k_sweep
  (try dsimp only)
  (try k_fold)
  k_steps
  unfold Stop
  rename Fr _ _ _ _ => lF'
  rename News _ _ _ _ => lN'
  rename IsRange _ _ _ _ _ _ _ _ => lR'
  refine LCg.CompSrc.range (n := (1 + x3).toNat) rfl lF' lN' lR' (small1 (by (walk_at "om")) (by (walk_at "om"))) (rsize1 (1 + x3)) (Nat.le_trans (by (walk_at "om") : (1 + x3).toNat ≤ 100) (by decide)) fun gg => ?_
  refine compRest_inv (J := fun j ys n2 => ∃ a0 b0 ta0 tb0 k0 rest sm, (src, lstO [.int a0 ta0, .int b0 tb0] k0) :: (s1.heap.objs.size + 1 + 1, oM) :: (s1.heap.objs.size + 1, oS) :: rest = n2 ∧ OwnOff rest [src, s1.heap.objs.size + 1 + 1] ∧ 0 ≤ a0 ∧ 0 ≤ b0 ∧ b0 < 2147483647 ∧
    sm.length = j ∧ TupsAt rest ys sm ∧ ∀ p ∈ sm, (1 ≤ p.1 ∧ p.1 ≤ 4) ∧ 1 ≤ p.2 ∧ p.2 ≤ 4) ⟨a0, b0, ta0, tb0, k0, [], [], rfl, (fun q hq => nomatch hq), ha0, hb0, hbb0, rfl, ⟨rfl, fun i p e => by simp at e⟩, fun p hp => nomatch hp⟩ trivial ?turn ?fin
  case turn =>
    clear ha0 hb0 hbb0
    intro j ys n2 v I oI C oC D m2 h2 tk2 E' hj hys hJ hS hPv hC hx2 F N offs hne
    refine opq ?_
    intro zX zH
    obtain ⟨t2', rfl⟩ := hPv
    (refine' ea_7_8 (hJ) ?_; intro a0 b0 ta0 tb0 k0 rest sm zr7 off2 ha0 hb0 hbb0 hsl hTs hsm; obtain rfl := zr7; (try clear hJ))
    refine zH ?_
    clear zH zX
    have offs' := offs
    simp only [LCg.Off3] at offs'
    refine opq ?_
    intro zX zH
    (refine' ea_0_4 (offs') ?_; intro zr0 zr1 zr2 offr; obtain ⟨o1, o2, o3⟩ := zr0; obtain ⟨o4, o5, o6⟩ := zr1; obtain ⟨o7, o8, o9⟩ := zr2; (try clear offs'))
    refine zH ?_
    clear zH zX
    clear lF' lN' lR'
    k_sweep
    (try dsimp only)
    (try k_fold)
    k_steps
    (try unfold Stop)
    rename News _ _ _ _ => lN'
    have N2 := news_sub lN' (news' := (src, lstO [.int a0 ta0, .int b0 tb0] k0) :: (I, oI) :: (C, oC) :: (D, LCg.lst ys) :: (s1.heap.objs.size + 1 + 1, oM) :: (s1.heap.objs.size + 1, oS) :: rest) (by
      repeat (refine sub_cons ?_ ?_; focus k_mem)
      repeat (first | exact sub_nil | exact sub_id | refine sub_tl ?_))
    k_dflt (refine' Spec.use (take_core w src a0 b0 ta0 tb0 k0 ((I, oI) :: (C, oC) :: (D, LCg.lst ys) :: (s1.heap.objs.size + 1 + 1, oM) :: (s1.heap.objs.size + 1, oS) :: rest) 4 _ ?hoff ha0 hb0 hbb0 (by decide) (by decide)) ?k1 ?k2 ?k3 N2 ?k5 ?kK ?kd ?ku ?_; (case k1 => k_asm); (case k2 => k_asm); (case k3 => k_asm); (case k5 => k_asm); (case kK => first | exact rfl | assumption); (case kd => ((try dsimp only [ktrTop, Around.deeper, Around.in1]); first | omega | decide)); (case ku => ((try dsimp only [ktrTop, Around.deeper, Around.in1]); first | omega | decide)))
    case hoff => exact ownOff_c1 o1.symm (ownOff_c1 o2.symm (ownOff_c1 o3.symm (ownOff_c1 qM (ownOff_c1 qS (ownOff_weak off2 fun b hb => by rw [List.mem_singleton.mp hb]; exact List.mem_cons_self)))))
    intro r9 n9 h9 tkA F9 N9 P9
    clear ha0 hb0 hbb0
    refine opq ?_
    intro zX zH
    (refine' ea_7_7 (P9) ?_; intro y1 ty1 a0 b0 ta0 tb0 k0 zr7 hy1 hy1' zr10 ha0 hb0 hbb0; obtain rfl := zr7; obtain rfl := zr10; (try clear P9))
    refine zH ?_
    clear zH zX
    clear lN' N2
    k_sweep
    (try dsimp only)
    (try k_fold)
    k_steps
    (try unfold Stop)
    rename News _ _ _ _ => lN'
    have N2 := news_sub lN' (news' := (src, lstO [.int a0 ta0, .int b0 tb0] k0) :: (I, oI) :: (C, oC) :: (D, LCg.lst ys) :: (s1.heap.objs.size + 1 + 1, oM) :: (s1.heap.objs.size + 1, oS) :: rest) (by
      repeat (refine sub_cons ?_ ?_; focus k_mem)
      repeat (first | exact sub_nil | exact sub_id | refine sub_tl ?_))
    k_dflt (refine' Spec.use (take_core w src a0 b0 ta0 tb0 k0 ((I, oI) :: (C, oC) :: (D, LCg.lst ys) :: (s1.heap.objs.size + 1 + 1, oM) :: (s1.heap.objs.size + 1, oS) :: rest) 4 _ ?hoff ha0 hb0 hbb0 (by decide) (by decide)) ?k1 ?k2 ?k3 N2 ?k5 ?kK ?kd ?ku ?_; (case k1 => k_asm); (case k2 => k_asm); (case k3 => k_asm); (case k5 => k_asm); (case kK => first | exact rfl | assumption); (case kd => ((try dsimp only [ktrTop, Around.deeper, Around.in1]); first | omega | decide)); (case ku => ((try dsimp only [ktrTop, Around.deeper, Around.in1]); first | omega | decide)))
    case hoff => exact ownOff_c1 o1.symm (ownOff_c1 o2.symm (ownOff_c1 o3.symm (ownOff_c1 qM (ownOff_c1 qS (ownOff_weak off2 fun b hb => by rw [List.mem_singleton.mp hb]; exact List.mem_cons_self)))))
    intro r9 n9 h9 tkB F9 N9 P9
    clear ha0 hb0 hbb0
    refine opq ?_
    intro zX zH
    (refine' ea_7_7 (P9) ?_; intro y2 ty2 a0 b0 ta0 tb0 k0 zr7 hy2 hy2' zr10 ha0 hb0 hbb0; obtain rfl := zr7; obtain rfl := zr10; (try clear P9))
    refine zH ?_
    clear zH zX
    clear lN' N2
    k_sweep
    (try dsimp only)
    (try k_fold)
    k_steps
    unfold Stop
    rename Fr _ _ _ _ => lF'
    rename News _ _ _ _ => lN'
    rename_i lT1
    refine LCg.CompEnd.intro lF' lN' ((src, lstO [.int a0 ta0, .int b0 tb0] k0) :: (s1.heap.objs.size + 1 + 1, oM) :: (s1.heap.objs.size + 1, oS) :: (_, tupO [.int (1 + y1) tkA, .int (1 + y2) tkB]) :: rest)
      (by
        repeat (refine sub_cons ?_ ?_; focus k_mem)
        repeat (first | exact sub_nil | exact sub_id | refine sub_tl ?_))
      ⟨⟨o1, o2, o3⟩, ⟨o4, o5, o6⟩, ⟨o7, o8, o9⟩, ⟨Nat.ne_of_gt lT1.2.1, Nat.ne_of_gt lT1.2.2.1, Nat.ne_of_gt lT1.2.2.2.1⟩, offr⟩ hS ⟨a0, b0, ta0, tb0, k0, _, sm ++ [(1 + y1, 1 + y2)], rfl, ?o, ha0, hb0, hbb0, by simp [hsl], hTs.snoc, ?sm⟩
    case o =>
      refine ownOff_cons off2 fun b hb => ?_
      simp only [List.mem_cons, List.not_mem_nil, or_false] at hb
      rcases hb with rfl | rfl
      · exact Nat.ne_of_gt lT1.1
      · exact Nat.ne_of_gt lT1.2.2.2.2.1
    case sm =>
      intro p hp
      rcases List.mem_append.mp hp with hp | hp
      · exact hsm p hp
      · rw [List.mem_singleton.mp hp]
        exact ⟨⟨by show 1 ≤ 1 + y1; omega, by show 1 + y1 ≤ 4; omega⟩, by show 1 ≤ 1 + y2; omega, by show 1 + y2 ≤ 4; omega⟩
  case fin =>
    intro ys n2 hys hJ
    refine opq ?_
    intro zX zH
    (refine' ea_7_8 (hJ) ?_; intro a0 b0 ta0 tb0 k0 rest sm zr7 off2 ha0 hb0 hbb0 hsl hTs hsm; obtain rfl := zr7; (try clear hJ))
    refine zH ?_
    clear zH zX
    unfold LCg.FinE
    intro D4 h4 tk4 F N o1'
    simp only [LCg.Off1] at o1'
    refine opq ?_
    intro zX zH
    (refine' ea_0_4 (o1') ?_; intro e4 e5 e6 e7; (try clear o1'))
    refine zH ?_
    clear zH zX
    clear lF' lN' lR'
    k_sweep
    (try dsimp only)
    (try k_fold)
    k_steps
    rename_i h11 oM2 F11 N11 dM2
    unfold Stop
    have hyl : ys.length = sm.length := by rw [hTs.1]
    have hOk : SmOk sm := ⟨fun e => by rw [e] at hsl; simp at hsl; omega, by (walk_at "om"), hsm⟩
    have hsl2 : sm.length ≤ 3 := hOk.2.1
    have hsl1 : 1 ≤ sm.length := by (walk_at "om")
    clear dM off0 hq
    refine LCg.Assign_ListComp_U (F₀ := F11) (by rfl) (by with_unfolding_all rfl) (by with_unfolding_all rfl) (by decide) (by rfl) (by decide) (by rfl) (by rfl) (by rfl) ?_
    k_steps
    unfold Stop
    rename Fr _ _ _ _ => lF'
    rename News _ _ _ _ => lN'
    rename IsRange _ _ _ _ _ _ _ _ => lR'
    refine LCg.CompSrc.range (n := ((ys.length : Nat) : Int).toNat) rfl lF' lN' lR' (small1 (by (walk_at "om")) (by (walk_at "om"))) (rsize1 _) (Nat.le_trans (by (walk_at "om") : ((ys.length : Nat) : Int).toNat ≤ 100) (by decide)) fun gg => ?_
    refine compRest_inv (J := fun j zs n2 => ∃ tl, (D4, LCg.lst ys) :: (src, lstO [.int a0 ta0, .int b0 tb0] k0) :: (s1.heap.objs.size + 1 + 1, oM2) :: (s1.heap.objs.size + 1, oS) :: tl = n2 ∧ OwnOff tl [src] ∧ (∀ q ∈ rest, q ∈ tl) ∧ CompsAt tl zs (sm.take j))
      ⟨rest, rfl, ownOff_weak off2 (fun b hb => by rw [List.mem_singleton.mp hb]; exact List.mem_cons_self), fun q hq => hq, by simp, fun i p e => by simp at e⟩ trivial ?turn2 ?fin2
    case turn2 =>
      intro j zs n2 v I oI C oC D m2 h2 tk2 E' hj hzs hJ hS hPv hC hx2 F N offs hne
      refine opq ?_
      intro zX zH
      obtain ⟨t2', rfl⟩ := hPv
      (refine' ea_1_4 (hJ) ?_; intro tl zr1 off3 hsub hCs; obtain rfl := zr1; (try clear hJ))
      refine zH ?_
      clear zH zX
      have offs' := offs
      simp only [LCg.Off3] at offs'
      refine opq ?_
      intro zX zH
      (refine' ea_0_5 (offs') ?_; intro o0 o1 o2 o3 offr; (try clear offs'))
      refine zH ?_
      clear zH zX
      have hT2 : TupsAt tl ys sm := hTs.mono hsub
      have hj2 : j < sm.length := by have hj9 := hj; rw [Int.toNat_natCast, hyl] at hj9; exact hj9
      clear lF' lN' lR'
      k_sweep
      (try dsimp only)
      (try k_fold)
      k_steps
      unfold Stop
      k_dflt (refine' Spec.use (comp_new w _ _ _ _ _ _ _) ?k1 ?k2 ?k3 ?k4 ?k5 ?kK ?kd ?ku ?_; (case k1 => k_asm); (case k2 => k_asm); (case k3 => k_asm); (case k4 => k_asm); (case k5 => k_asm); (case kK => first | exact rfl | assumption); (case kd => ((try dsimp only [ktrTop, Around.deeper, Around.in1]); first | omega | decide)); (case ku => ((try dsimp only [ktrTop, Around.deeper, Around.in1]); first | omega | decide)))
      intro r9 n9 h9 tk9 F9 N9 P9
      refine opq ?_
      intro zX zH
      (refine' ea_2_4 (P9) ?_; intro cx tl2 zr2 zr3 hCx hab; obtain rfl := zr2; obtain rfl := zr3; (try clear P9))
      refine zH ?_
      clear zH zX
      (try clear lF')
      (try clear lN')
      k_sweep
      (try dsimp only)
      (try k_fold)
      k_steps
      unfold Stop
      rename Fr _ _ _ _ => lF'
      rename News _ _ _ _ => lN'
      refine LCg.CompEnd.intro lF' lN' ((D4, LCg.lst ys) :: (src, lstO [.int a0 ta0, .int b0 tb0] k0) :: (s1.heap.objs.size + 1 + 1, oM2) :: (s1.heap.objs.size + 1, oS) :: (tl2 ++ tl)) ?sub ⟨o0, o1, o2, o3, ?off⟩ hS ⟨tl2 ++ tl, rfl, ?own, fun q hq => List.mem_append_right _ (hsub q hq), ?comps⟩
      case sub =>
        intro q hq
        simp only [List.mem_cons, List.mem_append] at hq ⊢
        rcases hq with h | h | h | h | h | h | h | h | h <;> simp only [h, true_or, or_true]
      case off =>
        refine LCg.Off3.of fun p hp => ?_
        rcases List.mem_append.mp hp with hp | hp
        · exact ⟨Nat.ne_of_gt (hab p hp (I, oI) (by simp only [List.mem_cons, true_or, or_true])), Nat.ne_of_gt (hab p hp (C, oC) (by simp only [List.mem_cons, true_or, or_true])), Nat.ne_of_gt (hab p hp (D, LCg.lst zs) (by simp only [List.mem_cons, true_or, or_true]))⟩
        · exact LCg.Off3.mem offr p hp
      case own =>
        intro q hq b hb
        rcases List.mem_append.mp hq with hq | hq
        · rw [List.mem_singleton.mp hb]
          exact Nat.ne_of_gt (hab q hq (src, lstO [.int a0 ta0, .int b0 tb0] k0) (by simp only [List.mem_cons, true_or, or_true]))
        · exact off3 q hq b hb
      case comps =>
        rw [List.take_add_one, List.getElem?_eq_getElem hj2]
        refine hCs.snoc ?_
        have e1 : sm.getD (0 + (j : Int)).toNat (0, 0) = sm[j] := by
          have e2 : (0 + (j : Int)).toNat = j := by (walk_at "om")
          rw [e2]; simp [List.getD_eq_getElem?_getD, List.getElem?_eq_getElem hj2]
        rw [e1] at hCx
        exact hCx
    case fin2 =>
      intro zs n2 hzs hJ
      refine opq ?_
      intro zX zH
      (refine' ea_1_4 (hJ) ?_; intro tl zr1 off3 hsub hCs; obtain rfl := zr1; (try clear hJ))
      refine zH ?_
      clear zH zX
      unfold LCg.FinA
      intro D6 h4 tk4 F N o1'
      simp only [LCg.Off1] at o1'
      refine opq ?_
      intro zX zH
      (refine' ea_0_5 (o1') ?_; intro f4 f5 f6 f7 f8; (try clear o1'))
      refine zH ?_
      clear zH zX
      clear lF' lN' lR'
      k_sweep
      have hzl : zs.length = sm.length := by (walk_at "om")
      have hCs2 : CompsAt tl zs sm := by
        have e : ((ys.length : Nat) : Int).toNat = sm.length := by (walk_at "om")
        rw [e, List.take_length] at hCs
        exact hCs
      k_steps
      unfold Stop
      k_dflt (refine' Spec.use (frame_new w _ _ _ _ _ _ _ _ _) ?k1 ?k2 ?k3 ?k4 ?k5 ?kK ?kd ?ku ?_; (case k1 => k_asm); (case k2 => k_asm); (case k3 => k_asm); (case k4 => k_asm); (case k5 => k_asm); (case kK => first | exact rfl | assumption); (case kd => ((try dsimp only [ktrTop, Around.deeper, Around.in1]); first | omega | decide)); (case ku => ((try dsimp only [ktrTop, Around.deeper, Around.in1]); first | omega | decide)))
      intro r9 n9 h9 tk9 F9 N9 P9
      refine opq ?_
      intro zX zH
      (refine' ea_2_4 (P9) ?_; intro fx tl2 zr2 zr3 hFx hab; obtain rfl := zr2; obtain rfl := zr3; (try clear P9))
      refine zH ?_
      clear zH zX
      (try clear lF')
      (try clear lN')
      k_sweep
      (try dsimp only)
      (try k_fold)
      k_steps
      unfold Stop
      rename News _ _ _ _ => lN'
      have N2 := news_sub lN' (news' := (src, lstO [.int a0 ta0, .int b0 tb0] k0) :: (tl2 ++ (D6, LCg.lst zs) :: (D4, LCg.lst ys) :: (s1.heap.objs.size + 1 + 1, oM2) :: (s1.heap.objs.size + 1, oS) :: tl)) (by
        intro q hq
        simp only [List.mem_cons, List.mem_append] at hq ⊢
        rcases hq with h | h | h | h | h | h | h <;> simp only [h, true_or, or_true])
      k_dflt (refine' Spec.use (lawplane_spec w src a0 b0 ta0 tb0 k0 (tl2 ++ (D6, LCg.lst zs) :: (D4, LCg.lst ys) :: (s1.heap.objs.size + 1 + 1, oM2) :: (s1.heap.objs.size + 1, oS) :: tl) _ _ _ _ ?hoff ha0 hb0 hbb0 (by (walk_at "om")) (by (walk_at "om")) (by (walk_at "om")) (by (walk_at "om"))) ?k1 ?k2 ?k3 ?k4 ?k5 ?kK ?kd ?ku ?_; (case k1 => k_asm); (case k2 => k_asm); (case k3 => k_asm); (case k4 => exact N2); (case k5 => k_asm); (case kK => first | exact rfl | assumption); (case kd => ((try dsimp only [ktrTop, Around.deeper, Around.in1]); first | omega | decide)); (case ku => ((try dsimp only [ktrTop, Around.deeper, Around.in1]); first | omega | decide)))
      case hoff =>
        intro q hq b hb
        rcases List.mem_append.mp hq with hq | hq
        · rw [List.mem_singleton.mp hb]
          exact Nat.ne_of_gt (hab q hq (src, lstO [.int a0 ta0, .int b0 tb0] k0) (by simp only [List.mem_cons, true_or, or_true]))
        · exact (ownOff_c1 f5.symm (ownOff_c1 e4.symm (ownOff_c1 qM (ownOff_c1 qS off3)))) q hq b hb
      intro r9 n9 h9 tk9 F9 N9 P9
      clear ha0 hb0 hbb0
      refine opq ?_
      intro zX zH
      (refine' ea_7_8 (P9) ?_; intro cells a0 b0 ta0 tb0 k0 B hsrc ha0 hb0 hbb0 offB hBn zr13 hcl; obtain ⟨pl, rw', pvs, pk, rfl, hPl, hpr, hPR, hBs⟩ := zr13; (try clear P9))
      refine zH ?_
      clear zH zX
      have N3 := news_sub N9 (news' := (src, lstO [.int a0 ta0, .int b0 tb0] k0) :: B) (by
        intro q hq
        rcases List.mem_cons.mp hq with rfl | hq
        · exact hsrc
        · exact hBn q hq)
      clear N9 N2 lN'
      (try clear lF')
      replace hFx := hFx.mono (news' := B) fun q hq => hBs q (List.mem_append_left _ hq)
      have hrw : (D6, LCg.lst zs) ∈ B := hBs _ (List.mem_append_right _ (by simp only [List.mem_cons, true_or, or_true]))
      have hsm' : (D4, LCg.lst ys) ∈ B := hBs _ (List.mem_append_right _ (by simp only [List.mem_cons, true_or, or_true]))
      have hcM : (s1.heap.objs.size + 1 + 1, oM2) ∈ B := hBs _ (List.mem_append_right _ (by simp only [List.mem_cons, true_or, or_true]))
      have hcS : (s1.heap.objs.size + 1, oS) ∈ B := hBs _ (List.mem_append_right _ (by simp only [List.mem_cons, true_or, or_true]))
      have htB : ∀ q ∈ tl, q ∈ B := fun q hq => hBs _ (List.mem_append_right _ (by simp only [List.mem_cons, hq, or_true]))
      have hC3 : CompsAt B zs sm := hCs2.mono htB
      have hT3 : TupsAt B ys sm := hTs.mono fun q hq => htB q (hsub q hq)
      clear hCs2 hCs hTs hBs hBn hsrc hab off3 hsub htB off2
      k_sweep
      (try dsimp only)
      (try k_fold)
      k_steps
      unfold Stop
      rename News _ _ _ _ => lN'
      replace lN' := news_sub lN' (news' := (src, lstO [.int a0 ta0, .int b0 tb0] k0) :: B) (fun q hq => List.mem_cons_of_mem _ hq)
      rename Fr _ _ _ _ => lF'
      refine LCg.ListComp_U (F₀ := lF') (by with_unfolding_all rfl) (by decide) (by rfl) (by decide) (by rfl) ?_
      k_steps
      unfold Stop
      rename Fr _ _ _ _ => lF'
      rename News _ _ _ _ => lN'
      refine LCg.CompSrc.ledger (its := ys.toArray) (k := ys.length) rfl lF' lN' (by k_mem) (Nat.le_trans (by simp only [List.size_toArray]; (walk_at "om") : ys.toArray.size ≤ 100) (by decide)) fun gg => ?_
      refine compRest_inv (J := fun j us9 n2 => (src, lstO [.int a0 ta0, .int b0 tb0] k0) :: B = n2 ∧ IntsAre us9 ((sm.take j).map (·.1))) ⟨rfl, .nil⟩ (.inr ⟨_, by k_mem, rfl, _, rfl⟩) ?turnm1 ?finm1
      case turnm1 =>
        intro j us n2 v I2 oI C oC D m2 hh2 tk2 E' hj hys3 hJ hS hPv hC2 hx2 F N offs hne
        refine opq ?_
        intro zX zH
        obtain ⟨rfl, hI2⟩ := hJ
        have hj2 : j < sm.length := by rw [← hT3.1]; simpa using hj
        (refine' ea_3_2 (hT3.2 j _ (List.getElem?_eq_getElem hj2)) ?_; intro c u1 u2 hc1 hc2)
        refine zH ?_
        clear zH zX
        have hv : v = .ref c := by
          have : ys[j]? = some v := by simpa using hPv
          rw [hc1] at this; exact (Option.some.inj this).symm
        subst hv
        clear lF' lN'
        k_sweep
        (try dsimp only)
        (try k_fold)
        k_steps
        unfold Stop
        rename Fr _ _ _ _ => lF'
        rename News _ _ _ _ => lN'
        refine LCg.CompEnd.intro lF' lN' _ (fun q hq => hq) offs hS ⟨rfl, ?_⟩
        rw [List.take_add_one, List.map_append, List.getElem?_eq_getElem hj2]
        exact ints_snoc hI2 _ _
      case finm1 =>
      intro us n2 hys3 hJ
      refine opq ?_
      intro zX zH
      obtain ⟨rfl, hI1⟩ := hJ
      refine zH ?_
      clear zH zX
      rw [List.size_toArray, hT3.1, List.take_length] at hI1
      unfold LCg.FinE
      intro Dm1 hh2 tk2 F N om1
      clear lF' lN'
      k_sweep
      (try dsimp only)
      (try k_fold)
      k_steps
      unfold Stop
      rename Fr _ _ _ _ => lF'
      refine LCg.ListComp_U (F₀ := lF') (by with_unfolding_all rfl) (by decide) (by rfl) (by decide) (by rfl) ?_
      k_steps
      unfold Stop
      rename Fr _ _ _ _ => lF'
      rename News _ _ _ _ => lN'
      refine LCg.CompSrc.ledger (its := ys.toArray) (k := ys.length) rfl lF' lN' (by k_mem) (Nat.le_trans (by simp only [List.size_toArray]; (walk_at "om") : ys.toArray.size ≤ 100) (by decide)) fun gg => ?_
      refine compRest_inv (J := fun j us9 n2 => (Dm1, LCg.lst us) :: (src, lstO [.int a0 ta0, .int b0 tb0] k0) :: B = n2 ∧ IntsAre us9 ((sm.take j).map (·.2))) ⟨rfl, .nil⟩ (.inr ⟨_, by k_mem, rfl, _, rfl⟩) ?turnm2 ?finm2
      case turnm2 =>
        intro j us n2 v I2 oI C oC D m2 hh2 tk2 E' hj hys3 hJ hS hPv hC2 hx2 F N offs hne
        refine opq ?_
        intro zX zH
        obtain ⟨rfl, hI2⟩ := hJ
        have hj2 : j < sm.length := by rw [← hT3.1]; simpa using hj
        (refine' ea_3_2 (hT3.2 j _ (List.getElem?_eq_getElem hj2)) ?_; intro c u1 u2 hc1 hc2)
        refine zH ?_
        clear zH zX
        have hv : v = .ref c := by
          have : ys[j]? = some v := by simpa using hPv
          rw [hc1] at this; exact (Option.some.inj this).symm
        subst hv
        clear lF' lN'
        k_sweep
        (try dsimp only)
        (try k_fold)
        k_steps
        unfold Stop
        rename Fr _ _ _ _ => lF'
        rename News _ _ _ _ => lN'
        refine LCg.CompEnd.intro lF' lN' _ (fun q hq => hq) offs hS ⟨rfl, ?_⟩
        rw [List.take_add_one, List.map_append, List.getElem?_eq_getElem hj2]
        exact ints_snoc hI2 _ _
      case finm2 =>
      intro us n2 hys3 hJ
      refine opq ?_
      intro zX zH
      obtain ⟨rfl, hI2⟩ := hJ
      refine zH ?_
      clear zH zX
      rw [List.size_toArray, hT3.1, List.take_length] at hI2
      unfold LCg.FinE
      intro Dm2 hh2 tk2 F N om2
      clear lF' lN'
      k_sweep
      (try dsimp only)
      (try k_fold)
      k_steps
      unfold Stop
      rename_i h15 tm2 tkm2 Mo h12 l12 h13 F12 N12 h14 tk14 t14 u14 v14 lR' lF' lN' keep14
      refine opq ?_
      intro zX zH
      (refine' ea_1_4 (base_of lN' offB l12.2.2.1) ?_; intro B5 hMo hB5 off5 N5)
      refine zH ?_
      clear zH zX
      replace hFx := hFx.mono hB5
      replace hrw := hB5 _ hrw
      replace hsm' := hB5 _ hsm'
      replace hcM := hB5 _ hcM
      replace hcS := hB5 _ hcS
      replace hC3 := hC3.mono hB5
      replace hT3 := hT3.mono hB5
      replace hPl := hPl.mono hB5
      replace hpr := hB5 _ hpr
      replace hPR := hPR.mono hB5
      obtain ⟨m0, g1, g2, g3, g4, g5, F0⟩ : ∃ m0 : Str → Option Value, m0 (Str.ofString "most") = some (.ref Mo) ∧ m0 (Str.ofString "frame") = some (.ref fx) ∧ m0 (Str.ofString "plane") = some (.ref pl) ∧ m0 (Str.ofString "wide") = some (.int (1 + x1) _) ∧ m0 (Str.ofString "high") = some (.int (1 + x2) _) ∧ Fr s1.heap s1.heap.objs.size h14 m0 :=
        ⟨_, rfl, rfl, rfl, rfl, rfl, lF'⟩
      clear lF' lN' F12 N12 l12 om1 om2 hB5 offB hI1 hI2 keep14
      refine' range_inv (n := ((ys.length : Nat) : Int).toNat) (J := fun j m₁ led => ∃ a0 b0 ta0 tb0 k0 rest, (src, lstO [.int a0 ta0, .int b0 tb0] k0) :: rest = led ∧ OwnOff rest [src] ∧ (∀ q ∈ B5, q ∈ rest) ∧ 0 ≤ a0 ∧ 0 ≤ b0 ∧ b0 < 2147483647 ∧
        ∀ z, z ≠ Str.ofString "place" → z ≠ Str.ofString "own" → z ≠ Str.ofString "times" → z ≠ Str.ofString "size" → z ≠ Str.ofString "lesser" → m₁ z = m0 z) (by rfl) (by rfl) lR' (small1 (by (walk_at "om")) (by (walk_at "om"))) (rsize1 _) F0 N5 ?j ?turnL ?doneL
      case j => exact ⟨a0, b0, ta0, tb0, k0, B5, rfl, off5, fun q hq => hq, ha0, hb0, hbb0, fun z _ _ _ _ _ => rfl⟩
      case doneL =>
        intro m₁ led h tk hJ F N
        refine opq ?_
        intro zX zH
        (refine' ea_6_7 (hJ) ?_; intro a0 b0 ta0 tb0 k0 rest zr6 offr hBr ha0 hb0 hbb0 hz; obtain rfl := zr6; (try clear hJ))
        refine zH ?_
        clear zH zX
        clear lR' F0 N5
        k_sweep
        (try dsimp only)
        (try k_fold)
        k_steps
      case turnL =>
        clear ha0 hb0 hbb0
        intro i m₁ led I it ts h tk hi hJ hit off F N
        refine opq ?_
        intro zX zH
        (refine' ea_6_7 (hJ) ?_; intro a0 b0 ta0 tb0 k0 rest zr6 offr hBr ha0 hb0 hbb0 hz; obtain rfl := zr6; (try clear hJ))
        refine zH ?_
        clear zH zX
        have F2 : Fr s1.heap s1.heap.objs.size h (fun z => if z = Str.ofString "place" then some (Value.int (0 + (i : Int)) ts) else if z = Str.ofString "own" then m₁ z else if z = Str.ofString "times" then m₁ z else if z = Str.ofString "size" then m₁ z else if z = Str.ofString "lesser" then m₁ z
          else if z = Str.ofString "most" then some (.ref Mo) else if z = Str.ofString "frame" then some (.ref fx) else if z = Str.ofString "plane" then some (.ref pl) else if z = Str.ofString "wide" then some (.int (1 + x1) _) else if z = Str.ofString "high" then some (.int (1 + x2) _) else m0 z) := fr_eq F fun z =>
          pickC fun h0 => pickE (fun _ => rfl) fun h1 => pickE (fun _ => rfl) fun h2 => pickE (fun _ => rfl) fun h3 => pickE (fun _ => rfl) fun h4 =>
          pickE (fun e => by rw [hz z h0 h1 h2 h3 h4, e]; exact g1) fun _ => pickE (fun e => by rw [hz z h0 h1 h2 h3 h4, e]; exact g2) fun _ => pickE (fun e => by rw [hz z h0 h1 h2 h3 h4, e]; exact g3) fun _ =>
          pickE (fun e => by rw [hz z h0 h1 h2 h3 h4, e]; exact g4) fun _ => pickE (fun e => by rw [hz z h0 h1 h2 h3 h4, e]; exact g5) fun _ => hz z h0 h1 h2 h3 h4
        clear lR' F0 N5 F
        rename_i j1 j2 j3 j4 j5 j6 j7 j8 j9 j10 j11 j12 j13 j14 j15 j16 j17 j18 j19 j20 j21 j22 j23 j24 j25 j26 j27 j28 j29 j30 j31 j32 j33 j34 j35 j36 j37 j38 j39 j40 j41 j42 j43 j44 j45 j46 j47 j48 j49 j50 j51 j52 j53 j54 j55 j56 j57 j58 j59 j60 j61 j62 j63 j64 j65 j66 j67 j68 j69 j70 j71 j72 j73 j74 j75 j76 j77 j78 j79 j80 j81 j82 j83 j84 j85 j86 j87 j88 j89 j90 j91 j92 j93 j94 j95 j96 j97 j98 j99 j100 j101 j102 j103 j104 j105 j106 j107 j108
        (try clear j108)
        (try clear j107)
        (try clear j106)
        (try clear j105)
        (try clear j104)
        (try clear j103)
        (try clear j102)
        (try clear j101)
        (try clear j100)
        (try clear j99)
        (try clear j98)
        (try clear j97)
        (try clear j96)
        (try clear j95)
        (try clear j94)
        (try clear j93)
        (try clear j92)
        (try clear j91)
        (try clear j90)
        (try clear j89)
        (try clear j88)
        (try clear j87)
        (try clear j86)
        (try clear j85)
        (try clear j84)
        (try clear j83)
        (try clear j82)
        (try clear j81)
        (try clear j80)
        (try clear j79)
        (try clear j78)
        (try clear j77)
        (try clear j76)
        (try clear j75)
        (try clear j74)
        (try clear j73)
        (try clear j72)
        (try clear j71)
        (try clear j70)
        (try clear j69)
        (try clear j68)
        (try clear j67)
        (try clear j66)
        (try clear j65)
        (try clear j64)
        (try clear j63)
        (try clear j62)
        (try clear j61)
        (try clear j60)
        (try clear j59)
        (try clear j58)
        (try clear j57)
        (try clear j56)
        (try clear j55)
        (try clear j54)
        (try clear j53)
        (try clear j52)
        (try clear j51)
        (try clear j50)
        (try clear j49)
        (try clear j48)
        (try clear j47)
        (try clear j46)
        (try clear j45)
        (try clear j44)
        (try clear j43)
        (try clear j42)
        (try clear j41)
        (try clear j40)
        (try clear j39)
        (try clear j38)
        (try clear j37)
        (try clear j36)
        (try clear j35)
        (try clear j34)
        (try clear j33)
        (try clear j32)
        (try clear j31)
        (try clear j30)
        (try clear j29)
        (try clear j28)
        (try clear j27)
        (try clear j26)
        (try clear j25)
        (try clear j24)
        (try clear j23)
        (try clear j22)
        (try clear j21)
        (try clear j20)
        (try clear j19)
        (try clear j18)
        (try clear j17)
        (try clear j16)
        (try clear j15)
        (try clear j14)
        (try clear j13)
        (try clear j12)
        (try clear j11)
        (try clear j10)
        (try clear j9)
        (try clear j8)
        (try clear j7)
        (try clear j6)
        (try clear j5)
        (try clear j4)
        (try clear j3)
        (try clear j2)
        (try clear j1)
        (try clear e4)
        (try clear e5)
        (try clear e6)
        (try clear e7)
        (try clear f4)
        (try clear f5)
        (try clear f6)
        (try clear f7)
        (try clear f8)
        (try clear hx3')
        (try clear hx3)
        (try clear hsl)
        (try clear hzl)
        (try clear hys3)
        (try clear hys)
        (try clear lay)
        (try clear hL)
        (try clear hI)
        (try clear hOkk)
        (try clear hsm)
        (try clear qM)
        (try clear qS)
        (try clear hq)
        (try clear dS0)
        (try clear hxx)
        replace hFx := hFx.mono hBr
        replace hrw := hBr _ hrw
        replace hsm' := hBr _ hsm'
        replace hcM := hBr _ hcM
        replace hcS := hBr _ hcS
        replace hC3 := hC3.mono hBr
        replace hT3 := hT3.mono hBr
        replace hPl := hPl.mono hBr
        replace hpr := hBr _ hpr
        replace hPR := hPR.mono hBr
        replace hMo := hBr _ hMo
        have hFx' := hFx
        refine opq ?_
        intro zX zH
        (refine' ea_19_2 (hFx') ?_; intro fxd f1 f2 f3 f4 f5 f6 z1 z2 z3 z4 z5 z6 z7 z8 z9 z10 z11 z12 hf1 hf2; (try clear hFx'))
        refine zH ?_
        clear zH zX
        have hi2 : i < sm.length := by (walk_at "om")
        have hb3 := hOk.at (i := (0 + (i : Int)).toNat) (by (walk_at "om"))
        have hb1 := hOk.m1
        have hb2 := hOk.m2
        have hBd : Bd a0 b0 := ⟨ha0, hb0, hbb0⟩
        clear ha0 hb0 hbb0
        have hw1 : 1 ≤ 1 + x1 := by (walk_at "om")
        have hw2 : 1 + x1 ≤ 100 := by (walk_at "om")
        have hh1 : 1 ≤ 1 + x2 := by (walk_at "om")
        have hh2 : 1 + x2 ≤ 100 := by (walk_at "om")
        have hi0 : 0 ≤ 0 + (i : Int) := by (walk_at "om")
        have hi1 : 0 + (i : Int) < sm.length := by (walk_at "om")
        have hyl2 : ys.length ≤ 100 := by (walk_at "om")
        clear hi hx1 hx1' hx2 hx2'
        k_sweep
        (try dsimp only)
        (try k_fold)
        k_steps
        unfold Stop
        by_cases hdv : (maxL (sm.map (·.1))).fmod (sm.getD (0 + (i : Int)).toNat (0, 0)).1 = 0 ∧ (maxL (sm.map (·.2))).fmod (sm.getD (0 + (i : Int)).toNat (0, 0)).2 = 0
        · refine opq ?_
          intro zX zH
          obtain ⟨⟨ha1, ha4⟩, hea⟩ := div_bd hb1.1 hb1.2 hb3.1.1 hdv.1
          obtain ⟨⟨hd1, hd4⟩, hed⟩ := div_bd hb2.1 hb2.2 hb3.2.1 hdv.2
          refine zH ?_
          clear zH zX
          have hA100 : ((maxL (sm.map (·.1))).fdiv (sm.getD (0 + (i : Int)).toNat (0, 0)).1) ≤ 100 := by (walk_at "om")
          have hD100 : ((maxL (sm.map (·.2))).fdiv (sm.getD (0 + (i : Int)).toNat (0, 0)).2) ≤ 100 := by (walk_at "om")
          k_dflt (refine' Spec.use (heard_ok w _ fx D6 (1 + x1) (1 + x2) zs _ sm _ ts ?p0 ?p1 ?p2 ?p3 ?p4 ?p5 ?p6 ?p7) ?k1 ?k2 ?k3 ?k4 ?k5 ?kK ?kd ?ku ?_; (case k1 => k_asm); (case k2 => k_asm); (case k3 => k_asm); (case k4 => k_asm); (case k5 => k_asm); (case p0 => first | assumption | exact FrameAt.mono (by assumption) (by intro q hq; repeat (first | exact hq | apply List.mem_cons_of_mem))); (case p1 => k_mem); (case p2 => first | assumption | exact CompsAt.mono (by assumption) (by intro q hq; repeat (first | exact hq | apply List.mem_cons_of_mem))); (case p3 => exact hOk); (case p4 => walk_at "om"); (case p5 => walk_at "om"); (case p6 => exact hdv.1); (case p7 => exact hdv.2); (case kK => first | exact rfl | assumption); (case kd => ((try dsimp only [ktrTop, Around.deeper, Around.in1]); first | omega | decide)); (case ku => ((try dsimp only [ktrTop, Around.deeper, Around.in1]); first | omega | decide)))
          intro r9 n9 h9 tk9 F9 N9 P9
          refine opq ?_
          intro zX zH
          (refine' ea_3_3 (P9) ?_; intro T ttA ttD zr3 hT9 hsub9; obtain rfl := zr3; (try clear P9))
          refine zH ?_
          clear zH zX
          have N10 := news_front N9 hT9 hsub9
          (try clear N9)
          (try clear hT9)
          (try clear hsub9)
          (try clear F)
          (try clear F2)
          (try clear N)
          k_sweep
          (try dsimp only)
          (try k_fold)
          k_steps
          unfold Stop
          rename_i tz2 hz2 tkz2 Sz hA lA hB' FB NB
          k_dflt (refine' Spec.use (due_spec w _ D4 ys _ sm _ _ ?p0 ?p1 ?p2 ?p3 ?p4) ?k1 ?k2 ?k3 ?k4 ?k5 ?kK ?kd ?ku ?_; (case k1 => k_asm); (case k2 => k_asm); (case k3 => k_asm); (case k4 => k_asm); (case k5 => k_asm); (case p0 => k_mem); (case p1 => first | assumption | exact TupsAt.mono (by assumption) (by intro q hq; repeat (first | exact hq | apply List.mem_cons_of_mem))); (case p2 => exact hOk); (case p3 => walk_at "om"); (case p4 => walk_at "om"); (case kK => first | exact rfl | assumption); (case kd => ((try dsimp only [ktrTop, Around.deeper, Around.in1]); first | omega | decide)); (case ku => ((try dsimp only [ktrTop, Around.deeper, Around.in1]); first | omega | decide)))
          intro r9 n9 h9 tk9 F9 N9 P9
          refine opq ?_
          intro zX zH
          (refine' ea_3_3 (due_ok P9 hdv) ?_; intro T2 u1 u2 zr3 hT2 hsub9; obtain rfl := zr3)
          refine zH ?_
          clear zH zX
          have N11 := news_front N9 hT2 hsub9
          (try clear N9)
          (try clear hT2)
          (try clear hsub9)
          (try clear N10)
          (try clear NB)
          (try clear FB)
          k_sweep
          (try dsimp only)
          (try k_fold)
          k_steps
          unfold Stop
          rename News _ _ _ _ => lN'
          refine ne_pair lN' (by k_mem) (by k_mem) rfl rfl (by ke_room) ?_
          k_steps
          unfold Stop
          k_dflt (refine' Spec.use (plane_size_spec w _ fx D6 (1 + x1) (1 + x2) zs _ sm _ _ ?p0 ?p1 ?p2 ?p3 ?p4 ?p5 ?p6 ?p7 ?p8 ?p9) ?k1 ?k2 ?k3 ?k4 ?k5 ?kK ?kd ?ku ?_; (case k1 => k_asm); (case k2 => k_asm); (case k3 => k_asm); (case k4 => k_asm); (case k5 => k_asm); (case p0 => first | assumption | exact FrameAt.mono (by assumption) (by intro q hq; repeat (first | exact hq | apply List.mem_cons_of_mem))); (case p1 => k_mem); (case p2 => first | assumption | exact CompsAt.mono (by assumption) (by intro q hq; repeat (first | exact hq | apply List.mem_cons_of_mem))); (case p3 => exact hOk); (case p4 => walk_at "om"); (case p5 => walk_at "om"); (case p6 => walk_at "om"); (case p7 => walk_at "om"); (case p8 => walk_at "om"); (case p9 => walk_at "om"); (case kK => first | exact rfl | assumption); (case kd => ((try dsimp only [ktrTop, Around.deeper, Around.in1]); first | omega | decide)); (case ku => ((try dsimp only [ktrTop, Around.deeper, Around.in1]); first | omega | decide)))
          intro r9 n9 h9 tk9 F9 N9 P9
          refine opq ?_
          intro zX zH
          (refine' ea_3_3 (P9) ?_; intro T3 u3 u4 zr3 hT3' hsub9; obtain rfl := zr3; (try clear P9))
          refine zH ?_
          clear zH zX
          have N12 := news_front N9 hT3' hsub9
          (try clear N9)
          (try clear hT3')
          (try clear hsub9)
          (try clear N11)
          (try clear lN')
          k_sweep
          (try dsimp only)
          (try k_fold)
          k_steps
          unfold Stop
          rename News _ _ _ _ => lN'
          refine ne_pair lN' (by k_mem) (by k_mem) rfl rfl (by ke_room) ?_
          k_steps
          unfold Stop
          k_dflt (refine' Spec.use (shrunk_spec w _ pl rw' (1 + x1) (1 + x2) pvs _ cells _ _ _ _ ?p0 ?p1 ?p2 ?p3 ?p4 ?p5 ?p6 ?p7 ?p8 ?p9 ?p10 ?p11) ?k1 ?k2 ?k3 ?k4 ?k5 ?kK ?kd ?ku ?_; (case k1 => k_asm); (case k2 => k_asm); (case k3 => k_asm); (case k4 => k_asm); (case k5 => k_asm); (case p0 => first | assumption | exact PlaneAt.mono (by assumption) (by intro q hq; repeat (first | exact hq | apply List.mem_cons_of_mem))); (case p1 => k_mem); (case p2 => first | assumption | exact Rows.mono (by assumption) (by intro q hq; repeat (first | exact hq | apply List.mem_cons_of_mem))); (case p3 => exact hcl); (case p4 => walk_at "om"); (case p5 => walk_at "om"); (case p6 => walk_at "om"); (case p7 => walk_at "om"); (case p8 => walk_at "om"); (case p9 => walk_at "om"); (case p10 => walk_at "om"); (case p11 => walk_at "om"); (case kK => first | exact rfl | assumption); (case kd => ((try dsimp only [ktrTop, Around.deeper, Around.in1]); first | omega | decide)); (case ku => ((try dsimp only [ktrTop, Around.deeper, Around.in1]); first | omega | decide)))
          intro r9 n9 h9 tk9 F9 N9 P9
          refine opq ?_
          intro zX zH
          (refine' ea_4_5 (P9) ?_; intro p2 r2 vs2 k2 zr4 hP2 hr2 hR2 hsub9; obtain rfl := zr4; (try clear P9))
          have hT9 : (T, tupO [.int ((maxL (sm.map (·.1))).fdiv (sm.getD (0 + (i : Int)).toNat (0, 0)).1) ttA, .int ((maxL (sm.map (·.2))).fdiv (sm.getD (0 + (i : Int)).toNat (0, 0)).2) ttD]) ∈ n9 := hsub9 _ (by k_mem)
          obtain ⟨sz1, sz2, hSz9⟩ : ∃ u v, (Sz, tupO [.int (partedF (1 + x1) (sm.getD (0 + (i : Int)).toNat (0, 0)).1 (maxL (sm.map (·.1)))) u, .int (partedF (1 + x2) (sm.getD (0 + (i : Int)).toNat (0, 0)).2 (maxL (sm.map (·.2)))) v]) ∈ n9 := ⟨_, _, hsub9 _ (by k_mem)⟩
          have hI9 : (I, it) ∈ n9 := hsub9 _ (by k_mem)
          have hsr9 : (src, lstO [.int a0 ta0, .int b0 tb0] k0) ∈ n9 := hsub9 _ (by k_mem)
          have hre9 : ∀ q ∈ rest, q ∈ n9 := fun q hq => hsub9 q (by simp only [List.mem_cons, hq, or_true])
          have hPl9 := hPl.mono hre9
          have hpr9 := hre9 _ hpr
          have hPR9 := hPR.mono hre9
          have hs1 : (partedF (1 + x1) (sm.getD (0 + (i : Int)).toNat (0, 0)).1 (maxL (sm.map (·.1)))) = partedF (1 + x1) 1 ((maxL (sm.map (·.1))).fdiv (sm.getD (0 + (i : Int)).toNat (0, 0)).1) := (by rw [hea] : (partedF (1 + x1) (sm.getD (0 + (i : Int)).toNat (0, 0)).1 (maxL (sm.map (·.1)))) = partedF (1 + x1) (sm.getD (0 + (i : Int)).toNat (0, 0)).1 (((maxL (sm.map (·.1))).fdiv (sm.getD (0 + (i : Int)).toNat (0, 0)).1) * (sm.getD (0 + (i : Int)).toNat (0, 0)).1)).trans (parted_div (by first | assumption | omega) hb3.1.1 ha1)
          have hs2 : (partedF (1 + x2) (sm.getD (0 + (i : Int)).toNat (0, 0)).2 (maxL (sm.map (·.2)))) = partedF (1 + x2) 1 ((maxL (sm.map (·.2))).fdiv (sm.getD (0 + (i : Int)).toNat (0, 0)).2) := (by rw [hed] : (partedF (1 + x2) (sm.getD (0 + (i : Int)).toNat (0, 0)).2 (maxL (sm.map (·.2)))) = partedF (1 + x2) (sm.getD (0 + (i : Int)).toNat (0, 0)).2 (((maxL (sm.map (·.2))).fdiv (sm.getD (0 + (i : Int)).toNat (0, 0)).2) * (sm.getD (0 + (i : Int)).toNat (0, 0)).2)).trans (parted_div (by first | assumption | omega) hb3.2.1 hd1)
          obtain ⟨hl1, hl2⟩ := parted_bd (n := 1 + x1) (by (walk_at "om")) ha1
          obtain ⟨hl3, hl4⟩ := parted_bd (n := 1 + x2) (by (walk_at "om")) hd1
          have hP2' := hP2
          (refine' ea_10_2 (hP2') ?_; intro dx2 b1 b2 b3 c1 c2 c3 y1 y2 m2 hps1 hps2; (try clear hP2'))
          refine zH ?_
          clear zH zX
          (try clear N12)
          (try clear lN')
          (try clear hsub9)
          k_sweep
          (try dsimp only)
          (try k_fold)
          k_steps
          unfold Stop
          rename News _ _ _ _ => lN'
          refine ne_pair lN' (by k_mem) (by k_mem) hs1.symm hs2.symm (by ke_room) ?_
          k_steps
          unfold Stop
          have hl2' := Int.le_trans hl2 hw2
          have hl4' := Int.le_trans hl4 hh2
          have hq1 : 1 ≤ (partedF (1 + x1) (sm.getD (0 + (i : Int)).toNat (0, 0)).1 (maxL (sm.map (·.1)))) := by rw [hs1]; exact hl1
          have hq2 : (partedF (1 + x1) (sm.getD (0 + (i : Int)).toNat (0, 0)).1 (maxL (sm.map (·.1)))) ≤ 100 := by rw [hs1]; exact Int.le_trans hl2 hw2
          have hq3 : 1 ≤ (partedF (1 + x2) (sm.getD (0 + (i : Int)).toNat (0, 0)).2 (maxL (sm.map (·.2)))) := by rw [hs2]; exact hl3
          have hq4 : (partedF (1 + x2) (sm.getD (0 + (i : Int)).toNat (0, 0)).2 (maxL (sm.map (·.2)))) ≤ 100 := by rw [hs2]; exact Int.le_trans hl4 hh2
          have hTs : @Ne Nat T src := news_ne lN' (List.mem_cons_of_mem _ hT9) (List.mem_cons_of_mem _ hsr9) (fun e => by injection e with e; exact absurd e (by decide))
          have hSzs : @Ne Nat Sz src := news_ne lN' (List.mem_cons_of_mem _ hSz9) (List.mem_cons_of_mem _ hsr9) (fun e => by injection e with e; exact absurd e (by decide))
          have hIs : @Ne Nat I src := Ne.symm (off (src, lstO [.int a0 ta0, .int b0 tb0] k0) List.mem_cons_self)
          k_dflt (refine' Spec.use (shrunk_right_spec w _ pl rw' (1 + x1) (1 + x2) pvs pk cells p2 r2 (partedF (1 + x1) 1 ((maxL (sm.map (·.1))).fdiv (sm.getD (0 + (i : Int)).toNat (0, 0)).1)) (partedF (1 + x2) 1 ((maxL (sm.map (·.2))).fdiv (sm.getD (0 + (i : Int)).toNat (0, 0)).2)) vs2 k2 (shrF cells (1 + x1) (1 + x2) ((maxL (sm.map (·.1))).fdiv (sm.getD (0 + (i : Int)).toNat (0, 0)).1) ((maxL (sm.map (·.2))).fdiv (sm.getD (0 + (i : Int)).toNat (0, 0)).2)) T _ _ _ _ ?p0 ?p1 ?p2 ?p3 ?p4 ?p5 ?p6 ?p7 ?p8 ?p9 ?p10 ?p11 ?p12 ?p13 ?p14 ?p15 ?p16 ?p17 ?p18 ?p19 ?p20 ?p21) ?k1 ?k2 ?k3 ?k4 ?k5 ?kK ?kd ?ku ?_; (case k1 => k_asm); (case k2 => k_asm); (case k3 => k_asm); (case k4 => k_asm); (case k5 => k_asm); (case p0 => exact hPl9.mono (by intro q hq; repeat (first | exact hq | apply List.mem_cons_of_mem))); (case p1 => k_mem); (case p2 => exact hPR9.mono (by intro q hq; repeat (first | exact hq | apply List.mem_cons_of_mem))); (case p3 => exact hcl); (case p4 => walk_at "om"); (case p5 => walk_at "om"); (case p6 => walk_at "om"); (case p7 => walk_at "om"); (case p8 => exact hP2.mono (by intro q hq; repeat (first | exact hq | apply List.mem_cons_of_mem))); (case p9 => k_mem); (case p10 => exact hR2.mono (by intro q hq; repeat (first | exact hq | apply List.mem_cons_of_mem))); (case p11 => exact shr_len (by (walk_at "om")) (by (walk_at "om"))); (case p12 => walk_at "om"); (case p13 => walk_at "om"); (case p14 => walk_at "om"); (case p15 => walk_at "om"); (case p16 => k_mem); (case p17 => walk_at "om"); (case p18 => walk_at "om"); (case p19 => walk_at "om"); (case p20 => walk_at "om"); (case p21 => exact fun x y hx hy => shrunk_law hcl hPR.len (by (walk_at "om")) (by (walk_at "om")) ha1 hd1 x y hx hy); (case kK => first | exact rfl | assumption); (case kd => ((try dsimp only [ktrTop, Around.deeper, Around.in1]); first | omega | decide)); (case ku => ((try dsimp only [ktrTop, Around.deeper, Around.in1]); first | omega | decide)))
          intro r9 n8 h9 tk9 F9 N9 P9
          refine opq ?_
          intro zX zH
          obtain ⟨rfl, hsub8⟩ := P9
          refine zH ?_
          clear zH zX
          have N13 := news_sub N9 (news' := (src, lstO [.int a0 ta0, .int b0 tb0] k0) :: (T, tupO [.int ((maxL (sm.map (·.1))).fdiv (sm.getD (0 + (i : Int)).toNat (0, 0)).1) ttA, .int ((maxL (sm.map (·.2))).fdiv (sm.getD (0 + (i : Int)).toNat (0, 0)).2) ttD]) :: (Sz, tupO [.int (partedF (1 + x1) (sm.getD (0 + (i : Int)).toNat (0, 0)).1 (maxL (sm.map (·.1)))) sz1, .int (partedF (1 + x2) (sm.getD (0 + (i : Int)).toNat (0, 0)).2 (maxL (sm.map (·.2)))) sz2]) :: (I, it) :: rest) (by
            intro q hq
            simp only [List.mem_cons] at hq
            rcases hq with rfl | rfl | rfl | rfl | hq
            · exact hsub8 _ (by k_mem)
            · exact hsub8 _ (by k_mem)
            · exact hsub8 _ (by k_mem)
            · exact hsub8 _ (by k_mem)
            · exact hsub8 _ (List.mem_cons_of_mem _ (hre9 q hq)))
          (try clear N9)
          (try clear lN')
          (try clear hsub8)
          (try clear hps1)
          (try clear hps2)
          (try clear hP2)
          (try clear hR2)
          (try clear hr2)
          (try clear hPl9)
          (try clear hpr9)
          (try clear hPR9)
          (try clear hT9)
          (try clear hSz9)
          (try clear hI9)
          (try clear hsr9)
          (try clear hre9)
          k_sweep
          (try dsimp only)
          (try k_fold)
          k_steps
          unfold Stop
          k_dflt (refine' Spec.use (lawplane_spec w src a0 b0 ta0 tb0 k0 _ _ _ _ _ ?hoff hBd.1 hBd.2.1 hBd.2.2 hq1 hq3 hq2 hq4) ?k1 ?k2 ?k3 ?k4 ?k5 ?kK ?kd ?ku ?_; (case k1 => k_asm); (case k2 => k_asm); (case k3 => k_asm); (case k4 => k_asm); (case k5 => k_asm); (case kK => first | exact rfl | assumption); (case kd => ((try dsimp only [ktrTop, Around.deeper, Around.in1]); first | omega | decide)); (case ku => ((try dsimp only [ktrTop, Around.deeper, Around.in1]); first | omega | decide)))
          case hoff => exact ownOff_c1 hTs (ownOff_c1 hSzs (ownOff_c1 hIs offr))
          intro r9 n9 h9 tk9 F9 N9 P9
          refine opq ?_
          intro zX zH
          (refine' ea_7_8 (P9) ?_; intro cells2 a1 b1 ta1 tb1 k1 B2 hsrc hA1 hB1 hC1 offB2 hBn zr13 hcl2; obtain ⟨pl2, r2', vs3, k3, rfl, hPl2, hpr2, hPR2, hB2s⟩ := zr13; (try clear P9))
          refine zH ?_
          clear zH zX
          have hBd1 : Bd a1 b1 := ⟨hA1, hB1, hC1⟩
          (try clear hA1)
          (try clear hB1)
          (try clear hC1)
          have N14 := news_front N9 hsrc hBn
          have hTB : (T, tupO [.int ((maxL (sm.map (·.1))).fdiv (sm.getD (0 + (i : Int)).toNat (0, 0)).1) ttA, .int ((maxL (sm.map (·.2))).fdiv (sm.getD (0 + (i : Int)).toNat (0, 0)).2) ttD]) ∈ B2 := hB2s _ (by k_mem)
          have hIB : (I, it) ∈ B2 := hB2s _ (by k_mem)
          have hreB : ∀ q ∈ rest, q ∈ B2 := fun q hq => hB2s q (by simp only [List.mem_cons, hq, or_true])
          have hFxB := hFx.mono hreB
          (try clear N9)
          (try clear N13)
          (try clear hsrc)
          (try clear hBn)
          (try clear hB2s)
          k_sweep
          (try dsimp only)
          (try k_fold)
          k_steps
          unfold Stop
          k_dflt (refine' Spec.use (grown_right_spec w _ fx D6 (1 + x1) (1 + x2) pl2 r2' (partedF (1 + x1) (sm.getD (0 + (i : Int)).toNat (0, 0)).1 (maxL (sm.map (·.1)))) (partedF (1 + x2) (sm.getD (0 + (i : Int)).toNat (0, 0)).2 (maxL (sm.map (·.2)))) vs3 k3 cells2 T _ _ _ _ ?p0 ?p1 ?p2 ?p3 ?p4 ?p5 ?p6 ?p7 ?p8 ?p9 ?p10 ?p11 ?p12 ?p13 ?p14 ?p15 ?p16 ?p17 ?p18 ?p19 ?p20 ?p21) ?k1 ?k2 ?k3 ?k4 ?k5 ?kK ?kd ?ku ?_; (case k1 => k_asm); (case k2 => k_asm); (case k3 => k_asm); (case k4 => k_asm); (case k5 => k_asm); (case p0 => exact hFxB.mono (by intro q hq; repeat (first | exact hq | apply List.mem_cons_of_mem))); (case p1 => walk_at "om"); (case p2 => walk_at "om"); (case p3 => walk_at "om"); (case p4 => walk_at "om"); (case p5 => exact hPl2.mono (by intro q hq; repeat (first | exact hq | apply List.mem_cons_of_mem))); (case p6 => k_mem); (case p7 => exact hPR2.mono (by intro q hq; repeat (first | exact hq | apply List.mem_cons_of_mem))); (case p8 => exact hcl2); (case p9 => exact hq1); (case p10 => exact hq3); (case p11 => exact hq2); (case p12 => exact hq4); (case p13 => k_mem); (case p14 => walk_at "om"); (case p15 => walk_at "om"); (case p16 => walk_at "om"); (case p17 => walk_at "om"); (case p18 => exact fun x hx => by rw [hs1]; exact fdiv_in ha1 (by (walk_at "om")) hx); (case p19 => exact fun y hy => by rw [hs2]; exact fdiv_in hd1 (by (walk_at "om")) hy); (case p20 => exact fun y hy => grown_rows ha1 hd1 (fun x hx => by rw [hs1]; exact fdiv_in ha1 (by (walk_at "om")) hx) (fun y hy => by rw [hs2]; exact fdiv_in hd1 (by (walk_at "om")) hy) y hy); (case p21 => (rw [hs1, hs2]; exact grown_law (by (walk_at "om")) (by (walk_at "om")) ha1 hd1 (by rw [← hs2]; exact hcl2) (fun c hc => by rw [← hs1]; exact hPR2.len c hc))); (case kK => first | exact rfl | assumption); (case kd => ((try dsimp only [ktrTop, Around.deeper, Around.in1]); first | omega | decide)); (case ku => ((try dsimp only [ktrTop, Around.deeper, Around.in1]); first | omega | decide)))
          intro r9 n7 h9 tk9 F9 N9 P9
          refine opq ?_
          intro zX zH
          obtain ⟨rfl, hsub7⟩ := P9
          refine zH ?_
          clear zH zX
          k_sweep
          (try dsimp only)
          (try k_fold)
          k_steps
          unfold Stop
          rename Fr _ _ _ _ => lF'
          rename News _ _ _ _ => lN'
          refine UnrEnd.intro lF' lN' ((src, lstO [.int a1 ta1, .int b1 tb1] k1) :: rest) ?sub ?offe ⟨_, _, _, _, _, rest, rfl, offr, hBr, hBd1.1, hBd1.2.1, hBd1.2.2, ?mz⟩
          case sub =>
            intro q hq
            rcases List.mem_cons.mp hq with rfl | hq
            · exact hsub7 _ (List.mem_cons_of_mem _ hIB)
            · rcases List.mem_cons.mp hq with rfl | hq
              · exact hsub7 _ List.mem_cons_self
              · exact hsub7 _ (List.mem_cons_of_mem _ (hreB q hq))
          case offe =>
            intro q hq
            rcases List.mem_cons.mp hq with rfl | hq
            · exact off (src, lstO [.int a0 ta0, .int b0 tb0] k0) List.mem_cons_self
            · exact off q (List.mem_cons_of_mem _ hq)
          case mz =>
            intro z y1 y2 y3 y4 y5
            repeat' (refine pickL ?_ ?_ <;> intro e)
            all_goals first | exact absurd e (by assumption) | (rw [e]; first | exact g1.symm | exact g2.symm | exact g3.symm | exact g4.symm | exact g5.symm) | exact hz z y1 y2 y3 y4 y5 | rfl
        · skip
          k_dflt (refine' SpecT.use (heard_bad w _ fx D6 (1 + x1) (1 + x2) zs _ sm _ ts ?p0 ?p1 ?p2 ?p3 ?p4 ?p5 ?p6) ?k1 ?k2 ?k3 ?k4 ?k5 ?kK ?kd ?ku ?_; (case k1 => k_asm); (case k2 => k_asm); (case k3 => k_asm); (case k4 => k_asm); (case k5 => k_asm); (case p0 => first | assumption | exact FrameAt.mono (by assumption) (by intro q hq; repeat (first | exact hq | apply List.mem_cons_of_mem))); (case p1 => k_mem); (case p2 => first | assumption | exact CompsAt.mono (by assumption) (by intro q hq; repeat (first | exact hq | apply List.mem_cons_of_mem))); (case p3 => exact hOk); (case p4 => walk_at "om"); (case p5 => walk_at "om"); (case p6 => exact hdv); (case kK => first | exact rfl | assumption); (case kd => ((try dsimp only [ktrTop, Around.deeper, Around.in1]); first | omega | decide)); (case ku => ((try dsimp only [ktrTop, Around.deeper, Around.in1]); first | omega | decide)))
          intro r9 n9 h9 tk9 F9 N9 P9
          refine opq ?_
          intro zX zH
          obtain ⟨rfl, hsub9⟩ := P9
          refine zH ?_
          clear zH zX
          have N10 := news_sub N9 hsub9
          (try clear N9)
          (try clear hsub9)
          (try clear F)
          (try clear F2)
          (try clear N)
          k_sweep
          (try dsimp only)
          (try k_fold)
          k_steps
          unfold Stop
          k_dflt (refine' Spec.use (due_spec w _ D4 ys _ sm _ _ ?p0 ?p1 ?p2 ?p3 ?p4) ?k1 ?k2 ?k3 ?k4 ?k5 ?kK ?kd ?ku ?_; (case k1 => k_asm); (case k2 => k_asm); (case k3 => k_asm); (case k4 => k_asm); (case k5 => k_asm); (case p0 => k_mem); (case p1 => first | assumption | exact TupsAt.mono (by assumption) (by intro q hq; repeat (first | exact hq | apply List.mem_cons_of_mem))); (case p2 => exact hOk); (case p3 => walk_at "om"); (case p4 => walk_at "om"); (case kK => first | exact rfl | assumption); (case kd => ((try dsimp only [ktrTop, Around.deeper, Around.in1]); first | omega | decide)); (case ku => ((try dsimp only [ktrTop, Around.deeper, Around.in1]); first | omega | decide)))
          intro r9 n9 h9 tk9 F9 N9 P9
          refine opq ?_
          intro zX zH
          obtain ⟨rfl, hsub9⟩ := due_bad P9 hdv
          refine zH ?_
          clear zH zX
          have N11 := news_sub N9 hsub9
          (try clear N9)
          (try clear hsub9)
          (try clear N10)
          k_sweep
          (try dsimp only)
          (try k_fold)
          k_steps
          unfold Stop
          k_dflt (refine' Spec.use (plane_size_spec w _ fx D6 (1 + x1) (1 + x2) zs _ sm _ _ ?p0 ?p1 ?p2 ?p3 ?p4 ?p5 ?p6 ?p7 ?p8 ?p9) ?k1 ?k2 ?k3 ?k4 ?k5 ?kK ?kd ?ku ?_; (case k1 => k_asm); (case k2 => k_asm); (case k3 => k_asm); (case k4 => k_asm); (case k5 => k_asm); (case p0 => first | assumption | exact FrameAt.mono (by assumption) (by intro q hq; repeat (first | exact hq | apply List.mem_cons_of_mem))); (case p1 => k_mem); (case p2 => first | assumption | exact CompsAt.mono (by assumption) (by intro q hq; repeat (first | exact hq | apply List.mem_cons_of_mem))); (case p3 => exact hOk); (case p4 => walk_at "om"); (case p5 => walk_at "om"); (case p6 => walk_at "om"); (case p7 => walk_at "om"); (case p8 => walk_at "om"); (case p9 => walk_at "om"); (case kK => first | exact rfl | assumption); (case kd => ((try dsimp only [ktrTop, Around.deeper, Around.in1]); first | omega | decide)); (case ku => ((try dsimp only [ktrTop, Around.deeper, Around.in1]); first | omega | decide)))
          intro r9 n9 h9 tk9 F9 N9 P9
          refine opq ?_
          intro zX zH
          (refine' ea_3_3 (P9) ?_; intro T3 u3 u4 zr3 hT3' hsub9; obtain rfl := zr3; (try clear P9))
          refine zH ?_
          clear zH zX
          have N12 := news_front N9 hT3' hsub9
          (try clear N9)
          (try clear hT3')
          (try clear hsub9)
          (try clear N11)
          k_sweep
          (try dsimp only)
          (try k_fold)
          k_steps
          unfold Stop
          rename News _ _ _ _ => lN'
          refine ne_pair lN' (by k_mem) (by k_mem) rfl rfl (by ke_room) ?_
          k_steps
          unfold Stop
          rename Fr _ _ _ _ => lF'
          rename News _ _ _ _ => lN'
          refine UnrEnd.intro lF' lN' ((src, lstO [.int a0 ta0, .int b0 tb0] k0) :: rest) ?sub ?offe ⟨_, _, _, _, _, rest, rfl, offr, hBr, hBd.1, hBd.2.1, hBd.2.2, ?mz⟩
          case sub =>
            repeat (refine sub_cons ?_ ?_; focus k_mem)
            repeat (first | exact sub_nil | exact sub_id | refine sub_tl ?_)
          case offe =>
            intro q hq
            rcases List.mem_cons.mp hq with rfl | hq
            · exact off (src, lstO [.int a0 ta0, .int b0 tb0] k0) List.mem_cons_self
            · exact off q (List.mem_cons_of_mem _ hq)
          case mz =>
            intro z y1 y2 y3 y4 y5
            repeat' (refine pickL ?_ ?_ <;> intro e)
            all_goals first | exact absurd e (by assumption) | (rw [e]; first | exact g1.symm | exact g2.symm | exact g3.symm | exact g4.symm | exact g5.symm) | exact hz z y1 y2 y3 y4 y5 | rfl)
end
end
end
end Mine
theorem PySem.Challenge.cw_ok0142_01_holds : PySem.Challenge.rw_ok0142_01.Holds :=
  Mine.law_try
