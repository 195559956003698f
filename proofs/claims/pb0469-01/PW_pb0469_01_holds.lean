import PyProof.Rows.All
import Wide.All
import OpenK.AllK
import Wide.FinOn
import PySem.Challenge.RW_pb0469_01
set_option Elab.async false
set_option maxRecDepth 100000
set_option maxHeartbeats 0
set_option linter.unusedVariables false
set_option linter.unusedSimpArgs false
section

namespace Mine
theorem x0a2 {p1 p2 : Prop} {G : Prop} (h : p1 ∧ p2) (g : p1 → p2 → G) : G := g h.1 h.2
theorem x0a3 {p1 p2 p3 : Prop} {G : Prop} (h : p1 ∧ p2 ∧ p3) (g : p1 → p2 → p3 → G) : G := g h.1 h.2.1 h.2.2
theorem x0a4 {p1 p2 p3 p4 : Prop} {G : Prop} (h : p1 ∧ p2 ∧ p3 ∧ p4) (g : p1 → p2 → p3 → p4 → G) : G := g h.1 h.2.1 h.2.2.1 h.2.2.2
theorem x0a5 {p1 p2 p3 p4 p5 : Prop} {G : Prop} (h : p1 ∧ p2 ∧ p3 ∧ p4 ∧ p5) (g : p1 → p2 → p3 → p4 → p5 → G) : G := g h.1 h.2.1 h.2.2.1 h.2.2.2.1 h.2.2.2.2
theorem x1a1 {α1 : Type} {p1 : α1 → Prop} {G : Prop} (h : ∃ x1, p1 x1) (g : ∀ x1, p1 x1 → G) : G := Exists.elim h fun x1 h => g x1 h
theorem x1a2 {α1 : Type} {p1 p2 : α1 → Prop} {G : Prop} (h : ∃ x1, p1 x1 ∧ p2 x1) (g : ∀ x1, p1 x1 → p2 x1 → G) : G := Exists.elim h fun x1 h => g x1 h.1 h.2
theorem x1a3 {α1 : Type} {p1 p2 p3 : α1 → Prop} {G : Prop} (h : ∃ x1, p1 x1 ∧ p2 x1 ∧ p3 x1) (g : ∀ x1, p1 x1 → p2 x1 → p3 x1 → G) : G := Exists.elim h fun x1 h => g x1 h.1 h.2.1 h.2.2
theorem x1a4 {α1 : Type} {p1 p2 p3 p4 : α1 → Prop} {G : Prop} (h : ∃ x1, p1 x1 ∧ p2 x1 ∧ p3 x1 ∧ p4 x1) (g : ∀ x1, p1 x1 → p2 x1 → p3 x1 → p4 x1 → G) : G := Exists.elim h fun x1 h => g x1 h.1 h.2.1 h.2.2.1 h.2.2.2
theorem x2a1 {α1 α2 : Type} {p1 : α1 → α2 → Prop} {G : Prop} (h : ∃ x1 x2, p1 x1 x2) (g : ∀ x1 x2, p1 x1 x2 → G) : G := Exists.elim h fun x1 h => Exists.elim h fun x2 h => g x1 x2 h
theorem x2a2 {α1 α2 : Type} {p1 p2 : α1 → α2 → Prop} {G : Prop} (h : ∃ x1 x2, p1 x1 x2 ∧ p2 x1 x2) (g : ∀ x1 x2, p1 x1 x2 → p2 x1 x2 → G) : G := Exists.elim h fun x1 h => Exists.elim h fun x2 h => g x1 x2 h.1 h.2
theorem x2a3 {α1 α2 : Type} {p1 p2 p3 : α1 → α2 → Prop} {G : Prop} (h : ∃ x1 x2, p1 x1 x2 ∧ p2 x1 x2 ∧ p3 x1 x2) (g : ∀ x1 x2, p1 x1 x2 → p2 x1 x2 → p3 x1 x2 → G) : G := Exists.elim h fun x1 h => Exists.elim h fun x2 h => g x1 x2 h.1 h.2.1 h.2.2
theorem x2a4 {α1 α2 : Type} {p1 p2 p3 p4 : α1 → α2 → Prop} {G : Prop} (h : ∃ x1 x2, p1 x1 x2 ∧ p2 x1 x2 ∧ p3 x1 x2 ∧ p4 x1 x2) (g : ∀ x1 x2, p1 x1 x2 → p2 x1 x2 → p3 x1 x2 → p4 x1 x2 → G) : G := Exists.elim h fun x1 h => Exists.elim h fun x2 h => g x1 x2 h.1 h.2.1 h.2.2.1 h.2.2.2
theorem x2a5 {α1 α2 : Type} {p1 p2 p3 p4 p5 : α1 → α2 → Prop} {G : Prop} (h : ∃ x1 x2, p1 x1 x2 ∧ p2 x1 x2 ∧ p3 x1 x2 ∧ p4 x1 x2 ∧ p5 x1 x2) (g : ∀ x1 x2, p1 x1 x2 → p2 x1 x2 → p3 x1 x2 → p4 x1 x2 → p5 x1 x2 → G) : G := Exists.elim h fun x1 h => Exists.elim h fun x2 h => g x1 x2 h.1 h.2.1 h.2.2.1 h.2.2.2.1 h.2.2.2.2
theorem x2a6 {α1 α2 : Type} {p1 p2 p3 p4 p5 p6 : α1 → α2 → Prop} {G : Prop} (h : ∃ x1 x2, p1 x1 x2 ∧ p2 x1 x2 ∧ p3 x1 x2 ∧ p4 x1 x2 ∧ p5 x1 x2 ∧ p6 x1 x2) (g : ∀ x1 x2, p1 x1 x2 → p2 x1 x2 → p3 x1 x2 → p4 x1 x2 → p5 x1 x2 → p6 x1 x2 → G) : G := Exists.elim h fun x1 h => Exists.elim h fun x2 h => g x1 x2 h.1 h.2.1 h.2.2.1 h.2.2.2.1 h.2.2.2.2.1 h.2.2.2.2.2
theorem x3a1 {α1 α2 α3 : Type} {p1 : α1 → α2 → α3 → Prop} {G : Prop} (h : ∃ x1 x2 x3, p1 x1 x2 x3) (g : ∀ x1 x2 x3, p1 x1 x2 x3 → G) : G := Exists.elim h fun x1 h => Exists.elim h fun x2 h => Exists.elim h fun x3 h => g x1 x2 x3 h
theorem x3a3 {α1 α2 α3 : Type} {p1 p2 p3 : α1 → α2 → α3 → Prop} {G : Prop} (h : ∃ x1 x2 x3, p1 x1 x2 x3 ∧ p2 x1 x2 x3 ∧ p3 x1 x2 x3) (g : ∀ x1 x2 x3, p1 x1 x2 x3 → p2 x1 x2 x3 → p3 x1 x2 x3 → G) : G := Exists.elim h fun x1 h => Exists.elim h fun x2 h => Exists.elim h fun x3 h => g x1 x2 x3 h.1 h.2.1 h.2.2
theorem x3a4 {α1 α2 α3 : Type} {p1 p2 p3 p4 : α1 → α2 → α3 → Prop} {G : Prop} (h : ∃ x1 x2 x3, p1 x1 x2 x3 ∧ p2 x1 x2 x3 ∧ p3 x1 x2 x3 ∧ p4 x1 x2 x3) (g : ∀ x1 x2 x3, p1 x1 x2 x3 → p2 x1 x2 x3 → p3 x1 x2 x3 → p4 x1 x2 x3 → G) : G := Exists.elim h fun x1 h => Exists.elim h fun x2 h => Exists.elim h fun x3 h => g x1 x2 x3 h.1 h.2.1 h.2.2.1 h.2.2.2
theorem x4a3 {α1 α2 α3 α4 : Type} {p1 p2 p3 : α1 → α2 → α3 → α4 → Prop} {G : Prop} (h : ∃ x1 x2 x3 x4, p1 x1 x2 x3 x4 ∧ p2 x1 x2 x3 x4 ∧ p3 x1 x2 x3 x4) (g : ∀ x1 x2 x3 x4, p1 x1 x2 x3 x4 → p2 x1 x2 x3 x4 → p3 x1 x2 x3 x4 → G) : G := Exists.elim h fun x1 h => Exists.elim h fun x2 h => Exists.elim h fun x3 h => Exists.elim h fun x4 h => g x1 x2 x3 x4 h.1 h.2.1 h.2.2
theorem x5a1 {α1 α2 α3 α4 α5 : Type} {p1 : α1 → α2 → α3 → α4 → α5 → Prop} {G : Prop} (h : ∃ x1 x2 x3 x4 x5, p1 x1 x2 x3 x4 x5) (g : ∀ x1 x2 x3 x4 x5, p1 x1 x2 x3 x4 x5 → G) : G := Exists.elim h fun x1 h => Exists.elim h fun x2 h => Exists.elim h fun x3 h => Exists.elim h fun x4 h => Exists.elim h fun x5 h => g x1 x2 x3 x4 x5 h
theorem x5a2 {α1 α2 α3 α4 α5 : Type} {p1 p2 : α1 → α2 → α3 → α4 → α5 → Prop} {G : Prop} (h : ∃ x1 x2 x3 x4 x5, p1 x1 x2 x3 x4 x5 ∧ p2 x1 x2 x3 x4 x5) (g : ∀ x1 x2 x3 x4 x5, p1 x1 x2 x3 x4 x5 → p2 x1 x2 x3 x4 x5 → G) : G := Exists.elim h fun x1 h => Exists.elim h fun x2 h => Exists.elim h fun x3 h => Exists.elim h fun x4 h => Exists.elim h fun x5 h => g x1 x2 x3 x4 x5 h.1 h.2
theorem x5a3 {α1 α2 α3 α4 α5 : Type} {p1 p2 p3 : α1 → α2 → α3 → α4 → α5 → Prop} {G : Prop} (h : ∃ x1 x2 x3 x4 x5, p1 x1 x2 x3 x4 x5 ∧ p2 x1 x2 x3 x4 x5 ∧ p3 x1 x2 x3 x4 x5) (g : ∀ x1 x2 x3 x4 x5, p1 x1 x2 x3 x4 x5 → p2 x1 x2 x3 x4 x5 → p3 x1 x2 x3 x4 x5 → G) : G := Exists.elim h fun x1 h => Exists.elim h fun x2 h => Exists.elim h fun x3 h => Exists.elim h fun x4 h => Exists.elim h fun x5 h => g x1 x2 x3 x4 x5 h.1 h.2.1 h.2.2
theorem x5a4 {α1 α2 α3 α4 α5 : Type} {p1 p2 p3 p4 : α1 → α2 → α3 → α4 → α5 → Prop} {G : Prop} (h : ∃ x1 x2 x3 x4 x5, p1 x1 x2 x3 x4 x5 ∧ p2 x1 x2 x3 x4 x5 ∧ p3 x1 x2 x3 x4 x5 ∧ p4 x1 x2 x3 x4 x5) (g : ∀ x1 x2 x3 x4 x5, p1 x1 x2 x3 x4 x5 → p2 x1 x2 x3 x4 x5 → p3 x1 x2 x3 x4 x5 → p4 x1 x2 x3 x4 x5 → G) : G := Exists.elim h fun x1 h => Exists.elim h fun x2 h => Exists.elim h fun x3 h => Exists.elim h fun x4 h => Exists.elim h fun x5 h => g x1 x2 x3 x4 x5 h.1 h.2.1 h.2.2.1 h.2.2.2
theorem x7a2 {α1 α2 α3 α4 α5 α6 α7 : Type} {p1 p2 : α1 → α2 → α3 → α4 → α5 → α6 → α7 → Prop} {G : Prop} (h : ∃ x1 x2 x3 x4 x5 x6 x7, p1 x1 x2 x3 x4 x5 x6 x7 ∧ p2 x1 x2 x3 x4 x5 x6 x7) (g : ∀ x1 x2 x3 x4 x5 x6 x7, p1 x1 x2 x3 x4 x5 x6 x7 → p2 x1 x2 x3 x4 x5 x6 x7 → G) : G := Exists.elim h fun x1 h => Exists.elim h fun x2 h => Exists.elim h fun x3 h => Exists.elim h fun x4 h => Exists.elim h fun x5 h => Exists.elim h fun x6 h => Exists.elim h fun x7 h => g x1 x2 x3 x4 x5 x6 x7 h.1 h.2
@[elab_as_elim] theorem rG {α : Sort u} {a : α} {p : α → Prop} {b : α} (h : a = b) (x : p b) : p a := h ▸ x
@[elab_as_elim] theorem rL {α : Sort u} {a : α} {p : α → Prop} {b : α} (h : b = a) (x : p b) : p a := h ▸ x
theorem i1a1 {α1 : Type} {p1 : α1 → Prop} (x1 : α1) (h1 : p1 x1) : ∃ x1, p1 x1 := ⟨x1, h1⟩
theorem i1a2 {α1 : Type} {p1 p2 : α1 → Prop} (x1 : α1) (h1 : p1 x1) (h2 : p2 x1) : ∃ x1, p1 x1 ∧ p2 x1 := ⟨x1, h1, h2⟩
theorem i1a3 {α1 : Type} {p1 p2 p3 : α1 → Prop} (x1 : α1) (h1 : p1 x1) (h2 : p2 x1) (h3 : p3 x1) : ∃ x1, p1 x1 ∧ p2 x1 ∧ p3 x1 := ⟨x1, h1, h2, h3⟩
theorem i1a4 {α1 : Type} {p1 p2 p3 p4 : α1 → Prop} (x1 : α1) (h1 : p1 x1) (h2 : p2 x1) (h3 : p3 x1) (h4 : p4 x1) : ∃ x1, p1 x1 ∧ p2 x1 ∧ p3 x1 ∧ p4 x1 := ⟨x1, h1, h2, h3, h4⟩
theorem i2a2 {α1 α2 : Type} {p1 p2 : α1 → α2 → Prop} (x1 : α1) (x2 : α2) (h1 : p1 x1 x2) (h2 : p2 x1 x2) : ∃ x1 x2, p1 x1 x2 ∧ p2 x1 x2 := ⟨x1, x2, h1, h2⟩
theorem i2a3 {α1 α2 : Type} {p1 p2 p3 : α1 → α2 → Prop} (x1 : α1) (x2 : α2) (h1 : p1 x1 x2) (h2 : p2 x1 x2) (h3 : p3 x1 x2) : ∃ x1 x2, p1 x1 x2 ∧ p2 x1 x2 ∧ p3 x1 x2 := ⟨x1, x2, h1, h2, h3⟩
theorem i2a4 {α1 α2 : Type} {p1 p2 p3 p4 : α1 → α2 → Prop} (x1 : α1) (x2 : α2) (h1 : p1 x1 x2) (h2 : p2 x1 x2) (h3 : p3 x1 x2) (h4 : p4 x1 x2) : ∃ x1 x2, p1 x1 x2 ∧ p2 x1 x2 ∧ p3 x1 x2 ∧ p4 x1 x2 := ⟨x1, x2, h1, h2, h3, h4⟩
theorem i3a4 {α1 α2 α3 : Type} {p1 p2 p3 p4 : α1 → α2 → α3 → Prop} (x1 : α1) (x2 : α2) (x3 : α3) (h1 : p1 x1 x2 x3) (h2 : p2 x1 x2 x3) (h3 : p3 x1 x2 x3) (h4 : p4 x1 x2 x3) : ∃ x1 x2 x3, p1 x1 x2 x3 ∧ p2 x1 x2 x3 ∧ p3 x1 x2 x3 ∧ p4 x1 x2 x3 := ⟨x1, x2, x3, h1, h2, h3, h4⟩
theorem i5a1 {α1 α2 α3 α4 α5 : Type} {p1 : α1 → α2 → α3 → α4 → α5 → Prop} (x1 : α1) (x2 : α2) (x3 : α3) (x4 : α4) (x5 : α5) (h1 : p1 x1 x2 x3 x4 x5) : ∃ x1 x2 x3 x4 x5, p1 x1 x2 x3 x4 x5 := ⟨x1, x2, x3, x4, x5, h1⟩
theorem i5a2 {α1 α2 α3 α4 α5 : Type} {p1 p2 : α1 → α2 → α3 → α4 → α5 → Prop} (x1 : α1) (x2 : α2) (x3 : α3) (x4 : α4) (x5 : α5) (h1 : p1 x1 x2 x3 x4 x5) (h2 : p2 x1 x2 x3 x4 x5) : ∃ x1 x2 x3 x4 x5, p1 x1 x2 x3 x4 x5 ∧ p2 x1 x2 x3 x4 x5 := ⟨x1, x2, x3, x4, x5, h1, h2⟩
theorem i5a3 {α1 α2 α3 α4 α5 : Type} {p1 p2 p3 : α1 → α2 → α3 → α4 → α5 → Prop} (x1 : α1) (x2 : α2) (x3 : α3) (x4 : α4) (x5 : α5) (h1 : p1 x1 x2 x3 x4 x5) (h2 : p2 x1 x2 x3 x4 x5) (h3 : p3 x1 x2 x3 x4 x5) : ∃ x1 x2 x3 x4 x5, p1 x1 x2 x3 x4 x5 ∧ p2 x1 x2 x3 x4 x5 ∧ p3 x1 x2 x3 x4 x5 := ⟨x1, x2, x3, x4, x5, h1, h2, h3⟩
theorem i7a2 {α1 α2 α3 α4 α5 α6 α7 : Type} {p1 p2 : α1 → α2 → α3 → α4 → α5 → α6 → α7 → Prop} (x1 : α1) (x2 : α2) (x3 : α3) (x4 : α4) (x5 : α5) (x6 : α6) (x7 : α7) (h1 : p1 x1 x2 x3 x4 x5 x6 x7) (h2 : p2 x1 x2 x3 x4 x5 x6 x7) : ∃ x1 x2 x3 x4 x5 x6 x7, p1 x1 x2 x3 x4 x5 x6 x7 ∧ p2 x1 x2 x3 x4 x5 x6 x7 := ⟨x1, x2, x3, x4, x5, x6, x7, h1, h2⟩
end Mine
end
section
open PySem PySem.W PyProof.Rows
namespace Mine
abbrev L := PySem.Challenge.rw_pb0469_01
abbrev P := PySem.Challenge.pw_pb0469_01
local macro_rules | `(tactic| walk_at "fast") => `(tactic| (
 try rw [PySem.W.Fast.te8326940854005059898]
 try rw [PySem.W.Fast.te17119622794617984870]
 try rw [PySem.W.Fast.te8377067652309620493]
 try rw [PySem.W.Fast.te14412699480532031325]
 try rw [PySem.W.Fast.te18344453789297297638]
 try rw [PySem.W.Fast.te5923862056798008813]
 try rw [PySem.W.Fast.te13343964577679436407]
 try rw [PySem.W.Fast.te17691160309236699985]
 try rw [PySem.W.Fast.te17868728402115742887]
 try rw [PySem.W.Fast.te11788848310118352699]
 try rw [PySem.W.Fast.te9807087744658564304]
 try rw [PySem.W.Fast.te12862048085361865435]
 try rw [PySem.W.Fast.te13582783067957832011]
 try rw [PySem.W.Fast.te12749700546528644094]
 try rw [PySem.W.Fast.te10501279942588096481]
 try rw [PySem.W.Fast.te8179353310426384613]
 try rw [PySem.W.Fast.te9558739934217749035]
 try rw [PySem.W.Fast.te16286561074155671207]
 try rw [PySem.W.Fast.te6984425678791042302]
 try rw [PySem.W.Fast.te797321630700447069]
 try rw [PySem.W.Fast.named_eq]
 try rw [PySem.W.Fast.te10792542408131684335]
 try rw [PySem.W.Fast.te9572597257264208301]
 try rw [PySem.W.Fast.sDec_eq]))
theorem l1 : sreFenced L.row.prog.main = true := by walk_at "fast"; kernel_rfl
theorem l2 : ((moduleNames L.row.prog.main.body).isEmpty || lookedIntoSs (moduleNames L.row.prog.main.body) L.row.prog.main.body) = true := by walk_at "fast"; kernel_rfl
theorem l3 : namesResolve L.row.prog = true := by walk_at "fast"; kernel_rfl
theorem l4 : (L.row.prog.boundNames.all fun n => !worldNames.contains n) = true := by walk_at "fast"; kernel_rfl
theorem l5 : noRoadLSs { strict := !(importedModules L.row.prog.main.body).all cThrough.contains, foot := none, bare := List.filter (readsOut L.row.prog L.row.prog.main.body) [Str.ofString "vars", Str.ofString "dir", Str.ofString "locals"] } L.row.prog.main.body = true := by walk_at "fast"; kernel_rfl
theorem l6 : (namesMeet L.row.prog L.row.prog.main.body fun _ n => attrL n) = true := by walk_at "fast"; kernel_rfl
theorem l7 : L.row.prog.boundNames.contains L.row.name = true := by walk_at "fast"; kernel_rfl
theorem l8 : L.footing.all footLine = true := by walk_at "fast"; kernel_rfl
theorem l9 : noClassBlock L.prog L.footing = true := by walk_at "fast"; kernel_rfl
theorem l10 : noRoadLSs { strict := true, foot := some L.bound', writes := L.writes, may := L.may } L.footing = true := by walk_at "fast"; kernel_rfl
theorem l11 : defStands L.about L.above = true := by walk_at "fast"; kernel_rfl
theorem l12 : L.namesIt = true := by walk_at "fast"; kernel_rfl
theorem l13 : (L.bound'.all fun n => !builtinNamed n || L.about == [n] || !L.reads n) = true := by walk_at "fast"; kernel_rfl
theorem l14 : ((List.flatMap importedNames L.prog.main.body).all fun n => !L.reads n || (drawsOf n L.prog.main.body).all fun mn => mn.snd != Str.ofString "attrgetter" && mn.snd != Str.ofString "methodcaller") = true := by walk_at "fast"; kernel_rfl
theorem l15 : (namesMeet L.prog L.footing fun sc n => (![Str.ofString "type", Str.ofString "isinstance", Str.ofString "issubclass", Str.ofString "getattr", Str.ofString "hasattr"].contains n || List.lookup n sc.names == some NameKind.globalImplicit) &&
    (L.may != some n || sc.kind == ScopeKind.module || List.lookup n sc.names == some NameKind.globalImplicit)) = true := by walk_at "fast"; kernel_rfl
theorem l16 : (L.own.all fun n => !builtinNamed n) = true := by walk_at "fast"; kernel_rfl
theorem l17 : (namesMeet L.prog L.above fun _ n => !L.own.contains n) = true := by walk_at "fast"; kernel_rfl
theorem l18 : (namesMeet L.prog L.footing fun sc n => sc.kind == ScopeKind.module || List.lookup n sc.names != some NameKind.globalExplicit) = true := by walk_at "fast"; kernel_rfl
theorem row_ws : L.row.wellSaid = true := by
 unfold OpenRow.wellSaid OpenRow.partSaid looksOpen
 repeat' with_reducible refine look_both ?_ ?_
 all_goals first | with_reducible exact l1 | with_reducible exact l2 | with_reducible exact l3 | with_reducible exact l4 | with_reducible exact l5 | with_reducible exact l6 | with_reducible exact l7 | skip
 all_goals (walk_at "fast"; kernel_rfl)
theorem ws : L.wellSaid = true := by
 unfold OpenLaw.wellSaid
 repeat' with_reducible refine look_both ?_ ?_
 all_goals first | with_reducible exact row_ws | with_reducible exact l8 | with_reducible exact l9 | with_reducible exact l10 | with_reducible exact l11 | with_reducible exact l12 | with_reducible exact l13 | with_reducible exact l14 | with_reducible exact l15 | with_reducible exact l16 | with_reducible exact l17 | with_reducible exact l18 | skip
 all_goals (walk_at "fast"; kernel_rfl)
end Mine
end
set_option tactic.hygienic false
set_option genSizeOf false
set_option genInjectivity false
set_option bootstrap.genMatcherCode false
section
set_option tactic.hygienic true
open PySem PySem.W PyProof.Rows
namespace Mine
noncomputable def drive (thr ok : Thread → Bool) (stp : SharedT → Thread → Option (SharedT × Thread)) (n : Nat) : SharedT → Thread → Option SharedT :=
 @Nat.rec (fun _ => SharedT → Thread → Option SharedT) (fun _ _ => none)
  (fun _ ih s t => match thr t with
   | true => some s
   | false => match ok t with
    | false => none
    | true => match stp s t with
     | some r => ih r.1 r.2
     | none => none) n
theorem drive_spec {tb : String → Option Builtin} {p : Program} {w : World} {m : Nat} {ann : Option Value} : ∀ (n : Nat) (s s' : SharedT) (t : Thread),
  drive through (stepOk m ann) (stepT (denote tb) p w) n s t = some s' → topRun tb p w m ann n s.abs t = some s'.abs
 | 0, _, _, _, h => by cases h
 | n + 1, s, s', t, h => by
  unfold topRun
  change (match through t with
   | true => some s
   | false => match stepOk m ann t with
    | false => none
    | true => match stepT (denote tb) p w s t with
     | some r => drive through (stepOk m ann) (stepT (denote tb) p w) n r.1 r.2
     | none => none) = some s' at h
  cases ht : through t with
  | true => rw [ht] at h; cases h; rfl
  | false =>
   rw [ht] at h
   cases hk : stepOk m ann t with
   | false => rw [hk] at h; cases h
   | true =>
    rw [hk] at h
    cases hs : stepT (denote tb) p w s t with
    | none => rw [hs] at h; cases h
    | some r =>
     rw [hs] at h
     obtain ⟨s2, t2⟩ := r
     show (match step (denote tb) p w s.abs t with
      | .go s' t' => topRun tb p w m ann n s' t'
      | .halt _ _ => none) = some s'.abs
     rw [stepT_spec hs]
     exact drive_spec n s2 s' t2 h
noncomputable def bootTree (p : Params) : BT := .node (boot_o_0 p) (.node (boot_o_1 p) (.node (boot_o_3 p) (.node (boot_o_7 p) .nil .nil) .nil) (.node (boot_o_5 p) (.node (boot_o_9 p) .nil .nil) .nil)) (.node (boot_o_2 p) (.node (boot_o_4 p) (.node (boot_o_8 p) .nil .nil) .nil) (.node (boot_o_6 p) (.node (boot_o_10 p) .nil .nil) .nil))
theorem boot_abs (p : Params) : absHeap (bootTree p) 11 {} = boot_heap p := by kernel_rfl
noncomputable def S0 (w : World) (os : OsState) : SharedT := ⟨bootTree w.params, 11, {}, ⟨[]⟩, boot_drawn, boot_toks, os⟩
theorem step_eq (p : Program) (w : World) : stepT (denote treeTable) p w = PySem.W.Fast.tw10156331382660048174 (PySem.W.Fast.tw11892475500146522536 PySem.W.Fast.tw14364793385576792824) p w := by
 rw [PySem.W.Fast.te10156331382660048174, PySem.W.Fast.te11892475500146522536, PySem.W.Fast.te14364793385576792824]
noncomputable def st (i : Nat) : Stmt := match P.main.body[i]? with | some s => s | none => .Pass ⟨0, 0, 0, 0⟩
noncomputable def clsBody : Stmt → List Stmt
 | .ClassDef _ _ _ b _ _ _ _ _ _ _ => b
 | _ => []
noncomputable def me (i j : Nat) : Stmt := match (clsBody (st i))[j]? with | some s => s | none => .Pass ⟨0, 0, 0, 0⟩
noncomputable def fdName : Stmt → Str
 | .FunctionDef n _ _ _ _ _ _ _ _ _ => n
 | _ => ""
noncomputable def fdArgs : Stmt → Arguments
 | .FunctionDef _ a _ _ _ _ _ _ _ _ => a
 | _ => ⟨[], [], none, [], [], none, []⟩
noncomputable def fdBody : Stmt → List Stmt
 | .FunctionDef _ _ b _ _ _ _ _ _ _ => b
 | _ => []
noncomputable def fdScope : Stmt → Scope
 | .FunctionDef _ _ _ _ _ _ sc _ _ _ => sc
 | _ => { kind := .function, names := [], isGenerator := false, isCoroutine := false, more := [] }
noncomputable def fo (d : Stmt) (qual : Str) (dflt pm code : Value) : Obj :=
 {cls := .type "function", data := .func { name := fdName d, qualname := qual, params := fdArgs d, body := .stmts (fdBody d), scope := fdScope d, globals := 3, closure := [], defaults := dflt, kwdefaults := .none, doc := .none, pyModule := pm, annotations := none, code := code, closureTuple := .none, builtins := 0 } }
noncomputable def en (p : Params) (n : Str) (tok : Tok) (v : Value) : DictEntry := ⟨PyData.keyHash p n, .str n tok, v⟩
noncomputable def Kf (p : Params) : Frag := [
 (3, ⟨.type "dict", none, .dict [en p "__name__" 165 (.str "law_pb0469_01" 2178), en p "__doc__" 166 (.none), en p "__package__" 167 (.none), en p "__loader__" 168 (.builtin "__main__.__loader__#opaque"), en p "__spec__" 169 (.none), en p "__annotations__" 170 (.ref 6), en p "__builtins__" 171 (.ref 4), en p "__file__" 173 (.str "/claim/cut.py" 172), en p "__cached__" 174 (.none), en p "_wall" 193 (.ref 21), en p "AGGREGATES" 220 (.ref 22), en p "fits" 228 (.ref 35), en p "is_aggregate" 238 (.ref 43), en p "row_of" 247 (.ref 50), en p "rows_of" 253 (.ref 55), en p "Node" 280 (.ref 72), en p "Expr" 296 (.ref 86), en p "Literal" 328 (.ref 112), en p "Name" 365 (.ref 138), en p "Variable" 397 (.ref 164), en p "Unary" 431 (.ref 190), en p "Binary" 467 (.ref 216), en p "Between" 505 (.ref 242), en p "InList" 541 (.ref 268), en p "InSelect" 577 (.ref 294), en p "Exists" 611 (.ref 320), en p "Scalar" 643 (.ref 346), en p "Case" 678 (.ref 370), en p "Call" 716 (.ref 396), en p "Cast" 750 (.ref 422), en p "Collate" 784 (.ref 448), en p "IsNull" 818 (.ref 474), en p "Match" 859 (.ref 500), en p "Core" 902 (.ref 526), en p "Values" 933 (.ref 550), en p "Compound" 969 (.ref 576), en p "NUMERIC_AFFINITIES" 974 (.ref 579), en p "SPACES" 976 (.str " \t\n\x0b\x0c\x0d" 975), en p "fold_ascii" 985 (.ref 586), en p "affinity_of_type" 994 (.ref 593), en p "comparison_affinities" 1002 (.ref 600), en p "fold" 1010 (.ref 605), en p "children" 1020 (.ref 612), en p "is_aggregate_call" 1027 (.ref 619), en p "aggregates_in" 1036 (.ref 626), en p "has_subquery" 1042 (.ref 631), en p "names_in" 1051 (.ref 638), en p "outer_numbers" 1059 (.ref 645), en p "collect_numbers" 1069 (.ref 652), en p "affinity_of" 1077 (.ref 660), en p "explicit_collation" 1084 (.ref 667), en p "column_collation" 1091 (.ref 674), en p "collation_of" 1099 (.ref 682), en p "comparison_collation" 1108 (.ref 689), en p "PagebaseError" 1139 (.ref 706), en p "MisuseError" 1155 (.ref 719), en p "KeyInfo" 1211 (.ref 759), en p "output_info" 1219 (.ref 768), en p "open_keys" 1228 (.ref 775), en p "put_key" 1239 (.ref 782), en p "write_outputs" 1245 (.ref 787), en p "Gathered" 1356 (.ref 851), en p "write_one_group" 1376 (.ref 862), en p "write_groups" 1382 (.ref 867), en p "Handle" 1415 (.ref 884), en p "loops" 1421 (.ref 893), en p "open_level" 1435 (.ref 900), en p "write_level" 1453 (.ref 907), en p "test_terms" 1463 (.ref 914), en p "write_left" 1484 (.ref 921), en p "walk" 1494 (.ref 928), en p "walk_all" 1508 (.ref 935), en p "key_value" 1518 (.ref 942), en p "walk_list" 1538 (.ref 949), en p "walk_rowid" 1554 (.ref 956), en p "bound_value" 1565 (.ref 963), en p "walk_rowids" 1588 (.ref 970), en p "seek_word" 1596 (.ref 977), en p "past_word" 1604 (.ref 984), en p "walk_index" 1628 (.ref 991), en p "walk_range" 1653 (.ref 998), en p "write_body" 1668 (.ref 1006), en p "write_compound" 1686 (.ref 1013), en p "write_other" 1698 (.ref 1020), en p "write_core" 1713 (.ref 1027), en p "write_aggregate" 1728 (.ref 1034), en p "is_comparison" 1737 (.ref 1041), en p "opposite" 1744 (.ref 1048), en p "OperatorCoder" 1958 (.ref 1173), en p "JUMPS" 2051 (.ref 1178), en p "Program" 2177 (.ref 1269), en p "_law_pool" 2190 (.ref 1280), en p "_law_take" 2199 (.ref 1287), en p "_law_one" 2207 (.ref 1294), en p "_law_lot" 2213 (.ref 1299), en p "_law_told" 2219 (.ref 1304), en p "_law_node" 2225 (.ref 1309), en p "_law_key" 2236 (.ref 1316), en p "_law_rows" 2242 (.ref 1321), en p "_law_spot" 2252 (.ref 1328), en p "_law_do" 2258 (.ref 1333), en p "_law_change" 2269 (.ref 1340), en p "_law_ran" 2281 (.ref 1347), en p "law" 2293 (.ref 1354)].toArray 104, #[]⟩),
 (1178, ⟨.type "dict", none, .dict [en p "Goto" 1961 (.int (1) 1962), en p "Gosub" 1964 (.int (1) 1965), en p "Once" 1967 (.int (1) 1968), en p "If" 1970 (.int (1) 1971), en p "IfNot" 1973 (.int (1) 1974), en p "IsNull" 1976 (.int (1) 1977), en p "NotNull" 1979 (.int (1) 1980), en p "IfPos" 1982 (.int (1) 1983), en p "MustBeInt" 1985 (.int (1) 1986), en p "CompareJump" 1988 (.int (1) 1989), en p "Rewind" 1991 (.int (1) 1992), en p "Last" 1994 (.int (1) 1995), en p "Next" 1997 (.int (1) 1998), en p "Prev" 2000 (.int (1) 2001), en p "SeekRowid" 2003 (.int (1) 2004), en p "SeekGE" 2006 (.int (1) 2007), en p "SeekGT" 2009 (.int (1) 2010), en p "SeekLE" 2012 (.int (1) 2013), en p "SeekLT" 2014 (.int (1) 2015), en p "IdxGT" 2016 (.int (1) 2017), en p "IdxGE" 2018 (.int (1) 2019), en p "IdxLT" 2020 (.int (1) 2021), en p "IdxLE" 2022 (.int (1) 2023), en p "Found" 2024 (.int (1) 2025), en p "NotFound" 2026 (.int (1) 2027), en p "NoConflict" 2028 (.int (1) 2029), en p "NotExists" 2030 (.int (1) 2031), en p "SorterSort" 2032 (.int (1) 2033), en p "SorterNext" 2034 (.int (1) 2035), en p "IntegrityRows" 2036 (.int (1) 2037)].toArray 30, #[]⟩),
 (602, ⟨.none, none, .fields [].toArray, #[]⟩),
 (604, ⟨.type "code", none, .fields [.str "fold" 1005, .str "fold" 1006, .str "/claim/cut.py" 1007, .int (232) 0, .int (1) 0, .int (0) 0, .int (0) 0, .int (3) 0, .ref 601, .bool true, .int (181) 0, .ref 602, .none, .none, .none, .ref 603, .int (1008) 0, .int (232) 0, .str "/claim/cut.py" 1009].toArray, #[]⟩),
 (605, fo (st 36) "fold" (.none) (.str "pagebase.expr_tools" 1003) (.ref 604)),
 (662, ⟨.none, none, .fields [].toArray, #[]⟩),
 (666, ⟨.type "code", none, .fields [.str "explicit_collation" 1078, .str "explicit_collation" 1079, .str "/claim/cut.py" 1080, .int (301) 0, .int (1) 0, .int (0) 0, .int (0) 0, .int (3) 0, .ref 661, .bool true, .int (181) 0, .ref 662, .none, .ref 663, .ref 664, .ref 665, .int (1082) 0, .int (301) 0, .str "/claim/cut.py" 1083].toArray, #[]⟩),
 (667, fo (st 45) "explicit_collation" (.none) (.str "pagebase.expr_tools" 1003) (.ref 666)),
 (675, ⟨.type "tuple", none, .seq [.none].toArray 0, #[]⟩),
 (677, ⟨.none, none, .fields [].toArray, #[]⟩),
 (681, ⟨.type "code", none, .fields [.str "collation_of" 1092, .str "collation_of" 1093, .str "/claim/cut.py" 1094, .int (319) 0, .int (2) 0, .int (0) 0, .int (0) 0, .int (3) 0, .ref 676, .bool true, .int (181) 0, .ref 677, .none, .ref 678, .ref 679, .ref 680, .int (1097) 0, .int (319) 0, .str "/claim/cut.py" 1098].toArray, #[]⟩),
 (682, fo (st 47) "collation_of" (.ref 675) (.str "pagebase.expr_tools" 1003) (.ref 681)),
 (765, ⟨.none, none, .fields [].toArray, #[]⟩),
 (767, ⟨.type "code", none, .fields [.str "output_info" 1214, .str "output_info" 1215, .str "/claim/cut.py" 1216, .int (353) 0, .int (1) 0, .int (0) 0, .int (0) 0, .int (3) 0, .ref 764, .bool true, .int (181) 0, .ref 765, .none, .none, .none, .ref 766, .int (1217) 0, .int (353) 0, .str "/claim/cut.py" 1218].toArray, #[]⟩),
 (768, fo (st 55) "output_info" (.none) (.str "pagebase.code_rows" 1212) (.ref 767)),
 (770, ⟨.none, none, .fields [].toArray, #[]⟩),
 (774, ⟨.type "code", none, .fields [.str "open_keys" 1220, .str "open_keys" 1221, .str "/claim/cut.py" 1222, .int (356) 0, .int (2) 0, .int (0) 0, .int (0) 0, .int (3) 0, .ref 769, .bool true, .int (181) 0, .ref 770, .none, .ref 771, .ref 772, .ref 773, .int (1226) 0, .int (356) 0, .str "/claim/cut.py" 1227].toArray, #[]⟩),
 (775, fo (st 56) "open_keys" (.none) (.str "pagebase.code_rows" 1212) (.ref 774)),
 (777, ⟨.none, none, .fields [].toArray, #[]⟩),
 (781, ⟨.type "code", none, .fields [.str "put_key" 1229, .str "put_key" 1230, .str "/claim/cut.py" 1231, .int (360) 0, .int (4) 0, .int (0) 0, .int (0) 0, .int (3) 0, .ref 776, .bool true, .int (181) 0, .ref 777, .none, .ref 778, .ref 779, .ref 780, .int (1237) 0, .int (360) 0, .str "/claim/cut.py" 1238].toArray, #[]⟩),
 (782, fo (st 57) "put_key" (.none) (.str "pagebase.code_rows" 1212) (.ref 781)),
 (930, ⟨.none, none, .fields [].toArray, #[]⟩),
 (934, ⟨.type "code", none, .fields [.str "walk_all" 1495, .str "walk_all" 1496, .str "/claim/cut.py" 1497, .int (619) 0, .int (4) 0, .int (0) 0, .int (0) 0, .int (3) 0, .ref 929, .bool true, .int (181) 0, .ref 930, .none, .ref 931, .ref 932, .ref 933, .int (1506) 0, .int (619) 0, .str "/claim/cut.py" 1507].toArray, #[]⟩),
 (935, fo (st 71) "walk_all" (.none) (.str "pagebase.code_where" 1383) (.ref 934)),
 (999, ⟨.type "tuple", none, .seq [.none].toArray 0, #[]⟩),
 (1001, ⟨.none, none, .fields [].toArray, #[]⟩),
 (1005, ⟨.type "code", none, .fields [.str "write_body" 1656, .str "write_body" 1657, .str "/claim/cut.py" 1658, .int (766) 0, .int (5) 0, .int (0) 0, .int (0) 0, .int (3) 0, .ref 1000, .bool true, .int (181) 0, .ref 1001, .none, .ref 1002, .ref 1003, .ref 1004, .int (1666) 0, .int (766) 0, .str "/claim/cut.py" 1667].toArray, #[]⟩),
 (1006, fo (st 82) "write_body" (.ref 999) (.str "pagebase.code_select" 1654) (.ref 1005)),
 (1008, ⟨.none, none, .fields [].toArray, #[]⟩),
 (1012, ⟨.type "code", none, .fields [.str "write_compound" 1669, .str "write_compound" 1670, .str "/claim/cut.py" 1671, .int (782) 0, .int (3) 0, .int (0) 0, .int (0) 0, .int (3) 0, .ref 1007, .bool true, .int (181) 0, .ref 1008, .none, .ref 1009, .ref 1010, .ref 1011, .int (1684) 0, .int (782) 0, .str "/claim/cut.py" 1685].toArray, #[]⟩),
 (1013, fo (st 83) "write_compound" (.none) (.str "pagebase.code_select" 1654) (.ref 1012)),
 (1015, ⟨.none, none, .fields [].toArray, #[]⟩),
 (1019, ⟨.type "code", none, .fields [.str "write_other" 1687, .str "write_other" 1688, .str "/claim/cut.py" 1689, .int (819) 0, .int (3) 0, .int (0) 0, .int (0) 0, .int (3) 0, .ref 1014, .bool true, .int (181) 0, .ref 1015, .none, .ref 1016, .ref 1017, .ref 1018, .int (1696) 0, .int (819) 0, .str "/claim/cut.py" 1697].toArray, #[]⟩),
 (1020, fo (st 84) "write_other" (.none) (.str "pagebase.code_select" 1654) (.ref 1019)),
 (1275, ⟨.none, none, .fields [].toArray, #[]⟩),
 (1279, ⟨.type "code", none, .fields [.str "_law_pool" 2180, .str "_law_pool" 2181, .str "/claim/cut.py" 2182, .int (1090) 0, .int (2) 0, .int (0) 0, .int (0) 0, .int (3) 0, .ref 1274, .bool true, .int (181) 0, .ref 1275, .none, .ref 1276, .ref 1277, .ref 1278, .int (2188) 0, .int (1090) 0, .str "/claim/cut.py" 2189].toArray, #[]⟩),
 (1280, fo (st 95) "_law_pool" (.none) (.str "law_pb0469_01" 2178) (.ref 1279)),
 (1282, ⟨.none, none, .fields [].toArray, #[]⟩),
 (1286, ⟨.type "code", none, .fields [.str "_law_take" 2191, .str "_law_take" 2192, .str "/claim/cut.py" 2193, .int (1097) 0, .int (2) 0, .int (0) 0, .int (0) 0, .int (3) 0, .ref 1281, .bool true, .int (181) 0, .ref 1282, .none, .ref 1283, .ref 1284, .ref 1285, .int (2197) 0, .int (1097) 0, .str "/claim/cut.py" 2198].toArray, #[]⟩),
 (1287, fo (st 96) "_law_take" (.none) (.str "law_pb0469_01" 2178) (.ref 1286)),
 (1289, ⟨.none, none, .fields [].toArray, #[]⟩),
 (1293, ⟨.type "code", none, .fields [.str "_law_one" 2200, .str "_law_one" 2201, .str "/claim/cut.py" 2202, .int (1104) 0, .int (2) 0, .int (0) 0, .int (0) 0, .int (3) 0, .ref 1288, .bool true, .int (181) 0, .ref 1289, .none, .ref 1290, .ref 1291, .ref 1292, .int (2205) 0, .int (1104) 0, .str "/claim/cut.py" 2206].toArray, #[]⟩),
 (1294, fo (st 97) "_law_one" (.none) (.str "law_pb0469_01" 2178) (.ref 1293)),
 (1296, ⟨.none, none, .fields [].toArray, #[]⟩),
 (1298, ⟨.type "code", none, .fields [.str "_law_lot" 2208, .str "_law_lot" 2209, .str "/claim/cut.py" 2210, .int (1106) 0, .int (2) 0, .int (0) 0, .int (0) 0, .int (3) 0, .ref 1295, .bool true, .int (181) 0, .ref 1296, .none, .none, .none, .ref 1297, .int (2211) 0, .int (1106) 0, .str "/claim/cut.py" 2212].toArray, #[]⟩),
 (1299, fo (st 98) "_law_lot" (.none) (.str "law_pb0469_01" 2178) (.ref 1298)),
 (1301, ⟨.none, none, .fields [].toArray, #[]⟩),
 (1303, ⟨.type "code", none, .fields [.str "_law_told" 2214, .str "_law_told" 2215, .str "/claim/cut.py" 2216, .int (1111) 0, .int (3) 0, .int (0) 0, .int (0) 0, .int (3) 0, .ref 1300, .bool true, .int (181) 0, .ref 1301, .none, .none, .none, .ref 1302, .int (2217) 0, .int (1111) 0, .str "/claim/cut.py" 2218].toArray, #[]⟩),
 (1304, fo (st 99) "_law_told" (.none) (.str "law_pb0469_01" 2178) (.ref 1303)),
 (1306, ⟨.none, none, .fields [].toArray, #[]⟩),
 (1308, ⟨.type "code", none, .fields [.str "_law_node" 2220, .str "_law_node" 2221, .str "/claim/cut.py" 2222, .int (1117) 0, .int (1) 0, .int (0) 0, .int (0) 0, .int (3) 0, .ref 1305, .bool true, .int (181) 0, .ref 1306, .none, .none, .none, .ref 1307, .int (2223) 0, .int (1117) 0, .str "/claim/cut.py" 2224].toArray, #[]⟩),
 (1309, fo (st 100) "_law_node" (.none) (.str "law_pb0469_01" 2178) (.ref 1308)),
 (1311, ⟨.none, none, .fields [].toArray, #[]⟩),
 (1315, ⟨.type "code", none, .fields [.str "_law_key" 2226, .str "_law_key" 2227, .str "/claim/cut.py" 2228, .int (1123) 0, .int (2) 0, .int (0) 0, .int (0) 0, .int (3) 0, .ref 1310, .bool true, .int (181) 0, .ref 1311, .none, .ref 1312, .ref 1313, .ref 1314, .int (2234) 0, .int (1123) 0, .str "/claim/cut.py" 2235].toArray, #[]⟩),
 (1316, fo (st 101) "_law_key" (.none) (.str "law_pb0469_01" 2178) (.ref 1315)),
 (1318, ⟨.none, none, .fields [].toArray, #[]⟩),
 (1320, ⟨.type "code", none, .fields [.str "_law_rows" 2237, .str "_law_rows" 2238, .str "/claim/cut.py" 2239, .int (1131) 0, .int (1) 0, .int (0) 0, .int (0) 0, .int (3) 0, .ref 1317, .bool true, .int (181) 0, .ref 1318, .none, .none, .none, .ref 1319, .int (2240) 0, .int (1131) 0, .str "/claim/cut.py" 2241].toArray, #[]⟩),
 (1321, fo (st 102) "_law_rows" (.none) (.str "law_pb0469_01" 2178) (.ref 1320)),
 (1323, ⟨.none, none, .fields [].toArray, #[]⟩),
 (1327, ⟨.type "code", none, .fields [.str "_law_spot" 2243, .str "_law_spot" 2244, .str "/claim/cut.py" 2245, .int (1146) 0, .int (2) 0, .int (0) 0, .int (0) 0, .int (3) 0, .ref 1322, .bool true, .int (181) 0, .ref 1323, .none, .ref 1324, .ref 1325, .ref 1326, .int (2250) 0, .int (1146) 0, .str "/claim/cut.py" 2251].toArray, #[]⟩),
 (1328, fo (st 103) "_law_spot" (.none) (.str "law_pb0469_01" 2178) (.ref 1327)),
 (1330, ⟨.none, none, .fields [].toArray, #[]⟩),
 (1332, ⟨.type "code", none, .fields [.str "_law_do" 2253, .str "_law_do" 2254, .str "/claim/cut.py" 2255, .int (1152) 0, .int (4) 0, .int (0) 0, .int (0) 0, .int (3) 0, .ref 1329, .bool true, .int (181) 0, .ref 1330, .none, .none, .none, .ref 1331, .int (2256) 0, .int (1152) 0, .str "/claim/cut.py" 2257].toArray, #[]⟩),
 (1333, fo (st 104) "_law_do" (.none) (.str "law_pb0469_01" 2178) (.ref 1332)),
 (1335, ⟨.none, none, .fields [].toArray, #[]⟩),
 (1339, ⟨.type "code", none, .fields [.str "_law_change" 2259, .str "_law_change" 2260, .str "/claim/cut.py" 2261, .int (1176) 0, .int (3) 0, .int (0) 0, .int (0) 0, .int (3) 0, .ref 1334, .bool true, .int (181) 0, .ref 1335, .none, .ref 1336, .ref 1337, .ref 1338, .int (2267) 0, .int (1176) 0, .str "/claim/cut.py" 2268].toArray, #[]⟩),
 (1340, fo (st 105) "_law_change" (.none) (.str "law_pb0469_01" 2178) (.ref 1339)),
 (1342, ⟨.none, none, .fields [].toArray, #[]⟩),
 (1346, ⟨.type "code", none, .fields [.str "_law_ran" 2270, .str "_law_ran" 2271, .str "/claim/cut.py" 2272, .int (1182) 0, .int (1) 0, .int (0) 0, .int (0) 0, .int (3) 0, .ref 1341, .bool true, .int (181) 0, .ref 1342, .none, .ref 1343, .ref 1344, .ref 1345, .int (2279) 0, .int (1182) 0, .str "/claim/cut.py" 2280].toArray, #[]⟩),
 (1347, fo (st 106) "_law_ran" (.none) (.str "law_pb0469_01" 2178) (.ref 1346)),
 (1349, ⟨.none, none, .fields [].toArray, #[]⟩),
 (1353, ⟨.type "code", none, .fields [.str "law" 2282, .str "law" 2283, .str "/claim/cut.py" 2284, .int (1189) 0, .int (1) 0, .int (0) 0, .int (0) 0, .int (3) 0, .ref 1348, .bool true, .int (181) 0, .ref 1349, .none, .ref 1350, .ref 1351, .ref 1352, .int (2291) 0, .int (1189) 0, .str "/claim/cut.py" 2292].toArray, #[]⟩),
 (1354, fo (st 107) "law" (.none) (.str "law_pb0469_01" 2178) (.ref 1353)),
 (71, ⟨.type "dict", none, .dict [en p "__module__" 261 (.str "pagebase.nodes" 239), en p "__firstlineno__" 265 (.int (18) 264), en p "row" 272 (.ref 69), en p "__static_attributes__" 273 (.ref 70), en p "__dict__" 275 (.ref 73), en p "__weakref__" 277 (.ref 74), en p "__doc__" 278 (.none)].toArray 4, #[]⟩),
 (72, ⟨.type "type", none, .cls { name := "Node", bases := [.type "object"], mro := [.ref 72, .type "object"], ns := 71, qualname := "Node", hasDict := true, slotNames := [], subclasses := [.ref 86, .ref 526, .ref 550, .ref 576], abstract := false, collection := none, hasDel := false }, #[none, none, some (.str "Node" 254), some (.str "Node" 262), some (.builtin "object.__new__"), some (.bool true)]⟩),
 (85, ⟨.type "dict", none, .dict [en p "__module__" 288 (.str "pagebase.nodes" 239), en p "__firstlineno__" 292 (.int (22) 291), en p "__static_attributes__" 293 (.ref 84), en p "__doc__" 294 (.none)].toArray 2, #[]⟩),
 (86, ⟨.type "type", none, .cls { name := "Expr", bases := [.ref 72], mro := [.ref 86, .ref 72, .type "object"], ns := 85, qualname := "Expr", hasDict := true, slotNames := [], subclasses := [.ref 112, .ref 138, .ref 164, .ref 190, .ref 216, .ref 242, .ref 268, .ref 294, .ref 320, .ref 346, .ref 370, .ref 396, .ref 422, .ref 448, .ref 474, .ref 500], abstract := false, collection := none, hasDel := false }, #[some (.ref 77), none, some (.str "Expr" 281), some (.str "Expr" 289), some (.builtin "object.__new__"), some (.bool true)]⟩),
 (111, ⟨.type "dict", none, .dict [en p "__module__" 304 (.str "pagebase.nodes" 239), en p "__firstlineno__" 308 (.int (24) 307), en p "__init__" 316 (.ref 102), en p "row" 323 (.ref 109), en p "__static_attributes__" 325 (.ref 110), en p "__doc__" 326 (.none)].toArray 2, #[]⟩),
 (112, ⟨.type "type", none, .cls { name := "Literal", bases := [.ref 86], mro := [.ref 112, .ref 86, .ref 72, .type "object"], ns := 111, qualname := "Literal", hasDict := true, slotNames := [], subclasses := [], abstract := false, collection := none, hasDel := false }, #[some (.ref 89), none, some (.str "Literal" 297), some (.str "Literal" 305), some (.builtin "object.__new__"), some (.bool true)]⟩),
 (97, ⟨.none, none, .fields [].toArray, #[]⟩),
 (101, ⟨.type "code", none, .fields [.str "__init__" 309, .str "Literal.__init__" 310, .str "/claim/cut.py" 311, .int (26) 0, .int (2) 0, .int (0) 0, .int (0) 0, .int (3) 0, .ref 96, .bool true, .int (181) 0, .ref 97, .none, .ref 98, .ref 99, .ref 100, .int (314) 0, .int (26) 0, .str "/claim/cut.py" 315].toArray, #[]⟩),
 (102, fo (me 10 0) "Literal.__init__" (.none) (.str "pagebase.nodes" 239) (.ref 101)),
 (447, ⟨.type "dict", none, .dict [en p "__module__" 758 (.str "pagebase.nodes" 239), en p "__firstlineno__" 762 (.int (141) 761), en p "__init__" 771 (.ref 438), en p "row" 778 (.ref 445), en p "__static_attributes__" 781 (.ref 446), en p "__doc__" 782 (.none)].toArray 2, #[]⟩),
 (448, ⟨.type "type", none, .cls { name := "Collate", bases := [.ref 86], mro := [.ref 448, .ref 86, .ref 72, .type "object"], ns := 447, qualname := "Collate", hasDict := true, slotNames := [], subclasses := [], abstract := false, collection := none, hasDel := false }, #[some (.ref 425), none, some (.str "Collate" 751), some (.str "Collate" 759), some (.builtin "object.__new__"), some (.bool true)]⟩),
 (433, ⟨.none, none, .fields [].toArray, #[]⟩),
 (437, ⟨.type "code", none, .fields [.str "__init__" 763, .str "Collate.__init__" 764, .str "/claim/cut.py" 765, .int (143) 0, .int (3) 0, .int (0) 0, .int (0) 0, .int (3) 0, .ref 432, .bool true, .int (181) 0, .ref 433, .none, .ref 434, .ref 435, .ref 436, .int (769) 0, .int (143) 0, .str "/claim/cut.py" 770].toArray, #[]⟩),
 (438, fo (me 23 0) "Collate.__init__" (.none) (.str "pagebase.nodes" 239) (.ref 437)),
 (525, ⟨.type "dict", none, .dict [en p "__module__" 867 (.str "pagebase.nodes" 239), en p "__firstlineno__" 871 (.int (169) 870), en p "__init__" 884 (.ref 516), en p "row" 892 (.ref 523), en p "__static_attributes__" 899 (.ref 524), en p "__doc__" 900 (.none)].toArray 2, #[]⟩),
 (526, ⟨.type "type", none, .cls { name := "Core", bases := [.ref 72], mro := [.ref 526, .ref 72, .type "object"], ns := 525, qualname := "Core", hasDict := true, slotNames := [], subclasses := [], abstract := false, collection := none, hasDel := false }, #[some (.ref 503), none, some (.str "Core" 860), some (.str "Core" 868), some (.builtin "object.__new__"), some (.bool true)]⟩),
 (549, ⟨.type "dict", none, .dict [en p "__module__" 910 (.str "pagebase.nodes" 239), en p "__firstlineno__" 914 (.int (182) 913), en p "__init__" 922 (.ref 542), en p "row" 928 (.ref 547), en p "__static_attributes__" 930 (.ref 548), en p "__doc__" 931 (.none)].toArray 2, #[]⟩),
 (550, ⟨.type "type", none, .cls { name := "Values", bases := [.ref 72], mro := [.ref 550, .ref 72, .type "object"], ns := 549, qualname := "Values", hasDict := true, slotNames := [], subclasses := [], abstract := false, collection := none, hasDel := false }, #[some (.ref 529), none, some (.str "Values" 903), some (.str "Values" 911), some (.builtin "object.__new__"), some (.bool true)]⟩),
 (537, ⟨.none, none, .fields [].toArray, #[]⟩),
 (541, ⟨.type "code", none, .fields [.str "__init__" 915, .str "Values.__init__" 916, .str "/claim/cut.py" 917, .int (184) 0, .int (2) 0, .int (0) 0, .int (0) 0, .int (3) 0, .ref 536, .bool true, .int (181) 0, .ref 537, .none, .ref 538, .ref 539, .ref 540, .int (920) 0, .int (184) 0, .str "/claim/cut.py" 921].toArray, #[]⟩),
 (542, fo (me 27 0) "Values.__init__" (.none) (.str "pagebase.nodes" 239) (.ref 541)),
 (575, ⟨.type "dict", none, .dict [en p "__module__" 941 (.str "pagebase.nodes" 239), en p "__firstlineno__" 945 (.int (189) 944), en p "__init__" 955 (.ref 566), en p "row" 962 (.ref 573), en p "__static_attributes__" 966 (.ref 574), en p "__doc__" 967 (.none)].toArray 2, #[]⟩),
 (576, ⟨.type "type", none, .cls { name := "Compound", bases := [.ref 72], mro := [.ref 576, .ref 72, .type "object"], ns := 575, qualname := "Compound", hasDict := true, slotNames := [], subclasses := [], abstract := false, collection := none, hasDel := false }, #[some (.ref 553), none, some (.str "Compound" 934), some (.str "Compound" 942), some (.builtin "object.__new__"), some (.bool true)]⟩),
 (561, ⟨.none, none, .fields [].toArray, #[]⟩),
 (565, ⟨.type "code", none, .fields [.str "__init__" 946, .str "Compound.__init__" 947, .str "/claim/cut.py" 948, .int (191) 0, .int (4) 0, .int (0) 0, .int (0) 0, .int (3) 0, .ref 560, .bool true, .int (181) 0, .ref 561, .none, .ref 562, .ref 563, .ref 564, .int (953) 0, .int (191) 0, .str "/claim/cut.py" 954].toArray, #[]⟩),
 (566, fo (me 28 0) "Compound.__init__" (.none) (.str "pagebase.nodes" 239) (.ref 565)),
 (758, ⟨.type "dict", none, .dict [en p "__module__" 1165 (.str "pagebase.records" 1156), en p "__firstlineno__" 1169 (.int (334) 1168), en p "__init__" 1178 (.ref 735), en p "count" 1185 (.ref 742), en p "collation" 1193 (.ref 749), en p "is_descending" 1201 (.ref 756), en p "__static_attributes__" 1204 (.ref 757), en p "__dict__" 1206 (.ref 760), en p "__weakref__" 1208 (.ref 761), en p "__doc__" 1209 (.none)].toArray 4, #[]⟩),
 (759, ⟨.type "type", none, .cls { name := "KeyInfo", bases := [.type "object"], mro := [.ref 759, .type "object"], ns := 758, qualname := "KeyInfo", hasDict := true, slotNames := [], subclasses := [], abstract := false, collection := none, hasDel := false }, #[none, none, some (.str "KeyInfo" 1158), some (.str "KeyInfo" 1166), some (.builtin "object.__new__"), some (.bool true)]⟩),
 (730, ⟨.none, none, .fields [].toArray, #[]⟩),
 (734, ⟨.type "code", none, .fields [.str "__init__" 1170, .str "KeyInfo.__init__" 1171, .str "/claim/cut.py" 1172, .int (336) 0, .int (3) 0, .int (0) 0, .int (0) 0, .int (3) 0, .ref 729, .bool true, .int (181) 0, .ref 730, .none, .ref 731, .ref 732, .ref 733, .int (1176) 0, .int (336) 0, .str "/claim/cut.py" 1177].toArray, #[]⟩),
 (735, fo (me 53 0) "KeyInfo.__init__" (.none) (.str "pagebase.records" 1156) (.ref 734)),
 (1172, ⟨.type "dict", none, .dict [en p "__module__" 1752 (.str "pagebase.code_operators" 1729), en p "__firstlineno__" 1756 (.int (846) 1755), en p "__init__" 1764 (.ref 1062), en p "expression" 1775 (.ref 1070), en p "other" 1784 (.ref 1077), en p "row_of" 1794 (.ref 1084), en p "column" 1806 (.ref 1091), en p "binary" 1819 (.ref 1098), en p "compared" 1834 (.ref 1105), en p "between" 1846 (.ref 1112), en p "negate" 1855 (.ref 1119), en p "is_null" 1866 (.ref 1126), en p "case" 1881 (.ref 1133), en p "in_list" 1898 (.ref 1140), en p "jump_if" 1910 (.ref 1148), en p "jump_unless" 1922 (.ref 1156), en p "jump_compared" 1937 (.ref 1163), en p "jump_null" 1948 (.ref 1170), en p "__static_attributes__" 1951 (.ref 1171), en p "__dict__" 1953 (.ref 1174), en p "__weakref__" 1955 (.ref 1175), en p "__doc__" 1956 (.none)].toArray 4, #[]⟩),
 (1173, ⟨.type "type", none, .cls { name := "OperatorCoder", bases := [.type "object"], mro := [.ref 1173, .type "object"], ns := 1172, qualname := "OperatorCoder", hasDict := true, slotNames := [], subclasses := [], abstract := false, collection := none, hasDel := false }, #[none, none, some (.str "OperatorCoder" 1745), some (.str "OperatorCoder" 1753), some (.builtin "object.__new__"), some (.bool true)]⟩),
 (1057, ⟨.none, none, .fields [].toArray, #[]⟩),
 (1061, ⟨.type "code", none, .fields [.str "__init__" 1757, .str "OperatorCoder.__init__" 1758, .str "/claim/cut.py" 1759, .int (848) 0, .int (2) 0, .int (0) 0, .int (0) 0, .int (3) 0, .ref 1056, .bool true, .int (181) 0, .ref 1057, .none, .ref 1058, .ref 1059, .ref 1060, .int (1762) 0, .int (848) 0, .str "/claim/cut.py" 1763].toArray, #[]⟩),
 (1062, fo (me 90 0) "OperatorCoder.__init__" (.none) (.str "pagebase.code_operators" 1729) (.ref 1061)),
 (1063, ⟨.type "tuple", none, .seq [.none].toArray 0, #[]⟩),
 (1065, ⟨.none, none, .fields [].toArray, #[]⟩),
 (1069, ⟨.type "code", none, .fields [.str "expression" 1765, .str "OperatorCoder.expression" 1766, .str "/claim/cut.py" 1767, .int (852) 0, .int (3) 0, .int (0) 0, .int (0) 0, .int (3) 0, .ref 1064, .bool true, .int (181) 0, .ref 1065, .none, .ref 1066, .ref 1067, .ref 1068, .int (1773) 0, .int (852) 0, .str "/claim/cut.py" 1774].toArray, #[]⟩),
 (1070, fo (me 90 1) "OperatorCoder.expression" (.ref 1063) (.str "pagebase.code_operators" 1729) (.ref 1069)),
 (1079, ⟨.none, none, .fields [].toArray, #[]⟩),
 (1083, ⟨.type "code", none, .fields [.str "row_of" 1785, .str "OperatorCoder.row_of" 1786, .str "/claim/cut.py" 1787, .int (882) 0, .int (2) 0, .int (0) 0, .int (0) 0, .int (3) 0, .ref 1078, .bool true, .int (181) 0, .ref 1079, .none, .ref 1080, .ref 1081, .ref 1082, .int (1792) 0, .int (882) 0, .str "/claim/cut.py" 1793].toArray, #[]⟩),
 (1084, fo (me 90 3) "OperatorCoder.row_of" (.none) (.str "pagebase.code_operators" 1729) (.ref 1083)),
 (1268, ⟨.type "dict", none, .dict [en p "__module__" 2059 (.str "pagebase.program" 1959), en p "__firstlineno__" 2063 (.int (1022) 2062), en p "__init__" 2070 (.ref 1193), en p "add" 2085 (.ref 1201), en p "here" 2092 (.ref 1208), en p "label" 2100 (.ref 1215), en p "place" 2108 (.ref 1222), en p "register" 2118 (.ref 1230), en p "cursor" 2126 (.ref 1237), en p "slot" 2133 (.ref 1244), en p "value" 2142 (.ref 1251), en p "null" 2152 (.ref 1259), en p "finish" 2161 (.ref 1266), en p "__static_attributes__" 2170 (.ref 1267), en p "__dict__" 2172 (.ref 1270), en p "__weakref__" 2174 (.ref 1271), en p "__doc__" 2175 (.none)].toArray 4, #[]⟩),
 (1269, ⟨.type "type", none, .cls { name := "Program", bases := [.type "object"], mro := [.ref 1269, .type "object"], ns := 1268, qualname := "Program", hasDict := true, slotNames := [], subclasses := [], abstract := false, collection := none, hasDel := false }, #[none, none, some (.str "Program" 2052), some (.str "Program" 2060), some (.builtin "object.__new__"), some (.bool true)]⟩),
 (1188, ⟨.none, none, .fields [].toArray, #[]⟩),
 (1192, ⟨.type "code", none, .fields [.str "__init__" 2064, .str "Program.__init__" 2065, .str "/claim/cut.py" 2066, .int (1024) 0, .int (1) 0, .int (0) 0, .int (0) 0, .int (3) 0, .ref 1187, .bool true, .int (181) 0, .ref 1188, .none, .ref 1189, .ref 1190, .ref 1191, .int (2068) 0, .int (1024) 0, .str "/claim/cut.py" 2069].toArray, #[]⟩),
 (1193, fo (me 93 0) "Program.__init__" (.none) (.str "pagebase.program" 1959) (.ref 1192)),
 (1194, ⟨.type "tuple", none, .seq [.int (0) 2071, .int (0) 2072, .int (0) 2073, .none].toArray 0, #[]⟩),
 (1196, ⟨.none, none, .fields [].toArray, #[]⟩),
 (1200, ⟨.type "code", none, .fields [.str "add" 2074, .str "Program.add" 2075, .str "/claim/cut.py" 2076, .int (1034) 0, .int (6) 0, .int (0) 0, .int (0) 0, .int (3) 0, .ref 1195, .bool true, .int (181) 0, .ref 1196, .none, .ref 1197, .ref 1198, .ref 1199, .int (2083) 0, .int (1034) 0, .str "/claim/cut.py" 2084].toArray, #[]⟩),
 (1201, fo (me 93 1) "Program.add" (.ref 1194) (.str "pagebase.program" 1959) (.ref 1200)),
 (1210, ⟨.none, none, .fields [].toArray, #[]⟩),
 (1214, ⟨.type "code", none, .fields [.str "label" 2093, .str "Program.label" 2094, .str "/claim/cut.py" 2095, .int (1041) 0, .int (1) 0, .int (0) 0, .int (0) 0, .int (3) 0, .ref 1209, .bool true, .int (181) 0, .ref 1210, .none, .ref 1211, .ref 1212, .ref 1213, .int (2098) 0, .int (1041) 0, .str "/claim/cut.py" 2099].toArray, #[]⟩),
 (1215, fo (me 93 3) "Program.label" (.none) (.str "pagebase.program" 1959) (.ref 1214)),
 (1217, ⟨.none, none, .fields [].toArray, #[]⟩),
 (1221, ⟨.type "code", none, .fields [.str "place" 2101, .str "Program.place" 2102, .str "/claim/cut.py" 2103, .int (1046) 0, .int (2) 0, .int (0) 0, .int (0) 0, .int (3) 0, .ref 1216, .bool true, .int (181) 0, .ref 1217, .none, .ref 1218, .ref 1219, .ref 1220, .int (2106) 0, .int (1046) 0, .str "/claim/cut.py" 2107].toArray, #[]⟩),
 (1222, fo (me 93 4) "Program.place" (.none) (.str "pagebase.program" 1959) (.ref 1221)),
 (1223, ⟨.type "tuple", none, .seq [.int (1) 2109].toArray 0, #[]⟩),
 (1225, ⟨.none, none, .fields [].toArray, #[]⟩),
 (1229, ⟨.type "code", none, .fields [.str "register" 2110, .str "Program.register" 2111, .str "/claim/cut.py" 2112, .int (1053) 0, .int (2) 0, .int (0) 0, .int (0) 0, .int (3) 0, .ref 1224, .bool true, .int (181) 0, .ref 1225, .none, .ref 1226, .ref 1227, .ref 1228, .int (2116) 0, .int (1053) 0, .str "/claim/cut.py" 2117].toArray, #[]⟩),
 (1230, fo (me 93 5) "Program.register" (.ref 1223) (.str "pagebase.program" 1959) (.ref 1229)),
 (1232, ⟨.none, none, .fields [].toArray, #[]⟩),
 (1236, ⟨.type "code", none, .fields [.str "cursor" 2119, .str "Program.cursor" 2120, .str "/claim/cut.py" 2121, .int (1058) 0, .int (1) 0, .int (0) 0, .int (0) 0, .int (3) 0, .ref 1231, .bool true, .int (181) 0, .ref 1232, .none, .ref 1233, .ref 1234, .ref 1235, .int (2124) 0, .int (1058) 0, .str "/claim/cut.py" 2125].toArray, #[]⟩),
 (1237, fo (me 93 6) "Program.cursor" (.none) (.str "pagebase.program" 1959) (.ref 1236)),
 (1261, ⟨.none, none, .fields [].toArray, #[]⟩),
 (1265, ⟨.type "code", none, .fields [.str "finish" 2153, .str "Program.finish" 2154, .str "/claim/cut.py" 2155, .int (1076) 0, .int (1) 0, .int (0) 0, .int (0) 0, .int (3) 0, .ref 1260, .bool true, .int (181) 0, .ref 1261, .none, .ref 1262, .ref 1263, .ref 1264, .int (2159) 0, .int (1076) 0, .str "/claim/cut.py" 2160].toArray, #[]⟩),
 (1266, fo (me 93 10) "Program.finish" (.none) (.str "pagebase.program" 1959) (.ref 1265))]
noncomputable def az : List Addr := [3, 1178, 602, 604, 605, 662, 666, 667, 675, 677, 681, 682, 765, 767, 768, 770, 774, 775, 777, 781, 782, 930, 934, 935, 999, 1001, 1005, 1006, 1008, 1012, 1013, 1015, 1019, 1020, 1275, 1279, 1280, 1282, 1286, 1287, 1289, 1293, 1294, 1296, 1298, 1299, 1301, 1303, 1304, 1306, 1308, 1309, 1311, 1315, 1316, 1318, 1320, 1321, 1323, 1327, 1328, 1330, 1332, 1333, 1335, 1339, 1340, 1342, 1346, 1347, 1349, 1353, 1354, 71, 72, 85, 86, 111, 112, 97, 101, 102, 447, 448, 433, 437, 438, 525, 526, 549, 550, 537, 541, 542, 575, 576, 561, 565, 566, 758, 759, 730, 734, 735, 1172, 1173, 1057, 1061, 1062, 1063, 1065, 1069, 1070, 1079, 1083, 1084, 1268, 1269, 1188, 1192, 1193, 1194, 1196, 1200, 1201, 1210, 1214, 1215, 1217, 1221, 1222, 1223, 1225, 1229, 1230, 1232, 1236, 1237, 1261, 1265, 1266]
theorem az_eq (p : Params) : az = (Kf p).map (·.1) := by kernel_rfl
noncomputable def qv : Program := { P with main := { P.main with body := P.main.body.drop 107 } }
noncomputable def loose : List Str := P.boundNames.filter fun n => n != "law"
noncomputable def looks (w : World) (S : SharedT) :=
 ((staticsOk [] (boot_heap w.params) S.abs.heap && namesBound P S.abs.heap && gensDone S.abs && laidKept (boot_heap w.params) S.abs.heap && Nat.ble S.n 1355 && Nat.ble 1355 S.n && (az.all fun a => Nat.blt a S.n)),
   openSeen qv loose [] (fun _ => true) true S.abs, az.map S.tree.get, S.toks)
noncomputable def looked (w : World) := (true, openGood qv loose, (Kf w.params).map (fun x => some x.2), 2294)
noncomputable abbrev fastStep (w : World) := PySem.W.Fast.tw10156331382660048174 (PySem.W.Fast.tw11892475500146522536 PySem.W.Fast.tw14364793385576792824) P w
noncomputable def looksF (w : World) (S : SharedT) :=
 ((staticsOk [] (boot_heap w.params) S.abs.heap && namesBound P S.abs.heap && gensDone S.abs && laidKept (boot_heap w.params) S.abs.heap && Nat.ble S.n 1355 && Nat.ble 1355 S.n && (az.all fun a => Nat.blt a S.n)),
   PySem.W.Fast.tw4187177175401517315 qv loose [] (fun _ => true) true S.abs, az.map S.tree.get, S.toks)
theorem looks_eq : looks = looksF := by
 unfold looks looksF
 rw [PySem.W.Fast.te4187177175401517315]
theorem runF : ∀ w : World, (fun os => (drive through (stepOk 11 (some (.ref 6))) (fastStep (w.withFollow "special-get-raises" false)) 12000 (S0 (w.withFollow "special-get-raises" false) os) (topStub P)).map (looksF (w.withFollow "special-get-raises" false))) = fun _ => some (looked (w.withFollow "special-get-raises" false)) := fun w => by kernel_rfl
theorem runT : ∀ w : World, (fun os => (drive through (stepOk 11 (some (.ref 6))) (fastStep (w.withFollow "special-get-raises" true)) 12000 (S0 (w.withFollow "special-get-raises" true) os) (topStub P)).map (looksF (w.withFollow "special-get-raises" true))) = fun _ => some (looked (w.withFollow "special-get-raises" true)) := fun w => by kernel_rfl
theorem run (w : World) : (fun os => (drive through (stepOk 11 (some (.ref 6))) (fastStep w) 12000 (S0 w os) (topStub P)).map (looksF w)) = fun _ => some (looked w) :=
 byRow2 "special-get-raises" (P := fun w => (fun os => (drive through (stepOk 11 (some (.ref 6))) (fastStep w) 12000 (S0 w os) (topStub P)).map (looksF w)) = fun _ => some (looked w)) runF runT w
end Mine
namespace Mine
noncomputable def Yf (s : Shared) : List (Option Obj) × Nat × Nat := (az.map s.heap.get?, s.heap.objs.size, s.toks)
noncomputable def Ya (w : World) : List (Option Obj) × Nat × Nat := ((Kf w.params).map (fun x => some x.2), 1355, 2294)
theorem size_of (p : Params) : ((boot_heap p).isNs mainGlobals && (⟨[]⟩ : Array GenState).size == 0, (boot_heap p).objs.size, (boot_heap p).nsMap mainGlobals "__annotations__") = (true, 11, some (.ref 6)) := by kernel_rfl
theorem noImports : importedModules P.main.body = [] := by refine rG PySem.W.Fast.te5923862056798008813 ?_; kernel_rfl
theorem opens : opening P = plainProg P.main.scope.names := by kernel_rfl
theorem fences (s : Shared) : fenceModules? P s = some s := by kernel_rfl
theorem alive_all (p : Params) : ((Kf p).map fun x => alive x.2) = (Kf p).map fun x => some x.2 := by kernel_rfl
theorem get_all {S : SharedT} : ∀ {l : List Addr} {os : List Obj}, (l.all fun a => Nat.blt a S.n) = true → l.map S.tree.get = os.map some → l.map S.abs.heap.get? = os.map alive
 | [], [] => fun _ _ => rfl
 | [], _ :: _ => by intro _ h; injection h
 | _ :: _, [] => by intro _ h; injection h
 | a :: l, o :: os => by
  intro hl h
  simp only [List.all_cons, Bool.and_eq_true] at hl
  simp only [List.map_cons, List.cons.injEq] at h ⊢
  exact ⟨abs_get (Nat.le_of_ble_eq_true hl.1) h.1, get_all hl.2 h.2⟩
theorem S0_abs (w : World) (os : OsState) : (S0 w os).abs = ⟨boot_heap w.params, ⟨[]⟩, boot_drawn, boot_toks, os⟩ := by
 unfold S0 SharedT.abs
 dsimp only
 (refine rG (boot_abs ..) ?_; rfl)
theorem left : LeftO P qv loose (fun _ => true) Yf Ya 12000 := fun w => by
 obtain ⟨⟨h, gs, d, k, os⟩, e, e'⟩ := Option.map_eq_some_iff.mp (boot_open (p := P) (N := 12000) opens (by decide +kernel) fences w)
 (refine x0a4 (by simpa using e' : h = boot_heap w.params ∧ gs = ⟨[]⟩ ∧ d = boot_drawn ∧ k = boot_toks) fun e90 e91 e92 e93 => ?_; subst e90 e91 e92 e93)
 refine x0a3 (by simpa only [Prod.mk.injEq] using size_of w.params : _ ∧ _ ∧ _) fun z1 z2 z3 => ?_
 refine x1a2 (Option.map_eq_some_iff.mp (congrFun (run w) os)) fun S r1 r2 => ?_
 rw [← looks_eq] at r2
 have r3 := drive_spec (tb := treeTable) (p := P) (w := w) 12000 _ _ _ (by refine rG (step_eq ..) ?_; exact r1)
 rw [S0_abs] at r3
 unfold looks looked at r2
 refine x0a4 (by simpa only [Prod.mk.injEq] using r2 : _ ∧ _ ∧ _ ∧ _) fun q1 q2 q3 q4 => ?_
 simp only [Bool.and_eq_true] at q1
 obtain ⟨⟨⟨⟨⟨⟨a1, a2⟩, a3⟩, a4⟩, a5⟩, a6⟩, a7⟩ := q1
 have hn : S.n = 1355 := Nat.le_antisymm (Nat.le_of_ble_eq_true a5) (Nat.le_of_ble_eq_true a6)
 have t : topFrom treeTable P w 12000 ⟨boot_heap w.params, ⟨[]⟩, boot_drawn, boot_toks, os⟩ = some S.abs := by
  unfold topFrom
  dsimp only
  (refine rG z1 ?_; refine rG z2 ?_; refine rG z3 ?_; refine rG noImports ?_)
  dsimp only
  refine rG r3 ?_
  show (match staticsOk [] (boot_heap w.params) S.abs.heap && namesBound P S.abs.heap && gensDone S.abs && laidKept (boot_heap w.params) S.abs.heap with | true => some S.abs | false => none) = _
  (refine rG a1 ?_; refine rG a2 ?_; refine rG a3 ?_; refine rG a4 ?_)
  rfl
 unfold openEnds
 (refine rG e ?_; refine rG (Option.bind_some ..) ?_; refine rG t ?_; refine rG (Option.map_some ..) ?_; refine rG noImports ?_; refine rG q2 ?_)
 have y1 : az.map S.abs.heap.get? = (Kf w.params).map fun x => some x.2 := by
  have := get_all (S := S) (l := az) (os := (Kf w.params).map (·.2)) a7 (by (refine rG q3 ?_; refine rG List.map_map ?_); rfl)
  rw [this, List.map_map]
  exact alive_all w.params
 have y2 : S.abs.heap.objs.size = 1355 := by
  show (absHeap S.tree S.n S.life).objs.size = _
  (refine rG (absHeap_size ..) ?_; refine rG hn ?_; rfl)
 have y3 : S.abs.toks = 2294 := q4
 unfold Yf Ya
 (refine rG y1 ?_; refine rG y2 ?_; refine rG y3 ?_; rfl)
end Mine
end
section
set_option tactic.hygienic true
open PySem PySem.W PySem.W.X PyProof.Rows
namespace Mine
noncomputable def dLaw : DefRec := { name := "law", params := fdArgs (st 107), body := fdBody (st 107), scope := fdScope (st 107), pos := ⟨1189, 0, 1199, 60⟩ }
theorem hdef : defOf qv L.row.name = some (dLaw, []) := by kernel_rfl
theorem hp : L.row.prog.theDef L.row.name = some (dLaw.params, dLaw.body, dLaw.scope) := by kernel_rfl
theorem hk : kwWritten? dLaw.params.kwonlyargs dLaw.params.kw_defaults = some [] := by kernel_rfl
theorem hopen : (chainsOk qv && opensWell L.row.prog && (frees L.row.toRowW && L.row.within.isEmpty)) = true := by kernel_rfl
noncomputable def CallOk : Prop := ∀ (w : World) (s : Shared) (vs : List Value) (ns : List Int) (mean : ExcName → Option Value) (mg mb : Str → Option Value),
 Top qv (looseW qv loose) mean mg mb s.heap → (Kf w.params).In s.heap → s.gens = #[] → s.heap.objs.size = 1356 →
 s.heap.get? 1355 = some { cls := .type "list", data := .seq vs.toArray } → IntsAre vs ns → ns.length ≤ 63 → (PyData.list (ns.map PyData.int)).layable0 = true →
 wpAny (model P w) callerA (call (.ref 1354) [.ref 1355]) (fun v s' => v = .bool true ∧ OldK s.heap s'.heap ∧ s'.os = s.os ∧ s'.gens = #[]) (fun _ _ => False) s
theorem nsIn_law (p : Params) : nsIn (Kf p) mainGlobals "law" = some (some (.ref 1354)) := by kernel_rfl
theorem holds_of (H : CallOk) : L.Holds := by
 refine holds_law ws fun k1 => ?_
 refine holds_openX (q := qv) (loose := loose) (Xt := fun _ => true) (XP := fun _ _ => True) (Yf := Yf) (Ya := Ya) (d := dLaw) (kwd := []) (N := 12000) left (fun _ _ => trivial) (fun _ _ _ _ _ => trivial) hdef hp hk (fun s _ => recFacts_nil rfl) rfl k1 hopen ⟨rfl, rfl, rfl, rfl, rfl, by decide +kernel⟩ ?hw ?hc
 case hw => w_witness2
 case hc =>
  intro w s₀ s₁ mg mb G y fa o pm cd doc dV kV ho hd hcd hD hmg hg args vals as L hpre hlay hrd hwl hlo
  wrow_args hpre hlay hrd hwl hlo
  rename_i ns _ _ hL0 _ _ _ _ aL vs _ hL _ _ _ hI _ hlen _
  have y1 : az.map s₀.heap.get? = (Kf w.params).map fun x => some x.2 := congrArg (fun x => x.1) y
  have y2 : s₀.heap.objs.size = 1355 := congrArg (fun x => x.2.1) y
  have X : (Kf w.params).In s₁.heap := InK.keeps w _ _ (InK.of (K := Kf) az_eq w s₀ y1) L.keeps
  obtain ⟨e1, e2⟩ := script_at L
  rw [y2] at e1 e2
  subst e1
  have hobj := script_obj L hL
  have hf : fa = 1354 := by
   have := mg_of X G.T.g (nsIn_law w.params)
   have hm : mg dLaw.name = some (.ref 1354) := this
   rw [hmg] at hm
   cases hm; rfl
  subst hf
  refine wpAny_mono (H w s₁ vs ns _ mg mb G.T X hg e2 hobj hI (by omega) hL0) (fun v s' q => ?_) (fun _ _ q => q.elim)
  obtain ⟨rfl, q1, q2, q3⟩ := q
  exact ⟨.inl ⟨_, _, [], rfl, fun _ => rfl, ReadsW.bool true, by kernel_rfl, fun _ => ⟨List.nodup_nil, fun _ hm => (nomatch hm)⟩⟩, q1, q2, by rw [q3]; exact AllBare.empty⟩
end Mine
end
section
open PySem PySem.W PySem.W.X PyProof.Rows
namespace Mine
structure CloD where
 name : Str
 qual : Str
 params : Arguments
 body : FuncBody
 scope : Scope
 deriving Inhabited
noncomputable def CloD.fd (d : CloD) (cl : List (Str × Addr)) (doc pm code ct : Value) : FuncData :=
 {name := d.name, qualname := d.qual, params := d.params, body := d.body, scope := d.scope, globals := 3, closure := cl, defaults := .none, kwdefaults := .none, doc := doc, pyModule := pm, annotations := none, code := code, closureTuple := ct, builtins := 0 }
inductive MV where
 | none
 | bool (b : Bool)
 | int (i : Int)
 | str (s : Str)
 | raw (v : Value)
 | tup (l : List MV)
 | lst (l : List MV)
 | obj (C : Addr) (ns : List Str) (vs : List MV)
 | fz (m : MV)
 | clo (d : CloD) (ns : List Str) (vs : List MV)
 | rng (n : Nat)
 deriving Inhabited
noncomputable abbrev FM := Addr → Option Obj
inductive CodeF (F : FM) (cd : Value) (q : Str) : Prop
 | mk (c : Addr) (o : Obj) (vs : Array Value) (t : Tok) (e : cd = .ref c) (h : F c = some o) (hd : o.data = .fields vs) (hq : vs[1]? = some (.str q t)) : CodeF F cd q
noncomputable def CellsF (F : FM) : List Str → List (Str × Addr) → List Value → Prop
 | [], cl, us => cl = [] ∧ us = []
 | n :: ns, cl, us => ∃ a o u cl' us', cl = (n, a) :: cl' ∧ us = u :: us' ∧ F a = some o ∧ o.data = .cell (some u) ∧ CellsF F ns cl' us'
inductive attrsAre (F : FM) (d : Addr) (ns : List Str) (us : List Value) : Prop
 | mk (od : Obj) (es : Array DictEntry) (ep : Nat) (h : F d = some od) (hc : od.cls = .type "dict") (hd : od.data = .dict es ep) (hk : StrKeys es) (hf : ∀ n, nsFind es n = (ns.zip us).lookup n) (hl : us.length = ns.length) : attrsAre F d ns us
inductive SeqR (F : FM) (T : String) (q : List Value → Prop) (v : Value) : Prop
 | mk (a : Addr) (o : Obj) (vs : Array Value) (n : Nat) (e : v = .ref a) (h : F a = some o) (hc : o.cls = .type T) (hd : o.data = .seq vs n) (hq : q vs.toList) : SeqR F T q v
inductive ObjR (F : FM) (C : Addr) (ns : List Str) (q : List Value → Prop) (v : Value) : Prop
 | mk (a d : Addr) (us : List Value) (e : v = .ref a) (h : F a = some { cls := .ref C, dict := some d, data := .plain }) (ha : attrsAre F d ns us) (hq : q us) : ObjR F C ns q v
inductive CloR (F : FM) (d : CloD) (ns : List Str) (q : List Value → Prop) (v : Value) : Prop
 | mk (a : Addr) (o : Obj) (cl : List (Str × Addr)) (us : List Value) (doc pm code ct : Value) (e : v = .ref a) (h : F a = some o) (hc : o.cls = .type "function") (hd : o.data = .func (d.fd cl doc pm code ct)) (hk : CodeF F code d.qual) (hl : CellsF F ns cl us) (hq : q us) : CloR F d ns q v
inductive RngR (F : FM) (n : Nat) (v : Value) : Prop
 | mk (a : Addr) (t u w : Tok) (e : v = .ref a) (h : F a = some { cls := .type "range", dict := none, data := .fields #[.int 0 t, .int n u, .int 1 w], slots := #[] }) : RngR F n v
mutual
noncomputable def VR (F : FM) : MV → Value → Prop
 | .none, v => v = .none
 | .bool b, v => v = .bool b
 | .int i, v => ∃ t, v = .int i t
 | .str s, v => ∃ t, v = .str s t
 | .raw x, v => v = x
 | .tup l, v => SeqR F "tuple" (VRs F l) v
 | .lst l, v => SeqR F "list" (VRs F l) v
 | .obj C ns l, v => ObjR F C ns (VRs F l) v
 | .fz _, _ => False
 | .clo d ns l, v => CloR F d ns (VRs F l) v
 | .rng n, v => RngR F n v
noncomputable def VRs (F : FM) : List MV → List Value → Prop
 | [], vs => vs = []
 | m :: l, vs => ∃ v r, vs = v :: r ∧ VR F m v ∧ VRs F l r
end
noncomputable def FM.le (F G : FM) : Prop := ∀ a o, F a = some o → G a = some o
theorem FM.le.refl (F : FM) : F.le F := fun _ _ e => e
theorem FM.le.trans {F G I : FM} (x : F.le G) (y : G.le I) : F.le I := fun a o e => y a o (x a o e)
theorem attrsAre.mono {F G : FM} (k : F.le G) {d ns us} : attrsAre F d ns us → attrsAre G d ns us :=
 fun h => by obtain ⟨od, es, ep, e, r1, r2, r3, r4, r5⟩ := h; exact ⟨od, es, ep, k _ _ e, r1, r2, r3, r4, r5⟩
theorem CodeF.mono {F G : FM} (k : F.le G) {cd q} : CodeF F cd q → CodeF G cd q := fun h => by obtain ⟨c, o, vs, t, e, g, r1, r2⟩ := h; exact ⟨c, o, vs, t, e, k _ _ g, r1, r2⟩
theorem CellsF.mono {F G : FM} (k : F.le G) : ∀ {ns cl us}, CellsF F ns cl us → CellsF G ns cl us
 | [] => by rename_i _ _; intro h; exact h
 | _ :: _ => by rename_i _ _; intro h; obtain ⟨a, o, u, cl', us', e1, e2, e3, e4, e5⟩ := h; exact ⟨a, o, u, cl', us', e1, e2, (k _ _ e3), e4, (e5.mono k)⟩
mutual
theorem VR.mono {F G : FM} (k : F.le G) : ∀ (m : MV) {v : Value}, VR F m v → VR G m v
 | .none, _, h | .bool _, _, h | .int _, _, h | .str _, _, h | .raw _, _, h => by simpa only [VR] using h
 | .fz _, _, h => by simp only [VR] at h
 | .clo d ns l, _, h => by
  simp only [VR] at h ⊢
  obtain ⟨a, o, cl, us, doc, pm, code, ct, e, e2, r1, r2, r3, r4, r5⟩ := h
  exact ⟨a, o, cl, us, doc, pm, code, ct, e, k _ _ e2, r1, r2, r3.mono k, r4.mono k, VRs.mono k l r5⟩
 | .rng n, _, h => by
  simp only [VR] at h ⊢
  obtain ⟨a, t, u, w, e, e2⟩ := h
  exact ⟨a, t, u, w, e, k _ _ e2⟩
 | .tup l, _, h => by
  simp only [VR] at h ⊢
  obtain ⟨a, o, vs, n, e, e2, r1, r2, r3⟩ := h
  exact ⟨a, o, vs, n, e, k _ _ e2, r1, r2, VRs.mono k l r3⟩
 | .lst l, _, h => by
  simp only [VR] at h ⊢
  obtain ⟨a, o, vs, n, e, e2, r1, r2, r3⟩ := h
  exact ⟨a, o, vs, n, e, k _ _ e2, r1, r2, VRs.mono k l r3⟩
 | .obj C ns l, _, h => by
  simp only [VR] at h ⊢
  obtain ⟨a, d, us, e, e2, r1, r2⟩ := h
  exact ⟨a, d, us, e, k _ _ e2, r1.mono k, VRs.mono k l r2⟩
theorem VRs.mono {F G : FM} (k : F.le G) : ∀ (l : List MV) {vs : List Value}, VRs F l vs → VRs G l vs
 | [] => by rename_i _; intro h; simpa only [VRs] using h
 | m :: l => by
  rename_i _
  intro h
  simp only [VRs] at h ⊢
  refine x2a3 h fun v r e h1 h2 => ?_
  exact i2a3 v r e (VR.mono k m h1) (VRs.mono k l h2)
end
theorem VRs.nil {F : FM} : VRs F [] [] := by simp only [VRs]
theorem VRs.cons {F : FM} {m l v vs} (h : VR F m v) (r : VRs F l vs) : VRs F (m :: l) (v :: vs) := by
 simp only [VRs]; exact i2a3 v vs rfl h r
theorem VRs.uncons {F : FM} {m l vs} (h : VRs F (m :: l) vs) : ∃ v r, vs = v :: r ∧ VR F m v ∧ VRs F l r := by simpa only [VRs] using h
theorem VRs.len {F : FM} : ∀ {l : List MV} {vs : List Value}, VRs F l vs → vs.length = l.length
 | [] => by rename_i _; intro h; simp only [VRs] at h; subst h; rfl
 | m :: l => by
  rename_i _
  intro h
  (refine x2a3 h.uncons fun v r e92 _ h2 => ?_; subst e92)
  simp [h2.len]
theorem VRs.get {F : FM} : ∀ {l : List MV} {vs : List Value} {i : Nat} {m : MV}, VRs F l vs → l[i]? = some m → ∃ v, vs[i]? = some v ∧ VR F m v
 | [], _, _ => by rename_i _; intro _ e; simp at e
 | m :: l, _, 0 => by
  rename_i m'
  intro h e
  (refine x2a3 h.uncons fun v r e92 h1 _ => ?_; subst e92)
  simp at e; subst e; exact i1a2 v rfl h1
 | m :: l, _, i + 1 => by
  rename_i m'
  intro h e
  (refine x2a3 h.uncons fun v r e92 _ h2 => ?_; subst e92)
  simpa using h2.get (by simpa using e)
theorem VRs.append {F : FM} : ∀ {l l' : List MV} {vs vs' : List Value}, VRs F l vs → VRs F l' vs' → VRs F (l ++ l') (vs ++ vs')
 | [] => by rename_i _ _ _; intro h h'; simp only [VRs] at h; subst h; exact h'
 | m :: l => by
  rename_i _ _ _
  intro h h'
  (refine x2a3 h.uncons fun v r e92 h1 h2 => ?_; subst e92)
  exact .cons h1 (h2.append h')
theorem VRs.set {F : FM} : ∀ {l : List MV} {vs : List Value} {i : Nat} {m : MV} {v : Value}, VRs F l vs → VR F m v → VRs F (l.set i m) (vs.set i v)
 | [], _, _ => by rename_i _ _; intro h _; simp only [VRs] at h; subst h; exact .nil
 | m :: l, _, 0 => by
  rename_i m' _
  intro h e
  (refine x2a3 h.uncons fun v r e92 h1 h2 => ?_; subst e92)
  exact .cons e h2
 | m :: l, _, i + 1 => by
  rename_i m' _
  intro h e
  (refine x2a3 h.uncons fun v r e92 h1 h2 => ?_; subst e92)
  exact .cons h1 (h2.set e)
noncomputable def OVR (F : FM) : Option MV → Option Value → Prop
 | none, v => v = none
 | some m, v => ∃ x, v = some x ∧ VR F m x
theorem OVR.mono {F G : FM} (k : F.le G) : ∀ {m : Option MV} {v : Option Value}, OVR F m v → OVR G m v
 | none => by rename_i _; intro h; exact h
 | some m => by rename_i _; intro hz2; refine x1a2 hz2 fun x e h => ?_; exact ⟨x, e, h.mono k m⟩
inductive MObj where
 | list (l : List MV)
 | plist (l : List MV)
 | idict (l : List (Int × MV))
 | sdict (l : List (Str × MV))
 | ns (m : Str → Option MV)
 | attrs (l : List (Str × MV))
 | cell (v : Option MV)
 | exact (o : Obj)
 | iter (l : List MV)
 | pin (o : Obj) (l : List (Int × MV))
noncomputable abbrev TM := Addr → Option MObj
noncomputable def TM.le (S T : TM) : Prop := ∀ a x, S a = some x → T a = some x
theorem TM.le.refl (F : TM) : F.le F := fun _ _ e => e
theorem TM.le.trans {F G I : TM} (x : F.le G) (y : G.le I) : F.le I := fun a o e => y a o (x a o e)
noncomputable def TM.upd (T : TM) (a : Addr) (x : MObj) : TM := fun b => if b = a then some x else T b
@[simp] theorem TM.upd_self (T : TM) (a x) : T.upd a x a = some x := by simp [TM.upd]
theorem TM.upd_ne {T : TM} {a b x} (h : b ≠ a) : T.upd a x b = T b := by simp [TM.upd, h]
noncomputable def TM.dis (S T : TM) : Prop := ∀ a, S a = none ∨ T a = none
noncomputable def KVs {K : Type} (F : FM) : List (K × MV) → List (K × Value) → Prop
 | [], kvs => kvs = []
 | (k, m) :: l, kvs => ∃ v r, kvs = (k, v) :: r ∧ VR F m v ∧ KVs F l r
theorem KVs.mono {K : Type} {F G : FM} (k : F.le G) : ∀ {l : List (K × MV)} {kvs : List (K × Value)}, KVs F l kvs → KVs G l kvs
 | [] => by rename_i _; intro h; exact h
 | (x, m) :: l => by rename_i _; intro h; refine x2a3 h fun v r e h1 h2 => ?_; exact i2a3 v r e (h1.mono k) (h2.mono k)
inductive AttrsR (F : FM) (h : Heap) (a : Addr) (l : List (Str × MV)) : Prop
 | mk (o : Obj) (es : Array DictEntry) (ep : Nat) (kvs : List (Str × Value)) (ho : h.get? a = some o) (hc : o.cls = .type "dict") (hd : o.data = .dict es ep) (hk : StrKeys es) (hz : es.size ≤ l.length) (hf : ∀ n, nsFind es n = kvs.lookup n) (hq : KVs F l kvs) : AttrsR F h a l
inductive IterR (F : FM) (h : Heap) (a : Addr) (l : List MV) : Prop
 | lst (ax : Addr) (o : Obj) (its : Array Value) (n i : Nat) (hi : h.IsListIter a ax i) (ho : F ax = some o) (hc : o.cls = .type "list") (hd : o.data = .seq its n) (hq : VRs F l (its.toList.drop i)) : IterR F h a l
 | tup (ax : Addr) (o : Obj) (its : Array Value) (n i : Nat) (hi : h.IsTupleIter a ax i) (ho : F ax = some o) (hc : o.cls = .type "tuple") (hd : o.data = .seq its n) (hq : VRs F l (its.toList.drop i)) : IterR F h a l
 | rng (x : Int) (hi : IsRangeIter h a x l.length 1) (e : l = (List.range l.length).map fun j => .int (x + (j : Int))) : IterR F h a l
 | str (x : Str) (t : Tok) (i : Nat) (hi : h.IsStrIter a "str_ascii_iterator" x t i) (e : l = (x.cps.toList.drop i).map fun k => .str ⟨#[k]⟩) : IterR F h a l
noncomputable def Rep (w : World) (F : FM) (h : Heap) (a : Addr) : MObj → Prop
 | .list l => ∃ vs, h.IsList a vs ∧ VRs F l vs.toList
 | .plist l => ∃ vs, h.PlainList a vs ∧ VRs F l vs.toList
 | .idict l => ∃ kvs, h.DictOf (intKind P w) a kvs ∧ KVs F l kvs
 | .sdict l => ∃ kvs, h.DictOf (strKind P w) a kvs ∧ KVs F l kvs
 | .ns m => ∃ m', h.Ns a m' ∧ ∀ x, OVR F (m x) (m' x)
 | .attrs l => AttrsR F h a l
 | .cell v => ∃ v', h.IsCell a v' ∧ OVR F v v'
 | .exact o => h.get? a = some o
 | .pin o l => h.get? a = some o ∧ ∃ kvs, h.DictOf (intKind P w) a kvs ∧ KVs F l kvs
 | .iter l => IterR F h a l
theorem Heap.DictOf.same {prog : Program} {w : World} {K : Type} [DecidableEq K] {knd : KeyKind prog w K} {h h' : Heap} {a : Addr} {kvs} (x : h.DictOf knd a kvs) (e : h'.get? a = h.get? a) : h'.DictOf knd a kvs :=
 by obtain ⟨o, es, ep, ho, r⟩ := x; exact ⟨o, es, ep, (e.trans ho), r⟩
theorem Rep.keep {w : World} {F G : FM} {h h' : Heap} {a : Addr} {x : MObj} (k : F.le G) (e : h'.get? a = h.get? a) (r : Rep w F h a x) : Rep w G h' a x := by
 cases x with
 | list l => obtain ⟨vs, ⟨o, ho, r1⟩, r2⟩ := r; exact i1a2 vs ⟨o, e.trans ho, r1⟩ (r2.mono k)
 | plist l => obtain ⟨vs, ⟨n, ho⟩, r2⟩ := r; exact i1a2 vs ⟨n, e.trans ho⟩ (r2.mono k)
 | idict l => refine x1a2 r fun vs r1 r2 => ?_; exact i1a2 vs (Heap.DictOf.same r1 e) (r2.mono k)
 | sdict l => refine x1a2 r fun vs r1 r2 => ?_; exact i1a2 vs (Heap.DictOf.same r1 e) (r2.mono k)
 | ns m => obtain ⟨m', ⟨o, es, ep, ho, r1⟩, r2⟩ := r; exact i1a2 m' ⟨o, es, ep, e.trans ho, r1⟩ (fun x => (r2 x).mono k)
 | attrs l => obtain ⟨o, es, ep, kvs, ho, r1, r2, r3, r4, r5, r6⟩ := r; exact ⟨o, es, ep, kvs, e.trans ho, r1, r2, r3, r4, r5, r6.mono k⟩
 | cell v => obtain ⟨v', ⟨o, ho, r1⟩, r2⟩ := r; exact i1a2 v' ⟨o, e.trans ho, r1⟩ (r2.mono k)
 | exact o => exact e.trans r
 | pin o l => obtain ⟨h1, vs, r1, r2⟩ := r; exact ⟨e.trans h1, vs, Heap.DictOf.same r1 e, r2.mono k⟩
 | iter l =>
  rcases r with ⟨ax, o, its, n, i, ⟨oi, ho, r1⟩, r2, r3, r4, r5⟩ | ⟨ax, o, its, n, i, ⟨oi, ho, r1⟩, r2, r3, r4, r5⟩ | ⟨x, r1, r2⟩ | ⟨x, t, i, ⟨oi, ho, r1⟩, r2⟩
  ·exact .lst ax o its n i ⟨oi, e.trans ho, r1⟩ (k _ _ r2) r3 r4 (r5.mono k)
  ·exact .tup ax o its n i ⟨oi, e.trans ho, r1⟩ (k _ _ r2) r3 r4 (r5.mono k)
  ·exact .rng x (e.trans r1) r2
  ·exact .str x t i ⟨oi, e.trans ho, r1⟩ r2
theorem Rep.here {w : World} {F : FM} {h : Heap} {a : Addr} {x : MObj} (r : Rep w F h a x) : ∃ o, h.get? a = some o := by
 cases x with
 | list l => obtain ⟨vs, ⟨o, ho, r1⟩, r2⟩ := r; exact i1a1 o ho
 | plist l => obtain ⟨vs, ⟨n, ho⟩, r2⟩ := r; exact i1a1 _ ho
 | idict l => obtain ⟨vs, ⟨o, es, ep, ho, _⟩, r2⟩ := r; exact i1a1 o ho
 | sdict l => obtain ⟨vs, ⟨o, es, ep, ho, _⟩, r2⟩ := r; exact i1a1 o ho
 | ns m => obtain ⟨m', ⟨o, es, ep, ho, r1⟩, r2⟩ := r; exact i1a1 o ho
 | attrs l => obtain ⟨o, es, ep, kvs, ho, r1⟩ := r; exact i1a1 o ho
 | cell v => obtain ⟨v', ⟨o, ho, r1⟩, r2⟩ := r; exact i1a1 o ho
 | exact o => exact i1a1 o r
 | pin o l => exact i1a1 o r.1
 | iter l =>
  rcases r with ⟨ax, o, its, n, i, ⟨oi, ho, r1⟩, _⟩ | ⟨ax, o, its, n, i, ⟨oi, ho, r1⟩, _⟩ | ⟨x, r1, r2⟩ | ⟨x, t, i, ⟨oi, ho, r1⟩, r2⟩
  ·exact i1a1 oi ho
  ·exact i1a1 oi ho
  ·exact i1a1 _ r1
  ·exact i1a1 oi ho
noncomputable def growT : List Addr := [1008, 1015, 1318, 1335, 1349]
structure Cx where
 w : World
 h0 : Heap
 os0 : OsState
 mg : Str → Option Value
 mb : Str → Option Value
 kin : (Kf w.params).In h0
 g : h0.Ns mainGlobals mg
 b : h0.Ns builtinsNs mb
 bs : ∀ x : Str, x ≠ "__name__" → mb x = bootBuiltins x
 nolimit : h0.NoLimit
 sz : h0.objs.size = 1356
 last : ∃ o, h0.get? 1355 = some o
 bm : ∃ bm ob, mg "__builtins__" = some (.ref bm) ∧ bm ≠ builtinsNs ∧ h0.get? bm = some ob ∧ ob.cls = .type "module" ∧ ob.dict = some builtinsNs ∧ ob.data = .plain
noncomputable def Cx.F0 (c : Cx) : FM := fun a => if a ∈ growT then none else c.h0.get? a
noncomputable def qn (line _col : Nat) : Str :=
 if line = 791 then "write_compound.<locals>.put_new" else if line = 797 then "write_compound.<locals>.take_out" else
 if line = 811 then "write_compound.<locals>.tell" else if line = 821 then "write_other.<locals>.put" else
 if line = 1196 then "law.<locals>.answered" else if line = 1145 then "_law_rows.<locals>.<lambda>" else "_law_change.<locals>.<lambda>"
theorem Cx.f0 (c : Cx) {a o} (e : c.h0.get? a = some o) (n : a ∉ growT) : c.F0 a = some o := by simp only [Cx.F0, if_neg n, e]
noncomputable def growCd (a : Addr) : Addr := if a = 1008 then 1012 else if a = 1015 then 1019 else if a = 1318 then 1320 else if a = 1335 then 1339 else 1353
noncomputable def TabOk (c : Cx) (F : FM) (h : Heap) (P : Addr) : Prop :=
 ∃ ps, c.h0.TableAt (growCd P) P #[] ∧ h.IsCode (growCd P) P ps ∧ h.TableAt (growCd P) P ps ∧ ∀ pos cv, codeAmong pos ps.toList = some cv → CodeF F cv (qn pos.line pos.col)
structure Rel (c : Cx) (F : FM) (T : TM) (s : Shared) : Prop where
 fz : ∀ a o, F a = some o → s.heap.get? a = some o ∧ a ∉ growT
 f0 : c.F0.le F
 own : ∀ a x, T a = some x → F a = none ∧ Rep c.w F s.heap a x ∧ c.h0.objs.size ≤ a ∧ a ∉ growT
 tabs : ∀ P ∈ growT, TabOk c F s.heap P
 old : OldK c.h0 s.heap
 gens : s.gens = #[]
 os : s.os = c.os0
noncomputable def IsLst (x : MObj) (l : List MV) : Prop := x = .list l ∨ x = .plist l
theorem IsLst.get {w : World} {F : FM} {h : Heap} {a : Addr} {x : MObj} {l : List MV} (i : IsLst x l) (r : Rep w F h a x) : ∃ vs, h.IsList a vs ∧ VRs F l vs.toList := by
 rcases i with rfl | rfl
 ·exact r
 ·refine x1a2 r fun vs h1 h2 => ?_; exact i1a2 vs h1.isList h2
namespace Rel
variable {c : Cx} {F : FM} {T : TM} {s : Shared}
theorem tok (R : Rel c F T s) (n : Nat) : Rel c F T { s with toks := n } := ⟨R.fz, R.f0, R.own, R.tabs, R.old, R.gens, R.os⟩
theorem less (R : Rel c F T s) {S : TM} (k : S.le T) : Rel c F S s := ⟨R.fz, R.f0, fun a x e => R.own a x (k a x e), R.tabs, R.old, R.gens, R.os⟩
theorem lt (R : Rel c F T s) {a x} (e : T a = some x) : a < s.heap.objs.size := let ⟨_, r, _⟩ := R.own a x e; let ⟨_, h⟩ := r.here; Heap.lt_size h
theorem fresh (R : Rel c F T s) : T s.heap.objs.size = none := by
 cases e : T s.heap.objs.size with
 | none => rfl
 | some x => exact absurd (R.lt e) (Nat.lt_irrefl _)
theorem freshF (R : Rel c F T s) : F s.heap.objs.size = none := by
 cases e : F s.heap.objs.size with
 | none => rfl
 | some x => exact absurd (Heap.lt_size (R.fz _ _ e).1) (Nat.lt_irrefl _)
end Rel
end Mine
namespace Mine
noncomputable def FM.upd (T : FM) (a : Addr) (x : Obj) : FM := fun b => if b = a then some x else T b
@[simp] theorem FM.upd_self (T : FM) (a x) : T.upd a x a = some x := by simp [FM.upd]
theorem FM.upd_ne {T : FM} {a b x} (h : b ≠ a) : T.upd a x b = T b := by simp [FM.upd, h]
theorem FM.le_upd {F : FM} {a x} (h : F a = none) : F.le (F.upd a x) := fun b o e => by
 have : b ≠ a := by rintro rfl; rw [h] at e; injection e
 refine rG (FM.upd_ne this) ?_; exact e
noncomputable def Ks (p : Params) : Frag := (Kf p).filter fun x => !growT.contains x.1
theorem lookup_filter {K : Frag} {f : Addr → Bool} : ∀ {a o}, (K.filter fun x => f x.1).lookup a = some o → K.lookup a = some o ∧ f a = true := by
 induction K with
 | nil => intro a o e; injection e
 | cons x K ih =>
  intro a o e
  obtain ⟨b, ob⟩ := x
  rw [List.filter_cons] at e
  by_cases hb : f b = true
  ·rw [if_pos (by simpa using hb), List.lookup_cons] at e
   refine rG List.lookup_cons ?_
   by_cases hab : (a == b) = true
   ·rw [hab] at e ⊢; (injection e with e; subst e); refine rG (beq_iff_eq.mp hab) ?_; exact ⟨rfl, hb⟩
   ·simp only [Bool.not_eq_true] at hab; rw [hab] at e ⊢; exact ih e
  ·rw [if_neg (by simpa using hb)] at e
   refine x0a2 (ih e) fun h1 h2 => ?_
   refine rG List.lookup_cons ?_
   have : (a == b) = false := by
    cases hab : a == b with
    | false => rfl
    | true => rw [beq_iff_eq.mp hab] at h2; exact absurd h2 hb
   refine rG this ?_; exact ⟨h1, h2⟩
theorem TM.neS {T : TM} {a b : Addr} {x : MObj} (p : T a = some x) (k : T b = none) : a ≠ b := fun e => by rw [e, k] at p; injection p
noncomputable def TM.del (T : TM) (a : Addr) : TM := fun b => if b = a then none else T b
theorem TM.del_le (T : TM) (a : Addr) : (T.del a).le T := fun b x e => by
 unfold TM.del at e; split at e
 ·injection e
 ·exact e
namespace Rel
variable {c : Cx} {F : FM} {T : TM} {s : Shared}
theorem keep0 (R : Rel c F T s) {a o} (e : c.h0.get? a = some o) (n : a ∉ growT) : s.heap.get? a = some o := (R.fz _ _ (R.f0 _ _ (c.f0 e n))).1
theorem kin (R : Rel c F T s) : (Ks c.w.params).In s.heap := fun a o e => by
 refine x0a2 (lookup_filter (f := fun a => !growT.contains a) e) fun h1 h2 => ?_
 exact R.keep0 (c.kin _ _ h1) (by simpa using h2)
theorem ns0 (R : Rel c F T s) {a m} (n : a ∉ growT) (h : c.h0.Ns a m) : s.heap.Ns a m := let ⟨o, es, ep, e, r⟩ := h; ⟨o, es, ep, R.keep0 e n, r⟩
theorem g (R : Rel c F T s) : s.heap.Ns mainGlobals c.mg := R.ns0 (by decide) c.g
theorem b (R : Rel c F T s) : s.heap.Ns builtinsNs c.mb := R.ns0 (by decide) c.b
theorem nolimit (R : Rel c F T s) : s.heap.NoLimit := let ⟨mc, h, e⟩ := c.nolimit; ⟨mc, R.ns0 (by decide) h, e⟩
theorem sz (R : Rel c F T s) : c.h0.objs.size ≤ s.heap.objs.size := by
 refine x1a1 c.last fun o ho => ?_
 have := Heap.lt_size (R.keep0 ho (by decide))
 refine rG c.sz ?_; exact this
theorem grow_lt (R : Rel c F T s) {a : Nat} (h : a ∈ growT) : a < c.h0.objs.size := by
 have := c.sz
 simp only [growT, List.mem_cons, List.mem_nil_iff, or_false] at h
 rcases h with rfl | rfl | rfl | rfl | rfl <;> lia
theorem size_ng (R : Rel c F T s) : s.heap.objs.size ∉ growT := fun h => absurd (R.grow_lt h) (Nat.not_lt.mpr R.sz)
theorem tabs_keep (R : Rel c F T s) {F' : FM} {h' : Heap} (kF : F.le F') (hk : ∀ b o, b < c.h0.objs.size → s.heap.get? b = some o → h'.get? b = some o) : ∀ Pl ∈ growT, TabOk c F' h' Pl := fun Pl hP => by
 refine x1a4 (R.tabs Pl hP) fun ps t0 ic ta hq => ?_
 unfold TabOk
 generalize growCd Pl = cd at t0 ic ta ⊢
 have hPl := R.grow_lt hP
 obtain ⟨⟨oc0, vs0, e0, r0⟩, _⟩ := t0
 have hcd : cd < c.h0.objs.size := Heap.lt_size e0
 have hk' : ∀ b o, (b = cd ∨ b = Pl) → s.heap.get? b = some o → h'.get? b = some o := fun b o hb e => hk b o (by rcases hb with rfl | rfl <;> assumption) e
 refine i1a4 ps ⟨⟨oc0, vs0, e0, r0⟩, by assumption⟩ ?_ ?_ (fun pos cv e => (hq pos cv e).mono kF)
 ·obtain ⟨o, vs, file, tf, flags, tg, inF, text, tt, op, a, r1, r2, r3, r4, r5, r6, b, r⟩ := ic
  exact ⟨o, vs, file, tf, flags, tg, inF, text, tt, op, hk' _ _ (.inl rfl) a, r1, r2, r3, r4, r5, r6, hk' _ _ (.inr rfl) b, r⟩
 ·obtain ⟨⟨o, vs, e, r⟩, t⟩ := ta
  exact ⟨⟨o, vs, hk' _ _ (.inl rfl) e, r⟩, hk' _ _ (.inr rfl) t⟩
theorem ext (R : Rel c F T s) {h' : Heap} {tk : Nat} (hk : ∀ b o, s.heap.get? b = some o → h'.get? b = some o) : Rel c F T { s with heap := h', toks := tk } :=
 ⟨fun a o e => let ⟨x, y⟩ := R.fz a o e; ⟨hk _ _ x, y⟩, R.f0, fun a x e => by
  refine x0a3 (R.own a x e) fun h1 h2 h3 => ?_
  refine x1a1 h2.here fun o ho => ?_
  exact ⟨h1, h2.keep (FM.le.refl F) ((hk _ _ ho).trans ho.symm), h3⟩, R.tabs_keep (FM.le.refl F) (fun b o _ e => hk b o e), R.old.step_keeps hk, R.gens, R.os⟩
theorem freezeNew (R : Rel c F T s) {a : Addr} {o : Obj} (e : s.heap.get? a = some o) (hF : F a = none) (hT : T a = none) (hg : a ∉ growT) : Rel c (F.upd a o) T s :=
 ⟨fun b ob eb => by
   by_cases hb : b = a
   ·subst hb; rw [FM.upd_self] at eb; (injection eb with eb; subst eb); exact ⟨e, hg⟩
   ·rw [FM.upd_ne hb] at eb; exact R.fz b ob eb,
  R.f0.trans (FM.le_upd hF), fun b x eb => by
   refine x0a3 (R.own b x eb) fun h1 h2 h3 => ?_
   have hb : b ≠ a := by rintro rfl; rw [hT] at eb; injection eb
   exact ⟨by refine rG (FM.upd_ne hb) ?_; exact h1, h2.keep (FM.le_upd hF) rfl, h3⟩,
  R.tabs_keep (FM.le_upd hF) (fun b o _ e => e), R.old, R.gens, R.os⟩
theorem pushF (R : Rel c F T s) {o : Obj} (ho : o.isFreed = false) : F.le (F.upd s.heap.objs.size o) ∧ Rel c (F.upd s.heap.objs.size o) T { s with heap := s.heap.push o } :=
 ⟨FM.le_upd R.freshF, (R.ext (h' := s.heap.push o) (tk := s.toks) (fun _ _ e => Heap.get?_push_of_some _ e)).freezeNew (Heap.get?_push_size _ ho) R.freshF R.fresh R.size_ng⟩
theorem own_new (R : Rel c F T s) {a : Addr} {x : MObj} (hx : Rep c.w F s.heap a x) (hF : F a = none) (hg : c.h0.objs.size ≤ a) : Rel c F (T.upd a x) s :=
 ⟨R.fz, R.f0, fun b y eb => by
   by_cases hb : b = a
   ·subst hb; rw [TM.upd_self] at eb; (injection eb with eb; subst eb); exact ⟨hF, hx, hg, fun h => absurd (R.grow_lt h) (Nat.not_lt.mpr hg)⟩
   ·rw [TM.upd_ne hb] at eb; exact R.own b y eb, R.tabs, R.old, R.gens, R.os⟩
theorem pushO (R : Rel c F T s) {o : Obj} {x : MObj} (hx : Rep c.w F (s.heap.push o) s.heap.objs.size x) : Rel c F (T.upd s.heap.objs.size x) { s with heap := s.heap.push o } :=
 (R.ext (h' := s.heap.push o) (tk := s.toks) (fun _ _ e => Heap.get?_push_of_some _ e)).own_new hx R.freshF R.sz
theorem set (R : Rel c F T s) {a : Addr} {x y : MObj} {h' : Heap} {tk : Nat} (e : T a = some x) (hs : Heap.SameBut a s.heap h') (hy : Rep c.w F h' a y) : Rel c F (T.upd a y) { s with heap := h', toks := tk } := by
 refine x0a4 (R.own a x e) fun h1 h2 h3 h4 => ?_
 refine ⟨fun b o eb => ?_, R.f0, fun b z eb => ?_, R.tabs_keep (FM.le.refl F) (fun b o hb eb => (hs.2 b (Nat.ne_of_lt (Nat.lt_of_lt_of_le hb h3))).trans eb), R.old.step_same h3 hs, R.gens, R.os⟩
 ·refine x0a2 (R.fz b o eb) fun u v => ?_
  have : b ≠ a := by rintro rfl; rw [h1] at eb; injection eb
  exact ⟨(hs.2 b this).trans u, v⟩
 ·by_cases hb : b = a
  ·subst hb; rw [TM.upd_self] at eb; (injection eb with eb; subst eb); exact ⟨h1, hy, h3, h4⟩
  ·rw [TM.upd_ne hb] at eb
   refine x0a3 (R.own b z eb) fun k1 k2 k3 => ?_
   exact ⟨k1, k2.keep (FM.le.refl F) (hs.2 b hb), k3⟩
theorem freeze (R : Rel c F T s) {a : Addr} {x : MObj} {o : Obj} (e : T a = some x) (ho : s.heap.get? a = some o) : F.le (F.upd a o) ∧ Rel c (F.upd a o) (T.del a) s := by
 refine x0a4 (R.own a x e) fun h1 h2 h3 h4 => ?_
 exact ⟨FM.le_upd h1, (R.less (T.del_le a)).freezeNew ho h1 (by simp [TM.del]) h4⟩
end Rel
end Mine
end
section
open PySem PySem.W PySem.W.X PyProof.Rows PySem.Calls
namespace Mine
noncomputable abbrev LM := Str → Option MV
noncomputable def LM.set (m : LM) (n : Str) (v : MV) : LM := fun x => if x = n then some v else m x
noncomputable def LM.nil : LM := fun _ => none
noncomputable def ownC (env : Env) (n : Str) : Prop := env.func.isSome = true ∧ env.kindOf n = some .cell
noncomputable def unfz : MV → MV
 | .fz v => v
 | v => v
noncomputable def isFz : Option MV → Bool
 | some (.fz _) => true
 | _ => false
noncomputable def CelOk (F : FM) (T : TM) (v : Option MV) (a : Addr) : Prop := match v with
 | some (.fz m) => ∃ o u, F a = some o ∧ o.data = .cell (some u) ∧ VR F m u
 | v => T a = some (.cell v)
theorem CelOk.own {F : FM} {T : TM} {v : Option MV} {a : Addr} (h : CelOk F T v a) (e : isFz v = false) : T a = some (.cell v) := by
 unfold CelOk at h; split at h
 ·injection e
 ·exact h
theorem CelOk.of {F : FM} {T : TM} {v : Option MV} {a : Addr} (h : T a = some (.cell v)) (e : isFz v = false) : CelOk F T v a := by
 unfold CelOk; split
 ·injection e
 ·exact h
set_option tactic.hygienic true in
theorem CelOk.up {F G : FM} {T U : TM} {v : Option MV} {a : Addr} (k : F.le G) (kT : isFz v = false → T a = some (.cell v) → U a = some (.cell v)) (h : CelOk F T v a) : CelOk G U v a := by
 unfold CelOk at h ⊢; split at h
 ·refine x2a3 h fun o u h1 h2 h3 => ?_; exact i2a3 o u (k _ _ h1) h2 (h3.mono k)
 ·rename_i hn
  refine kT ?_ h
  unfold isFz; split
  ·exact absurd rfl (hn _)
  ·rfl
structure Lay (F : FM) (env : Env) (m cm : LM) (H K T : TM) : Prop where
 loc : T env.locals = some (.ns m)
 cel : ∀ n a, env.cells.lookup n = some a → CelOk F T (cm n) a
 hT : H.le T
 kT : K.le T
 dis : H.dis K
 hl : H env.locals = none
 kl : K env.locals = none
 own : ∀ n a, env.cells.lookup n = some a → ownC env n → isFz (cm n) = false → H a = none ∧ K a = none ∧ a ≠ env.locals ∧ ∀ n', env.cells.lookup n' = some a → n' = n
 fre : ∀ n a, env.cells.lookup n = some a → ¬ ownC env n → isFz (cm n) = false → K a = some (.cell (cm n))
 fn : env.scope.kind = .function
 gl : env.globals = mainGlobals
 bl : env.builtins = builtinsNs
theorem Lay.up {F G : FM} {env : Env} {m cm : LM} {H K T : TM} (l : Lay F env m cm H K T) (k : F.le G) : Lay G env m cm H K T :=
 {l with cel := fun n a e => (l.cel n a e).up k fun _ h => h }
inductive RelE (c : Cx) (env : Env) (m cm : LM) (F : FM) (H K : TM) (s : Shared) : Prop
 | mk (T : TM) (r : Rel c F T s) (l : Lay F env m cm H K T) : RelE c env m cm F H K s
noncomputable def NoE : Value → Shared → Prop := fun _ _ => False
inductive Post {α β : Type} (c : Cx) (env : Env) (K : TM) (F : FM) (R : FM → β → α → Prop) (Q : β → LM → LM → TM → Prop) (a : α) (s : Shared) : Prop
 | mk (F' : FM) (b : β) (m' cm' : LM) (H' : TM) (k : F.le F') (r : RelE c env m' cm' F' H' K s) (v : R F' b a) (q : Q b m' cm' H') : Post c env K F R Q a s
noncomputable def W {α β : Type} (c : Cx) (A : Around) (env : Env) (m cm : LM) (H : TM) (t : Sem α) (R : FM → β → α → Prop) (Q : β → LM → LM → TM → Prop) : Prop :=
 ∀ F K s, RelE c env m cm F H K s → wpAny (model P c.w) A t (Post c env K F R Q) NoE s
inductive PostN {α β : Type} (c : Cx) (F : FM) (T : TM) (R : FM → β → α → Prop) (b : β) (a : α) (s : Shared) : Prop
 | mk (F' : FM) (k : F.le F') (r : Rel c F' T s) (v : R F' b a) : PostN c F T R b a s
noncomputable def Pu {α β : Type} (c : Cx) (A : Around) (F : FM) (t : Sem α) (R : FM → β → α → Prop) (b : β) : Prop :=
 ∀ T s, Rel c F T s → wpAny (model P c.w) A t (PostN c F T R b) NoE s
section
variable {α β : Type} {c : Cx} {A : Around} {env : Env} {m cm : LM} {H : TM} {t : Sem α} {R : FM → β → α → Prop} {Q Q' : β → LM → LM → TM → Prop}
theorem RelE.elim {F K s} {G : Prop} (r : RelE c env m cm F H K s) (k : ∀ T, Rel c F T s → Lay F env m cm H K T → G) : G := by obtain ⟨T, r, l⟩ := r; exact k T r l
theorem W.wp {E : Value → Shared → Prop} {F K s} {G : α → Shared → Prop} (h : W c A env m cm H t R Q) (r : RelE c env m cm F H K s)
  (k : ∀ F' b m' cm' H' a s', F.le F' → RelE c env m' cm' F' H' K s' → R F' b a → Q b m' cm' H' → G a s') : wpAny (model P c.w) A t G E s :=
 wpAny_mono (h F K s r) (fun a s' x => by obtain ⟨F', b, m', cm', H', x1, x2, x3, x4⟩ := x; exact k F' b m' cm' H' a s' x1 x2 x3 x4) fun _ _ x => x.elim
theorem W.go {F0 F K s} (h : W c A env m cm H t R Q) (k : F0.le F) (r : RelE c env m cm F H K s) : wpAny (model P c.w) A t (Post c env K F0 R Q) NoE s :=
 h.wp r fun F' b m' cm' H' a s' x1 x2 x3 x4 => ⟨F', b, m', cm', H', k.trans x1, x2, x3, x4⟩
theorem PostN.wp {E : Value → Shared → Prop} {F T s b} {G : α → Shared → Prop} (h : wpAny (model P c.w) A t (PostN c F T R b) NoE s) (k : ∀ F' a s', F.le F' → Rel c F' T s' → R F' b a → G a s') : wpAny (model P c.w) A t G E s :=
 wpAny_mono h (fun a s' x => by obtain ⟨F', x1, x2, x3⟩ := x; exact k F' a s' x1 x2 x3) fun _ _ x => x.elim
theorem PostN.wpE {E : Value → Shared → Prop} {F K T s b} {G : α → Shared → Prop} (h : wpAny (model P c.w) A t (PostN c F T R b) NoE s) (l : Lay F env m cm H K T) (k : ∀ F' a s', F.le F' → RelE c env m cm F' H K s' → R F' b a → G a s') : wpAny (model P c.w) A t G E s :=
 PostN.wp h fun F' a s' x1 x2 x3 => k F' a s' x1 ⟨T, x2, l.up x1⟩ x3
theorem W.mono (h : W c A env m cm H t R Q) (k : ∀ b m' cm' H', Q b m' cm' H' → Q' b m' cm' H') : W c A env m cm H t R Q' := fun F K s r =>
 h.wp r fun F' b m' cm' H' a s' x1 x2 x3 x4 => ⟨F', b, m', cm', H', x1, x2, x3, k _ _ _ _ x4⟩
end
noncomputable abbrev V : FM → MV → Value → Prop := fun F m v => VR F m v
noncomputable abbrev VL : FM → List MV → List Value → Prop := fun F m v => VRs F m v
noncomputable abbrev Bo : FM → Bool → Bool → Prop := fun _ b a => a = b
inductive MFlow where | next | brk | cont | ret (v : MV)
noncomputable def Fl : FM → MFlow → Flow → Prop
 | _, .next, f => f = .next
 | _, .brk, f => f = .brk
 | _, .cont, f => f = .cont
 | F, .ret m, f => ∃ v, f = .ret v ∧ VR F m v
section
variable {c : Cx} {A : Around} {env : Env} {m cm : LM} {H : TM}
variable {Q : MV → LM → LM → TM → Prop}
theorem pu_int {i k pos} (F : FM) : Pu c A F (eval (.Constant (.int i) k pos) env) V (.int i) := fun T s r =>
 wpAny_Constant_int ⟨F, FM.le.refl F, r.tok _, by simp only [V, VR]; exact i1a1 _ rfl⟩
theorem pu_none {k pos} (F : FM) : Pu c A F (eval (.Constant .none k pos) env) V .none := fun T s r =>
 wpAny_Constant_none ⟨F, FM.le.refl F, r, by simp only [V, VR]⟩
theorem pu_bool {b k pos} (F : FM) : Pu c A F (eval (.Constant (.bool b) k pos) env) V (.bool b) := fun T s r =>
 wpAny_Constant_bool ⟨F, FM.le.refl F, r, by simp only [V, VR]⟩
theorem pu_str {x k pos} (F : FM) : Pu c A F (eval (.Constant (.str x) k pos) env) V (.str x) := fun T s r =>
 wpAny_Constant_str ⟨F, FM.le.refl F, r.tok _, by simp only [V, VR]; exact i1a1 _ rfl⟩
noncomputable def PuN {α β : Type} (c : Cx) (A : Around) (env : Env) (m cm : LM) (H : TM) (F : FM) (t : Sem α) (R : FM → β → α → Prop) (b : β) : Prop :=
 ∀ K T s, Rel c F T s → Lay F env m cm H K T → wpAny (model P c.w) A t (PostN c F T R b) NoE s
theorem W.ofPuN {α β : Type} {t : Sem α} {R : FM → β → α → Prop} {Q : β → LM → LM → TM → Prop} {b : β} (h : ∀ F, PuN c A env m cm H F t R b) (q : Q b m cm H) : W c A env m cm H t R Q := fun F K s r =>
 r.elim fun T r l => PostN.wpE (h F K T s r l) l fun F' a s' x1 x2 x3 => ⟨F', b, m, cm, H, x1, x2, x3, q⟩
theorem Pu.toN {α β : Type} {t : Sem α} {R : FM → β → α → Prop} {F : FM} {b : β} (h : Pu c A F t R b) : PuN c A env m cm H F t R b := fun K T s r _ => h T s r
theorem puN_local {n pos v} (F : FM) (hd : (n == ("__debug__" : Str)) = false) (hl : env.kindOf n = some .local) (hv : m n = some v) : PuN c A env m cm H F (eval (.Name n pos) env) V v := fun K T s r l => by
 obtain ⟨h1, ⟨m', hn, hm⟩, h3⟩ := r.own _ _ l.loc
 have := hm n
 rw [hv] at this
 refine x1a2 this fun x e hx => ?_
 exact wpAny_Name (wpAny_loadName_local l.fn hl hn e ⟨F, FM.le.refl F, r, hx⟩) hd
set_option tactic.hygienic true in
theorem cel_at {n : Str} {v : MV} {a : Addr} {F : FM} {K T : TM} {s : Shared} (r : Rel c F T s) (l : Lay F env m cm H K T) (ha : env.cells.lookup n = some a) (hv : cm n = some v) : ∃ x, s.heap.IsCell a (some x) ∧ VR F (unfz v) x := by
 have h := l.cel _ _ ha
 rw [hv] at h
 unfold CelOk at h
 split at h
 ·rename_i m e
  (injection e with e; subst e)
  refine x2a3 h fun o u h1 h2 h3 => ?_
  exact i1a2 u ⟨o, (r.fz _ _ h1).1, h2⟩ h3
 ·rename_i hn
  obtain ⟨h1, ⟨v', hc, hm⟩, h3⟩ := r.own _ _ h
  (refine x1a2 hm fun x e91 hx => ?_; subst e91)
  have : unfz v = v := by cases v <;> first | rfl | exact absurd rfl (hn _)
  exact i1a2 x hc (by refine rG this ?_; exact hx)
theorem puN_cell {n pos v a} (F : FM) (hd : (n == ("__debug__" : Str)) = false) (hl : env.kindOf n = some .cell) (ha : env.cells.lookup n = some a) (hv : cm n = some v) : PuN c A env m cm H F (eval (.Name n pos) env) V (unfz v) := fun K T s r l => by
 refine x1a2 (cel_at r l ha hv) fun x hn hx => ?_
 exact wpAny_Name (wpAny_loadName_cell l.fn hl ha hn ⟨F, FM.le.refl F, r, hx⟩) hd
theorem puN_free {n pos v a} (F : FM) (hd : (n == ("__debug__" : Str)) = false) (hd2 : (n == ("__classdict__" : Str)) = false) (hl : env.kindOf n = some .free) (ha : env.cells.lookup n = some a) (hv : cm n = some v) : PuN c A env m cm H F (eval (.Name n pos) env) V (unfz v) := fun K T s r l => by
 refine x1a2 (cel_at r l ha hv) fun x hn hx => ?_
 exact wpAny_Name (wpAny_loadName_free l.fn hl ha hn ⟨F, FM.le.refl F, r, hx⟩ hd2) hd
theorem puN_global {n pos v} (F : FM) (hd : (n == ("__debug__" : Str)) = false) (hl : env.kindOf n = some .globalImplicit) (hv : nsIn (Ks c.w.params) mainGlobals n = some (some v)) : PuN c A env m cm H F (eval (.Name n pos) env) V (.raw v) := fun K T s r l =>
 Name_function_global l.fn hl (loadGlobal_global (mg := c.mg) (by refine rG l.gl ?_; exact r.g) (mg_of r.kin r.g hv) ⟨F, FM.le.refl F, r, by simp only [V, VR]⟩) hd
set_option tactic.hygienic true in
theorem mg_none {K : Frag} {h : Heap} {mg : Str → Option Value} {n : Str} (X : K.In h) (G : h.Ns mainGlobals mg) (e : nsIn K mainGlobals n = some none) : mg n = none := by
 refine x3a4 G fun o es ep ho hd _ hf => ?_
 unfold nsIn at e
 split at e
 ·rename_i c d es' n' sl q
  have := X _ _ q
  rw [ho] at this
  (injection this with this; subst this)
  (injection hd with hd; subst hd)
  refine rL (hf ..) ?_
  split at e
  ·(injection e with e; injection e)
  ·rename_i h
   unfold nsFind findBy
   (refine rL Array.find?_toList ?_; refine rG h ?_); rfl
 ·injection e
theorem puN_builtin {n pos v} (F : FM) (hd : (n == ("__debug__" : Str)) = false) (hl : env.kindOf n = some .globalImplicit) (hv : nsIn (Ks c.w.params) mainGlobals n = some none) (hnn : n ≠ "__name__") (hb : bootBuiltins n = some v) : PuN c A env m cm H F (eval (.Name n pos) env) V (.raw v) := fun K T s r l =>
 Name_function_global l.fn hl (loadGlobal_builtin (mg := c.mg) (mb := c.mb) (by refine rG l.gl ?_; exact r.g) (mg_none r.kin r.g hv) (by refine rG l.bl ?_; exact r.b) (by refine rG (c.bs n hnn) ?_; exact hb) ⟨F, FM.le.refl F, r, by simp only [V, VR]⟩) hd
end
end Mine
end
section
set_option tactic.hygienic true
open PySem PySem.W PySem.W.X PyProof.Rows PySem.Calls
namespace Mine
mutual
noncomputable def MV.dat : MV → Option PyData
 | .none => some .none
 | .bool b => some (.bool b)
 | .int i => some (.int i)
 | .str s => some (.str s)
 | .tup l => (datAll l).map .tuple
 | .lst l => (datAll l).map .list
 | .raw _ => none
 | .obj _ _ _ => none
 | .fz _ => none
 | .clo _ _ _ => none
 | .rng _ => none
noncomputable def datAll : List MV → Option (List PyData)
 | [] => some []
 | m :: l => match m.dat, datAll l with
  | some d, some r => some (d :: r)
  | _, _ => none
end
mutual
theorem reads_of {F : FM} {h : Heap} (k : ∀ a o, F a = some o → h.get? a = some o) : ∀ (m : MV) {v : Value} {d : PyData}, VR F m v → m.dat = some d → ∃ as, Reads h v d as
 | .none => by rename_i v d; intro x e; simp only [VR] at x; simp only [MV.dat, Option.some.injEq] at e; subst x; subst e; exact i1a1 _ (.none)
 | .bool b => by rename_i v d; intro x e; simp only [VR] at x; simp only [MV.dat, Option.some.injEq] at e; subst x; subst e; exact i1a1 _ (.bool b)
 | .int b => by rename_i v d; intro x e; simp only [VR] at x; (refine x1a1 x fun t e91 => ?_; subst e91); simp only [MV.dat, Option.some.injEq] at e; subst e; exact i1a1 _ (.int b t)
 | .str b => by rename_i v d; intro x e; simp only [VR] at x; (refine x1a1 x fun t e91 => ?_; subst e91); simp only [MV.dat, Option.some.injEq] at e; subst e; exact i1a1 _ (.str b t)
 | .tup l => by
  rename_i v d
  intro x e
  simp only [VR] at x
  obtain ⟨a, o, vs, n, rfl, e2, r1, r2, r3⟩ := x
  simp only [MV.dat, Option.map_eq_some_iff] at e
  (refine x1a2 e fun ds e3 e92 => ?_; subst e92)
  refine x1a1 (readsAll_of k l r3 e3) fun as r => ?_
  exact i1a1 _ (.tuple (k _ _ e2) r1 r2 r)
 | .lst l => by
  rename_i v d
  intro x e
  simp only [VR] at x
  obtain ⟨a, o, vs, n, rfl, e2, r1, r2, r3⟩ := x
  simp only [MV.dat, Option.map_eq_some_iff] at e
  (refine x1a2 e fun ds e3 e92 => ?_; subst e92)
  refine x1a1 (readsAll_of k l r3 e3) fun as r => ?_
  exact i1a1 _ (.list (k _ _ e2) r1 r2 r)
 | .raw _ => by rename_i _ _; intro _ e; simp [MV.dat] at e
 | .obj _ _ _ => by rename_i _ _; intro _ e; simp [MV.dat] at e
 | .fz _ => by rename_i _ _; intro _ e; simp [MV.dat] at e
 | .clo _ _ _ => by rename_i _ _; intro _ e; simp [MV.dat] at e
 | .rng _ => by rename_i _ _; intro _ e; simp [MV.dat] at e
theorem readsAll_of {F : FM} {h : Heap} (k : ∀ a o, F a = some o → h.get? a = some o) : ∀ (l : List MV) {vs : List Value} {ds : List PyData}, VRs F l vs → datAll l = some ds → ∃ as, ReadsAll h vs ds as
 | [] => by rename_i vs ds; intro x e; simp only [VRs] at x; simp only [datAll, Option.some.injEq] at e; subst x; subst e; exact i1a1 _ (.nil)
 | m :: l => by
  rename_i vs ds
  intro x e
  (refine x2a3 x.uncons fun v r e92 h1 h2 => ?_; subst e92)
  simp only [datAll] at e
  split at e
  ·rename_i d ds' e1 e2
   (injection e with e; subst e)
   refine x1a1 (reads_of k m h1 e1) fun as r1 => ?_
   refine x1a1 (readsAll_of k l h2 e2) fun bs r2 => ?_
   exact i1a1 _ (.cons r1 r2)
  ·injection e
end
section
variable {c : Cx} {A : Around} {F : FM} {a b : Value} {x y : MV}
theorem vr_int {F : FM} {i : Int} {t : Tok} : VR F (.int i) (.int i t) := by simp only [VR]; exact i1a1 _ rfl
theorem vr_str {F : FM} {i : Str} {t : Tok} : VR F (.str i) (.str i t) := by simp only [VR]; exact i1a1 _ rfl
theorem vr_bool {F : FM} {i : Bool} : VR F (.bool i) (.bool i) := by simp only [VR]
theorem vr_none {F : FM} : VR F .none .none := by simp only [VR]
theorem vr_raw {F : FM} {v : Value} : VR F (.raw v) v := by simp only [VR]
noncomputable def AllP : List Prop → Prop
 | [] => True
 | p :: l => p ∧ AllP l
theorem AllP.app {l r : List Prop} : AllP (l ++ r) → AllP l ∧ AllP r := by
 induction l with
 | nil => exact fun h => ⟨trivial, h⟩
 | cons p l ih => exact fun hq => x0a2 hq fun h k => ⟨⟨h, (ih k).1⟩, (ih k).2⟩
inductive Op {β : Type} (e : Option (β × List Prop)) (Q : β → LM → LM → TM → Prop) (m cm : LM) (H : TM) : Prop
 | mk (z : β) (C : List Prop) (he : e = some (z, C)) (hC : AllP C) (hq : Q z m cm H) : Op e Q m cm H
theorem beq_dec (a b : Int) : (a == b) = decide (a = b) := by
 by_cases h : a = b
 ·subst h; simp
 ·refine rG (decide_eq_false h) ?_; exact beq_eq_false_iff_ne.mpr h
noncomputable def MV.int? : MV → Option Int
 | .int a => some a
 | _ => Option.none
noncomputable def MV.str? : MV → Option Str
 | .str a => some a
 | _ => Option.none
noncomputable def MV.lst? : MV → Option (List MV)
 | .lst a => some a
 | _ => Option.none
noncomputable def MV.tup? : MV → Option (List MV)
 | .tup a => some a
 | _ => Option.none
noncomputable def MV.non? : MV → Option Unit
 | .none => some ()
 | _ => Option.none
theorem int?_of {x : MV} {a : Int} (e : x.int? = some a) : x = .int a := by cases x <;> cases e; rfl
theorem str?_of {x : MV} {a : Str} (e : x.str? = some a) : x = .str a := by cases x <;> cases e; rfl
theorem lst?_of {x : MV} {a : List MV} (e : x.lst? = some a) : x = .lst a := by cases x <;> cases e; rfl
theorem tup?_of {x : MV} {a : List MV} (e : x.tup? = some a) : x = .tup a := by cases x <;> cases e; rfl
theorem non?_of {x : MV} {a : Unit} (e : x.non? = some a) : x = .none := by cases x <;> cases e; rfl
noncomputable def on2 {α β γ : Type} (u : Option α) (v : Option β) (f : α → β → Option γ) : Option γ := match u with
 | none => none
 | some a => match v with
  | none => none
  | some b => f a b
theorem on2_of {α β γ : Type} {u : Option α} {v : Option β} {f : α → β → Option γ} {r : γ} (e : on2 u v f = some r) : ∃ a b, u = some a ∧ v = some b ∧ f a b = some r := by
 cases u with
 | none => injection e
 | some a => cases v with
  | none => injection e
  | some b => exact i2a3 a b rfl rfl e
noncomputable def orO {α : Type} (u v : Option α) : Option α := match u with
 | none => v
 | some a => some a
theorem orO_of {α : Type} {u v : Option α} {r : α} (e : orO u v = some r) : u = some r ∨ v = some r := by
 cases u with
 | none => exact .inr e
 | some a => exact .inl e
noncomputable def binV (op : Operator) (x y : MV) : Option (MV × List Prop) := match op with
 | .Add => orO (on2 x.int? y.int? fun a b => some (.int (a + b), [])) (on2 x.lst? y.lst? fun a b => some (.lst (a ++ b), [a.length + b.length < 1000000]))
 | .Sub => on2 x.int? y.int? fun a b => some (.int (a - b), [])
 | .Mult => orO (on2 x.int? y.int? fun a b => some (.int (a * b), [IntMulOk a b])) (on2 x.lst? y.int? fun a n => some (.lst (List.replicate n.toNat a).flatten, [0 ≤ n, n < 1000000, a.length * n.toNat < 1000000]))
 | .Mod => on2 x.int? y.int? fun a b => some (.int (a.fmod b), [b ≠ 0])
 | .FloorDiv => on2 x.int? y.int? fun a b => some (.int (a.fdiv b), [b ≠ 0, b.natAbs < 1073741824])
 | _ => none
theorem ii_of {γ : Type} {F : FM} {x y : MV} {a b : Value} {f : Int → Int → Option γ} {r : γ} (hx : VR F x a) (hy : VR F y b) (e : on2 x.int? y.int? f = some r) : ∃ i j t u, a = .int i t ∧ b = .int j u ∧ f i j = some r := by
 refine x2a3 (on2_of e) fun i j h1 h2 h3 => ?_
 have h1 := int?_of h1
 have h2 := int?_of h2
 subst h1 h2
 simp only [VR] at hx hy
 (refine x1a1 hx fun t e91 => ?_; subst e91)
 (refine x1a1 hy fun u e91 => ?_; subst e91)
 exact ⟨i, j, t, u, rfl, rfl, h3⟩
theorem add_lists {l1 l2 : List MV} (hC : l1.length + l2.length < 1000000) (hx : VR F (.lst l1) a) (hy : VR F (.lst l2) b) : Pu c A F (binaryOp .Add a b) V (.lst (l1 ++ l2)) := fun T s r => by
 simp only [VR] at hx hy
 obtain ⟨x1, ⟨c1, d1, dt1, sl1⟩, vs1, n1, rfl, e1, r1, r2, r3⟩ := hx
 obtain ⟨x2, ⟨c2, d2, dt2, sl2⟩, vs2, n2, rfl, e2, q1, q2, q3⟩ := hy
 subst r1; subst r2; subst q1; subst q2
 have hl1 := r3.len
 have hl2 := q3.len
 rw [Array.length_toList] at hl1 hl2
 have f1 := (r.fz _ _ e1).1
 have f2 := (r.fz _ _ e2).1
 refine concat_meets ⟨_, f1, rfl⟩ ⟨_, f2, rfl⟩ noFill_list_add seq_list_add PySem.F.slot_list_add PySem.F.entry_list_add (PySem.F.args_list_add_2 _ _) (list_addW x1 x2 vs1 vs2 n1 n2 d1 d2 sl1 sl2 (by (refine rG sizeLine_eq ?_; refine rG hl1 ?_; refine rG hl2 ?_); exact Nat.le_of_lt (Nat.lt_of_lt_of_le hC (by decide)))) ⟨f1, f2, ?_⟩
 refine x0a2 (r.pushF (o := { cls := .type "list", data := .seq (vs1 ++ vs2) }) rfl) fun k2 r2 => ?_
 refine ⟨_, k2, r2, ?_⟩
 simp only [V, VR]
 exact ⟨_, _, _, _, rfl, FM.upd_self _ _ _, rfl, rfl, by refine rG Array.toList_append ?_; exact (r3.append q3).mono k2⟩
theorem rep_toList (vs1 : Array Value) : ∀ (k : Nat) (acc : Array Value), (List.foldl (fun x1 x2 => x1 ++ x2) acc (List.replicate k vs1)).toList = acc.toList ++ (List.replicate k vs1.toList).flatten
 | 0 => by intro acc; simp
 | k + 1 => by intro acc; (refine rG List.replicate_succ ?_; refine rG List.foldl_cons ?_; rewrite [rep_toList vs1 k]; refine rG List.replicate_succ ?_; refine rG List.flatten_cons ?_; refine rG Array.toList_append ?_; refine rG (List.append_assoc ..) ?_; rfl)
theorem VRs.rep {F : FM} {l : List MV} {vs : List Value} (h : VRs F l vs) : ∀ k : Nat, VRs F (List.replicate k l).flatten (List.replicate k vs).flatten
 | 0 => VRs.nil
 | k + 1 => by (refine rG List.replicate_succ ?_; refine rG List.replicate_succ ?_; refine rG List.flatten_cons ?_; refine rG List.flatten_cons ?_); exact h.append (h.rep k)
theorem mul_list {l : List MV} {n : Int} (h1 : 0 ≤ n) (h2 : n < 1000000) (h3 : l.length * n.toNat < 1000000) (hx : VR F (.lst l) a) (hy : VR F (.int n) b) : Pu c A F (binaryOp .Mult a b) V (.lst (List.replicate n.toNat l).flatten) := fun T s r => by
 simp only [VR] at hx hy
 obtain ⟨x1, ⟨c1, d1, dt1, sl1⟩, vs1, n1, rfl, e1, r1, r2, r3⟩ := hx
 (refine x1a1 hy fun u e91 => ?_; subst e91)
 subst r1; subst r2
 have hl1 := r3.len
 rw [Array.length_toList] at hl1
 rw [← hl1] at h3
 have f1 := (r.fz _ _ e1).1
 have hfl : (List.foldl (fun x1 x2 => x1 ++ x2) #[] (List.replicate (if vs1.isEmpty = true then 0 else n.toNat) vs1)).toList = (List.replicate n.toNat vs1.toList).flatten := by
  refine rG (rep_toList ..) ?_
  by_cases hz : vs1.isEmpty = true
  ·refine rG (if_pos hz) ?_
   have : vs1.toList = [] := by simpa using hz
   refine rG this ?_
   simp
  ·refine rG (if_neg hz) ?_; rfl
 refine wpAny_binaryOp_repeat_ref (T := "list") (U := "int") (by decide) ⟨_, f1, rfl⟩ (fun s' => typeIs_int s' n u) noFill_list_mul PySem.F.fills_int_mul PySem.F.slot_int_rmul repeat_list PySem.F.slot_int_index.lookup
  (call_meets PySem.F.slot_int_rmul (typeIs_int s n u) PySem.F.entry_int_rmul (PySem.F.args_int_rmul_2 _ _) (lm_int_rmul_list_any n u x1 vs1 n1 d1 sl1)
   ⟨f1, rfl, ⟨_, f1, rfl⟩, call_meets PySem.F.slot_list_mul ⟨_, f1, rfl⟩ PySem.F.entry_list_mul (PySem.F.args_list_mul_2 _ _)
    (lm_list_mul_any x1 vs1 n1 d1 sl1 n u (by simp [Builtin.List.listFitsIndex]; lia) (by lia) (by simp [Builtin.List.listTooLong, sizeLine]; lia)) ⟨f1, ?_⟩⟩)
 refine x0a2 (r.pushF (o := { cls := .type "list", data := .seq (List.foldl (fun x1 x2 => x1 ++ x2) #[] (List.replicate (if vs1.isEmpty = true then 0 else n.toNat) vs1)) }) rfl) fun k2 r2 => ?_
 refine ⟨_, k2, r2, ?_⟩
 simp only [V, VR]
 exact ⟨_, _, _, _, rfl, FM.upd_self _ _ _, rfl, rfl, by refine rG hfl ?_; exact (r3.rep _).mono k2⟩
theorem ii_k {γ : Type} {F : FM} {x y : MV} {a b : Value} {f : Int → Int → γ} {r : γ} (hx : VR F x a) (hy : VR F y b) (e : on2 x.int? y.int? (fun i j => some (f i j)) = some r) {G : Value → Value → γ → Prop} (k : ∀ i j t u, G (.int i t) (.int j u) (f i j)) : G a b r := by
 (refine x4a3 (ii_of hx hy e) fun i j t u e94 e95 e => ?_; subst e94 e95)
 (injection e with e; subst e)
 exact k i j t u
noncomputable abbrev BinG (c : Cx) (A : Around) (F : FM) (op : Operator) (a b : Value) (r : MV × List Prop) : Prop := AllP r.2 → Pu c A F (binaryOp op a b) V r.1
theorem pu_bin {op : Operator} {z : MV} {C : List Prop} (e : binV op x y = some (z, C)) (hC : AllP C) (hx : VR F x a) (hy : VR F y b) : Pu c A F (binaryOp op a b) V z := by
 have g : BinG c A F op a b (z, C) := by
  cases op with
  | Add =>
   rcases orO_of e with e | e
   ·exact ii_k hx hy e (G := BinG c A F .Add) fun i j t u _ T s r => wpAny_add_int ⟨F, FM.le.refl F, r.tok _, vr_int⟩
   ·refine x2a3 (on2_of e) fun l1 l2 h1 h2 e => ?_
    cases e
    exact fun hC => add_lists hC.1 (lst?_of h1 ▸ hx) (lst?_of h2 ▸ hy)
  | Sub => exact ii_k hx hy e (G := BinG c A F .Sub) fun i j t u _ T s r => PyProof.Rows.sub_int ⟨F, FM.le.refl F, r.tok _, vr_int⟩
  | Mult =>
   rcases orO_of e with e | e
   ·exact ii_k hx hy e (G := BinG c A F .Mult) fun i j t u hC T s r => PyProof.Rows.mul_int ⟨F, FM.le.refl F, r.tok _, vr_int⟩ hC.1
   ·refine x2a3 (on2_of e) fun l1 n h1 h2 e => ?_
    cases e
    exact fun hC => mul_list hC.1 hC.2.1 hC.2.2.1 (lst?_of h1 ▸ hx) (int?_of h2 ▸ hy)
  | Mod => exact ii_k hx hy e (G := BinG c A F .Mod) fun i j t u hC T s r => PyProof.Rows.mod_int hC.1 ⟨F, FM.le.refl F, r.tok _, vr_int⟩
  | FloorDiv => exact ii_k hx hy e (G := BinG c A F .FloorDiv) fun i j t u hC T s r => PyProof.Rows.floordiv_int hC.1 ⟨F, FM.le.refl F, r.tok _, vr_int⟩ (.inl (PyProof.noPylong_small hC.2.1))
  | _ => injection e
 exact g hC
noncomputable def datEq (x y : MV) : Option (Bool × List Prop) := on2 x.dat y.dat fun d e => some (PyData.eqv d e, [SeqAt.shaped d = true, SeqAt.shaped e = true])
noncomputable def eqV (x y : MV) : Option (Bool × List Prop) := orO (on2 x.int? y.int? fun a b => some (decide (a = b), [])) (orO (on2 x.str? y.str? fun a b => some (decide (a = b), [])) (datEq x y))
theorem datEq_of {x y : MV} {d e : PyData} (hx : x.dat = some d) (hy : y.dat = some e) : datEq x y = some (PyData.eqv d e, [SeqAt.shaped d = true, SeqAt.shaped e = true]) := by (rewrite [datEq]; refine rG hx ?_; refine rG hy ?_); rfl
theorem dat_lst {l : List MV} {d : List PyData} (h : datAll l = some d) : (MV.lst l).dat = some (.list d) := by (rewrite [MV.dat]; refine rG h ?_); rfl
noncomputable def isNone : MV → Option Bool
 | .none => some true
 | .raw _ => none
 | _ => some false
noncomputable def inV (mk : List PyData → PyData) (x : MV) (l : List MV) : Option (Bool × List Prop) := on2 x.dat (datAll l) fun d ds => some (ds.any fun y => PyData.eqv y d, [SeqAt.shaped (mk ds) = true, SeqAt.shaped d = true])
theorem inV_of {mk : List PyData → PyData} {x : MV} {l : List MV} {z : Bool} {C : List Prop} (e : inV mk x l = some (z, C)) (hC : AllP C) : ∃ d ds, x.dat = some d ∧ datAll l = some ds ∧ z = (ds.any fun y => PyData.eqv y d) ∧ SeqAt.shaped (mk ds) = true ∧ SeqAt.shaped d = true := by
 refine x2a3 (on2_of e) fun d ds e1 e2 e => ?_
 cases e
 exact ⟨d, ds, e1, e2, rfl, hC.1, hC.2.1⟩
theorem in_room {A : Around} {d : PyData} {xs : List PyData} (hu : A.units + 70 < cLine) (hd : SeqAt.shaped d = true) : A.units + 1 + min (PyData.depthAll xs) d.depth < cLine := by
 have h1 := SeqAt.depth_of_shaped hd
 have h2 : min (PyData.depthAll xs) d.depth ≤ d.depth := Nat.min_le_right _ _
 lia
noncomputable def negO (o : Option (Bool × List Prop)) : Option (Bool × List Prop) := o.map fun b => (!b.1, b.2)
noncomputable def seqIn (x y : MV) : Option (Bool × List Prop) := orO (on2 (some x) y.lst? (inV .list)) (on2 (some x) y.tup? (inV .tuple))
noncomputable def isV (x y : MV) : Option (Bool × List Prop) := on2 (isNone x) y.non? fun b _ => some (b, [])
noncomputable def cmpV (op : CmpOp) (x y : MV) : Option (Bool × List Prop) := match op with
 | .Eq => eqV x y
 | .NotEq => on2 x.int? y.int? fun a b => some (!decide (a = b), [])
 | .Lt => on2 x.int? y.int? fun a b => some (decide (a < b), [])
 | .LtE => orO (on2 x.int? y.int? fun a b => some (decide (a ≤ b), [])) (on2 x.str? y.str? fun a b => some (!decide (b.cps.toList < a.cps.toList), []))
 | .Gt => on2 x.int? y.int? fun a b => some (decide (a > b), [])
 | .GtE => on2 x.int? y.int? fun a b => some (decide (a ≥ b), [])
 | .In => seqIn x y
 | .NotIn => negO (seqIn x y)
 | .Is => isV x y
 | .IsNot => negO (isV x y)
theorem isNone_of {F : FM} {b : Bool} (e : isNone x = some b) (h : VR F x a) : (a == Value.none) = b := by
 cases x <;> simp only [isNone, Option.some.injEq] at e <;> first | cases e | skip
 all_goals simp only [VR] at h
 ·subst h; rfl
 ·subst h; rfl
 ·(refine x1a1 h fun t e91 => ?_; subst e91); rfl
 ·(refine x1a1 h fun t e91 => ?_; subst e91); rfl
 ·obtain ⟨t, _, _, _, rfl, _⟩ := h; rfl
 ·obtain ⟨t, _, _, _, rfl, _⟩ := h; rfl
 ·obtain ⟨t, _, _, rfl, _⟩ := h; rfl
 ·obtain ⟨t, _, _, _, _, _, _, _, rfl, _⟩ := h; rfl
 ·obtain ⟨t, _, _, _, rfl, _⟩ := h; rfl
theorem ss_of {γ : Type} {F : FM} {x y : MV} {a b : Value} {f : Str → Str → Option γ} {r : γ} (hx : VR F x a) (hy : VR F y b) (e : on2 x.str? y.str? f = some r) : ∃ i j t u, a = .str i t ∧ b = .str j u ∧ f i j = some r := by
 refine x2a3 (on2_of e) fun i j h1 h2 h3 => ?_
 have h1 := str?_of h1
 have h2 := str?_of h2
 subst h1 h2
 simp only [VR] at hx hy
 (refine x1a1 hx fun t e91 => ?_; subst e91)
 (refine x1a1 hy fun u e91 => ?_; subst e91)
 exact ⟨i, j, t, u, rfl, rfl, h3⟩
theorem pu_eq {z : Bool} {C : List Prop} (hu : A.units + 64 < cLine) (e : eqV x y = some (z, C)) (hC : AllP C) (hx : VR F x a) (hy : VR F y b) :
  Pu c A F (compareOp .Eq a b) V (.bool z) := fun T s r => by
 rcases orO_of e with e | e
 ·(refine x4a3 (ii_of hx hy e) fun i j t u e94 e95 e => ?_; subst e94 e95)
  (injection e with e; injection e with e; subst e)
  exact PyProof.Rows.eq_int ⟨F, FM.le.refl F, r, by refine rG (beq_dec ..) ?_; exact vr_bool⟩
 rcases orO_of e with e | e
 ·(refine x4a3 (ss_of hx hy e) fun p q t u e94 e95 e => ?_; subst e94 e95)
  (injection e with e; injection e with e; subst e)
  have hb : (p == q) = decide (p = q) := by
   by_cases h : p = q
   ·subst h; simp
   ·refine rG (decide_eq_false h) ?_; exact beq_eq_false_iff_ne.mpr h
  exact PyProof.Rows.eq_str ⟨F, FM.le.refl F, r, by refine rG hb ?_; exact vr_bool⟩
 ·refine x2a3 (on2_of e) fun d1 d2 e1 e2 e => ?_
  cases e
  obtain ⟨as, r1⟩ := reads_of (fun a o e => (r.fz a o e).1) _ hx e1
  obtain ⟨bs, r2⟩ := reads_of (fun a o e => (r.fz a o e).1) _ hy e2
  exact eq_dataH r1 r2 hC.1 hC.2.1 hu ⟨F, FM.le.refl F, r, vr_bool⟩
theorem negO_of {o : Option (Bool × List Prop)} {z : Bool} {C : List Prop} (e : negO o = some (z, C)) : ∃ b, o = some (b, C) ∧ z = !b := by
 cases o with
 | none => injection e
 | some p => cases e; exact i1a2 p.1 rfl rfl
theorem pu_in {z : Bool} {C : List Prop} {T : TM} {s : Shared} (r : Rel c F T s) (hu : A.units + 70 < cLine) (e : seqIn x y = some (z, C)) (hC : AllP C) (hx : VR F x a) (hy : VR F y b) :
  (∀ {G : Value → Shared → Prop}, G (.bool z) s → wpAny (model P c.w) A (compareOp .In a b) G NoE s) ∧ (∀ {G : Value → Shared → Prop}, G (.bool !z) s → wpAny (model P c.w) A (compareOp .NotIn a b) G NoE s) := by
 have k := fun a o e => (r.fz a o e).1
 rcases orO_of e with e | e
 ·refine x2a3 (on2_of e) fun _ l e0 e5 e => ?_
  (injection e0 with e0; subst e0)
  have e5 := lst?_of e5
  subst e5
  (refine x2a5 (inV_of e hC) fun d ds e1 e2 e94 h1 h2 => ?_; subst e94)
  refine x1a1 (reads_of k _ hx e1) fun as r1 => ?_
  (refine x1a1 (reads_of (m := .lst l) (d := .list ds) k hy (by (rewrite [MV.dat]; refine rG e2 ?_); rfl)) fun bs r2 => ?_)
  exact ⟨SeqAt.in_list_reads r2 r1 (SeqAt.canLay_of_shaped h1) (SeqAt.canLay_of_shaped h2) (in_room hu h2), SeqAt.notIn_list_reads r2 r1 (SeqAt.canLay_of_shaped h1) (SeqAt.canLay_of_shaped h2) (in_room hu h2)⟩
 ·refine x2a3 (on2_of e) fun _ l e0 e5 e => ?_
  (injection e0 with e0; subst e0)
  have e5 := tup?_of e5
  subst e5
  (refine x2a5 (inV_of e hC) fun d ds e1 e2 e94 h1 h2 => ?_; subst e94)
  refine x1a1 (reads_of k _ hx e1) fun as r1 => ?_
  (refine x1a1 (reads_of (m := .tup l) (d := .tuple ds) k hy (by (rewrite [MV.dat]; refine rG e2 ?_); rfl)) fun bs r2 => ?_)
  exact ⟨SeqAt.in_tuple_reads r2 r1 (SeqAt.canLay_of_shaped h1) (SeqAt.canLay_of_shaped h2) (in_room hu h2), SeqAt.notIn_tuple_reads r2 r1 (SeqAt.canLay_of_shaped h1) (SeqAt.canLay_of_shaped h2) (in_room hu h2)⟩
theorem isV_of {z : Bool} {C : List Prop} (e : isV x y = some (z, C)) (hx : VR F x a) (hy : VR F y b) : b = .none ∧ (a == Value.none) = z := by
 refine x2a3 (on2_of e) fun p u e1 e2 e => ?_
 (injection e with e; injection e with e; subst e)
 have e2 := non?_of e2
 subst e2
 simp only [VR] at hy
 exact ⟨hy, isNone_of e1 hx⟩
noncomputable abbrev CmpG (c : Cx) (A : Around) (F : FM) (op : CmpOp) (a b : Value) (r : Bool × List Prop) : Prop := Pu c A F (compareOp op a b) V (.bool r.1)
theorem pu_cmp {op : CmpOp} {z : Bool} {C : List Prop} (hu : A.units + 70 < cLine) (e : cmpV op x y = some (z, C)) (hC : AllP C) (hx : VR F x a) (hy : VR F y b) : Pu c A F (compareOp op a b) V (.bool z) := by
 cases op with
 | Eq => exact pu_eq (by lia) e hC hx hy
 | NotEq => exact ii_k hx hy e (G := CmpG c A F .NotEq) fun i j t u T s r => PyProof.Rows.ne_int ⟨F, FM.le.refl F, r, by (rewrite [bne]; refine rG (beq_dec ..) ?_); exact vr_bool⟩
 | Lt => exact ii_k hx hy e (G := CmpG c A F .Lt) fun i j t u T s r => PyProof.Rows.lt_int ⟨F, FM.le.refl F, r, vr_bool⟩
 | LtE =>
  rcases orO_of e with e | e
  ·exact ii_k hx hy e (G := CmpG c A F .LtE) fun i j t u T s r => PyProof.Rows.le_int ⟨F, FM.le.refl F, r, vr_bool⟩
  ·(refine x4a3 (ss_of hx hy e) fun i j t u e94 e95 e => ?_; subst e94 e95)
   (injection e with e; injection e with e; subst e)
   exact fun T s r => PySem.P.le_str ⟨F, FM.le.refl F, r, vr_bool⟩
 | Gt => exact ii_k hx hy e (G := CmpG c A F .Gt) fun i j t u T s r => PyProof.Rows.gt_int ⟨F, FM.le.refl F, r, vr_bool⟩
 | GtE => exact ii_k hx hy e (G := CmpG c A F .GtE) fun i j t u T s r => PyProof.Rows.ge_int ⟨F, FM.le.refl F, r, vr_bool⟩
 | In => exact fun T s r => (pu_in r hu e hC hx hy).1 ⟨F, FM.le.refl F, r, vr_bool⟩
 | NotIn =>
  (refine x1a2 (negO_of e) fun p e' e92 => ?_; subst e92)
  exact fun T s r => (pu_in r hu e' hC hx hy).2 ⟨F, FM.le.refl F, r, vr_bool⟩
 | Is =>
  (refine x0a2 (isV_of e hx hy) fun e90 h => ?_; subst e90)
  exact fun T s r => is_none ⟨F, FM.le.refl F, r, by refine rG h ?_; exact vr_bool⟩
 | IsNot =>
  (refine x1a2 (negO_of e) fun p e' e92 => ?_; subst e92)
  (refine x0a2 (isV_of e' hx hy) fun e90 h => ?_; subst e90)
  exact fun T s r => isNot_none ⟨F, FM.le.refl F, r, by refine rG h ?_; exact vr_bool⟩
noncomputable def subV : MV → MV → Option (MV × List Prop)
 | .tup l, .int i => some (l.getD i.toNat .none, [0 ≤ i, i < l.length, l.length < 1000000])
 | .lst l, .int i => some (l.getD i.toNat .none, [0 ≤ i, i < l.length, l.length < 1000000])
 | _, _ => none
theorem pu_sub {value slice : Expr} {z : MV} {C : List Prop} (e : subV x y = some (z, C)) (hC : AllP C) (hx : VR F x a) (hy : VR F y b)
  (hs : ∀ o i, subscripted slice false o i = operate [o, i] (getItem o i)) (ht : ∀ o r, letTemporaryGo value o r = pure ()) : Pu c A F (subscriptTail value slice a b) V z := fun T s r => by
 unfold subV at e
 split at e
 ·rename_i l i
  cases e
  obtain ⟨h0, h1, h2, _⟩ := hC
  simp only [VR] at hx hy
  obtain ⟨t, o, vs, n, rfl, e2, r1, r2, r3⟩ := hx
  obtain ⟨u, rfl⟩ := hy
  have hlen := r3.len
  have hi : i.toNat < l.length := by lia
  obtain ⟨v, ev, hv⟩ := r3.get (i := i.toNat) (m := l.getD i.toNat .none) (by (refine rG List.getD_eq_getElem?_getD ?_; refine rG (List.getElem?_eq_getElem hi) ?_); rfl)
  refine subscriptTail_builtin (T := "tuple") ⟨o, (r.fz _ _ e2).1, r1⟩ slot_tuple_getitem.lookup (getItem_tuple (j := i.toNat) ⟨o, (r.fz _ _ e2).1, r1, n, r2⟩ (by lia) (by lia) ?_ (by simpa using ev) ⟨F, FM.le.refl F, r, hv⟩) (hs _ _) (ht _)
  have : vs.size = l.length := by simpa using hlen
  have hj : (if i < 0 then i + (l.length : Int) else i) = i := if_neg (by lia)
  unfold seqIndex?
  refine rG this ?_
  simp only [hj]
  exact if_pos (by simp only [Bool.and_eq_true, decide_eq_true_eq]; lia)
 ·rename_i l i
  cases e
  obtain ⟨h0, h1, h2, _⟩ := hC
  simp only [VR] at hx hy
  obtain ⟨t, o, vs, n, rfl, e2, r1, r2, r3⟩ := hx
  obtain ⟨u, rfl⟩ := hy
  have hi : i.toNat < l.length := by lia
  obtain ⟨v, ev, hv⟩ := r3.get (i := i.toNat) (m := l.getD i.toNat .none) (by (refine rG List.getD_eq_getElem?_getD ?_; refine rG (List.getElem?_eq_getElem hi) ?_); rfl)
  exact subscriptTail_builtin (T := "list") ⟨o, (r.fz _ _ e2).1, r1⟩ slot_list_getitem.lookup (wpAny_getItem_list ⟨o, (r.fz _ _ e2).1, r1, n, r2⟩ h0 (by lia) (by simpa using ev) ⟨F, FM.le.refl F, r, hv⟩) (hs _ _) (ht _)
 ·injection e
end
end Mine
end
section
set_option backward.match.sparseCases false
open PySem PySem.W PySem.W.X PyProof.Rows PySem.Calls
open Builtin Builtin.ObjectAttr
namespace Mine
noncomputable def setL {α : Type} : List (Str × α) → Str → α → List (Str × α)
 | [], n, v => [(n, v)]
 | (k, x) :: r, n, v => if k = n then (k, v) :: r else (k, x) :: setL r n v
theorem lookup_cons_str {α : Type} (k : Str) (x : α) (r : List (Str × α)) (y : Str) : ((k, x) :: r).lookup y = if y = k then some x else r.lookup y := by
 refine rG List.lookup_cons ?_
 by_cases h : y = k
 ·subst h; simp
 ·(refine rG (if_neg h) ?_; refine rG (beq_eq_false_iff_ne.mpr h) ?_; rfl)
theorem lookup_setL {α : Type} : ∀ (l : List (Str × α)) (n : Str) (v : α) (y : Str), (setL l n v).lookup y = if y = n then some v else l.lookup y
 | [] => by intro n v y; (rewrite [setL]; refine rG (lookup_cons_str ..) ?_; rfl)
 | (k, x) :: r => by
  intro n v y
  rw [setL]
  by_cases h : k = n
  ·(refine rG (if_pos h) ?_; refine rG (lookup_cons_str ..) ?_; refine rG (lookup_cons_str ..) ?_; refine rG h ?_)
   by_cases hy : y = n <;> simp [hy]
  ·(refine rG (if_neg h) ?_; refine rG (lookup_cons_str ..) ?_; rewrite [lookup_setL r]; refine rG (lookup_cons_str ..) ?_)
   by_cases hy : y = k
   ·subst hy; simp [h]
   ·simp [hy]
theorem length_setL_ge {α : Type} : ∀ (l : List (Str × α)) (n : Str) (v : α), l.length ≤ (setL l n v).length
 | [] => by intro n v; simp [setL]
 | (k, x) :: r => by
  intro n v
  rw [setL]; split
  ·simp
  ·simp only [List.length_cons]; have := length_setL_ge r n v; lia
theorem length_setL_new {α : Type} : ∀ (l : List (Str × α)) (n : Str) (v : α), l.lookup n = none → (setL l n v).length = l.length + 1
 | [] => by intro n v _; simp [setL]
 | (k, x) :: r => by
  intro n v h
  rw [lookup_cons_str] at h
  by_cases hk : n = k
  ·rw [if_pos hk] at h; injection h
  ·rw [if_neg hk] at h
   (rewrite [setL]; refine rG (if_neg (fun e => hk e.symm)) ?_; refine rG List.length_cons ?_; refine rG (length_setL_new r n v h) ?_; refine rG List.length_cons ?_; rfl)
theorem KVs.setL {F : FM} {n : Str} {m : MV} {v : Value} (hv : VR F m v) : ∀ {l : List (Str × MV)} {kvs : List (Str × Value)}, KVs F l kvs → KVs F (setL l n m) (Mine.setL kvs n v)
 | [] => by rename_i _; intro h; simp only [KVs] at h; subst h; exact i2a3 v ([]) rfl hv rfl
 | (k, x) :: l => by
  rename_i _
  intro h
  (refine x2a3 h fun u r e92 h1 h2 => ?_; subst e92)
  simp only [Mine.setL]
  split
  ·exact i2a3 v r rfl hv h2
  ·exact i2a3 u _ rfl h1 (h2.setL hv)
theorem KVs.lookup {F : FM} {n : Str} : ∀ {l : List (Str × MV)} {kvs : List (Str × Value)}, KVs F l kvs → OVR F (l.lookup n) (kvs.lookup n)
 | [] => by rename_i _; intro h; simp only [KVs] at h; subst h; rfl
 | (k, x) :: l => by
  rename_i _
  intro h
  (refine x2a3 h fun u r e92 h1 h2 => ?_; subst e92)
  (refine rG (lookup_cons_str ..) ?_; refine rG (lookup_cons_str ..) ?_)
  split
  ·exact i1a2 u rfl h1
  ·exact h2.lookup
theorem KVs.zip {F : FM} : ∀ {l : List (Str × MV)} {kvs : List (Str × Value)}, KVs F l kvs → kvs = (l.map (·.1)).zip (kvs.map (·.2)) ∧ VRs F (l.map (·.2)) (kvs.map (·.2)) ∧ (kvs.map (·.2)).length = (l.map (·.1)).length
 | [] => by rename_i _; intro h; simp only [KVs] at h; subst h; exact ⟨rfl, VRs.nil, rfl⟩
 | (k, x) :: l => by
  rename_i _
  intro h
  (refine x2a3 h fun u r e92 h1 h2 => ?_; subst e92)
  refine x0a3 h2.zip fun a b d => ?_
  refine ⟨?_, .cons h1 b, by simpa using d⟩
  show (k, u) :: r = (k, u) :: ((l.map (·.1)).zip (r.map (·.2)))
  (refine rL a ?_; rfl)
noncomputable def MV.handed : MV → Bool
 | .raw v => handedIn v
 | _ => true
theorem handed_of {F : FM} {m : MV} {v : Value} (h : VR F m v) (e : m.handed = true) : handedIn v = true := by
 cases m <;> simp only [VR] at h
 ·subst h; rfl
 ·subst h; rfl
 ·(refine x1a1 h fun t e91 => ?_; subst e91); rfl
 ·(refine x1a1 h fun t e91 => ?_; subst e91); rfl
 ·subst h; exact e
 ·obtain ⟨t, _, _, _, rfl, _⟩ := h; rfl
 ·obtain ⟨t, _, _, _, rfl, _⟩ := h; rfl
 ·obtain ⟨t, _, _, rfl, _⟩ := h; rfl
 ·obtain ⟨t, _, _, _, _, _, _, _, rfl, _⟩ := h; rfl
 ·obtain ⟨t, _, _, _, rfl, _⟩ := h; rfl
theorem lookIn_ns {name : Str} {o : Obj} {es ep} (hd : o.data = .dict es ep) (hk : StrKeys es) : lookIn name o = some (nsFind es name) := by
 unfold lookIn
 refine rG hd ?_
 dsimp only
 unfold nsFind findBy
 refine rL Array.find?_toList ?_
 cases q : es.toList.find? (·.key.isStr name) with
 | some e => rfl
 | none =>
  have : es.toList.any (·.refKey) = false := by
   rw [List.any_eq_false]; intro e he; obtain ⟨n, t, h⟩ := hk e (by simpa using he); simp [DictEntry.refKey, h]
  simp only [Option.map_none, this, Bool.false_eq_true, if_false]
noncomputable def plainAttr (K : Frag) (C : Addr) (name : Str) : Bool := (clsIn K C).any (fun cd => cd.hasDict) && findIn K (.ref C) name == some none && findIn K (.ref C) "__getattribute__" == some (some (.builtin "object.__getattribute__"))
section
variable {prog : Program} {w : World} {A : Around} {E : Value → Shared → Prop} {s : Shared} {K : Frag} {x C d : Addr} {od : Obj} {name : Str} {expr : Bool}
theorem instAt (hx : s.heap.get? x = some (instObj C d)) (hd : s.heap.get? d = some od) : InstAt s.heap x (instObj C d) C (some od) := ⟨hx, rfl, rfl, hd⟩
theorem getA_val {v : Value} {Q : Value → Shared → Prop} (X : K.In s.heap) (hx : s.heap.get? x = some (instObj C d)) (hd : s.heap.get? d = some od) (hl : lookIn name od = some (some v))
  (hc : plainAttr K C name = true) (hh : handedIn v = true) (h : Q v { s with toks := s.toks + 1 }) : wpAny (model prog w) A (getAttr (.ref x) name expr) Q E s := by
 simp only [plainAttr, Bool.and_eq_true, beq_iff_eq] at hc
 obtain ⟨⟨h1, h2⟩, h3⟩ := hc
 refine x1a2 (any_some h1) fun cd hcd hhd => ?_
 refine get_value X (instAt hx hd) h3 ?_ hh h
 unfold findObj
 (refine rG hcd ?_; refine rG h2 ?_)
 simp only [Option.bind_some, PySem.W.ownOf, hhd, if_true, hl]
noncomputable def methOf (K : Frag) (C : Addr) (name : Str) (f : Addr) : Bool := findIn K (.ref C) "__getattribute__" == some (some (.builtin "object.__getattribute__")) && findIn K (.ref C) "__getattr__" == some none &&
 findIn K (.ref C) name == some (some (.ref f)) && typeIn K (.ref f) == some (.type "function")
theorem getM {f : Addr} {pl : Sem Bool} {Q : Value × List Value → Shared → Prop} (X : K.In s.heap) (hx : s.heap.get? x = some (instObj C d)) (hd : s.heap.get? d = some od) (hl : lookIn name od = some none)
  (hc : methOf K C name f = true) (h : Q (.ref f, [.ref x]) s) : wpAny (model prog w) A (getMethod (.ref x) name pl) Q E s := by
 simp only [methOf, Bool.and_eq_true, beq_iff_eq] at hc
 obtain ⟨⟨⟨h1, h2⟩, h3⟩, h4⟩ := hc
 refine method_fn X (instAt hx hd) h1 h2 h3 h4 ?_ h
 show (lookIn name od).map _ = _
 refine rG hl ?_; rfl
noncomputable def storable (K : Frag) (C : Addr) (name : Str) : Bool := findIn K (.ref C) "__setattr__" == some (some (.builtin "object.__setattr__")) && plainOver K C && takerIn K C name == some none && (clsIn K C).any (fun cd => cd.hasDict)
theorem setA {F : FM} {l : List (Str × MV)} {m : MV} {v : Value} {Q : Unit → Shared → Prop} (X : K.In s.heap) (hx : s.heap.get? x = some (instObj C d)) (hR : Rep w F s.heap d (.attrs l)) (hc : storable K C name = true) (hv : VR F m v) (hz : l.length ≤ 100)
  (h : ∀ h' tk, Heap.SameBut d s.heap h' → Rep w F h' d (.attrs (setL l name m)) → Q () { s with heap := h', toks := tk }) : wpAny (model prog w) A (setAttr (.ref x) name v) Q E s := by
 simp only [storable, Bool.and_eq_true, beq_iff_eq] at hc
 obtain ⟨⟨⟨h1, h2⟩, h3⟩, h4⟩ := hc
 refine x1a2 (any_some h4) fun cd hcd hhd => ?_
 obtain ⟨o, es, ep, kvs, ho, r1, r2, r3, r4, r5, r6⟩ := hR
 refine set_plain X (instAt hx ho) h1 (osa_open (s := { s with toks := s.toks + 1 }) X (instAt hx ho) h2 h3 fun b => ?_)
 have hany : es.any (·.refKey) = false := by
  rw [Array.any_eq_false']; intro e he; obtain ⟨n, t, h⟩ := (r3 e he); simp [DictEntry.refKey, h]
 refine wpAny_bind (wpAny_pure (wpAny_bind (wpAny_bind (wpAny_loadPart (s := { s with toks := s.toks + 1 }) hx (wpAny_bind ((looks_clsIn X hcd).at ?_))))))
 refine rG hhd ?_
 refine wpAny_pure (a := some d) (wpAny_bind (wpAny_pure (wpAny_bind ?_)))
 unfold nsSet
 refine wpAny_bind (wpAny_bind (wpAny_askSetting (wpAny_pure (wpAny_bind (wpAny_mkText (wpAny_bind (wpAny_loadPart (s := { s with toks := s.toks + 1 + 1 }) ho ?_)))))))
 refine rG r2 ?_
 dsimp only
 (refine rG (aRefKeyMayBeTheName_at ..) ?_; refine rG hany ?_; refine rG (Bool.and_false ..) ?_)
 refine wpAny_updatePart (s := { s with toks := s.toks + 1 + 1 }) ho ?_
 have hfind : nsFind es name = kvs.lookup name := r5 name
 obtain ⟨oc, odd, odt, osl⟩ := o
 dsimp only at r1 r2
 subst r1 r2
 have step : ∃ es' ep', Obj.putName name (PyData.keyHash w.params name) (.str name (s.toks + 1)) v ⟨.type "dict", odd, .dict es ep, osl⟩ = ⟨.type "dict", odd, .dict es' ep', osl⟩ ∧ StrKeys es' ∧ es'.size ≤ (setL l name m).length ∧ ∀ n, nsFind es' n = (setL kvs name v).lookup n := by
  (refine rG Obj.putName_eq ?_; rewrite [Obj.putNameByArray])
  cases hi : es.findIdx? (·.key.isStr name) with
  | some i =>
   refine i2a4 _ ep rfl (r3.modify _ _) ?_ (fun n => ?_)
   ·refine rG Array.size_modify ?_; exact Nat.le_trans r4 (length_setL_ge _ _ _)
   ·(refine rG (lookup_setL ..) ?_; refine rL (r5 n) ?_); exact findBy_modify (fun n v => v.isStr n) Value.isStr_inj es name n v i hi
  | none =>
   have hnone : kvs.lookup name = none := by
    refine rL hfind ?_; unfold nsFind; (refine rG (findBy_of_findIdx? ..) ?_; refine rG hi ?_; rfl)
   have hl : l.lookup name = none := by
    have := r6.lookup (n := name)
    rw [hnone] at this
    cases q : l.lookup name with
    | none => rfl
    | some x => rw [q] at this; obtain ⟨_, e, _⟩ := this; cases e
   refine i2a4 _ (ep + 1) rfl (r3.push _ _ _ _) ?_ (fun n => ?_)
   ·(refine rG (Array.size_push ..) ?_; refine rG (length_setL_new _ _ _ hl) ?_); lia
   ·(refine rG (lookup_setL ..) ?_; refine rL (r5 n) ?_)
    exact findBy_push (fun n v => v.isStr n) es name n _ _ v (fun y => by
     show (name == y) = decide (y = name)
     by_cases h : y = name
     ·subst h; simp
     ·have : ¬ name = y := fun e => h e.symm
      simp [h, this]) hi
 obtain ⟨es', ep', hput, k1, k2, k3⟩ := step
 have hlen : (setL l name m).length ≤ 101 := by
  have : ∀ (l : List (Str × MV)), (setL l name m).length ≤ l.length + 1 := by
   intro l
   induction l with
   | nil => simp [setL]
   | cons p r ih =>
    obtain ⟨k, x⟩ := p
    rw [setL]; split
    ·simp
    ·simp only [List.length_cons]; lia
  have := this l; lia
 have D' : (s.heap.update d (Obj.putName name (PyData.keyHash w.params name) (.str name (s.toks + 1)) v)).get? d = some ⟨.type "dict", odd, .dict es' ep', osl⟩ := by
  refine rL hput ?_; exact Heap.get?_update_self _ ho (by refine rG hput ?_; rfl)
 refine wpAny_bind (wpAny_lookBehind (s := { s with heap := _, toks := _ }) D' (pastItsLine_dict (by refine rG sizeLine_eq ?_; lia)) ?_)
 exact wpAny_pure (h _ _ (Heap.SameBut.update ..) ⟨_, es', ep', _, D', rfl, rfl, k1, k2, k3, r6.setL hv⟩)
end
end Mine
namespace Mine
noncomputable def gn (n : String) (v : Value) : Str × Value := (Str.ofString n, v)
noncomputable def gtab : List (Str × Value) := [gn "_law_pool" (.ref 1280), gn "_law_take" (.ref 1287), gn "_law_one" (.ref 1294), gn "_law_lot" (.ref 1299), gn "_law_told" (.ref 1304), gn "_law_node" (.ref 1309), gn "_law_key" (.ref 1316), gn "_law_rows" (.ref 1321), gn "_law_spot" (.ref 1328), gn "_law_do" (.ref 1333), gn "_law_change" (.ref 1340), gn "_law_ran" (.ref 1347), gn "fold" (.ref 605), gn "explicit_collation" (.ref 667), gn "collation_of" (.ref 682), gn "output_info" (.ref 768), gn "open_keys" (.ref 775), gn "put_key" (.ref 782), gn "walk_all" (.ref 935), gn "write_body" (.ref 1006), gn "write_compound" (.ref 1013), gn "write_other" (.ref 1020), gn "Literal" (.ref 112), gn "Collate" (.ref 448), gn "Core" (.ref 526), gn "Values" (.ref 550), gn "Compound" (.ref 576), gn "KeyInfo" (.ref 759), gn "OperatorCoder" (.ref 1173), gn "Program" (.ref 1269), gn "JUMPS" (.ref 1178), gn "len" (.builtin "len"), gn "max" (.builtin "max"), gn "isinstance" (.builtin "isinstance"), gn "sorted" (.builtin "sorted"), gn "range" (.type "range"), gn "zip" (.type "zip"), gn "int" (.type "int"), gn "str" (.type "str"), gn "list" (.type "list"), gn "tuple" (.type "tuple")]
noncomputable def gchk (p : Params) (x : Str) (v : Value) : Bool := match nsIn (Ks p) mainGlobals x with
 | some (some u) => decide (u = v)
 | some none => !(x == "__name__") && decide (bootBuiltins x = some v)
 | none => false
theorem gtab_ok (p : Params) : (gtab.all fun x => gchk p x.1 x.2) = true := by kernel_rfl
theorem all_lookup {α : Type} {f : Str → α → Bool} : ∀ {l : List (Str × α)}, (l.all fun x => f x.1 x.2) = true → ∀ {x : Str} {v : α}, l.lookup x = some v → f x v = true
 | [] => by intro _ _ _ e; injection e
 | (k, a) :: r => by
  intro h x v e
  rw [List.all_cons, Bool.and_eq_true] at h
  rw [lookup_cons_str] at e
  by_cases hx : x = k
  ·rw [if_pos hx] at e; (injection e with e; subst e); subst hx; exact h.1
  ·rw [if_neg hx] at e; exact all_lookup h.2 e
noncomputable def nameV (env : Env) (m cm : LM) (x : Str) : Option MV :=
 if (x == ("__debug__" : Str)) = true then none else
 match env.kindOf x with
 | some .local => m x
 | some .cell => if (env.cells.lookup x).isSome then (cm x).map unfz else none
 | some .free => if (x == ("__classdict__" : Str)) = true then none else if (env.cells.lookup x).isSome then (cm x).map unfz else none
 | some .globalImplicit => (gtab.lookup x).map .raw
 | _ => none
section
variable {c : Cx} {A : Around} {env : Env} {m cm : LM} {H : TM}
theorem puN_name {x pos v} (F : FM) (e : nameV env m cm x = some v) : PuN c A env m cm H F (eval (.Name x pos) env) V v := by
 unfold nameV at e
 split at e
 ·injection e
 ·rename_i hd
  have hd : (x == ("__debug__" : Str)) = false := by simpa using hd
  split at e
  ·rename_i hk; exact puN_local F hd hk e
  ·rename_i hk
   split at e
   ·rename_i hs
    refine x1a1 (Option.isSome_iff_exists.mp hs) fun a ha => ?_
    (refine x1a2 (Option.map_eq_some_iff.mp e) fun u e' e92 => ?_; subst e92)
    exact puN_cell F hd hk ha e'
   ·injection e
  ·rename_i hk
   split at e
   ·injection e
   ·rename_i h2
    split at e
    ·rename_i hs
     refine x1a1 (Option.isSome_iff_exists.mp hs) fun a ha => ?_
     (refine x1a2 (Option.map_eq_some_iff.mp e) fun u e' e92 => ?_; subst e92)
     exact puN_free F hd (by simpa using h2) hk ha e'
    ·injection e
  ·rename_i hk
   rw [Option.map_eq_some_iff] at e
   obtain ⟨u, e, rfl⟩ := e
   have := all_lookup (gtab_ok c.w.params) e
   unfold gchk at this
   split at this
   ·rename_i q; rw [of_decide_eq_true this] at q; exact puN_global F hd hk q
   ·rename_i q
    rw [Bool.and_eq_true] at this
    exact puN_builtin F hd hk q (by have := this.1; simp only [Bool.not_eq_true'] at this; exact fun e => by rw [e] at this; simp at this) (of_decide_eq_true this.2)
   ·cases this
  ·injection e
end
inductive Own where
 | obj (C : Addr) (l : List (Str × MV))
 | list (l : List MV)
 | idict (l : List (Int × MV))
 | sdict (l : List (Str × MV))
noncomputable def Own.at (H : TM) (a : Addr) : Own → Prop
 | .obj C l => ∃ d, H a = some (.exact (instObj C d)) ∧ H d = some (.attrs l)
 | .list l => ∃ x, H a = some x ∧ IsLst x l
 | .idict l => H a = some (.idict l) ∨ ∃ o, H a = some (.pin o l)
 | .sdict l => H a = some (.sdict l)
noncomputable abbrev On := Str → Option Own
noncomputable def On.none : On := fun _ => Option.none
noncomputable def OnOk (env : Env) (m cm : LM) (H : TM) (on : On) : Prop := ∀ n o, on n = some o → ∃ a, nameV env m cm n = some (.raw (.ref a)) ∧ o.at H a
theorem OnOk.none {env m cm H} : OnOk env m cm H On.none := fun _ _ e => nomatch e
noncomputable def isTrueV : MV → Option Bool
 | .bool b => some b
 | .none => some false
 | .int i => some (decide (i ≠ 0))
 | .str s => if s.length < 1000000 then some ((s.length : Int) != 0) else none
 | _ => none
noncomputable def Rm (A : Around) : Prop := A.handled = none ∧ A.units + 70 < cLine
noncomputable def notInst (p : Params) (D C : Addr) : Bool := kin_not (Ks p) D C && plainGet (Ks p) D "__class__" && hasDictIn (Ks p) D && findIn (Ks p) (.ref D) "__class__" == some (some (.builtin "object.__class__")) &&
 specialIn (Ks p) (.builtin "object.__class__") "__get__" == some (some (.builtin "getset_descriptor.__get__")) && takesIn (Ks p) (.builtin "object.__class__") == some true && mroIn (Ks p) D (.type "object") == some true
noncomputable def seqV : MV → Option (List MV)
 | .lst l => some l
 | .tup l => some l
 | _ => none
noncomputable def isStrV : MV → Option Bool
 | .str _ => some true
 | .int _ => some false
 | .none => some false
 | _ => none
noncomputable def arg1 {γ : Type} (l : List MV) (f : MV → Option γ) : Option γ := match l with
 | [] => none
 | x :: r => match r with
  | [] => f x
  | _ :: _ => none
noncomputable def arg2 {γ : Type} (l : List MV) (f : MV → MV → Option γ) : Option γ := match l with
 | [] => none
 | x :: r => arg1 r (f x)
theorem arg1_of {γ : Type} {l : List MV} {f : MV → Option γ} {z : γ} (e : arg1 l f = some z) : ∃ x, l = [x] ∧ f x = some z := by
 cases l with
 | nil => injection e
 | cons x r => cases r with
  | nil => exact i1a2 x rfl e
  | cons => injection e
theorem arg2_of {γ : Type} {l : List MV} {f : MV → MV → Option γ} {z : γ} (e : arg2 l f = some z) : ∃ x y, l = [x, y] ∧ f x y = some z := by
 cases l with
 | nil => injection e
 | cons x r =>
  (refine x1a2 (arg1_of e) fun y e91 e => ?_; subst e91)
  exact i2a2 x y rfl e
theorem ite_of {α : Type} {p : Prop} [Decidable p] {a b : Option α} {z : α} (e : (if p then a else b) = some z) : (p ∧ a = some z) ∨ b = some z := by
 by_cases h : p
 ·rw [if_pos h] at e; exact .inl ⟨h, e⟩
 ·rw [if_neg h] at e; exact .inr e
noncomputable def omp {α β : Type} (o : Option α) (f : α → β) : Option β := match o with
 | some a => some (f a)
 | none => none
theorem omp_of {α β : Type} {o : Option α} {f : α → β} {z : β} (e : omp o f = some z) : ∃ a, o = some a ∧ z = f a := by
 cases o with
 | none => injection e
 | some a => (injection e with e; subst e); exact i1a2 a rfl rfl
noncomputable def intC (x : MV) : Option (MV × List Prop) := match x with
 | .int i => some (.int i, [])
 | .bool b => some (.int (if b then 1 else 0), [])
 | _ => none
noncomputable def lenC (x : MV) : Option (MV × List Prop) := omp (seqV x) fun l => (.int l.length, [l.length < 1000000])
noncomputable def maxC (x y : MV) : Option (MV × List Prop) := on2 x.int? y.int? fun a b => some (.int (if b > a then b else a), [])
noncomputable def lstC (x : MV) : Option (MV × List Prop) := omp (seqV x) fun l => (.lst l, [l.length < 1000000])
noncomputable def tupC (x : MV) : Option (MV × List Prop) := match x with
 | .lst l => some (.tup l, [l.length < 1000000])
 | .tup l => some (.tup l, [])
 | _ => none
noncomputable def insR (p : Params) (D : Addr) (x : MV) : Option (MV × List Prop) := match x with
 | .obj C _ _ => if C = D then some (.bool true, []) else if notInst p C D then some (.bool false, []) else none
 | _ => none
noncomputable def insT (t : String) (x : MV) : Option (MV × List Prop) := if t = "str" then omp (isStrV x) fun b => (.bool b, []) else none
noncomputable def insC (p : Params) (x y : MV) : Option (MV × List Prop) := match y with
 | .raw v => (match v with
  | .ref D => insR p D x
  | .type t => insT t x
  | _ => none)
 | _ => none
noncomputable def rngC (x : MV) : Option (MV × List Prop) := match x with
 | .int n => some (.rng n.toNat, [0 ≤ n])
 | _ => none
noncomputable def callV (p : Params) (f : Value) (args : List MV) : Option (MV × List Prop) :=
 if f = .type "int" then arg1 args intC
 else if f = .builtin "len" then arg1 args lenC
 else if f = .builtin "max" then arg2 args maxC
 else if f = .type "list" then arg1 args lstC
 else if f = .type "tuple" then arg1 args tupC
 else if f = .builtin "isinstance" then arg2 args (insC p)
 else if f = .type "range" then arg1 args rngC
 else none
section
variable {c : Cx} {A : Around} {F : FM}
theorem isinst_same {x C : Addr} {ox : Obj} {G : Value → Shared → Prop} {s : Shared} (hx : s.heap.get? x = some ox) (hc : ox.cls = .ref C) (h : G (.bool true) s) :
  wpAny (model P c.w) A (call (.builtin "isinstance") [.ref x, .ref C]) G NoE s := by
 refine call_isinstance_of ?_ (by intro e; injection e)
 unfold Builtin.«isinstance.nested»
 refine wpAny_bind (m := typeOf (.ref x)) (wpAny_bind (wpAny_loadPart hx (wpAny_pure ?_)))
 refine rG hc ?_
 show wpAny _ _ (if (Value.ref C == Value.ref C) = true then _ else _) _ _ s
 refine rG (if_pos (by simp)) ?_
 repeat (first | refine wpAny_pure ?_ | refine wpAny_rule ?_ | refine wpAny_bind ?_)
 exact h
theorem VRs.one {F : FM} {x : MV} {l : List Value} (h : VRs F [x] l) : ∃ v, l = [v] ∧ VR F x v := by
 (refine x2a3 h.uncons fun v r e92 h1 h2 => ?_; subst e92); simp only [VRs] at h2; subst h2; exact i1a2 v rfl h1
theorem VRs.two {F : FM} {x y : MV} {l : List Value} (h : VRs F [x, y] l) : ∃ v u, l = [v, u] ∧ VR F x v ∧ VR F y u := by
 (refine x2a3 h.uncons fun v r e92 h1 h2 => ?_; subst e92); (refine x1a2 h2.one fun u e91 h3 => ?_; subst e91); exact i2a3 v u rfl h1 h3
theorem seqV_of {x : MV} {l : List MV} {v : Value} (e : seqV x = some l) (h : VR F x v) : ∃ T', (T' = "list" ∨ T' = "tuple") ∧ SeqR F T' (VRs F l) v := by
 cases x with
 | tup a => (injection e with e; subst e); simp only [VR] at h; exact i1a2 _ (.inr rfl) h
 | lst a => (injection e with e; subst e); simp only [VR] at h; exact i1a2 _ (.inl rfl) h
 | _ => injection e
variable {x y z : MV} {v u : Value} {C : List Prop}
theorem pu_intC (e : intC x = some (z, C)) (hx : VR F x v) : Pu c A F (call (.type "int") [v]) V z := fun T s r => by
 cases x with
 | int i => (injection e with e; injection e with e; subst e); simp only [VR] at hx; (refine x1a1 hx fun t e91 => ?_; subst e91); exact call_int_int ⟨F, FM.le.refl F, r, vr_int⟩
 | bool b => (injection e with e; injection e with e; subst e); simp only [VR] at hx; subst hx; exact call_int_bool ⟨F, FM.le.refl F, r.tok _, vr_int⟩
 | _ => injection e
theorem pu_lenC (e : lenC x = some (z, C)) (hC : AllP C) (hx : VR F x v) : Pu c A F (call (.builtin "len") [v]) V z := fun T s r => by
 obtain ⟨l, hl, e1⟩ := omp_of e
 cases e1
 obtain ⟨T', hT, a, o, vs, n, rfl, e1, e2, e3, e4⟩ := seqV_of hl hx
 have hlen : vs.size = l.length := by simpa using e4.len
 have q : ∀ t, VR F (.int l.length) (.int vs.size t) := fun t => by refine rG hlen ?_; exact vr_int
 have hz := hC.1
 rcases hT with rfl | rfl
 ·exact call_len_list ⟨o, (r.fz _ _ e1).1, e2, n, e3⟩ (by lia) ⟨F, FM.le.refl F, r.tok _, q _⟩
 ·exact PyProof.Rows.len_tuple ⟨o, (r.fz _ _ e1).1, e2, n, e3⟩ (by lia) ⟨F, FM.le.refl F, r.tok _, q _⟩
theorem pu_maxC (hr : Rm A) (e : maxC x y = some (z, C)) (hx : VR F x v) (hy : VR F y u) : Pu c A F (call (.builtin "max") [v, u]) V z := fun T s r => by
 (refine x4a3 (ii_of hx hy e) fun i j t t2 e94 e95 e => ?_; subst e94 e95)
 (injection e with e; injection e with e; subst e)
 refine max_two_ints hr.1 fun h' tk hk => ⟨F, FM.le.refl F, r.ext hk, ?_⟩
 by_cases hab : j > i
 ·(refine rG (if_pos hab) ?_; refine rG (if_pos hab) ?_); exact vr_int
 ·(refine rG (if_neg hab) ?_; refine rG (if_neg hab) ?_); exact vr_int
theorem pu_lstC (e : lstC x = some (z, C)) (hC : AllP C) (hx : VR F x v) : Pu c A F (call (.type "list") [v]) V z := fun T s r => by
 obtain ⟨l, hl, e1⟩ := omp_of e
 cases e1
 obtain ⟨T', hT, a, o, vs, n, rfl, e1, e2, e3, e4⟩ := seqV_of hl hx
 have hlen : vs.size = l.length := by simpa using e4.len
 have hz := hC.1
 refine call_list_seq a hT (r.fz _ _ e1).1 e2 e3 (fun h' c' hk hg => ?_) (by refine rG sizeLine_eq ?_; lia)
 have r1 := (r.ext (h' := h') (tk := s.toks) hk).freezeNew hg r.freshF r.fresh r.size_ng
 refine ⟨_, FM.le_upd r.freshF, r1, ?_⟩
 simp only [V, VR]
 exact ⟨_, _, _, _, rfl, FM.upd_self _ _ _, rfl, rfl, e4.mono (FM.le_upd r.freshF)⟩
theorem pu_tupC (e : tupC x = some (z, C)) (hC : AllP C) (hx : VR F x v) : Pu c A F (call (.type "tuple") [v]) V z := fun T s r => by
 cases x with
 | lst l =>
  cases e
  simp only [VR] at hx
  obtain ⟨a, o, vs, n, rfl, e1, e2, e3, e4⟩ := hx
  have hlen : vs.size = l.length := by simpa using e4.len
  have hz := hC.1
  refine call_tuple_list ⟨o, (r.fz _ _ e1).1, e2, n, e3⟩ (fun h' hk => ?_) (by refine rG sizeLine_eq ?_; lia)
  obtain ⟨k2, r2⟩ := (r.ext (h' := h') (tk := s.toks) hk).pushF (o := { cls := .type "tuple", data := .seq vs }) rfl
  refine ⟨_, k2, r2, ?_⟩
  simp only [V, VR]
  exact ⟨_, _, _, _, rfl, FM.upd_self _ _ _, rfl, rfl, e4.mono k2⟩
 | tup l =>
  (injection e with e; injection e with e; subst e)
  have h2 := hx
  simp only [VR] at hx
  obtain ⟨a, o, vs, n, rfl, e1, e2, e3, e4⟩ := hx
  exact call_tuple_same ⟨o, (r.fz _ _ e1).1, e2, n, e3⟩ ⟨F, FM.le.refl F, r, h2⟩
 | _ => injection e
theorem pu_insR {D : Addr} (e : insR c.w.params D x = some (z, C)) (hx : VR F x v) : Pu c A F (call (.builtin "isinstance") [v, .ref D]) V z := fun T s r => by
 cases x with
 | obj C' ns' vs' =>
  simp only [VR] at hx
  obtain ⟨a, d, us, rfl, e1, ⟨od, es, ep, e2, _⟩, _⟩ := hx
  rcases ite_of e with ⟨rfl, e3⟩ | e
  ·(injection e3 with e3; injection e3 with e3; subst e3)
   exact isinst_same (r.fz _ _ e1).1 rfl ⟨F, FM.le.refl F, r, vr_bool⟩
  ·rcases ite_of e with ⟨hn, e3⟩ | e
   ·(injection e3 with e3; injection e3 with e3; subst e3)
    simp only [notInst, Bool.and_eq_true, beq_iff_eq] at hn
    obtain ⟨⟨⟨⟨⟨⟨n1, n2⟩, n3⟩, n4⟩, n5⟩, n6⟩, n7⟩ := hn
    exact kin_callC r.kin (instAt (r.fz _ _ e1).1 (r.fz _ _ e2).1) n1 n2 n3 n4 n5 n6 n7 ⟨F, FM.le.refl F, r.tok _, vr_bool⟩
   ·injection e
 | _ => injection e
theorem pu_insT {t : String} (e : insT t x = some (z, C)) (hx : VR F x v) : Pu c A F (call (.builtin "isinstance") [v, .type t]) V z := fun T s r => by
 rcases ite_of e with ⟨rfl, e1⟩ | e
 ·refine x1a2 (omp_of e1) fun b hb e2 => ?_
  (injection e2 with e2; subst e2)
  cases x with
  | none => (injection hb with hb; subst hb); simp only [VR] at hx; subst hx; exact IsiPair.NoneType_str ⟨F, FM.le.refl F, r.tok _, vr_bool⟩
  | int i => (injection hb with hb; subst hb); simp only [VR] at hx; (refine x1a1 hx fun t e91 => ?_; subst e91); exact IsiPair.int_str ⟨F, FM.le.refl F, r.tok _, vr_bool⟩
  | str i => (injection hb with hb; subst hb); simp only [VR] at hx; (refine x1a1 hx fun t e91 => ?_; subst e91); exact IsiPair.str_str ⟨F, FM.le.refl F, r, vr_bool⟩
  | _ => injection hb
 ·injection e
theorem pu_ins (e : insC c.w.params x y = some (z, C)) (hx : VR F x v) (hy : VR F y u) : Pu c A F (call (.builtin "isinstance") [v, u]) V z := by
 cases y with
 | raw w =>
  simp only [VR] at hy
  subst hy
  cases u with
  | ref D => exact pu_insR e hx
  | type t => exact pu_insT e hx
  | _ => injection e
 | _ => injection e
theorem pu_rngC (e : rngC x = some (z, C)) (hC : AllP C) (hx : VR F x v) : Pu c A F (call (.type "range") [v]) V z := fun T s r => by
 cases x with
 | int n =>
  cases e
  simp only [VR] at hx
  obtain ⟨t, rfl⟩ := hx
  refine call_range_1 ?_
  obtain ⟨k2, r2⟩ := r.pushF (o := { cls := .type "range", data := .fields #[.int 0 s.toks, .int n t, .int 1 (s.toks + 1)] }) rfl
  refine ⟨_, k2, r2.tok _, ?_⟩
  simp only [V, VR]
  exact ⟨_, s.toks, t, s.toks + 1, rfl, by (refine rG (FM.upd_self ..) ?_; refine rG (Int.toNat_of_nonneg hC.1) ?_; rfl)⟩
 | _ => injection e
theorem pu_call {f : Value} {args : List MV} {vals : List Value} (hr : Rm A) (e : callV c.w.params f args = some (z, C)) (hC : AllP C) (hv : VRs F args vals) : Pu c A F (call f vals) V z := by
 rcases ite_of e with ⟨rfl, e1⟩ | e
 ·(refine x1a2 (arg1_of e1) fun x e91 e => ?_; subst e91); (refine x1a2 hv.one fun v e91 h => ?_; subst e91); exact pu_intC e h
 rcases ite_of e with ⟨rfl, e1⟩ | e
 ·(refine x1a2 (arg1_of e1) fun x e91 e => ?_; subst e91); (refine x1a2 hv.one fun v e91 h => ?_; subst e91); exact pu_lenC e hC h
 rcases ite_of e with ⟨rfl, e1⟩ | e
 ·(refine x2a2 (arg2_of e1) fun x y e92 e => ?_; subst e92); (refine x2a3 hv.two fun v u e92 h h' => ?_; subst e92); exact pu_maxC hr e h h'
 rcases ite_of e with ⟨rfl, e1⟩ | e
 ·(refine x1a2 (arg1_of e1) fun x e91 e => ?_; subst e91); (refine x1a2 hv.one fun v e91 h => ?_; subst e91); exact pu_lstC e hC h
 rcases ite_of e with ⟨rfl, e1⟩ | e
 ·(refine x1a2 (arg1_of e1) fun x e91 e => ?_; subst e91); (refine x1a2 hv.one fun v e91 h => ?_; subst e91); exact pu_tupC e hC h
 rcases ite_of e with ⟨rfl, e1⟩ | e
 ·(refine x2a2 (arg2_of e1) fun x y e92 e => ?_; subst e92); (refine x2a3 hv.two fun v u e92 h h' => ?_; subst e92); exact pu_ins e h h'
 rcases ite_of e with ⟨rfl, e1⟩ | e
 ·(refine x1a2 (arg1_of e1) fun x e91 e => ?_; subst e91); (refine x1a2 hv.one fun v e91 h => ?_; subst e91); exact pu_rngC e hC h
 ·injection e
end
end Mine
namespace Mine
noncomputable def constV : Const → Option MV
 | .none => some .none
 | .bool b => some (.bool b)
 | .int i => some (.int i)
 | .str s => some (.str s)
 | _ => none
noncomputable def notStar (e : Expr) : Bool := match e with
 | .Starred _ _ => false
 | _ => true
noncomputable def notSlice (e : Expr) : Bool := match e with
 | .Slice _ _ _ _ => false
 | _ => true
noncomputable def plainBase (e : Expr) : Bool := match e with
 | .Call _ _ _ _ => false
 | _ => true
noncomputable def one {α β : Type} (u : Option (α × List Prop)) (f : α → Option (β × List Prop)) : Option (β × List Prop) := match u with
 | none => none
 | some p => match f p.1 with
  | none => none
  | some z => some (z.1, p.2 ++ z.2)
noncomputable def two {α β γ : Type} (u : Option (α × List Prop)) (v : Option (β × List Prop)) (f : α → β → Option (γ × List Prop)) : Option (γ × List Prop) := match u with
 | none => none
 | some p => match v with
  | none => none
  | some r => match f p.1 r.1 with
   | none => none
   | some z => some (z.1, p.2 ++ (r.2 ++ z.2))
noncomputable def thru {α β : Type} (u : Option (α × List Prop)) (f : α → Option β) : Option (β × List Prop) := match u with
 | none => none
 | some p => match f p.1 with
  | none => none
  | some z => some (z, p.2)
theorem one_of {α β : Type} {u : Option (α × List Prop)} {f : α → Option (β × List Prop)} {z : β} {C : List Prop} {G : Prop} (e : one u f = some (z, C)) (hC : AllP C) (k : ∀ a C1 D, u = some (a, C1) → f a = some (z, D) → AllP C1 → AllP D → G) : G := by
 cases u with
 | none => injection e
 | some p =>
  cases h : f p.1 with
  | none => simp only [one, h] at e; cases e
  | some q =>
   simp only [one, h] at e
   cases e
   exact k p.1 p.2 q.2 rfl h hC.app.1 hC.app.2
theorem two_of {α β γ : Type} {u : Option (α × List Prop)} {v : Option (β × List Prop)} {f : α → β → Option (γ × List Prop)} {z : γ} {C : List Prop} {G : Prop} (e : two u v f = some (z, C)) (hC : AllP C)
  (k : ∀ a b C1 C2 D, u = some (a, C1) → v = some (b, C2) → f a b = some (z, D) → AllP C1 → AllP C2 → AllP D → G) : G := by
 cases u with
 | none => injection e
 | some p => cases v with
  | none => injection e
  | some r =>
   cases h : f p.1 r.1 with
   | none => simp only [two, h] at e; cases e
   | some q =>
    simp only [two, h] at e
    cases e
    exact k p.1 r.1 p.2 r.2 q.2 rfl rfl h hC.app.1 hC.app.2.app.1 hC.app.2.app.2
theorem thru_of {α β : Type} {u : Option (α × List Prop)} {f : α → Option β} {z : β} {C : List Prop} {G : Prop} (e : thru u f = some (z, C)) (k : ∀ a, u = some (a, C) → f a = some z → G) : G := by
 cases u with
 | none => injection e
 | some p =>
  cases h : f p.1 with
  | none => simp only [thru, h] at e; cases e
  | some q =>
   simp only [thru, h] at e
   cases e
   exact k p.1 rfl h
noncomputable def pureV (o : Option MV) : Option (MV × List Prop) := match o with
 | none => none
 | some v => some (v, [])
theorem pureV_of {o : Option MV} {v : MV} {C : List Prop} (e : pureV o = some (v, C)) : o = some v := by
 cases o with
 | none => injection e
 | some u => (injection e with e; injection e with e; subst e); rfl
noncomputable def boolV (o : Option (Bool × List Prop)) : Option (MV × List Prop) := match o with
 | none => none
 | some p => some (.bool p.1, p.2)
theorem boolV_of {o : Option (Bool × List Prop)} {v : MV} {C : List Prop} (e : boolV o = some (v, C)) : ∃ b, o = some (b, C) ∧ v = .bool b := by
 cases o with
 | none => injection e
 | some u => cases e; exact i1a2 u.1 rfl rfl
noncomputable def one1 {α β γ : Type} (l : List α) (r : List β) (f : α → β → Option γ) : Option γ := match l with
 | [] => none
 | a :: l => match l with
  | _ :: _ => none
  | [] => match r with
   | [] => none
   | b :: r => match r with
    | _ :: _ => none
    | [] => f a b
theorem one1_of {α β γ : Type} {l : List α} {r : List β} {f : α → β → Option γ} {z : γ} (e : one1 l r f = some z) : ∃ a b, l = [a] ∧ r = [b] ∧ f a b = some z := by
 cases l with
 | nil => injection e
 | cons a l => cases l with
  | cons => injection e
  | nil => cases r with
   | nil => injection e
   | cons b r => cases r with
    | cons => injection e
    | nil => exact i2a3 a b rfl rfl e
noncomputable def iff' {γ : Type} (b : Bool) (o : Option γ) : Option γ := match b with
 | true => o
 | false => none
theorem iff'_of {γ : Type} {b : Bool} {o : Option γ} {z : γ} (e : iff' b o = some z) : b = true ∧ o = some z := by
 cases b with
 | true => exact ⟨rfl, e⟩
 | false => injection e
noncomputable def els {α γ : Type} (o : Option α) (f : α → Option γ) (g : Option γ) : Option γ := match o with
 | some a => f a
 | none => g
noncomputable def evsWith (f : Expr → Option (MV × List Prop)) : List Expr → Option (List MV × List Prop)
 | [] => some ([], [])
 | e :: r => iff' (notStar e) (two' (f e) (evsWith f r))
where two' (u : Option (MV × List Prop)) (v : Option (List MV × List Prop)) : Option (List MV × List Prop) := match u with
 | none => none
 | some p => match v with
  | none => none
  | some r => some (p.1 :: r.1, p.2 ++ r.2)
theorem evs_of {f : Expr → Option (MV × List Prop)} {e : Expr} {r : List Expr} {l : List MV} {C : List Prop} (h : evsWith f (e :: r) = some (l, C)) : notStar e = true ∧ ∃ v C1 vs D, f e = some (v, C1) ∧ evsWith f r = some (vs, D) ∧ l = v :: vs ∧ C = C1 ++ D := by
 refine x0a2 (iff'_of h) fun h1 h => ?_
 refine ⟨h1, ?_⟩
 cases hu : f e with
 | none => rw [hu] at h; cases h
 | some p =>
  cases hv : evsWith f r with
  | none => rw [hu, hv] at h; cases h
  | some q => rw [hu, hv] at h; cases h; exact ⟨p.1, p.2, q.1, q.2, rfl, rfl, rfl, rfl⟩
noncomputable def attrV (p : Params) (a : Str) : MV → Option MV
 | .obj C ns vs => if plainAttr (Ks p) C a then (match (ns.zip vs).lookup a with | some v => if v.handed then some v else none | none => none) else none
 | _ => none
noncomputable def ownAttr (p : Params) (a : Str) : Own → Option MV
 | .obj C l => if plainAttr (Ks p) C a then (match l.lookup a with | some v => if v.handed then some v else none | none => none) else none
 | _ => none
noncomputable def look {K α : Type} [DecidableEq K] : List (K × α) → K → Option α
 | [], _ => none
 | (a, v) :: r, k => if a = k then some v else look r k
theorem KVs.look {K : Type} [DecidableEq K] {F : FM} {k : K} {m : MV} : ∀ {l : List (K × MV)} {kvs : List (K × Value)}, KVs F l kvs → Mine.look l k = some m → ∃ v, valueAt kvs k = some v ∧ VR F m v
 | [] => by rename_i _; intro _ e; injection e
 | (a, x) :: l => by
  rename_i _
  intro h e
  (refine x2a3 h fun u r e92 h1 h2 => ?_; subst e92)
  simp only [Mine.look] at e
  by_cases hk : a = k
  ·rw [if_pos hk] at e; (injection e with e; subst e)
   exact i1a2 u (by simp [valueAt, hk]) h1
  ·rw [if_neg hk] at e
   refine x1a2 (h2.look e) fun v e1 e2 => ?_
   exact i1a2 v (by refine rL e1 ?_; simp [valueAt, hk]) e2
theorem KVs.look_none {K : Type} [DecidableEq K] {F : FM} {k : K} : ∀ {l : List (K × MV)} {kvs : List (K × Value)}, KVs F l kvs → Mine.look l k = none → valueAt kvs k = none
 | [] => by rename_i _; intro h _; simp only [KVs] at h; subst h; rfl
 | (a, x) :: l => by
  rename_i _
  intro h e
  (refine x2a3 h fun u r e92 h1 h2 => ?_; subst e92)
  simp only [Mine.look] at e
  by_cases hk : a = k
  ·rw [if_pos hk] at e; injection e
  ·rw [if_neg hk] at e
   refine rL (h2.look_none e) ?_; simp [valueAt, hk]
noncomputable def ownSub (o : Own) (k : MV) : Option (MV × List Prop) := match o with
 | .list l => (match k with
  | .int i => some (l.getD i.toNat .none, [0 ≤ i, i < l.length, l.length < 1000000])
  | _ => none)
 | .idict l => (match k with
  | .int i => (match look l i with | some v => some (v, []) | none => none)
  | _ => none)
 | .sdict l => (match k with
  | .str i => (match look l i with | some v => some (v, []) | none => none)
  | _ => none)
 | .obj _ _ => none
noncomputable def conOf (e : Expr) : Option Const := match e with
 | .Constant k _ _ => some k
 | _ => none
noncomputable def natC (k : Const) : Option Nat := match k with
 | .int z => (match z with
  | .ofNat n => some n
  | .negSucc _ => none)
 | _ => none
noncomputable def litIdx (e : Expr) : Option Nat := match conOf e with
 | some k => natC k
 | none => none
theorem conOf_of {e : Expr} {k : Const} (h : conOf e = some k) : ∃ u pos, e = .Constant k u pos := by
 cases e with
 | Constant q u pos => (injection h with h; subst h); exact ⟨u, pos, rfl⟩
 | _ => injection h
theorem natC_of {k : Const} {j : Nat} (h : natC k = some j) : k = .int (j : Int) := by
 cases k with
 | int z => cases z with
  | ofNat n => (injection h with h; subst h); rfl
  | negSucc => injection h
 | _ => injection h
noncomputable def subLit (l : List MV) (j : Nat) : Option (MV × List Prop) := match l[j]? with
 | some z => if l.length < 1000000 then some (z, []) else none
 | none => none
noncomputable def ownSubL (q : Option Nat) (o : Own) (k : MV) : Option (MV × List Prop) := match q with
 | none => ownSub o k
 | some j => match o with
  | .list l => subLit l j
  | .idict l => ownSub (.idict l) k
  | .sdict l => ownSub (.sdict l) k
  | .obj a l => ownSub (.obj a l) k
noncomputable def subVL (q : Option Nat) (a b : MV) : Option (MV × List Prop) := match q with
 | none => subV a b
 | some j => match a with
  | .tup l => subLit l j
  | .lst l => subLit l j
  | _ => subV a b
theorem subLit_of {l : List MV} {j : Nat} {z : MV} {D : List Prop} (e : subLit l j = some (z, D)) : z = l.getD (Int.toNat (j : Int)) .none ∧ AllP [(0 : Int) ≤ (j : Int), (j : Int) < (l.length : Int), l.length < 1000000] := by
 unfold subLit at e
 cases hj : l[j]? with
 | none => rw [hj] at e; cases e
 | some w =>
  rw [hj] at e
  dsimp only at e
  by_cases hl : l.length < 1000000
  ·rw [if_pos hl] at e
   cases e
   have hj' : j < l.length := (List.getElem?_eq_some_iff.mp hj).1
   exact ⟨by (refine rG (Int.toNat_natCast ..) ?_; refine rG List.getD_eq_getElem?_getD ?_; refine rG hj ?_); rfl, Int.natCast_nonneg j, Int.ofNat_lt.mpr hj', hl, trivial⟩
  ·rw [if_neg hl] at e; cases e
theorem ownSubL_of {q : Option Nat} {o : Own} {k z : MV} {D : List Prop} (hq : ∀ j, q = some j → k = .int (j : Int)) (e : ownSubL q o k = some (z, D)) (hD : AllP D) : ∃ D', ownSub o k = some (z, D') ∧ AllP D' := by
 cases q with
 | none => exact i1a2 D e hD
 | some j => cases o with
  | list l =>
   refine x0a2 (subLit_of e) fun h1 h2 => ?_
   refine rG (hq j rfl) ?_
   exact i1a2 _ (by refine rG h1 ?_; rfl) h2
  | _ => exact i1a2 D e hD
theorem subVL_of {q : Option Nat} {o k z : MV} {D : List Prop} (hq : ∀ j, q = some j → k = .int (j : Int)) (e : subVL q o k = some (z, D)) (hD : AllP D) : ∃ D', subV o k = some (z, D') ∧ AllP D' := by
 cases q with
 | none => exact i1a2 D e hD
 | some j => cases o with
  | tup l =>
   refine x0a2 (subLit_of e) fun h1 h2 => ?_
   refine rG (hq j rfl) ?_
   exact i1a2 _ (by refine rG h1 ?_; rfl) h2
  | lst l =>
   refine x0a2 (subLit_of e) fun h1 h2 => ?_
   refine rG (hq j rfl) ?_
   exact i1a2 _ (by refine rG h1 ?_; rfl) h2
  | _ => exact i1a2 D e hD
noncomputable def nameOf (e : Expr) : Option (Str × Pos) := match e with
 | .Name x pos => some (x, pos)
 | _ => none
theorem nameOf_of {e : Expr} {z : Str × Pos} (h : nameOf e = some z) : e = .Name z.1 z.2 := by
 cases e with
 | Name x pos => (injection h with h; subst h); rfl
 | _ => injection h
noncomputable def onName (on : On) (e : Expr) : Option Own := match nameOf e with
 | some z => on z.1
 | none => none
theorem onName_of {on : On} {e : Expr} {o : Own} (h : onName on e = some o) : ∃ x pos, e = .Name x pos ∧ on x = some o := by
 unfold onName at h
 cases q : nameOf e with
 | none => rw [q] at h; cases h
 | some z => rw [q] at h; exact i2a2 z.1 z.2 (nameOf_of q) h
noncomputable def nameC (f : Expr) (args : List Expr) (kws : List Keyword) (k : Str → Expr → List Expr → Option (MV × List Prop)) : Option (MV × List Prop) := match nameOf f with
 | some z => (match args with
  | [] => none
  | e0 :: er => match kws with
   | [] => k z.1 e0 er
   | _ :: _ => none)
 | none => none
theorem nameC_of {f : Expr} {args : List Expr} {kws : List Keyword} {k : Str → Expr → List Expr → Option (MV × List Prop)} {z : MV × List Prop} (e : nameC f args kws k = some z) : ∃ x pos e0 er, f = .Name x pos ∧ args = e0 :: er ∧ kws = [] ∧ k x e0 er = some z := by
 unfold nameC at e
 cases q : nameOf f with
 | none => rw [q] at e; cases e
 | some y =>
  rw [q] at e
  cases args with
  | nil => cases e
  | cons e0 er => cases kws with
   | nil => exact ⟨y.1, y.2, e0, er, (nameOf_of q), rfl, rfl, e⟩
   | cons => cases e
noncomputable def rawN (v : Option MV) (k : Value → Option (MV × List Prop)) : Option (MV × List Prop) := match v with
 | some v => (match v with
  | .raw u => k u
  | _ => none)
 | none => none
theorem rawN_of {v : Option MV} {k : Value → Option (MV × List Prop)} {z : MV × List Prop} (e : rawN v k = some z) : ∃ u, v = some (.raw u) ∧ k u = some z := by
 cases v with
 | none => injection e
 | some v => cases v with
  | raw u => exact i1a2 u rfl e
  | _ => injection e
noncomputable def negI (v : MV) : Option MV := match v with
 | .int i => some (.int (-i))
 | _ => none
noncomputable def notB (v : MV) : Option MV := match v with
 | .bool b => some (.bool (!b))
 | _ => none
noncomputable def ev (p : Params) (env : Env) (m cm : LM) (on : On) : Nat → Expr → Option (MV × List Prop)
 | 0, _ => none
 | n + 1, e => match e with
  | .Constant k _ _ => pureV (constV k)
  | .Name x _ => pureV (nameV env m cm x)
  | .BinOp l op r _ => two (ev p env m cm on n l) (ev p env m cm on n r) (binV op)
  | .Compare l ops rs _ => one1 ops rs fun op r => iff' (!behindInMarks op r) (two (ev p env m cm on n l) (ev p env m cm on n r) fun a b => boolV (cmpV op a b))
  | .UnaryOp op x _ => (match op with
   | .USub => thru (ev p env m cm on n x) negI
   | .Not => thru (ev p env m cm on n x) notB
   | _ => none)
  | .Tuple es _ _ => iff' (decide (es.length ≤ 100)) (thru (evsWith (ev p env m cm on n) es) fun l => some (.tup l))
  | .List es _ => iff' (decide (es.length ≤ 100)) (thru (evsWith (ev p env m cm on n) es) fun l => some (.lst l))
  | .Subscript v i _ => iff' (notSlice i) (els (onName on v) (fun o => one (ev p env m cm on n i) (ownSubL (litIdx i) o)) (two (ev p env m cm on n v) (ev p env m cm on n i) (subVL (litIdx i))))
  | .Attribute v a _ => iff' (plainBase v) (els (onName on v) (fun o => pureV (ownAttr p a o)) (thru (ev p env m cm on n v) (attrV p a)))
  | .Call f args kws _ => nameC f args kws fun x e0 er => rawN (nameV env m cm x) fun fv => one (evsWith (ev p env m cm on n) (e0 :: er)) (callV p fv)
  | _ => none
section
variable {c : Cx} {A : Around} {env : Env} {m cm : LM} {H : TM} {F : FM}
theorem star_of {e : Expr} {rest : List Expr} (h : notStar e = true) : starEach (e :: rest) env = (false, eval e env) :: starEach rest env := by cases e <;> first | rfl | injection h
theorem evs_plain {f : Expr → Option (MV × List Prop)} (pos : Pos) : ∀ (es : List Expr) (l : List MV) (C : List Prop), evsWith f es = some (l, C) → (backTo pos (starEach es env)).any (·.1) = false
 | [] => fun _ _ _ => rfl
 | x :: es => by
  intro l C e
  obtain ⟨e1, v, C1, l1, D1, _, e3, _⟩ := evs_of e
  refine rG (star_of e1) ?_
  show (false || (backTo pos (starEach es env)).any (·.1)) = false
  refine rG (evs_plain pos es _ _ e3) ?_; rfl
theorem PuN.then {α β γ δ : Type} {t : Sem α} {R : FM → β → α → Prop} {b : β} {G : α → Shared → Prop} {K T s} (r : Rel c F T s) (l : Lay F env m cm H K T) (h : PuN c A env m cm H F t R b)
  (k : ∀ F1 a s1, F.le F1 → Lay F1 env m cm H K T → Rel c F1 T s1 → R F1 b a → G a s1) : wpAny (model P c.w) A t G NoE s :=
 PostN.wp (h K T s r l) fun F1 a s1 k1 r1 v1 => k F1 a s1 k1 (l.up k1) r1 v1
theorem puN_items {f : Expr → Option (MV × List Prop)} (hf : ∀ e v C, f e = some (v, C) → AllP C → ∀ F, PuN c A env m cm H F (eval e env) V v) (pos : Pos) :
  ∀ (es : List Expr) (l : List MV) (C : List Prop) (F : FM), evsWith f es = some (l, C) → AllP C → PuN c A env m cm H F (spliced (backTo pos (starEach es env))) VL l
 | [] => fun l C F e hC => fun K T s r y => by
  simp only [evsWith, Option.some.injEq, Prod.mk.injEq] at e
  (refine x0a2 e fun e90 e91 => ?_; subst e90 e91)
  exact wpAny_items_nil ⟨F, FM.le.refl F, r, VRs.nil⟩
 | x :: es => fun l C F e hC => fun K T s r y => by
  obtain ⟨e1, v, C1, l1, D1, e2, e3, rfl, rfl⟩ := evs_of e
  refine x0a2 hC.app fun h1 h2 => ?_
  exact wpAny_items_cons ((hf _ _ _ e2 h1 F).then (δ := Unit) (γ := Unit) r y fun F1 a s1 k1 y r1 v1 => (puN_items hf pos es _ _ F1 e3 h2).then (δ := Unit) (γ := Unit) r1 y fun F2 vs s2 k2 y r2 v2 => ⟨F2, k1.trans k2, r2, .cons (VR.mono k2 _ v1) v2⟩) (star_of e1)
theorem evs_len {f : Expr → Option (MV × List Prop)} : ∀ (es : List Expr) (l : List MV) (C : List Prop), evsWith f es = some (l, C) → l.length = es.length
 | [] => by intro l C e; simp only [evsWith, Option.some.injEq, Prod.mk.injEq] at e; (refine x0a2 e fun e90 _ => ?_; subst e90); rfl
 | x :: es => by
  intro l C e
  obtain ⟨_, v, C1, l1, D1, _, e3, rfl, _⟩ := evs_of e
  (refine rG List.length_cons ?_; refine rG List.length_cons ?_; refine rG (evs_len es _ _ e3) ?_; rfl)
set_option tactic.hygienic true in
theorem own_sub {value slice : Expr} {o : Own} {a : Addr} {k z : MV} {D : List Prop} {i : Value} (e : ownSub o k = some (z, D)) (hD : AllP D) (hk : VR F k i) (hs : notSlice slice = true) {T : TM} {s : Shared} (r : Rel c F T s) (ho : o.at T a) :
  wpAny (model P c.w) A (subscriptTail value slice (.ref a) i) (PostN c F T V z) NoE s := by
 have hsub : ∀ o i, subscripted slice false o i = operate [o, i] (getItem o i) := fun o i => by cases slice <;> first | rfl | injection hs
 cases o with
 | obj C l => simp [ownSub] at e
 | list l => cases k with
  | int j =>
   simp only [ownSub, Option.some.injEq, Prod.mk.injEq] at e
   (refine x0a2 e fun e90 e91 => ?_; subst e90 e91)
   refine x0a4 hD fun h0 h1 h2 _ => ?_
   simp only [VR] at hk
   (refine x1a1 hk fun u e91 => ?_; subst e91)
   refine x1a2 ho fun x ho hx => ?_
   refine x1a2 (hx.get (r.own _ _ ho).2.1) fun vs hl hv => ?_
   have hi : j.toNat < l.length := by lia
   (refine x1a2 (hv.get (i := j.toNat) (m := l.getD j.toNat .none) (by (refine rG List.getD_eq_getElem?_getD ?_; refine rG (List.getElem?_eq_getElem hi) ?_); rfl)) fun v ev hv => ?_)
   exact PyProof.Rows.tail_any hl.typeIs slot_list_getitem.lookup (wpAny_getItem_list hl h0 (by lia) (by simpa using ev) ⟨F, FM.le.refl F, r, hv⟩) (hsub _ _)
  | _ => simp [ownSub] at e
 | idict l => cases k with
  | int j =>
   simp only [ownSub] at e
   split at e
   ·rename_i v0 hv0
    (injection e with e; injection e with e; subst e)
    simp only [VR] at hk
    (refine x1a1 hk fun u e91 => ?_; subst e91)
    obtain ⟨kvs, hd, hkv⟩ : ∃ kvs, s.heap.DictOf (intKind P c.w) a kvs ∧ KVs F l kvs := by
     rcases ho with ho | ⟨o, ho⟩
     ·exact (r.own _ _ ho).2.1
     ·exact (r.own _ _ ho).2.1.2
    refine x1a2 (hkv.look hv0) fun v e1 e2 => ?_
    exact PyProof.Rows.tail_any hd.mapOf.typeIs slot_dict_getitem.lookup (wpAny_getItem_of (knd := intKind P c.w) (k := j) (by simp [intKind, Value.isInt]) hd.mapOf e1 ⟨F, FM.le.refl F, r.tok _, e2⟩) (hsub _ _)
   ·injection e
  | _ => simp [ownSub] at e
 | sdict l => cases k with
  | str j =>
   simp only [ownSub] at e
   split at e
   ·rename_i v0 hv0
    (injection e with e; injection e with e; subst e)
    simp only [VR] at hk
    (refine x1a1 hk fun u e91 => ?_; subst e91)
    obtain ⟨_, ⟨kvs, hd, hkv⟩, _⟩ := r.own _ _ ho
    refine x1a2 (hkv.look hv0) fun v e1 e2 => ?_
    exact PyProof.Rows.tail_any hd.mapOf.typeIs slot_dict_getitem.lookup (wpAny_getItem_of (knd := PySem.strKind P c.w) (k := j) (by simp [PySem.strKind, Value.isStrOf]) hd.mapOf e1 ⟨F, FM.le.refl F, r.tok _, e2⟩) (hsub _ _)
   ·injection e
  | _ => simp [ownSub] at e
theorem sub_base {value : Expr} {u : Sem Bool} {t : Bool → Sem Value} {a : Value} {G : Value → Shared → Prop} {s : Shared} (h : wpAny (model P c.w) A (u >>= fun g => t g >>= fun r => letTemporaryGo (.Name "x" default) a r >>= fun _ => pure r) G NoE s) :
  wpAny (model P c.w) A (u >>= fun g => t g >>= fun r => letTemporaryGo value a r >>= fun _ => pure r) G NoE s := by
 intro Γ p hΓ
 have := h Γ p hΓ
 simp only [Sem.wp_bind'] at this
 simp only [Sem.wp_bind']
 refine Sem.wp_mono _ _ _ (fun g p1 s1 q1 => Sem.wp_mono _ _ _ (fun r p' s' q => ?_) (fun _ _ _ q => q) _ _ q1) (fun _ _ _ q => q) _ _ this
 have q2 : G r s' := q
 have q3 := wpAny_letTemporaryGo (base := value) (o := a) (r := r) (prog := P) (w := c.w) (A := A) (E := NoE) (Q := fun _ s' => G r s') (s := s') q2 Γ p' hΓ
 exact q3
theorem pu_subT {value slice : Expr} {a b : Value} {x y z : MV} {C : List Prop} (e : subV x y = some (z, C)) (hC : AllP C) (hx : VR F x a) (hy : VR F y b) (hs : notSlice slice = true) : Pu c A F (subscriptTail value slice a b) V z := fun T s r => by
 have hsub : ∀ o i, subscripted slice false o i = operate [o, i] (getItem o i) := fun o i => by cases slice <;> first | rfl | injection hs
 have h1 := pu_sub (c := c) (A := A) (value := .Name "x" default) (slice := slice) e hC hx hy hsub (fun _ _ => rfl) T s r
 unfold subscriptTail at h1 ⊢
 exact sub_base h1
set_option tactic.hygienic true in
theorem attr_frozen {a : Str} {x z : MV} {v : Value} (e : attrV c.w.params a x = some z) (hx : VR F x v) {T : TM} {s : Shared} (r : Rel c F T s) :
  wpAny (model P c.w) A (getAttr v a true) (PostN c F T V z) NoE s := by
 cases x with
 | obj C ns vs =>
  simp only [attrV] at e
  split at e
  ·rename_i hp
   split at e
   ·rename_i y hy
    split at e
    ·rename_i hh
     (injection e with e; subst e)
     simp only [VR] at hx
     obtain ⟨b, d, us, rfl, e1, ⟨od, es, ep, e2, q1, q2, q3, q4, q5⟩, e3⟩ := hx
     have hl : (ns.zip us).lookup a = none ∨ ∃ u, (ns.zip us).lookup a = some u := by cases (ns.zip us).lookup a <;> simp
     have key : ∀ {ns : List Str} {vs : List MV} {us : List Value}, VRs F vs us → OVR F ((ns.zip vs).lookup a) ((ns.zip us).lookup a) := by
      intro ns
      induction ns with
      | nil => intro vs us _; rfl
      | cons k ns ih =>
       intro vs us h
       cases vs with
       | nil => simp only [VRs] at h; subst h; rfl
       | cons m vs =>
        (refine x2a3 h.uncons fun u r e92 h1 h2 => ?_; subst e92)
        simp only [List.zip_cons_cons]
        (refine rG (lookup_cons_str ..) ?_; refine rG (lookup_cons_str ..) ?_)
        split
        ·exact i1a2 u rfl h1
        ·exact ih h2
     have := key (ns := ns) e3
     rw [hy] at this
     refine x1a2 this fun u hu hv => ?_
     exact getA_val r.kin (r.fz _ _ e1).1 (r.fz _ _ e2).1 (by (refine rG (lookIn_ns q2 q3) ?_; refine rG (q4 ..) ?_; refine rG hu ?_; rfl)) hp (handed_of hv hh) ⟨F, FM.le.refl F, r.tok _, hv⟩
    ·injection e
   ·injection e
  ·injection e
 | _ => simp [attrV] at e
set_option tactic.hygienic true in
theorem attr_own {a : Str} {o : Own} {b : Addr} {z : MV} (e : ownAttr c.w.params a o = some z) {T : TM} {s : Shared} (r : Rel c F T s) (ho : o.at T b) :
  wpAny (model P c.w) A (getAttr (.ref b) a true) (PostN c F T V z) NoE s := by
 cases o with
 | obj C l =>
  simp only [ownAttr] at e
  split at e
  ·rename_i hp
   split at e
   ·rename_i y hy
    split at e
    ·rename_i hh
     (injection e with e; subst e)
     refine x1a2 ho fun d h1 h2 => ?_
     refine x0a3 (r.own _ _ h1) fun _ hx _ => ?_
     obtain ⟨_, ⟨od, es, ep, kvs, q0, q1, q2, q3, q4, q5, q6⟩, _⟩ := r.own _ _ h2
     have := q6.lookup (n := a)
     rw [hy] at this
     refine x1a2 this fun u hu hv => ?_
     exact getA_val r.kin hx q0 (by (refine rG (lookIn_ns q2 q3) ?_; refine rG (q5 ..) ?_; refine rG hu ?_; rfl)) hp (handed_of hv hh) ⟨F, FM.le.refl F, r.tok _, hv⟩
    ·injection e
   ·injection e
  ·injection e
 | _ => simp [ownAttr] at e
theorem Own.up {H T : TM} {a : Addr} {o : Own} (k : H.le T) (h : o.at H a) : o.at T a := by
 cases o with
 | obj C l => refine x1a2 h fun d h1 h2 => ?_; exact i1a2 d (k _ _ h1) (k _ _ h2)
 | list l => refine x1a2 h fun x h1 h2 => ?_; exact i1a2 x (k _ _ h1) h2
 | idict l =>
  rcases h with h | ⟨o, h⟩
  ·exact .inl (k _ _ h)
  ·exact .inr ⟨o, k _ _ h⟩
 | _ => exact k _ _ h
theorem base_eq {v : Expr} (a : Str) (h : plainBase v = true) : attributeBase v a env (eval v env) = eval v env := by cases v <;> first | rfl | injection h
theorem ev_call {f : Expr → Option (MV × List Prop)} (hu : Rm A) (ih : ∀ e v C, f e = some (v, C) → AllP C → ∀ F, PuN c A env m cm H F (eval e env) V v) {g : Str} {p0 pos : Pos} {e0 : Expr} {er : List Expr} {fv : Value} {l : List MV} {z : MV} {C1 D : List Prop}
  (hn : nameV env m cm g = some (.raw fv)) (hes : evsWith f (e0 :: er) = some (l, C1)) (hcall : callV c.w.params fv l = some (z, D)) (h1 : AllP C1) (h2 : AllP D) :
  PuN c A env m cm H F (eval (.Call (.Name g p0) (e0 :: er) [] pos) env) V z := fun K T s r y => by
 refine wpAny_Call_Name_kw ((puN_name F hn).then (γ := Unit) (δ := Unit) r y fun F1 a s1 k1 y r1 v1 => ?_)
 have v1 : a = fv := by simpa only [V, VR] using v1
 subst v1
 have args : wpAny (model P c.w) A (spliced (backTo pos (starEach (e0 :: er) env))) (fun vs s2 => wpAny (model P c.w) A (call a vs) (PostN c F T V z) NoE s2) NoE s1 :=
  (puN_items ih pos _ _ _ F1 hes h1).then (γ := Unit) (δ := Unit) r1 y fun F2 vs s2 k2 y r2 v2 =>
   (pu_call hu hcall h2 v2).toN.then (γ := Unit) (δ := Unit) r2 y fun F3 z s3 k3 y r3 v3 => ⟨F3, k1.trans (k2.trans k3), r3, v3⟩
 have hp := evs_plain (env := env) pos _ _ _ hes
 have kw : backToKw pos (keywordEach [] env) = [] := rfl
 refine rG kw ?_
 rw [star_of (evs_of hes).1] at args hp ⊢
 cases a with
 | type T' => exact PyProof.Rows.callWith_type hp (evalArgs_plain args)
 | builtin i => exact callWith_builtin hp (evalArgs_plain args)
 | _ => injection hcall
theorem lit_ev {on : On} {n : Nat} {i : Expr} {k : MV} {C : List Prop} {p : Params} (e : ev p env m cm on n i = some (k, C)) : ∀ j, litIdx i = some j → k = .int (j : Int) := fun j hj => by
 unfold litIdx at hj
 cases q : conOf i with
 | none => rw [q] at hj; cases hj
 | some w =>
  rw [q] at hj
  obtain ⟨u, pos, rfl⟩ := conOf_of q
  have hj := natC_of hj
  subst hj
  cases n with
  | zero => cases e
  | succ n => cases e; rfl
theorem ev_tup {es : List Expr} {k : Nat} {pos : Pos} {l : List MV} (h : PuN c A env m cm H F (spliced (backTo pos (starEach es env))) VL l) (hl : l.length ≤ 100) : PuN c A env m cm H F (eval (.Tuple es k pos) env) V (.tup l) := fun K T s r y => by
 refine wpAny_Tuple (h.then (γ := Unit) (δ := Unit) r y fun F1 vs s1 k1 y r1 v1 => ?_)
 refine x0a2 (r1.pushF (o := { cls := .type "tuple", data := .seq vs.toArray }) rfl) fun k2 r2 => ?_
 refine ⟨by (refine rG sizeLine_eq ?_; refine rG (VRs.len v1) ?_); exact Nat.le_trans hl (by decide), _, k1.trans k2, r2, ?_⟩
 simp only [V, VR]
 exact ⟨_, _, _, _, rfl, FM.upd_self _ _ _, rfl, rfl, VRs.mono k2 _ v1⟩
theorem ev_lst {es : List Expr} {pos : Pos} {l : List MV} (h : PuN c A env m cm H F (spliced (backTo pos (starEach es env))) VL l) (hl : l.length ≤ 100) : PuN c A env m cm H F (eval (.List es pos) env) V (.lst l) := fun K T s r y => by
 refine wpAny_List (h.then (γ := Unit) (δ := Unit) r y fun F1 vs s1 k1 y r1 v1 => ?_)
 refine x0a2 (r1.pushF (o := { cls := .type "list", data := .seq vs.toArray }) rfl) fun k2 r2 => ?_
 refine ⟨by (refine rG sizeLine_eq ?_; refine rG (VRs.len v1) ?_); exact Nat.le_trans hl (by decide), _, k1.trans k2, r2, ?_⟩
 simp only [V, VR]
 exact ⟨_, _, _, _, rfl, FM.upd_self _ _ _, rfl, rfl, VRs.mono k2 _ v1⟩
theorem ev_neg {x : Expr} {pos : Pos} {a v : MV} (h : PuN c A env m cm H F (eval x env) V a) (e : negI a = some v) : PuN c A env m cm H F (eval (.UnaryOp .USub x pos) env) V v := fun K T s r y => by
 cases a with
 | int i =>
  (injection e with e; subst e)
  refine wpAny_UnaryOp (h.then (γ := Unit) (δ := Unit) r y fun F1 a s1 k1 y r1 v1 => ?_)
  simp only [V, VR] at v1
  (refine x1a1 v1 fun t e91 => ?_; subst e91)
  exact PyProof.Rows.neg_int ⟨F1, k1, r1.tok _, vr_int⟩
 | _ => injection e
theorem ev_not {x : Expr} {pos : Pos} {a v : MV} (h : PuN c A env m cm H F (eval x env) V a) (e : notB a = some v) : PuN c A env m cm H F (eval (.UnaryOp .Not x pos) env) V v := fun K T s r y => by
 cases a with
 | bool i =>
  (injection e with e; subst e)
  refine wpAny_UnaryOp (h.then (γ := Unit) (δ := Unit) r y fun F1 a s1 k1 y r1 v1 => ?_)
  simp only [V, VR] at v1
  subst v1
  exact not_value (wpAny_truthy_bool ⟨F1, k1, r1, vr_bool⟩)
 | _ => injection e
theorem ev_const {k : Const} {u : Nat} {pos : Pos} {v : MV} (e : constV k = some v) : PuN c A env m cm H F (eval (.Constant k u pos) env) V v := fun K T s r y => by
 cases k with
 | none => (injection e with e; subst e); exact pu_none F T s r
 | bool => (injection e with e; subst e); exact pu_bool F T s r
 | int => (injection e with e; subst e); exact pu_int F T s r
 | str => (injection e with e; subst e); exact pu_str F T s r
 | _ => injection e
theorem ev_sub {x i : Expr} {pos : Pos} {a : Addr} {k z : MV} {o : Own} {D : List Prop} {id : Str} {p0 : Pos} (hb : nameV env m cm id = some (.raw (.ref a))) (hob : o.at H a) (h : ∀ F, PuN c A env m cm H F (eval i env) V k) (hs : notSlice i = true) (e : ownSub o k = some (z, D)) (hD : AllP D) :
  PuN c A env m cm H F (eval (.Subscript (.Name id p0) i pos) env) V z := fun K T s r y => by
 refine PyProof.Rows.Subscript_ ((puN_name F hb).then (γ := Unit) (δ := Unit) r y fun F1 u s1 k1 y r1 v1 => (h F1).then (γ := Unit) (δ := Unit) r1 y fun F2 b s2 k2 y r2 v2 => ?_)
 have v1 : u = .ref a := by simpa only [V, VR] using v1
 subst v1
 exact PostN.wp (own_sub e hD v2 hs r2 (Own.up y.hT hob)) fun F3 a s' k3 r3 v3 => ⟨F3, k1.trans (k2.trans k3), r3, v3⟩
theorem ev_attrO {x : Str} {a : Addr} {o : Own} {z : MV} {id : Str} {p0 pos : Pos} (hb : nameV env m cm id = some (.raw (.ref a))) (hob : o.at H a) (e : ownAttr c.w.params x o = some z) : PuN c A env m cm H F (eval (.Attribute (.Name id p0) x pos) env) V z := fun K T s r y => by
 (refine rG (arm_eval_Attribute ..) ?_; refine rG (base_eq _ (show plainBase (.Name id p0) = true from rfl)) ?_)
 refine wpAny_bind ((puN_name F hb).then (γ := Unit) (δ := Unit) r y fun F1 u s1 k1 y r1 v1 => wpAny_bind (wpAny_standAt (wpAny_bind (wpAny_holding ?_))))
 have v1 : u = .ref a := by simpa only [V, VR] using v1
 subst v1
 exact PostN.wp (attr_own e r1 (Own.up y.hT hob)) fun F3 a s' k3 r3 v3 => wpAny_bind (wpAny_letTemporaryGo (wpAny_pure ⟨F3, k1.trans k3, r3, v3⟩))
theorem ev_attrF {x : Str} {b : Expr} {a z : MV} {pos : Pos} (hb : plainBase b = true) (h : PuN c A env m cm H F (eval b env) V a) (e : attrV c.w.params x a = some z) : PuN c A env m cm H F (eval (.Attribute b x pos) env) V z := fun K T s r y => by
 (refine rG (arm_eval_Attribute ..) ?_; refine rG (base_eq _ hb) ?_)
 refine wpAny_bind (h.then (γ := Unit) (δ := Unit) r y fun F1 a s1 k1 y r1 v1 => wpAny_bind (wpAny_standAt (wpAny_bind (wpAny_holding ?_))))
 exact PostN.wp (attr_frozen e v1 r1) fun F3 a s' k3 r3 v3 => wpAny_bind (wpAny_letTemporaryGo (wpAny_pure ⟨F3, k1.trans k3, r3, v3⟩))
theorem ev_ok {on : On} (hu : Rm A) (ho : OnOk env m cm H on) : ∀ (n : Nat) (e : Expr) (v : MV) (C : List Prop), ev c.w.params env m cm on n e = some (v, C) → AllP C → ∀ F, PuN c A env m cm H F (eval e env) V v
 | 0 => by intro _ _ _ e _; injection e
 | n + 1 => fun x v C e hC => fun F => by
  have ih := ev_ok hu ho n
  cases x with
  | Constant k u pos => exact ev_const (pureV_of e)
  | Name x pos => exact puN_name F (pureV_of e)
  | BinOp l op r pos =>
   exact two_of e hC fun a b C1 C2 D e1 e2 e3 h1 h2 h3 K T s r y =>
    wpAny_BinOp ((ih _ _ _ e1 h1 F).then (γ := Unit) (δ := Unit) r y fun F1 a s1 k1 y r1 v1 => (ih _ _ _ e2 h2 F1).then (γ := Unit) (δ := Unit) r1 y fun F2 b s2 k2 y r2 v2 =>
     (pu_bin e3 h3 (VR.mono k2 _ v1) v2).toN.then (γ := Unit) (δ := Unit) r2 y fun F3 z s3 k3 y r3 v3 => ⟨F3, k1.trans (k2.trans k3), r3, v3⟩)
  | Compare l ops rs pos =>
   (refine x2a3 (one1_of e) fun op r e92 e93 e => ?_; subst e92 e93)
   refine x0a2 (iff'_of e) fun hb e => ?_
   refine two_of e hC fun a b C1 C2 D e1 e2 e3 h1 h2 h3 K T s r y => ?_
   (refine x1a2 (boolV_of e3) fun z e4 e92 => ?_; subst e92)
   exact wpAny_Compare1 ((ih _ _ _ e1 h1 F).then (γ := Unit) (δ := Unit) r y fun F1 a s1 k1 y r1 v1 => (ih _ _ _ e2 h2 F1).then (γ := Unit) (δ := Unit) r1 y fun F2 b s2 k2 y r2 v2 =>
     (pu_cmp hu.2 e4 h3 (VR.mono k2 _ v1) v2).toN.then (γ := Unit) (δ := Unit) r2 y fun F3 z s3 k3 y r3 v3 => ⟨F3, k1.trans (k2.trans k3), r3, v3⟩) (by simpa using hb)
  | UnaryOp op x pos => cases op with
   | USub => exact thru_of e fun a e1 e2 => ev_neg (ih _ _ _ e1 hC F) e2
   | Not => exact thru_of e fun a e1 e2 => ev_not (ih _ _ _ e1 hC F) e2
   | _ => injection e
  | Tuple es k pos =>
   refine x0a2 (iff'_of e) fun hl e => ?_
   exact thru_of e fun l e1 e2 => by (injection e2 with e2; subst e2); exact ev_tup (puN_items ih _ _ _ _ F e1 hC) (by refine rG (evs_len _ _ _ e1) ?_; exact of_decide_eq_true hl)
  | List es pos =>
   refine x0a2 (iff'_of e) fun hl e => ?_
   exact thru_of e fun l e1 e2 => by (injection e2 with e2; subst e2); exact ev_lst (puN_items ih _ _ _ _ F e1 hC) (by refine rG (evs_len _ _ _ e1) ?_; exact of_decide_eq_true hl)
  | Subscript x i pos =>
   refine x0a2 (iff'_of e) fun hs e => ?_
   cases hon : onName on x with
   | some o =>
    rw [hon] at e
    obtain ⟨id, p0, rfl, hon⟩ := onName_of hon
    obtain ⟨b, hb, hob⟩ := ho _ _ hon
    exact one_of e hC fun k C1 D e1 e2 h1 h2 => by
     obtain ⟨D', e2, h2⟩ := ownSubL_of (lit_ev e1) e2 h2
     exact ev_sub (x := .Name id p0) hb hob (ih _ _ _ e1 h1) hs e2 h2
   | none =>
    rw [hon] at e
    exact two_of e hC fun a b C1 C2 D e1 e2 e3 h1 h2 h3 K T s r y => by
     obtain ⟨D', e3, h3⟩ := subVL_of (lit_ev e2) e3 h3
     exact PyProof.Rows.Subscript_ ((ih _ _ _ e1 h1 F).then (γ := Unit) (δ := Unit) r y fun F1 a s1 k1 y r1 v1 => (ih _ _ _ e2 h2 F1).then (γ := Unit) (δ := Unit) r1 y fun F2 b s2 k2 y r2 v2 =>
      (pu_subT e3 h3 (VR.mono k2 _ v1) v2 hs).toN.then (γ := Unit) (δ := Unit) r2 y fun F3 z s3 k3 y r3 v3 => ⟨F3, k1.trans (k2.trans k3), r3, v3⟩)
  | Attribute x a pos =>
   obtain ⟨hb, e⟩ := iff'_of e
   cases hon : onName on x with
   | some o =>
    rw [hon] at e
    obtain ⟨id, p0, rfl, hon⟩ := onName_of hon
    obtain ⟨b, hb, hob⟩ := ho _ _ hon
    exact ev_attrO hb hob (pureV_of e)
   | none =>
    rw [hon] at e
    exact thru_of e fun a e1 e2 => ev_attrF hb (ih _ _ _ e1 hC F) e2
  | Call f args kws pos =>
   have e : nameC f args kws (fun x e0 er => rawN (nameV env m cm x) fun fv => one (evsWith (ev c.w.params env m cm on n) (e0 :: er)) (callV c.w.params fv)) = some (v, C) := e
   obtain ⟨id, p0, e0, er, rfl, rfl, rfl, e⟩ := nameC_of e
   obtain ⟨fv, hn, e⟩ := rawN_of e
   exact one_of e hC fun l C1 D e1 e2 h1 h2 => ev_call hu ih hn e1 e2 h1 h2
  | _ => cases e
end
end Mine
end
section
set_option backward.match.sparseCases false
set_option tactic.hygienic true
open PySem PySem.W PySem.W.X PyProof.Rows PySem.Calls
open Builtin Builtin.ObjectAttr
namespace Mine
section
variable {c : Cx} {A : Around} {env : Env} {m cm : LM} {H : TM}
theorem W.ev {on : On} {n : Nat} {e : Expr} {v : MV} {C : List Prop} {Q : MV → LM → LM → TM → Prop} (hu : Rm A) (ho : OnOk env m cm H on)
  (he : Mine.ev c.w.params env m cm on n e = some (v, C)) (hC : AllP C) (q : Q v m cm H) : W c A env m cm H (eval e env) V Q :=
 W.ofPuN (fun F => ev_ok hu ho n e v C he hC F) q
theorem RelE.tok {F : FM} {K : TM} {s : Shared} (r : RelE c env m cm F H K s) (n : Nat) : RelE c env m cm F H K { s with toks := n } := r.elim fun T r l => ⟨T, r.tok n, l⟩
section
variable (c : Cx) (A : Around) (env : Env)
noncomputable abbrev NxP (rest : List Stmt) (Q : MFlow → LM → LM → TM → Prop) : MFlow → LM → LM → TM → Prop := fun f m cm H => match f with | .next => W c A env m cm H (execs rest env) Fl Q | f => Q f m cm H
noncomputable abbrev RetP (Q : MFlow → LM → LM → TM → Prop) : MV → LM → LM → TM → Prop := fun v => Q (.ret v)
noncomputable abbrev ExP (Q : MFlow → LM → LM → TM → Prop) : MV → LM → LM → TM → Prop := fun _ => Q .next
noncomputable abbrev IfP (body orelse : List Stmt) (Q : MFlow → LM → LM → TM → Prop) : Bool → LM → LM → TM → Prop := fun b m cm H => if b then W c A env m cm H (execs body env) Fl Q else W c A env m cm H (execs orelse env) Fl Q
noncomputable abbrev IfE (a b : Expr) (Q : MV → LM → LM → TM → Prop) : Bool → LM → LM → TM → Prop := fun z m cm H => if z then W c A env m cm H (eval a env) V Q else W c A env m cm H (eval b env) V Q
noncomputable abbrev EvP (e : Expr) (k : MV → MV → LM → LM → TM → Prop) : MV → LM → LM → TM → Prop := fun v m cm H => W c A env m cm H (eval e env) V (k v)
noncomputable abbrev CsP (Z : List MV → LM → LM → TM → Prop) (v : MV) : List MV → LM → LM → TM → Prop := fun vs => Z (v :: vs)
noncomputable abbrev ItP (pos : Pos) (rest : List Expr) (Z : List MV → LM → LM → TM → Prop) : MV → LM → LM → TM → Prop := fun v m cm H => W c A env m cm H (spliced (backTo pos (starEach rest env))) VL (CsP Z v)
noncomputable abbrev DrP (Q : MV → LM → LM → TM → Prop) (m cm : LM) : MV → TM → Prop := fun r H => Q r m cm H
noncomputable abbrev BoP (Q : MV → LM → LM → TM → Prop) : Bool → LM → LM → TM → Prop := fun z => Q (.bool z)
noncomputable abbrev NotP (Z : Bool → LM → LM → TM → Prop) : Bool → LM → LM → TM → Prop := fun b => Z (!b)
noncomputable abbrev AndP (rest : List Expr) (Z : Bool → LM → LM → TM → Prop) : Bool → LM → LM → TM → Prop := fun b m cm H => if b then W c A env m cm H (allTrue .And rest env) Bo Z else Z false m cm H
noncomputable abbrev OrP (rest : List Expr) (Z : Bool → LM → LM → TM → Prop) : Bool → LM → LM → TM → Prop := fun b m cm H => if b then Z true m cm H else W c A env m cm H (allTrue .Or rest env) Bo Z
end
theorem Post.up {α β : Type} {R : FM → β → α → Prop} {Q : β → LM → LM → TM → Prop} {F G : FM} {K : TM} {a : α} {s : Shared} (k : F.le G) (h : Post c env K G R Q a s) : Post c env K F R Q a s := by obtain ⟨F', b, m', cm', H', x1, x2, x3, x4⟩ := h; exact ⟨F', b, m', cm', H', k.trans x1, x2, x3, x4⟩
theorem Post.lift {α β : Type} {t : Sem α} {R : FM → β → α → Prop} {Q : β → LM → LM → TM → Prop} {F G : FM} {K : TM} {s : Shared} (h : wpAny (model P c.w) A t (Post c env K G R Q) NoE s) (k : F.le G) : wpAny (model P c.w) A t (Post c env K F R Q) NoE s :=
 wpAny_mono h (fun _ _ x => x.up k) fun _ _ x => x
variable {Q : MFlow → LM → LM → TM → Prop}
theorem W.nil (q : Q .next m cm H) : W c A env m cm H (execs [] env) Fl Q := fun F K s r => wpAny_execs_nil ⟨F, .next, m, cm, H, FM.le.refl F, r, rfl, q⟩
theorem W.cons {st : Stmt} {rest : List Stmt} (h : W c A env m cm H (exec st env) Fl (NxP c A env rest Q)) :
  W c A env m cm H (execs (st :: rest) env) Fl Q := fun F K s r => by
 refine wpAny_execs_cons (h.wp r fun F1 b m1 cm1 H1 f s1 k1 r1 v1 q1 => ?_)
 cases b with
 | next => subst v1; exact W.go q1 k1 r1
 | brk => subst v1; exact ⟨F1, .brk, m1, cm1, H1, k1, r1, rfl, q1⟩
 | cont => subst v1; exact ⟨F1, .cont, m1, cm1, H1, k1, r1, rfl, q1⟩
 | ret v => obtain ⟨u, rfl, v1⟩ := v1; exact ⟨F1, .ret v, m1, cm1, H1, k1, r1, ⟨u, rfl, v1⟩, q1⟩
theorem W.ret {e : Expr} {pos : Pos} (h : W c A env m cm H (eval e env) V (RetP Q)) : W c A env m cm H (exec (.Return (some e) pos) env) Fl Q := fun F K s r =>
 wpAny_Return_some (h.wp r fun F1 b m1 cm1 H1 v s1 k1 r1 v1 q1 => ⟨F1, .ret b, m1, cm1, H1, k1, r1, ⟨v, rfl, v1⟩, q1⟩)
theorem W.retNone {pos : Pos} (q : Q (.ret .none) m cm H) : W c A env m cm H (exec (.Return none pos) env) Fl Q := fun F K s r =>
 wpAny_Return_none ⟨F, .ret .none, m, cm, H, FM.le.refl F, r, ⟨_, rfl, vr_none⟩, q⟩
theorem W.cont {pos : Pos} (q : Q .cont m cm H) : W c A env m cm H (exec (.Continue pos) env) Fl Q := fun F K s r =>
 wpAny_Continue ⟨F, .cont, m, cm, H, FM.le.refl F, r, rfl, q⟩
theorem W.expr {e : Expr} {pos : Pos} (hi : interactive env = false) (hs : swapsWith e none pos.line env = pure false)
  (h : W c A env m cm H (eval e env) V (ExP Q)) : W c A env m cm H (exec (.Expr e pos) env) Fl Q := fun F K s r =>
 wpAny_Expr_any (h.wp r fun F1 b m1 cm1 H1 v s1 k1 r1 v1 q1 => ⟨F1, .next, m1, cm1, H1, k1, r1, rfl, q1⟩) hi hs
noncomputable def storeTo (env : Env) (m cm : LM) (x : Str) (v : MV) : Option (LM × LM) := match env.kindOf x with
 | some .local => some (m.set x v, cm)
 | some .cell => if env.func.isSome && (env.cells.lookup x).isSome && !isFz (cm x) && !isFz (some v) then some (m, cm.set x v) else none
 | _ => none
theorem store_ok {x : Str} {v : MV} {u : Value} {m1 cm1 : LM} {F : FM} {K : TM} {s : Shared} (e : storeTo env m cm x v = some (m1, cm1)) (r : RelE c env m cm F H K s) (hv : VR F v u) {G : Unit → Shared → Prop}
  (q : ∀ s', RelE c env m1 cm1 F H K s' → G () s') : wpAny (model P c.w) A (storeName env x u) G NoE s := by
 obtain ⟨T, r, l⟩ := r
 unfold storeTo at e
 split at e
 ·rename_i hk
  cases e
  obtain ⟨_, ⟨m', hn, hm⟩, _⟩ := r.own _ _ l.loc
  refine wpAny_storeName_local hk hn (fun h' hn' hs' => q _ ⟨T.upd env.locals (.ns (m.set x v)), r.set l.loc hs' ⟨_, hn', fun y => ?_⟩, ?_⟩) (by refine rG l.fn ?_; rfl)
  ·unfold LM.set
   by_cases hy : y = x
   ·(refine rG (if_pos hy) ?_; refine rG (if_pos hy) ?_); exact ⟨u, rfl, hv⟩
   ·(refine rG (if_neg hy) ?_; refine rG (if_neg hy) ?_); exact hm y
  ·have hne : ∀ {a x}, H a = some x → a ≠ env.locals := fun ea e => by rw [e, l.hl] at ea; cases ea
   have kne : ∀ {a x}, K a = some x → a ≠ env.locals := fun ea e => by rw [e, l.kl] at ea; cases ea
   have cne : ∀ n a, env.cells.lookup n = some a → isFz (cm n) = false → a ≠ env.locals := fun n a ea hz => by
    by_cases hc : ownC env n
    ·exact (l.own n a ea hc hz).2.2.1
    ·exact kne (l.fre n a ea hc hz)
   exact { l with
    loc := TM.upd_self _ _ _
    cel := fun n a ea => (l.cel n a ea).up (FM.le.refl F) fun hz h => by refine rG (TM.upd_ne (cne n a ea hz)) ?_; exact h
    hT := fun a y ea => by refine rG (TM.upd_ne (hne ea)) ?_; exact l.hT a y ea
    kT := fun a y ea => by refine rG (TM.upd_ne (kne ea)) ?_; exact l.kT a y ea }
 ·rename_i hk
  split at e
  ·rename_i hs
   cases e
   simp only [Bool.and_eq_true, Bool.not_eq_true'] at hs
   obtain ⟨⟨⟨hs1, hs2⟩, hz⟩, hzv⟩ := hs
   have hk' : ownC env x := ⟨hs1, hk⟩
   obtain ⟨a, ha⟩ := Option.isSome_iff_exists.mp hs2
   have hTa := (l.cel _ _ ha).own hz
   obtain ⟨_, ⟨v', hn, hm⟩, _⟩ := r.own _ _ hTa
   obtain ⟨o1, o2, o3, o4⟩ := l.own x a ha hk' hz
   refine wpAny_storeName_cell l.fn hk ha hn (fun h' hn' hs' => q _ ⟨T.upd a (.cell (some v)), r.set hTa hs' ⟨_, hn', ⟨u, rfl, hv⟩⟩, ?_⟩)
   exact { l with
    loc := by refine rG (TM.upd_ne (Ne.symm o3)) ?_; exact l.loc
    cel := fun n b eb => by
     by_cases hb : n = x
     ·subst hb
      rw [ha] at eb; cases eb
      have : cm.set n v n = some v := by simp [LM.set]
      refine rG this ?_
      exact CelOk.of (TM.upd_self _ _ _) hzv
     ·have : cm.set x v n = cm n := by simp [LM.set, hb]
      refine rG this ?_
      refine (l.cel n b eb).up (FM.le.refl F) fun _ h => ?_
      have : b ≠ a := by rintro rfl; exact hb (o4 n eb)
      refine rG (TM.upd_ne this) ?_; exact h
    hT := fun b y eb => by
     have : b ≠ a := by first | exact TM.neS eb o1 | exact (TM.neS eb o1).symm | (rintro rfl; rw [o1] at eb; cases eb)
     refine rG (TM.upd_ne this) ?_; exact l.hT b y eb
    kT := fun b y eb => by
     have : b ≠ a := by first | exact TM.neS eb o2 | exact (TM.neS eb o2).symm | (rintro rfl; rw [o2] at eb; cases eb)
     refine rG (TM.upd_ne this) ?_; exact l.kT b y eb
    own := fun n b eb hk2 hz2 => by
     by_cases hb : n = x
     ·subst hb; exact l.own n b eb hk2 hz
     ·exact l.own n b eb hk2 (by simpa [LM.set, hb] using hz2)
    fre := fun n b eb hk2 hz2 => by
     have hx : n ≠ x := by rintro rfl; exact hk2 hk'
     have e : cm.set x v n = cm n := by simp [LM.set, hx]
     rw [e] at hz2 ⊢
     exact l.fre n b eb hk2 hz2 }
  ·cases e
 ·cases e
theorem W.assign {x : Str} {e : Expr} {p pos : Pos} (hs : swapsWith e (some (.Name x p)) pos.line env = pure false)
  (h : W c A env m cm H (eval e env) V (fun v m' cm' H' => match storeTo env m' cm' x v with | some (m1, cm1) => Q .next m1 cm1 H' | none => False)) :
  W c A env m cm H (exec (.Assign [.Name x p] e pos) env) Fl Q := fun F K s r =>
 wpAny_Assign_Name (h.wp r fun F1 b m1 cm1 H1 v s1 k1 r1 v1 q1 => by
  cases hst : storeTo env m1 cm1 x b with
  | none => rw [hst] at q1; exact q1.elim
  | some p => rw [hst] at q1; exact store_ok hst r1 v1 fun s' r' => ⟨F1, .next, _, _, H1, k1, r', rfl, q1⟩) hs
theorem W.test {t : Expr} {Z : Bool → LM → LM → TM → Prop} (ht : isTrue t env (eval t env) = (do let v ← eval t env; standAt t.pos; holding [v] (truthy v)))
  (h : W c A env m cm H (eval t env) V (fun v m' cm' H' => match isTrueV v with | some b => Z b m' cm' H' | none => False)) : W c A env m cm H (isTrue t env (eval t env)) Bo Z := fun F K s r =>
 wpAny_isTrue_value (h.wp r fun F1 b m1 cm1 H1 v s1 k1 r1 v1 q1 => by
  cases b <;> simp only [isTrueV] at q1 <;> first | exact q1.elim | skip
  ·simp only [VR] at v1; subst v1
   exact wpAny_of_eq (a := false) rfl ⟨F1, false, m1, cm1, H1, k1, r1, rfl, q1⟩
  ·simp only [VR] at v1; subst v1
   exact wpAny_truthy_bool ⟨F1, _, m1, cm1, H1, k1, r1, rfl, q1⟩
  ·simp only [VR] at v1; obtain ⟨t, rfl⟩ := v1
   exact PyProof.Rows.truthy_int ⟨F1, _, m1, cm1, H1, k1, r1, by (rewrite [bne]; refine rG (beq_dec ..) ?_); simp, q1⟩
  ·split at q1
   ·rename_i b hb
    split at hb
    ·rename_i hl
     (injection hb with hb; subst hb)
     simp only [VR] at v1; obtain ⟨t, rfl⟩ := v1
     exact PySem.P.truthy_str (by lia) ⟨F1, _, m1, cm1, H1, k1, r1.tok _, rfl, q1⟩
    ·injection hb
   ·exact q1.elim) ht
theorem W.ite {t : Expr} {body orelse : List Stmt} {pos : Pos} (h : W c A env m cm H (isTrue t env (eval t env)) Bo (IfP c A env body orelse Q)) :
  W c A env m cm H (exec (.If t body orelse pos) env) Fl Q := fun F K s r =>
 wpAny_If (h.wp r fun F1 b' m1 cm1 H1 b s1 k1 r1 v1 q1 => by
  cases v1
  cases b'
  ·exact W.go q1 k1 r1
  ·exact W.go q1 k1 r1)
end
end Mine
end
section
set_option backward.match.sparseCases false
open PySem PySem.W PySem.W.X PyProof.Rows PySem.Calls
open Builtin Builtin.ObjectAttr
namespace Mine
noncomputable def TM.un (S T : TM) : TM := fun a => match S a with | some x => some x | none => T a
theorem TM.un_l {S T : TM} {a x} (e : S a = some x) : S.un T a = some x := by simp [TM.un, e]
theorem TM.un_r {S T : TM} {a} (e : S a = none) : S.un T a = T a := by simp [TM.un, e]
theorem TM.le_un_l (S T : TM) : S.le (S.un T) := fun a x e => TM.un_l e
theorem TM.le_un_r {S T : TM} (h : S.dis T) : T.le (S.un T) := fun a x e => by
 rcases h a with q | q
 ·refine rG (TM.un_r q) ?_; exact e
 ·rw [q] at e; injection e
set_option tactic.hygienic true in
theorem TM.un_le {S T U : TM} (h : S.le U) (k : T.le U) : (S.un T).le U := fun a x e => by
 unfold TM.un at e
 split at e
 ·rename_i y q; (injection e with e; subst e); exact h _ _ q
 ·exact k _ _ e
theorem TM.un_none {S T : TM} {a} (e : S.un T a = none) : S a = none ∧ T a = none := by
 unfold TM.un at e
 split at e
 ·injection e
 ·rename_i q; exact ⟨q, e⟩
theorem TM.none_un {S T : TM} {a} (e : S a = none) (e2 : T a = none) : S.un T a = none := by refine rG (TM.un_r e) ?_; exact e2
noncomputable def TM.nil : TM := fun _ => none
inductive CallPost (c : Cx) (F : FM) (K : TM) (Q : MV → TM → Prop) (v : Value) (s : Shared) : Prop
 | mk (F' : FM) (T' H' : TM) (r : MV) (h1 : F.le F') (h2 : Rel c F' T' s) (h3 : H'.le T') (h4 : K.le T') (h5 : H'.dis K) (h6 : VR F' r v) (h7 : Q r H') : CallPost c F K Q v s
noncomputable def CallR (c : Cx) (F : FM) (K : TM) (Q : MV → TM → Prop) : Result → Shared → Prop := fun r s' => match r with
 | .ok (.ret v) => CallPost c F K Q v s'
 | _ => False
noncomputable def CallW (c : Cx) (A : Around) (f : MV) (args : List MV) (H : TM) (Q : MV → TM → Prop) : Prop :=
 ∀ F K T s fv vals, Rel c F T s → H.le T → K.le T → H.dis K → VR F f fv → VRs F args vals → codeAny (model P c.w) A (.call fv ⟨vals, []⟩) (CallR c F K Q) s
theorem CallR.mono {c : Cx} {F : FM} {K : TM} {Q Q' : MV → TM → Prop} (k : ∀ r H', Q r H' → Q' r H') : ∀ r s, CallR c F K Q r s → CallR c F K Q' r s := fun r s h => by
 unfold CallR at h ⊢
 split at h
 ·obtain ⟨F', T', H', r, b1, b2, b3, b4, b5, b6, b7⟩ := h
  exact ⟨F', T', H', r, b1, b2, b3, b4, b5, b6, k _ _ b7⟩
 ·exact h.elim
theorem CallW.mono {c : Cx} {A : Around} {f : MV} {args : List MV} {H : TM} {Q Q' : MV → TM → Prop} (h : CallW c A f args H Q) (k : ∀ r H', Q r H' → Q' r H') : CallW c A f args H Q' := fun F K T s fv vals a1 a2 a3 a4 a5 a6 =>
 codeAny_mono (h F K T s fv vals a1 a2 a3 a4 a5 a6) (CallR.mono k)
theorem CallW.frame {c : Cx} {A : Around} {f : MV} {args : List MV} {H R : TM} {Q : MV → TM → Prop} (hd : H.dis R) (h : CallW c A f args H Q) :
  CallW c A f args (H.un R) (fun r H' => ∃ H1, H' = H1.un R ∧ H1.dis R ∧ Q r H1) := fun F K T s fv vals a1 a2 a3 a4 a5 a6 => by
 have hR : R.le T := (TM.le_un_r hd).trans a2
 have hRK : R.dis K := fun a => by
  rcases a4 a with q | q
  ·exact .inl (TM.un_none q).2
  ·exact .inr q
 have hHK : H.dis (R.un K) := fun a => by
  rcases hd a with q | q
  ·exact .inl q
  ·rcases a4 a with z | z
   ·exact .inl (TM.un_none z).1
   ·exact .inr (TM.none_un q z)
 refine codeAny_mono (h F (R.un K) T s fv vals a1 ((TM.le_un_l H R).trans a2) (TM.un_le hR a3) hHK a5 a6) (fun r s' hr => ?_)
 unfold CallR at hr ⊢
 split at hr
 ·obtain ⟨F', T', H', r, b1, b2, b3, b4, b5, b6, b7⟩ := hr
  have hR' : R.le T' := (TM.le_un_l R K).trans b4
  have hdR : H'.dis R := fun a => by
   rcases b5 a with q | q
   ·exact .inl q
   ·exact .inr (TM.un_none q).1
  refine ⟨F', T', H'.un R, r, b1, b2, TM.un_le b3 hR', (TM.le_un_r hRK).trans b4, fun a => ?_, b6, H', rfl, hdR, b7⟩
  rcases b5 a with q | q
  ·rcases hRK a with z | z
   ·exact .inl (TM.none_un q z)
   ·exact .inr z
  ·exact .inr (TM.un_none q).2
 ·exact hr.elim
open Classical in
theorem Lay.toCall {F : FM} {env : Env} {m cm : LM} {H K T : TM} (l : Lay F env m cm H K T) : ∃ K' : TM, K'.le T ∧ H.dis K' ∧ (∀ (F' : FM) (T' H' : TM), F.le F' → H'.le T' → K'.le T' → H'.dis K' → Lay F' env m cm H' K T') ∧
  (∀ n a, env.cells.lookup n = some a → isFz (cm n) = false → K' a = some (.cell (cm n))) := by
 let own : Addr → Prop := fun a => a = env.locals ∨ ∃ n, env.cells.lookup n = some a ∧ ownC env n ∧ isFz (cm n) = false
 refine i1a4 (fun a => if own a then T a else K a) (fun a x e => ?_) (fun a => ?_) (fun F' T' H' k0 h1 h2 h3 => ?_) (fun n a e hz => ?_)
 ·dsimp only at e
  split at e
  ·exact e
  ·exact l.kT a x e
 ·dsimp only
  split
  ·rename_i ho
   left
   rcases ho with rfl | ⟨n, e1, e2, e3⟩
   ·exact l.hl
   ·exact (l.own n a e1 e2 e3).1
  ·exact l.dis a
 ·have kk : ∀ a x, K a = some x → T' a = some x := fun a x e => h2 a x (by
   dsimp only
   (rewrite [if_neg]; refine rG e ?_; rfl)
   rintro (rfl | ⟨n, e1, e2, e3⟩)
   ·rw [l.kl] at e; injection e
   ·rw [(l.own n a e1 e2 e3).2.1] at e; injection e)
  have ko : ∀ a, own a → ∀ x, T a = some x → T' a = some x ∧ H' a = none := fun a ho x e => by
   have e' : (fun a => if own a then T a else K a) a = some x := by dsimp only; (refine rG (if_pos ho) ?_; refine rG e ?_; rfl)
   refine ⟨h2 a x e', ?_⟩
   rcases h3 a with q | q
   ·exact q
   ·rw [e'] at q; injection q
  refine ⟨(ko _ (.inl rfl) _ l.loc).1, fun n a e => ?_, h1, kk, fun a => ?_, (ko _ (.inl rfl) _ l.loc).2, l.kl, fun n a e hk hz => ?_, l.fre, l.fn, l.gl, l.bl⟩
  ·cases hz : isFz (cm n) with
   | true => exact (l.cel n a e).up k0 fun q _ => by rw [hz] at q; cases q
   | false =>
    refine CelOk.of ?_ hz
    by_cases hk : ownC env n
    ·exact (ko _ (.inr ⟨n, e, hk, hz⟩) _ ((l.cel n a e).own hz)).1
    ·exact kk _ _ (l.fre n a e hk hz)
  ·by_cases hK : K a = none
   ·exact .inr hK
   ·left
    rcases h3 a with q | q
    ·exact q
    ·dsimp only at q
     split at q
     ·rename_i ho
      exfalso
      rcases ho with rfl | ⟨n, e1, e2, e3⟩
      ·exact hK l.kl
      ·exact hK (l.own n a e1 e2 e3).2.1
     ·exact absurd q hK
  ·obtain ⟨o1, o2, o3, o4⟩ := l.own n a e hk hz
   exact ⟨(ko _ (.inr ⟨n, e, hk, hz⟩) _ ((l.cel n a e).own hz)).2, o2, o3, o4⟩
 ·dsimp only
  by_cases ho : own a
  ·refine rG (if_pos ho) ?_; exact (l.cel n a e).own hz
  ·refine rG (if_neg ho) ?_
   exact l.fre n a e (fun hk => ho (.inr ⟨n, e, hk, hz⟩)) hz
noncomputable def FnAt (c : Cx) (a : Addr) (fd : FuncData) : Prop :=
 ∃ o, (Ks c.w.params).lookup a = some o ∧ o.data = .func fd ∧ codeIn (Ks c.w.params) fd.code fd.qualname = true
theorem FnAt.get {c : Cx} {T : TM} {F : FM} {s : Shared} {a : Addr} {fd : FuncData} (h : FnAt c a fd) (r : Rel c F T s) : ∃ o, s.heap.get? a = some o ∧ o.data = .func fd ∧ s.heap.CodeRec fd.code fd.qualname := by
 refine x1a3 h fun o e d q => ?_
 exact i1a3 o (r.kin _ _ e) d (codeRec_of r.kin q)
noncomputable def isFn (p : Params) : MV → Bool
 | .raw (.ref a) => keepIn (Ks p) (.ref a)
 | .raw (.builtin _) => true
 | .raw (.type _) => true
 | .clo _ _ _ => true
 | _ => false
noncomputable def KeepP (c : Cx) (v : Value) (h : Heap) : Prop := ∃ k, (k = Keeper.frame ∨ k = Keeper.machine ∨ k = Keeper.boundFrame) ∧ Looks (model P c.w) h (keeperOf v) k
section
variable {c : Cx} {A : Around} {env : Env} {m cm : LM} {H : TM} {Q : MV → LM → LM → TM → Prop}
theorem keeps_fn {a : Addr} {M : Model} (h : Heap) (x : ∃ o fd, h.get? a = some o ∧ o.data = .func fd) : ∃ k, (k = Keeper.frame ∨ k = Keeper.machine ∨ k = Keeper.boundFrame) ∧ Looks M h (keeperOf (.ref a)) k := by
 refine x2a2 x fun o fd e d => ?_
 refine i1a2 (.frame) (.inl rfl) ((Looks.ld (part := none) e).andThen ?_)
 refine rG d ?_; exact .now
theorem W.items_nil {pos : Pos} {Z : List MV → LM → LM → TM → Prop} (q : Z [] m cm H) : W c A env m cm H (spliced (backTo pos (starEach [] env))) VL Z := fun F K s r =>
 wpAny_items_nil ⟨F, [], m, cm, H, FM.le.refl F, r, VRs.nil, q⟩
theorem W.items_cons {pos : Pos} {e : Expr} {rest : List Expr} {Z : List MV → LM → LM → TM → Prop} (he : starEach (e :: rest) env = (false, eval e env) :: starEach rest env)
  (h : W c A env m cm H (eval e env) V (ItP c A env pos rest Z)) :
  W c A env m cm H (spliced (backTo pos (starEach (e :: rest) env))) VL Z := fun F K s r =>
 wpAny_items_cons (W.wp h r fun F1 b m1 cm1 H1 v s1 k1 r1 v1 q1 =>
  W.wp q1 r1 fun F2 b2 m2 cm2 H2 vs s2 k2 r2 v2 q2 => ⟨F2, b :: b2, m2, cm2, H2, k1.trans k2, r2, .cons (VR.mono k2 _ v1) v2, q2⟩) he
theorem W.items {pos : Pos} {on : On} {n : Nat} {es : List Expr} {l : List MV} {C : List Prop} {Z : List MV → LM → LM → TM → Prop} (hu : Rm A) (ho : OnOk env m cm H on)
  (he : evsWith (Mine.ev c.w.params env m cm on n) es = some (l, C)) (hC : AllP C) (q : Z l m cm H) : W c A env m cm H (spliced (backTo pos (starEach es env))) VL Z :=
 W.ofPuN (fun F => puN_items (fun e v C he hC F => ev_ok hu ho n e v C he hC F) pos es l C F he hC) q
theorem call_back {f : MV} {fv : Value} {args : List MV} {Z : MV → TM → Prop} {F : FM} {K : TM} {s : Shared} {vals : List Value} (r : RelE c env m cm F H K s) (hf : VR F f fv) (hv : VRs F args vals) (h : CallW c A f args H Z) {G : Value → Shared → Prop}
  (q : ∀ F' H' v s' x, F.le F' → RelE c env m cm F' H' K s' → VR F' x v → Z x H' → G v s') : wpAny (model P c.w) A (call fv vals) G NoE s := by
 obtain ⟨T, r, l⟩ := r
 refine x1a4 l.toCall fun K' k1 k2 k3 _ => ?_
 refine wpAny_call (codeAny_mono (h F K' T s fv vals r l.hT k1 k2 hf hv) fun r s' hr => ?_)
 unfold CallR at hr
 split at hr
 ·obtain ⟨F', T', H', x, j1, j2, j3, j4, j5, j6, j7⟩ := hr
  exact q F' H' _ s' x j1 ⟨T', j2, k3 F' T' H' j1 j3 j4 j5⟩ j6 j7
 ·exact hr.elim
theorem isFn_of {f : MV} {fv : Value} {F : FM} {T : TM} {s : Shared} (h : isFn c.w.params f = true) (r : Rel c F T s) (v : VR F f fv) : KeepP c fv s.heap := by
 unfold isFn at h
 split at h
 ·simp only [VR] at v; subst v; exact keeps_K h _ r.kin
 ·simp only [VR] at v; subst v; exact i1a2 (.machine) (.inr (.inl rfl)) (Looks.of_pure rfl)
 ·simp only [VR] at v; subst v; exact i1a2 (.machine) (.inr (.inl rfl)) (Looks.of_pure rfl)
 ·simp only [VR] at v
  obtain ⟨a, o, cl, us, doc, pm, code, ct, rfl, e2, r1, r2, _⟩ := v
  exact keeps_fn _ ⟨o, _, (r.fz _ _ e2).1, r2⟩
 ·injection h
noncomputable abbrev CaP (c : Cx) (A : Around) (fm : MV) (Q : MV → LM → LM → TM → Prop) : List MV → LM → LM → TM → Prop := fun vs m cm H => CallW c A fm vs H (DrP Q m cm)
noncomputable abbrev MeP (c : Cx) (A : Around) (f a : Addr) (Q : MV → LM → LM → TM → Prop) : List MV → LM → LM → TM → Prop := fun vs m cm H => CallW c A (.raw (.ref f)) (.raw (.ref a) :: vs) H (DrP Q m cm)
theorem W.callName {id : Str} {p pos : Pos} {e0 : Expr} {er : List Expr} (fm : MV) (hn : nameV env m cm id = some fm) (hfn : isFn c.w.params fm = true)
  (h : W c A env m cm H (spliced (backTo pos (starEach (e0 :: er) env))) VL (CaP c A fm Q))
  (hs : starEach (e0 :: er) env = (false, eval e0 env) :: starEach er env := by rfl) (hp : (backTo pos (starEach er env)).any (·.1) = false := by rfl) :
  W c A env m cm H (eval (.Call (.Name id p) (e0 :: er) [] pos) env) V Q := fun F K s r => by
 obtain ⟨T, r0, l⟩ := r
 refine wpAny_Call_Name_kw ((puN_name F hn).then (γ := Unit) (δ := Unit) r0 l fun F1 fv s1 k1 l r1 v1 => ?_)
 rw [hs] at h ⊢
 refine callWith_of (P := KeepP c fv) (by show ((false || (backTo pos (starEach er env)).any (·.1)) || false) = false; refine rG hp ?_; rfl) (fun h x => x) (evalArgs_plain ?_)
 refine W.wp h ⟨T, r1, l⟩ fun F2 b m2 cm2 H2 vs s2 k2 r2 v2 q2 => ⟨?_, ?_⟩
 ·obtain ⟨T2, r2, l2⟩ := r2
  exact isFn_of hfn r2 (VR.mono k2 _ v1)
 ·exact call_back r2 (VR.mono k2 _ v1) v2 q2 fun F3 H3 v s3 x k3 r3 v3 q3 => ⟨F3, x, m2, cm2, H3, k1.trans (k2.trans k3), r3, v3, q3⟩
theorem W.callName0 {id : Str} {p pos : Pos} (fm : MV) (hn : nameV env m cm id = some fm) (hfn : isFn c.w.params fm = true)
  (h : CallW c A fm [] H (DrP Q m cm)) : W c A env m cm H (eval (.Call (.Name id p) [] [] pos) env) V Q := fun F K s r => by
 obtain ⟨T, r0, l⟩ := r
 refine wpAny_Call_Name_kw ((puN_name F hn).then (γ := Unit) (δ := Unit) r0 l fun F1 fv s1 k1 l r1 v1 => ?_)
 refine callWith_of (P := KeepP c fv) rfl (fun h x => x) (evalArgs_nil3 ⟨isFn_of hfn r1 v1, ?_⟩)
 exact call_back ⟨T, r1, l⟩ v1 VRs.nil h fun F3 H3 v s3 x k3 r3 v3 q3 => ⟨F3, x, m, cm, H3, k1.trans k3, r3, v3, q3⟩
end
end Mine
namespace Mine
section
variable {c : Cx} {F : FM}
theorem rel_cells : ∀ (names : List (Str × NameKind)) (acc : List (Str × Addr)) (s : Shared) (T : TM), Rel c F T s →
  ∃ (T' : TM) (new : List (Str × Addr)), Rel c F T' { s with heap := pushCells s.heap names } ∧ T.le T' ∧ cellsFrom s.heap.objs.size names acc = new ++ acc ∧
   (∀ n a, (n, a) ∈ new → T' a = some (.cell none) ∧ T a = none ∧ (n, NameKind.cell) ∈ names ∧ s.heap.objs.size ≤ a) ∧
   (∀ n n' a, (n, a) ∈ new → (n', a) ∈ new → n' = n)
 | [], acc, s, T, r => ⟨T, [], r, TM.le.refl T, rfl, fun _ _ h => (nomatch h), fun _ _ _ h => (nomatch h)⟩
 | (name, kind) :: rest, acc, s, T, r => by
  unfold pushCells cellsFrom
  by_cases hk : (kind == NameKind.cell) = true
  ·(refine rG (if_pos hk) ?_; refine rG (if_pos hk) ?_)
   have r1 := r.pushO (o := { cls := .type "cell", data := .cell none }) (x := .cell none) ⟨none, ⟨_, Heap.get?_push_size _ rfl, rfl⟩, rfl⟩
   refine x2a5 (rel_cells rest ((name, s.heap.objs.size) :: acc) _ _ r1) fun T' new h1 h2 h3 h4 h5 => ?_
   have hkk : kind = .cell := by simpa using hk
   have hfr := r.fresh
   have hle : T.le (T.upd s.heap.objs.size (.cell none)) := fun a x e => by
    have : a ≠ s.heap.objs.size := by first | exact TM.neS e hfr | exact (TM.neS e hfr).symm | (rintro rfl; rw [hfr] at e; cases e)
    refine rG (TM.upd_ne this) ?_; exact e
   refine ⟨T', (new ++ [(name, s.heap.objs.size)]), h1, (hle.trans h2), ?_, ?_, ?_⟩
   ·have hz : ({ s with heap := s.heap.push { cls := .type "cell", data := .cell none } } : Shared).heap.objs.size = s.heap.objs.size + 1 := Heap.size_push ..
    rw [hz] at h3
    refine rG h3 ?_; simp
   ·intro n a hm
    rcases List.mem_append.mp hm with q | q
    ·refine x0a4 (h4 n a q) fun k1 k2 k3 k4 => ?_
     have hz : ({ s with heap := s.heap.push { cls := .type "cell", data := .cell none } } : Shared).heap.objs.size = s.heap.objs.size + 1 := Heap.size_push ..
     rw [hz] at k4
     refine ⟨k1, ?_, .tail _ k3, Nat.le_of_succ_le k4⟩
     rw [TM.upd_ne (Nat.ne_of_gt k4)] at k2; exact k2
    ·simp only [List.mem_singleton, Prod.mk.injEq] at q
     (refine x0a2 q fun e90 e91 => ?_; subst e90 e91)
     exact ⟨h2 _ _ (TM.upd_self _ _ _), hfr, by refine rG hkk ?_; exact .head _, Nat.le_refl _⟩
   ·intro n n' a hm hm'
    have lt : ∀ m, (m, a) ∈ new → s.heap.objs.size < a := fun m q => by
     have := (h4 m a q).2.2.2
     have hz : ({ s with heap := s.heap.push { cls := .type "cell", data := .cell none } } : Shared).heap.objs.size = s.heap.objs.size + 1 := Heap.size_push ..
     rw [hz] at this; exact this
    rcases List.mem_append.mp hm with q | q <;> rcases List.mem_append.mp hm' with q' | q'
    ·exact h5 n n' a q q'
    ·simp only [List.mem_singleton, Prod.mk.injEq] at q'
     have := lt n q; rw [q'.2] at this; exact absurd this (Nat.lt_irrefl _)
    ·simp only [List.mem_singleton, Prod.mk.injEq] at q
     have := lt n' q'; rw [q.2] at this; exact absurd this (Nat.lt_irrefl _)
    ·simp only [List.mem_singleton, Prod.mk.injEq] at q q'
     (refine rG q.1 ?_; refine rG q'.1 ?_; rfl)
  ·(refine rG (if_neg hk) ?_; refine rG (if_neg hk) ?_)
   refine x2a5 (rel_cells rest acc s T r) fun T' new h1 h2 h3 h4 h5 => ?_
   exact ⟨T', new, h1, h2, h3, (fun n a hm => let ⟨a1, a2, a3, a4⟩ := h4 n a hm; ⟨a1, a2, .tail _ a3, a4⟩), h5⟩
end
noncomputable def bindAll (env : Env) : List Str → List MV → LM → LM → Option (LM × LM)
 | [], [], m, cm => some (m, cm)
 | n :: ns, v :: vs, m, cm => match storeTo env m cm n v with
  | some (m1, cm1) => bindAll env ns vs m1 cm1
  | none => none
 | _, _, _, _ => none
section
variable {c : Cx} {A : Around}
set_option tactic.hygienic true in
theorem binds_ok {env : Env} {f : Str × Value → PUnit → Sem (ForInStep PUnit)} (hf : ∀ n v u, f (n, v) u = (do storeName env n v; pure (.yield ⟨⟩))) {F : FM} {H K : TM} {m1 cm1 : LM} {G : PUnit → Shared → Prop} :
  ∀ (ns : List Str) (ms : List MV) (vs : List Value) (m cm : LM) (s : Shared), bindAll env ns ms m cm = some (m1, cm1) → VRs F ms vs → RelE c env m cm F H K s →
   (∀ s', RelE c env m1 cm1 F H K s' → G ⟨⟩ s') → wpAny (model P c.w) A (forIn (ns.zip vs) ⟨⟩ f) G NoE s
 | [], [] => by
  intro vs m cm s e hv r q
  simp only [VRs] at hv
  subst hv
  simp only [bindAll, Option.some.injEq, Prod.mk.injEq] at e
  (refine x0a2 e fun e90 e91 => ?_; subst e90 e91)
  (refine rG List.zip_nil_left ?_; refine rG List.forIn_nil ?_)
  exact wpAny_pure (q s r)
 | n :: ns, v :: ms => by
  intro vs m cm s e hv r q
  (refine x2a3 hv.uncons fun u rest e92 h1 h2 => ?_; subst e92)
  simp only [bindAll] at e
  split at e
  ·rename_i m2 cm2 hst
   (refine rG List.zip_cons_cons ?_; refine rG (List.forIn_cons ..) ?_; refine rG (hf ..) ?_)
   exact wpAny_bind (wpAny_bind (store_ok hst r h1 fun s' r' => wpAny_pure (binds_ok hf ns ms rest m2 cm2 s' e h2 r' q)))
  ·injection e
 | [], _ :: _ => by intro _ _ _ _ e _ _ _; simp [bindAll] at e
 | _ :: _, [] => by intro _ _ _ _ e _ _ _; simp [bindAll] at e
noncomputable def callEnvM (fd : FuncData) (L a : Addr) : Env := newEnv fd.scope L fd.globals (cellsFrom (L + 1) fd.scope.names fd.closure) (fd.qualname ++ ".<locals>.") (some a) fd.code none fd.builtins
noncomputable def RetQ (Q : MV → TM → Prop) : MFlow → LM → LM → TM → Prop := fun f m cm H' => match f with
 | .ret v => Q v H'
 | .next => Q .none H'
 | _ => False
noncomputable def fdOk (fd : FuncData) : Bool := (match fd.body with | .stmts _ => true | _ => false) && fd.globals == mainGlobals && fd.builtins == builtinsNs && !fd.scope.isCoroutine && !fd.scope.isGenerator && fd.scope.kind == .function &&
 (fd.scope.names.all fun x => x.2 != .cell || fd.scope.names.lookup x.1 == some .cell)
noncomputable def bdOf (fd : FuncData) : List Stmt := match fd.body with
 | .stmts b => b
 | _ => []
theorem lay_new {fa : Addr} {fd : FuncData} {H : TM} {cl : LM} {F : FM} {K T : TM} {s : Shared} (hk : fd.scope.kind = .function) (hgl : fd.globals = mainGlobals) (hbl : fd.builtins = builtinsNs)
  (hcells : (fd.scope.names.all fun x => x.2 != .cell || fd.scope.names.lookup x.1 == some .cell) = true)
  (hcl : ∀ n a, (n, a) ∈ fd.closure → ∃ v, cl n = some (.fz v) ∧ ∃ o u, F a = some o ∧ o.data = .cell (some u) ∧ VR F v u) (hcl0 : ∀ n, fd.scope.names.lookup n = some .cell → cl n = none)
  (r : Rel c F T s) (hT : H.le T) (kT : K.le T) (hd : H.dis K) :
  RelE c (callEnvM fd s.heap.objs.size fa) LM.nil cl F H K { s with heap := pushCells (s.heap.push { cls := .type "frame", data := .dict #[] }) fd.scope.names } := by
 have r1 := r.pushO (o := { cls := .type "frame", data := .dict #[] }) (x := .ns LM.nil) ⟨_, Heap.Ns.new s.heap (.type "frame"), fun _ => rfl⟩
 refine x2a5 (rel_cells fd.scope.names fd.closure _ _ r1) fun T2 new r2 le2 hcf hnew huniq => ?_
 have hz : ({ s with heap := s.heap.push { cls := .type "frame", data := .dict #[] } } : Shared).heap.objs.size = s.heap.objs.size + 1 := Heap.size_push ..
 have hfr := r.fresh
 have hle : T.le (T.upd s.heap.objs.size (.ns LM.nil)) := fun a x e => by
  have : a ≠ s.heap.objs.size := by first | exact TM.neS e hfr | exact (TM.neS e hfr).symm | (rintro rfl; rw [hfr] at e; cases e)
  refine rG (TM.upd_ne this) ?_; exact e
 have hnone : ∀ {S : TM}, S.le T → ∀ a, T a = none → S a = none := fun {S} k a e => by
  cases q : S a with
  | none => rfl
  | some x => rw [k a x q] at e; cases e
 have lay : Lay F (callEnvM fd s.heap.objs.size fa) LM.nil cl H K T2 := by
  have hcells' : (callEnvM fd s.heap.objs.size fa).cells = new ++ fd.closure := by rw [hz] at hcf; exact hcf
  have cases_ : ∀ n a, (callEnvM fd s.heap.objs.size fa).cells.lookup n = some a → (n, a) ∈ new ∨ (n, a) ∈ fd.closure := fun n a e => by
   rw [hcells'] at e; exact List.mem_append.mp (mem_of_lookup e)
  have newKind : ∀ n a, (n, a) ∈ new → fd.scope.names.lookup n = some .cell := fun n a q => by
   have := List.all_eq_true.mp hcells _ (hnew n a q).2.2.1
   simpa using this
  have newT : ∀ n a, (n, a) ∈ new → T a = none ∧ a ≠ s.heap.objs.size := fun n a q => by
   have h1 := (hnew n a q).2.1
   have h2 : a ≠ s.heap.objs.size := by have := (hnew n a q).2.2.2; rw [hz] at this; exact Nat.ne_of_gt this
   exact ⟨by rw [TM.upd_ne h2] at h1; exact h1, h2⟩
  have cloF : ∀ n a, (n, a) ∈ fd.closure → isFz (cl n) = true := fun n a q => by
   obtain ⟨v, e, _⟩ := hcl n a q; refine rG e ?_; rfl
  refine ⟨le2 _ _ (TM.upd_self _ _ _), fun n a e => ?_, hT.trans (hle.trans le2), kT.trans (hle.trans le2), hd, hnone hT _ hfr, hnone kT _ hfr, fun n a e hkn hzn => ?_, fun n a e hkn hzn => ?_, hk, hgl, hbl⟩
  ·rcases cases_ n a e with q | q
   ·refine rG (hcl0 n (newKind n a q)) ?_; exact (hnew n a q).1
   ·obtain ⟨v, e, q⟩ := hcl n a q; refine rG e ?_; exact q
  ·rcases cases_ n a e with q | q
   ·obtain ⟨t1, t2⟩ := newT n a q
    refine ⟨hnone hT a t1, hnone kT a t1, t2, fun n' e' => ?_⟩
    rcases cases_ n' a e' with q' | q'
    ·exact huniq n n' a q q'
    ·obtain ⟨v, e, o, u, e4, _⟩ := hcl n' a q'
     have h5 := (r.fz _ _ e4).1
     have h6 := (hnew n a q).2.2.2
     rw [hz] at h6
     exact absurd (Heap.lt_size h5) (Nat.not_lt.mpr (Nat.le_of_succ_le h6))
   ·rw [cloF n a q] at hzn; cases hzn
  ·rcases cases_ n a e with q | q
   ·exact absurd ⟨rfl, newKind n a q⟩ hkn
   ·rw [cloF n a q] at hzn; cases hzn
 exact ⟨T2, r2, lay⟩
theorem call_body {fa : Addr} {fd : FuncData} {bargs : List MV} {names : List Str} {H : TM} {cl : LM} {Q : MV → TM → Prop} {F : FM} {K T : TM} {s : Shared} {vals : List Value} {o : Obj}
  (e1 : s.heap.get? fa = some o) (e2 : o.data = .func fd) (e3 : s.heap.CodeRec fd.code fd.qualname) (hroom : A.depth < recursionLimit) (hok : fdOk fd = true)
  (hcl : ∀ n a, (n, a) ∈ fd.closure → ∃ v, cl n = some (.fz v) ∧ ∃ o u, F a = some o ∧ o.data = .cell (some u) ∧ VR F v u) (hcl0 : ∀ n, fd.scope.names.lookup n = some .cell → cl n = none)
  (hbind : ∃ bvals, BindsTo s fd ⟨vals, []⟩ (names.zip bvals) ∧ VRs F bargs bvals)
  (r : Rel c F T s) (hT : H.le T) (kT : K.le T) (hd : H.dis K)
  (h : ∀ L, ∃ m1 cm1, bindAll (callEnvM fd L fa) names bargs LM.nil cl = some (m1, cm1) ∧
   W c (A.deeper (callEnvM fd L fa)) (callEnvM fd L fa) m1 cm1 H (execs (bdOf fd) (callEnvM fd L fa)) Fl (RetQ Q)) :
  codeAny (model P c.w) A (.call (.ref fa) ⟨vals, []⟩) (CallR c F K Q) s := by
 unfold fdOk at hok
 simp only [Bool.and_eq_true, beq_iff_eq, Bool.not_eq_true'] at hok
 obtain ⟨⟨⟨⟨⟨⟨hbody', hgl⟩, hbl⟩, hco⟩, hgen⟩, hk⟩, hcells⟩ := hok
 have hbody : fd.body = .stmts (bdOf fd) := by
  unfold bdOf
  split at hbody'
  ·rename_i q; (refine rG q ?_; rfl)
  ·injection hbody'
 refine x1a2 hbind fun bvals hb1 hb2 => ?_
 refine codeAny_call_function hroom e1 e2 hco hgen hbody e3 (hb1 _ _ _ _ ?_)
 refine x2a2 (h s.heap.objs.size) fun m1 cm1 hba hw => ?_
 simp only [newFunctionEnv, Option.isSome_none, Bool.false_eq_true, if_false]
 refine wpAny_bind (wpAny_alloc ?_)
 refine wpAny_bind (wpAny_layCells _ (fun name kind cells => by cases hkc : kind == NameKind.cell <;> simp [hkc]) _ _ _ _ ?_)
 have lay := lay_new (fa := fa) hk hgl hbl hcells hcl hcl0 r hT kT hd
 have hz : ({ s with heap := s.heap.push { cls := .type "frame", data := .dict #[] } } : Shared).heap.objs.size = s.heap.objs.size + 1 := Heap.size_push ..
 refine rG hz ?_
 refine wpAny_bind (binds_ok (env := callEnvM fd s.heap.objs.size fa) (fun _ _ _ => rfl) names bargs bvals LM.nil cl _ hba hb2 lay fun s' r' => wpAny_pure ⟨?_, codeAny_func ?_⟩)
 ·obtain ⟨T3, r3, _⟩ := r'
  exact r3.nolimit
 ·refine wpAny_mono (hw F K s' r') (fun f s'' hpat => ?_) (fun _ _ x => x.elim)
  obtain ⟨F', b, m', cm', H', k1, ⟨T', r4, l4⟩, v1, q1⟩ := hpat
  cases b with
  | ret v =>
   simp only [Fl] at v1
   obtain ⟨u, rfl, v1⟩ := v1
   exact ⟨F', T', _, v, k1, r4, l4.hT, l4.kT, l4.dis, v1, q1⟩
  | next =>
   simp only [Fl] at v1; subst v1
   exact ⟨F', T', _, .none, k1, r4, l4.hT, l4.kT, l4.dis, vr_none, q1⟩
  | brk => exact q1.elim
  | cont => exact q1.elim
theorem CallW.body {fa : Addr} {fd : FuncData} {args bargs : List MV} {names : List Str} {H : TM} {Q : MV → TM → Prop} (hfn : FnAt c fa fd) (hroom : A.depth < recursionLimit) (hok : fdOk fd = true) (hclo : fd.closure = [])
  (hbind : ∀ F T s vals, Rel c F T s → VRs F args vals → ∃ bvals, BindsTo s fd ⟨vals, []⟩ (names.zip bvals) ∧ VRs F bargs bvals)
  (h : ∀ L, ∃ m1 cm1, bindAll (callEnvM fd L fa) names bargs LM.nil LM.nil = some (m1, cm1) ∧
   W c (A.deeper (callEnvM fd L fa)) (callEnvM fd L fa) m1 cm1 H (execs (bdOf fd) (callEnvM fd L fa)) Fl (RetQ Q)) :
  CallW c A (.raw (.ref fa)) args H Q := fun F K T s fv vals r hT kT hd hf hv => by
 simp only [VR] at hf
 subst hf
 refine x1a3 (hfn.get r) fun o e1 e2 e3 => ?_
 exact call_body (cl := LM.nil) e1 e2 e3 hroom hok (fun n a q => by rw [hclo] at q; contradiction) (fun _ _ => rfl) (hbind F T s vals r hv) r hT kT hd h
noncomputable def cloL : List Str → List MV → LM
 | n :: ns, v :: vs => (cloL ns vs).set n (.fz v)
 | _, _ => LM.nil
theorem cells_names {F : FM} : ∀ {ns : List Str} {cl : List (Str × Addr)} {us : List Value}, CellsF F ns cl us → ∃ as : List Addr, as.length = ns.length ∧ cl = ns.zip as
 | [] => by rename_i _ _; intro h; (refine x0a2 h fun e90 _ => ?_; subst e90); exact i1a2 ([]) rfl rfl
 | x :: ns => by
  rename_i _ _
  intro h
  obtain ⟨b, _, _, _, _, rfl, _, _, _, h⟩ := h
  refine x1a2 (cells_names h) fun as h1 h2 => ?_
  exact i1a2 (b :: as) (by simp [h1]) (by refine rG h2 ?_; rfl)
theorem cells_clo {F : FM} : ∀ {ns : List Str} {cl : List (Str × Addr)} {us : List Value} {vs : List MV}, CellsF F ns cl us → VRs F vs us → ns.Nodup → ∀ n a, (n, a) ∈ cl → ∃ v, cloL ns vs n = some (.fz v) ∧ ∃ o u, F a = some o ∧ o.data = .cell (some u) ∧ VR F v u
 | [] => by rename_i _ _ _; intro h _ _ n a q; (refine x0a2 h fun e90 _ => ?_; subst e90); contradiction
 | k :: ns => by
  rename_i _ _ vs
  intro h hv hn n a q
  (obtain ⟨b, o, u, cl', us', e95, e96, e3, e4, e5⟩ := h; subst e95 e96)
  cases vs with
  | nil => simp [VRs] at hv
  | cons v vs =>
   refine x2a3 hv.uncons fun u' r e h1 h2 => ?_
   cases e
   simp only [cloL, LM.set]
   rw [List.nodup_cons] at hn
   rcases List.mem_cons.mp q with q1 | q1
   ·cases q1
    exact ⟨v, if_pos rfl, o, u, e3, e4, h1⟩
   ·obtain ⟨w, e, z⟩ := cells_clo e5 h2 hn.2 n a q1
    have hkn : n ≠ k := by
     rintro rfl
     obtain ⟨as, _, h6⟩ := cells_names e5
     rw [h6] at q1
     exact hn.1 (List.of_mem_zip q1).1
    exact i1a2 w (by refine rG (if_neg hkn) ?_; exact e) z
theorem CallW.cbody {d : CloD} {ns : List Str} {vs args bargs : List MV} {names : List Str} {H : TM} {Q : MV → TM → Prop} (hroom : A.depth < recursionLimit)
  (hok : ∀ cl doc pm code ct, fdOk (d.fd cl doc pm code ct) = true) (hns : ns.Nodup) (hcl0 : ∀ n, d.scope.names.lookup n = some .cell → cloL ns vs n = none)
  (hbind : ∀ cl doc pm code ct F T s vals, Rel c F T s → VRs F args vals → ∃ bvals, BindsTo s (d.fd cl doc pm code ct) ⟨vals, []⟩ (names.zip bvals) ∧ VRs F bargs bvals)
  (h : ∀ L fa as doc pm code ct, as.length = ns.length → ∃ m1 cm1, bindAll (callEnvM (d.fd (ns.zip as) doc pm code ct) L fa) names bargs LM.nil (cloL ns vs) = some (m1, cm1) ∧
   W c (A.deeper (callEnvM (d.fd (ns.zip as) doc pm code ct) L fa)) (callEnvM (d.fd (ns.zip as) doc pm code ct) L fa) m1 cm1 H (execs (bdOf (d.fd (ns.zip as) doc pm code ct)) (callEnvM (d.fd (ns.zip as) doc pm code ct) L fa)) Fl (RetQ Q)) :
  CallW c A (.clo d ns vs) args H Q := fun F K T s fv vals r hT kT hd hf hv => by
 simp only [VR] at hf
 obtain ⟨fa, o, cl, us, doc, pm, code, ct, rfl, e2, r1, r2, ⟨cc, oc, vs', t, e3, e4, e5, e6⟩, r4, r5⟩ := hf
 refine x1a2 (cells_names r4) fun as h1 h2 => ?_
 subst h2
 exact call_body (cl := cloL ns vs) (r.fz _ _ e2).1 r2 ⟨cc, oc, vs', t, e3, (r.fz _ _ e4).1, e5, e6⟩ hroom (hok _ _ _ _ _) (cells_clo r4 r5 hns) (fun n q => hcl0 n q) (hbind _ _ _ _ _ F T s vals r hv) r hT kT hd fun L => h L fa as doc pm code ct h1
end
end Mine
namespace Mine
section
variable {c : Cx} {A : Around} {env : Env} {m cm : LM} {H K : TM} {F : FM} {s : Shared}
theorem Lay.cell_ne {T : TM} (l : Lay F env m cm H K T) {a : Addr} {x : MObj} (e : H a = some x) : a ≠ env.locals ∧ ∀ n b, env.cells.lookup n = some b → isFz (cm n) = false → b ≠ a := by
 refine ⟨fun q => ?_, fun n b hb hz q => ?_⟩
 ·rw [q, l.hl] at e; injection e
 ·subst q
  by_cases hk : ownC env n
  ·rw [(l.own n b hb hk hz).1] at e; injection e
  ·have := l.fre n b hb hk hz
   rcases l.dis b with q | q
   ·rw [q] at e; injection e
   ·rw [q] at this; injection this
theorem Lay.k_ne {T : TM} (l : Lay F env m cm H K T) {a b : Addr} {x y : MObj} (e : H a = some x) (f : K b = some y) : b ≠ a := by
 rintro rfl
 rcases l.dis b with q | q
 ·rw [q] at e; injection e
 ·rw [q] at f; injection f
theorem Lay.set {T : TM} (l : Lay F env m cm H K T) {a : Addr} {x y : MObj} (e : H a = some x) : Lay F env m cm (H.upd a y) K (T.upd a y) := by
 refine x0a2 (l.cell_ne e) fun n1 n2 => ?_
 have hle : (H.upd a y).le (T.upd a y) := fun b z eb => by
  by_cases hb : b = a
  ·subst hb; rw [TM.upd_self] at eb ⊢; exact eb
  ·rw [TM.upd_ne hb] at eb ⊢; exact l.hT b z eb
 refine { l with
  loc := by refine rG (TM.upd_ne (Ne.symm n1)) ?_; exact l.loc
  cel := fun n b hb => (l.cel n b hb).up (FM.le.refl F) fun hz h => by refine rG (TM.upd_ne (n2 n b hb hz)) ?_; exact h
  hT := hle
  kT := fun b z eb => by refine rG (TM.upd_ne (l.k_ne e eb)) ?_; exact l.kT b z eb
  dis := fun b => ?_
  hl := by refine rG (TM.upd_ne (Ne.symm n1)) ?_; exact l.hl
  own := fun n b hb hk hz => ?_ }
 ·by_cases hb : b = a
  ·subst hb
   rcases l.dis b with q | q
   ·rw [q] at e; injection e
   ·exact .inr q
  ·refine rG (TM.upd_ne hb) ?_; exact l.dis b
 ·refine x0a4 (l.own n b hb hk hz) fun o1 o2 o3 o4 => ?_
  exact ⟨by refine rG (TM.upd_ne (n2 n b hb hz)) ?_; exact o1, o2, o3, o4⟩
theorem RelE.set (r : RelE c env m cm F H K s) {a : Addr} {x y : MObj} {h' : Heap} {tk : Nat} (e : H a = some x) (hs : Heap.SameBut a s.heap h') (hy : Rep c.w F h' a y) : RelE c env m cm F (H.upd a y) K { s with heap := h', toks := tk } := by
 obtain ⟨T, r, l⟩ := r
 exact ⟨T.upd a y, r.set (l.hT _ _ e) hs hy, l.set e⟩
theorem RelE.rep (r : RelE c env m cm F H K s) {a : Addr} {x : MObj} (e : H a = some x) : Rep c.w F s.heap a x := let ⟨T, r, l⟩ := r; (r.own _ _ (l.hT _ _ e)).2.1
theorem RelE.fz (r : RelE c env m cm F H K s) {a : Addr} {o : Obj} (e : F a = some o) : s.heap.get? a = some o := let ⟨T, r, l⟩ := r; (r.fz _ _ e).1
theorem RelE.kin (r : RelE c env m cm F H K s) : (Ks c.w.params).In s.heap := let ⟨T, r, l⟩ := r; r.kin
theorem RelE.pushF (r : RelE c env m cm F H K s) {o : Obj} (ho : o.isFreed = false) : F.le (F.upd s.heap.objs.size o) ∧ RelE c env m cm (F.upd s.heap.objs.size o) H K { s with heap := s.heap.push o } :=
 let ⟨T, r, l⟩ := r; ⟨(r.pushF ho).1, T, (r.pushF ho).2, l.up (r.pushF ho).1⟩
theorem Lay.new {T : TM} (l : Lay F env m cm H K T) {a : Addr} {y : MObj} (e : T a = none) : Lay F env m cm (H.upd a y) K (T.upd a y) := by
 have hH : H a = none := by
  cases q : H a with
  | none => rfl
  | some x => rw [l.hT a x q] at e; cases e
 have hK : K a = none := by
  cases q : K a with
  | none => rfl
  | some x => rw [l.kT a x q] at e; cases e
 have n1 : env.locals ≠ a := by intro q; have := l.loc; rw [q, e] at this; cases this
 have n2 : ∀ n b, env.cells.lookup n = some b → isFz (cm n) = false → b ≠ a := fun n b hb hz q => by have := (l.cel n b hb).own hz; rw [q, e] at this; cases this
 refine { l with
  loc := by refine rG (TM.upd_ne n1) ?_; exact l.loc
  cel := fun n b hb => (l.cel n b hb).up (FM.le.refl F) fun hz h => by refine rG (TM.upd_ne (n2 n b hb hz)) ?_; exact h
  hT := fun b z eb => by
   by_cases hb : b = a
   ·subst hb; rw [TM.upd_self] at eb ⊢; exact eb
   ·rw [TM.upd_ne hb] at eb ⊢; exact l.hT b z eb
  kT := fun b z eb => by
   have : b ≠ a := by first | exact TM.neS eb hK | exact (TM.neS eb hK).symm | (rintro rfl; rw [hK] at eb; cases eb)
   refine rG (TM.upd_ne this) ?_; exact l.kT b z eb
  dis := fun b => ?_
  hl := by refine rG (TM.upd_ne n1) ?_; exact l.hl
  own := fun n b hb hk hz => ?_ }
 ·by_cases hb : b = a
  ·subst hb; exact .inr hK
  ·refine rG (TM.upd_ne hb) ?_; exact l.dis b
 ·obtain ⟨o1, o2, o3, o4⟩ := l.own n b hb hk hz
  exact ⟨by refine rG (TM.upd_ne (n2 n b hb hz)) ?_; exact o1, o2, o3, o4⟩
theorem RelE.pushO (r : RelE c env m cm F H K s) {o : Obj} {x : MObj} (hx : Rep c.w F (s.heap.push o) s.heap.objs.size x) :
  H s.heap.objs.size = none ∧ RelE c env m cm F (H.upd s.heap.objs.size x) K { s with heap := s.heap.push o } := by
 obtain ⟨T, r, l⟩ := r
 have hf := r.fresh
 refine ⟨?_, T.upd s.heap.objs.size x, r.pushO hx, l.new hf⟩
 cases q : H s.heap.objs.size with
 | none => rfl
 | some x => rw [l.hT _ x q] at hf; cases hf
theorem Lay.del {K T : TM} (y : Lay F env m cm H K T) {a : Addr} {x : MObj} (ha : H a = some x) : Lay F env m cm (H.del a) K (T.del a) := by
 refine x0a2 (y.cell_ne ha) fun n1 n2 => ?_
 have hne : ∀ {b : Addr}, b ≠ a → (T.del a) b = T b := fun h => by simp [TM.del, h]
 exact { y with
  loc := by refine rG (hne (Ne.symm n1)) ?_; exact y.loc
  cel := fun n b hb => (y.cel n b hb).up (FM.le.refl F) fun hz h => by refine rG (hne (n2 n b hb hz)) ?_; exact h
  hT := fun b x e => by
   by_cases hb : b = a
   ·subst hb; simp [TM.del] at e
   ·refine rG (hne hb) ?_; simp only [TM.del, hb, if_false] at e; exact y.hT b x e
  kT := fun b x e => by refine rG (hne (y.k_ne ha e)) ?_; exact y.kT b x e
  dis := fun b => by
   by_cases hb : b = a
   ·left; simp [TM.del, hb]
   ·simp only [TM.del, hb, if_false]; exact y.dis b
  hl := by simp only [TM.del, Ne.symm n1, if_false]; exact y.hl
  own := fun n b hb hk hz => by
   refine x0a2 (y.own n b hb hk hz) fun o1 o2 => ?_
   exact ⟨by simp only [TM.del, n2 n b hb hz, if_false]; exact o1, o2⟩ }
noncomputable def putL {K α : Type} [DecidableEq K] (l : List (K × α)) (k : K) (v : α) : List (K × α) :=
 if l.any (fun kv => kv.1 = k) then l.map (fun kv => if kv.1 = k then (kv.1, v) else kv) else l ++ [(k, v)]
theorem KVs.any {K : Type} [DecidableEq K] {k : K} : ∀ {l : List (K × MV)} {kvs : List (K × Value)}, KVs F l kvs → kvs.any (fun kv => decide (kv.1 = k)) = l.any (fun kv => decide (kv.1 = k))
 | [] => by rename_i _; intro h; simp only [KVs] at h; subst h; rfl
 | (a, x) :: l => by
  rename_i _
  intro h
  (refine x2a3 h fun u r e92 h1 h2 => ?_; subst e92)
  simp only [List.any_cons, h2.any]
theorem KVs.len {K : Type} : ∀ {l : List (K × MV)} {kvs : List (K × Value)}, KVs F l kvs → kvs.length = l.length
 | [] => by rename_i _; intro h; simp only [KVs] at h; subst h; rfl
 | (a, x) :: l => by
  rename_i _
  intro h
  (refine x2a3 h fun u r e92 h1 h2 => ?_; subst e92)
  simp only [List.length_cons, h2.len]
theorem KVs.rep {K : Type} [DecidableEq K] {k : K} {m : MV} {v : Value} (hv : VR F m v) : ∀ {l : List (K × MV)} {kvs : List (K × Value)}, KVs F l kvs →
  KVs F (l.map (fun kv => if kv.1 = k then (kv.1, m) else kv)) (kvs.map (fun kv => if kv.1 = k then (kv.1, v) else kv))
 | [] => by rename_i _; intro h; simp only [KVs] at h; subst h; rfl
 | (a, x) :: l => by
  rename_i _
  intro h
  (refine x2a3 h fun u r e92 h1 h2 => ?_; subst e92)
  simp only [List.map_cons]
  by_cases hk : a = k
  ·(refine rG (if_pos hk) ?_; refine rG (if_pos hk) ?_); exact i2a3 v _ rfl hv (h2.rep hv)
  ·(refine rG (if_neg hk) ?_; refine rG (if_neg hk) ?_); exact i2a3 u _ rfl h1 (h2.rep hv)
theorem KVs.snoc {K : Type} {k : K} {m : MV} {v : Value} (hv : VR F m v) : ∀ {l : List (K × MV)} {kvs : List (K × Value)}, KVs F l kvs → KVs F (l ++ [(k, m)]) (kvs ++ [(k, v)])
 | [] => by rename_i _; intro h; simp only [KVs] at h; subst h; exact i2a3 v ([]) rfl hv rfl
 | (a, x) :: l => by
  rename_i _
  intro h
  (refine x2a3 h fun u r e92 h1 h2 => ?_; subst e92)
  exact i2a3 u _ rfl h1 (h2.snoc hv)
theorem KVs.put {K : Type} [DecidableEq K] {k : K} {m : MV} {v : Value} {l : List (K × MV)} {kvs : List (K × Value)} (h : KVs F l kvs) (hv : VR F m v) : KVs F (putL l k m) (stored kvs k v) := by
 unfold putL stored
 refine rG h.any ?_
 split
 ·exact h.rep hv
 ·exact h.snoc hv
noncomputable def storeV (x : MObj) (k v : MV) : Option (MObj × List Prop) := match x with
 | .list l => omp k.int? fun k => (.list (l.set k.toNat v), [0 ≤ k, k < l.length, l.length < 1000000])
 | .idict l => omp k.int? fun k => (.idict (putL l k v), [l.length < 1000000])
 | .sdict l => omp k.str? fun k => (.sdict (putL l k v), [l.length < 1000000])
 | _ => none
theorem store_sub {a : Addr} {x y : MObj} {k v : MV} {C : List Prop} {kv u : Value} (r : RelE c env m cm F H K s) (e : H a = some x) (hst : storeV x k v = some (y, C)) (hC : AllP C) (hk : VR F k kv) (hv : VR F v u) {G : Unit → Shared → Prop}
  (q : ∀ s', RelE c env m cm F (H.upd a y) K s' → G () s') : wpAny (model P c.w) A (setItem (.ref a) kv u) G NoE s := by
 have hrep := r.rep e
 cases x with
 | list l =>
  refine x1a2 (omp_of hst) fun k e1 e2 => ?_
  cases e2
  have e1 := int?_of e1
  subst e1
  obtain ⟨h0, h1, h2, _⟩ := hC
  simp only [VR] at hk
  obtain ⟨t, rfl⟩ := hk
  obtain ⟨vs, hl, hvs⟩ := hrep
  have hlen := hvs.len
  rw [Array.length_toList] at hlen
  refine wpAny_setItem_list hl h0 (by lia) (by refine rG hlen ?_; exact h1) fun h' hl' hs' => q _ (r.set (tk := s.toks) e hs' ⟨_, hl', ?_⟩)
  refine rG Array.toList_setIfInBounds ?_
  exact hvs.set hv
 | idict l =>
  refine x1a2 (omp_of hst) fun k e1 e2 => ?_
  cases e2
  have e1 := int?_of e1
  subst e1
  simp only [VR] at hk
  obtain ⟨t, rfl⟩ := hk
  obtain ⟨kvs, hd, hkv⟩ := hrep
  exact wpAny_setItem_pairs (knd := intKind P c.w) (by simp [intKind, Value.isInt]) hd (fun h' hd' hs' => q _ (r.set e hs' ⟨_, hd', hkv.put hv⟩)) (by (refine rG hkv.len ?_; refine rG sizeLine_eq ?_); have := hC.1; lia)
 | sdict l =>
  refine x1a2 (omp_of hst) fun k e1 e2 => ?_
  cases e2
  have e1 := str?_of e1
  subst e1
  simp only [VR] at hk
  obtain ⟨t, rfl⟩ := hk
  obtain ⟨kvs, hd, hkv⟩ := hrep
  exact wpAny_setItem_pairs (knd := PySem.strKind P c.w) (by simp [PySem.strKind, Value.isStrOf]) hd (fun h' hd' hs' => q _ (r.set e hs' ⟨_, hd', hkv.put hv⟩)) (by (refine rG hkv.len ?_; refine rG sizeLine_eq ?_); have := hC.1; lia)
 | _ => injection hst
inductive SetO (ov iv v : MV) (Q : MFlow → LM → LM → TM → Prop) (m cm : LM) (H : TM) : Prop
 | mk (a : Addr) (x y : MObj) (C : List Prop) (e : ov = .raw (.ref a)) (hx : H a = some x) (hs : storeV x iv v = some (y, C)) (hC : AllP C) (hq : Q .next m cm (H.upd a y)) : SetO ov iv v Q m cm H
noncomputable abbrev Set2 (Q : MFlow → LM → LM → TM → Prop) (v ov iv : MV) : LM → LM → TM → Prop := SetO ov iv v Q
noncomputable abbrev Set1 (c : Cx) (A : Around) (env : Env) (i : Expr) (Q : MFlow → LM → LM → TM → Prop) (v : MV) : MV → LM → LM → TM → Prop := EvP c A env i (Set2 Q v)
theorem W.setSub {o i value : Expr} {p pos : Pos} {Q : MFlow → LM → LM → TM → Prop} (hs : swapsWith value (some (.Subscript o i p)) pos.line env = pure false)
  (h : W c A env m cm H (eval value env) V (EvP c A env o (Set1 c A env i Q))) :
  W c A env m cm H (exec (.Assign [.Subscript o i p] value pos) env) Fl Q := fun F K s r =>
 wpAny_Assign_Subscript (W.wp h r fun F1 b1 m1 cm1 H1 v s1 k1 r1 v1 q1 =>
  W.wp q1 r1 fun F2 b2 m2 cm2 H2 ov s2 k2 r2 v2 q2 =>
   W.wp q2 r2 fun F3 b3 m3 cm3 H3 iv s3 k3 r3 v3 qq => by
    obtain ⟨a, x, y, C, e1, e2, e3, e4, q3⟩ := qq
    subst e1
    simp only [V, VR] at v2
    subst v2
    exact store_sub r3 e2 e3 e4 v3 (VR.mono (k2.trans k3) _ v1) fun s' r' => ⟨F3, .next, m3, cm3, _, k1.trans (k2.trans k3), r', rfl, q3⟩) hs
end
end Mine
namespace Mine
noncomputable def plainTest : Expr → Bool
 | .Name _ _ => true
 | .Call _ _ _ _ => true
 | .Attribute _ _ _ => true
 | .Subscript _ _ _ => true
 | _ => false
noncomputable def conj (op : BoolOp) (b : Bool) (C : List Prop) (b2 : Bool) (D : List Prop) : Option (Bool × List Prop) := match op with
 | .And => some (b && b2, C ++ [b = true → AllP D])
 | .Or => some (b || b2, C ++ [b = false → AllP D])
noncomputable def tevAll (f : Expr → Option (Bool × List Prop)) (op : BoolOp) : List Expr → Option (Bool × List Prop)
 | [] => some ((op == .And), [])
 | e :: r => els (f e) (fun p => els (tevAll f op r) (fun q => conj op p.1 p.2 q.1 q.2) none) none
noncomputable def cmpO (op : CmpOp) (x : MV) (o : Own) : Option (Bool × List Prop) := match o with
 | .list l => (match op with
  | .In => inV (.list) x l
  | .NotIn => negO (inV (.list) x l)
  | _ => none)
 | .idict l => (match op with
  | .In => on2 x.int? (some ()) fun k _ => some ((look l k).isSome, [])
  | .NotIn => on2 x.int? (some ()) fun k _ => some (!(look l k).isSome, [])
  | _ => none)
 | _ => none
noncomputable def tev (p : Params) (env : Env) (m cm : LM) (on : On) : Nat → Expr → Option (Bool × List Prop)
 | 0, _ => none
 | n + 1, e => match e with
  | .Compare l ops rs _ => one1 ops rs fun op r => iff' (!behindInMarks op r) (els (onName on r) (fun o => one (ev p env m cm on n l) fun a => cmpO op a o) (two (ev p env m cm on n l) (ev p env m cm on n r) (cmpV op)))
  | .UnaryOp op x _ => (match op with
   | .Not => thru (tev p env m cm on n x) fun b => some (!b)
   | _ => none)
  | .BoolOp op es _ => tevAll (tev p env m cm on n) op es
  | e => iff' (plainTest e) (thru (ev p env m cm on n e) isTrueV)
section
variable {c : Cx} {A : Around} {env : Env} {m cm : LM} {H : TM} {F : FM}
theorem pu_truth {v : MV} {u : Value} {b : Bool} (e : isTrueV v = some b) (h : VR F v u) : Pu c A F (truthy u) Bo b := fun T s r => by
 cases v <;> simp only [isTrueV, Option.some.injEq] at e <;> first | cases e | skip
 ·simp only [VR] at h; subst h; exact wpAny_of_eq (a := false) rfl ⟨F, FM.le.refl F, r, rfl⟩
 ·simp only [VR] at h; subst h; exact wpAny_truthy_bool ⟨F, FM.le.refl F, r, rfl⟩
 ·simp only [VR] at h; obtain ⟨t, rfl⟩ := h
  exact PyProof.Rows.truthy_int ⟨F, FM.le.refl F, r, by (rewrite [bne]; refine rG (beq_dec ..) ?_); simp⟩
 ·split at e
  ·(injection e with e; subst e)
   simp only [VR] at h; (refine x1a1 h fun t e91 => ?_; subst e91)
   exact PySem.P.truthy_str (by lia) ⟨F, FM.le.refl F, r.tok _, rfl⟩
  ·injection e
theorem look_some {K : Type} [DecidableEq K] {F : FM} {k : K} {l : List (K × MV)} {kvs : List (K × Value)} (h : KVs F l kvs) : (valueAt kvs k).isSome = (look l k).isSome := by
 cases e : look l k with
 | none => refine rG (h.look_none e) ?_; rfl
 | some m => obtain ⟨v, e1, _⟩ := h.look e; refine rG e1 ?_; rfl
theorem pu_cmpO {op : CmpOp} {x : MV} {a : Value} {o : Own} {b : Addr} {z : Bool} {C : List Prop} {T : TM} {s : Shared} (hu : A.units + 70 < cLine) (e : cmpO op x o = some (z, C)) (hC : AllP C) (hx : VR F x a) (r : Rel c F T s) (ho : o.at T b) :
  wpAny (model P c.w) A (compareOp op a (.ref b)) (PostN c F T V (.bool z)) NoE s := by
 have lst : ∀ {l : List MV} {ds : List PyData}, Own.at T b (.list l) → datAll l = some ds → ∃ as, Reads s.heap (.ref b) (.list ds) as := fun {l ds} ho e2 => by
  refine x1a2 ho fun y h1 h2 => ?_
  obtain ⟨vs, ⟨o', g1, g2, n, g3⟩, g4⟩ := h2.get (r.own _ _ h1).2.1
  refine x1a1 (readsAll_of (fun a o e => (r.fz a o e).1) _ g4 e2) fun as q => ?_
  exact ⟨_, .list g1 g2 g3 q⟩
 have dct : ∀ {l : List (Int × MV)}, Own.at T b (.idict l) → ∃ kvs, s.heap.DictOf (intKind P c.w) b kvs ∧ KVs F l kvs := fun {l} ho => by
  rcases ho with ho | ⟨o, ho⟩
  ·exact (r.own _ _ ho).2.1
  ·exact (r.own _ _ ho).2.1.2
 have big : ∀ {l : List (Int × MV)}, Own.at T b (.idict l) → (b == sysModules) = false := fun {l} ho => by
  have hb : c.h0.objs.size ≤ b := by
   rcases ho with ho | ⟨o, ho⟩
   ·exact (r.own _ _ ho).2.2.1
   ·exact (r.own _ _ ho).2.2.1
  rw [c.sz] at hb
  rw [beq_eq_false_iff_ne]
  rintro rfl
  exact absurd hb (by decide)
 have fzs := fun a o e => (r.fz a o e).1
 cases o with
 | list l =>
  have key : ∀ {z C}, inV .list x l = some (z, C) → AllP C → (∀ {G : Value → Shared → Prop}, G (.bool z) s → wpAny (model P c.w) A (compareOp .In a (.ref b)) G NoE s) ∧ (∀ {G : Value → Shared → Prop}, G (.bool !z) s → wpAny (model P c.w) A (compareOp .NotIn a (.ref b)) G NoE s) := fun e hC => by
   (refine x2a5 (inV_of e hC) fun d ds e1 e2 e94 h1 h2 => ?_; subst e94)
   refine x1a1 (reads_of fzs _ hx e1) fun as r1 => ?_
   refine x1a1 (lst ho e2) fun bs r2 => ?_
   exact ⟨SeqAt.in_list_reads r2 r1 (SeqAt.canLay_of_shaped h1) (SeqAt.canLay_of_shaped h2) (in_room hu h2), SeqAt.notIn_list_reads r2 r1 (SeqAt.canLay_of_shaped h1) (SeqAt.canLay_of_shaped h2) (in_room hu h2)⟩
  cases op with
  | In => exact (key e hC).1 ⟨F, FM.le.refl F, r, vr_bool⟩
  | NotIn =>
   (refine x1a2 (negO_of e) fun zz e' e92 => ?_; subst e92)
   exact (key e' hC).2 ⟨F, FM.le.refl F, r, vr_bool⟩
  | _ => injection e
 | idict l =>
  refine x1a2 (dct ho) fun kvs hd hk => ?_
  cases op with
  | In =>
   have e : on2 x.int? (some ()) (fun k _ => some ((look l k).isSome, [])) = some (z, C) := e
   refine x2a3 (on2_of e) fun k _ e1 _ e => ?_
   (injection e with e; injection e with e; subst e)
   have e1 := int?_of e1
   subst e1
   simp only [VR] at hx; (refine x1a1 hx fun t e91 => ?_; subst e91)
   exact wpAny_in_of (knd := intKind P c.w) (k := k) (by simp [intKind, Value.isInt]) (big ho) hd.mapOf ⟨F, FM.le.refl F, r.tok _, by refine rG (look_some hk) ?_; exact vr_bool⟩
  | NotIn =>
   have e : on2 x.int? (some ()) (fun k _ => some (!(look l k).isSome, [])) = some (z, C) := e
   refine x2a3 (on2_of e) fun k _ e1 _ e => ?_
   (injection e with e; injection e with e; subst e)
   have e1 := int?_of e1
   subst e1
   simp only [VR] at hx; (refine x1a1 hx fun t e91 => ?_; subst e91)
   exact wpAny_notIn_of (knd := intKind P c.w) (k := k) (by simp [intKind, Value.isInt]) (big ho) hd.mapOf ⟨F, FM.le.refl F, r.tok _, by refine rG (look_some hk) ?_; exact vr_bool⟩
  | _ => injection e
 | _ => injection e
theorem tevAll_ok {f : Expr → Option (Bool × List Prop)} (ih : ∀ e b C, f e = some (b, C) → AllP C → ∀ F, PuN c A env m cm H F (isTrue e env (eval e env)) Bo b) (op : BoolOp) :
  ∀ (es : List Expr) (b : Bool) (C : List Prop) (F : FM), tevAll f op es = some (b, C) → AllP C → PuN c A env m cm H F (allTrue op es env) Bo b
 | [] => fun b C F e hC => fun K T s r y => by
  simp only [tevAll, Option.some.injEq, Prod.mk.injEq] at e
  (refine x0a2 e fun e90 e91 => ?_; subst e90 e91)
  cases op
  ·exact wpAny_allTrue_And_nil ⟨F, FM.le.refl F, r, rfl⟩
  ·exact wpAny_allTrue_Or_nil ⟨F, FM.le.refl F, r, rfl⟩
 | x :: es => fun b C F e hC => fun K T s r y => by
  cases e1 : f x with
  | none => rw [tevAll, e1] at e; cases e
  | some p => cases e2 : tevAll f op es with
   | none => rw [tevAll, e1, e2] at e; cases e
   | some q =>
    rw [tevAll, e1, e2] at e
    cases op with
    | And =>
     cases e
     obtain ⟨h1, h2, _⟩ := hC.app
     refine wpAny_allTrue_And_cons ((ih _ _ _ e1 h1 F).then (γ := Unit) (δ := Unit) r y fun F1 a s1 k1 y r1 v1 => ?_)
     have v1 : a = p.1 := v1
     refine rG v1 ?_
     cases hp : p.1 with
     | false => exact ⟨F1, k1, r1, rfl⟩
     | true => exact PostN.wp (tevAll_ok ih .And es _ _ F1 e2 (h2 hp) K T s1 r1 y) fun F2 a s' k2 r2 v2 => ⟨F2, k1.trans k2, r2, v2⟩
    | Or =>
     cases e
     obtain ⟨h1, h2, _⟩ := hC.app
     refine wpAny_allTrue_Or_cons ((ih _ _ _ e1 h1 F).then (γ := Unit) (δ := Unit) r y fun F1 a s1 k1 y r1 v1 => ?_)
     have v1 : a = p.1 := v1
     refine rG v1 ?_
     cases hp : p.1 with
     | false => exact PostN.wp (tevAll_ok ih .Or es _ _ F1 e2 (h2 hp) K T s1 r1 y) fun F2 a s' k2 r2 v2 => ⟨F2, k1.trans k2, r2, v2⟩
     | true => exact ⟨F1, k1, r1, rfl⟩
theorem plain_true {e : Expr} {whole : Sem Value} (h : plainTest e = true) : isTrue e env whole = (do let v ← whole; standAt e.pos; holding [v] (truthy v)) := by cases e <;> first | rfl | injection h
theorem tev_cmpO {x : Expr} {p0 pos : Pos} {id : Str} {op : CmpOp} {a : Addr} {v : MV} {o : Own} {z : Bool} {C : List Prop} {whole : Sem Value} (hu : Rm A) (hb : nameV env m cm id = some (.raw (.ref a))) (hob : o.at H a) (h : PuN c A env m cm H F (eval x env) V v) (e : cmpO op v o = some (z, C)) (hC : AllP C)
  (hm : behindInMarks op (.Name id p0) = false) : PuN c A env m cm H F (isTrue (.Compare x [op] [.Name id p0] pos) env whole) Bo z := fun K T s r y => by
 refine wpAny_isTrue_Compare1 (h.then (γ := Unit) (δ := Unit) r y fun F1 u s1 k1 y r1 v1 => (puN_name F1 hb).then (γ := Unit) (δ := Unit) r1 y fun F2 b s2 k2 y r2 v2 => ?_) hm
 have v2 : b = .ref a := by simpa only [V, VR] using v2
 subst v2
 refine PostN.wp (pu_cmpO hu.2 e hC (VR.mono k2 _ v1) r2 (Own.up y.hT hob)) fun F3 w s3 k3 r3 v3 => ?_
 have v3 : w = .bool z := by simpa only [V, VR] using v3
 subst v3
 exact wpAny_truthy_bool ⟨F3, k1.trans (k2.trans k3), r3, rfl⟩
theorem tev_cmp {x y' : Expr} {pos : Pos} {op : CmpOp} {v u : MV} {z : Bool} {C : List Prop} {whole : Sem Value} (hu : Rm A) (h : PuN c A env m cm H F (eval x env) V v) (h' : ∀ F, PuN c A env m cm H F (eval y' env) V u) (e : cmpV op v u = some (z, C)) (hC : AllP C)
  (hm : behindInMarks op y' = false) : PuN c A env m cm H F (isTrue (.Compare x [op] [y'] pos) env whole) Bo z := fun K T s r y => by
 refine wpAny_isTrue_Compare1 (h.then (γ := Unit) (δ := Unit) r y fun F1 a s1 k1 y r1 v1 => (h' F1).then (γ := Unit) (δ := Unit) r1 y fun F2 b s2 k2 y r2 v2 =>
  (pu_cmp hu.2 e hC (VR.mono k2 _ v1) v2).toN.then (γ := Unit) (δ := Unit) r2 y fun F3 w s3 k3 y r3 v3 => ?_) hm
 have v3 : w = .bool z := by simpa only [V, VR] using v3
 subst v3
 exact wpAny_truthy_bool ⟨F3, k1.trans (k2.trans k3), r3, rfl⟩
theorem tev_plain {x : Expr} {v : MV} {b : Bool} (hp : plainTest x = true) (h : PuN c A env m cm H F (eval x env) V v) (e : isTrueV v = some b) : PuN c A env m cm H F (isTrue x env (eval x env)) Bo b := fun K T s r y => by
 refine rG (plain_true hp) ?_
 exact wpAny_bind (h.then (γ := Unit) (δ := Unit) r y fun F1 a s1 k1 y r1 v1 => wpAny_bind (wpAny_standAt (wpAny_holding ((pu_truth e v1).toN.then (γ := Unit) (δ := Unit) r1 y fun F2 a s2 k2 y r2 v2 => ⟨F2, k1.trans k2, r2, v2⟩))))
theorem tev_pl {on : On} {n : Nat} {x : Expr} {b : Bool} {C : List Prop} (hu : Rm A) (ho : OnOk env m cm H on) (e : iff' (plainTest x) (thru (ev c.w.params env m cm on n x) isTrueV) = some (b, C)) (hC : AllP C) : PuN c A env m cm H F (isTrue x env (eval x env)) Bo b := by
 refine x0a2 (iff'_of e) fun hp e => ?_
 exact thru_of e fun a e1 e2 => tev_plain hp (ev_ok hu ho n _ _ _ e1 hC F) e2
theorem tev_ok {on : On} (hu : Rm A) (ho : OnOk env m cm H on) : ∀ (n : Nat) (e : Expr) (b : Bool) (C : List Prop), tev c.w.params env m cm on n e = some (b, C) → AllP C → ∀ F, PuN c A env m cm H F (isTrue e env (eval e env)) Bo b
 | 0 => by intro _ _ _ e _; injection e
 | n + 1 => fun x b C e hC => fun F => by
  cases x with
  | Compare l ops rs pos =>
   (refine x2a3 (one1_of e) fun op r e92 e93 e => ?_; subst e92 e93)
   refine x0a2 (iff'_of e) fun hb e => ?_
   have hb : behindInMarks op r = false := by simpa using hb
   cases hon : onName on r with
   | some o =>
    rw [hon] at e
    obtain ⟨id, p0, rfl, hon⟩ := onName_of hon
    obtain ⟨bb, hbn, hob⟩ := ho _ _ hon
    have e : one (ev c.w.params env m cm on n l) (fun a => cmpO op a o) = some (b, C) := e
    exact one_of e hC fun a C1 D e1 e2 h1 h2 => tev_cmpO hu hbn hob (ev_ok hu ho n _ _ _ e1 h1 F) e2 h2 hb
   | none =>
    rw [hon] at e
    exact two_of e hC fun a b C1 C2 D e1 e2 e3 h1 h2 h3 => tev_cmp hu (ev_ok hu ho n _ _ _ e1 h1 F) (ev_ok hu ho n _ _ _ e2 h2) e3 h3 hb
  | UnaryOp op x pos => cases op with
   | Not =>
    have e : thru (tev c.w.params env m cm on n x) (fun b => some (!b)) = some (b, C) := e
    exact thru_of e (fun a e1 e2 K T s r y => (by
     cases e2
     exact wpAny_isTrue_Not ((tev_ok hu ho n _ _ _ e1 hC F).then (γ := Unit) (δ := Unit) r y (fun F1 a s1 k1 y r1 v1 => ⟨F1, k1, r1, congrArg not v1⟩))))
   | _ => cases e
  | BoolOp op es pos => exact fun K T s r y => wpAny_isTrue_BoolOp (tevAll_ok (tev_ok hu ho n) _ _ _ _ F e hC K T s r y)
  | Name => exact tev_pl hu ho e hC
  | Call => exact tev_pl hu ho e hC
  | Attribute => exact tev_pl hu ho e hC
  | Subscript => exact tev_pl hu ho e hC
  | _ => cases e
theorem W.tev {on : On} {n : Nat} {e : Expr} {b : Bool} {C : List Prop} {Z : Bool → LM → LM → TM → Prop} (hu : Rm A) (ho : OnOk env m cm H on)
  (he : Mine.tev c.w.params env m cm on n e = some (b, C)) (hC : AllP C) (q : Z b m cm H) : W c A env m cm H (isTrue e env (eval e env)) Bo Z :=
 W.ofPuN (fun F => tev_ok hu ho n e b C he hC F) q
theorem W.ifp {on : On} {t : Expr} {body orelse : List Stmt} {pos : Pos} {Q : MFlow → LM → LM → TM → Prop} (n : Nat) (b : Bool) (C : List Prop) (hu : Rm A) (ho : OnOk env m cm H on)
  (he : Mine.tev c.w.params env m cm on n t = some (b, C)) (hC : AllP C) (h1 : b = true → W c A env m cm H (execs body env) Fl Q) (h2 : b = false → W c A env m cm H (execs orelse env) Fl Q) :
  W c A env m cm H (exec (.If t body orelse pos) env) Fl Q :=
 W.ite (W.tev hu ho he hC (by
  cases b
  ·exact h2 rfl
  ·exact h1 rfl))
end
end Mine
end
section
open PySem PySem.W PySem.W.X PyProof.Rows PySem.Calls
open Builtin Builtin.ObjectAttr
namespace Mine
section
variable {c : Cx} {A : Around} {env : Env} {m cm : LM} {H : TM} {Q : MFlow → LM → LM → TM → Prop}
theorem W.asg {on : On} {x : Str} {e : Expr} {p pos : Pos} {m1 cm1 : LM} (n : Nat) (v : MV) (C : List Prop) (hu : Rm A) (ho : OnOk env m cm H on) (he : Mine.ev c.w.params env m cm on n e = some (v, C)) (hC : AllP C)
  (hst : storeTo env m cm x v = some (m1, cm1)) (hs : swapsWith e (some (.Name x p)) pos.line env = pure false) (q : Q .next m1 cm1 H) : W c A env m cm H (exec (.Assign [.Name x p] e pos) env) Fl Q :=
 W.assign hs (W.ev hu ho he hC (by rw [hst]; exact q))
theorem W.asgW {x : Str} {e : Expr} {p pos : Pos} (hs : swapsWith e (some (.Name x p)) pos.line env = pure false)
  (h : W c A env m cm H (eval e env) V (fun v m' cm' H' => ∃ m1 cm1, storeTo env m' cm' x v = some (m1, cm1) ∧ Q .next m1 cm1 H')) : W c A env m cm H (exec (.Assign [.Name x p] e pos) env) Fl Q :=
 W.assign hs (h.mono fun v m' cm' H' ⟨m1, cm1, e, q⟩ => by rw [e]; exact q)
theorem W.retp {on : On} {e : Expr} {pos : Pos} (n : Nat) (v : MV) (C : List Prop) (hu : Rm A) (ho : OnOk env m cm H on) (he : Mine.ev c.w.params env m cm on n e = some (v, C)) (hC : AllP C) (q : Q (.ret v) m cm H) :
  W c A env m cm H (exec (.Return (some e) pos) env) Fl Q := W.ret (W.ev hu ho he hC q)
theorem W.setp {on : On} {o i value : Expr} {p pos : Pos} (n : Nat) (v k : MV) (a : Addr) (x y : MObj) (C D : List Prop) (hu : Rm A) (ho : OnOk env m cm H on) (he : Mine.ev c.w.params env m cm on n value = some (v, C)) (hC : AllP C)
  (heo : Mine.ev c.w.params env m cm On.none n o = some (.raw (.ref a), [])) (hei : Mine.ev c.w.params env m cm On.none n i = some (k, [])) (hH : H a = some x) (hst : storeV x k v = some (y, D)) (hD : AllP D)
  (hs : swapsWith value (some (.Subscript o i p)) pos.line env = pure false) (q : Q .next m cm (H.upd a y)) : W c A env m cm H (exec (.Assign [.Subscript o i p] value pos) env) Fl Q :=
 W.setSub hs (W.ev hu ho he hC (W.ev hu OnOk.none heo trivial (W.ev hu OnOk.none hei trivial ⟨a, x, y, D, rfl, hH, hst, hD, q⟩)))
end
end Mine
namespace Mine
section
variable {c : Cx} {A : Around} {env : Env} {m cm : LM} {H : TM} {Q : MV → LM → LM → TM → Prop}
noncomputable abbrev SubP (Q : MV → LM → LM → TM → Prop) (a b : MV) : LM → LM → TM → Prop := Op (subV a b) Q
noncomputable abbrev BinP (op : Operator) (Q : MV → LM → LM → TM → Prop) (a b : MV) : LM → LM → TM → Prop := Op (binV op a b) Q
noncomputable abbrev CmpP (op : CmpOp) (Q : Bool → LM → LM → TM → Prop) (a b : MV) : LM → LM → TM → Prop := Op (cmpV op a b) Q
noncomputable abbrev TupP (Q : MV → LM → LM → TM → Prop) : List MV → LM → LM → TM → Prop := fun l m cm H => l.length < 1000000 ∧ Q (.tup l) m cm H
noncomputable abbrev LioP (Q : MV → LM → LM → TM → Prop) : List MV → LM → LM → TM → Prop := fun l m cm H => l.length < 1000000 ∧ ∀ a, H a = none → Q (.raw (.ref a)) m cm (H.upd a (.plist l))
theorem W.sub {value slice : Expr} {pos : Pos} (hs : notSlice slice = true)
  (h : W c A env m cm H (eval value env) V (EvP c A env slice (SubP Q))) :
  W c A env m cm H (eval (.Subscript value slice pos) env) V Q := fun F K s r =>
 PyProof.Rows.Subscript_ (W.wp h r fun F1 x m1 cm1 H1 a s1 k1 r1 v1 q1 =>
  W.wp q1 r1 fun F2 y m2 cm2 H2 b s2 k2 rr v2 qq => by
    obtain ⟨T, r2, l2⟩ := rr
    obtain ⟨z, C, e, hC, q2⟩ := qq
    exact PostN.wp (pu_subT e hC (VR.mono k2 _ v1) v2 hs T s2 r2) fun F3 u s3 k3 r3 v3 => ⟨F3, z, m2, cm2, H2, k1.trans (k2.trans k3), ⟨T, r3, l2.up k3⟩, v3, q2⟩)
theorem W.bin {l r : Expr} {op : Operator} {pos : Pos}
  (h : W c A env m cm H (eval l env) V (EvP c A env r (BinP op Q))) :
  W c A env m cm H (eval (.BinOp l op r pos) env) V Q := fun F K s r0 =>
 wpAny_BinOp (W.wp h r0 fun F1 x m1 cm1 H1 a s1 k1 r1 v1 q1 =>
  W.wp q1 r1 fun F2 y m2 cm2 H2 b s2 k2 rr v2 qq => by
    obtain ⟨T, r2, l2⟩ := rr
    obtain ⟨z, C, e, hC, q2⟩ := qq
    exact PostN.wp (pu_bin e hC (VR.mono k2 _ v1) v2 T s2 r2) fun F3 u s3 k3 r3 v3 => ⟨F3, z, m2, cm2, H2, k1.trans (k2.trans k3), ⟨T, r3, l2.up k3⟩, v3, q2⟩)
theorem W.cmp {l r : Expr} {op : CmpOp} {pos : Pos} (hu : Rm A) (hm : behindInMarks op r = false)
  (h : W c A env m cm H (eval l env) V (EvP c A env r (CmpP op (BoP Q)))) :
  W c A env m cm H (eval (.Compare l [op] [r] pos) env) V Q := fun F K s r0 =>
 wpAny_Compare1 (W.wp h r0 fun F1 x m1 cm1 H1 a s1 k1 r1 v1 q1 =>
  W.wp q1 r1 fun F2 y m2 cm2 H2 b s2 k2 rr v2 qq => by
    obtain ⟨T, r2, l2⟩ := rr
    obtain ⟨z, C, e, hC, q2⟩ := qq
    exact PostN.wp (pu_cmp hu.2 e hC (VR.mono k2 _ v1) v2 T s2 r2) fun F3 u s3 k3 r3 v3 => ⟨F3, _, m2, cm2, H2, k1.trans (k2.trans k3), ⟨T, r3, l2.up k3⟩, v3, q2⟩) hm
theorem W.testCmp {l r : Expr} {op : CmpOp} {pos : Pos} {Z : Bool → LM → LM → TM → Prop} (hu : Rm A) (hm : behindInMarks op r = false)
  (h : W c A env m cm H (eval l env) V (EvP c A env r (CmpP op Z))) {whole : Sem Value} :
  W c A env m cm H (isTrue (.Compare l [op] [r] pos) env whole) Bo Z := fun F K s r0 =>
 wpAny_isTrue_Compare1 (W.wp h r0 fun F1 x m1 cm1 H1 a s1 k1 r1 v1 q1 =>
  W.wp q1 r1 fun F2 y m2 cm2 H2 b s2 k2 rr v2 qq => by
    obtain ⟨T, r2, l2⟩ := rr
    obtain ⟨z, C, e, hC, q2⟩ := qq
    exact PostN.wp (pu_cmp hu.2 e hC (VR.mono k2 _ v1) v2 T s2 r2) fun F3 u s3 k3 r3 v3 => by
      simp only [V, VR] at v3
      subst v3
      exact wpAny_truthy_bool ⟨F3, z, m2, cm2, H2, k1.trans (k2.trans k3), ⟨T, r3, l2.up k3⟩, rfl, q2⟩) hm
theorem W.ifExp {t a b : Expr} {pos : Pos} (h : W c A env m cm H (isTrue t env (eval t env)) Bo (IfE c A env a b Q)) :
  W c A env m cm H (eval (.IfExp t a b pos) env) V Q := fun F K s r =>
 wpAny_IfExp (W.wp h r fun F1 b' m1 cm1 H1 b s1 k1 r1 v1 q1 => by
  have v1 : b = b' := v1
  subst v1
  cases b
  ·exact W.go q1 k1 r1
  ·exact W.go q1 k1 r1)
theorem W.tuple {es : List Expr} {k : Nat} {pos : Pos} (h : W c A env m cm H (spliced (backTo pos (starEach es env))) VL (TupP Q)) :
  W c A env m cm H (eval (.Tuple es k pos) env) V Q := fun F K s r =>
 wpAny_Tuple (W.wp h r fun F1 l m1 cm1 H1 vs s1 k1 r1 v1 qq => by
  obtain ⟨hl, q1⟩ := qq
  obtain ⟨k2, r2⟩ := r1.pushF (o := { cls := .type "tuple", data := .seq vs.toArray }) rfl
  have := VRs.len v1
  refine ⟨by rw [sizeLine_eq]; lia, _, .tup l, m1, cm1, H1, k1.trans k2, r2, ?_, q1⟩
  simp only [V, VR]
  exact ⟨_, _, _, _, rfl, FM.upd_self _ _ _, rfl, rfl, by simpa using VRs.mono k2 _ v1⟩)
theorem W.listO {es : List Expr} {pos : Pos} (h : W c A env m cm H (spliced (backTo pos (starEach es env))) VL (LioP Q)) :
  W c A env m cm H (eval (.List es pos) env) V Q := fun F K s r =>
 wpAny_List (W.wp h r fun F1 l m1 cm1 H1 vs s1 k1 r1 v1 qq => by
  obtain ⟨hl, q1⟩ := qq
  have := VRs.len v1
  obtain ⟨h0, r2⟩ := r1.pushO (o := { cls := .type "list", data := .seq vs.toArray }) (x := .plist l) ⟨vs.toArray, ⟨_, Heap.get?_push_size _ rfl⟩, by simpa using v1⟩
  exact ⟨by rw [sizeLine_eq]; lia, F1, _, m1, cm1, _, k1, r2, vr_raw, q1 _ h0⟩)
theorem W.freeze {α β : Type} {t : Sem α} {R : FM → β → α → Prop} {Z : β → LM → LM → TM → Prop} {a : Addr} {x : MObj} {l : List MV} (ha : H a = some x) (hx : IsLst x l) (h : W c A env m cm (H.del a) t R Z) : W c A env m cm H t R Z := fun F K s r => by
 obtain ⟨T, r, y⟩ := r
 obtain ⟨vs, ⟨o, ho, _⟩, _⟩ := hx.get (r.own _ _ (y.hT _ _ ha)).2.1
 obtain ⟨k1, r1⟩ := r.freeze (y.hT _ _ ha) ho
 exact W.go h k1 ⟨_, r1, (y.del ha).up k1⟩
inductive FrzO (Q : MV → LM → LM → TM → Prop) (v : MV) (m cm : LM) (H : TM) : Prop
 | mk (a : Addr) (x : MObj) (l : List MV) (e : v = .raw (.ref a)) (ha : H a = some x) (hx : IsLst x l) (hq : Q (.lst l) m cm (H.del a)) : FrzO Q v m cm H
theorem W.frozen {t : Sem Value} (h : W c A env m cm H t V (FrzO Q)) : W c A env m cm H t V Q := fun F K s r =>
 W.wp h r fun F1 v m1 cm1 H1 u s1 k1 rr v1 qq => by
  obtain ⟨T, r1, y⟩ := rr
  obtain ⟨a, x, l, e, ha, hx, q⟩ := qq
  subst e
  simp only [V, VR] at v1
  subst v1
  obtain ⟨vs, ⟨o, ho, hc, n, hd⟩, hv⟩ := hx.get (r1.own _ _ (y.hT _ _ ha)).2.1
  obtain ⟨k2, r2⟩ := r1.freeze (y.hT _ _ ha) ho
  refine ⟨_, .lst l, m1, cm1, _, k1.trans k2, ⟨_, r2, (y.del ha).up k2⟩, ?_, q⟩
  simp only [V, VR]
  exact ⟨a, o, vs, n, rfl, FM.upd_self _ _ _, hc, hd, hv.mono k2⟩
end
end Mine
namespace Mine
theorem TM.upd_upd {T : TM} {a : Addr} {x y : MObj} : (T.upd a x).upd a y = T.upd a y := by funext b; simp only [TM.upd]; split <;> rfl
theorem TM.upd_comm {T : TM} {a b : Addr} {x y : MObj} (h : a ≠ b) : (T.upd a x).upd b y = (T.upd b y).upd a x := by
 funext z; simp only [TM.upd]; split
 ·rename_i h1; subst h1; (refine rG (if_neg (Ne.symm h)) ?_; rfl)
 ·rfl
theorem TM.del_upd {T : TM} {a : Addr} {x : MObj} (h : T a = none) : (T.upd a x).del a = T := by
 funext b; unfold TM.del TM.upd; split
 ·rename_i e; (refine rG e ?_; refine rG h ?_; rfl)
 ·rfl
theorem TM.upd_same {T : TM} {a : Addr} {x : MObj} (h : T a = some x) : T.upd a x = T := by
 funext b; unfold TM.upd; split
 ·rename_i e; (refine rG e ?_; refine rG h ?_; rfl)
 ·rfl
section
variable {c : Cx} {A : Around} {env : Env} {m cm : LM} {H : TM}
noncomputable def CallP (c : Cx) (A : Around) (env : Env) (f : MV) (args : List MV) (m cm : LM) (H : TM) (Q : MV → LM → LM → TM → Prop) : Prop :=
 ∀ F K s fv vals, RelE c env m cm F H K s → VR F f fv → VRs F args vals →
  wpAny (model P c.w) A (call fv vals) (Post c env K F V Q) NoE s
theorem CallW.toP {f : MV} {args : List MV} {Q : MV → LM → LM → TM → Prop} (h : CallW c A f args H (DrP Q m cm)) : CallP c A env f args m cm H Q := fun F K s fv vals r hf hv =>
 call_back r hf hv h fun F3 H3 v s3 x k3 r3 v3 q3 => ⟨F3, x, m, cm, H3, k3, r3, v3, q3⟩
theorem CallP.plain {f : Value} {args : List MV} {z : MV} {C : List Prop} {Q : MV → LM → LM → TM → Prop} (hr : Rm A) (e : callV c.w.params f args = some (z, C)) (hC : AllP C) (q : Q z m cm H) : CallP c A env (.raw f) args m cm H Q := fun F K s fv vals ⟨T, r, l⟩ hf hv => by
 simp only [VR] at hf
 subst hf
 exact PostN.wp (pu_call hr e hC hv T s r) fun F' v s' k r' v' => ⟨F', z, m, cm, H, k, ⟨T, r', l.up k⟩, v', q⟩
noncomputable abbrev CnP (c : Cx) (A : Around) (env : Env) (fm : MV) (Q : MV → LM → LM → TM → Prop) : List MV → LM → LM → TM → Prop := fun vs m cm H => CallP c A env fm vs m cm H Q
noncomputable abbrev MtP (c : Cx) (A : Around) (env : Env) (g : Value) (ov : MV) (Q : MV → LM → LM → TM → Prop) : List MV → LM → LM → TM → Prop := fun vs m cm H => CallP c A env (.raw g) (ov :: vs) m cm H Q
variable {Q : MV → LM → LM → TM → Prop}
theorem W.callNm {id : Str} {p pos : Pos} {e0 : Expr} {er : List Expr} (fm : MV) (hn : nameV env m cm id = some fm) (hfn : isFn c.w.params fm = true)
  (h : W c A env m cm H (spliced (backTo pos (starEach (e0 :: er) env))) VL (CnP c A env fm Q))
  (hs : starEach (e0 :: er) env = (false, eval e0 env) :: starEach er env := by rfl) (hp : (backTo pos (starEach er env)).any (·.1) = false := by rfl) :
  W c A env m cm H (eval (.Call (.Name id p) (e0 :: er) [] pos) env) V Q := fun F K s r => by
 obtain ⟨T, r0, l⟩ := r
 refine wpAny_Call_Name_kw ((puN_name F hn).then (γ := Unit) (δ := Unit) r0 l fun F1 fv s1 k1 l r1 v1 => ?_)
 rw [hs] at h ⊢
 refine callWith_of (P := KeepP c fv) (by show ((false || (backTo pos (starEach er env)).any (·.1)) || false) = false; refine rG hp ?_; rfl) (fun h x => x) (evalArgs_plain ?_)
 refine W.wp h ⟨T, r1, l⟩ fun F2 b m2 cm2 H2 vs s2 k2 r2 v2 q2 => ⟨?_, ?_⟩
 ·obtain ⟨T2, r2, l2⟩ := r2
  exact isFn_of hfn r2 (VR.mono k2 _ v1)
 ·exact Post.lift (q2 F2 K s2 fv vs r2 (VR.mono k2 _ v1) v2) (k1.trans k2)
noncomputable def MethG (c : Cx) (A : Around) (env : Env) (m cm : LM) (H : TM) (ov : MV) (name : Str) (g : Value) : Prop :=
 ∀ F K s v pl (G : Value × List Value → Shared → Prop), RelE c env m cm F H K s → VR F ov v → G (g, [v]) s → wpAny (model P c.w) A (getMethod v name pl) G NoE s
theorem W.meth {o : Expr} {name : Str} {apos pos : Pos} {e0 : Expr} {er : List Expr} (ov : MV) (g : Value) (hfn : isFn c.w.params (.raw g) = true)
  (ho : ∀ F, PuN c A env m cm H F (eval o env) V ov) (hg : MethG c A env m cm H ov name g)
  (h : W c A env m cm H (spliced (backTo pos (starEach (e0 :: er) env))) VL (MtP c A env g ov Q))
  (hb : plainBase o = true := by rfl)
  (hpos : (apos.endLine == pos.line) = true := by rfl) (hform : methodCallForm ((e0 :: er).length + 0) (backTo pos (starEach (e0 :: er) env)) [] = true := by rfl)
  (hs : starEach (e0 :: er) env = (false, eval e0 env) :: starEach er env := by rfl) (hp : (backTo pos (starEach er env)).any (·.1) = false := by rfl) :
  W c A env m cm H (eval (.Call (.Attribute o name apos) (e0 :: er) [] pos) env) V Q := fun F K s r => by
 obtain ⟨T, r0, y⟩ := r
 (refine rG (arm_eval_Call ..) ?_; refine rG (base_eq _ hb) ?_)
 refine wpAny_bind ((ho F).then (γ := Unit) (δ := Unit) r0 y fun F1 v s1 k1 y r1 v1 => wpAny_bind (wpAny_standAt ?_))
 unfold methodCall calleeOf
 refine rG (show methodCallForm ((e0 :: er).length + ([] : List Keyword).length) (backTo pos (starEach (e0 :: er) env)) (backToKw pos (keywordEach [] env)) = true from hform) ?_
 refine wpAny_bind (wpAny_holding (hg F1 K s1 v _ _ ⟨T, r1, y⟩ v1 ?_))
 have hcp : methodCallPos true o env apos pos = pure pos := by unfold methodCallPos; refine rG hpos ?_; rfl
 dsimp only
 refine rG hcp ?_
 refine wpAny_bind (wpAny_pure ?_)
 rw [hs] at h ⊢
 refine callWith_of (P := KeepP c g) (by show ((false || (backTo pos (starEach er env)).any (·.1)) || false) = false; refine rG hp ?_; rfl) (fun h x => x) (evalArgs_plain ?_)
 refine W.wp h ⟨T, r1, y⟩ fun F2 b m2 cm2 H2 vs s2 k2 r2 v2 q2 => ⟨?_, ?_⟩
 ·obtain ⟨T2, r2, l2⟩ := r2
  exact isFn_of hfn r2 vr_raw
 ·exact Post.lift (q2 F2 K s2 g (v :: vs) r2 vr_raw (.cons (VR.mono k2 _ v1) v2)) (k1.trans k2)
theorem W.meth0 {o : Expr} {name : Str} {apos pos : Pos} (ov : MV) (g : Value) (hfn : isFn c.w.params (.raw g) = true)
  (ho : ∀ F, PuN c A env m cm H F (eval o env) V ov) (hg : MethG c A env m cm H ov name g)
  (h : CallP c A env (.raw g) [ov] m cm H Q)
  (hb : plainBase o = true := by rfl) (hpos : (apos.endLine == pos.line) = true := by rfl) :
  W c A env m cm H (eval (.Call (.Attribute o name apos) [] [] pos) env) V Q := fun F K s r => by
 obtain ⟨T, r0, y⟩ := r
 (refine rG (arm_eval_Call ..) ?_; refine rG (base_eq _ hb) ?_)
 refine wpAny_bind ((ho F).then (γ := Unit) (δ := Unit) r0 y fun F1 v s1 k1 y r1 v1 => wpAny_bind (wpAny_standAt ?_))
 unfold methodCall calleeOf
 refine rG (show methodCallForm (([] : List Expr).length + ([] : List Keyword).length) (backTo pos (starEach [] env)) (backToKw pos (keywordEach [] env)) = true from rfl) ?_
 refine wpAny_bind (wpAny_holding (hg F1 K s1 v _ _ ⟨T, r1, y⟩ v1 ?_))
 have hcp : methodCallPos true o env apos pos = pure pos := by unfold methodCallPos; refine rG hpos ?_; rfl
 dsimp only
 refine rG hcp ?_
 refine wpAny_bind (wpAny_pure ?_)
 refine callWith_of (P := KeepP c g) rfl (fun h x => x) (evalArgs_nil3 ⟨isFn_of hfn r1 vr_raw, ?_⟩)
 exact Post.lift (h F1 K s1 g [v] ⟨T, r1, y⟩ vr_raw (.cons v1 VRs.nil)) k1
theorem MethG.own {C a d : Addr} {l : List (Str × MV)} {name : Str} {f : Addr} (hi : H a = some (.exact (instObj C d))) (hd : H d = some (.attrs l)) (hl : l.lookup name = none) (hm : methOf (Ks c.w.params) C name f = true) :
  MethG c A env m cm H (.raw (.ref a)) name (.ref f) := fun F K s v pl G ⟨T, r, y⟩ hv g => by
 simp only [VR] at hv
 subst hv
 refine x0a3 (r.own _ _ (y.hT _ _ hi)) fun _ hx _ => ?_
 obtain ⟨_, ⟨od, es, ep, kvs, q0, q1, q2, q3, q4, q5, q6⟩, _⟩ := r.own _ _ (y.hT _ _ hd)
 have hnone : lookIn name od = some none := by
  have := q6.lookup (n := name)
  rw [hl] at this
  (refine rG (lookIn_ns q2 q3) ?_; refine rG (q5 ..) ?_); exact congrArg some this
 exact getM r.kin hx q0 hnone hm g
theorem MethG.append {a : Addr} {l : List MV} (hi : H a = some (.plist l)) : MethG c A env m cm H (.raw (.ref a)) "append" (.builtin "list.append") := fun F K s v pl G ⟨T, r, y⟩ hv g => by
 simp only [VR] at hv
 subst hv
 obtain ⟨_, ⟨vs, ⟨n, hx⟩, _⟩, _⟩ := r.own _ _ (y.hT _ _ hi)
 exact getMethod_list_append hx rfl rfl g
theorem CallP.append {a : Addr} {l : List MV} {v : MV} (hi : H a = some (.plist l)) (hl : l.length < 1000000) (q : Q .none m cm (H.upd a (.plist (l ++ [v])))) :
  CallP c A env (.raw (.builtin "list.append")) [.raw (.ref a), v] m cm H Q := fun F K s fv vals r hf hv => by
 simp only [VR] at hf
 subst hf
 (refine x2a3 hv.uncons fun x rest e92 h1 h2 => ?_; subst e92)
 simp only [VR] at h1
 subst h1
 (refine x2a3 h2.uncons fun u rest2 e92 h3 h4 => ?_; subst e92)
 simp only [VRs] at h4
 subst h4
 refine x1a2 (r.rep hi) fun vs hp hvs => ?_
 have hlen := hvs.len
 rw [Array.length_toList] at hlen
 refine wpAny_list_append_plain hp (fun h' hp' hs' => ⟨F, .none, m, cm, _, FM.le.refl F, r.set (tk := s.toks) (y := .plist (l ++ [v])) hi hs' ⟨_, hp', ?_⟩, vr_none, q⟩) (by refine rG sizeLine_eq ?_; lia)
 refine rG Array.toList_push ?_
 exact hvs.append (.cons h3 VRs.nil)
theorem RelE.weak {a : Addr} {l : List MV} {F : FM} {K : TM} {s : Shared} (r : RelE c env m cm F H K s) (hi : H a = some (.plist l)) : RelE c env m cm F (H.upd a (.list l)) K s := by
 refine x1a2 (r.rep hi) fun vs hp hvs => ?_
 have := r.set (tk := s.toks) (h' := s.heap) (y := .list l) hi (Heap.SameBut.refl ..) ⟨vs, hp.isList, hvs⟩
 exact this
end
end Mine
namespace Mine
noncomputable def Room (A : Around) (k : Nat) : Prop := A.handled = none ∧ A.units + 4 * k + 100 < cLine ∧ A.depth + k < recursionLimit
theorem Room.rm {A : Around} {k : Nat} (h : Room A k) : Rm A := ⟨h.1, by have := h.2.1; lia⟩
theorem Room.depth {A : Around} {k : Nat} (h : Room A k) : A.depth < recursionLimit := by have := h.2.2; lia
theorem Room.deeper {A : Around} {k : Nat} (h : Room A (k + 1)) (env : Env) : Room (A.deeper env) k :=
 ⟨h.1, by show A.units + 3 + 4 * k + 100 < cLine; have := h.2.1; lia, by show A.depth + 1 + k < recursionLimit; have := h.2.2; lia⟩
theorem Room.less {A : Around} {k j : Nat} (h : Room A k) (hj : j ≤ k) : Room A j := ⟨h.1, by have := h.2.1; lia, by have := h.2.2; lia⟩
section
variable {c : Cx} {A : Around}
theorem CallW.make {C f : Addr} {args : List MV} {H : TM} {Q : MV → TM → Prop} (hm : makesIn (Ks c.w.params) C = true) (hi : findIn (Ks c.w.params) (.ref C) "__init__" = some (some (.ref f))) (hf : typeIn (Ks c.w.params) (.ref f) = some (.type "function"))
  (h : ∀ (A' : Around) a d, A'.handled = A.handled → A'.depth = A.depth + 1 → A'.units = A.units + 1 → H a = none → H d = none → a ≠ d →
   CallW c A' (.raw (.ref f)) (.raw (.ref a) :: args) ((H.upd d (.attrs [])).upd a (.exact (instObj C d))) (fun r H' => r = .none ∧ Q (.raw (.ref a)) H')) :
  CallW c A (.raw (.ref C)) args H Q := fun F K T s fv vals r hT kT hd hfv hv => by
 simp only [VR] at hfv
 subst hfv
 obtain ⟨hh, g, d, t, os⟩ := s
 refine make_core (makes_of r.kin hm) (looks_findIn r.kin hi) (fun self => bind_fn r.kin self hf) (.inl rfl) ?_
 have r1 := r.pushO (o := emptyDict) (x := .attrs []) ⟨emptyDict, #[], 0, [], Heap.get?_push_size _ rfl, rfl, rfl, fun e he => by simp at he, Nat.le_refl _, fun n => rfl, rfl⟩
 have r2 := r1.pushO (o := instObj C hh.objs.size) (x := .exact (instObj C hh.objs.size)) (Heap.get?_push_size _ rfl)
 have hsz : (hh.push emptyDict).objs.size = hh.objs.size + 1 := Heap.size_push ..
 have f1 : T hh.objs.size = none := r.fresh
 have f2 : T (hh.objs.size + 1) = none := by
  have h0 : (T.upd hh.objs.size (.attrs [])) (hh.push emptyDict).objs.size = none := r1.fresh
  rw [hsz, TM.upd_ne (Nat.succ_ne_self _)] at h0; exact h0
 have none_of : ∀ {S : TM}, S.le T → ∀ {a : Addr}, T a = none → S a = none := fun {S} k {a} e => by
  cases q : S a with
  | none => rfl
  | some x => rw [k a x q] at e; cases e
 have hne : hh.objs.size + 1 ≠ hh.objs.size := Nat.succ_ne_self _
 have r2' : Rel c F ((T.upd hh.objs.size (.attrs [])).upd (hh.objs.size + 1) (.exact (instObj C hh.objs.size))) ⟨(hh.push emptyDict).push (instObj C hh.objs.size), g, d, t, os⟩ := by
  have := r2; simp only [hsz] at this; exact this
 have up : ∀ {S U : TM} {a : Addr} {x : MObj}, S.le U → (S.upd a x).le (U.upd a x) := fun {S U a x} k b y e => by
  by_cases hb : b = a
  ·subst hb; rw [TM.upd_self] at e ⊢; exact e
  ·rw [TM.upd_ne hb] at e ⊢; exact k b y e
 have new : ∀ {S U : TM} {a : Addr} {x : MObj}, S.le U → S a = none → S.le (U.upd a x) := fun {S U a x} k e b y q => by
  have : b ≠ a := by first | exact TM.neS q e | exact (TM.neS q e).symm | (rintro rfl; rw [e] at q; cases q)
  refine rG (TM.upd_ne this) ?_; exact k b y q
 have kd := none_of kT f1
 have ka := none_of kT f2
 refine codeAny_mono (h (A.under (.builtin "type.__call__" ⟨.ref C :: vals, []⟩)) (hh.objs.size + 1) hh.objs.size rfl (depth_under_make A C vals) rfl (none_of hT f2) (none_of hT f1) hne
  F K _ _ _ (.ref (hh.objs.size + 1) :: vals) r2' (up (up hT)) (new (new kT kd) ka) (fun b => ?_) vr_raw (.cons vr_raw hv)) fun rr s' z => ?_
 ·by_cases hb : b = hh.objs.size + 1
  ·subst hb; exact .inr ka
  ·refine rG (TM.upd_ne hb) ?_
   by_cases hb2 : b = hh.objs.size
   ·subst hb2; exact .inr kd
   ·refine rG (TM.upd_ne hb2) ?_; exact hd b
 ·unfold CallR at z
  split at z
  ·obtain ⟨F', T', H', r, b1, b2, b3, b4, b5, b6, rfl, b7⟩ := z
   simp only [VR] at b6
   exact ⟨b6, F', T', H', _, b1, b2, b3, b4, b5, vr_raw, b7⟩
  ·exact z.elim
theorem Rel.frozenObj {F : FM} {T : TM} {s : Shared} {C a d : Addr} {l : List (Str × MV)} (r : Rel c F T s) (ha : T a = some (.exact (instObj C d))) (hd : T d = some (.attrs l)) :
  ∃ F', F.le F' ∧ Rel c F' ((T.del a).del d) s ∧ VR F' (.obj C (l.map (·.1)) (l.map (·.2))) (.ref a) := by
 refine x0a3 (r.own _ _ ha) fun _ hx _ => ?_
 have hne : a ≠ d := by first | exact TM.neS hd ha | exact (TM.neS hd ha).symm | (rintro rfl; rw [ha] at hd; (injection hd with hd; injection hd))
 refine x0a2 (r.freeze ha hx) fun k1 r1 => ?_
 have hd1 : (T.del a) d = some (.attrs l) := by simp only [TM.del, Ne.symm hne, if_false]; exact hd
 obtain ⟨_, ⟨od, es, ep, kvs, q0, q1, q2, q3, q4, q5, q6⟩, _⟩ := r1.own _ _ hd1
 refine x0a2 (r1.freeze hd1 q0) fun k2 r2 => ?_
 refine x0a3 q6.zip fun z1 z2 z3 => ?_
 refine i1a3 _ (k1.trans k2) r2 ?_
 simp only [VR]
 refine ⟨a, d, kvs.map (·.2), rfl, ?_, ⟨od, es, ep, FM.upd_self _ _ _, q1, q2, q3, fun n => ?_, z3⟩, z2.mono k2⟩
 ·(refine rG (FM.upd_ne hne) ?_; refine rG (FM.upd_self ..) ?_; rfl)
 ·(refine rG (q5 ..) ?_; refine rL z1 ?_; rfl)
theorem TM.le_del {S T : TM} {a : Addr} (k : S.le T) : (S.del a).le (T.del a) := fun b x e => by
 unfold TM.del at e ⊢
 split at e
 ·injection e
 ·rename_i h; refine rG (if_neg h) ?_; exact k b x e
theorem TM.le_del_none {S T : TM} {a : Addr} (k : S.le T) (e : S a = none) : S.le (T.del a) := fun b x q => by
 have : b ≠ a := by first | exact TM.neS q e | exact (TM.neS q e).symm | (rintro rfl; rw [e] at q; cases q)
 unfold TM.del; refine rG (if_neg this) ?_; exact k b x q
theorem TM.dis_del {S K : TM} {a : Addr} (h : S.dis K) : (S.del a).dis K := fun b => by
 rcases h b with q | q
 ·left; unfold TM.del; split
  ·rfl
  ·exact q
 ·exact .inr q
inductive FrzA (q : MV → TM → Prop) (v : MV) (H : TM) : Prop
 | mk (a d C : Addr) (l : List (Str × MV)) (e : v = .raw (.ref a)) (ha : H a = some (.exact (instObj C d))) (hd : H d = some (.attrs l)) (hq : q (.obj C (l.map (·.1)) (l.map (·.2))) ((H.del a).del d)) : FrzA q v H
theorem CallW.frozenObj {f : MV} {args : List MV} {H : TM} {Q : MV → TM → Prop} (h : CallW c A f args H (FrzA Q)) :
  CallW c A f args H Q := fun F K T s fv vals r hT kT hd hfv hv => codeAny_mono (h F K T s fv vals r hT kT hd hfv hv) fun rr s' z => by
 unfold CallR at z ⊢
 split at z
 ·obtain ⟨F', T', H', r, b1, b2, b3, b4, b5, b6, a, d, C, l, rfl, e1, e2, q⟩ := z
  simp only [VR] at b6
  subst b6
  refine x1a3 (b2.frozenObj (b3 _ _ e1) (b3 _ _ e2)) fun F2 k2 r2 v2 => ?_
  have ka : K a = none := by
   rcases b5 a with q | q
   ·rw [q] at e1; injection e1
   ·exact q
  have kd : K d = none := by
   rcases b5 d with q | q
   ·rw [q] at e2; injection e2
   ·exact q
  exact ⟨F2, _, _, _, b1.trans k2, r2, TM.le_del (TM.le_del b3), TM.le_del_none (TM.le_del_none b4 ka) kd, TM.dis_del (TM.dis_del b5), v2, q⟩
 ·exact z.elim
theorem W.frozenObj {env : Env} {m cm : LM} {H : TM} {Q : MV → LM → LM → TM → Prop} {t : Sem Value} (h : W c A env m cm H t V (fun v m1 cm1 H1 => FrzA (DrP Q m1 cm1) v H1)) :
  W c A env m cm H t V Q := fun F K s r =>
 W.wp h r fun F1 v m1 cm1 H1 u s1 k1 rr v1 qq => by
  obtain ⟨T, r1, y⟩ := rr
  obtain ⟨a, d, C, l, e, ha, hd, q⟩ := qq
  subst e
  simp only [V, VR] at v1
  subst v1
  have hne : a ≠ d := by first | exact TM.neS hd ha | exact (TM.neS hd ha).symm | (rintro rfl; rw [ha] at hd; (injection hd with hd; injection hd))
  refine x1a3 (r1.frozenObj (y.hT _ _ ha) (y.hT _ _ hd)) fun F2 k2 r2 v2 => ?_
  have hd1 : (H1.del a) d = some (.attrs l) := by simp only [TM.del, Ne.symm hne, if_false]; exact hd
  exact ⟨F2, _, m1, cm1, _, k1.trans k2, ⟨_, r2, ((y.del ha).del hd1).up k2⟩, v2, q⟩
theorem CallW.any {f : MV} {args : List MV} {P : MV → Prop} (h : CallW c A f args TM.nil (fun r H' => H' = TM.nil ∧ P r)) (H : TM) : CallW c A f args H (fun r H' => H' = H ∧ P r) := by
 have := h.frame (R := H) fun a => .inl rfl
 refine this.mono fun r H' hq => x1a4 hq fun H1 e _ e1 p => ⟨by (refine rG e ?_; refine rG e1 ?_); rfl, p⟩
end
end Mine
namespace Mine
theorem oldK_but {h₀ h h' : Heap} (K : OldK h₀ h) {a : Addr} (ha : h₀.objs.size ≤ a) (hx : Heap.ExtBut a h h') : OldK h₀ h' := by
 have ne : ∀ b o, h₀.get? b = some o → b ≠ a := fun b o e => Nat.ne_of_lt (Nat.lt_of_lt_of_le (Heap.lt_size e) ha)
 refine ⟨fun b o e => ?_, fun b o e => let ⟨o', ho'⟩ := K.there b o e; ⟨o', hx _ _ (ne b o e) ho'⟩⟩
 rcases K.old b o e with x | ⟨t, hc, vs, more, hv, x⟩ | ⟨rfl, hc, ⟨o', es, n, ho', r⟩, z⟩
 ·exact .inl (hx _ _ (ne b o e) x)
 ·exact .inr (.inl ⟨t, hc, vs, more, hv, hx _ _ (ne b o e) x⟩)
 ·exact .inr (.inr ⟨rfl, hc, ⟨o', es, n, hx _ _ (ne _ o e) ho', r⟩, fun key => by refine rG (OldK.staticOf_congr ((hx _ _ (ne _ o e) ho').trans ho'.symm) key) ?_; exact z key⟩)
noncomputable def iterV : MV → Option (List MV)
 | .lst l => some l
 | .tup l => some l
 | .rng n => some ((List.range n).map fun (j : Nat) => .int (j : Int))
 | .str s => if s.cps.all (· < 128) then some (s.cps.toList.map fun k => .str ⟨#[k]⟩) else none
 | _ => none
section
variable {c : Cx} {A : Around} {F : FM} {T : TM} {s : Shared}
theorem Rel.but (R : Rel c F T s) {a : Addr} {x : MObj} {h' : Heap} {tk : Nat} (e : T a = some x) (hx : Heap.ExtBut a s.heap h') : Rel c F (T.del a) { s with heap := h', toks := tk } := by
 refine x0a4 (R.own a x e) fun h1 h2 h3 h4 => ?_
 refine ⟨fun b o eb => ?_, R.f0, fun b y eb => ?_, R.tabs_keep (FM.le.refl F) fun b o hb eb => hx b o (Nat.ne_of_lt (Nat.lt_of_lt_of_le hb h3)) eb, oldK_but R.old h3 hx, R.gens, R.os⟩
 ·refine x0a2 (R.fz b o eb) fun u v => ?_
  exact ⟨hx b o (by first | exact TM.neS eb h1 | exact (TM.neS eb h1).symm | (rintro rfl; rw [h1] at eb; injection eb)) u, v⟩
 ·unfold TM.del at eb
  split at eb
  ·injection eb
  ·rename_i hb
   refine x0a3 (R.own b y eb) fun k1 k2 k3 => ?_
   refine x1a1 k2.here fun o ho => ?_
   exact ⟨k1, k2.keep (FM.le.refl F) ((hx b o hb ho).trans ho.symm), k3⟩
theorem range_cons (x : Int) (v : MV) (rest : List MV) (h : v :: rest = (List.range (v :: rest).length).map fun j => .int (x + (j : Int))) : v = .int x ∧ rest = (List.range rest.length).map fun j => .int (x + 1 + (j : Int)) := by
 rw [List.length_cons, List.range_succ_eq_map, List.map_cons, List.map_map] at h
 injection h with h1 h2
 refine ⟨by refine rG h1 ?_; simp, ?_⟩
 refine h2.trans (List.map_congr_left ?_)
 intro j _
 show MV.int (x + ((j + 1 : Nat) : Int)) = MV.int (x + 1 + (j : Int))
 congr 1; lia
theorem Rel.next (R : Rel c F T s) {a : Addr} {v : MV} {rest : List MV} (e : T a = some (.iter (v :: rest))) {G : Option Value → Shared → Prop}
  (q : ∀ u s', VR F v u → Rel c F (T.upd a (.iter rest)) s' → G (some u) s') : wpAny (model P c.w) A (pyNext (.ref a)) G NoE s := by
 refine x0a3 (R.own a _ e) fun _ hr _ => ?_
 have drop_ : ∀ {its : Array Value} {i : Nat}, VRs F (v :: rest) (its.toList.drop i) → ∃ u, its[i]? = some u ∧ VR F v u ∧ VRs F rest (its.toList.drop (i + 1)) := fun {its i} h => by
  refine x2a3 h.uncons fun u r e1 e2 e3 => ?_
  refine i1a3 u ?_ e2 ?_
  ·have : (its.toList.drop i)[0]? = some u := by refine rG e1 ?_; rfl
   simpa using this
  ·have : its.toList.drop (i + 1) = r := by (refine rL List.drop_drop ?_; refine rG e1 ?_); rfl
   refine rG this ?_; exact e3
 rcases hr with ⟨ax, o, its, n, i, hi, e1, e2, e3, e4⟩ | ⟨ax, o, its, n, i, hi, e1, e2, e3, e4⟩ | ⟨x, hi, e4⟩ | ⟨x, t, i, hi, e4⟩
 ·refine x1a3 (drop_ e4) fun u h1 h2 h3 => ?_
  exact wpAny_pyNext_list_item hi ⟨o, (R.fz _ _ e1).1, e2, n, e3⟩ h1 fun h' hi' hs' => q u _ h2 (R.set (tk := s.toks) e hs' (IterR.lst ax o its n (i + 1) hi' e1 e2 e3 h3))
 ·refine x1a3 (drop_ e4) fun u h1 h2 h3 => ?_
  exact wpAny_pyNext_tuple_item hi ⟨o, (R.fz _ _ e1).1, e2, n, e3⟩ h1 fun h' hi' hs' => q u _ h2 (R.set (tk := s.toks) e hs' (IterR.tup ax o its n (i + 1) hi' e1 e2 e3 h3))
 ·refine x0a2 (range_cons x v rest e4) fun h1 h2 => ?_
  subst h1
  refine wpAny_pyNext_range_item hi (by refine rG List.length_cons ?_; lia) fun h' hi' hs' => q _ _ vr_int (R.set e hs' (IterR.rng (x + 1) ?_ h2))
  have : ((MV.int x :: rest).length : Int) - 1 = (rest.length : Int) := by refine rG List.length_cons ?_; lia
  rw [this] at hi'; exact hi'
 ·have h0 : (x.cps.toList.drop i)[0]? ≠ none := by
   intro e0
   have : x.cps.toList.drop i = [] := by simpa using e0
   rw [this] at e4; injection e4
  refine x1a1 (Option.ne_none_iff_exists'.mp h0) fun k hk => ?_
  have hd : x.cps.toList.drop i = k :: x.cps.toList.drop (i + 1) := by
   cases q : x.cps.toList.drop i with
   | nil => rw [q] at hk; cases hk
   | cons y r =>
    rw [q] at hk; cases hk
    have : x.cps.toList.drop (i + 1) = r := by (refine rL List.drop_drop ?_; refine rG q ?_); rfl
    (refine rG this ?_; rfl)
  rw [hd, List.map_cons] at e4
  injection e4 with h1 h2
  subst h1
  refine wpAny_pyNext_ascii_item hi (by simpa using hk) fun h' hi' hs' => q _ _ vr_str (R.set e hs' (IterR.str x t (i + 1) hi' h2))
theorem Rel.stop (R : Rel c F T s) (hh : A.handled = none) {a : Addr} (e : T a = some (.iter [])) {G : Option Value → Shared → Prop}
  (q : ∀ s', Rel c F (T.del a) s' → G none s') : wpAny (model P c.w) A (pyNext (.ref a)) G NoE s := by
 refine x0a3 (R.own a _ e) fun _ hr _ => ?_
 have drop_ : ∀ {its : Array Value} {i : Nat}, VRs F [] (its.toList.drop i) → its[i]? = none := fun {its i} h => by
  simp only [VRs, List.drop_eq_nil_iff] at h
  simpa using h
 rcases hr with ⟨ax, o, its, n, i, hi, e1, e2, e3, e4⟩ | ⟨ax, o, its, n, i, hi, e1, e2, e3, e4⟩ | ⟨x, hi, e4⟩ | ⟨x, t, i, hi, e4⟩
 ·exact wpAny_pyNext_list_end hh hi ⟨o, (R.fz _ _ e1).1, e2, n, e3⟩ (drop_ e4) fun h' hx => q _ (R.but (tk := s.toks) e hx)
 ·exact wpAny_pyNext_tuple_end hh hi ⟨o, (R.fz _ _ e1).1, e2, n, e3⟩ (drop_ e4) fun h' hx => q _ (R.but (tk := s.toks) e hx)
 ·exact wpAny_pyNext_range_end hh hi (by show ((0 : Nat) : Int) ≤ 0; decide) fun h' hx => q _ (R.but (tk := s.toks) e hx)
 ·have : x.cps.toList.drop i = [] := by
   cases q : x.cps.toList.drop i with
   | nil => rfl
   | cons y r => rw [q] at e4; cases e4
  exact wpAny_pyNext_ascii_end hh hi (by simpa using this) fun h' hx => q _ (R.but (tk := s.toks) e hx)
set_option tactic.hygienic true in
theorem Rel.iter (R : Rel c F T s) {v : MV} {u : Value} {l : List MV} (hv : VR F v u) (hl : iterV v = some l) (hz : l.length < 1000000) {G : Value → Shared → Prop}
  (q : ∀ it s', T it = none → Rel c F (T.upd it (.iter l)) s' → G (.ref it) s') : wpAny (model P c.w) A (pyIter u) G NoE s := by
 cases v <;> simp only [iterV, Option.some.injEq] at hl <;> first | cases hl | skip
 ·split at hl
  ·rename_i ha
   (injection hl with hl; subst hl)
   simp only [VR] at hv
   (refine x1a1 hv fun t e91 => ?_; subst e91)
   exact wpAny_pyIter_ascii ha (q _ _ R.fresh (R.pushO (x := .iter _) (IterR.str _ t 0 ⟨_, Heap.get?_push_size _ rfl, rfl, rfl⟩ (by simp))))
  ·injection hl
 ·simp only [VR] at hv
  obtain ⟨a, o, vs, n, rfl, e1, e2, e3, e4⟩ := hv
  refine wpAny_pyIter_tuple ⟨o, (R.fz _ _ e1).1, e2, n, e3⟩ (q _ _ R.fresh (R.pushO (x := .iter l) (IterR.tup a o vs n 0 ⟨_, Heap.get?_push_size _ rfl, rfl, rfl⟩ e1 e2 e3 ?_)))
  simpa using e4
 ·simp only [VR] at hv
  obtain ⟨a, o, vs, n, rfl, e1, e2, e3, e4⟩ := hv
  refine wpAny_pyIter_list ⟨o, (R.fz _ _ e1).1, e2, n, e3⟩ (q _ _ R.fresh (R.pushO (x := .iter l) (IterR.lst a o vs n 0 ⟨_, Heap.get?_push_size _ rfl, rfl, rfl⟩ e1 e2 e3 ?_)))
  simpa using e4
 ·rename_i n
  simp only [VR] at hv
  obtain ⟨a, t, u', w, rfl, e1⟩ := hv
  have hn : (n : Int) < 1000000 := by simp at hz; lia
  refine wpAny_pyIter_range (R.fz _ _ e1).1 (small_one (by decide) (by decide) (by lia) (by lia)) (q _ _ R.fresh (R.pushO (x := .iter _) (IterR.rng 0 ?_ ?_)))
  ·refine rG (rangeSize_one ..) ?_
   have : (if (0 : Int) < (n : Int) then (n : Int) - 0 else 0) = (n : Int) := by split <;> lia
   (refine rG this ?_; refine rG (List.length_map ..) ?_; refine rG List.length_range ?_)
   exact Heap.get?_push_size _ rfl
  ·(refine rG (List.length_map ..) ?_; refine rG List.length_range ?_)
   apply List.map_congr_left; intro j _; simp
end
section
variable {c : Cx} {A : Around} {env : Env} {m cm : LM} {H K T : TM} {F : FM}
theorem Lay.newK (l : Lay F env m cm H K T) {a : Addr} {y : MObj} (e : T a = none) : Lay F env m cm H (K.upd a y) (T.upd a y) := by
 have hH : H a = none := by
  cases q : H a with
  | none => rfl
  | some x => rw [l.hT a x q] at e; cases e
 have n1 : env.locals ≠ a := by intro q; have := l.loc; rw [q, e] at this; cases this
 have n2 : ∀ n b, env.cells.lookup n = some b → isFz (cm n) = false → b ≠ a := fun n b hb hz q => by have := (l.cel n b hb).own hz; rw [q, e] at this; cases this
 refine { l with
  loc := by refine rG (TM.upd_ne n1) ?_; exact l.loc
  cel := fun n b hb => (l.cel n b hb).up (FM.le.refl F) fun hz h => by refine rG (TM.upd_ne (n2 n b hb hz)) ?_; exact h
  hT := fun b z eb => by
   have : b ≠ a := by first | exact TM.neS eb hH | exact (TM.neS eb hH).symm | (rintro rfl; rw [hH] at eb; cases eb)
   refine rG (TM.upd_ne this) ?_; exact l.hT b z eb
  kT := fun b z eb => by
   by_cases hb : b = a
   ·subst hb; rw [TM.upd_self] at eb ⊢; exact eb
   ·rw [TM.upd_ne hb] at eb ⊢; exact l.kT b z eb
  dis := fun b => by
   by_cases hb : b = a
   ·subst hb; exact .inl hH
   ·refine rG (TM.upd_ne hb) ?_; exact l.dis b
  kl := by refine rG (TM.upd_ne n1) ?_; exact l.kl
  own := fun n b hb hk hz => by
   obtain ⟨o1, o2, o3, o4⟩ := l.own n b hb hk hz
   exact ⟨o1, by refine rG (TM.upd_ne (n2 n b hb hz)) ?_; exact o2, o3, o4⟩
  fre := fun n b hb hk hz => by refine rG (TM.upd_ne (n2 n b hb hz)) ?_; exact l.fre n b hb hk hz }
theorem Lay.k_cell (l : Lay F env m cm H K T) {a : Addr} {x : MObj} (e : K a = some x) (hx : ∀ v, x ≠ .cell v) : a ≠ env.locals ∧ ∀ n b, env.cells.lookup n = some b → isFz (cm n) = false → b ≠ a := by
 refine ⟨fun q => by (rw [q, l.kl] at e; injection e), fun n b hb hz q => ?_⟩
 subst q
 by_cases hk : ownC env n
 ·rw [(l.own n b hb hk hz).2.1] at e; injection e
 ·have := l.fre n b hb hk hz
  rw [this] at e; (injection e with e; subst e); exact hx _ rfl
theorem Lay.setK (l : Lay F env m cm H K T) {a : Addr} {x y : MObj} (e : K a = some x) (hx : ∀ v, x ≠ .cell v) : Lay F env m cm H (K.upd a y) (T.upd a y) := by
 refine x0a2 (l.k_cell e hx) fun n1 n2 => ?_
 have hH : H a = none := by
  rcases l.dis a with q | q
  ·exact q
  ·rw [q] at e; injection e
 refine { l with
  loc := by refine rG (TM.upd_ne (Ne.symm n1)) ?_; exact l.loc
  cel := fun n b hb => (l.cel n b hb).up (FM.le.refl F) fun hz h => by refine rG (TM.upd_ne (n2 n b hb hz)) ?_; exact h
  hT := fun b z eb => by
   have : b ≠ a := by first | exact TM.neS eb hH | exact (TM.neS eb hH).symm | (rintro rfl; rw [hH] at eb; cases eb)
   refine rG (TM.upd_ne this) ?_; exact l.hT b z eb
  kT := fun b z eb => by
   by_cases hb : b = a
   ·subst hb; rw [TM.upd_self] at eb ⊢; exact eb
   ·rw [TM.upd_ne hb] at eb ⊢; exact l.kT b z eb
  dis := fun b => by
   by_cases hb : b = a
   ·subst hb; exact .inl hH
   ·refine rG (TM.upd_ne hb) ?_; exact l.dis b
  kl := by refine rG (TM.upd_ne (Ne.symm n1)) ?_; exact l.kl
  own := fun n b hb hk hz => by
   refine x0a4 (l.own n b hb hk hz) fun o1 o2 o3 o4 => ?_
   exact ⟨o1, by refine rG (TM.upd_ne (n2 n b hb hz)) ?_; exact o2, o3, o4⟩
  fre := fun n b hb hk hz => by refine rG (TM.upd_ne (n2 n b hb hz)) ?_; exact l.fre n b hb hk hz }
theorem Lay.delK (l : Lay F env m cm H K T) {a : Addr} {x : MObj} (e : K a = some x) (hx : ∀ v, x ≠ .cell v) : Lay F env m cm H (K.del a) (T.del a) := by
 refine x0a2 (l.k_cell e hx) fun n1 n2 => ?_
 have hH : H a = none := by
  rcases l.dis a with q | q
  ·exact q
  ·rw [q] at e; injection e
 have hne : ∀ {S : TM} {b : Addr}, b ≠ a → (S.del a) b = S b := fun h => by simp [TM.del, h]
 refine { l with
  loc := by refine rG (hne (Ne.symm n1)) ?_; exact l.loc
  cel := fun n b hb => (l.cel n b hb).up (FM.le.refl F) fun hz h => by refine rG (hne (n2 n b hb hz)) ?_; exact h
  hT := TM.le_del_none l.hT hH
  kT := TM.le_del l.kT
  dis := fun b => by
   by_cases hb : b = a
   ·subst hb; exact .inl hH
   ·refine rG (hne hb) ?_; exact l.dis b
  kl := by refine rG (hne (Ne.symm n1)) ?_; exact l.kl
  own := fun n b hb hk hz => by
   refine x0a4 (l.own n b hb hk hz) fun o1 o2 o3 o4 => ?_
   exact ⟨o1, by refine rG (hne (n2 n b hb hz)) ?_; exact o2, o3, o4⟩
  fre := fun n b hb hk hz => by refine rG (hne (n2 n b hb hz)) ?_; exact l.fre n b hb hk hz }
theorem Lay.lessK (l : Lay F env m cm H (K.upd a x) T) (e : K a = none) (hx : ∀ v, x ≠ .cell v) : Lay F env m cm H K T := by
 refine x0a2 (l.k_cell (TM.upd_self K a x) hx) fun n1 n2 => ?_
 refine { l with
  kT := fun b z eb => l.kT b z (by
   have : b ≠ a := by first | exact TM.neS eb e | exact (TM.neS eb e).symm | (rintro rfl; rw [e] at eb; cases eb)
   refine rG (TM.upd_ne this) ?_; exact eb)
  dis := fun b => by
   by_cases hb : b = a
   ·subst hb; exact .inr e
   ·have := l.dis b; rw [TM.upd_ne hb] at this; exact this
  kl := by have := l.kl; rw [TM.upd_ne (Ne.symm n1)] at this; exact this
  own := fun n b hb hk hz => by
   refine x0a4 (l.own n b hb hk hz) fun o1 o2 o3 o4 => ?_
   exact ⟨o1, by rw [TM.upd_ne (n2 n b hb hz)] at o2; exact o2, o3, o4⟩
  fre := fun n b hb hk hz => by have := l.fre n b hb hk hz; rw [TM.upd_ne (n2 n b hb hz)] at this; exact this }
noncomputable def LoopQ (I : LM → LM → TM → Prop) (Q : MFlow → LM → LM → TM → Prop) : MFlow → LM → LM → TM → Prop := fun f m cm H => match f with
 | .next => I m cm H
 | .cont => I m cm H
 | .brk => Q .next m cm H
 | .ret v => Q (.ret v) m cm H
inductive LoopS (I : List MV → LM → LM → TM → Prop) (v : MV) (m cm : LM) (H : TM) : Prop
 | mk (l : List MV) (hi : iterV v = some l) (hl : l.length < 1000000) (hq : I l m cm H) : LoopS I v m cm H
inductive Bnd (e : Option (LM × LM)) (q : LM → LM → Prop) : Prop
 | mk (m cm : LM) (he : e = some (m, cm)) (hq : q m cm) : Bnd e q
inductive LLoop (c : Cx) (env : Env) (K : TM) (it : Addr) (I : List MV → LM → LM → TM → Prop) (F : FM) (n : Nat) (s : Shared) : Prop
 | mk (l : List MV) (m cm : LM) (H : TM) (F' : FM) (k : F.le F') (hn : n = l.length) (hI : I l m cm H) (r : RelE c env m cm F' H (K.upd it (.iter l)) s) : LLoop c env K it I F n s
theorem W.forL {x : Str} {px pos : Pos} {iter : Expr} {body : List Stmt} {Q : MFlow → LM → LM → TM → Prop} (I : List MV → LM → LM → TM → Prop) (hA : A.handled = none)
  (h : W c A env m cm H (eval iter env) V (LoopS I))
  (hb : ∀ v rest m cm H, I (v :: rest) m cm H → Bnd (storeTo env m cm x v) fun m2 cm2 => W c A env m2 cm2 H (execs body env) Fl (LoopQ (I rest) Q))
  (he : ∀ m cm H, I [] m cm H → Q .next m cm H) (hs : ∀ x, foldedSetIterable iter env x = pure x := by intro _; rfl) :
  W c A env m cm H (exec (.For (.Name x px) iter body [] pos) env) Fl Q := fun F K s r => by
 refine wpAny_For (W.wp h r fun F1 v m1 cm1 H1 u s1 k1 rr v1 qq => ?_) hs
 obtain ⟨T1, r1, y1⟩ := rr
 obtain ⟨l, hl, hz, hI⟩ := qq
 refine r1.iter v1 hl hz fun it s2 hit r2 => ?_
 have hKit : K it = none := by
  cases q : K it with
  | none => rfl
  | some z => rw [y1.kT _ _ q] at hit; cases hit
 refine codeAny_forLoop (LLoop c env K it I F) (fun n s hl => ?_) l.length ⟨l, m1, cm1, H1, F1, k1, rfl, hI, _, r2, y1.newK hit⟩
 obtain ⟨l, m, cm, H, F', kF, hn, hI, T, r, y⟩ := hl
 have hTit : T it = some (.iter l) := y.kT _ _ (TM.upd_self _ _ _)
 cases l with
 | nil =>
  refine wpAny_mono (r.stop hA hTit fun s' r' => ?_) (fun _ _ h => h) fun _ _ x => x.elim
  refine wpAny_execs_nil ⟨F', .next, m, cm, H, kF, ⟨_, r', ?_⟩, rfl, he m cm H hI⟩
  have := y.delK (TM.upd_self _ _ _) (fun v => by intro e; cases e)
  rw [TM.del_upd hKit] at this; exact this
 | cons v rest =>
  refine wpAny_mono (r.next hTit fun u s' hu r' => ?_) (fun _ _ h => h) fun _ _ x => x.elim
  have y' := y.setK (y := .iter rest) (TM.upd_self _ _ _) (fun v => by intro e; cases e)
  rw [TM.upd_upd] at y'
  obtain ⟨m2, cm2, hst, hw⟩ := hb v rest m cm H hI
  refine wpAny_assign_Name (wpAny_mono (store_ok hst ⟨_, r', y'⟩ hu fun s'' r'' => ?_) (fun _ _ h => h) fun _ _ x => x.elim)
  refine W.wp hw r'' fun F3 b m3 cm3 H3 f s3 k3 rr v3 q3 => ?_
  cases b with
  | next => cases v3; exact ⟨rest.length, by refine rG hn ?_; exact Nat.lt_succ_self _, rest, m3, cm3, H3, F3, kF.trans k3, rfl, q3, rr⟩
  | cont => cases v3; exact ⟨rest.length, by refine rG hn ?_; exact Nat.lt_succ_self _, rest, m3, cm3, H3, F3, kF.trans k3, rfl, q3, rr⟩
  | brk => cases v3; exact ⟨F3, .next, m3, cm3, H3, kF.trans k3, rr.elim fun T3 r3 y3 => ⟨T3, r3, y3.lessK hKit (fun v => by intro e; cases e)⟩, rfl, q3⟩
  | ret w => obtain ⟨u', rfl, v3⟩ := v3; exact ⟨F3, .ret w, m3, cm3, H3, kF.trans k3, rr.elim fun T3 r3 y3 => ⟨T3, r3, y3.lessK hKit (fun v => by intro e; cases e)⟩, ⟨u', rfl, v3⟩, q3⟩
end
end Mine
end
section
set_option backward.match.sparseCases false
open PySem PySem.W PySem.W.X PyProof.Rows PySem.Calls
open Builtin Builtin.ObjectAttr
namespace Mine
section
variable {c : Cx} {A : Around} {F : FM} {T : TM} {s : Shared}
theorem draw_ok {it : Addr} : ∀ (l : List MV) (T : TM) (s : Shared), Rel c F T s → T it = some (.iter l) → ∀ {G : List Value → Shared → Prop}, (∀ items s', VRs F l items → Rel c F (T.upd it (.iter [])) s' → G items s') →
  wpAny (model P c.w) A (draw (.ref it) l.length) G NoE s
 | [] => fun T s R e G q => wpAny_pure (q [] s VRs.nil (by refine rG (TM.upd_same e) ?_; exact R))
 | v :: l => by
  intro T s R e G q
  show wpAny _ _ (do match ← pyNext (.ref it) with
   | none => pure []
   | some v => return v :: (← holding [v] (draw (.ref it) l.length))) G NoE s
  refine wpAny_bind (R.next e fun u s' hu R' => ?_)
  refine wpAny_bind (wpAny_holding (draw_ok l _ s' R' (TM.upd_self _ _ _) fun items s'' hi R'' => wpAny_pure (q _ s'' (.cons hu hi) ?_)))
  rw [TM.upd_upd] at R''; exact R''
theorem iter_here {v : MV} {u : Value} {l : List MV} (R : Rel c F T s) (hv : VR F v u) (hl : iterV v = some l) {G : Bool → Shared → Prop} (q : G false s) : wpAny (model P c.w) A (notIterableAtAll u) G NoE s := by
 unfold notIterableAtAll
 cases v <;> simp only [iterV, Option.some.injEq] at hl <;> first | cases hl | skip
 ·simp only [VR] at hv
  (refine x1a1 hv fun t e91 => ?_; subst e91)
  refine wpAny_bind (wpAny_specialOf (typeIs_str s _ t) PySem.F.slot_str_iter.lookup (wpAny_pure ?_))
  simpa using q
 ·simp only [VR] at hv
  obtain ⟨a, o, vs, n, rfl, e1, e2, e3, e4⟩ := hv
  refine wpAny_bind (wpAny_specialOf ⟨o, (R.fz _ _ e1).1, e2⟩ PySem.F.slot_tuple_iter.lookup (wpAny_pure ?_))
  simpa using q
 ·simp only [VR] at hv
  obtain ⟨a, o, vs, n, rfl, e1, e2, e3, e4⟩ := hv
  refine wpAny_bind (wpAny_specialOf ⟨o, (R.fz _ _ e1).1, e2⟩ slot_list_iter.lookup (wpAny_pure ?_))
  simpa using q
 ·simp only [VR] at hv
  obtain ⟨a, t, u', w, rfl, e1⟩ := hv
  refine wpAny_bind (wpAny_specialOf ⟨_, (R.fz _ _ e1).1, rfl⟩ PySem.F.slot_range_iter.lookup (wpAny_pure ?_))
  simpa using q
theorem unpack_ok {v : MV} {u : Value} {l : List MV} (hh : A.handled = none) (R : Rel c F T s) (hv : VR F v u) (hl : iterV v = some l) (hz : l.length < 1000000) {n : Nat} (hn : n = l.length) {G : List Value → Shared → Prop}
  (q : ∀ items s', VRs F l items → Rel c F T s' → G items s') : wpAny (model P c.w) A (unpackItems u n none) G NoE s := by
 subst hn
 unfold unpackItems
 refine wpAny_bind (iter_here R hv hl ?_)
 simp only [Bool.false_eq_true, if_false]
 refine wpAny_bind (wpAny_holding (R.iter hv hl hz fun it s1 hit R1 => ?_))
 refine wpAny_bind (wpAny_holding (draw_ok l _ s1 R1 (TM.upd_self _ _ _) fun items s2 hi R2 => ?_))
 have hlen := hi.len
 refine rG (if_neg (by lia)) ?_
 refine wpAny_bind (wpAny_holding (R2.stop hh (TM.upd_self _ _ _) fun s3 R3 => ?_))
 simp only [Option.isSome_none, Bool.false_eq_true, if_false]
 refine wpAny_pure (q items s3 hi ?_)
 rw [TM.upd_upd, TM.del_upd hit] at R3; exact R3
end
noncomputable def nmOf (e : Expr) : Option Str := omp (nameOf e) fun z => z.1
theorem nmOf_of {e : Expr} {x : Str} (h : nmOf e = some x) : ∃ pos, e = .Name x pos := by
 refine x1a2 (omp_of h) fun z h1 h2 => ?_
 subst h2
 exact i1a1 _ (nameOf_of h1)
noncomputable def nmsOf : List Expr → Option (List Str)
 | [] => some []
 | e :: r => on2 (nmOf e) (nmsOf r) fun x l => some (x :: l)
theorem nmsOf_of {e : Expr} {r : List Expr} {ns : List Str} (h : nmsOf (e :: r) = some ns) : ∃ x pos l, e = .Name x pos ∧ nmsOf r = some l ∧ ns = x :: l := by
 have h : on2 (nmOf e) (nmsOf r) (fun x l => some (x :: l)) = some ns := h
 refine x2a3 (on2_of h) fun x l h1 h2 h3 => ?_
 (refine x1a1 (nmOf_of h1) fun pos e91 => ?_; subst e91)
 (injection h3 with h3; subst h3)
 exact ⟨x, pos, l, rfl, h2, rfl⟩
noncomputable def tupT (env : Env) (m cm : LM) (elts : List Expr) (v : MV) : Option (LM × LM) := on2 (nmsOf elts) (iterV v) fun ns l => if l.length < 1000000 then bindAll env ns l m cm else none
noncomputable def bindT (env : Env) (m cm : LM) (t : Expr) (v : MV) : Option (LM × LM) := match t with
 | .Name x _ => storeTo env m cm x v
 | .Tuple elts _ _ => tupT env m cm elts v
 | _ => none
section
variable {c : Cx} {A : Around} {env : Env} {H : TM} {F : FM} {K : TM}
theorem bindAll_len : ∀ {ns : List Str} {l : List MV} {m cm : LM} {r : LM × LM}, bindAll env ns l m cm = some r → ns.length = l.length
 | [], [] => by rename_i _ _ _; intro _; exact rfl
 | n :: ns, v :: l => by
  rename_i m cm r
  intro e
  rw [bindAll] at e
  cases q : storeTo env m cm n v with
  | none => rw [q] at e; cases e
  | some p => rw [q] at e; exact congrArg (· + 1) (bindAll_len e)
 | [], _ :: _ => by rename_i _ _ _; intro e; cases e
 | _ :: _, [] => by rename_i _ _ _; intro e; cases e
theorem nms_each : ∀ {elts : List Expr} {ns : List Str}, nmsOf elts = some ns → (assignEach elts env).length = ns.length ∧ (assignEach elts env).findIdx? (·.1) = none ∧ (assignEach elts env).map (·.2) = elts.map fun e => assign e env
 | [] => by rename_i ns; intro e; (injection e with e; subst e); exact ⟨rfl, rfl, rfl⟩
 | x :: elts => by
  rename_i ns
  intro e
  (refine x3a3 (nmsOf_of e) fun y pos l e93 e2 e95 => ?_; subst e93 e95)
  refine x0a3 (nms_each e2) fun h1 h2 h3 => ?_
  refine ⟨congrArg (· + 1) h1, ?_, congrArg (assign (.Name y pos) env :: ·) h3⟩
  show List.findIdx? (·.1) ((false, assign (.Name y pos) env) :: assignEach elts env) = none
  (refine rG List.findIdx?_cons ?_; refine rG h2 ?_); rfl
theorem bindAll_cons {n : Str} {ns : List Str} {v : MV} {vs : List MV} {m cm : LM} {z : LM × LM} (h : bindAll env (n :: ns) (v :: vs) m cm = some z) : ∃ m1 cm1, storeTo env m cm n v = some (m1, cm1) ∧ bindAll env ns vs m1 cm1 = some z := by
 rw [bindAll] at h
 cases q : storeTo env m cm n v with
 | none => rw [q] at h; cases h
 | some p => rw [q] at h; exact i2a2 p.1 p.2 rfl h
theorem order_ok : ∀ {elts : List Expr} {ns : List Str} {l : List MV} {items : List Value} {m cm m1 cm1 : LM} {s : Shared} {G : Unit → Shared → Prop}, nmsOf elts = some ns → bindAll env ns l m cm = some (m1, cm1) → VRs F l items → RelE c env m cm F H K s →
  (∀ s', RelE c env m1 cm1 F H K s' → G () s') → wpAny (model P c.w) A (assignInOrder (elts.map fun e => assign e env) items) G NoE s
 | [] => by
  rename_i ns l items m cm m1 cm1 s G
  intro e hb hv r q
  (injection e with e; subst e)
  cases l with
  | nil =>
   simp only [VRs] at hv; subst hv
   simp only [bindAll, Option.some.injEq, Prod.mk.injEq] at hb
   (refine x0a2 hb fun e90 e91 => ?_; subst e90 e91)
   exact wpAny_pure (q s r)
  | cons => injection hb
 | x :: elts => by
  rename_i ns l items m cm m1 cm1 s G
  intro e hb hv r q
  (refine x3a3 (nmsOf_of e) fun y pos ns' e93 e2 e95 => ?_; subst e93 e95)
  cases l with
  | nil => injection hb
  | cons v l =>
   (refine x2a3 hv.uncons fun u rest e92 h1 h2 => ?_; subst e92)
   refine x2a2 (bindAll_cons hb) fun m2 cm2 hst hb => ?_
   exact wpAny_bind (wpAny_holding (wpAny_assign_Name (store_ok hst r h1 fun s' r' => order_ok e2 hb h2 r' q)))
theorem bindT_ok {t : Expr} {v : MV} {u : Value} {m cm m1 cm1 : LM} {s : Shared} {G : Unit → Shared → Prop} (hh : A.handled = none) (e : bindT env m cm t v = some (m1, cm1)) (r : RelE c env m cm F H K s) (hv : VR F v u)
  (q : ∀ s', RelE c env m1 cm1 F H K s' → G () s') : wpAny (model P c.w) A (assign t env u) G NoE s := by
 cases t with
 | Name x p => exact wpAny_assign_Name (store_ok e r hv q)
 | Tuple elts k p =>
  have e : on2 (nmsOf elts) (iterV v) (fun ns l => if l.length < 1000000 then bindAll env ns l m cm else none) = some (m1, cm1) := e
  refine x2a3 (on2_of e) fun ns l e1 e2 e => ?_
  rcases ite_of e with ⟨hz, e⟩ | e
  ·refine x0a3 (nms_each (env := env) e1) fun h1 h2 h3 => ?_
   refine rG (arm_assign_Tuple ..) ?_
   unfold unpack
   (refine rG h1 ?_; refine rG h2 ?_; refine rG h3 ?_)
   obtain ⟨T, r, y⟩ := r
   exact wpAny_bind (wpAny_standAt (wpAny_bind (wpAny_holding (unpack_ok hh r hv e2 hz (bindAll_len e) fun items s' hi r' => order_ok e1 e hi ⟨T, r', y⟩ q))))
  ·injection e
 | _ => injection e
noncomputable abbrev BtP (env : Env) (t : Expr) (Q : MFlow → LM → LM → TM → Prop) : MV → LM → LM → TM → Prop := fun v m cm H => Bnd (bindT env m cm t v) fun m1 cm1 => Q .next m1 cm1 H
theorem W.asgT {elts : List Expr} {k : Nat} {p pos : Pos} {value : Expr} {m cm : LM} {Q : MFlow → LM → LM → TM → Prop} (hh : A.handled = none)
  (h : W c A env m cm H (eval value env) V (BtP env (.Tuple elts k p) Q))
  (hs : swapsWithSole [.Tuple elts k p] value pos.line env = pure false := by rfl)
  (hw : swappedStores [.Tuple elts k p] value env = pure none := by rfl) : W c A env m cm H (exec (.Assign [.Tuple elts k p] value pos) env) Fl Q := fun F K s r =>
 PyProof.Rows.Assign_Tuple (W.wp h r fun F1 b m1 cm1 H1 v s1 k1 r1 v1 qq => by
   obtain ⟨m2, cm2, e, q1⟩ := qq
   exact bindT_ok hh e r1 v1 fun s' r' => ⟨F1, .next, m2, cm2, H1, k1, r', rfl, q1⟩) hs hw
theorem order_names : ∀ {ns : List Str} {l : List MV} {items : List Value} {m cm m1 cm1 : LM} {s : Shared} {G : Unit → Shared → Prop}, bindAll env ns l m cm = some (m1, cm1) → VRs F l items → RelE c env m cm F H K s →
  (∀ s', RelE c env m1 cm1 F H K s' → G () s') → wpAny (model P c.w) A (assignInOrder (ns.map fun n => bindName env n) items) G NoE s
 | [] => by
  rename_i l items m cm m1 cm1 s G
  intro hb hv r q
  cases l with
  | nil =>
   simp only [VRs] at hv; subst hv
   simp only [bindAll, Option.some.injEq, Prod.mk.injEq] at hb
   (refine x0a2 hb fun e90 e91 => ?_; subst e90 e91)
   exact wpAny_pure (q s r)
  | cons => injection hb
 | x :: ns => by
  rename_i l items m cm m1 cm1 s G
  intro hb hv r q
  cases l with
  | nil => injection hb
  | cons v l =>
   (refine x2a3 hv.uncons fun u rest e92 h1 h2 => ?_; subst e92)
   refine x2a2 (bindAll_cons hb) fun m2 cm2 hst hb => ?_
   exact wpAny_bind (wpAny_holding (wpAny_bindName (store_ok hst r h1 fun s' r' => order_names hb h2 r' q)))
theorem VRs.rev {F : FM} : ∀ {l : List MV} {vs : List Value}, VRs F l vs → VRs F l.reverse vs.reverse
 | [] => by rename_i _; intro h; simp only [VRs] at h; subst h; exact VRs.nil
 | m :: l => by
  rename_i _
  intro h
  (refine x2a3 h.uncons fun v r e92 h1 h2 => ?_; subst e92)
  (refine rG List.reverse_cons ?_; refine rG List.reverse_cons ?_)
  exact h2.rev.append (.cons h1 VRs.nil)
inductive SwpS (env : Env) (names : List Str) (Q : MFlow → LM → LM → TM → Prop) (v : MV) (m cm : LM) (H : TM) : Prop
 | mk (l : List MV) (m1 cm1 : LM) (hi : iterV v = some l) (hl : l.length < 1000000) (hn : l.length = names.length) (hb : bindAll env names.reverse l.reverse m cm = some (m1, cm1)) (hq : Q .next m1 cm1 H) : SwpS env names Q v m cm H
theorem W.asgS {elts : List Expr} {k : Nat} {p pos : Pos} {value : Expr} {m cm : LM} {Q : MFlow → LM → LM → TM → Prop} (names : List Str) (hh : A.handled = none)
  (h : W c A env m cm H (eval value env) V (SwpS env names Q))
  (hs : swapsWithSole [.Tuple elts k p] value pos.line env = pure false := by rfl)
  (hw : swappedStores [.Tuple elts k p] value env = pure (some names) := by rfl) : W c A env m cm H (exec (.Assign [.Tuple elts k p] value pos) env) Fl Q := fun F K s r =>
 PyProof.Rows.Assign_Tuple_swapped (W.wp h r fun F1 b m1 cm1 H1 v s1 k1 rr v1 qq => by
   obtain ⟨T, r1, y⟩ := rr
   obtain ⟨l, m2, cm2, e1, e2, e3, e4, q1⟩ := qq
   exact unpack_ok hh r1 v1 e1 e2 e3.symm fun items s' hi r' => order_names e4 hi.rev ⟨T, r', y⟩ fun s'' r'' => ⟨F1, .next, m2, cm2, H1, k1, r'', rfl, q1⟩) hs hw
end
end Mine
end
section
open PySem PySem.W PySem.W.X PyProof.Rows PySem.Calls
open Builtin Builtin.ObjectAttr
namespace Mine
section
variable {c : Cx} {A : Around} {F : FM} {T : TM} {s : Shared}
inductive GoForm (t : Expr) (a u : Value) : Prop
 | no (e : letOwnedTupleGo t a u = pure ()) : GoForm t a u
 | yes (e : letOwnedTupleGo t a u = letOwnedTupleGo (.Tuple [] 0 default) a u) : GoForm t a u
theorem goForm (t : Expr) (a u : Value) : GoForm t a u := by
 cases t with
 | Tuple => exact .yes rfl
 | List => exact .yes rfl
 | _ => exact .no rfl
theorem Rel.letGo (R : Rel c F T s) {it : Addr} {l : List MV} (e : T it = some (.iter l)) {target : Expr} {u : Value} {G : Unit → Shared → Prop} (q : G () s) : wpAny (model P c.w) A (letOwnedTupleGo target (.ref it) u) G NoE s := by
 have key : ∃ o n vs, s.heap.get? it = some o ∧ o.cls = .type n ∧ o.data = .fields vs ∧ (["enumerate", "zip", "dict_itemiterator", "dict_reverseitemiterator", "odict_iterator", "itertools.zip_longest", "itertools.pairwise"].contains n) = false := by
  refine x0a3 (R.own _ _ e) fun _ hr _ => ?_
  rcases hr with ⟨ax, o, its, n, i, ⟨oi, ho, h1, h2⟩, _⟩ | ⟨ax, o, its, n, i, ⟨oi, ho, h1, h2⟩, _⟩ | ⟨x, hi, _⟩ | ⟨x, t, i, ⟨oi, ho, h1, h2⟩, _⟩
  ·exact i3a4 oi _ _ ho h1 h2 (by decide)
  ·exact i3a4 oi _ _ ho h1 h2 (by decide)
  ·exact i3a4 _ _ _ hi rfl rfl (by decide)
  ·exact i3a4 oi _ _ ho h1 h2 (by decide)
 refine x3a4 key fun o n vs h1 h2 h3 h4 => ?_
 cases goForm target (.ref it) u with
 | no e => refine rG e ?_; exact wpAny_pure q
 | yes e =>
  refine rG e ?_
  cases u with
  | ref a =>
   refine wpAny_bind (wpAny_load h1 ?_)
   (refine rG h2 ?_; refine rG h3 ?_)
   dsimp only
   refine rG h4 ?_
   exact wpAny_pure q
  | _ => exact wpAny_pure q
theorem codeAny_compLoop_any {elt target iter : Expr} {scope : Scope} {pos : Pos} {it acc : Value} {env : Env} {R : Result → Shared → Prop} (I : Nat → Shared → Prop)
  (turn : ∀ n s, I n s → wpAny (model P c.w) A (pyNext it) (fun r s₁ => match r with
   | none => R (.ok .next) s₁
   | some v => wpAny (model P c.w) A (letOwnedTupleGo target it v) (fun _ s₁' => wpAny (model P c.w) A (assign target env v) (fun _ s₂ => wpAny (model P c.w) A (eval elt env) (fun x s₃ =>
     wpAny (model P c.w) A (call (.builtin "list.append") [acc, x]) (fun _ s₄ => ∃ m, m < n ∧ I m s₄) NoE s₃) NoE s₂) NoE s₁') NoE s₁) NoE s)
  (n : Nat) (h : I n s) : codeAny (model P c.w) A (.compLoop (.ListComp elt [⟨target, iter, [], 0⟩] scope pos) 0 it acc env) R s := by
 refine codeAny_loop rfl I (fun n s hI => ?_) n h
 show wpAny _ _ ((compTurn (.ListComp elt [⟨target, iter, [], 0⟩] scope pos) 0 it acc env).onRaise (fun x => do noteFrame x env; theTreesLotGoes x)) _ _ s
 refine wpAny_noted ?_
 refine rG (compTurn_list1 ..) ?_
 refine wpAny_bind (wpAny_standAt (wpAny_bind (wpAny_mono (turn n s hI) (fun r s₁ h₁ => ?_) fun _ _ h' => h'.elim)))
 cases r with
 | none => exact wpAny_pure h₁
 | some v =>
  refine wpAny_bind (wpAny_mono h₁ (fun _ s₁' h₁' => ?_) fun _ _ h' => h'.elim)
  exact wpAny_bind (wpAny_mono h₁' (fun _ s₂ h₂ => wpAny_bind (wpAny_bind (wpAny_mono h₂ (fun x s₃ h₃ => wpAny_bind (wpAny_mono h₃
   (fun _ s₄ h₄ => wpAny_pure (wpAny_pure ⟨rfl, h₄⟩)) fun _ _ h' => h'.elim)) fun _ _ h' => h'.elim))) fun _ _ h' => h'.elim)
end
noncomputable def closC (env : Env) : List (Str × NameKind) → List (Str × Addr) → Option (List (Str × Addr))
 | [], acc => some acc
 | (n, k) :: r, acc => if k == .free then (match env.cells.lookup n with | some a => closC env r ((n, a) :: acc) | none => none) else closC env r acc
noncomputable def closL (scope : Scope) (env : Env) : List (Str × Addr) := (closC env scope.names []).getD []
set_option tactic.hygienic true in
theorem closC_ok {env : Env} : ∀ {names : List (Str × NameKind)} {acc cl : List (Str × Addr)}, closC env names acc = some cl →
  (forIn names acc (fun (x : Str × NameKind) (cs : List (Str × Addr)) => if (x.2 == NameKind.free) = true then (do let a ← cellOf env x.1; pure (ForInStep.yield ((x.1, a) :: cs))) else pure (ForInStep.yield cs)) : Sem (List (Str × Addr))) = pure cl ∧ ((∀ n a, (n, a) ∈ acc → env.cells.lookup n = some a) → ∀ n a, (n, a) ∈ cl → env.cells.lookup n = some a)
 | [] => by rename_i acc cl; intro e; (injection e with e; subst e); exact ⟨rfl, fun h => h⟩
 | (n, k) :: r => by
  rename_i acc cl
  intro e
  simp only [closC] at e
  refine rG (List.forIn_cons ..) ?_
  by_cases hk : (k == NameKind.free) = true
  ·rw [if_pos hk] at e
   simp only [hk, if_true]
   split at e
   ·rename_i a ha
    refine x0a2 (closC_ok e) fun h1 h2 => ?_
    refine ⟨?_, fun h => h2 fun n' a' hm => ?_⟩
    ·have : cellOf env n = pure a := by unfold cellOf; (refine rG ha ?_; rfl)
     refine rG this ?_
     simpa using h1
    ·rcases List.mem_cons.mp hm with q | q
     ·cases q; exact ha
     ·exact h _ _ q
   ·injection e
  ·rw [if_neg hk] at e
   refine x0a2 (closC_ok e) fun h1 h2 => ?_
   refine ⟨?_, h2⟩
   simp only [hk, Bool.false_eq_true, if_false]
   simpa using h1
theorem closL_ok {scope : Scope} {env : Env} (h : (closC env scope.names []).isSome = true) : closureFor scope env = pure (closL scope env) ∧ ∀ n a, (n, a) ∈ closL scope env → env.cells.lookup n = some a := by
 refine x1a1 (Option.isSome_iff_exists.mp h) fun cl e => ?_
 refine x0a2 (closC_ok e) fun h1 h2 => ?_
 unfold closL
 refine rG e ?_
 refine ⟨?_, h2 fun _ _ q => by contradiction⟩
 simp only [closureFor]
 exact (bind_pure _).trans h1
section
variable {c : Cx} {A : Around} {env : Env} {m cm : LM} {H : TM}
noncomputable abbrev CompS (c : Cx) (A : Around) (env : Env) (scope : Scope) (target elt : Expr) (I : List MV → List MV → TM → Prop) (Z : List MV → LM → LM → TM → Prop) : MV → LM → LM → TM → Prop := LoopS fun l m1 cm1 H1 => I l [] H1 ∧
   (∀ C m0 v rest acc H, I (v :: rest) acc H → ∃ m2, bindT (compEnvC scope (closL scope env) C env) m0 cm1 target v = some (m2, cm1) ∧
    W c A (compEnvC scope (closL scope env) C env) m2 cm1 H (eval elt (compEnvC scope (closL scope env) C env)) V (fun u _ cm2 H' => cm2 = cm1 ∧ acc.length < 1000000 ∧ I rest (acc ++ [u]) H')) ∧
   (∀ acc H, I [] acc H → Z acc m1 cm1 H)
theorem TM.upd_none {T : TM} {a b : Addr} {x : MObj} (h : (T.upd a x) b = none) : b ≠ a ∧ T b = none := by
 have n : b ≠ a := by rintro rfl; rw [TM.upd_self] at h; injection h
 exact ⟨n, by rw [TM.upd_ne n] at h; exact h⟩
theorem TM.dis_l {H K : TM} {a : Addr} {x : MObj} (d : H.dis K) (e : K a = some x) : H a = none := by
 rcases d a with q | q
 ·exact q
 ·rw [q] at e; injection e
theorem TM.none_of {S T : TM} {a : Addr} (k : S.le T) (e : T a = none) : S a = none := by
 cases q : S a with
 | none => rfl
 | some x => rw [k a x q] at e; cases e
theorem TM.le_new {S U : TM} {a : Addr} {x : MObj} (k : S.le U) (e : S a = none) : S.le (U.upd a x) := fun b y q => by
 refine rG (TM.upd_ne (TM.neS q e)) ?_; exact k b y q
theorem TM.le_up {S U : TM} {a : Addr} {x : MObj} (k : S.le U) : (S.upd a x).le (U.upd a x) := fun b y e => by
 by_cases hb : b = a
 ·subst hb; rw [TM.upd_self] at e ⊢; exact e
 ·rw [TM.upd_ne hb] at e ⊢; exact k b y e
theorem TM.del_ne {T : TM} {a b : Addr} (h : b ≠ a) : T.del a b = T b := by simp only [TM.del, h, if_false]
theorem TM.dis_new {H K : TM} {a : Addr} {x : MObj} (d : H.dis K) (e : H a = none) : H.dis (K.upd a x) := fun b => by
 by_cases hb : b = a
 ·subst hb; exact .inl e
 ·refine rG (TM.upd_ne hb) ?_; exact d b
theorem TM.dis_old {H K : TM} {a : Addr} {x : MObj} (d : H.dis (K.upd a x)) (e : K a = none) : H.dis K := fun b => by
 by_cases hb : b = a
 ·subst hb; exact .inr e
 ·have := d b; rw [TM.upd_ne hb] at this; exact this
theorem TM.del_back {T : TM} {it C D : Addr} {x : MObj} (hCD : C ≠ D) (hCit : C ≠ it) (hC : T C = some x) : (((T.del it).del C).del D).upd C x = (T.del it).del D := by
 funext b
 simp only [TM.upd, TM.del]
 by_cases hb : b = C
 ·subst hb; (refine rG (if_pos rfl) ?_; refine rG (if_neg hCD) ?_; refine rG (if_neg hCit) ?_); exact hC.symm
 ·simp only [hb, if_false]
theorem lay_comp {scope : Scope} {F : FM} {m1 cm1 : LM} {H1 K T1 K1 : TM} {it D C : Addr} {x y : MObj} (hkind : scope.kind = .function) (hsub : ∀ n a, (n, a) ∈ closL scope env → env.cells.lookup n = some a) (y1 : Lay F env m1 cm1 H1 K T1) (hK1 : K1.le T1) (hd1 : H1.dis K1)
  (hcells : ∀ n a, env.cells.lookup n = some a → isFz (cm1 n) = false → K1 a = some (.cell (cm1 n))) (hit : T1 it = none) (hD1 : T1 D = none) (hC1 : T1 C = none) (hCD : C ≠ D) (hCit : C ≠ it) :
  Lay F (compEnvC scope (closL scope env) C env) LM.nil cm1 H1 ((K1.upd it x).upd D y) (((T1.upd it x).upd D y).upd C (.ns LM.nil)) := by
 have kC := TM.none_of hK1 hC1
 have hHit := TM.none_of y1.hT hit
 have hHD := TM.none_of y1.hT hD1
 have hHC := TM.none_of y1.hT hC1
 have kne : ∀ {b : Addr} {z : MObj}, K1 b = some z → ((K1.upd it x).upd D y) b = some z := fun e => by (refine rG (TM.upd_ne (TM.neS e (TM.none_of hK1 hD1))) ?_; refine rG (TM.upd_ne (TM.neS e (TM.none_of hK1 hit))) ?_); exact e
 have kCC : ((K1.upd it x).upd D y) C = none := by (refine rG (TM.upd_ne hCD) ?_; refine rG (TM.upd_ne hCit) ?_); exact kC
 have kT : ((K1.upd it x).upd D y).le (((T1.upd it x).upd D y).upd C (.ns LM.nil)) := TM.le_new (TM.le_up (TM.le_up hK1)) kCC
 have hce : ∀ n b, (compEnvC scope (closL scope env) C env).cells.lookup n = some b → env.cells.lookup n = some b := fun n b e => hsub n b (mem_of_lookup e)
 exact
  {loc := TM.upd_self _ _ _
   cel := fun n b hb => (y1.cel n b (hce n b hb)).up (FM.le.refl F) fun hz _ => kT _ _ (kne (hcells n b (hce n b hb) hz))
   hT := TM.le_new (TM.le_new (TM.le_new y1.hT hHit) hHD) hHC
   kT := kT
   dis := TM.dis_new (TM.dis_new hd1 hHit) hHD
   hl := hHC
   kl := kCC
   own := fun n b hb hk => absurd hk.1 (by simp [compEnvC])
   fre := fun n b hb hk hz => kne (hcells n b (hce n b hb) hz)
   fn := by simp [compEnvC, relabel, hkind]
   gl := y1.gl
   bl := y1.bl }
inductive CLoop (c : Cx) (e : Env) (K1 : TM) (it D : Addr) (cm1 : LM) (I : List MV → List MV → TM → Prop) (F : FM) (n : Nat) (s : Shared) : Prop
 | mk (l acc : List MV) (H : TM) (F' : FM) (m' : LM) (k : F.le F') (hn : n = l.length) (hI : I l acc H) (r : RelE c e m' cm1 F' H ((K1.upd it (.iter l)).upd D (.plist acc)) s) : CLoop c e K1 it D cm1 I F n s
theorem comp_core {elt target iter : Expr} {scope : Scope} {pos : Pos} {use : Option (Value → Sem Unit)} {G : Value → Shared → Prop} {Z : List MV → LM → LM → TM → Prop} (I : List MV → List MV → TM → Prop) (hA : A.handled = none)
  (hcl : (closC env scope.names []).isSome = true) (hst : (scope.names.all fun x => x.2 != .cell && (x.2 != .local || scope.names.lookup x.1 == some .local)) = true) (hkind : scope.kind = .function)
  (h : W c A env m cm H (eval iter env) V (CompS c A env scope target elt I Z)) {F : FM} {K : TM} {s : Shared} (r : RelE c env m cm F H K s)
  (fin : ∀ F' m1 cm1 H' acc (C D : Addr) m' s', F.le F' → RelE c env m1 cm1 F' H' (K.upd C (.ns m')) s' → K C = none → VR F' (.lst acc) (.ref D) → Z acc m1 cm1 H' → compPost (model P c.w) A NoE use G (.ref D) C (.ok .next) s')
  (hs : ∀ x, foldedSetIterable iter env x = pure x := by intro _; rfl) :
  wpAny (model P c.w) A (comprehension (.ListComp elt [⟨target, iter, [], 0⟩] scope pos) scope env (firstIterPos [⟨target, iter, [], 0⟩] pos) (newList []) false (eval iter env) use) G NoE s := by
 refine x0a2 (closL_ok hcl) fun hclos hsub => ?_
 have hst' : ∀ x ∈ scope.names, x.2 ≠ .cell ∧ (x.2 = .local → scope.names.lookup x.1 = some .local) := fun x hx => by
  have := List.all_eq_true.mp hst x hx
  simp only [Bool.and_eq_true, Bool.or_eq_true, bne_iff_ne, beq_iff_eq] at this
  exact ⟨this.1, fun e => this.2.elim (fun q => absurd e q) (fun q => q)⟩
 refine wpAny_comprehension_free (use := use) rfl hs hclos hkind (fun x hx => (hst' x hx).2) (W.wp h r fun F1 v m1 cm1 H1 u s1 k1 rr v1 qq => ?_)
 obtain ⟨T1, r1, y1⟩ := rr
 obtain ⟨l, hl, hz, hI, hb, he⟩ := qq
 refine r1.iter v1 hl hz fun it s2 hit r2 => ?_
 refine x1a4 y1.toCall fun K1 hK1 hd1 back hcells => ?_
 refine wpAny_newObj_type ?_
 have r3 := r2.pushO (o := { cls := .type "list", data := .seq ([] : List Value).toArray }) (x := .plist []) ⟨#[], ⟨0, Heap.get?_push_size _ rfl⟩, VRs.nil⟩
 have hD2 := r2.fresh
 generalize hDD : s2.heap.objs.size = D at r3 hD2 ⊢
 refine x0a2 (TM.upd_none hD2) fun hDit hD1 => ?_
 refine wpAny_newFunctionEnv (fun x hx => (hst' x hx).1) (by intro y hy; simp at hy) (fun h₁ hns₁ hsb₁ => ?_) hkind
 have r4 := r3.pushO (o := { cls := .type "dict", data := .dict #[] }) (x := .ns LM.nil) ⟨_, Heap.Ns.new _ (.type "dict"), fun _ => rfl⟩
 have hC3 := r3.fresh
 dsimp only at hns₁ hsb₁ r4 hC3 ⊢
 generalize hCC : (s2.heap.push { cls := .type "list", data := .seq ([] : List Value).toArray }).objs.size = C at hns₁ hsb₁ r4 hC3 ⊢
 refine x0a2 (TM.upd_none hC3) fun hCD hC2 => ?_
 refine x0a2 (TM.upd_none hC2) fun hCit hC1 => ?_
 have r5 := r4.set (tk := s2.toks + ([] : List (Str × Value)).length) (y := .ns LM.nil) (TM.upd_self _ _ _) hsb₁ ⟨_, hns₁, fun _ => rfl⟩
 rw [TM.upd_upd] at r5
 dsimp only at r5
 have kit := TM.none_of hK1 hit
 have kD := TM.none_of hK1 hD1
 have kC := TM.none_of hK1 hC1
 have loop : codeAny (model P c.w) A (.compLoop (.ListComp elt [⟨target, iter, [], 0⟩] scope pos) 0 (.ref it) (.ref D) (compEnvC scope (closL scope env) C env))
   (compPost (model P c.w) A NoE use G (.ref D) C)
   ⟨h₁, s2.gens, s2.drawn, s2.toks + ([] : List (Str × Value)).length, s2.os⟩ := by
  refine codeAny_compLoop_any (c := c) (CLoop c (compEnvC scope (closL scope env) C env) K1 it D cm1 I F1) (fun n s hl => ?_) l.length ⟨l, [], H1, F1, LM.nil, FM.le.refl F1, rfl, hI, _, r5, lay_comp hkind hsub y1 hK1 hd1 hcells hit hD1 hC1 hCD hCit⟩
  obtain ⟨l, acc, H, F', m', kF, hn, hI, T, r, y⟩ := hl
  have hKit : ((K1.upd it (.iter l)).upd D (.plist acc)) it = some (.iter l) := by (refine rG (TM.upd_ne (Ne.symm hDit)) ?_; refine rG (TM.upd_self ..) ?_; rfl)
  have hTit : T it = some (.iter l) := y.kT _ _ hKit
  cases l with
  | nil =>
   refine r.stop hA hTit fun s' r' => ?_
   have hTD' : (T.del it) D = some (.plist acc) := (TM.del_ne hDit).trans (y.kT _ _ (TM.upd_self _ _ _))
   obtain ⟨_, ⟨vs, ⟨n', hp⟩, hvs⟩, _⟩ := r'.own _ _ hTD'
   refine x0a2 (r'.freeze hTD' hp) fun k7 r7 => ?_
   have kDn : (K1.upd it (.iter [])) D = none := by refine rG (TM.upd_ne hDit) ?_; exact kD
   have hK1' : K1.le T := ((TM.le_new (TM.le.refl K1) kit).trans (TM.le_new (TM.le.refl _) kDn)).trans y.kT
   have lay1 : Lay (F'.upd D { cls := .type "list", data := .seq vs n' }) env m1 cm1 H K (((T.del it).del C).del D) :=
    back _ _ _ (kF.trans k7) (TM.le_del_none (TM.le_del_none (TM.le_del_none y.hT (TM.dis_l y.dis hKit)) y.hl) (TM.dis_l y.dis (TM.upd_self _ _ _))) (TM.le_del_none (TM.le_del_none (TM.le_del_none hK1' kit) kC) kD) (TM.dis_old (TM.dis_old y.dis kDn) kit)
   have lay2 := lay1.newK (y := .ns m') (show (((T.del it).del C).del D) C = none by simp only [TM.del, hCD, if_false, if_true])
   rw [TM.del_back hCD hCit y.loc] at lay2
   exact fin _ m1 cm1 H acc C D m' s' (k1.trans (kF.trans k7)) ⟨_, r7, lay2⟩ (TM.none_of y1.kT hC1) (by simp only [VR]; exact ⟨D, _, vs, n', rfl, FM.upd_self _ _ _, rfl, rfl, hvs.mono k7⟩) (he acc H hI)
  | cons v rest =>
   refine r.next hTit fun u s' hu r' => ?_
   have y' := y.setK (y := .iter rest) hKit (fun v e => by injection e)
   refine r'.letGo (TM.upd_self _ _ _) ?_
   refine x1a2 (hb C m' v rest acc H hI) fun m2 hbt hw => ?_
   refine bindT_ok hA hbt ⟨_, r', y'⟩ hu fun s'' r'' => ?_
   refine W.wp hw r'' fun F3 w m3 cm3 H3 x s3 k3 rr v3 qq => ?_
   refine x0a3 qq fun e3 hlen hI3 => ?_
   subst e3
   obtain ⟨T3, r3, y3⟩ := rr
   have hKD : (((K1.upd it (.iter (v :: rest))).upd D (.plist acc)).upd it (.iter rest)) D = some (.plist acc) := by (refine rG (TM.upd_ne hDit) ?_; refine rG (TM.upd_self ..) ?_; rfl)
   have hTD3 : T3 D = some (.plist acc) := y3.kT _ _ hKD
   obtain ⟨_, ⟨vs, hp, hvs⟩, _⟩ := r3.own _ _ hTD3
   have hlv := hvs.len
   rw [Array.length_toList] at hlv
   refine wpAny_list_append_plain hp (fun h' hp' hs' => ?_) (by refine rG sizeLine_eq ?_; lia)
   refine ⟨rest.length, by refine rG hn ?_; exact Nat.lt_succ_self _, rest, acc ++ [w], H3, F3, m3, kF.trans k3, rfl, hI3, _,
    r3.set (tk := s3.toks) (y := .plist (acc ++ [w])) hTD3 hs' ⟨_, hp', by refine rG Array.toList_push ?_; exact hvs.append (.cons v3 VRs.nil)⟩, ?_⟩
   have y4 := y3.setK (y := .plist (acc ++ [w])) hKD (fun v e => by injection e)
   rw [TM.upd_comm hDit, TM.upd_upd, TM.upd_upd] at y4
   exact y4
 refine codeAny_compStart_list loop ?_
 refine x0a3 (r5.own it (.iter l) (by (refine rG (TM.upd_ne (Ne.symm hCit)) ?_; refine rG (TM.upd_ne (Ne.symm hDit)) ?_; refine rG (TM.upd_self ..) ?_; rfl))) fun _ hr _ => ?_
 have hself : wpAny (model P c.w) A (pyIter (.ref it)) (fun it' s' => it' = .ref it ∧ s' = ⟨h₁, s2.gens, s2.drawn, s2.toks + ([] : List (Str × Value)).length, s2.os⟩) NoE ⟨h₁, s2.gens, s2.drawn, s2.toks + ([] : List (Str × Value)).length, s2.os⟩ := by
  rcases hr with ⟨ax, o, its, n, i, hi, _⟩ | ⟨ax, o, its, n, i, hi, _⟩ | ⟨x, hi, _⟩ | ⟨x, t, i, hi, _⟩
  ·exact wpAny_pyIter_listiter hi ⟨rfl, rfl⟩
  ·exact wpAny_pyIter_tupleiter hi ⟨rfl, rfl⟩
  ·exact wpAny_pyIter_rangeiter hi ⟨rfl, rfl⟩
  ·exact wpAny_pyIter_striter_ascii hi ⟨rfl, rfl⟩
 exact wpAny_mono hself (fun it' s' hq => x0a2 hq fun e1 e2 => by subst e1; subst e2; exact loop) fun _ _ x => x.elim
theorem comp_end {C : Addr} {m' : LM} {F : FM} {K : TM} {s : Shared} (r : RelE c env m cm F H (K.upd C (.ns m')) s) (kC : K C = none) : ∃ mm, s.heap.Ns C mm ∧ ∀ h', Heap.SameBut C s.heap h' → RelE c env m cm F H K { s with heap := h' } := by
 obtain ⟨T, r, y⟩ := r
 have hC : T C = some (.ns m') := y.kT _ _ (TM.upd_self _ _ _)
 obtain ⟨_, ⟨mm, hmm, _⟩, _⟩ := r.own _ _ hC
 refine i1a2 mm hmm (fun h' hs' => ⟨_, r.but (tk := s.toks) hC hs'.extBut, ?_⟩)
 have y9 := y.delK (TM.upd_self _ _ _) (fun v e => by injection e)
 rw [TM.del_upd kC] at y9
 exact y9
noncomputable abbrev LsP (Q : MV → LM → LM → TM → Prop) : List MV → LM → LM → TM → Prop := fun acc => Q (.lst acc)
theorem W.comp {elt target iter : Expr} {scope : Scope} {pos : Pos} {Q : MV → LM → LM → TM → Prop} (I : List MV → List MV → TM → Prop) (hA : A.handled = none)
  (hcl : (closC env scope.names []).isSome = true) (hst : (scope.names.all fun x => x.2 != .cell && (x.2 != .local || scope.names.lookup x.1 == some .local)) = true) (hkind : scope.kind = .function)
  (h : W c A env m cm H (eval iter env) V (CompS c A env scope target elt I (LsP Q)))
  (hs : ∀ x, foldedSetIterable iter env x = pure x := by intro _; rfl) :
  W c A env m cm H (eval (.ListComp elt [⟨target, iter, [], 0⟩] scope pos) env) V Q := fun F K s r => by
 refine rG (eval_ListComp ..) ?_
 exact comp_core (use := none) I hA hcl hst hkind h r (fun F' m1 cm1 H' acc C D m' s' k r' kC hv hz => by
  refine x1a2 (comp_end r' kC) fun mm h1 h2 => ?_
  exact i1a2 mm h1 (fun h' hs' => ⟨F', .lst acc, m1, cm1, H', k, h2 h' hs', hv, hz⟩)) hs
end
end Mine
namespace Mine
section
variable {c : Cx} {A : Around} {env : Env} {m cm : LM} {H K T : TM} {F : FM} {s : Shared}
theorem Lay.fzCell (y : Lay F env m cm H K T) (r : Rel c F T s) {n : Str} {a : Addr} {v : MV} (ha : env.cells.lookup n = some a) (hk : ownC env n) (hv : cm n = some v) (hz : isFz (cm n) = false) :
  ∃ F', F.le F' ∧ Rel c F' (T.del a) s ∧ Lay F' env m (cm.set n (.fz v)) H K (T.del a) := by
 have hTa := (y.cel n a ha).own hz
 rw [hv] at hTa
 refine x0a4 (y.own n a ha hk hz) fun o1 o2 o3 o4 => ?_
 obtain ⟨_, ⟨v', ⟨o, ho, hd⟩, u, rfl, hu⟩, _⟩ := r.own _ _ hTa
 refine x0a2 (r.freeze hTa ho) fun k1 r1 => ?_
 refine i1a3 _ k1 r1 ?_
 have hne : ∀ {b : Addr}, b ≠ a → (T.del a) b = T b := fun h => by simp [TM.del, h]
 have eq1 : (cm.set n (.fz v)) n = some (.fz v) := by simp [LM.set]
 have eq2 : ∀ {n'}, n' ≠ n → (cm.set n (.fz v)) n' = cm n' := fun h => by simp [LM.set, h]
 exact
  {loc := by refine rG (hne (Ne.symm o3)) ?_; exact y.loc
   cel := fun n' b hb => by
    by_cases h : n' = n
    ·subst h
     rw [ha] at hb; (injection hb with hb; subst hb)
     refine rG eq1 ?_
     exact i2a3 o u (FM.upd_self _ _ _) hd (hu.mono k1)
    ·refine rG (eq2 h) ?_
     refine (y.cel n' b hb).up k1 fun _ q => ?_
     have : b ≠ a := by rintro rfl; exact h (o4 n' hb)
     refine rG (hne this) ?_; exact q
   hT := TM.le_del_none y.hT o1
   kT := TM.le_del_none y.kT o2
   dis := y.dis
   hl := y.hl
   kl := y.kl
   own := fun n' b hb hk' hz' => by
    by_cases h : n' = n
    ·subst h; rw [eq1] at hz'; injection hz'
    ·rw [eq2 h] at hz'; exact y.own n' b hb hk' hz'
   fre := fun n' b hb hk' hz' => by
    have h : n' ≠ n := by rintro rfl; exact hk' hk
    rw [eq2 h] at hz' ⊢; exact y.fre n' b hb hk' hz'
   fn := y.fn
   gl := y.gl
   bl := y.bl }
theorem W.fzCell {α β : Type} {t : Sem α} {R : FM → β → α → Prop} {Q : β → LM → LM → TM → Prop} (n : Str) (v : MV) (ha : (env.cells.lookup n).isSome = true) (hf : env.func.isSome = true) (hk : env.kindOf n = some .cell) (hv : cm n = some v) (hz : isFz (cm n) = false)
  (h : W c A env m (cm.set n (.fz v)) H t R Q) : W c A env m cm H t R Q := fun F K s ⟨T, r, y⟩ => by
 refine x1a1 (Option.isSome_iff_exists.mp ha) fun a ha => ?_
 refine x1a3 (y.fzCell r ha ⟨hf, hk⟩ hv hz) fun F' k1 r1 y1 => ?_
 exact W.go h k1 ⟨_, r1, y1⟩
theorem Lay.cellsF (y : Lay F env m cm H K T) : ∀ {cl : List (Str × Addr)} {vs : List MV}, (∀ n a, (n, a) ∈ cl → env.cells.lookup n = some a) → cl.map (fun x => cm x.1) = vs.map (fun v => some (.fz v)) → ∃ us, CellsF F (cl.map (·.1)) cl us ∧ VRs F vs us
 | [], [] => fun _ _ => ⟨[], ⟨rfl, rfl⟩, VRs.nil⟩
 | [], _ :: _ => by intro _ e; injection e
 | _ :: _, [] => by intro _ e; injection e
 | (n, a) :: cl, v :: vs => by
  intro h e
  simp only [List.map_cons, List.cons.injEq] at e
  refine x1a2 (y.cellsF (fun n a q => h n a (.tail _ q)) e.2) fun us h1 h2 => ?_
  have := y.cel n a (h n a (.head _))
  rw [e.1] at this
  refine x2a3 this fun o u g1 g2 g3 => ?_
  exact i1a2 (u :: us) ⟨a, o, u, cl, us, rfl, rfl, g1, g2, h1⟩ (.cons g3 h2)
theorem codeAmong_more {pos pos' : Pos} {x : Value} {cv : Value} (l : List Value) (h : TriplesOk l) (e : codeAmong pos' (l ++ [rawInt pos.line, rawInt pos.col, x]) = some cv) : codeAmong pos' l = some cv ∨ (cv = x ∧ pos'.line = pos.line ∧ pos'.col = pos.col) := by
 fun_induction TriplesOk l with
 | case1 =>
  simp only [List.nil_append, codeAmong, rawInt] at e
  split at e
  ·rename_i q
   simp only [Bool.and_eq_true, beq_iff_eq] at q
   (injection e with e; subst e)
   exact .inr ⟨rfl, by have := q.1; lia, by have := q.2; lia⟩
  ·injection e
 | case2 a t b u y rest ih =>
  simp only [List.cons_append, codeAmong] at e ⊢
  split at e
  ·rename_i q; refine rG (if_pos q) ?_; exact .inl e
  ·rename_i q; refine rG (if_neg q) ?_; exact ih h e
 | case3 l h1 h2 => exact h.elim
theorem Rel.growTab (R : Rel c F T s) {Pl : Addr} (hP : Pl ∈ growT) {ps : Array Value} {h' : Heap} {tk : Nat} {pos : Pos} {c' : Addr} {q : Str} (hps : s.heap.get? Pl = some { cls := .none, data := .fields ps }) (hto : TriplesOk ps.toList)
  (hx : Heap.ExtBut Pl s.heap h') (htab : h'.get? Pl = some { cls := .none, data := .fields (ps ++ #[rawInt pos.line, rawInt pos.col, .ref c']) }) (hc : h'.CodeRec (.ref c') q) (hge : s.heap.objs.size ≤ c') (hq : q = qn pos.line pos.col) :
  ∃ F', F.le F' ∧ Rel c F' T { s with heap := h', toks := tk } ∧ CodeF F' (.ref c') q := by
 obtain ⟨c2, oc, vs, t, e1, e2, e3, e4⟩ := hc
 (injection e1 with e1; subst e1)
 have hFc : F c' = none := by
  cases e : F c' with
  | none => rfl
  | some o => exact absurd (Heap.lt_size (R.fz _ _ e).1) (Nat.not_lt.mpr hge)
 have hTc : T c' = none := by
  cases e : T c' with
  | none => rfl
  | some o => exact absurd (R.lt e) (Nat.not_lt.mpr hge)
 have hgc : c' ∉ growT := fun h => absurd (R.grow_lt h) (Nat.not_lt.mpr (Nat.le_trans R.sz hge))
 have hk : ∀ b o, b ∉ growT → s.heap.get? b = some o → h'.get? b = some o := fun b o hb e => hx b o (by rintro rfl; exact hb hP) e
 have k1 : F.le (F.upd c' oc) := FM.le_upd hFc
 refine ⟨F.upd c' oc, k1, ?_, c', oc, vs, t, rfl, FM.upd_self _ _ _, e3, e4⟩
 obtain ⟨ps0, t0, ic, ta, hcd⟩ := R.tabs Pl hP
 have hps0 : ps0 = ps := by have := ta.2; rw [hps] at this; injection this with this; injection this with _ _ h3; injection h3 with h4; exact h4.symm
 subst hps0
 obtain ⟨⟨ocd, vcd, g1, g2, g3, g4⟩, _⟩ := ta
 have hne : growCd Pl ≠ Pl := by obtain ⟨_, _, _, _, _, _, _, _, _, _, _, _, _, _, _, _, _, _, _, _, hne⟩ := ic; exact hne
 have ta' : h'.TableAt (growCd Pl) Pl (ps0 ++ #[rawInt pos.line, rawInt pos.col, .ref c']) := ⟨⟨ocd, vcd, hx _ _ hne g1, g2, g3, g4⟩, htab⟩
 refine ⟨fun b o e => ?_, R.f0.trans k1, fun b x e => ?_, fun P2 hP2 => ?_, ?_, R.gens, R.os⟩
 ·by_cases hb : b = c'
  ·subst hb; rw [FM.upd_self] at e; cases e; exact ⟨e2, hgc⟩
  ·rw [FM.upd_ne hb] at e
   obtain ⟨u, v⟩ := R.fz b o e
   exact ⟨hk b o v u, v⟩
 ·obtain ⟨h1, h2, h3, h4⟩ := R.own b x e
  obtain ⟨o, ho⟩ := h2.here
  have hb : b ≠ c' := by first | exact TM.neS e hTc | exact (TM.neS e hTc).symm | (rintro rfl; rw [hTc] at e; cases e)
  exact ⟨by refine rG (FM.upd_ne hb) ?_; exact h1, h2.keep k1 ((hk b o h4 ho).trans ho.symm), h3, h4⟩
 ·by_cases hPP : P2 = Pl
  ·subst hPP
   refine i1a4 _ t0 ?_ ta' (fun pos' cv e => ?_)
   ·obtain ⟨o, vs, file, tf, flags, tg, inF, text, tt, op, a, r1, r2, r3, r4, r5, r6, b, r7, r8, r9⟩ := ic
    refine ⟨o, vs, file, tf, flags, tg, inF, text, tt, _, hx _ _ hne a, r1, r2, r3, r4, r5, r6, htab, rfl, ?_, r9⟩
    refine rG Array.toList_append ?_; exact TriplesOk_snoc _ _ _ _ hto
   ·rw [Array.toList_append] at e
    rcases codeAmong_more _ hto e with e | ⟨rfl, l1, l2⟩
    ·exact (hcd pos' cv e).mono k1
    ·(refine rG l1 ?_; refine rG l2 ?_; refine rL hq ?_); exact ⟨c', oc, vs, t, rfl, FM.upd_self _ _ _, e3, e4⟩
  ·obtain ⟨p2, u0, uc, ua, ucd⟩ := R.tabs P2 hP2
   have hcl : growCd P2 ≠ Pl := by
    rintro h
    obtain ⟨⟨o, v, a1, a2, _⟩, _⟩ := ua
    rw [h, hps] at a1; cases a1; cases a2
   exact i1a4 p2 u0 (uc.extBut hx hcl hPP) (ua.extBut hx hcl hPP) (fun pos' cv e => (ucd pos' cv e).mono k1)
 ·exact OldK.step_table R.old t0 ⟨⟨ocd, vcd, g1, g2, g3, g4⟩, hps⟩ ta' hx (by
   intro h
   have := R.grow_lt hP
   rw [h] at hP
   revert hP; decide)
theorem Rel.clo (R : Rel c F T s) {d : CloD} {cl : List (Str × Addr)} {doc pm code ct : Value} {h' : Heap} {tk : Nat} {us : List Value} {vs : List MV} (hh : s.heap = h')
  (hc : CodeF F code d.qual) (hcl : CellsF F (cl.map (·.1)) cl us) (hv : VRs F vs us) :
  ∃ F', F.le F' ∧ Rel c F' T { s with heap := h'.push { cls := .type "function", data := .func (d.fd cl doc pm code ct) }, toks := tk } ∧ VR F' (.clo d (cl.map (·.1)) vs) (.ref h'.objs.size) := by
 subst hh
 refine x0a2 (R.pushF (o := { cls := .type "function", data := .func (d.fd cl doc pm code ct) }) rfl) fun k2 r2 => ?_
 refine i1a3 _ k2 (r2.tok _) ?_
 simp only [VR]
 exact ⟨_, _, cl, us, doc, pm, code, ct, rfl, FM.upd_self _ _ _, rfl, rfl, hc.mono k2, hcl.mono k2, hv.mono k2⟩
theorem bmAt (R : Rel c F T s) {Pl : Addr} (hP : Pl ∈ growT) : s.heap.BuiltinsAt c.mg Pl := by
 refine x2a6 c.bm fun bm ob h1 h2 h3 h4 h5 h6 => ?_
 have hbP : bm ≠ Pl := by
  rintro rfl
  refine x1a2 (R.tabs _ hP) fun ps t0 _ => ?_
  have := t0.2
  rw [h3] at this; (injection this with this; subst this); injection h4
 have hbG : bm ≠ mainGlobals := by
  rintro rfl
  refine x3a3 c.g fun o es ep e hd _ => ?_
  rw [h3] at e; (injection e with e; subst e); rw [h6] at hd; injection hd
 have hbg : bm ∉ growT := by
  intro hb
  refine x1a2 (R.tabs _ hb) fun ps t0 _ => ?_
  have := t0.2
  rw [h3] at this; (injection this with this; subst this); injection h4
 exact ⟨bm, ob, h1, h2, hbG, hbP, (R.keep0 h3 hbg), h4, h5, h6⟩
theorem gP {Pl : Addr} (hP : Pl ∈ growT) : mainGlobals ≠ Pl := by rintro rfl; revert hP; decide
theorem W.def {name : Str} {params : Arguments} {body : List Stmt} {scope : Scope} {pos : Pos} {Q : MFlow → LM → LM → TM → Prop} (Pl : Addr) (d : CloD) (vs : List MV) (hP : Pl ∈ growT) (hcode : env.code = .ref (growCd Pl))
  (hd : d = { name := name, qual := qualnameIn env name name, params := params, body := .stmts body, scope := scope }) (hqn : d.qual = qn pos.line pos.col)
  (hd0 : params.defaults = []) (hk0 : params.kw_defaults = []) (ha : annTrees params none env = [])
  (hcl : (closC env scope.names []).isSome = true) (hvs : (closL scope env).map (fun x => cm x.1) = vs.map (fun v => some (.fz v)))
  (h : Bnd (storeTo env m cm name (.clo d ((closL scope env).map (·.1)) vs)) fun m1 cm1 => Q .next m1 cm1 H) :
  W c A env m cm H (exec (.FunctionDef name params body [] none [] scope none name pos) env) Fl Q := fun F K s ⟨T, r, y⟩ => by
 obtain ⟨m1, cm1, hst, q⟩ := h
 refine x0a2 (closL_ok hcl) fun hclos hsub => ?_
 refine x1a2 (y.cellsF hsub hvs) fun us hc1 hc2 => ?_
 refine x1a4 (r.tabs Pl hP) fun ps t0 ic ta hcd => ?_
 have hto : TriplesOk ps.toList := by
  obtain ⟨o, vs, file, tf, flags, tg, inF, text, tt, op, a, r1, r2, r3, r4, r5, r6, b, r7, r8, r9⟩ := ic
  have := ta.2; rw [b] at this; cases this; cases r7; exact r8
 have hC : CodeHd s.heap (growCd Pl) Pl := CodeHd.of ic ta
 have fin : ∀ {F' : FM} {s' : Shared} {v : Value}, F.le F' → Rel c F' T s' → VR F' (.clo d ((closL scope env).map (·.1)) vs) v → wpAny (model P c.w) A (storeName env name v) (fun _ s'' => Post c env K F Fl Q .next s'') NoE s' := fun {F' s' v} k r' hv =>
  store_ok hst ⟨T, r', y.up k⟩ hv fun s'' r'' => ⟨F', .next, m1, cm1, H, k, r'', rfl, q⟩
 refine nestDef_K hd0 hk0 ha ?_
 cases hca : codeAmong pos ps.toList with
 | none =>
  refine makeFunction_K hclos y.gl r.g hcode hC ta.2 hto hca (gP hP) (bmAt r hP) fun c' ctv doc h' tk hx hge hlt hrec htb => ?_
  obtain ⟨F1, k1, r1, hcf⟩ := r.growTab (tk := tk) hP ta.2 hto hx htb hrec hge (by (refine rL hqn ?_; refine rG hd ?_; rfl))
  obtain ⟨F2, k2, r2, hv⟩ := r1.clo (d := d) (cl := closL scope env) (doc := doc) (pm := (c.mg "__name__").getD .none) (code := .ref c') (ct := ctv) (tk := tk) rfl (by refine rG hd ?_; exact hcf) (hc1.mono k1) (hc2.mono k1)
  refine fin (k1.trans k2) ?_ hv
  rw [hd] at r2; exact r2
 | some cv =>
  have hcf := hcd pos cv hca
  refine makeFunction_hit hclos y.gl r.g hcode hC ta.2 hto hca (bmAt r hP) fun ctv doc h' tk hk hsz => ?_
  have r1 := r.ext (tk := tk) hk
  obtain ⟨F2, k2, r2, hv⟩ := r1.clo (d := d) (cl := closL scope env) (doc := doc) (pm := (c.mg "__name__").getD .none) (code := cv) (ct := ctv) (tk := tk) rfl (by refine rG hqn ?_; exact hcf) hc1 hc2
  refine fin k2 ?_ hv
  rw [hd] at r2; exact r2
theorem W.lam {params : Arguments} {body : Expr} {scope : Scope} {pos : Pos} {Q : MV → LM → LM → TM → Prop} (Pl : Addr) (d : CloD) (vs : List MV) (hP : Pl ∈ growT) (hcode : env.code = .ref (growCd Pl))
  (hd : d = { name := "<lambda>", qual := env.qual ++ "<lambda>", params := params, body := .expr body, scope := scope }) (hqn : d.qual = qn pos.line pos.col)
  (hdef : defaultsOf params env = ([], []))
  (hcl : (closC env scope.names []).isSome = true) (hvs : (closL scope env).map (fun x => cm x.1) = vs.map (fun v => some (.fz v)))
  (h : Q (.clo d ((closL scope env).map (·.1)) vs) m cm H) :
  W c A env m cm H (eval (.Lambda params body scope pos) env) V Q := fun F K s ⟨T, r, y⟩ => by
 refine x0a2 (closL_ok hcl) fun hclos hsub => ?_
 refine x1a2 (y.cellsF hsub hvs) fun us hc1 hc2 => ?_
 refine x1a4 (r.tabs Pl hP) fun ps t0 ic ta hcd => ?_
 have hto : TriplesOk ps.toList := by
  obtain ⟨o, vs, file, tf, flags, tg, inF, text, tt, op, a, r1, r2, r3, r4, r5, r6, b, r7, r8, r9⟩ := ic
  have := ta.2; rw [b] at this; cases this; cases r7; exact r8
 have hC : CodeHd s.heap (growCd Pl) Pl := CodeHd.of ic ta
 refine kla_eval hdef ?_
 cases hca : codeAmong pos ps.toList with
 | none =>
  refine kla_makeFunction hclos y.gl r.g hcode hC ta.2 hto hca (gP hP) (bmAt r hP) fun c' ctv h' tk hx hge hlt hrec htb => ?_
  obtain ⟨F1, k1, r1, hcf⟩ := r.growTab (tk := tk) hP ta.2 hto hx htb hrec hge (by (refine rL hqn ?_; refine rG hd ?_; rfl))
  obtain ⟨F2, k2, r2, hv⟩ := r1.clo (d := d) (cl := closL scope env) (doc := .none) (pm := (c.mg "__name__").getD .none) (code := .ref c') (ct := ctv) (tk := tk) rfl (by refine rG hd ?_; exact hcf) (hc1.mono k1) (hc2.mono k1)
  refine ⟨F2, _, m, cm, H, k1.trans k2, ⟨T, ?_, y.up (k1.trans k2)⟩, hv, h⟩
  rw [hd] at r2; exact r2
 | some cv =>
  have hcf := hcd pos cv hca
  refine kla_makeFunctionHit hclos y.gl r.g hcode hC ta.2 hto hca (bmAt r hP) fun ctv h' tk hk hsz => ?_
  have r1 := r.ext (tk := tk) hk
  obtain ⟨F2, k2, r2, hv⟩ := r1.clo (d := d) (cl := closL scope env) (doc := .none) (pm := (c.mg "__name__").getD .none) (code := cv) (ct := ctv) (tk := tk) rfl (by refine rG hqn ?_; exact hcf) hc1 hc2
  refine ⟨F2, _, m, cm, H, k2, ⟨T, ?_, y.up k2⟩, hv, h⟩
  rw [hd] at r2; exact r2
end
end Mine
namespace Mine
section
variable {c : Cx} {A : Around} {env : Env} {m cm : LM} {H : TM}
theorem W.testNot {x : Expr} {pos : Pos} {whole : Sem Value} {Z : Bool → LM → LM → TM → Prop} (h : W c A env m cm H (isTrue x env (eval x env)) Bo (NotP Z)) :
  W c A env m cm H (isTrue (.UnaryOp .Not x pos) env whole) Bo Z := fun F K s r =>
 wpAny_isTrue_Not (W.wp h r fun F1 b' m1 cm1 H1 b s1 k1 r1 v1 q1 => by
  have v1 : b = b' := v1
  subst v1
  exact ⟨F1, !b, m1, cm1, H1, k1, r1, rfl, q1⟩)
theorem W.allNil {op : BoolOp} {Z : Bool → LM → LM → TM → Prop} (h : Z (op == .And) m cm H) : W c A env m cm H (allTrue op [] env) Bo Z := fun F K s r => by
 cases op
 ·exact wpAny_allTrue_And_nil ⟨F, _, m, cm, H, FM.le.refl F, r, rfl, h⟩
 ·exact wpAny_allTrue_Or_nil ⟨F, _, m, cm, H, FM.le.refl F, r, rfl, h⟩
theorem W.allAnd {x : Expr} {rest : List Expr} {Z : Bool → LM → LM → TM → Prop} (h : W c A env m cm H (isTrue x env (eval x env)) Bo (AndP c A env rest Z)) :
  W c A env m cm H (allTrue .And (x :: rest) env) Bo Z := fun F K s r =>
 wpAny_allTrue_And_cons (W.wp h r fun F1 b' m1 cm1 H1 b s1 k1 r1 v1 q1 => by
  have v1 : b = b' := v1
  subst v1
  cases b
  ·exact ⟨F1, false, m1, cm1, H1, k1, r1, rfl, q1⟩
  ·exact W.go q1 k1 r1)
theorem W.allOr {x : Expr} {rest : List Expr} {Z : Bool → LM → LM → TM → Prop} (h : W c A env m cm H (isTrue x env (eval x env)) Bo (OrP c A env rest Z)) :
  W c A env m cm H (allTrue .Or (x :: rest) env) Bo Z := fun F K s r =>
 wpAny_allTrue_Or_cons (W.wp h r fun F1 b' m1 cm1 H1 b s1 k1 r1 v1 q1 => by
  have v1 : b = b' := v1
  subst v1
  cases b
  ·exact W.go q1 k1 r1
  ·exact ⟨F1, true, m1, cm1, H1, k1, r1, rfl, q1⟩)
theorem W.testBool {op : BoolOp} {es : List Expr} {pos : Pos} {whole : Sem Value} {Z : Bool → LM → LM → TM → Prop} (h : W c A env m cm H (allTrue op es env) Bo Z) : W c A env m cm H (isTrue (.BoolOp op es pos) env whole) Bo Z := fun F K s r =>
 wpAny_isTrue_BoolOp (h F K s r)
inductive LstO (Z : Bool → LM → LM → TM → Prop) (v : MV) (m cm : LM) (H : TM) : Prop
 | mk (a : Addr) (x : MObj) (l : List MV) (e : v = .raw (.ref a)) (ha : H a = some x) (hx : IsLst x l) (hl : l.length < 1000000) (hq : Z (!l.isEmpty) m cm H) : LstO Z v m cm H
inductive OrS (v : MV) (q1 q2 : Prop) : Prop
 | mk (b : Bool) (e : isTrueV v = some b) (h1 : b = true → q1) (h2 : b = false → q2) : OrS v q1 q2
inductive SetA (p : Params) (attr : Str) (Q : MFlow → LM → LM → TM → Prop) (v ov : MV) (m cm : LM) (H : TM) : Prop
 | mk (a C d : Addr) (l : List (Str × MV)) (e : ov = .raw (.ref a)) (ha : H a = some (.exact (instObj C d))) (hd : H d = some (.attrs l)) (hs : storable (Ks p) C attr = true) (hl : l.length ≤ 100) (hq : Q .next m cm (H.upd d (.attrs (setL l attr v)))) : SetA p attr Q v ov m cm H
inductive SubO (Q : MV → LM → LM → TM → Prop) (v k : MV) (m cm : LM) (H : TM) : Prop
 | mk (a : Addr) (o : Own) (z : MV) (C : List Prop) (e : v = .raw (.ref a)) (ho : Own.at H a o) (hz : ownSub o k = some (z, C)) (hC : AllP C) (hq : Q z m cm H) : SubO Q v k m cm H
inductive LastO (Q : MV → LM → LM → TM → Prop) (v k : MV) (m cm : LM) (H : TM) : Prop
 | mk (a : Addr) (x : MObj) (l : List MV) (z : MV) (e : v = .raw (.ref a)) (ek : k = .int (-1)) (ha : H a = some x) (hx : IsLst x (l ++ [z])) (hl : l.length < 1000000) (hq : Q z m cm H) : LastO Q v k m cm H
inductive AddO (Q : MV → LM → LM → TM → Prop) (v b : MV) (m cm : LM) (H : TM) : Prop
 | mk (a : Addr) (x : MObj) (L R : List MV) (e : v = .raw (.ref a)) (ha : H a = some x) (hx : IsLst x L) (eb : b = .lst R) (hl : L.length + R.length < 1000000) (hq : Q (.lst (L ++ R)) m cm H) : AddO Q v b m cm H
inductive EqO (Q : MV → LM → LM → TM → Prop) (v b : MV) (m cm : LM) (H : TM) : Prop
 | mk (a : Addr) (x : MObj) (L : List MV) (d : List PyData) (e : PyData) (ev : v = .raw (.ref a)) (ha : H a = some x) (hx : IsLst x L) (hd : datAll L = some d) (he : b.dat = some e) (h1 : SeqAt.shaped (.list d) = true) (h2 : SeqAt.shaped e = true) (hq : Q (.bool (PyData.eqv (.list d) e)) m cm H) : EqO Q v b m cm H
theorem W.testLst {t : Expr} {Z : Bool → LM → LM → TM → Prop} (hp : plainTest t = true)
  (h : W c A env m cm H (eval t env) V (LstO Z)) : W c A env m cm H (isTrue t env (eval t env)) Bo Z := fun F K s r => by
 refine rG (plain_true hp) ?_
 refine wpAny_bind (W.wp h r fun F1 b m1 cm1 H1 v s1 k1 r1 v1 qq => wpAny_bind (wpAny_standAt (wpAny_holding ?_)))
 obtain ⟨a, x, l, e, ha, hx, hl, q⟩ := qq
 subst e
 simp only [V, VR] at v1
 subst v1
 refine x1a2 (hx.get (r1.rep ha)) fun vs hL hv => ?_
 have hlen := hv.len
 rw [Array.length_toList] at hlen
 have he : vs.isEmpty = l.isEmpty := by
  (rewrite [Bool.eq_iff_iff]; rewrite [Array.isEmpty_iff_size_eq_zero]; rewrite [List.isEmpty_iff_length_eq_zero]; refine rG hlen ?_; rfl)
 exact wpAny_truthy_list hL (by lia) ⟨F1, _, m1, cm1, H1, k1, r1.tok _, by (refine rG he ?_; rfl), q⟩
variable {Q : MV → LM → LM → TM → Prop}
noncomputable abbrev OrSP (c : Cx) (A : Around) (env : Env) (e : Expr) (Q : MV → LM → LM → TM → Prop) : MV → LM → LM → TM → Prop := fun v m cm H => OrS v (Q v m cm H) (W c A env m cm H (eval e env) V Q)
theorem W.orV {e₁ e₂ : Expr} {rest : List Expr} {pos : Pos} (h : W c A env m cm H (eval e₁ env) V (OrSP c A env (.BoolOp .Or (e₂ :: rest) pos) Q)) :
  W c A env m cm H (eval (.BoolOp .Or (e₁ :: e₂ :: rest) pos) env) V Q := fun F K s r =>
 PyProof.Rows.BoolOp_or (W.wp h r fun F1 b m1 cm1 H1 v s1 k1 rr v1 qq => by
   obtain ⟨T, r1, y⟩ := rr
   obtain ⟨z, e, q1, q2⟩ := qq
   exact PostN.wp (pu_truth e v1 T s1 r1) fun F2 cc s2 k2 r2 v2 => by
     have v2 : cc = z := v2
     subst v2
     cases cc
     ·exact W.go (q2 rfl) (k1.trans k2) ⟨T, r2, y.up k2⟩
     ·exact ⟨F2, b, m1, cm1, H1, k1.trans k2, ⟨T, r2, y.up k2⟩, VR.mono k2 _ v1, q1 rfl⟩)
theorem W.setAttr {o value : Expr} {attr : Str} {p pos : Pos} {Q : MFlow → LM → LM → TM → Prop}
  (h : W c A env m cm H (eval value env) V (EvP c A env o (SetA c.w.params attr Q)))
  (hs : swapsWith value (some (.Attribute o attr p)) pos.line env = pure false := by rfl) :
  W c A env m cm H (exec (.Assign [.Attribute o attr p] value pos) env) Fl Q := fun F K s r =>
 plainObj_wpAny_Assign_Attribute (W.wp h r fun F1 b1 m1 cm1 H1 v s1 k1 r1 v1 q1 =>
  W.wp q1 r1 fun F2 b2 m2 cm2 H2 ov s2 k2 r2 v2 qq => by
   obtain ⟨a, C, d, l, e, ha, hd, hst, hl, q2⟩ := qq
   subst e
   simp only [V, VR] at v2
   subst v2
   have hx : s2.heap.get? a = some (instObj C d) := r2.rep ha
   exact setA r2.kin hx (r2.rep hd) hst (VR.mono k2 _ v1) hl fun h' tk hs' hr' => ⟨F2, .next, m2, cm2, _, k1.trans k2, r2.set hd hs' hr', rfl, q2⟩) hs
theorem W.subO {value slice : Expr} {pos : Pos} (hs : notSlice slice = true)
  (h : W c A env m cm H (eval value env) V (EvP c A env slice (SubO Q))) :
  W c A env m cm H (eval (.Subscript value slice pos) env) V Q := fun F K s r =>
 PyProof.Rows.Subscript_ (W.wp h r fun F1 x m1 cm1 H1 v s1 k1 r1 v1 q1 =>
  W.wp q1 r1 fun F2 y m2 cm2 H2 b s2 k2 rr v2 qq => by
   obtain ⟨T, r2, l2⟩ := rr
   obtain ⟨a, o, z, C, e, ho, hz, hC, q2⟩ := qq
   subst e
   simp only [V, VR] at v1
   subst v1
   exact PostN.wp (own_sub hz hC v2 hs r2 (Own.up l2.hT ho)) fun F3 u s3 k3 r3 v3 => ⟨F3, z, m2, cm2, H2, k1.trans (k2.trans k3), ⟨T, r3, l2.up k3⟩, v3, q2⟩)
theorem W.lastO {value slice : Expr} {pos : Pos} (hs : notSlice slice = true)
  (h : W c A env m cm H (eval value env) V (EvP c A env slice (LastO Q))) :
  W c A env m cm H (eval (.Subscript value slice pos) env) V Q := fun F K s r =>
 PyProof.Rows.Subscript_ (W.wp h r fun F1 x m1 cm1 H1 v s1 k1 r1 v1 q1 =>
  W.wp q1 r1 fun F2 y m2 cm2 H2 b s2 k2 r2 v2 qq => by
   obtain ⟨a, x, l, z, e, ek, ha, hx, hl, q2⟩ := qq
   subst e ek
   simp only [V, VR] at v1 v2
   subst v1
   (refine x1a1 v2 fun t e91 => ?_; subst e91)
   refine x1a2 (hx.get (r2.rep ha)) fun vs hL hv => ?_
   have hlen := hv.len
   rw [Array.length_toList, List.length_append, List.length_singleton] at hlen
   refine x1a2 (hv.get (i := l.length) (m := z) (by simp)) fun u hu hz => ?_
   have hsub : ∀ o i, subscripted slice false o i = operate [o, i] (getItem o i) := fun o i => by cases slice <;> first | rfl | injection hs
   refine PyProof.Rows.tail_any hL.typeIs slot_list_getitem.lookup (wpAny_getItem_list_neg hL (by decide) (by lia) (by decide) ?_ ⟨F2, z, m2, cm2, H2, k1.trans k2, r2, hz, q2⟩) (hsub _ _)
   have : (-1 + (vs.size : Int)).toNat = l.length := by lia
   refine rG this ?_; simpa using hu)
theorem W.addO {l r : Expr} {pos : Pos}
  (h : W c A env m cm H (eval l env) V (EvP c A env r (AddO Q))) :
  W c A env m cm H (eval (.BinOp l .Add r pos) env) V Q := fun F K s r0 =>
 wpAny_BinOp (W.wp h r0 fun F1 x m1 cm1 H1 v s1 k1 r1 v1 q1 =>
  W.wp q1 r1 fun F2 y m2 cm2 H2 b s2 k2 r2 v2 qq => by
   obtain ⟨a, x, L, R, e, ha, hx, eb, hl, q2⟩ := qq
   subst e eb
   simp only [V, VR] at v1 v2
   subst v1
   obtain ⟨vs1, ⟨⟨c1, d1, dt1, sl1⟩, f1, g1, n1, g2⟩, hv1⟩ := hx.get (r2.rep ha)
   obtain ⟨x2, ⟨c2, d2, dt2, sl2⟩, vs2, n2, rfl, e2, w1, w2, w3⟩ := v2
   dsimp only at g1 g2 w1 w2
   subst g1 g2 w1 w2
   have hl1 := hv1.len
   have hl2 := w3.len
   rw [Array.length_toList] at hl1 hl2
   have f2 := r2.fz e2
   refine concat_meets ⟨_, f1, rfl⟩ ⟨_, f2, rfl⟩ noFill_list_add seq_list_add PySem.F.slot_list_add PySem.F.entry_list_add (PySem.F.args_list_add_2 _ _) (list_addW a x2 vs1 vs2 n1 n2 d1 d2 sl1 sl2 (by refine rG sizeLine_eq ?_; lia)) ⟨f1, f2, ?_⟩
   refine x0a2 (r2.pushF (o := { cls := .type "list", data := .seq (vs1 ++ vs2) }) rfl) fun k3 r3 => ?_
   refine ⟨_, _, m2, cm2, H2, k1.trans (k2.trans k3), r3, ?_, q2⟩
   simp only [V, VR]
   exact ⟨_, _, _, _, rfl, FM.upd_self _ _ _, rfl, rfl, by refine rG Array.toList_append ?_; exact (hv1.append w3).mono k3⟩)
theorem W.eqO {l r : Expr} {pos : Pos} (hu : Rm A) (hm : behindInMarks .Eq r = false)
  (h : W c A env m cm H (eval l env) V (EvP c A env r (EqO Q))) :
  W c A env m cm H (eval (.Compare l [.Eq] [r] pos) env) V Q := fun F K s r0 =>
 wpAny_Compare1 (W.wp h r0 fun F1 x m1 cm1 H1 v s1 k1 r1 v1 q1 =>
  W.wp q1 r1 fun F2 y m2 cm2 H2 b s2 k2 r2 v2 qq => by
   obtain ⟨a, x, L, d, e, ev, ha, hx, hd, he, h1, h2, q2⟩ := qq
   subst ev
   simp only [V, VR] at v1
   subst v1
   obtain ⟨vs, ⟨o', g1, g2, n, g3⟩, g4⟩ := hx.get (r2.rep ha)
   refine x1a1 (readsAll_of (h := s2.heap) (fun a o e => r2.fz e) _ g4 hd) fun as ra => ?_
   refine x1a1 (reads_of (h := s2.heap) (fun a o e => r2.fz e) _ v2 he) fun bs rb => ?_
   exact eq_dataH (.list g1 g2 g3 ra) rb h1 h2 (by have := hu.2; lia) ⟨F2, _, m2, cm2, H2, k1.trans k2, r2, vr_bool, q2⟩) hm
theorem CallP.lenO {a : Addr} {x : MObj} {l : List MV} (ha : H a = some x) (hx : IsLst x l) (hl : l.length < 1000000) (q : Q (.int l.length) m cm H) : CallP c A env (.raw (.builtin "len")) [.raw (.ref a)] m cm H Q := fun F K s fv vals r hf hv => by
 simp only [VR] at hf
 subst hf
 (refine x2a3 hv.uncons fun y rest e92 h1 h2 => ?_; subst e92)
 simp only [VR] at h1
 simp only [VRs] at h2
 subst h1 h2
 refine x1a2 (hx.get (r.rep ha)) fun vs hL hvs => ?_
 have hlen := hvs.len
 rw [Array.length_toList] at hlen
 exact call_len_list hL (by lia) ⟨F, _, m, cm, H, FM.le.refl F, r.tok _, by refine rG hlen ?_; exact vr_int, q⟩
theorem MethG.pop {a : Addr} {l : List MV} (hi : H a = some (.plist l)) : MethG c A env m cm H (.raw (.ref a)) "pop" (.builtin "list.pop") := fun F K s v pl G ⟨T, r, y⟩ hv g => by
 simp only [VR] at hv
 subst hv
 obtain ⟨_, ⟨vs, ⟨n, hx⟩, _⟩, _⟩ := r.own _ _ (y.hT _ _ hi)
 exact Copied.getMethod_pop_at hx rfl rfl g
theorem VRs.eraseIdx {F : FM} : ∀ {l : List MV} {vs : List Value} (i : Nat), VRs F l vs → VRs F (l.eraseIdx i) (vs.eraseIdx i)
 | [], _, _ => by intro h; simp only [VRs] at h; subst h; exact VRs.nil
 | m :: l, _, 0 => by intro h; (refine x2a3 h.uncons fun v r e92 h1 h2 => ?_; subst e92); exact h2
 | m :: l, _, i + 1 => by intro h; (refine x2a3 h.uncons fun v r e92 h1 h2 => ?_; subst e92); exact .cons h1 (h2.eraseIdx i)
theorem CallP.pop {a : Addr} {l : List MV} {i : Int} (hi : H a = some (.plist l)) (h0 : 0 ≤ i) (h1 : i < l.length) (hl : l.length < 1000000) (q : Q (l.getD i.toNat .none) m cm (H.upd a (.plist (l.eraseIdx i.toNat)))) :
  CallP c A env (.raw (.builtin "list.pop")) [.raw (.ref a), .int i] m cm H Q := fun F K s fv vals r hf hv => by
 simp only [VR] at hf
 subst hf
 (refine x2a3 hv.uncons fun x rest e92 g1 g2 => ?_; subst e92)
 simp only [VR] at g1
 subst g1
 (refine x2a3 g2.uncons fun u rest2 e92 g3 g4 => ?_; subst e92)
 simp only [VR] at g3
 simp only [VRs] at g4
 (refine x1a1 g3 fun t e91 => ?_; subst e91)
 subst g4
 obtain ⟨vs, ⟨n, hp⟩, hvs⟩ := r.rep hi
 have hlen := hvs.len
 rw [Array.length_toList] at hlen
 (refine x1a2 (hvs.get (i := i.toNat) (m := l.getD i.toNat .none) (by (refine rG List.getD_eq_getElem?_getD ?_; refine rG (List.getElem?_eq_getElem (by lia)) ?_); rfl)) fun y hy hyv => ?_)
 have hk : seqIndex? i vs.size = some i.toNat := by
  unfold seqIndex?
  have hj : (if i < 0 then i + (vs.size : Int) else i) = i := if_neg (by lia)
  simp only [hj]
  exact if_pos (by simp only [Bool.and_eq_true, decide_eq_true_eq]; lia)
 have hit : i.toNat < vs.size := by lia
 refine call_meets PySem.F.slot_list_pop ⟨_, hp, rfl⟩ PySem.F.entry_list_pop (PySem.F.args_list_pop_2 _ _) (PySem.MeetsSeq.list_pop_at a vs n i t i.toNat y (by simp [Builtin.List.listFitsIndex]; lia) hk (by simpa using hy) (by refine rG sizeLine_eq ?_; lia)) ⟨hp, ?_⟩
 refine ⟨F, _, m, cm, _, FM.le.refl F, r.set (tk := s.toks) (y := .plist (l.eraseIdx i.toNat)) hi (Heap.SameBut.update ..) ⟨vs.eraseIdxIfInBounds i.toNat, ?_, ?_⟩, hyv, q⟩
 ·refine x1a1 (Obj.data_mapSeq (o := { cls := .type "list", data := .seq vs n }) rfl (fun xs => xs.eraseIdxIfInBounds i.toNat)) fun n' hd' => ?_
  refine ⟨n', ?_⟩
  refine rG (Heap.get?_update_self _ hp (Obj.isFreed_of_seq hd')) ?_
  congr 1
  simp [Obj.mapSeq] at hd' ⊢
  exact hd'
 ·have : (vs.eraseIdxIfInBounds i.toNat).toList = vs.toList.eraseIdx i.toNat := by
   (rewrite [Array.eraseIdxIfInBounds]; refine rG (dif_pos hit) ?_); simp
  refine rG this ?_; exact hvs.eraseIdx _
theorem W.attrW {o : Expr} {a : Str} {pos : Pos} (hb : attributeBase o a env (eval o env) = eval o env)
  (h : W c A env m cm H (eval o env) V (fun v m1 cm1 H1 => (∃ z, attrV c.w.params a v = some z ∧ Q z m1 cm1 H1) ∨ (∃ ad ow z, v = .raw (.ref ad) ∧ Own.at H1 ad ow ∧ ownAttr c.w.params a ow = some z ∧ Q z m1 cm1 H1))) :
  W c A env m cm H (eval (.Attribute o a pos) env) V Q := fun F K s r => by
 (refine rG (arm_eval_Attribute ..) ?_; refine rG hb ?_)
 refine wpAny_bind (W.wp h r fun F1 b m1 cm1 H1 v s1 k1 rr v1 q => wpAny_bind (wpAny_standAt (wpAny_bind (wpAny_holding ?_))))
 obtain ⟨T, r1, y⟩ := rr
 rcases q with ⟨z, e, q⟩ | ⟨ad, ow, z, rfl, ho, e, q⟩
 ·exact PostN.wp (attr_frozen e v1 r1) fun F3 a s' k3 r3 v3 => wpAny_bind (wpAny_letTemporaryGo (wpAny_pure ⟨F3, z, m1, cm1, H1, k1.trans k3, ⟨T, r3, y.up k3⟩, v3, q⟩))
 ·simp only [V, VR] at v1
  subst v1
  exact PostN.wp (attr_own e r1 (Own.up y.hT ho)) fun F3 a s' k3 r3 v3 => wpAny_bind (wpAny_letTemporaryGo (wpAny_pure ⟨F3, z, m1, cm1, H1, k1.trans k3, ⟨T, r3, y.up k3⟩, v3, q⟩))
theorem W.dictE {pos : Pos} (q : ∀ a, H a = none → Q (.raw (.ref a)) m cm (H.upd a (.idict []))) : W c A env m cm H (eval (.Dict [] [] pos) env) V Q := fun F K s r => by
 refine wpAny_Dict_empty ?_
 refine x0a2 (r.pushO (o := { cls := .type "dict", data := .dict #[] }) (x := .idict []) ⟨[], Heap.DictOf.new _, rfl⟩) fun h0 r2 => ?_
 exact ⟨F, _, m, cm, _, FM.le.refl F, r2, vr_raw, q _ h0⟩
end
end Mine
namespace Mine
open Builtin.Str
section
variable {c : Cx} {A : Around} {env : Env} {m cm : LM} {H : TM} {Q : MV → LM → LM → TM → Prop}
theorem W.testChain2 {l r1 r2 : Expr} {op1 op2 : CmpOp} {pos : Pos} {Z : Bool → LM → LM → TM → Prop} (hu : Rm A) {whole : Sem Value}
  (h : W c A env m cm H (eval l env) V fun a m1 cm1 H1 => W c A env m1 cm1 H1 (eval r1 env) V fun b m2 cm2 H2 => Op (cmpV op1 a b) (fun z m2 cm2 H2 => (z = false → Z false m2 cm2 H2) ∧
   (z = true → W c A env m2 cm2 H2 (eval r2 env) V (CmpP op2 Z b))) m2 cm2 H2)
  (hm : markedEach [op1, op2] [r1, r2] (evalEach [r1, r2] env) = [eval r1 env, eval r2 env] := by rfl) :
  W c A env m cm H (isTrue (.Compare l [op1, op2] [r1, r2] pos) env whole) Bo Z := fun F K s r0 => by
 (refine rG (arm_isTrue_Compare ..) ?_; refine rG hm ?_)
 refine wpAny_bind (W.wp h r0 fun F1 x m1 cm1 H1 a s1 k1 r1' v1 q1 => ?_)
 show wpAny _ _ (do
  let rv ← holding [a] (eval r1 env)
  standAt pos
  let c ← holding [a, rv] (compareOp op1 a rv)
  release [a, rv] [c]
  if ← holding [c, rv] (truthy c) then testChain pos rv [op2] [eval r2 env] else pure false) _ _ s1
 refine wpAny_bind (wpAny_holding (W.wp q1 r1' fun F2 y m2 cm2 H2 b s2 k2 rr v2 qq => wpAny_bind (wpAny_standAt (wpAny_bind (wpAny_holding ?_)))))
 obtain ⟨T, r2', l2⟩ := rr
 obtain ⟨z, C, e, hC, q2, q3⟩ := qq
 refine PostN.wp (pu_cmp hu.2 e hC (VR.mono k2 _ v1) v2 T s2 r2') fun F3 u s3 k3 r3 v3 => wpAny_bind (wpAny_release (wpAny_bind (wpAny_holding ?_)))
 simp only [V, VR] at v3
 subst v3
 refine wpAny_truthy_bool ?_
 cases z with
 | false => exact wpAny_pure ⟨F3, false, m2, cm2, H2, k1.trans (k2.trans k3), ⟨T, r3, l2.up k3⟩, rfl, q2 rfl⟩
 | true =>
  show wpAny _ _ (do
   let rv ← holding [b] (eval r2 env)
   standAt pos
   let c ← operate [b, rv] (compareOp op2 b rv)
   holding [c] (truthy c)) _ _ s3
  refine wpAny_bind (wpAny_holding (W.wp (q3 rfl) ⟨T, r3, l2.up k3⟩ fun F4 y4 m4 cm4 H4 d s4 k4 rr v4 qq => wpAny_bind (wpAny_standAt (wpAny_bind (PyProof.Rows.wpAny_operate' ?_)))))
  obtain ⟨T4, r4, l4⟩ := rr
  obtain ⟨z', C', e', hC', q4⟩ := qq
  refine PostN.wp (pu_cmp hu.2 e' hC' (VR.mono (k3.trans k4) _ v2) v4 T4 s4 r4) fun F5 u s5 k5 r5 v5 => wpAny_holding ?_
  simp only [V, VR] at v5
  subst v5
  exact wpAny_truthy_bool ⟨F5, z', m4, cm4, H4, k1.trans (k2.trans (k3.trans (k4.trans k5))), ⟨T4, r5, l4.up k5⟩, rfl, q4⟩
theorem MethG.join {x : Str} : MethG c A env m cm H (.str x) "join" (.builtin "str.join") := fun F K s v pl G r hv g => by
 simp only [VR] at hv
 (refine x1a1 hv fun t e91 => ?_; subst e91)
 exact GM.join g
theorem MethG.lower {x : Str} : MethG c A env m cm H (.str x) "lower" (.builtin "str.lower") := fun F K s v pl G r hv g => by
 simp only [VR] at hv
 (refine x1a1 hv fun t e91 => ?_; subst e91)
 exact GM.lower g
theorem CallP.lower {x : Str} (hf : tooLong (Txt.lower x).length = false) (q : Q (.str (Txt.lower x)) m cm H) : CallP c A env (.raw (.builtin "str.lower")) [.str x] m cm H Q := fun F K s fv vals r hf' hv => by
 simp only [VR] at hf'
 subst hf'
 (refine x1a2 hv.one fun y e91 h1 => ?_; subst e91)
 simp only [VR] at h1
 (refine x1a1 h1 fun t e91 => ?_; subst e91)
 exact SC.lower hf ⟨F, _, m, cm, H, FM.le.refl F, r.tok _, vr_str, q⟩
theorem strVals_of {F : FM} : ∀ {ss : List Str} {vs : List Value}, VRs F (ss.map .str) vs → ∃ l : List (Str × Tok), vs = strValues l ∧ l.map (·.1) = ss
 | [] => by rename_i _; intro h; simp only [List.map_nil, VRs] at h; subst h; exact ⟨[], rfl, rfl⟩
 | x :: ss => by
  rename_i _
  intro h
  (refine x2a3 h.uncons fun v r e92 h1 h2 => ?_; subst e92)
  simp only [VR] at h1
  (refine x1a1 h1 fun t e91 => ?_; subst e91)
  (refine x1a2 (strVals_of h2) fun l e91 h3 => ?_; subst e91)
  exact ⟨(x, t) :: l, rfl, by simp [h3]⟩
theorem CallP.join {x : Str} {ss : List Str} (h2 : 2 ≤ ss.length) (hf : tooLong (ss.toArray.foldl (· + ·.length + x.length) 0) = false) (hz : (glued x ss).length ≤ sizeLine) (q : Q (.str (glued x ss)) m cm H) :
  CallP c A env (.raw (.builtin "str.join")) [.str x, .lst (ss.map .str)] m cm H Q := fun F K s fv vals r hf' hv => by
 simp only [VR] at hf'
 subst hf'
 (refine x2a3 hv.two fun y u e92 h1 h3 => ?_; subst e92)
 simp only [VR] at h1 h3
 (refine x1a1 h1 fun t e91 => ?_; subst e91)
 obtain ⟨a, o, vs, n, rfl, e1, e2, e3, e4⟩ := h3
 refine x1a2 (strVals_of e4) fun l hl hs => ?_
 have hL : s.heap.IsList a (strValues l).toArray := ⟨o, r.fz e1, e2, n, by refine rG e3 ?_; congr 1; (refine rL hl ?_; rfl)⟩
 have hm : joinMade x l = .str (glued x ss) := by
  cases l with
  | nil => subst hs; simp at h2
  | cons p r => cases r with
   | nil => subst hs; simp at h2
   | cons p2 r => refine rL hs ?_; rfl
 refine call_meets PySem.F.slot_str_join (typeIs_str _ _ _) PySem.F.entry_str_join (PySem.F.args_str_join_2 _ _) (meets_str_join_list x t a l (by refine rG hs ?_; exact hf)) ⟨hL, ?_⟩
 refine rG hm ?_
 exact ⟨hz, F, _, m, cm, H, FM.le.refl F, r.tok _, vr_str, q⟩
end
end Mine
end
section
set_option genInjectivity true
open PySem
namespace Mine
inductive Wt where
 | none
 | int (i : Int)
 | str (s : Str)
 deriving Inhabited, DecidableEq
inductive Told where
 | rows (l : List (List Wt))
 | comp (op : Str) (l r : Told) (cols : List Str)
 deriving Inhabited
inductive Ins where
 | value (t : Int) (w : Wt)
 | record (first many rec : Int)
 | result (first many : Int)
 | openE (cur : Int) (cols : List Str)
 | column (cur at_ reg : Int)
 | rewind (cur lab : Int)
 | next (cur lab : Int)
 | found (pos : Bool) (cur lab first many : Int)
 | insert (cur rec : Int)
 | delete (cur first many : Int)
 | halt
 deriving Inhabited
structure PS where
 ops : List Ins
 regs : Int
 curs : Int
 lab : Int
 labels : List (Int × Int)
namespace PS
noncomputable def size (q : PS) : Nat := q.ops.length + q.labels.length
noncomputable def add (q : PS) (i : Ins) : PS := { q with ops := q.ops ++ [i] }
noncomputable def reg (q : PS) (n : Int) : PS := { q with regs := q.regs + n }
noncomputable def cursor (q : PS) : PS := { q with curs := q.curs + 1 }
noncomputable def label (q : PS) : PS := { q with lab := q.lab - 1 }
noncomputable def place (q : PS) (l : Int) : PS := { q with labels := q.labels ++ [(l, (q.ops.length : Int))] }
end PS
noncomputable def valuesFrom (first : Int) : List Wt → PS → PS
 | [], q => q
 | w :: r, q => valuesFrom (first + 1) r (q.add (.value first w))
noncomputable def emitRow (r : List Wt) (q : PS) : PS := valuesFrom q.regs r (q.reg (max 1 r.length))
noncomputable def putKey (cur first many : Int) (q : PS) : PS := ((q.reg 1).add (.record first many q.regs)).add (.insert cur q.regs)
noncomputable def openKeys (cols : List Str) (q : PS) : PS := q.cursor.add (.openE q.curs cols)
noncomputable def putNew (cur many first : Int) (q : PS) : PS := (putKey cur first many (q.label.add (.found true cur q.lab first many))).place q.lab
noncomputable def takeOut (cur many first : Int) (q : PS) : PS := q.add (.delete cur first many)
noncomputable def columnsFrom (cur : Int) (first : Int) : Nat → Int → PS → PS
 | 0, _, q => q
 | n + 1, i, q => columnsFrom cur first n (i + 1) (q.add (.column cur i (first + i)))
noncomputable def tell (cur : Int) (many : Nat) (other : Option Int) (take : Int → PS → PS) (following : Int) (q : PS) : PS :=
 let q1 := columnsFrom cur q.regs many 0 (q.reg many)
 take q.regs (match other with
  | some o => q1.add (.found false o following q.regs many)
  | none => q1)
noncomputable def walkAll (cur : Int) (body : Int → PS → PS) (q : PS) : PS :=
 let q1 := (q.label.label.label.add (.rewind cur (q.lab - 2))).place q.lab
 (((body (q.lab - 1) q1).place (q.lab - 1)).add (.next cur q.lab)).place (q.lab - 2)
noncomputable def emitRows (take : Int → PS → PS) : List (List Wt) → PS → PS
 | [], q => q
 | r :: l, q => emitRows take l (take q.regs (emitRow r q))
noncomputable def emitBody : Told → (Int → PS → PS) → PS → PS
 | .rows l, take, q => emitRows take l q
 | .comp op l r cols, take, q =>
  if op = "union all" then emitBody r take (emitBody l take q) else
  let many := cols.length
  let q1 := openKeys cols q
  let q2 := emitBody l (putNew q.curs many) q1
  if op = "union" then walkAll q.curs (tell q.curs many none take) (emitBody r (putNew q.curs many) q2)
  else if op = "except" then walkAll q.curs (tell q.curs many none take) (emitBody r (takeOut q.curs many) q2)
  else walkAll q.curs (tell q.curs many (some q2.curs) take) (emitBody r (putKey q2.curs · many) (openKeys cols q2))
end Mine
end
section
open PySem
namespace Mine
noncomputable def LabOk (q : PS) : Prop := q.lab < 0 ∧ ∀ x ∈ q.labels, q.lab < x.1
structure Ext (q q' : PS) : Prop where
 ops : ∃ o, q'.ops = q.ops ++ o
 lab : ∃ l, q'.labels = q.labels ++ l ∧ ∀ x ∈ l, q'.lab < x.1 ∧ x.1 ≤ q.lab
 le : q'.lab ≤ q.lab
 regs : q.regs ≤ q'.regs
 curs : q.curs ≤ q'.curs
theorem Ext.refl (q : PS) : Ext q q := ⟨⟨[], by simp⟩, ⟨[], by simp, fun x h => by contradiction⟩, Int.le_refl _, Int.le_refl _, Int.le_refl _⟩
theorem Ext.trans {a b d : PS} (x : Ext a b) (y : Ext b d) : Ext a d := by
 refine x1a1 x.ops fun o1 e1 => ?_
 refine x1a1 y.ops fun o2 e2 => ?_
 refine x1a2 x.lab fun l1 e3 h3 => ?_
 refine x1a2 y.lab fun l2 e4 h4 => ?_
 have h1 := x.le
 have h2 := y.le
 refine ⟨⟨o1 ++ o2, by (refine rG e2 ?_; refine rG e1 ?_; refine rG (List.append_assoc ..) ?_; rfl)⟩, ⟨l1 ++ l2, by (refine rG e4 ?_; refine rG e3 ?_; refine rG (List.append_assoc ..) ?_; rfl), fun z hz => ?_⟩, by lia, by have := x.regs; have := y.regs; lia, by have := x.curs; have := y.curs; lia⟩
 rcases List.mem_append.mp hz with q | q
 ·have := h3 z q; lia
 ·have := h4 z q; lia
theorem LabOk.ext {q q' : PS} (h : LabOk q) (x : Ext q q') : LabOk q' := by
 refine x1a2 x.lab fun l e hl => ?_
 refine ⟨by have := x.le; have := h.1; lia, fun z hz => ?_⟩
 rw [e] at hz
 rcases List.mem_append.mp hz with q | q
 ·have := h.2 z q; have := x.le; lia
 ·exact (hl z q).1
theorem Ext.add (q : PS) (i : Ins) : Ext q (q.add i) := ⟨⟨[i], rfl⟩, ⟨[], by simp [PS.add], fun x h => by contradiction⟩, Int.le_refl _, Int.le_refl _, Int.le_refl _⟩
theorem Ext.reg (q : PS) {n : Int} (h : 0 ≤ n) : Ext q (q.reg n) := ⟨⟨[], by simp [PS.reg]⟩, ⟨[], by simp [PS.reg], fun x h => by contradiction⟩, Int.le_refl _, by show q.regs ≤ q.regs + n; lia, Int.le_refl _⟩
theorem Ext.cursor (q : PS) : Ext q q.cursor := ⟨⟨[], by simp [PS.cursor]⟩, ⟨[], by simp [PS.cursor], fun x h => by contradiction⟩, Int.le_refl _, Int.le_refl _, by show q.curs ≤ q.curs + 1; lia⟩
theorem Ext.label (q : PS) : Ext q q.label := ⟨⟨[], by simp [PS.label]⟩, ⟨[], by simp [PS.label], fun x h => by contradiction⟩, by show q.lab - 1 ≤ q.lab; lia, Int.le_refl _, Int.le_refl _⟩
theorem Ext.placed {q q' : PS} (x : Ext q q') {l : Int} (h1 : q'.lab < l) (h2 : l ≤ q.lab) : Ext q (q'.place l) := by
 refine x1a1 x.ops fun o e => ?_
 refine x1a2 x.lab fun ls e2 hl => ?_
 refine ⟨⟨o, e⟩, ⟨ls ++ [(l, (q'.ops.length : Int))], by show q'.labels ++ _ = _; (refine rG e2 ?_; refine rG (List.append_assoc ..) ?_; rfl), fun z hz => ?_⟩, x.le, x.regs, x.curs⟩
 rcases List.mem_append.mp hz with q | q
 ·exact hl z q
 ·simp at q; subst q; exact ⟨h1, h2⟩
noncomputable def TkOk (tk : Int → PS → PS) (k : Nat) : Prop := ∀ f q, Ext q (tk f q) ∧ (tk f q).size ≤ q.size + k
theorem size_add (q : PS) (i : Ins) : (q.add i).size = q.size + 1 := by unfold PS.size PS.add; simp; lia
theorem size_place (q : PS) (l : Int) : (q.place l).size = q.size + 1 := by unfold PS.size PS.place; simp; lia
theorem size_reg (q : PS) (n : Int) : (q.reg n).size = q.size := rfl
theorem size_cursor (q : PS) : q.cursor.size = q.size := rfl
theorem size_label (q : PS) : q.label.size = q.size := rfl
theorem values_ext : ∀ (r : List Wt) (f : Int) (q : PS), Ext q (valuesFrom f r q) ∧ (valuesFrom f r q).size = q.size + r.length
 | [] => fun f q => ⟨Ext.refl q, rfl⟩
 | w :: r => by
  intro f q
  refine x0a2 (values_ext r (f + 1) (q.add (.value f w))) fun h1 h2 => ?_
  exact ⟨(Ext.add q _).trans h1, by (rewrite [valuesFrom]; refine rG h2 ?_; refine rG (size_add ..) ?_; refine rG List.length_cons ?_); lia⟩
theorem values_snoc : ∀ (r : List Wt) (w : Wt) (f : Int) (q : PS), valuesFrom f (r ++ [w]) q = (valuesFrom f r q).add (.value (f + r.length) w)
 | [] => by intro w f q; simp [valuesFrom]
 | v :: r => by
  intro w f q
  (refine rG List.cons_append ?_; rewrite [valuesFrom]; rewrite [values_snoc r w (f + 1)]; rewrite [valuesFrom])
  congr 2
  refine rG List.length_cons ?_; lia
theorem row_ext (r : List Wt) (q : PS) : Ext q (emitRow r q) ∧ (emitRow r q).size = q.size + r.length := by
 refine x0a2 (values_ext r q.regs (q.reg (max 1 r.length))) fun h1 h2 => ?_
 exact ⟨(Ext.reg q (by lia)).trans h1, by (rewrite [emitRow]; refine rG h2 ?_; refine rG (size_reg ..) ?_; rfl)⟩
theorem putKey_ext (cur f many : Int) (q : PS) : Ext q (putKey cur f many q) ∧ (putKey cur f many q).size = q.size + 2 :=
 ⟨((Ext.reg q (by decide)).trans (Ext.add _ _)).trans (Ext.add _ _), by unfold putKey; (refine rG (size_add ..) ?_; refine rG (size_add ..) ?_; refine rG (size_reg ..) ?_; rfl)⟩
theorem openKeys_ext (cols : List Str) (q : PS) : Ext q (openKeys cols q) ∧ (openKeys cols q).size = q.size + 1 :=
 ⟨(Ext.cursor q).trans (Ext.add _ _), by unfold openKeys; (refine rG (size_add ..) ?_; refine rG (size_cursor ..) ?_; rfl)⟩
theorem putNew_ok (cur many : Int) : TkOk (putNew cur many) 4 := fun f q => by
 refine x0a2 (putKey_ext cur f many (q.label.add (.found true cur q.lab f many))) fun h1 h2 => ?_
 have hx : Ext q (putKey cur f many (q.label.add (.found true cur q.lab f many))) := ((Ext.label q).trans (Ext.add _ _)).trans h1
 refine ⟨hx.placed ?_ (Int.le_refl _), by (rewrite [putNew]; refine rG (size_place ..) ?_; refine rG h2 ?_; refine rG (size_add ..) ?_; refine rG (size_label ..) ?_); lia⟩
 show q.lab - 1 < q.lab
 lia
theorem takeOut_ok (cur many : Int) : TkOk (takeOut cur many) 1 := fun f q => ⟨Ext.add _ _, by (rewrite [takeOut]; refine rG (size_add ..) ?_); lia⟩
theorem putKey_ok' (cur many : Int) : TkOk (putKey cur · many) 2 := fun f q => ⟨(putKey_ext cur f many q).1, by have := (putKey_ext cur f many q).2; exact Nat.le_of_eq this⟩
theorem columns_ext (cur first : Int) : ∀ (n : Nat) (i : Int) (q : PS), Ext q (columnsFrom cur first n i q) ∧ (columnsFrom cur first n i q).size = q.size + n
 | 0 => fun i q => ⟨Ext.refl q, rfl⟩
 | n + 1 => by
  intro i q
  refine x0a2 (columns_ext cur first n (i + 1) (q.add (.column cur i (first + i)))) fun h1 h2 => ?_
  exact ⟨(Ext.add q _).trans h1, by (rewrite [columnsFrom]; refine rG h2 ?_; refine rG (size_add ..) ?_); lia⟩
theorem columns_snoc (cur first : Int) : ∀ (n : Nat) (i : Int) (q : PS), columnsFrom cur first (n + 1) i q = (columnsFrom cur first n i q).add (.column cur (i + n) (first + (i + n)))
 | 0 => by intro i q; simp [columnsFrom]
 | n + 1 => by
  intro i q
  have := columns_snoc cur first n (i + 1) (q.add (.column cur i (first + i)))
  (rewrite [columnsFrom]; refine rG this ?_; rewrite [columnsFrom])
  have e : i + 1 + (n : Int) = i + ((n + 1 : Nat) : Int) := by lia
  (refine rG e ?_; rfl)
theorem tell_ok {tk : Int → PS → PS} {k : Nat} (h : TkOk tk k) (cur : Int) (many : Nat) (other : Option Int) : TkOk (tell cur many other tk) (many + 1 + k) := fun f q => by
 refine x0a2 (columns_ext cur q.regs many 0 (q.reg many)) fun h1 h2 => ?_
 have hx : Ext q (columnsFrom cur q.regs many 0 (q.reg many)) := (Ext.reg q (by lia)).trans h1
 rw [size_reg] at h2
 cases other with
 | none =>
  refine x0a2 (h q.regs (columnsFrom cur q.regs many 0 (q.reg many))) fun h3 h4 => ?_
  exact ⟨hx.trans h3, by show (tk q.regs (columnsFrom cur q.regs many 0 (q.reg many))).size ≤ _; lia⟩
 | some o =>
  refine x0a2 (h q.regs ((columnsFrom cur q.regs many 0 (q.reg many)).add (.found false o f q.regs many))) fun h3 h4 => ?_
  rw [size_add] at h4
  exact ⟨(hx.trans (Ext.add _ _)).trans h3, by show (tk q.regs ((columnsFrom cur q.regs many 0 (q.reg many)).add (.found false o f q.regs many))).size ≤ _; lia⟩
theorem walkAll_ok {body : Int → PS → PS} {k : Nat} (h : TkOk body k) (cur : Int) (q : PS) : Ext q (walkAll cur body q) ∧ (walkAll cur body q).size ≤ q.size + k + 5 := by
 have x1 : Ext q ((q.label.label.label.add (.rewind cur (q.lab - 2))).place q.lab) := by
  refine ((((Ext.label q).trans (Ext.label _)).trans (Ext.label _)).trans (Ext.add _ _)).placed ?_ (Int.le_refl _)
  show q.lab - 1 - 1 - 1 < q.lab; lia
 refine x0a2 (h (q.lab - 1) ((q.label.label.label.add (.rewind cur (q.lab - 2))).place q.lab)) fun x2 s2 => ?_
 have l1 : ((q.label.label.label.add (.rewind cur (q.lab - 2))).place q.lab).lab = q.lab - 3 := by show q.lab - 1 - 1 - 1 = _; lia
 have l2 := x2.le
 rw [l1] at l2
 have x3 := (x1.trans x2).placed (l := q.lab - 1) (by lia) (by lia)
 have x4 := x3.trans (Ext.add _ (.next cur q.lab))
 have x5 := x4.placed (l := q.lab - 2) (by
  show (body (q.lab - 1) ((q.label.label.label.add (.rewind cur (q.lab - 2))).place q.lab)).lab < q.lab - 2; lia) (by lia)
 refine ⟨x5, ?_⟩
 unfold walkAll
 simp only [size_place, size_add, size_label] at s2 ⊢
 lia
theorem rows_ext {tk : Int → PS → PS} {k : Nat} (h : TkOk tk k) (n : Nat) : ∀ (l : List (List Wt)) (q : PS), (∀ r ∈ l, r.length = n) → Ext q (emitRows tk l q) ∧ (emitRows tk l q).size ≤ q.size + l.length * (n + k)
 | [] => fun q _ => ⟨Ext.refl q, by simp [emitRows]⟩
 | r :: l => by
  intro q hl
  refine x0a2 (row_ext r q) fun h1 h2 => ?_
  refine x0a2 (h q.regs (emitRow r q)) fun h3 h4 => ?_
  refine x0a2 (rows_ext h n l (tk q.regs (emitRow r q)) fun r' hr => hl r' (.tail _ hr)) fun h5 h6 => ?_
  have := hl r (.head _)
  refine ⟨(h1.trans h3).trans h5, ?_⟩
  (rewrite [emitRows]; refine rG List.length_cons ?_; refine rG (Nat.succ_mul ..) ?_)
  lia
noncomputable def Told.ok (n : Nat) : Told → Prop
 | .rows l => l.length ≤ 3 ∧ ∀ r ∈ l, r.length = n
 | .comp op l r cols => (op = "union" ∨ op = "except" ∨ op = "intersect" ∨ op = "union all") ∧ l.ok n ∧ r.ok n ∧ cols.length = n ∧ ∀ s ∈ cols, s = "binary" ∨ s = "nocase"
noncomputable def Told.deep : Told → Nat
 | .rows _ => 0
 | .comp _ l r _ => max l.deep r.deep + 1
noncomputable def Told.cost (n : Nat) : Told → Nat → Nat
 | .rows l, k => l.length * (n + k)
 | .comp _ l r _, k => l.cost n (k + 4) + r.cost n (k + 4) + n + k + 8
theorem cost_mono (n : Nat) : ∀ (t : Told) {j k : Nat}, j ≤ k → t.cost n j ≤ t.cost n k
 | .rows l, j, k, h => Nat.mul_le_mul_left _ (by lia)
 | .comp _ l r _, j, k, h => by
  have h1 := cost_mono n l (j := j + 4) (k := k + 4) (by lia)
  have h2 := cost_mono n r (j := j + 4) (k := k + 4) (by lia)
  simp only [Told.cost]; lia
theorem body_ext (n : Nat) : ∀ (t : Told), t.ok n → ∀ (tk : Int → PS → PS) (k : Nat), TkOk tk k → ∀ q, Ext q (emitBody t tk q) ∧ (emitBody t tk q).size ≤ q.size + t.cost n k
 | .rows l, ht, tk, k, h, q => rows_ext h n l q ht.2
 | .comp op l r cols, ht, tk, k, h, q => by
  refine x0a5 ht fun _ hl hr hc _ => ?_
  have il := body_ext n l hl
  have ir := body_ext n r hr
  have ml := cost_mono n l (j := k) (k := k + 4) (by lia)
  have mr := cost_mono n r (j := k) (k := k + 4) (by lia)
  have ml4 := cost_mono n l (j := 4) (k := k + 4) (by lia)
  have mr4 := cost_mono n r (j := 4) (k := k + 4) (by lia)
  have mr1 := cost_mono n r (j := 1) (k := k + 4) (by lia)
  have mr2 := cost_mono n r (j := 2) (k := k + 4) (by lia)
  unfold emitBody
  simp only [Told.cost]
  split
  ·refine x0a2 (il tk k h q) fun h1 h2 => ?_
   refine x0a2 (ir tk k h (emitBody l tk q)) fun h3 h4 => ?_
   exact ⟨h1.trans h3, by lia⟩
  ·refine x0a2 (openKeys_ext cols q) fun h1 h2 => ?_
   refine x0a2 (il (putNew q.curs cols.length) 4 (putNew_ok _ _) (openKeys cols q)) fun h3 h4 => ?_
   split
   ·refine x0a2 (ir (putNew q.curs cols.length) 4 (putNew_ok _ _) (emitBody l (putNew q.curs cols.length) (openKeys cols q))) fun h5 h6 => ?_
    refine x0a2 (walkAll_ok (tell_ok h q.curs cols.length none) q.curs (emitBody r (putNew q.curs cols.length) (emitBody l (putNew q.curs cols.length) (openKeys cols q)))) fun h7 h8 => ?_
    exact ⟨((h1.trans h3).trans h5).trans h7, by lia⟩
   ·split
    ·refine x0a2 (ir (takeOut q.curs cols.length) 1 (takeOut_ok _ _) (emitBody l (putNew q.curs cols.length) (openKeys cols q))) fun h5 h6 => ?_
     refine x0a2 (walkAll_ok (tell_ok h q.curs cols.length none) q.curs (emitBody r (takeOut q.curs cols.length) (emitBody l (putNew q.curs cols.length) (openKeys cols q)))) fun h7 h8 => ?_
     exact ⟨((h1.trans h3).trans h5).trans h7, by lia⟩
    ·refine x0a2 (openKeys_ext cols (emitBody l (putNew q.curs cols.length) (openKeys cols q))) fun g1 g2 => ?_
     refine x0a2 (ir (putKey (emitBody l (putNew q.curs cols.length) (openKeys cols q)).curs · cols.length) 2 (putKey_ok' _ _) (openKeys cols (emitBody l (putNew q.curs cols.length) (openKeys cols q)))) fun h5 h6 => ?_
     obtain ⟨h7, h8⟩ := walkAll_ok (tell_ok h q.curs cols.length (some (emitBody l (putNew q.curs cols.length) (openKeys cols q)).curs)) q.curs
      (emitBody r (putKey (emitBody l (putNew q.curs cols.length) (openKeys cols q)).curs · cols.length) (openKeys cols (emitBody l (putNew q.curs cols.length) (openKeys cols q))))
     exact ⟨(((h1.trans h3).trans g1).trans h5).trans h7, by lia⟩
theorem cost_le {n : Nat} (hn : n ≤ 2) : ∀ (t : Told), t.ok n → ∀ k, k ≤ 100 → t.deep ≤ 2 → t.cost n k ≤ 3000 := by
 have base : ∀ (l : List (List Wt)) k, l.length ≤ 3 → l.length * (n + k) ≤ 3 * (n + k) := fun l k h => Nat.mul_le_mul_right _ h
 have d0 : ∀ (t : Told), t.ok n → t.deep ≤ 0 → ∀ k, t.cost n k ≤ 3 * (n + k) := fun t ht hd k => by
  cases t with
  | rows l => exact base l k ht.1
  | comp => simp [Told.deep] at hd
 have d1 : ∀ (t : Told), t.ok n → t.deep ≤ 1 → ∀ k, t.cost n k ≤ 7 * (n + k) + 32 := fun t ht hd k => by
  cases t with
  | rows l => have := base l k ht.1; simp only [Told.cost]; lia
  | comp op l r cols =>
   simp only [Told.deep] at hd
   have h1 := d0 l ht.2.1 (by lia) (k + 4)
   have h2 := d0 r ht.2.2.1 (by lia) (k + 4)
   simp only [Told.cost]; lia
 intro t ht k hk hd
 cases t with
 | rows l => have := base l k ht.1; simp only [Told.cost]; lia
 | comp op l r cols =>
  simp only [Told.deep] at hd
  have h1 := d1 l ht.2.1 (by lia) (k + 4)
  have h2 := d1 r ht.2.2.1 (by lia) (k + 4)
  simp only [Told.cost]; lia
end Mine
end
section
open PySem PySem.W PySem.W.X PyProof.Rows PySem.Calls
open Builtin Builtin.ObjectAttr
namespace Mine
noncomputable def fdat (d : Stmt) (qual : Str) (dflt pm code : Value) : FuncData := { name := fdName d, qualname := qual, params := fdArgs d, body := .stmts (fdBody d), scope := fdScope d, globals := 3, closure := [], defaults := dflt, kwdefaults := .none, doc := .none, pyModule := pm, annotations := none, code := code, closureTuple := .none, builtins := 0 }
noncomputable def Binds (c : Cx) (fd : FuncData) (names : List Str) (args bargs : List MV) : Prop :=
 ∀ F T s vals, Rel c F T s → VRs F args vals → ∃ bvals, BindsTo s fd ⟨vals, []⟩ (names.zip bvals) ∧ VRs F bargs bvals
section
variable {c : Cx} {fd : FuncData} {n1 n2 n3 n4 n5 n6 : Str} {x1 x2 x3 x4 x5 x6 : MV}
theorem bind1 (h : ∀ p S a, peek (Ks p) S (bindArgs fd ⟨[a], []⟩) = some [(n1, a)]) : Binds c fd [n1] [x1] [x1] := fun F T s vals r hv => by
 obtain ⟨a, rfl, h1⟩ := hv.one
 exact ⟨[a], kp_binds r.kin fun S => h _ S a, .cons h1 VRs.nil⟩
theorem bind2 (h : ∀ p S a b, peek (Ks p) S (bindArgs fd ⟨[a, b], []⟩) = some [(n1, a), (n2, b)]) : Binds c fd [n1, n2] [x1, x2] [x1, x2] := fun F T s vals r hv => by
 obtain ⟨a, b, rfl, h1, h2⟩ := hv.two
 exact ⟨[a, b], kp_binds r.kin fun S => h _ S a b, .cons h1 (.cons h2 VRs.nil)⟩
theorem bind3 (h : ∀ p S a b d, peek (Ks p) S (bindArgs fd ⟨[a, b, d], []⟩) = some [(n1, a), (n2, b), (n3, d)]) : Binds c fd [n1, n2, n3] [x1, x2, x3] [x1, x2, x3] := fun F T s vals r hv => by
 obtain ⟨a, r1, rfl, h1, hv⟩ := hv.uncons
 obtain ⟨b, d, rfl, h2, h3⟩ := hv.two
 exact ⟨[a, b, d], kp_binds r.kin fun S => h _ S a b d, .cons h1 (.cons h2 (.cons h3 VRs.nil))⟩
theorem bind4 (h : ∀ p S a b d e, peek (Ks p) S (bindArgs fd ⟨[a, b, d, e], []⟩) = some [(n1, a), (n2, b), (n3, d), (n4, e)]) : Binds c fd [n1, n2, n3, n4] [x1, x2, x3, x4] [x1, x2, x3, x4] := fun F T s vals r hv => by
 obtain ⟨a, r1, rfl, h1, hv⟩ := hv.uncons
 obtain ⟨a2, r2, rfl, h2, hv⟩ := hv.uncons
 obtain ⟨b, d, rfl, h3, h4⟩ := hv.two
 exact ⟨[a, a2, b, d], kp_binds r.kin fun S => h _ S a a2 b d, .cons h1 (.cons h2 (.cons h3 (.cons h4 VRs.nil)))⟩
end
noncomputable def fFold : FuncData := fdat (st 36) "fold" (.none) (.str "pagebase.expr_tools" 1003) (.ref 604)
theorem fFold_look (p : Params) : (Ks p).lookup 605 = some (fo (st 36) "fold" (.none) (.str "pagebase.expr_tools" 1003) (.ref 604)) := by kernel_rfl
theorem fFold_code (p : Params) : codeIn (Ks p) (.ref 604) "fold" = true := by kernel_rfl
theorem fFold_at (c : Cx) : FnAt c 605 fFold := ⟨_, fFold_look _, rfl, fFold_code _⟩
theorem fFold_ok : fdOk fFold = true := by kernel_rfl
noncomputable def fExpl : FuncData := fdat (st 45) "explicit_collation" (.none) (.str "pagebase.expr_tools" 1003) (.ref 666)
theorem fExpl_look (p : Params) : (Ks p).lookup 667 = some (fo (st 45) "explicit_collation" (.none) (.str "pagebase.expr_tools" 1003) (.ref 666)) := by kernel_rfl
theorem fExpl_code (p : Params) : codeIn (Ks p) (.ref 666) "explicit_collation" = true := by kernel_rfl
theorem fExpl_at (c : Cx) : FnAt c 667 fExpl := ⟨_, fExpl_look _, rfl, fExpl_code _⟩
theorem fExpl_ok : fdOk fExpl = true := by kernel_rfl
noncomputable def fColl : FuncData := fdat (st 47) "collation_of" (.ref 675) (.str "pagebase.expr_tools" 1003) (.ref 681)
theorem fColl_look (p : Params) : (Ks p).lookup 682 = some (fo (st 47) "collation_of" (.ref 675) (.str "pagebase.expr_tools" 1003) (.ref 681)) := by kernel_rfl
theorem fColl_code (p : Params) : codeIn (Ks p) (.ref 681) "collation_of" = true := by kernel_rfl
theorem fColl_at (c : Cx) : FnAt c 682 fColl := ⟨_, fColl_look _, rfl, fColl_code _⟩
theorem fColl_ok : fdOk fColl = true := by kernel_rfl
noncomputable def fInfo : FuncData := fdat (st 55) "output_info" (.none) (.str "pagebase.code_rows" 1212) (.ref 767)
theorem fInfo_look (p : Params) : (Ks p).lookup 768 = some (fo (st 55) "output_info" (.none) (.str "pagebase.code_rows" 1212) (.ref 767)) := by kernel_rfl
theorem fInfo_code (p : Params) : codeIn (Ks p) (.ref 767) "output_info" = true := by kernel_rfl
theorem fInfo_at (c : Cx) : FnAt c 768 fInfo := ⟨_, fInfo_look _, rfl, fInfo_code _⟩
theorem fInfo_ok : fdOk fInfo = true := by kernel_rfl
noncomputable def fOpenK : FuncData := fdat (st 56) "open_keys" (.none) (.str "pagebase.code_rows" 1212) (.ref 774)
theorem fOpenK_look (p : Params) : (Ks p).lookup 775 = some (fo (st 56) "open_keys" (.none) (.str "pagebase.code_rows" 1212) (.ref 774)) := by kernel_rfl
theorem fOpenK_code (p : Params) : codeIn (Ks p) (.ref 774) "open_keys" = true := by kernel_rfl
theorem fOpenK_at (c : Cx) : FnAt c 775 fOpenK := ⟨_, fOpenK_look _, rfl, fOpenK_code _⟩
theorem fOpenK_ok : fdOk fOpenK = true := by kernel_rfl
noncomputable def fPutKey : FuncData := fdat (st 57) "put_key" (.none) (.str "pagebase.code_rows" 1212) (.ref 781)
theorem fPutKey_look (p : Params) : (Ks p).lookup 782 = some (fo (st 57) "put_key" (.none) (.str "pagebase.code_rows" 1212) (.ref 781)) := by kernel_rfl
theorem fPutKey_code (p : Params) : codeIn (Ks p) (.ref 781) "put_key" = true := by kernel_rfl
theorem fPutKey_at (c : Cx) : FnAt c 782 fPutKey := ⟨_, fPutKey_look _, rfl, fPutKey_code _⟩
theorem fPutKey_ok : fdOk fPutKey = true := by kernel_rfl
noncomputable def fWalkAll : FuncData := fdat (st 71) "walk_all" (.none) (.str "pagebase.code_where" 1383) (.ref 934)
theorem fWalkAll_look (p : Params) : (Ks p).lookup 935 = some (fo (st 71) "walk_all" (.none) (.str "pagebase.code_where" 1383) (.ref 934)) := by kernel_rfl
theorem fWalkAll_code (p : Params) : codeIn (Ks p) (.ref 934) "walk_all" = true := by kernel_rfl
theorem fWalkAll_at (c : Cx) : FnAt c 935 fWalkAll := ⟨_, fWalkAll_look _, rfl, fWalkAll_code _⟩
theorem fWalkAll_ok : fdOk fWalkAll = true := by kernel_rfl
noncomputable def fBody : FuncData := fdat (st 82) "write_body" (.ref 999) (.str "pagebase.code_select" 1654) (.ref 1005)
theorem fBody_look (p : Params) : (Ks p).lookup 1006 = some (fo (st 82) "write_body" (.ref 999) (.str "pagebase.code_select" 1654) (.ref 1005)) := by kernel_rfl
theorem fBody_code (p : Params) : codeIn (Ks p) (.ref 1005) "write_body" = true := by kernel_rfl
theorem fBody_at (c : Cx) : FnAt c 1006 fBody := ⟨_, fBody_look _, rfl, fBody_code _⟩
theorem fBody_ok : fdOk fBody = true := by kernel_rfl
noncomputable def fComp : FuncData := fdat (st 83) "write_compound" (.none) (.str "pagebase.code_select" 1654) (.ref 1012)
theorem fComp_look (p : Params) : (Ks p).lookup 1013 = some (fo (st 83) "write_compound" (.none) (.str "pagebase.code_select" 1654) (.ref 1012)) := by kernel_rfl
theorem fComp_code (p : Params) : codeIn (Ks p) (.ref 1012) "write_compound" = true := by kernel_rfl
theorem fComp_at (c : Cx) : FnAt c 1013 fComp := ⟨_, fComp_look _, rfl, fComp_code _⟩
theorem fComp_ok : fdOk fComp = true := by kernel_rfl
noncomputable def fOther : FuncData := fdat (st 84) "write_other" (.none) (.str "pagebase.code_select" 1654) (.ref 1019)
theorem fOther_look (p : Params) : (Ks p).lookup 1020 = some (fo (st 84) "write_other" (.none) (.str "pagebase.code_select" 1654) (.ref 1019)) := by kernel_rfl
theorem fOther_code (p : Params) : codeIn (Ks p) (.ref 1019) "write_other" = true := by kernel_rfl
theorem fOther_at (c : Cx) : FnAt c 1020 fOther := ⟨_, fOther_look _, rfl, fOther_code _⟩
theorem fOther_ok : fdOk fOther = true := by kernel_rfl
noncomputable def fPool : FuncData := fdat (st 95) "_law_pool" (.none) (.str "law_pb0469_01" 2178) (.ref 1279)
theorem fPool_look (p : Params) : (Ks p).lookup 1280 = some (fo (st 95) "_law_pool" (.none) (.str "law_pb0469_01" 2178) (.ref 1279)) := by kernel_rfl
theorem fPool_code (p : Params) : codeIn (Ks p) (.ref 1279) "_law_pool" = true := by kernel_rfl
theorem fPool_at (c : Cx) : FnAt c 1280 fPool := ⟨_, fPool_look _, rfl, fPool_code _⟩
theorem fPool_ok : fdOk fPool = true := by kernel_rfl
noncomputable def fTake : FuncData := fdat (st 96) "_law_take" (.none) (.str "law_pb0469_01" 2178) (.ref 1286)
theorem fTake_look (p : Params) : (Ks p).lookup 1287 = some (fo (st 96) "_law_take" (.none) (.str "law_pb0469_01" 2178) (.ref 1286)) := by kernel_rfl
theorem fTake_code (p : Params) : codeIn (Ks p) (.ref 1286) "_law_take" = true := by kernel_rfl
theorem fTake_at (c : Cx) : FnAt c 1287 fTake := ⟨_, fTake_look _, rfl, fTake_code _⟩
theorem fTake_ok : fdOk fTake = true := by kernel_rfl
noncomputable def fOne : FuncData := fdat (st 97) "_law_one" (.none) (.str "law_pb0469_01" 2178) (.ref 1293)
theorem fOne_look (p : Params) : (Ks p).lookup 1294 = some (fo (st 97) "_law_one" (.none) (.str "law_pb0469_01" 2178) (.ref 1293)) := by kernel_rfl
theorem fOne_code (p : Params) : codeIn (Ks p) (.ref 1293) "_law_one" = true := by kernel_rfl
theorem fOne_at (c : Cx) : FnAt c 1294 fOne := ⟨_, fOne_look _, rfl, fOne_code _⟩
theorem fOne_ok : fdOk fOne = true := by kernel_rfl
noncomputable def fLot : FuncData := fdat (st 98) "_law_lot" (.none) (.str "law_pb0469_01" 2178) (.ref 1298)
theorem fLot_look (p : Params) : (Ks p).lookup 1299 = some (fo (st 98) "_law_lot" (.none) (.str "law_pb0469_01" 2178) (.ref 1298)) := by kernel_rfl
theorem fLot_code (p : Params) : codeIn (Ks p) (.ref 1298) "_law_lot" = true := by kernel_rfl
theorem fLot_at (c : Cx) : FnAt c 1299 fLot := ⟨_, fLot_look _, rfl, fLot_code _⟩
theorem fLot_ok : fdOk fLot = true := by kernel_rfl
noncomputable def fTold : FuncData := fdat (st 99) "_law_told" (.none) (.str "law_pb0469_01" 2178) (.ref 1303)
theorem fTold_look (p : Params) : (Ks p).lookup 1304 = some (fo (st 99) "_law_told" (.none) (.str "law_pb0469_01" 2178) (.ref 1303)) := by kernel_rfl
theorem fTold_code (p : Params) : codeIn (Ks p) (.ref 1303) "_law_told" = true := by kernel_rfl
theorem fTold_at (c : Cx) : FnAt c 1304 fTold := ⟨_, fTold_look _, rfl, fTold_code _⟩
theorem fTold_ok : fdOk fTold = true := by kernel_rfl
noncomputable def fNode : FuncData := fdat (st 100) "_law_node" (.none) (.str "law_pb0469_01" 2178) (.ref 1308)
theorem fNode_look (p : Params) : (Ks p).lookup 1309 = some (fo (st 100) "_law_node" (.none) (.str "law_pb0469_01" 2178) (.ref 1308)) := by kernel_rfl
theorem fNode_code (p : Params) : codeIn (Ks p) (.ref 1308) "_law_node" = true := by kernel_rfl
theorem fNode_at (c : Cx) : FnAt c 1309 fNode := ⟨_, fNode_look _, rfl, fNode_code _⟩
theorem fNode_ok : fdOk fNode = true := by kernel_rfl
noncomputable def fKey : FuncData := fdat (st 101) "_law_key" (.none) (.str "law_pb0469_01" 2178) (.ref 1315)
theorem fKey_look (p : Params) : (Ks p).lookup 1316 = some (fo (st 101) "_law_key" (.none) (.str "law_pb0469_01" 2178) (.ref 1315)) := by kernel_rfl
theorem fKey_code (p : Params) : codeIn (Ks p) (.ref 1315) "_law_key" = true := by kernel_rfl
theorem fKey_at (c : Cx) : FnAt c 1316 fKey := ⟨_, fKey_look _, rfl, fKey_code _⟩
theorem fKey_ok : fdOk fKey = true := by kernel_rfl
noncomputable def fRows : FuncData := fdat (st 102) "_law_rows" (.none) (.str "law_pb0469_01" 2178) (.ref 1320)
theorem fRows_look (p : Params) : (Ks p).lookup 1321 = some (fo (st 102) "_law_rows" (.none) (.str "law_pb0469_01" 2178) (.ref 1320)) := by kernel_rfl
theorem fRows_code (p : Params) : codeIn (Ks p) (.ref 1320) "_law_rows" = true := by kernel_rfl
theorem fRows_at (c : Cx) : FnAt c 1321 fRows := ⟨_, fRows_look _, rfl, fRows_code _⟩
theorem fRows_ok : fdOk fRows = true := by kernel_rfl
noncomputable def fSpot : FuncData := fdat (st 103) "_law_spot" (.none) (.str "law_pb0469_01" 2178) (.ref 1327)
theorem fSpot_look (p : Params) : (Ks p).lookup 1328 = some (fo (st 103) "_law_spot" (.none) (.str "law_pb0469_01" 2178) (.ref 1327)) := by kernel_rfl
theorem fSpot_code (p : Params) : codeIn (Ks p) (.ref 1327) "_law_spot" = true := by kernel_rfl
theorem fSpot_at (c : Cx) : FnAt c 1328 fSpot := ⟨_, fSpot_look _, rfl, fSpot_code _⟩
theorem fSpot_ok : fdOk fSpot = true := by kernel_rfl
noncomputable def fDo : FuncData := fdat (st 104) "_law_do" (.none) (.str "law_pb0469_01" 2178) (.ref 1332)
theorem fDo_look (p : Params) : (Ks p).lookup 1333 = some (fo (st 104) "_law_do" (.none) (.str "law_pb0469_01" 2178) (.ref 1332)) := by kernel_rfl
theorem fDo_code (p : Params) : codeIn (Ks p) (.ref 1332) "_law_do" = true := by kernel_rfl
theorem fDo_at (c : Cx) : FnAt c 1333 fDo := ⟨_, fDo_look _, rfl, fDo_code _⟩
theorem fDo_ok : fdOk fDo = true := by kernel_rfl
noncomputable def fChange : FuncData := fdat (st 105) "_law_change" (.none) (.str "law_pb0469_01" 2178) (.ref 1339)
theorem fChange_look (p : Params) : (Ks p).lookup 1340 = some (fo (st 105) "_law_change" (.none) (.str "law_pb0469_01" 2178) (.ref 1339)) := by kernel_rfl
theorem fChange_code (p : Params) : codeIn (Ks p) (.ref 1339) "_law_change" = true := by kernel_rfl
theorem fChange_at (c : Cx) : FnAt c 1340 fChange := ⟨_, fChange_look _, rfl, fChange_code _⟩
theorem fChange_ok : fdOk fChange = true := by kernel_rfl
noncomputable def fRan : FuncData := fdat (st 106) "_law_ran" (.none) (.str "law_pb0469_01" 2178) (.ref 1346)
theorem fRan_look (p : Params) : (Ks p).lookup 1347 = some (fo (st 106) "_law_ran" (.none) (.str "law_pb0469_01" 2178) (.ref 1346)) := by kernel_rfl
theorem fRan_code (p : Params) : codeIn (Ks p) (.ref 1346) "_law_ran" = true := by kernel_rfl
theorem fRan_at (c : Cx) : FnAt c 1347 fRan := ⟨_, fRan_look _, rfl, fRan_code _⟩
theorem fRan_ok : fdOk fRan = true := by kernel_rfl
noncomputable def fLaw : FuncData := fdat (st 107) "law" (.none) (.str "law_pb0469_01" 2178) (.ref 1353)
theorem fLaw_look (p : Params) : (Ks p).lookup 1354 = some (fo (st 107) "law" (.none) (.str "law_pb0469_01" 2178) (.ref 1353)) := by kernel_rfl
theorem fLaw_code (p : Params) : codeIn (Ks p) (.ref 1353) "law" = true := by kernel_rfl
theorem fLaw_at (c : Cx) : FnAt c 1354 fLaw := ⟨_, fLaw_look _, rfl, fLaw_code _⟩
theorem fLaw_ok : fdOk fLaw = true := by kernel_rfl
noncomputable def fInitLit : FuncData := fdat (me 10 0) "Literal.__init__" (.none) (.str "pagebase.nodes" 239) (.ref 101)
theorem fInitLit_look (p : Params) : (Ks p).lookup 102 = some (fo (me 10 0) "Literal.__init__" (.none) (.str "pagebase.nodes" 239) (.ref 101)) := by kernel_rfl
theorem fInitLit_code (p : Params) : codeIn (Ks p) (.ref 101) "Literal.__init__" = true := by kernel_rfl
theorem fInitLit_at (c : Cx) : FnAt c 102 fInitLit := ⟨_, fInitLit_look _, rfl, fInitLit_code _⟩
theorem fInitLit_ok : fdOk fInitLit = true := by kernel_rfl
noncomputable def fInitCol : FuncData := fdat (me 23 0) "Collate.__init__" (.none) (.str "pagebase.nodes" 239) (.ref 437)
theorem fInitCol_look (p : Params) : (Ks p).lookup 438 = some (fo (me 23 0) "Collate.__init__" (.none) (.str "pagebase.nodes" 239) (.ref 437)) := by kernel_rfl
theorem fInitCol_code (p : Params) : codeIn (Ks p) (.ref 437) "Collate.__init__" = true := by kernel_rfl
theorem fInitCol_at (c : Cx) : FnAt c 438 fInitCol := ⟨_, fInitCol_look _, rfl, fInitCol_code _⟩
theorem fInitCol_ok : fdOk fInitCol = true := by kernel_rfl
noncomputable def fInitVal : FuncData := fdat (me 27 0) "Values.__init__" (.none) (.str "pagebase.nodes" 239) (.ref 541)
theorem fInitVal_look (p : Params) : (Ks p).lookup 542 = some (fo (me 27 0) "Values.__init__" (.none) (.str "pagebase.nodes" 239) (.ref 541)) := by kernel_rfl
theorem fInitVal_code (p : Params) : codeIn (Ks p) (.ref 541) "Values.__init__" = true := by kernel_rfl
theorem fInitVal_at (c : Cx) : FnAt c 542 fInitVal := ⟨_, fInitVal_look _, rfl, fInitVal_code _⟩
theorem fInitVal_ok : fdOk fInitVal = true := by kernel_rfl
noncomputable def fInitCom : FuncData := fdat (me 28 0) "Compound.__init__" (.none) (.str "pagebase.nodes" 239) (.ref 565)
theorem fInitCom_look (p : Params) : (Ks p).lookup 566 = some (fo (me 28 0) "Compound.__init__" (.none) (.str "pagebase.nodes" 239) (.ref 565)) := by kernel_rfl
theorem fInitCom_code (p : Params) : codeIn (Ks p) (.ref 565) "Compound.__init__" = true := by kernel_rfl
theorem fInitCom_at (c : Cx) : FnAt c 566 fInitCom := ⟨_, fInitCom_look _, rfl, fInitCom_code _⟩
theorem fInitCom_ok : fdOk fInitCom = true := by kernel_rfl
noncomputable def fInitKey : FuncData := fdat (me 53 0) "KeyInfo.__init__" (.none) (.str "pagebase.records" 1156) (.ref 734)
theorem fInitKey_look (p : Params) : (Ks p).lookup 735 = some (fo (me 53 0) "KeyInfo.__init__" (.none) (.str "pagebase.records" 1156) (.ref 734)) := by kernel_rfl
theorem fInitKey_code (p : Params) : codeIn (Ks p) (.ref 734) "KeyInfo.__init__" = true := by kernel_rfl
theorem fInitKey_at (c : Cx) : FnAt c 735 fInitKey := ⟨_, fInitKey_look _, rfl, fInitKey_code _⟩
theorem fInitKey_ok : fdOk fInitKey = true := by kernel_rfl
noncomputable def fInitCod : FuncData := fdat (me 90 0) "OperatorCoder.__init__" (.none) (.str "pagebase.code_operators" 1729) (.ref 1061)
theorem fInitCod_look (p : Params) : (Ks p).lookup 1062 = some (fo (me 90 0) "OperatorCoder.__init__" (.none) (.str "pagebase.code_operators" 1729) (.ref 1061)) := by kernel_rfl
theorem fInitCod_code (p : Params) : codeIn (Ks p) (.ref 1061) "OperatorCoder.__init__" = true := by kernel_rfl
theorem fInitCod_at (c : Cx) : FnAt c 1062 fInitCod := ⟨_, fInitCod_look _, rfl, fInitCod_code _⟩
theorem fInitCod_ok : fdOk fInitCod = true := by kernel_rfl
noncomputable def fExpr : FuncData := fdat (me 90 1) "OperatorCoder.expression" (.ref 1063) (.str "pagebase.code_operators" 1729) (.ref 1069)
theorem fExpr_look (p : Params) : (Ks p).lookup 1070 = some (fo (me 90 1) "OperatorCoder.expression" (.ref 1063) (.str "pagebase.code_operators" 1729) (.ref 1069)) := by kernel_rfl
theorem fExpr_code (p : Params) : codeIn (Ks p) (.ref 1069) "OperatorCoder.expression" = true := by kernel_rfl
theorem fExpr_at (c : Cx) : FnAt c 1070 fExpr := ⟨_, fExpr_look _, rfl, fExpr_code _⟩
theorem fExpr_ok : fdOk fExpr = true := by kernel_rfl
noncomputable def fRowOf : FuncData := fdat (me 90 3) "OperatorCoder.row_of" (.none) (.str "pagebase.code_operators" 1729) (.ref 1083)
theorem fRowOf_look (p : Params) : (Ks p).lookup 1084 = some (fo (me 90 3) "OperatorCoder.row_of" (.none) (.str "pagebase.code_operators" 1729) (.ref 1083)) := by kernel_rfl
theorem fRowOf_code (p : Params) : codeIn (Ks p) (.ref 1083) "OperatorCoder.row_of" = true := by kernel_rfl
theorem fRowOf_at (c : Cx) : FnAt c 1084 fRowOf := ⟨_, fRowOf_look _, rfl, fRowOf_code _⟩
theorem fRowOf_ok : fdOk fRowOf = true := by kernel_rfl
noncomputable def fInitPrg : FuncData := fdat (me 93 0) "Program.__init__" (.none) (.str "pagebase.program" 1959) (.ref 1192)
theorem fInitPrg_look (p : Params) : (Ks p).lookup 1193 = some (fo (me 93 0) "Program.__init__" (.none) (.str "pagebase.program" 1959) (.ref 1192)) := by kernel_rfl
theorem fInitPrg_code (p : Params) : codeIn (Ks p) (.ref 1192) "Program.__init__" = true := by kernel_rfl
theorem fInitPrg_at (c : Cx) : FnAt c 1193 fInitPrg := ⟨_, fInitPrg_look _, rfl, fInitPrg_code _⟩
theorem fInitPrg_ok : fdOk fInitPrg = true := by kernel_rfl
noncomputable def fAdd : FuncData := fdat (me 93 1) "Program.add" (.ref 1194) (.str "pagebase.program" 1959) (.ref 1200)
theorem fAdd_look (p : Params) : (Ks p).lookup 1201 = some (fo (me 93 1) "Program.add" (.ref 1194) (.str "pagebase.program" 1959) (.ref 1200)) := by kernel_rfl
theorem fAdd_code (p : Params) : codeIn (Ks p) (.ref 1200) "Program.add" = true := by kernel_rfl
theorem fAdd_at (c : Cx) : FnAt c 1201 fAdd := ⟨_, fAdd_look _, rfl, fAdd_code _⟩
theorem fAdd_ok : fdOk fAdd = true := by kernel_rfl
noncomputable def fLabel : FuncData := fdat (me 93 3) "Program.label" (.none) (.str "pagebase.program" 1959) (.ref 1214)
theorem fLabel_look (p : Params) : (Ks p).lookup 1215 = some (fo (me 93 3) "Program.label" (.none) (.str "pagebase.program" 1959) (.ref 1214)) := by kernel_rfl
theorem fLabel_code (p : Params) : codeIn (Ks p) (.ref 1214) "Program.label" = true := by kernel_rfl
theorem fLabel_at (c : Cx) : FnAt c 1215 fLabel := ⟨_, fLabel_look _, rfl, fLabel_code _⟩
theorem fLabel_ok : fdOk fLabel = true := by kernel_rfl
noncomputable def fPlace : FuncData := fdat (me 93 4) "Program.place" (.none) (.str "pagebase.program" 1959) (.ref 1221)
theorem fPlace_look (p : Params) : (Ks p).lookup 1222 = some (fo (me 93 4) "Program.place" (.none) (.str "pagebase.program" 1959) (.ref 1221)) := by kernel_rfl
theorem fPlace_code (p : Params) : codeIn (Ks p) (.ref 1221) "Program.place" = true := by kernel_rfl
theorem fPlace_at (c : Cx) : FnAt c 1222 fPlace := ⟨_, fPlace_look _, rfl, fPlace_code _⟩
theorem fPlace_ok : fdOk fPlace = true := by kernel_rfl
noncomputable def fReg : FuncData := fdat (me 93 5) "Program.register" (.ref 1223) (.str "pagebase.program" 1959) (.ref 1229)
theorem fReg_look (p : Params) : (Ks p).lookup 1230 = some (fo (me 93 5) "Program.register" (.ref 1223) (.str "pagebase.program" 1959) (.ref 1229)) := by kernel_rfl
theorem fReg_code (p : Params) : codeIn (Ks p) (.ref 1229) "Program.register" = true := by kernel_rfl
theorem fReg_at (c : Cx) : FnAt c 1230 fReg := ⟨_, fReg_look _, rfl, fReg_code _⟩
theorem fReg_ok : fdOk fReg = true := by kernel_rfl
noncomputable def fCursor : FuncData := fdat (me 93 6) "Program.cursor" (.none) (.str "pagebase.program" 1959) (.ref 1236)
theorem fCursor_look (p : Params) : (Ks p).lookup 1237 = some (fo (me 93 6) "Program.cursor" (.none) (.str "pagebase.program" 1959) (.ref 1236)) := by kernel_rfl
theorem fCursor_code (p : Params) : codeIn (Ks p) (.ref 1236) "Program.cursor" = true := by kernel_rfl
theorem fCursor_at (c : Cx) : FnAt c 1237 fCursor := ⟨_, fCursor_look _, rfl, fCursor_code _⟩
theorem fCursor_ok : fdOk fCursor = true := by kernel_rfl
noncomputable def fFinish : FuncData := fdat (me 93 10) "Program.finish" (.none) (.str "pagebase.program" 1959) (.ref 1265)
theorem fFinish_look (p : Params) : (Ks p).lookup 1266 = some (fo (me 93 10) "Program.finish" (.none) (.str "pagebase.program" 1959) (.ref 1265)) := by kernel_rfl
theorem fFinish_code (p : Params) : codeIn (Ks p) (.ref 1265) "Program.finish" = true := by kernel_rfl
theorem fFinish_at (c : Cx) : FnAt c 1266 fFinish := ⟨_, fFinish_look _, rfl, fFinish_code _⟩
theorem fFinish_ok : fdOk fFinish = true := by kernel_rfl
end Mine
namespace Mine
section
variable {c : Cx} {A : Around} {env : Env} {m cm : LM} {H : TM}
theorem W.e0 {e : Expr} {Q : MV → LM → LM → TM → Prop} (v : MV) (hr : Rm A) (q : Q v m cm H) (he : Mine.ev c.w.params env m cm On.none 12 e = some (v, []) := by kernel_rfl) : W c A env m cm H (eval e env) V Q := W.ev hr OnOk.none he trivial q
theorem W.eO {on : On} {e : Expr} {Q : MV → LM → LM → TM → Prop} (v : MV) (hr : Rm A) (ho : OnOk env m cm H on) (q : Q v m cm H) (he : Mine.ev c.w.params env m cm on 12 e = some (v, []) := by kernel_rfl) : W c A env m cm H (eval e env) V Q := W.ev hr ho he trivial q
theorem W.eC {e : Expr} {Q : MV → LM → LM → TM → Prop} (v : MV) (C : List Prop) (hr : Rm A) (hC : AllP C) (q : Q v m cm H) (he : Mine.ev c.w.params env m cm On.none 12 e = some (v, C) := by kernel_rfl) : W c A env m cm H (eval e env) V Q := W.ev hr OnOk.none he hC q
theorem W.es {on : On} {es : List Expr} {pos : Pos} {Z : List MV → LM → LM → TM → Prop} (l : List MV) (hr : Rm A) (ho : OnOk env m cm H on) (q : Z l m cm H) (he : evsWith (Mine.ev c.w.params env m cm on 12) es = some (l, []) := by kernel_rfl) : W c A env m cm H (spliced (backTo pos (starEach es env))) VL Z := W.items hr ho he trivial q
theorem W.esC {on : On} {es : List Expr} {pos : Pos} {Z : List MV → LM → LM → TM → Prop} (l : List MV) (C : List Prop) (hr : Rm A) (ho : OnOk env m cm H on) (hC : AllP C) (q : Z l m cm H) (he : evsWith (Mine.ev c.w.params env m cm on 12) es = some (l, C) := by kernel_rfl) : W c A env m cm H (spliced (backTo pos (starEach es env))) VL Z := W.items hr ho he hC q
theorem W.ec {pos : Pos} {e : Expr} {rest : List Expr} {Z : List MV → LM → LM → TM → Prop}
  (h : W c A env m cm H (eval e env) V (ItP c A env pos rest Z))
  (he : starEach (e :: rest) env = (false, eval e env) :: starEach rest env := by rfl) : W c A env m cm H (spliced (backTo pos (starEach (e :: rest) env))) VL Z := W.items_cons he h
theorem PuN.e {e : Expr} {on : On} (v : MV) (hr : Rm A) (ho : OnOk env m cm H on) (he : Mine.ev c.w.params env m cm on 12 e = some (v, []) := by kernel_rfl) : ∀ F, PuN c A env m cm H F (eval e env) V v := fun F => ev_ok hr ho 12 e v [] he trivial F
variable {Q : MFlow → LM → LM → TM → Prop}
noncomputable abbrev AvP (env : Env) (x : Str) (Q : MFlow → LM → LM → TM → Prop) : MV → LM → LM → TM → Prop := fun v m cm H => storeTo env m cm x v = some (m.set x v, cm) ∧ Q .next (m.set x v) cm H
noncomputable abbrev AvC (env : Env) (x : Str) (Q : MFlow → LM → LM → TM → Prop) : MV → LM → LM → TM → Prop := fun v m cm H => storeTo env m cm x v = some (m, cm.set x v) ∧ Q .next m (cm.set x v) H
theorem W.asgL {on : On} {x : Str} {e : Expr} {p pos : Pos} (v : MV) (hr : Rm A) (ho : OnOk env m cm H on) (q : Q .next (m.set x v) cm H) (he : Mine.ev c.w.params env m cm on 12 e = some (v, []) := by kernel_rfl)
  (hst : storeTo env m cm x v = some (m.set x v, cm) := by kernel_rfl) (hs : swapsWith e (some (.Name x p)) pos.line env = pure false := by rfl) : W c A env m cm H (exec (.Assign [.Name x p] e pos) env) Fl Q :=
 W.asg 12 v [] hr ho he trivial hst hs q
theorem W.asgLC {on : On} {x : Str} {e : Expr} {p pos : Pos} (v : MV) (C : List Prop) (hr : Rm A) (ho : OnOk env m cm H on) (hC : AllP C) (q : Q .next (m.set x v) cm H) (he : Mine.ev c.w.params env m cm on 12 e = some (v, C) := by kernel_rfl)
  (hst : storeTo env m cm x v = some (m.set x v, cm) := by kernel_rfl) (hs : swapsWith e (some (.Name x p)) pos.line env = pure false := by rfl) : W c A env m cm H (exec (.Assign [.Name x p] e pos) env) Fl Q :=
 W.asg 12 v C hr ho he hC hst hs q
theorem W.asgC {on : On} {x : Str} {e : Expr} {p pos : Pos} (v : MV) (hr : Rm A) (ho : OnOk env m cm H on) (q : Q .next m (cm.set x v) H) (he : Mine.ev c.w.params env m cm on 12 e = some (v, []) := by kernel_rfl)
  (hst : storeTo env m cm x v = some (m, cm.set x v) := by kernel_rfl) (hs : swapsWith e (some (.Name x p)) pos.line env = pure false := by rfl) : W c A env m cm H (exec (.Assign [.Name x p] e pos) env) Fl Q :=
 W.asg 12 v [] hr ho he trivial hst hs q
theorem W.asgV {x : Str} {e : Expr} {p pos : Pos} (h : W c A env m cm H (eval e env) V (AvP env x Q)) (hs : swapsWith e (some (.Name x p)) pos.line env = pure false := by rfl) :
  W c A env m cm H (exec (.Assign [.Name x p] e pos) env) Fl Q := W.asgW hs (h.mono fun v m' cm' H' q => ⟨_, _, q.1, q.2⟩)
theorem W.asgVC {x : Str} {e : Expr} {p pos : Pos} (h : W c A env m cm H (eval e env) V (AvC env x Q)) (hs : swapsWith e (some (.Name x p)) pos.line env = pure false := by rfl) :
  W c A env m cm H (exec (.Assign [.Name x p] e pos) env) Fl Q := W.asgW hs (h.mono fun v m' cm' H' q => ⟨_, _, q.1, q.2⟩)
theorem W.re {on : On} {e : Expr} {pos : Pos} (v : MV) (hr : Rm A) (ho : OnOk env m cm H on) (q : Q (.ret v) m cm H) (he : Mine.ev c.w.params env m cm on 12 e = some (v, []) := by kernel_rfl) : W c A env m cm H (exec (.Return (some e) pos) env) Fl Q := W.retp 12 v [] hr ho he trivial q
theorem W.reC {on : On} {e : Expr} {pos : Pos} (v : MV) (C : List Prop) (hr : Rm A) (ho : OnOk env m cm H on) (hC : AllP C) (q : Q (.ret v) m cm H) (he : Mine.ev c.w.params env m cm on 12 e = some (v, C) := by kernel_rfl) : W c A env m cm H (exec (.Return (some e) pos) env) Fl Q := W.retp 12 v C hr ho he hC q
theorem W.ifT {on : On} {t : Expr} {body orelse : List Stmt} {pos : Pos} (C : List Prop) (hr : Rm A) (ho : OnOk env m cm H on) (hC : AllP C) (h : W c A env m cm H (execs body env) Fl Q) (he : Mine.tev c.w.params env m cm on 12 t = some (true, C) := by kernel_rfl) :
  W c A env m cm H (exec (.If t body orelse pos) env) Fl Q := W.ifp 12 true C hr ho he hC (fun _ => h) fun q => by injection q
theorem W.ifF {on : On} {t : Expr} {body orelse : List Stmt} {pos : Pos} (C : List Prop) (hr : Rm A) (ho : OnOk env m cm H on) (hC : AllP C) (h : W c A env m cm H (execs orelse env) Fl Q) (he : Mine.tev c.w.params env m cm on 12 t = some (false, C) := by kernel_rfl) :
  W c A env m cm H (exec (.If t body orelse pos) env) Fl Q := W.ifp 12 false C hr ho he hC (fun q => by injection q) fun _ => h
theorem W.if2 {on : On} {t : Expr} {body orelse : List Stmt} {pos : Pos} (b : Bool) (C : List Prop) (hr : Rm A) (ho : OnOk env m cm H on) (hC : AllP C) (h1 : b = true → W c A env m cm H (execs body env) Fl Q) (h2 : b = false → W c A env m cm H (execs orelse env) Fl Q) (he : Mine.tev c.w.params env m cm on 12 t = some (b, C) := by kernel_rfl) :
  W c A env m cm H (exec (.If t body orelse pos) env) Fl Q := W.ifp 12 b C hr ho he hC h1 h2
theorem W.ex {e : Expr} {pos : Pos} (h : W c A env m cm H (eval e env) V (ExP Q)) (hi : interactive env = false := by rfl) (hs : swapsWith e none pos.line env = pure false := by rfl) : W c A env m cm H (exec (.Expr e pos) env) Fl Q := W.expr hi hs h
end
section
variable {c : Cx} {A : Around}
theorem CallW.val {f v : MV} {args : List MV} {H : TM} {P : TM → Prop} {Q : MV → TM → Prop} (h : CallW c A f args H (fun r G => r = v ∧ P G)) (k : ∀ G, P G → Q v G) : CallW c A f args H Q := h.mono fun r G q => by refine rG q.1 ?_; exact k G q.2
theorem CallW.val2 {f v : MV} {args : List MV} {H G0 : TM} {Q : MV → TM → Prop} (h : CallW c A f args H (fun r G => G = G0 ∧ r = v)) (k : Q v G0) : CallW c A f args H Q := h.mono fun r G q => by (refine rG q.1 ?_; refine rG q.2 ?_); exact k
theorem CallW.vale {f v : MV} {args : List MV} {H : TM} {Q : MV → TM → Prop} (h : CallW c A f args H (fun r G => r = v)) (k : ∀ G, Q v G) : CallW c A f args H Q := h.mono fun r G q => by refine rG q ?_; exact k G
noncomputable def bM (fd : FuncData) (L fa : Addr) (names : List Str) (bargs : List MV) : LM := ((bindAll (callEnvM fd L fa) names bargs LM.nil LM.nil).getD (LM.nil, LM.nil)).1
noncomputable def bC (fd : FuncData) (L fa : Addr) (names : List Str) (bargs : List MV) : LM := ((bindAll (callEnvM fd L fa) names bargs LM.nil LM.nil).getD (LM.nil, LM.nil)).2
theorem CallW.bd {fa : Addr} {fd : FuncData} {args bargs : List MV} {names : List Str} {H : TM} {Q : MV → TM → Prop} (hfn : FnAt c fa fd) (hroom : A.depth < recursionLimit) (hok : fdOk fd = true) (hbind : Binds c fd names args bargs)
  (h : ∀ L, W c (A.deeper (callEnvM fd L fa)) (callEnvM fd L fa) (bM fd L fa names bargs) (bC fd L fa names bargs) H (execs (bdOf fd) (callEnvM fd L fa)) Fl (RetQ Q))
  (hclo : fd.closure = [] := by rfl) (hba : ∀ L, (bindAll (callEnvM fd L fa) names bargs LM.nil LM.nil).isSome = true := by intro _; kernel_rfl) :
  CallW c A (.raw (.ref fa)) args H Q := CallW.body hfn hroom hok hclo hbind fun L => by
 obtain ⟨⟨m1, cm1⟩, e⟩ := Option.isSome_iff_exists.mp (hba L)
 refine i2a2 m1 cm1 e ?_
 have := h L
 unfold bM bC at this
 rw [e] at this
 exact this
noncomputable def on1 (n0 : Str) (o : Own) : On := fun n => if n = n0 then some o else none
theorem OnOk.one {env : Env} {m cm : LM} {H : TM} (n0 : Str) (o : Own) (a : Addr) (k : o.at H a) (h : nameV env m cm n0 = some (.raw (.ref a)) := by kernel_rfl) : OnOk env m cm H (on1 n0 o) := fun n o' e => by
 unfold on1 at e
 split at e
 ·rename_i q; (injection e with e; subst e); subst q; exact i1a2 a h k
 ·injection e
end
end Mine
end
section
set_option backward.match.sparseCases false
open PySem PySem.W PySem.W.X PyProof.Rows PySem.Calls
open Builtin Builtin.ObjectAttr
namespace Mine
noncomputable def Wt.mv : Wt → MV
 | .none => .none
 | .int i => .int i
 | .str s => .str s
noncomputable def keyMV (cols : List Str) : MV := .obj 759 ["collations", "descending"] [.tup (cols.map .str), .tup (cols.map fun _ => .bool false)]
noncomputable def insMV : Ins → List MV
 | .value t w => [.str "Value", .int 0, .int t, .int 0, w.mv]
 | .record f m r => [.str "MakeRecord", .int f, .int m, .int r, .none]
 | .result f m => [.str "ResultRow", .int f, .int m, .int 0, .none]
 | .openE c cols => [.str "OpenEphemeral", .int c, .int 0, .int 0, keyMV cols]
 | .column c a r => [.str "Column", .int c, .int a, .int r, .none]
 | .rewind c l => [.str "Rewind", .int c, .int l, .int 0, .none]
 | .next c l => [.str "Next", .int c, .int l, .int 0, .none]
 | .found b c l f m => [.str (if b then "Found" else "NotFound"), .int c, .int l, .int f, .int m]
 | .insert c r => [.str "IdxInsert", .int c, .int r, .int 0, .none]
 | .delete c f m => [.str "IdxDelete", .int c, .int f, .int m, .none]
 | .halt => [.str "Halt", .int 0, .int 0, .int 0, .none]
structure Pg where
 pa : Addr
 pd : Addr
 oa : Addr
 la : Addr
 ca : Addr
 cd : Addr
 bv : Addr
noncomputable def progAttrs (g : Pg) (q : PS) : List (Str × MV) := [("ops", .raw (.ref g.oa)), ("columns", .lst []), ("registers", .int q.regs), ("cursors", .int q.curs), ("slots", .int 0), ("writes", .bool false), ("labels", .raw (.ref g.la)), ("next_label", .int q.lab)]
noncomputable def labMV (l : List (Int × Int)) : List (Int × MV) := l.map fun x => (x.1, .int x.2)
noncomputable def OpsAt (H : TM) : List Addr → List Ins → Prop
 | [], [] => True
 | a :: os, i :: is => H a = some (.list (insMV i)) ∧ OpsAt H os is
 | _, _ => False
structure St (g : Pg) (H : TM) (q : PS) : Prop where
 hp : H g.pa = some (.exact (instObj 1269 g.pd))
 hd : H g.pd = some (.attrs (progAttrs g q))
 ops : ∃ os : List Addr, H g.oa = some (.plist (os.map fun a => .raw (.ref a))) ∧ os.Nodup ∧ OpsAt H os q.ops
 hl : H g.la = some (.idict (labMV q.labels))
 hc : H g.ca = some (.exact (instObj 1173 g.cd))
 hcd : H g.cd = some (.attrs [("program", .raw (.ref g.pa)), ("bindings", .raw (.ref g.bv)), ("hints", .none)])
 cpd : g.cd ≠ g.pd
theorem OpsAt.len {H : TM} : ∀ {os : List Addr} {is : List Ins}, OpsAt H os is → os.length = is.length
 | [], [] => fun _ => rfl
 | _ :: _, _ :: _ => by intro h; simp [OpsAt.len h.2]
 | [], _ :: _ => fun h => h.elim
 | _ :: _, [] => fun h => h.elim
theorem OpsAt.upd {H : TM} {a : Addr} {x : MObj} : ∀ {os : List Addr} {is : List Ins}, OpsAt H os is → a ∉ os → OpsAt (H.upd a x) os is
 | [], [] => fun _ _ => trivial
 | b :: os, i :: is => fun h hn => ⟨by refine rG (TM.upd_ne (fun e => hn (by rw [e]; exact .head _))) ?_; exact h.1, OpsAt.upd h.2 fun q => hn (.tail _ q)⟩
 | [], _ :: _ => fun h _ => h.elim
 | _ :: _, [] => fun h _ => h.elim
theorem OpsAt.mem {H : TM} {a : Addr} : ∀ {os : List Addr} {is : List Ins}, OpsAt H os is → a ∈ os → ∃ i, H a = some (.list (insMV i))
 | b :: os, i :: is => by
  intro h hm
  rcases List.mem_cons.mp hm with rfl | hm
  ·exact i1a1 i h.1
  ·exact h.2.mem hm
 | [], [] => by intro _ hm; contradiction
 | [], _ :: _ => fun h _ => h.elim
 | _ :: _, [] => fun h _ => h.elim
theorem OpsAt.snoc {H : TM} {a : Addr} {i : Ins} (ha : H a = some (.list (insMV i))) : ∀ {os : List Addr} {is : List Ins}, OpsAt H os is → OpsAt H (os ++ [a]) (is ++ [i])
 | [], [] => fun _ => ⟨ha, trivial⟩
 | b :: os, j :: is => fun h => ⟨h.1, OpsAt.snoc ha h.2⟩
 | [], _ :: _ => fun h => h.elim
 | _ :: _, [] => fun h => h.elim
namespace St
variable {g : Pg} {H : TM} {q q' : PS}
theorem notOp (h : St g H q) {a : Addr} {x : MObj} (ha : H a = some x) (hx : ∀ l, x ≠ .list l) {os : List Addr} (ho : OpsAt H os q.ops) : a ∉ os := fun hm => by
 refine x1a1 (ho.mem hm) fun i e => ?_
 rw [ha] at e; (injection e with e; subst e); exact hx _ rfl
theorem nums (h : St g H q) (e1 : q'.ops = q.ops) (e2 : q'.labels = q.labels) : St g (H.upd g.pd (.attrs (progAttrs g q'))) q' := by
 refine x1a3 h.ops fun os o1 o2 o3 => ?_
 have hd := h.hd
 have n1 : g.pa ≠ g.pd := by intro e; have := h.hp; rw [e, hd] at this; (injection this with this; injection this)
 have n2 : g.oa ≠ g.pd := by intro e; rw [e, hd] at o1; (injection o1 with o1; injection o1)
 have n3 : g.la ≠ g.pd := by intro e; have := h.hl; rw [e, hd] at this; (injection this with this; injection this)
 have n4 : g.ca ≠ g.pd := by intro e; have := h.hc; rw [e, hd] at this; (injection this with this; injection this)
 exact ⟨by refine rG (TM.upd_ne n1) ?_; exact h.hp, TM.upd_self _ _ _, ⟨os, by refine rG (TM.upd_ne n2) ?_; exact o1, o2, by refine rG e1 ?_; exact o3.upd (h.notOp hd (fun l e => by injection e) o3)⟩,
  by (refine rG (TM.upd_ne n3) ?_; refine rG e2 ?_); exact h.hl, by refine rG (TM.upd_ne n4) ?_; exact h.hc, by refine rG (TM.upd_ne h.cpd) ?_; exact h.hcd, h.cpd⟩
theorem push (h : St g H q) {a : Addr} {i : Ins} (ha : H a = none) {os : List Addr} (o1 : H g.oa = some (.plist (os.map fun a => .raw (.ref a)))) (o2 : os.Nodup) (o3 : OpsAt H os q.ops) :
  St g ((H.upd a (.list (insMV i))).upd g.oa (.plist (os.map (fun a => .raw (.ref a)) ++ [.raw (.ref a)]))) (q.add i) := by
 have hne : ∀ {b : Addr} {x : MObj}, H b = some x → b ≠ a := fun e q => by rw [q, ha] at e; injection e
 have keep : ∀ {b : Addr} {x : MObj}, H b = some x → b ≠ g.oa → ((H.upd a (.list (insMV i))).upd g.oa (.plist (os.map (fun a => .raw (.ref a)) ++ [.raw (.ref a)]))) b = some x := fun e n => by
  (refine rG (TM.upd_ne n) ?_; refine rG (TM.upd_ne (hne e)) ?_); exact e
 have noa : ∀ {b : Addr} {x : MObj}, H b = some x → (∀ l, x ≠ .plist l) → b ≠ g.oa := fun e n q => by rw [q, o1] at e; (injection e with e; subst e); exact n _ rfl
 have ano : a ∉ os := fun hm => by refine x1a1 (o3.mem hm) fun j e => ?_; rw [ha] at e; injection e
 have aoa : a ≠ g.oa := by first | exact TM.neS o1 ha | exact (TM.neS o1 ha).symm | (rintro rfl; rw [ha] at o1; cases o1)
 have oaos : g.oa ∉ os := h.notOp o1 (fun l e => by injection e) o3
 refine ⟨keep h.hp (noa h.hp (fun l e => by injection e)), keep h.hd (noa h.hd (fun l e => by injection e)), ⟨os ++ [a], ?_, ?_, ?_⟩, keep h.hl (noa h.hl (fun l e => by injection e)), keep h.hc (noa h.hc (fun l e => by injection e)), keep h.hcd (noa h.hcd (fun l e => by injection e)), h.cpd⟩
 ·(refine rG (TM.upd_self ..) ?_; refine rG List.map_append ?_); rfl
 ·rw [List.nodup_append]; exact ⟨o2, by simp, fun x hx y hy e => by simp at hy; subst hy; subst e; exact ano hx⟩
 ·have h1 : OpsAt (H.upd a (.list (insMV i))) (os ++ [a]) (q.ops ++ [i]) := (o3.upd ano).snoc (TM.upd_self _ _ _)
  refine h1.upd ?_
  intro hm
  rcases List.mem_append.mp hm with q | q
  ·exact oaos q
  ·simp at q; exact aoa q.symm
theorem lab (h : St g H q) (l : Int) (v : Int) (e1 : q'.ops = q.ops) (e2 : q'.labels = q.labels ++ [(l, v)]) (e3 : q'.regs = q.regs) (e4 : q'.curs = q.curs) (e5 : q'.lab = q.lab) : St g (H.upd g.la (.idict (labMV q.labels ++ [(l, .int v)]))) q' := by
 refine x1a3 h.ops fun os o1 o2 o3 => ?_
 have hl := h.hl
 have noa : ∀ {b : Addr} {x : MObj}, H b = some x → (∀ l, x ≠ .idict l) → b ≠ g.la := fun e n q => by rw [q, hl] at e; (injection e with e; subst e); exact n _ rfl
 have keep : ∀ {b : Addr} {x y : MObj}, H b = some x → (∀ l, x ≠ .idict l) → (H.upd g.la y) b = some x := fun e n => by refine rG (TM.upd_ne (noa e n)) ?_; exact e
 have hpa : progAttrs g q' = progAttrs g q := by simp only [progAttrs, e3, e4, e5]
 refine ⟨keep h.hp (fun l e => by injection e), by refine rG hpa ?_; exact keep h.hd (fun l e => by injection e), ⟨os, keep o1 (fun l e => by injection e), o2, by refine rG e1 ?_; exact o3.upd (h.notOp hl (fun l e => by injection e) o3)⟩, ?_, keep h.hc (fun l e => by injection e), keep h.hcd (fun l e => by injection e), h.cpd⟩
 (refine rG (TM.upd_self ..) ?_; refine rG e2 ?_); simp [labMV]
end St
section
variable {c : Cx} {A : Around} {g : Pg} {H : TM} {q : PS}
theorem St.on {env : Env} {m cm : LM} (h : St g H q) (n0 : Str) (hn : nameV env m cm n0 = some (.raw (.ref g.pa)) := by kernel_rfl) : OnOk env m cm H (on1 n0 (.obj 1269 (progAttrs g q))) := OnOk.one n0 _ g.pa ⟨g.pd, h.hp, h.hd⟩ hn
theorem reg_ok (hA : Room A 1) (h : St g H q) {n : Int} {args : List MV} (hb : Binds c fReg ["self", "many"] args [.raw (.ref g.pa), .int n]) :
  CallW c A (.raw (.ref 1230)) args H (fun r H' => r = .int q.regs ∧ St g H' (q.reg n)) := by
 refine CallW.bd (fReg_at c) hA.depth fReg_ok hb fun L => ?_
 have hr := (hA.deeper (callEnvM fReg L 1230)).rm
 refine W.cons (W.asgL (.int q.regs) hr (h.on "self") ?_)
 refine W.cons (W.setAttr (W.e0 (.int (q.regs + n)) hr (W.e0 (.raw (.ref g.pa)) hr ⟨g.pa, 1269, g.pd, progAttrs g q, rfl, h.hp, h.hd, by kernel_rfl, Nat.le_of_ble_eq_true rfl, ?_⟩)))
 refine W.cons (W.re (.int q.regs) hr OnOk.none ?_)
 exact ⟨rfl, h.nums (q' := q.reg n) rfl rfl⟩
theorem bReg0 {x : MV} : Binds c fReg ["self", "many"] [x] [x, .int 1] := fun F T s vals r hv => by
 (refine x1a2 hv.one fun a e91 h1 => ?_; subst e91)
 exact i1a2 ([a, .int 1 2109]) (kp_binds r.kin fun S => by kernel_rfl) (.cons h1 (.cons vr_int VRs.nil))
theorem bReg1 {x y : MV} : Binds c fReg ["self", "many"] [x, y] [x, y] := bind2 fun p S a b => by kernel_rfl
theorem cursor_ok (hA : Room A 1) (h : St g H q) : CallW c A (.raw (.ref 1237)) [.raw (.ref g.pa)] H (fun r H' => r = .int q.curs ∧ St g H' q.cursor) := by
 refine CallW.bd (names := ["self"]) (fCursor_at c) hA.depth fCursor_ok (bind1 fun p S a => by kernel_rfl) fun L => ?_
 have hr := (hA.deeper (callEnvM fCursor L 1237)).rm
 refine W.cons (W.asgL (.int q.curs) hr (h.on "self") ?_)
 refine W.cons (W.setAttr (W.e0 (.int (q.curs + 1)) hr (W.e0 (.raw (.ref g.pa)) hr ⟨g.pa, 1269, g.pd, progAttrs g q, rfl, h.hp, h.hd, by kernel_rfl, Nat.le_of_ble_eq_true rfl, ?_⟩)))
 refine W.cons (W.re (.int q.curs) hr OnOk.none ?_)
 exact ⟨rfl, h.nums (q' := q.cursor) rfl rfl⟩
theorem label_ok (hA : Room A 1) (h : St g H q) : CallW c A (.raw (.ref 1215)) [.raw (.ref g.pa)] H (fun r H' => r = .int q.lab ∧ St g H' q.label) := by
 refine CallW.bd (names := ["self"]) (fLabel_at c) hA.depth fLabel_ok (bind1 fun p S a => by kernel_rfl) fun L => ?_
 have hr := (hA.deeper (callEnvM fLabel L 1215)).rm
 refine W.cons (W.asgL (.int q.lab) hr (h.on "self") ?_)
 refine W.cons (W.setAttr (W.e0 (.int (q.lab - 1)) hr (W.e0 (.raw (.ref g.pa)) hr ⟨g.pa, 1269, g.pd, progAttrs g q, rfl, h.hp, h.hd, by kernel_rfl, Nat.le_of_ble_eq_true rfl, ?_⟩)))
 refine W.cons (W.re (.int q.lab) hr OnOk.none ?_)
 exact ⟨rfl, h.nums (q' := q.label) rfl rfl⟩
theorem add_ok (hA : Room A 1) (h : St g H q) (i : Ins) (hz : q.size < 900000) {args : List MV} (hb : Binds c fAdd ["self", "name", "p1", "p2", "p3", "p4"] args (.raw (.ref g.pa) :: insMV i)) :
  CallW c A (.raw (.ref 1201)) args H (fun r H' => St g H' (q.add i)) := by
 have hz1 : q.ops.length < 900000 := by unfold PS.size at hz; lia
 obtain ⟨n, p1, p2, p3, p4, hi⟩ : ∃ n p1 p2 p3 p4, insMV i = [n, p1, p2, p3, p4] := by cases i <;> exact i5a1 _ _ _ _ _ rfl
 rw [hi] at hb
 refine CallW.bd (fAdd_at c) hA.depth fAdd_ok hb fun L => ?_
 have hr := (hA.deeper (callEnvM fAdd L 1201)).rm
 refine x1a3 h.ops fun os o1 o2 o3 => ?_
 have hlen := o3.len
 refine W.cons (W.ex (W.meth (.raw (.ref g.oa)) (.builtin "list.append") (by kernel_rfl) (PuN.e (.raw (.ref g.oa)) hr (h.on "self")) (MethG.append o1) (W.ec (W.listO (W.es [n, p1, p2, p3, p4] hr OnOk.none ⟨by show 5 < 1000000; decide, fun a ha => ?_⟩)))))
 refine W.items_nil ?_
 have h2 := h.push (i := i) ha o1 o2 o3
 have aoa : a ≠ g.oa := by first | exact TM.neS o1 ha | exact (TM.neS o1 ha).symm | (rintro rfl; rw [ha] at o1; cases o1)
 intro F K s fv vals r hf hv
 have r' := r.weak (a := a) (l := [n, p1, p2, p3, p4]) (TM.upd_self _ _ _)
 have e2 : MObj.list [n, p1, p2, p3, p4] = .list (insMV i) := by (refine rG hi ?_; rfl)
 rw [TM.upd_upd, e2] at r'
 refine CallP.append (l := os.map fun a => .raw (.ref a)) (by refine rG (TM.upd_ne (Ne.symm aoa)) ?_; exact o1) (by refine rG (List.length_map ..) ?_; lia) ?_ F K s fv vals r' hf hv
 refine x1a3 h2.ops fun os2 p1' p2' p3' => ?_
 refine W.cons (W.ret (W.bin (W.callNm (.raw (.builtin "len")) (by kernel_rfl) (by kernel_rfl) (W.ec (W.eO (.raw (.ref g.oa)) hr (h2.on "self") (W.items_nil (CallP.lenO p1' (.inr rfl) (by (refine rG (List.length_map ..) ?_; refine rG p3'.len ?_); show (q.ops ++ [i]).length < 1000000; (refine rG List.length_append ?_; refine rG List.length_singleton ?_); lia)
  (W.e0 (.int 1) hr ⟨_, [], rfl, trivial, h2⟩))))))))
end
end Mine
end
section
open PySem PySem.W PySem.W.X PyProof.Rows PySem.Calls
open Builtin Builtin.ObjectAttr
namespace Mine
section
variable {c : Cx} {A : Around} {env : Env} {m cm : LM} {H : TM}
theorem cmpO_in {k : Int} {l : List (Int × MV)} {b : Bool} (h : (look l k).isSome = b) : cmpO .In (.int k) (.idict l) = some (b, []) := by subst h; rfl
inductive CmpO (op : CmpOp) (Z : Bool → LM → LM → TM → Prop) (a b : MV) (m cm : LM) (H : TM) : Prop
 | mk (ad : Addr) (o : Own) (z : Bool) (C : List Prop) (e : b = .raw (.ref ad)) (ho : Own.at H ad o) (hz : cmpO op a o = some (z, C)) (hC : AllP C) (hq : Z z m cm H) : CmpO op Z a b m cm H
theorem W.testCmpO {l r : Expr} {op : CmpOp} {pos : Pos} {Z : Bool → LM → LM → TM → Prop} (hu : Rm A) {whole : Sem Value}
  (h : W c A env m cm H (eval l env) V (EvP c A env r (CmpO op Z)))
  (hm : behindInMarks op r = false := by rfl) :
  W c A env m cm H (isTrue (.Compare l [op] [r] pos) env whole) Bo Z := fun F K s r0 =>
 wpAny_isTrue_Compare1 (W.wp h r0 fun F1 x m1 cm1 H1 a s1 k1 r1 v1 q1 =>
  W.wp q1 r1 fun F2 y m2 cm2 H2 b s2 k2 rr v2 qq => by
   obtain ⟨T, r2, l2⟩ := rr
   obtain ⟨ad, o, z, C, eb, ho, e, hC, q2⟩ := qq
   subst eb
   simp only [V, VR] at v2
   subst v2
   refine PostN.wp (pu_cmpO hu.2 e hC (VR.mono k2 _ v1) r2 (Own.up l2.hT ho)) fun F3 u s3 k3 r3 v3 => ?_
   simp only [V, VR] at v3
   subst v3
   exact wpAny_truthy_bool ⟨F3, z, m2, cm2, H2, k1.trans (k2.trans k3), ⟨T, r3, l2.up k3⟩, rfl, q2⟩) hm
end
theorem putL_new {K α : Type} [DecidableEq K] {l : List (K × α)} {k : K} {v : α} (h : ∀ x ∈ l, x.1 ≠ k) : putL l k v = l ++ [(k, v)] := by
 unfold putL
 rw [if_neg]
 intro e
 refine x1a2 (List.any_eq_true.mp e) fun x hx hk => ?_
 exact h x hx (of_decide_eq_true hk)
theorem look_new {K α : Type} [DecidableEq K] : ∀ {l : List (K × α)} {k : K}, (∀ x ∈ l, x.1 ≠ k) → look l k = none
 | [] => by rename_i _; intro _; exact rfl
 | (a, v) :: r => by
  rename_i k
  intro h
  (rewrite [look]; refine rG (if_neg (h (a, v) (.head _))) ?_)
  exact look_new fun x hx => h x (.tail _ hx)
section
variable {c : Cx} {A : Around} {g : Pg} {H : TM} {q : PS}
theorem place_ok (hA : Room A 1) (h : St g H q) {l : Int} (h0 : l < 0) (h1 : q.lab < l) (hn : ∀ x ∈ q.labels, x.1 ≠ l) (hz : q.size < 900000) :
  CallW c A (.raw (.ref 1222)) [.raw (.ref g.pa), .int l] H (fun r H' => St g H' (q.place l)) := by
 have hz1 : q.ops.length < 900000 ∧ q.labels.length < 900000 := by unfold PS.size at hz; lia
 have hn' : ∀ x ∈ labMV q.labels, x.1 ≠ l := fun x hx => by
  (refine x1a2 (List.mem_map.mp hx) fun y hy e92 => ?_; subst e92); exact hn y hy
 refine CallW.bd (names := ["self", "label"]) (fPlace_at c) hA.depth fPlace_ok (bind2 fun p S a b => by kernel_rfl) fun L => ?_
 have hr := (hA.deeper (callEnvM fPlace L 1222)).rm
 refine x1a3 h.ops fun os o1 o2 o3 => ?_
 have hlen := o3.len
 refine W.cons (W.if2 (decide (l ≥ 0) || (decide (l ≤ q.lab) || false)) [decide (l ≥ 0) = false → AllP [decide (l ≤ q.lab) = false → AllP []]] hr (h.on "self") ⟨fun _ => ⟨fun _ => trivial, trivial⟩, trivial⟩ (fun e => by simp at e; lia) fun _ => W.nil ?_)
 refine W.cons (W.ite (W.testCmpO hr (W.e0 (.int l) hr (W.eO (.raw (.ref g.la)) hr (h.on "self") ⟨g.la, .idict (labMV q.labels), false, [], rfl, .inl h.hl, cmpO_in (by refine rG (look_new hn') ?_; rfl), trivial, ?_⟩))))
 refine W.nil ?_
 refine W.cons (W.setSub rfl (W.callNm (.raw (.builtin "len")) (by kernel_rfl) (by kernel_rfl) (W.ec (W.eO (.raw (.ref g.oa)) hr (h.on "self") (W.items_nil (CallP.lenO o1 (.inr rfl) (by refine rG (List.length_map ..) ?_; lia)
  (W.eO (.raw (.ref g.la)) hr (h.on "self") (W.e0 (.int l) hr ⟨g.la, _, _, _, rfl, h.hl, rfl, ⟨by (rewrite [labMV]; refine rG (List.length_map ..) ?_); lia, trivial⟩, ?_⟩))))))))
 refine W.nil ?_
 (refine rG (putL_new hn') ?_; refine rG (List.length_map ..) ?_; refine rG hlen ?_)
 exact h.lab l _ rfl rfl rfl rfl rfl
theorem Room.made {A A' : Around} {k : Nat} (h : Room A (k + 1)) (e1 : A'.handled = A.handled) (e2 : A'.depth = A.depth + 1) (e3 : A'.units = A.units + 1) : Room A' k :=
 ⟨by refine rG e1 ?_; exact h.1, by refine rG e3 ?_; have := h.2.1; lia, by refine rG e2 ?_; have := h.2.2; lia⟩
theorem CallW.newObj {C f : Addr} {k : Nat} {args : List MV} {l : List (Str × MV)} (H : TM) (hA : Room A (k + 1)) (h : ∀ (A' : Around) a d H, Room A' k → H a = some (.exact (instObj C d)) → H d = some (.attrs []) → CallW c A' (.raw (.ref f)) (.raw (.ref a) :: args) H (fun r H' => r = .none ∧ H' = H.upd d (.attrs l)))
  (hm : makesIn (Ks c.w.params) C = true := by kernel_rfl) (hi : findIn (Ks c.w.params) (.ref C) "__init__" = some (some (.ref f)) := by kernel_rfl) (hf : typeIn (Ks c.w.params) (.ref f) = some (.type "function") := by kernel_rfl) :
  CallW c A (.raw (.ref C)) args H (fun r H' => H' = H ∧ r = .obj C (l.map (·.1)) (l.map (·.2))) := by
 refine CallW.any (CallW.frozenObj (CallW.make hm hi hf fun A' a d e1 e2 e3 ha hd hne => ?_)) H
 refine (h A' a d _ (hA.made e1 e2 e3) (TM.upd_self _ _ _) (by (refine rG (TM.upd_ne (Ne.symm hne)) ?_; refine rG (TM.upd_self ..) ?_; rfl))).mono fun r H' hq => x0a2 hq fun q1 q2 => ⟨q1, ?_⟩
 subst q2
 refine ⟨a, d, C, l, rfl, ?_, TM.upd_self _ _ _, ?_, rfl⟩
 ·(refine rG (TM.upd_ne hne) ?_; refine rG (TM.upd_self ..) ?_; rfl)
 ·funext b
  simp only [TM.del, TM.upd, TM.nil]
  by_cases h1 : b = d
  ·(refine rG (if_pos h1) ?_; rfl)
  ·refine rG (if_neg h1) ?_
   by_cases h2 : b = a
   ·(refine rG (if_pos h2) ?_; rfl)
   ·(refine rG (if_neg h2) ?_; refine rG (if_neg h1) ?_; refine rG (if_neg h2) ?_; refine rG (if_neg h1) ?_; rfl)
theorem W.selfSet {env : Env} {m cm : LM} {H : TM} {a d C : Addr} {l : List (Str × MV)} {value : Expr} {attr : Str} {p p2 pos : Pos} {Q : MFlow → LM → LM → TM → Prop} (v : MV) (Cs : List Prop) (hr : Rm A) (hC : AllP Cs) (ha : H a = some (.exact (instObj C d))) (hd : H d = some (.attrs l)) (hl : l.length ≤ 100)
  (q : Q .next m cm (H.upd d (.attrs (setL l attr v)))) (he : Mine.ev c.w.params env m cm On.none 12 value = some (v, Cs) := by kernel_rfl) (hself : nameV env m cm "self" = some (.raw (.ref a)) := by kernel_rfl) (hst : storable (Ks c.w.params) C attr = true := by kernel_rfl)
  (hs : swapsWith value (some (.Attribute (.Name "self" p2) attr p)) pos.line env = pure false := by rfl) : W c A env m cm H (exec (.Assign [.Attribute (.Name "self" p2) attr p] value pos) env) Fl Q :=
 W.setAttr (W.ev hr OnOk.none he hC (W.ofPuN (fun F => puN_name F hself) ⟨a, C, d, l, rfl, ha, hd, hst, hl, q⟩)) hs
theorem lit_ok (hA : Room A 2) {v : MV} (H : TM) : CallW c A (.raw (.ref 112)) [v] H (fun r H' => H' = H ∧ r = .obj 112 ["value"] [v]) :=
 CallW.newObj (f := 102) (l := [("value", v)]) H hA (fun A' a d H hA' ha hd => by
  refine CallW.bd (names := ["self", "value"]) (fInitLit_at c) hA'.depth fInitLit_ok (bind2 fun p S a b => by kernel_rfl) fun L => ?_
  have hr := (hA'.deeper (callEnvM fInitLit L 102)).rm
  exact W.cons (W.selfSet v [] hr trivial ha hd (Nat.zero_le _) (W.nil ⟨rfl, rfl⟩)))
theorem col_ok (hA : Room A 2) {v w : MV} (H : TM) : CallW c A (.raw (.ref 448)) [v, w] H (fun r H' => H' = H ∧ r = .obj 448 ["value", "collation"] [v, w]) :=
 CallW.newObj (f := 438) (l := [("value", v), ("collation", w)]) H hA (fun A' a d H hA' ha hd => by
  refine CallW.bd (names := ["self", "value", "collation"]) (fInitCol_at c) hA'.depth fInitCol_ok (bind3 fun p S a b d => by kernel_rfl) fun L => ?_
  have hr := (hA'.deeper (callEnvM fInitCol L 438)).rm
  have hne : a ≠ d := by first | exact TM.neS hd ha | exact (TM.neS hd ha).symm | (rintro rfl; rw [ha] at hd; (injection hd with hd; injection hd))
  refine W.cons (W.selfSet v [] hr trivial ha hd (Nat.zero_le _) ?_)
  refine W.cons (W.selfSet (a := a) (d := d) (C := 448) w [] hr trivial (by refine rG (TM.upd_ne hne) ?_; exact ha) (TM.upd_self _ _ _) (Nat.le_of_ble_eq_true rfl) (W.nil ⟨rfl, ?_⟩))
  refine rG TM.upd_upd ?_; rfl)
theorem vals_ok (hA : Room A 2) {v : MV} (H : TM) : CallW c A (.raw (.ref 550)) [v] H (fun r H' => H' = H ∧ r = .obj 550 ["rows"] [v]) :=
 CallW.newObj (f := 542) (l := [("rows", v)]) H hA (fun A' a d H hA' ha hd => by
  refine CallW.bd (names := ["self", "rows"]) (fInitVal_at c) hA'.depth fInitVal_ok (bind2 fun p S a b => by kernel_rfl) fun L => ?_
  have hr := (hA'.deeper (callEnvM fInitVal L 542)).rm
  exact W.cons (W.selfSet v [] hr trivial ha hd (Nat.zero_le _) (W.nil ⟨rfl, rfl⟩)))
theorem initCom_ok (hA : Room A 1) {a d : Addr} {x y z : MV} {H : TM} (ha : H a = some (.exact (instObj 576 d))) (hd : H d = some (.attrs [])) :
  CallW c A (.raw (.ref 566)) [.raw (.ref a), x, y, z] H (fun r H' => r = .none ∧ H' = H.upd d (.attrs [("op", x), ("left", y), ("right", z)])) := by
 refine CallW.bd (names := ["self", "op", "left", "right"]) (fInitCom_at c) hA.depth fInitCom_ok (bind4 fun p S a b d e => by kernel_rfl) fun L => ?_
 have hr := (hA.deeper (callEnvM fInitCom L 566)).rm
 have hne : a ≠ d := by first | exact TM.neS hd ha | exact (TM.neS hd ha).symm | (rintro rfl; rw [ha] at hd; (injection hd with hd; injection hd))
 refine W.cons (W.selfSet x [] hr trivial ha hd (Nat.zero_le _) ?_)
 refine W.cons (W.selfSet (a := a) (d := d) (C := 576) y [] hr trivial (by refine rG (TM.upd_ne hne) ?_; exact ha) (TM.upd_self _ _ _) (Nat.le_of_ble_eq_true rfl) ?_)
 refine rG TM.upd_upd ?_
 refine W.cons (W.selfSet (a := a) (d := d) (C := 576) z [] hr trivial (by refine rG (TM.upd_ne hne) ?_; exact ha) (TM.upd_self _ _ _) (Nat.le_of_ble_eq_true rfl) (W.nil ⟨rfl, ?_⟩))
 refine rG TM.upd_upd ?_; rfl
end
end Mine
namespace Mine
open Builtin.Str
section
variable {c : Cx} {A : Around} {H : TM}
theorem fold_ok (hA : Room A 1) {s : Str} (hs : ∀ k ∈ s.cps.toList, 97 ≤ k ∧ k < 123) (h2 : 2 ≤ s.cps.size) (hl : s.cps.size < 100) :
  CallW c A (.raw (.ref 605)) [.str s] H (fun r H' => H' = H ∧ r = .str (glued "" (s.cps.toList.map fun k => ⟨#[k]⟩))) := by
 refine CallW.bd (names := ["name"]) (fFold_at c) hA.depth fFold_ok (bind1 fun p S a => by kernel_rfl) fun L => ?_
 have hr := (hA.deeper (callEnvM fFold L 605)).rm
 refine W.cons (W.ret (W.meth (.str "") (.builtin "str.join") (by kernel_rfl) (PuN.e (.str "") hr OnOk.none) MethG.join (W.ec ?_)))
 have hasc : s.cps.all (· < 128) = true := by
  rw [Array.all_eq_true']; intro k hk; have := hs k (by simpa using hk); simp; lia
 refine W.comp (fun rest acc H' => H' = H ∧ acc ++ rest = s.cps.toList.map (fun k => MV.str ⟨#[k]⟩)) hr.1 (by kernel_rfl) (by kernel_rfl) (by kernel_rfl)
  (W.e0 (.str s) hr ⟨_, by (rewrite [iterV]; refine rG (if_pos hasc) ?_; rfl), by simp; lia, ⟨rfl, rfl⟩, fun C m0 v rest acc H' hq => x0a2 hq fun h1 h3 => ?_, fun acc H' hq => x0a2 hq fun h1 h3 => ?_⟩)
 ·have hm : v ∈ s.cps.toList.map (fun k => MV.str ⟨#[k]⟩) := by refine rL h3 ?_; simp
  (refine x1a2 (List.mem_map.mp hm) fun k hk e92 => ?_; subst e92)
  have hk' := hs k hk
  have hlen : acc.length < 1000000 := by have := congrArg List.length h3; simp at this; lia
  refine i1a2 (m0.set "sign" (.str ⟨#[k]⟩)) (by kernel_rfl) (W.ifExp (W.testChain2 hr (W.e0 (.str "A") hr (W.e0 (.str ⟨#[k]⟩) hr ⟨_, _, rfl, trivial, fun e => ?_, fun e => W.e0 (.str "Z") hr ⟨_, _, rfl, trivial, ?_⟩⟩))))
  ·exfalso
   have : ¬ ([k] : List Nat) < [65] := by simp [List.cons_lt_cons_iff]; lia
   have e' : (!decide (([k] : List Nat) < [65])) = false := e
   simp [this] at e'
  ·have : ([90] : List Nat) < [k] := by simp [List.cons_lt_cons_iff]; lia
   have e' : (!decide (([90] : List Nat) < [k])) = false := by simp [this]
   have e2 : (!decide ((Str.ofString "Z").cps.toList < (⟨#[k]⟩ : Str).cps.toList)) = false := e'
   refine rG e2 ?_
   exact W.e0 (.str ⟨#[k]⟩) hr ⟨rfl, hlen, h1, by refine rL h3 ?_; simp⟩
 ·rw [List.append_nil] at h3
  subst h1 h3
  refine W.items_nil ?_
  have hmm : (s.cps.toList.map fun k => MV.str ⟨#[k]⟩) = (s.cps.toList.map fun k => (⟨#[k]⟩ : Str)).map .str := by refine rG List.map_map ?_; rfl
  refine rG hmm ?_
  have hfold : ∀ (l : List Nat) (n : Nat), (l.map fun k => (⟨#[k]⟩ : Str)).foldl (fun a x => a + x.length + (Str.ofString "").length) n = n + l.length := by
   intro l
   induction l with
   | nil => intro n; rfl
   | cons k l ih => intro n; (refine rG List.map_cons ?_; refine rG List.foldl_cons ?_; refine rG (ih ..) ?_; refine rG List.length_cons ?_); show n + 1 + 0 + l.length = _; lia
  refine CallP.join (by simp; lia) ?_ ?_ ⟨rfl, rfl⟩
  ·(refine rG (List.foldl_toArray ..) ?_; refine rG (hfold ..) ?_)
   simp [tooLong, sizeLine_eq]; lia
  ·refine rG (size_glued ..) ?_
   have : ∀ l : List Nat, ((l.map fun k => (⟨#[k]⟩ : Str)).map (·.length)).sum = l.length := by
    intro l
    induction l with
    | nil => rfl
    | cons k l ih => rw [List.map_cons, List.map_cons, List.sum_cons, ih, List.length_cons]; show 1 + l.length = _; lia
   (refine rG (this ..) ?_; refine rG (show (Str.ofString "").length = 0 from rfl) ?_; refine rG (Nat.mul_zero ..) ?_; refine rG sizeLine_eq ?_)
   simp; lia
noncomputable def IsCol (s : Str) : Prop := s = "binary" ∨ s = "nocase"
theorem foldCol_ok (hA : Room A 1) {s : Str} (hs : IsCol s) : CallW c A (.raw (.ref 605)) [.str s] H (fun r H' => H' = H ∧ r = .str s) := by
 rcases hs with rfl | rfl
 ·refine (fold_ok hA (s := "binary") (by decide) (by decide) (by decide)).mono fun r H' hq => x0a2 hq fun h1 h2 => ⟨h1, ?_⟩
  refine rG h2 ?_; congr 1
 ·refine (fold_ok hA (s := "nocase") (by decide) (by decide) (by decide)).mono fun r H' hq => x0a2 hq fun h1 h2 => ⟨h1, ?_⟩
  refine rG h2 ?_; congr 1
noncomputable def litMV (w : Wt) : MV := .obj 112 ["value"] [w.mv]
noncomputable def colMV (s : Str) : MV := .obj 448 ["value", "collation"] [.obj 112 ["value"] [.none], .str s]
theorem expl_ok (hA : Room A 2) {s : Str} (hs : IsCol s) : CallW c A (.raw (.ref 667)) [colMV s] H (fun r H' => H' = H ∧ r = .str s) := by
 refine CallW.bd (names := ["expr"]) (fExpl_at c) hA.depth fExpl_ok (bind1 fun p S a => by kernel_rfl) fun L => ?_
 have hA' := hA.deeper (callEnvM fExpl L 667)
 have hr := hA'.rm
 refine W.cons (W.ifT [] hr OnOk.none trivial ?_)
 refine W.cons (W.ret (W.callName (.raw (.ref 605)) (by kernel_rfl) (by kernel_rfl) (W.es [.str s] hr OnOk.none ?_)))
 exact (foldCol_ok hA' hs).mono fun r H' h => h
theorem coll_ok (hA : Room A 3) {s : Str} (hs : IsCol s) : CallW c A (.raw (.ref 682)) [colMV s] H (fun r H' => H' = H ∧ r = .str s) := by
 refine CallW.bd (names := ["expr", "sources"]) (bargs := [colMV s, .none]) (fColl_at c) hA.depth fColl_ok (fun F T st vals r hv => by
  (refine x1a2 hv.one fun a e91 h1 => ?_; subst e91)
  exact i1a2 ([a, .none]) (kp_binds r.kin fun S => by kernel_rfl) (.cons h1 (.cons vr_none VRs.nil))) fun L => ?_
 have hA' := hA.deeper (callEnvM fColl L 682)
 have hr := hA'.rm
 refine W.cons (W.ret (W.orV (W.callName (.raw (.ref 667)) (by kernel_rfl) (by kernel_rfl) (W.es [colMV s] hr OnOk.none ((expl_ok hA' hs).val2 ?_)))))
 refine ⟨true, ?_, fun _ => ⟨rfl, rfl⟩, fun e => by injection e⟩
 rcases hs with rfl | rfl <;> rfl
end
end Mine
namespace Mine
section
variable {c : Cx} {A : Around} {H : TM}
theorem key_ok (hA : Room A 2) {x y : List MV} (hl : x.length = y.length) (hz : x.length < 1000000) : CallW c A (.raw (.ref 759)) [.tup x, .tup y] H (fun r H' => H' = H ∧ r = .obj 759 ["collations", "descending"] [.tup x, .tup y]) :=
 CallW.newObj (f := 735) (l := [("collations", .tup x), ("descending", .tup y)]) H hA (fun A' a d H hA' ha hd => by
  refine CallW.bd (names := ["self", "collations", "descending"]) (fInitKey_at c) hA'.depth fInitKey_ok (bind3 fun p S a b d => by kernel_rfl) fun L => ?_
  have hr := (hA'.deeper (callEnvM fInitKey L 735)).rm
  have hne : a ≠ d := by first | exact TM.neS hd ha | exact (TM.neS hd ha).symm | (rintro rfl; rw [ha] at hd; (injection hd with hd; injection hd))
  refine W.cons (W.if2 (!decide ((x.length : Int) = (y.length : Int))) [x.length < 1000000, y.length < 1000000] hr OnOk.none ⟨hz, by lia, trivial⟩ (fun e => by simp [hl] at e) fun _ => W.nil ?_)
  refine W.cons (W.selfSet (.tup x) [] hr trivial ha hd (Nat.zero_le _) ?_)
  refine W.cons (W.selfSet (a := a) (d := d) (C := 759) (.tup y) [] hr trivial (by refine rG (TM.upd_ne hne) ?_; exact ha) (TM.upd_self _ _ _) (Nat.le_of_ble_eq_true rfl) (W.nil ⟨rfl, ?_⟩))
  refine rG TM.upd_upd ?_; rfl)
noncomputable def outMV (cols : List Str) : MV := .lst (cols.map fun s => .tup [.str "c", colMV s])
theorem flat_rep {α : Type} (x : α) : ∀ n : Nat, (List.replicate n [x]).flatten = List.replicate n x
 | 0 => rfl
 | n + 1 => by (refine rG List.replicate_succ ?_; refine rG List.flatten_cons ?_; refine rG (flat_rep x n) ?_; refine rG List.replicate_succ ?_); rfl
theorem info_ok (hA : Room A 5) {cols : List Str} (hc : ∀ s ∈ cols, IsCol s) (hz : cols.length < 1000) : CallW c A (.raw (.ref 768)) [outMV cols] H (fun r H' => H' = H ∧ r = keyMV cols) := by
 refine CallW.bd (names := ["outputs"]) (fInfo_at c) hA.depth fInfo_ok (bind1 fun p S a => by kernel_rfl) fun L => ?_
 have hA' := hA.deeper (callEnvM fInfo L 768)
 have hr := hA'.rm
 refine W.cons (W.asgV (W.callNm (.raw (.type "tuple")) (by kernel_rfl) (by kernel_rfl) (W.ec ?_)))
 refine W.comp (fun rest acc H' => H' = H ∧ ∃ a b, cols = a ++ b ∧ acc = a.map .str ∧ rest = b.map fun s => .tup [.str "c", colMV s]) hr.1 (by kernel_rfl) (by kernel_rfl) (by kernel_rfl)
  (W.e0 (outMV cols) hr ⟨_, rfl, by refine rG (List.length_map ..) ?_; lia, ⟨rfl, [], cols, rfl, rfl, rfl⟩, fun C m0 v rest acc H' ⟨h1, a, b, h2, h3, h4⟩ => ?_, fun acc H' ⟨h1, a, b, h2, h3, h4⟩ => ?_⟩)
 ·cases b with
  | nil => injection h4
  | cons s b =>
   rw [List.map_cons] at h4
   injection h4 with h4 h5
   subst h4 h1
   refine i1a2 ((m0.set "name" (.str "c")).set "expr" (colMV s)) (by kernel_rfl) ?_
   refine W.callName (.raw (.ref 682)) (by kernel_rfl) (by kernel_rfl) (W.es [colMV s] hr OnOk.none ?_)
   refine (coll_ok (hA'.less (by first | decide | lia)) (hc s (by refine rG h2 ?_; simp))).val2 ?_
   have hlen : acc.length < 1000000 := by (refine rG h3 ?_; refine rG (List.length_map ..) ?_); have := congrArg List.length h2; rw [List.length_append] at this; lia
   exact ⟨rfl, hlen, rfl, a ++ [s], b, by refine rG h2 ?_; simp, by refine rG h3 ?_; simp, h5⟩
 ·cases b with
  | cons s b => injection h4
  | nil =>
   rw [List.append_nil] at h2
   subst h1 h2 h3
   refine W.items_nil (CallP.plain hr (z := .tup (cols.map .str)) (C := [(cols.map MV.str).length < 1000000]) (by kernel_rfl) ⟨by refine rG (List.length_map ..) ?_; lia, trivial⟩ ⟨by kernel_rfl, ?_⟩)
   have hlen : (cols.map fun s => MV.tup [.str "c", colMV s]).length = cols.length := List.length_map ..
   have hnat : ((cols.map fun s => MV.tup [.str "c", colMV s]).length : Int).toNat = cols.length := by refine rG hlen ?_; simp
   refine W.cons (W.ret (W.callName (.raw (.ref 759)) (by kernel_rfl) (by kernel_rfl) (W.esC [.tup (cols.map .str), .tup (List.replicate ((cols.map fun s => MV.tup [.str "c", colMV s]).length : Int).toNat [MV.bool false]).flatten]
    [(cols.map fun s => MV.tup [.str "c", colMV s]).length < 1000000, (0 : Int) ≤ ((cols.map fun s => MV.tup [.str "c", colMV s]).length : Int), ((cols.map fun s => MV.tup [.str "c", colMV s]).length : Int) < 1000000,
     [MV.bool false].length * ((cols.map fun s => MV.tup [.str "c", colMV s]).length : Int).toNat < 1000000, (List.replicate ((cols.map fun s => MV.tup [.str "c", colMV s]).length : Int).toNat [MV.bool false]).flatten.length < 1000000]
    hr OnOk.none ⟨by lia, by lia, by lia, by refine rG hnat ?_; simp; lia, by (refine rG hnat ?_; refine rG (flat_rep ..) ?_; refine rG List.length_replicate ?_); lia, trivial⟩ ?_)))
   (refine rG hnat ?_; refine rG (flat_rep ..) ?_)
   refine (key_ok (hA'.less (by first | decide | lia)) (by simp) (by refine rG (List.length_map ..) ?_; lia)).val2 ?_
   refine ⟨rfl, ?_⟩
   unfold keyMV
   congr 3
   (refine rG List.map_const' ?_; rfl)
end
section
variable {c : Cx} {A : Around} {g : Pg} {H : TM} {q : PS}
theorem St.onC {env : Env} {m cm : LM} (h : St g H q) (n0 : Str) (hn : nameV env m cm n0 = some (.raw (.ref g.ca)) := by kernel_rfl) :
  OnOk env m cm H (on1 n0 (.obj 1173 [("program", .raw (.ref g.pa)), ("bindings", .raw (.ref g.bv)), ("hints", .none)])) := OnOk.one n0 _ g.ca ⟨g.cd, h.hc, h.hcd⟩ hn
theorem bAdd5 {x n a b d e : MV} : Binds c fAdd ["self", "name", "p1", "p2", "p3", "p4"] [x, n, a, b, d, e] [x, n, a, b, d, e] := fun F T s vals r hv => by
 obtain ⟨v1, r1, rfl, h1, hv⟩ := hv.uncons
 obtain ⟨v2, r2, rfl, h2, hv⟩ := hv.uncons
 obtain ⟨v3, r3, rfl, h3, hv⟩ := hv.uncons
 obtain ⟨v4, r4, rfl, h4, hv⟩ := hv.uncons
 obtain ⟨v5, v6, rfl, h5, h6⟩ := hv.two
 exact i1a2 ([v1, v2, v3, v4, v5, v6]) (kp_binds r.kin fun S => by kernel_rfl) (.cons h1 (.cons h2 (.cons h3 (.cons h4 (.cons h5 (.cons h6 VRs.nil))))))
theorem bAdd4 {x n a b d : MV} : Binds c fAdd ["self", "name", "p1", "p2", "p3", "p4"] [x, n, a, b, d] [x, n, a, b, d, .none] := fun F T s vals r hv => by
 obtain ⟨v1, r1, rfl, h1, hv⟩ := hv.uncons
 obtain ⟨v2, r2, rfl, h2, hv⟩ := hv.uncons
 obtain ⟨v3, r3, rfl, h3, hv⟩ := hv.uncons
 obtain ⟨v4, v5, rfl, h4, h5⟩ := hv.two
 exact i1a2 ([v1, v2, v3, v4, v5, .none]) (kp_binds r.kin fun S => by kernel_rfl) (.cons h1 (.cons h2 (.cons h3 (.cons h4 (.cons h5 (.cons vr_none VRs.nil))))))
theorem bAdd3 {x n a b : MV} : Binds c fAdd ["self", "name", "p1", "p2", "p3", "p4"] [x, n, a, b] [x, n, a, b, .int 0, .none] := fun F T s vals r hv => by
 obtain ⟨v1, r1, rfl, h1, hv⟩ := hv.uncons
 obtain ⟨v2, r2, rfl, h2, hv⟩ := hv.uncons
 obtain ⟨v3, v4, rfl, h3, h4⟩ := hv.two
 exact i1a2 ([v1, v2, v3, v4, .int 0 2073, .none]) (kp_binds r.kin fun S => by kernel_rfl) (.cons h1 (.cons h2 (.cons h3 (.cons h4 (.cons vr_int (.cons vr_none VRs.nil))))))
theorem bAdd1 {x n : MV} : Binds c fAdd ["self", "name", "p1", "p2", "p3", "p4"] [x, n] [x, n, .int 0, .int 0, .int 0, .none] := fun F T s vals r hv => by
 (refine x2a3 hv.two fun v1 v2 e92 h1 h2 => ?_; subst e92)
 exact i1a2 ([v1, v2, .int 0 2071, .int 0 2072, .int 0 2073, .none]) (kp_binds r.kin fun S => by kernel_rfl) (.cons h1 (.cons h2 (.cons vr_int (.cons vr_int (.cons vr_int (.cons vr_none VRs.nil))))))
theorem W.prog {env : Env} {m cm : LM} {o : Expr} {on : On} {name : Str} {apos pos : Pos} {e0 : Expr} {er : List Expr} {Q : MV → LM → LM → TM → Prop} (h : St g H q) (f : Addr) (hr : Rm A) (ho : OnOk env m cm H on)
  (hw : W c A env m cm H (spliced (backTo pos (starEach (e0 :: er) env))) VL (MeP c A f g.pa Q))
  (he : Mine.ev c.w.params env m cm on 12 o = some (.raw (.ref g.pa), []) := by kernel_rfl) (hl : (progAttrs g q).lookup name = none := by kernel_rfl) (hm : methOf (Ks c.w.params) 1269 name f = true := by kernel_rfl) (hf : isFn c.w.params (.raw (.ref f)) = true := by kernel_rfl)
  (hb : plainBase o = true := by rfl) (hpos : (apos.endLine == pos.line) = true := by rfl) (hform : methodCallForm ((e0 :: er).length + 0) (backTo pos (starEach (e0 :: er) env)) [] = true := by rfl)
  (hs : starEach (e0 :: er) env = (false, eval e0 env) :: starEach er env := by rfl) (hp : (backTo pos (starEach er env)).any (·.1) = false := by rfl) :
  W c A env m cm H (eval (.Call (.Attribute o name apos) (e0 :: er) [] pos) env) V Q :=
 W.meth (.raw (.ref g.pa)) (.ref f) hf (fun F => ev_ok hr ho 12 o _ [] he trivial F) (MethG.own h.hp h.hd hl hm) (hw.mono fun vs m' cm' H' x => x.toP) hb hpos hform hs hp
theorem W.prog0 {env : Env} {m cm : LM} {o : Expr} {on : On} {name : Str} {apos pos : Pos} {Q : MV → LM → LM → TM → Prop} (h : St g H q) (f : Addr) (hr : Rm A) (ho : OnOk env m cm H on)
  (hw : CallW c A (.raw (.ref f)) [.raw (.ref g.pa)] H (fun r H'' => Q r m cm H''))
  (he : Mine.ev c.w.params env m cm on 12 o = some (.raw (.ref g.pa), []) := by kernel_rfl) (hl : (progAttrs g q).lookup name = none := by kernel_rfl) (hm : methOf (Ks c.w.params) 1269 name f = true := by kernel_rfl) (hf : isFn c.w.params (.raw (.ref f)) = true := by kernel_rfl)
  (hb : plainBase o = true := by rfl) (hpos : (apos.endLine == pos.line) = true := by rfl) :
  W c A env m cm H (eval (.Call (.Attribute o name apos) [] [] pos) env) V Q :=
 W.meth0 (.raw (.ref g.pa)) (.ref f) hf (fun F => ev_ok hr ho 12 o _ [] he trivial F) (MethG.own h.hp h.hd hl hm) hw.toP hb hpos
theorem openKeys_ok (hA : Room A 6) (h : St g H q) {cols : List Str} (hc : ∀ s ∈ cols, IsCol s) (hz : cols.length < 1000) (hs : q.size < 900000) :
  CallW c A (.raw (.ref 775)) [.raw (.ref g.ca), outMV cols] H (fun r H' => r = .int q.curs ∧ St g H' (openKeys cols q)) := by
 refine CallW.bd (names := ["coder", "outputs"]) (fOpenK_at c) hA.depth fOpenK_ok (bind2 fun p S a b => by kernel_rfl) fun L => ?_
 have hA' := hA.deeper (callEnvM fOpenK L 775)
 have hr := hA'.rm
 refine W.cons (W.asgV (W.prog0 h 1237 hr (h.onC "coder") ((cursor_ok (hA'.less (by first | decide | lia)) h).val fun H1 h1 => ?_)))
 refine ⟨by kernel_rfl, W.cons (W.ex (W.prog h1 1201 hr (h1.onC "coder") (W.ec (W.e0 (.str "OpenEphemeral") hr (W.ec (W.e0 (.int q.curs) hr (W.ec (W.e0 (.int 0) hr (W.ec (W.e0 (.int 0) hr (W.ec (W.callName (.raw (.ref 768)) (by kernel_rfl) (by kernel_rfl) (W.es [outMV cols] hr OnOk.none ((info_ok (hA'.less (by first | decide | lia)) hc hz).val2 ?_))))))))))))))⟩
 refine W.items_nil ((add_ok (hA'.less (by first | decide | lia)) h1 (.openE q.curs cols) hs bAdd5).mono fun r H3 h3 => ?_)
 exact W.cons (W.re (.int q.curs) hr OnOk.none ⟨rfl, h3⟩)
theorem putKey_ok (hA : Room A 2) (h : St g H q) {cur first many : Int} (hs : q.size + 1 < 900000) :
  CallW c A (.raw (.ref 782)) [.raw (.ref g.ca), .int cur, .int first, .int many] H (fun r H' => r = .none ∧ St g H' (putKey cur first many q)) := by
 refine CallW.bd (names := ["coder", "cursor", "first", "many"]) (fPutKey_at c) hA.depth fPutKey_ok (bind4 fun p S a b d e => by kernel_rfl) fun L => ?_
 have hA' := hA.deeper (callEnvM fPutKey L 782)
 have hr := hA'.rm
 refine W.cons (W.asgV (W.prog0 h 1230 hr (h.onC "coder") ((reg_ok hA' h bReg0).val fun H1 h1 => ?_)))
 refine ⟨by kernel_rfl, W.cons (W.ex (W.prog h1 1201 hr (h1.onC "coder") (W.es [.str "MakeRecord", .int first, .int many, .int q.regs, .none] hr OnOk.none ((add_ok hA' h1 (.record first many q.regs) (by refine rG (size_reg ..) ?_; lia) bAdd5).mono fun r H2 h2 => ?_))))⟩
 refine W.cons (W.ex (W.prog h2 1201 hr (h2.onC "coder") (W.es [.str "IdxInsert", .int cur, .int q.regs] hr OnOk.none ((add_ok hA' h2 (.insert cur q.regs) (by (refine rG (size_add ..) ?_; refine rG (size_reg ..) ?_); lia) bAdd3).mono fun r H3 h3 => ?_))))
 exact W.nil ⟨rfl, h3⟩
end
end Mine
namespace Mine
noncomputable def LM.put (m : LM) (x : Str) (o : Option MV) : LM := fun y => if y = x then o else m y
theorem LM.put_self (m : LM) (x : Str) : m.put x (m x) = m := by funext y; unfold LM.put; split <;> simp_all
theorem LM.put_set (m : LM) (x : Str) (o : Option MV) (v : MV) : (m.put x o).set x v = m.put x (some v) := by
 funext y; unfold LM.put LM.set; split <;> simp_all
theorem len2 {α : Type} {l : List α} (h : l.length = 2) : ∃ a b, l = [a, b] := by
 match l, h with
 | [a, b], _ => exact ⟨a, b, rfl⟩
theorem len3 {α : Type} {l : List α} (h : l.length = 3) : ∃ a b d, l = [a, b, d] := by
 match l, h with
 | [a, b, d], _ => exact ⟨a, b, d, rfl⟩
theorem len5 {α : Type} {l : List α} (h : l.length = 5) : ∃ a b d e f, l = [a, b, d, e, f] := by
 match l, h with
 | [a, b, d, e, f], _ => exact ⟨a, b, d, e, f, rfl⟩
section
variable {c : Cx} {A : Around} {env : Env} {m cm : LM} {H : TM}
theorem W.fz1 {α β : Type} {t : Sem α} {R : FM → β → α → Prop} {Q : β → LM → LM → TM → Prop} (n : Str) (v : MV) (h : W c A env m (cm.set n (.fz v)) H t R Q)
  (ha : (env.cells.lookup n).isSome = true := by kernel_rfl) (hf : env.func.isSome = true := by rfl) (hk : env.kindOf n = some .cell := by kernel_rfl) (hv : cm n = some v := by kernel_rfl) (hz : isFz (cm n) = false := by kernel_rfl) : W c A env m cm H t R Q :=
 W.fzCell n v ha hf hk hv hz h
theorem W.defN {name : Str} {params : Arguments} {body : List Stmt} {scope : Scope} {pos : Pos} {Q : MFlow → LM → LM → TM → Prop} (Pl : Addr) (d : CloD) (ns : List Str) (vs : List MV) (q : Q .next (m.set name (.clo d ns vs)) cm H)
  (hns : (closL scope env).map (·.1) = ns := by kernel_rfl) (hst : storeTo env m cm name (.clo d ns vs) = some (m.set name (.clo d ns vs), cm) := by kernel_rfl)
  (hP : Pl ∈ growT := by decide) (hcode : env.code = .ref (growCd Pl) := by rfl)
  (hd : d = { name := name, qual := qualnameIn env name name, params := params, body := .stmts body, scope := scope } := by kernel_rfl) (hqn : d.qual = qn pos.line pos.col := by kernel_rfl)
  (hd0 : params.defaults = [] := by rfl) (hk0 : params.kw_defaults = [] := by rfl) (ha : annTrees params none env = [] := by kernel_rfl)
  (hcl : (closC env scope.names []).isSome = true := by kernel_rfl) (hvs : (closL scope env).map (fun x => cm x.1) = vs.map (fun v => some (.fz v)) := by kernel_rfl) :
  W c A env m cm H (exec (.FunctionDef name params body [] none [] scope none name pos) env) Fl Q :=
 W.def Pl d vs hP hcode hd hqn hd0 hk0 ha hcl hvs ⟨_, _, by refine rG hns ?_; exact hst, q⟩
end
section
variable {c : Cx} {A : Around}
noncomputable def eC (d : CloD) (ns : List Str) (as : List Addr) (doc pm code ct : Value) (L fa : Addr) : Env := callEnvM (d.fd (ns.zip as) doc pm code ct) L fa
noncomputable def cM (d : CloD) (ns : List Str) (as : List Addr) (doc pm code ct : Value) (L fa : Addr) (vs : List MV) (names : List Str) (bargs : List MV) : LM := ((bindAll (eC d ns as doc pm code ct L fa) names bargs LM.nil (cloL ns vs)).getD (LM.nil, LM.nil)).1
noncomputable def cC (d : CloD) (ns : List Str) (as : List Addr) (doc pm code ct : Value) (L fa : Addr) (vs : List MV) (names : List Str) (bargs : List MV) : LM := ((bindAll (eC d ns as doc pm code ct L fa) names bargs LM.nil (cloL ns vs)).getD (LM.nil, LM.nil)).2
theorem CallW.cb {d : CloD} {ns : List Str} {vs args bargs : List MV} {names : List Str} {H : TM} {Q : MV → TM → Prop} (hroom : A.depth < recursionLimit)
  (hbind : ∀ cl doc pm code ct, Binds c (d.fd cl doc pm code ct) names args bargs)
  (h : ∀ L fa as doc pm code ct, as.length = ns.length → W c (A.deeper (eC d ns as doc pm code ct L fa)) (eC d ns as doc pm code ct L fa) (cM d ns as doc pm code ct L fa vs names bargs) (cC d ns as doc pm code ct L fa vs names bargs) H
   (execs (bdOf (d.fd (ns.zip as) doc pm code ct)) (eC d ns as doc pm code ct L fa)) Fl (RetQ Q))
  (hok : ∀ cl doc pm code ct, fdOk (d.fd cl doc pm code ct) = true := by intro _ _ _ _ _; kernel_rfl) (hns : ns.Nodup := by decide +kernel) (hnc : (d.scope.names.all fun x => x.2 != .cell) = true := by kernel_rfl)
  (hba : ∀ L fa as doc pm code ct, (bindAll (eC d ns as doc pm code ct L fa) names bargs LM.nil (cloL ns vs)).isSome = true := by intro _ _ _ _ _ _ _; kernel_rfl) :
  CallW c A (.clo d ns vs) args H Q :=
 CallW.cbody hroom hok hns (fun n q => by
  exfalso
  have := List.all_eq_true.mp hnc _ (mem_of_lookup q)
  simp at this) (fun cl doc pm code ct => hbind cl doc pm code ct) fun L fa as doc pm code ct hl => by
  obtain ⟨⟨m1, cm1⟩, e⟩ := Option.isSome_iff_exists.mp (hba L fa as doc pm code ct)
  refine i2a2 m1 cm1 e ?_
  have := h L fa as doc pm code ct hl
  unfold cM cC at this
  rw [e] at this
  exact this
end
inductive IdxI (m cm : LM) (x : Str) (N : Nat) (f : Nat → List MV) (I : Nat → TM → Prop) (rest : List MV) (m' cm' : LM) (H' : TM) : Prop
 | mk (i : Nat) (o : Option MV) (hi : i ≤ N) (hr : rest = f i) (hm : m' = m.put x o) (hc : cm' = cm) (hI : I i H') : IdxI m cm x N f I rest m' cm' H'
theorem IdxI.turn {c : Cx} {A : Around} {env : Env} {m cm : LM} {x : Str} {N : Nat} {f : Nat → List MV} {I : Nat → TM → Prop} {rest : List MV} {i : Nat} {body : List Stmt} {Q : MFlow → LM → LM → TM → Prop} {m0 cm0 : LM} {H0 : TM} (hi : i < N) (hr : rest = f (i + 1))
  (h : W c A env m0 cm0 H0 (execs body env) Fl (LoopQ (fun m' cm' H' => (∃ o, m' = m.put x o) ∧ cm' = cm ∧ I (i + 1) H') Q)) : W c A env m0 cm0 H0 (execs body env) Fl (LoopQ (IdxI m cm x N f I rest) Q) :=
 h.mono fun g m2 cm2 H2 q => by
  cases g with
  | next => obtain ⟨⟨o', e1⟩, e2, e3⟩ := q; exact ⟨i + 1, o', hi, hr, e1, e2, e3⟩
  | cont => obtain ⟨⟨o', e1⟩, e2, e3⟩ := q; exact ⟨i + 1, o', hi, hr, e1, e2, e3⟩
  | brk => exact q
  | ret v => exact q
theorem W.forI {c : Cx} {A : Around} {env : Env} {m cm : LM} {H : TM} {x : Str} {px pos : Pos} {iter : Expr} {body : List Stmt} {Q : MFlow → LM → LM → TM → Prop} (l : List MV) (I : Nat → TM → Prop) (hA : A.handled = none)
  (h : W c A env m cm H (eval iter env) V (fun v m1 cm1 H1 => iterV v = some l ∧ l.length < 1000000 ∧ m1 = m ∧ cm1 = cm ∧ I 0 H1))
  (hb : ∀ i v H, l[i]? = some v → I i H → W c A env (m.put x (some v)) cm H (execs body env) Fl (LoopQ (fun m' cm' H' => (∃ o, m' = m.put x o) ∧ cm' = cm ∧ I (i + 1) H') Q))
  (he : ∀ o H, I l.length H → Q .next (m.put x o) cm H) (hx : env.kindOf x = some .local := by kernel_rfl) (hs : ∀ x, foldedSetIterable iter env x = pure x := by intro _; rfl) :
  W c A env m cm H (exec (.For (.Name x px) iter body [] pos) env) Fl Q := by
 refine W.forL (IdxI m cm x l.length (fun i => l.drop i) I) hA (h.mono fun v m1 cm1 H1 q => ?_) (fun v rest m' cm' H' hI => ?_) (fun m' cm' H' hI => ?_) hs
 ·refine x0a5 q fun e1 e2 e3 e4 e5 => ?_
  exact ⟨l, e1, e2, 0, m x, Nat.zero_le _, rfl, by (refine rG e3 ?_; refine rG (LM.put_self ..) ?_; rfl), e4, e5⟩
 ·obtain ⟨i, o, hi, hr, hm, hc, hI⟩ := hI
  subst hm hc
  have hv : l[i]? = some v := by
   have : (l.drop i)[0]? = some v := by refine rL hr ?_; rfl
   simpa using this
  refine ⟨m.put x (some v), cm', ?_, IdxI.turn (List.getElem?_eq_some_iff.mp hv).1 ?_ (hb i v H' hv hI)⟩
  ·unfold storeTo; refine rG hx ?_; dsimp only; (refine rG (LM.put_set ..) ?_; rfl)
  ·show rest = l.drop (i + 1)
   (refine rL List.drop_drop ?_; refine rL hr ?_); rfl
 ·obtain ⟨i, o, hi, hr, hm, hc, hI⟩ := hI
  subst hm hc
  have : i = l.length := Nat.le_antisymm hi (by simpa using hr.symm)
  subst this
  exact he o H' hI
theorem rng_get {n i : Nat} {v : MV} (h : ((List.range n).map fun (j : Nat) => MV.int (j : Int))[i]? = some v) : i < n ∧ v = .int (i : Int) := by
 rw [List.getElem?_map] at h
 cases e : (List.range n)[i]? with
 | none => rw [e] at h; cases h
 | some j =>
  rw [e] at h
  obtain ⟨h1, h2⟩ := List.getElem?_eq_some_iff.mp e
  simp at h1 h2
  subst h2
  cases h
  exact ⟨h1, rfl⟩
section
variable {c : Cx} {A : Around} {g : Pg} {H : TM} {q : PS}
theorem expr_ok (hA : Room A 2) (h : St g H q) {w : Wt} {t : Int} (hs : q.size < 900000) :
  CallW c A (.raw (.ref 1070)) [.raw (.ref g.ca), litMV w, .int t] H (fun r H' => St g H' (q.add (.value t w))) := by
 refine CallW.bd (names := ["self", "expr", "into"]) (fExpr_at c) hA.depth fExpr_ok (bind3 fun p S a b d => by kernel_rfl) fun L => ?_
 have hA' := hA.deeper (callEnvM fExpr L 1070)
 have hr := hA'.rm
 refine W.cons (W.asgV (W.ifExp (W.tev hr OnOk.none (n := 12) (b := false) (C := []) (by kernel_rfl) trivial (W.e0 (.int t) hr ⟨by kernel_rfl, ?_⟩))))
 refine W.cons (W.ifT [] hr OnOk.none trivial ?_)
 refine W.cons (W.ex (W.prog h 1201 hr (h.onC "self") (W.es [.str "Value", .int 0, .int t, .int 0, w.mv] hr OnOk.none ((add_ok hA' h (.value t w) hs bAdd5).mono fun r H1 h1 => ?_) (by cases w <;> kernel_rfl))))
 refine W.nil ?_
 exact W.cons (W.re (.int t) hr OnOk.none h1)
theorem rowOf_ok (hA : Room A 3) (h : St g H q) {r : List Wt} (hs : q.size + r.length < 900000) (hz : r.length < 1000) :
  CallW c A (.raw (.ref 1084)) [.raw (.ref g.ca), .lst (r.map litMV)] H (fun v H' => v = .int q.regs ∧ St g H' (emitRow r q)) := by
 refine CallW.bd (names := ["self", "exprs"]) (fRowOf_at c) hA.depth fRowOf_ok (bind2 fun p S a b => by kernel_rfl) fun L => ?_
 have hA' := hA.deeper (callEnvM fRowOf L 1084)
 have hr := hA'.rm
 have hlen : (r.map litMV).length = r.length := List.length_map ..
 have hmax : (if ((r.map litMV).length : Int) > 1 then ((r.map litMV).length : Int) else 1) = max 1 (r.length : Int) := by refine rG hlen ?_; split <;> lia
 refine W.cons (W.asgV (W.prog h 1230 hr (h.onC "self") (W.esC [.int (if ((r.map litMV).length : Int) > 1 then ((r.map litMV).length : Int) else 1)] [(r.map litMV).length < 1000000] hr OnOk.none ⟨by lia, trivial⟩ ?_)))
 refine rG hmax ?_
 refine (reg_ok (hA'.less (by first | decide | lia)) h bReg1).val fun H1 h1 => ?_
 refine ⟨by kernel_rfl, ?_⟩
 refine W.cons (W.forI (((List.range ((r.map litMV).length : Int).toNat).map fun (j : Nat) => MV.int (j : Int))) (fun i H' => St g H' (valuesFrom q.regs (r.take i) (q.reg (max 1 r.length)))) hr.1
  ?_ (fun i v H' hv hst => ?_) (fun o H' hst => ?_))
 ·exact W.eC (.rng ((r.map litMV).length : Int).toNat) [(r.map litMV).length < 1000000, (0 : Int) ≤ ((r.map litMV).length : Int)] hr ⟨by lia, by lia, trivial⟩ ⟨rfl, by simp; lia, rfl, rfl, by simpa [valuesFrom] using h1⟩
 ·(refine x0a2 (rng_get hv) fun hlt e91 => ?_; subst e91)
  rw [Int.toNat_natCast, hlen] at hlt
  have hg : (r.map litMV).getD (i : Int).toNat .none = litMV r[i] := by
   (refine rG List.getD_eq_getElem?_getD ?_; refine rG (Int.toNat_natCast ..) ?_; refine rG List.getElem?_map ?_; refine rG (List.getElem?_eq_getElem hlt) ?_); rfl
  have hsz : (valuesFrom q.regs (r.take i) (q.reg (max 1 r.length))).size < 900000 := by
   (refine rG ((values_ext _ _ _).2) ?_; refine rG (size_reg ..) ?_; refine rG List.length_take ?_); lia
  refine W.cons (W.ex (W.meth (.raw (.ref g.ca)) (.ref 1070) (by kernel_rfl) (PuN.e (.raw (.ref g.ca)) hr OnOk.none) (MethG.own hst.hc hst.hcd (by kernel_rfl) (by kernel_rfl))
   (W.esC [(r.map litMV).getD (i : Int).toNat .none, .int (q.regs + (i : Int))] [(0 : Int) ≤ (i : Int), (i : Int) < ((r.map litMV).length : Int), (r.map litMV).length < 1000000] hr OnOk.none ⟨by lia, by lia, by lia, trivial⟩ ?_)))
  refine rG hg ?_
  refine ((expr_ok hA' hst (w := r[i]) (t := q.regs + (i : Int)) hsz).mono fun v2 H2 h2 => ?_).toP
  refine W.nil ⟨⟨_, rfl⟩, rfl, ?_⟩
  (refine rG List.take_add_one ?_; refine rG (List.getElem?_eq_getElem hlt) ?_; refine rG (Option.toList_some ..) ?_; refine rG (values_snoc ..) ?_; refine rG List.length_take ?_; refine rG (Nat.min_eq_left (Nat.le_of_lt hlt)) ?_)
  exact h2
 ·rw [List.length_map, List.length_range, Int.toNat_natCast, hlen, List.take_of_length_le (Nat.le_refl _)] at hst
  exact W.cons (W.re (.int q.regs) hr OnOk.none ⟨rfl, hst⟩)
end
end Mine
namespace Mine
noncomputable def stIn (b : List Stmt) (i : Nat) : Stmt := match b[i]? with
 | some s => s
 | none => .Pass ⟨0, 0, 0, 0⟩
noncomputable def cloOf (s : Stmt) (q : Str) : CloD := { name := fdName s, qual := q, params := fdArgs s, body := .stmts (fdBody s), scope := fdScope s }
noncomputable def cPutNew : CloD := cloOf (stIn (fdBody (st 83)) 4) "write_compound.<locals>.put_new"
noncomputable def cTakeOut : CloD := cloOf (stIn (fdBody (st 83)) 5) "write_compound.<locals>.take_out"
noncomputable def cTell : CloD := cloOf (stIn (fdBody (st 83)) 9) "write_compound.<locals>.tell"
noncomputable def cPut : CloD := cloOf (stIn (fdBody (st 84)) 0) "write_other.<locals>.put"
section
variable {c : Cx} {fd : FuncData} {n1 n2 n3 n4 : Str} {x1 x2 x3 x4 : MV}
theorem cbind1 {d : CloD} (h : ∀ cl doc pm code ct p S a, peek (Ks p) S (bindArgs (d.fd cl doc pm code ct) ⟨[a], []⟩) = some [(n1, a)]) : ∀ cl doc pm code ct, Binds c (d.fd cl doc pm code ct) [n1] [x1] [x1] := fun _ _ _ _ _ => bind1 (h _ _ _ _ _)
theorem cbind2 {d : CloD} (h : ∀ cl doc pm code ct p S a b, peek (Ks p) S (bindArgs (d.fd cl doc pm code ct) ⟨[a, b], []⟩) = some [(n1, a), (n2, b)]) : ∀ cl doc pm code ct, Binds c (d.fd cl doc pm code ct) [n1, n2] [x1, x2] [x1, x2] := fun _ _ _ _ _ => bind2 (h _ _ _ _ _)
end
structure Taker (c : Cx) (g : Pg) (n : Nat) (f : MV) (tk : Int → PS → PS) (k rm : Nat) : Prop where
 isClo : ∃ d ns vs, f = .clo d ns vs
 fn : isFn c.w.params f = true
 ok : TkOk tk k
 run : ∀ A H q first, Room A rm → St g H q → LabOk q → q.size + k < 900000 → CallW c A f [.int first, .int n] H (fun r H' => St g H' (tk first q))
structure Turn (c : Cx) (g : Pg) (f : MV) (body : Int → PS → PS) (k rm : Nat) : Prop where
 fn : isFn c.w.params f = true
 ok : TkOk body k
 run : ∀ A H q l, Room A rm → St g H q → LabOk q → q.size + k < 900000 → CallW c A f [.int l] H (fun r H' => St g H' (body l q))
section
variable {c : Cx} {A : Around} {g : Pg} {H : TM} {q : PS}
theorem putNew_tk (n : Nat) (cur : Int) : Taker c g n (.clo cPutNew ["program", "cursor", "coder"] [.raw (.ref g.pa), .int cur, .raw (.ref g.ca)]) (putNew cur n) 4 4 where
 isClo := ⟨_, _, _, rfl⟩
 fn := rfl
 ok := putNew_ok cur n
 run := fun A H q first hA h hl hs => by
  refine CallW.cb (names := ["first", "count"]) (bargs := [.int first, .int n]) hA.depth (cbind2 fun cl doc pm code ct p S a b => by kernel_rfl) fun L fa as doc pm code ct has => ?_
  (refine x3a1 (len3 has) fun a1 a2 a3 e93 => ?_; subst e93)
  have hA' := hA.deeper (eC cPutNew ["program", "cursor", "coder"] [a1, a2, a3] doc pm code ct L fa)
  have hr := hA'.rm
  refine W.cons (W.asgV (W.prog0 h 1215 hr OnOk.none ((label_ok (hA'.less (by first | decide | lia)) h).val fun H1 h1 => ?_)))
  refine ⟨by kernel_rfl, W.cons (W.ex (W.prog h1 1201 hr OnOk.none (W.es [.str "Found", .int cur, .int q.lab, .int first, .int n] hr OnOk.none ((add_ok (hA'.less (by first | decide | lia)) h1 (.found true cur q.lab first n) (by refine rG (size_label ..) ?_; lia) bAdd5).mono fun r H2 h2 => ?_))))⟩
  refine W.cons (W.ex (W.callName (.raw (.ref 782)) (by kernel_rfl) (by kernel_rfl) (W.es [.raw (.ref g.ca), .int cur, .int first, .int n] hr OnOk.none ((putKey_ok (hA'.less (by first | decide | lia)) h2 (by (refine rG (size_add ..) ?_; refine rG (size_label ..) ?_); lia)).mono fun r H3 hpat => ?_))))
  refine x0a2 hpat fun e3 h3 => ?_
  have hx := putKey_ext cur first n (q.label.add (.found true cur q.lab first n))
  have hl3 : LabOk (putKey cur first n (q.label.add (.found true cur q.lab first n))) := hl.ext (((Ext.label q).trans (Ext.add _ _)).trans hx.1)
  refine W.cons (W.ex (W.prog h3 1222 hr OnOk.none (W.es [.int q.lab] hr OnOk.none ((place_ok (hA'.less (by first | decide | lia)) h3 hl.1 ?_ ?_ ?_).mono fun r H4 h4 => ?_))))
  ·show q.lab - 1 < q.lab; lia
  ·intro x hx' e
   have : x ∈ q.labels := by simpa [putKey, PS.add, PS.reg, PS.label] using hx'
   have := hl.2 x this
   lia
  ·(refine rG hx.2 ?_; refine rG (size_add ..) ?_; refine rG (size_label ..) ?_); lia
  ·exact W.nil h4
theorem takeOut_tk (n : Nat) (cur : Int) : Taker c g n (.clo cTakeOut ["program", "cursor"] [.raw (.ref g.pa), .int cur]) (takeOut cur n) 1 4 where
 isClo := ⟨_, _, _, rfl⟩
 fn := rfl
 ok := takeOut_ok cur n
 run := fun A H q first hA h hl hs => by
  refine CallW.cb (names := ["first", "count"]) (bargs := [.int first, .int n]) hA.depth (cbind2 fun cl doc pm code ct p S a b => by kernel_rfl) fun L fa as doc pm code ct has => ?_
  (refine x2a1 (len2 has) fun a1 a2 e92 => ?_; subst e92)
  have hA' := hA.deeper (eC cTakeOut ["program", "cursor"] [a1, a2] doc pm code ct L fa)
  have hr := hA'.rm
  refine W.cons (W.ex (W.prog h 1201 hr OnOk.none (W.es [.str "IdxDelete", .int cur, .int first, .int n] hr OnOk.none ((add_ok (hA'.less (by first | decide | lia)) h (.delete cur first n) (by lia) bAdd4).mono fun r H2 h2 => ?_))))
  exact W.nil h2
theorem put_tk (n : Nat) (cur : Int) : Taker c g n (.clo cPut ["cursor", "coder"] [.int cur, .raw (.ref g.ca)]) (putKey cur · n) 2 4 where
 isClo := ⟨_, _, _, rfl⟩
 fn := rfl
 ok := putKey_ok' cur n
 run := fun A H q first hA h hl hs => by
  refine CallW.cb (names := ["first", "count"]) (bargs := [.int first, .int n]) hA.depth (cbind2 fun cl doc pm code ct p S a b => by kernel_rfl) fun L fa as doc pm code ct has => ?_
  (refine x2a1 (len2 has) fun a1 a2 e92 => ?_; subst e92)
  have hA' := hA.deeper (eC cPut ["cursor", "coder"] [a1, a2] doc pm code ct L fa)
  have hr := hA'.rm
  refine W.cons (W.ex (W.callName (.raw (.ref 782)) (by kernel_rfl) (by kernel_rfl) (W.es [.raw (.ref g.ca), .int cur, .int first, .int n] hr OnOk.none ((putKey_ok (hA'.less (by first | decide | lia)) h (by lia)).mono fun r H3 hpat => ?_))))
  refine x0a2 hpat fun e3 h3 => ?_
  exact W.nil h3
noncomputable def optMV : Option Int → MV
 | none => .none
 | some o => .int o
theorem tell_tn {n : Nat} {f : MV} {tk : Int → PS → PS} {k rm : Nat} (ht : Taker c g n f tk k rm) (hn : n ≤ 100) (cur : Int) (other : Option Int) :
  Turn c g (.clo cTell ["take", "program", "other", "many", "cursor"] [f, .raw (.ref g.pa), optMV other, .int n, .int cur]) (tell cur n other tk) (n + 1 + k) (rm + 4) where
 fn := rfl
 ok := tell_ok ht.ok cur n other
 run := fun A H q l hA h hl hs => by
  refine CallW.cb (names := ["following"]) (bargs := [.int l]) hA.depth (cbind1 fun cl doc pm code ct p S a => by kernel_rfl) fun L fa as doc pm code ct has => ?_
  (refine x5a1 (len5 has) fun a1 a2 a3 a4 a5 e95 => ?_; subst e95)
  have hA' := hA.deeper (eC cTell ["take", "program", "other", "many", "cursor"] [a1, a2, a3, a4, a5] doc pm code ct L fa)
  have hr := hA'.rm
  refine W.cons (W.asgV (W.prog h 1230 hr OnOk.none (W.es [.int n] hr OnOk.none ((reg_ok (hA'.less (by first | decide | lia)) h bReg1).val fun H1 h1 => ?_))))
  refine ⟨by kernel_rfl, ?_⟩
  have hxc := fun i => columns_ext cur q.regs i 0 (q.reg n)
  refine W.cons (W.forI (((List.range (n : Int).toNat).map fun (j : Nat) => MV.int (j : Int))) (fun i H' => St g H' (columnsFrom cur q.regs i 0 (q.reg n))) hr.1
   (W.eC (.rng (n : Int).toNat) [(0 : Int) ≤ (n : Int)] hr ⟨by lia, trivial⟩ ⟨rfl, by simp; lia, rfl, rfl, h1⟩) (fun i v H' hv hst => ?_) (fun o H' hst => ?_))
  ·(refine x0a2 (rng_get hv) fun hlt e91 => ?_; subst e91)
   rw [Int.toNat_natCast] at hlt
   have hsz := (hxc i).2
   rw [size_reg] at hsz
   refine W.cons (W.ex (W.prog hst 1201 hr OnOk.none (W.es [.str "Column", .int cur, .int (i : Int), .int (q.regs + (i : Int))] hr OnOk.none ((add_ok (hA'.less (by first | decide | lia)) hst (.column cur i (q.regs + i)) (by lia) bAdd4).mono fun r H2 h2 => ?_))))
   refine W.nil ⟨⟨_, rfl⟩, rfl, ?_⟩
   refine rG (columns_snoc ..) ?_
   simpa using h2
  ·rw [List.length_map, List.length_range, Int.toNat_natCast] at hst
   have hsz := (hxc n).2
   rw [size_reg] at hsz
   have hl1 : LabOk (columnsFrom cur q.regs n 0 (q.reg n)) := hl.ext ((Ext.reg q (by lia)).trans (hxc n).1)
   cases other with
   | none =>
    refine W.cons (W.ifF [] hr OnOk.none trivial (W.nil ?_))
    refine W.cons (W.ex (W.callName f (by kernel_rfl) ht.fn (W.es [.int q.regs, .int n] hr OnOk.none ((ht.run _ _ _ _ (hA'.less (by first | decide | lia)) hst hl1 (by lia)).mono fun r H2 h2 => ?_))))
    exact W.nil h2
   | some ot =>
    refine W.cons (W.ifT [] hr OnOk.none trivial (W.cons (W.ex (W.prog hst 1201 hr OnOk.none (W.es [.str "NotFound", .int ot, .int l, .int q.regs, .int n] hr OnOk.none ((add_ok (hA'.less (by first | decide | lia)) hst (.found false ot l q.regs n) (by lia) bAdd5).mono fun r H2 h2 => ?_))))))
    refine W.nil ?_
    refine W.cons (W.ex (W.callName f (by kernel_rfl) ht.fn (W.es [.int q.regs, .int n] hr OnOk.none ((ht.run _ _ _ _ (hA'.less (by first | decide | lia)) h2 (hl1.ext (Ext.add _ _)) (by refine rG (size_add ..) ?_; lia)).mono fun r H3 h3 => ?_))))
    exact W.nil h3
theorem walkAll_ok' {f : MV} {body : Int → PS → PS} {k rm : Nat} (ht : Turn c g f body k rm) (hA : Room A (rm + 4)) (h : St g H q) (hl : LabOk q) {cur : Int} (hs : q.size + k + 5 < 900000) :
  CallW c A (.raw (.ref 935)) [.raw (.ref g.ca), .int cur, .bool false, f] H (fun r H' => St g H' (walkAll cur body q)) := by
 refine CallW.bd (names := ["coder", "cursor", "descending", "body"]) (fWalkAll_at c) hA.depth fWalkAll_ok (bind4 fun p S a b d e => by kernel_rfl) fun L => ?_
 have hA' := hA.deeper (callEnvM fWalkAll L 935)
 have hr := hA'.rm
 refine W.cons (W.asgL (.raw (.ref g.pa)) hr (h.onC "coder") ?_)
 refine W.cons (W.asgV (W.prog0 h 1215 hr OnOk.none ((label_ok (hA'.less (by first | decide | lia)) h).val fun H1 h1 => ?_)))
 refine ⟨by kernel_rfl, W.cons (W.asgV (W.prog0 h1 1215 hr OnOk.none ((label_ok (hA'.less (by first | decide | lia)) h1).val fun H2 h2 => ?_)))⟩
 refine ⟨by kernel_rfl, W.cons (W.asgV (W.prog0 h2 1215 hr OnOk.none ((label_ok (hA'.less (by first | decide | lia)) h2).val fun H3 h3 => ?_)))⟩
 have e3 : q.label.label.lab = q.lab - 2 := by show q.lab - 1 - 1 = _; lia
 have e2 : q.label.lab = q.lab - 1 := rfl
 refine ⟨by kernel_rfl, W.cons (W.ex (W.prog h3 1201 hr OnOk.none (W.ec (W.ifExp (W.tev hr OnOk.none (n := 12) (b := false) (C := []) (by kernel_rfl) trivial (W.e0 (.str "Rewind") hr (W.es [.int cur, .int q.label.label.lab] hr OnOk.none ((add_ok (hA'.less (by first | decide | lia)) h3 (.rewind cur q.label.label.lab) (by simp only [size_label]; lia) bAdd3).mono fun r H4 h4 => ?_))))))))⟩
 refine W.cons (W.ex (W.prog h4 1222 hr OnOk.none (W.es [.int q.lab] hr OnOk.none ((place_ok (hA'.less (by first | decide | lia)) h4 hl.1 (by show q.lab - 1 - 1 - 1 < q.lab; lia) (fun x hx e => by have := hl.2 x hx; lia) (by simp only [size_label, size_add]; lia)).mono fun r H5 h5 => ?_))))
 rw [e3] at h5
 have x1 : Ext q ((q.label.label.label.add (.rewind cur (q.lab - 2))).place q.lab) := by
  refine ((((Ext.label q).trans (Ext.label _)).trans (Ext.label _)).trans (Ext.add _ _)).placed ?_ (Int.le_refl _)
  show q.lab - 1 - 1 - 1 < q.lab; lia
 have hl5 := hl.ext x1
 refine W.cons (W.ex (W.callName f (by kernel_rfl) ht.fn (W.es [.int q.label.lab] hr OnOk.none ((ht.run _ _ _ _ (hA'.less (by first | decide | lia)) h5 hl5 (by simp only [size_place, size_add, size_label]; lia)).mono fun r H6 h6 => ?_))))
 rw [e2] at h6
 refine x0a2 (ht.ok (q.lab - 1) ((q.label.label.label.add (.rewind cur (q.lab - 2))).place q.lab)) fun x2 s2 => ?_
 simp only [size_place, size_add, size_label] at s2
 refine x1a2 x2.lab fun ls el hls => ?_
 have lq : ((q.label.label.label.add (.rewind cur (q.lab - 2))).place q.lab).lab = q.lab - 3 := by show q.lab - 1 - 1 - 1 = _; lia
 have notin : ∀ (l : Int), q.lab - 3 < l → l < q.lab → ∀ x ∈ (body (q.lab - 1) ((q.label.label.label.add (.rewind cur (q.lab - 2))).place q.lab)).labels, x.1 ≠ l := fun l g1 g2 x hx e => by
  rw [el] at hx
  rcases List.mem_append.mp hx with z | z
  ·have z' : x ∈ q.labels ++ [(q.lab, ((q.label.label.label.add (.rewind cur (q.lab - 2))).ops.length : Int))] := z
   rcases List.mem_append.mp z' with w | w
   ·have := hl.2 x w; lia
   ·simp at w; subst w; simp at e; lia
  ·have := (hls x z).2; rw [lq] at this; lia
 have hle := x2.le
 rw [lq] at hle
 have h0 := hl.1
 refine W.cons (W.ex (W.prog h6 1222 hr OnOk.none (W.es [.int q.label.lab] hr OnOk.none ((place_ok (hA'.less (by first | decide | lia)) h6 (by refine rG e2 ?_; lia) (by refine rG e2 ?_; lia) (fun x hx => by refine rG e2 ?_; exact notin (q.lab - 1) (by lia) (by lia) x hx) (by lia)).mono fun r H7 h7 => ?_))))
 rw [e2] at h7
 refine W.cons (W.ex (W.prog h7 1201 hr OnOk.none (W.ec (W.ifExp (W.tev hr OnOk.none (n := 12) (b := false) (C := []) (by kernel_rfl) trivial (W.e0 (.str "Next") hr (W.es [.int cur, .int q.lab] hr OnOk.none ((add_ok (hA'.less (by first | decide | lia)) h7 (.next cur q.lab) (by simp only [size_place]; lia) bAdd3).mono fun r H8 h8 => ?_))))))))
 refine W.cons (W.ex (W.prog h8 1222 hr OnOk.none (W.es [.int q.label.label.lab] hr OnOk.none ((place_ok (hA'.less (by first | decide | lia)) h8 (by refine rG e3 ?_; lia) (by refine rG e3 ?_; show (body _ _).lab < _; lia) (fun x hx => ?_) (by simp only [size_place, size_add]; lia)).mono fun r H9 h9 => ?_))))
 ·refine rG e3 ?_
  have z' : x ∈ (body (q.lab - 1) ((q.label.label.label.add (.rewind cur (q.lab - 2))).place q.lab)).labels ++ [(q.lab - 1, ((body (q.lab - 1) ((q.label.label.label.add (.rewind cur (q.lab - 2))).place q.lab)).ops.length : Int))] := hx
  rcases List.mem_append.mp z' with w | w
  ·exact notin (q.lab - 2) (by lia) (by lia) x w
  ·simp at w; subst w; simp
 ·rw [e3] at h9
  exact W.nil h9
end
end Mine
namespace Mine
noncomputable def nodeC : Told → Nat
 | .rows _ => 550
 | .comp .. => 576
noncomputable def nodeNs : Told → List Str
 | .rows _ => ["rows"]
 | .comp .. => ["op", "left", "right", "outputs"]
noncomputable def nodeVs : Told → List MV
 | .rows l => [.lst (l.map fun r => .lst (r.map litMV))]
 | .comp op l r cols => [.str op, .obj (nodeC l) (nodeNs l) (nodeVs l), .obj (nodeC r) (nodeNs r) (nodeVs r), outMV cols]
noncomputable def nodeMV (t : Told) : MV := .obj (nodeC t) (nodeNs t) (nodeVs t)
noncomputable def need (t : Told) (rm : Nat) : Nat := rm + 4 + 20 * (t.deep + 1)
section
variable {c : Cx} {g : Pg}
noncomputable def BodyOk (c : Cx) (g : Pg) (n : Nat) (t : Told) : Prop := ∀ {f : MV} {tk : Int → PS → PS} {k rm : Nat}, Taker c g n f tk k rm → ∀ A H q, Room A (need t rm) → St g H q → LabOk q → q.size + t.cost n k < 900000 →
 CallW c A (.raw (.ref 1006)) [.raw (.ref g.ca), nodeMV t, .lst [], f] H (fun r H' => St g H' (emitBody t tk q))
theorem bBody {x1 x2 x3 x4 : MV} : Binds c fBody ["coder", "body", "order", "take", "plan"] [x1, x2, x3, x4] [x1, x2, x3, x4, .none] := fun F T s vals r hv => by
 obtain ⟨v1, r1, rfl, h1, hv⟩ := hv.uncons
 obtain ⟨v2, r2, rfl, h2, hv⟩ := hv.uncons
 obtain ⟨v3, v4, rfl, h3, h4⟩ := hv.two
 exact ⟨[v1, v2, v3, v4, .none], kp_binds r.kin fun S => by kernel_rfl, .cons h1 (.cons h2 (.cons h3 (.cons h4 (.cons vr_none VRs.nil))))⟩
theorem rows_take {tk : Int → PS → PS} {q : PS} : ∀ (l : List (List Wt)) (r : List Wt), emitRows tk (l ++ [r]) q = tk (emitRows tk l q).regs (emitRow r (emitRows tk l q)) := by
 intro l
 induction l generalizing q with
 | nil => intro r; rfl
 | cons a l ih => intro r; (refine rG List.cons_append ?_; rewrite [emitRows]; refine rG (ih ..) ?_; rewrite [emitRows]; rfl)
theorem rowsBody_ok {n : Nat} (hn : n ≤ 100) (l : List (List Wt)) (ht : (Told.rows l).ok n) : BodyOk c g n (.rows l) := fun {f tk k rm} hf A H q hA h hl hs => by
 refine x0a2 ht fun ht1 ht2 => ?_
 refine CallW.bd (fBody_at c) hA.depth fBody_ok bBody fun L => ?_
 have hA0 : Room A (rm + 23 + 1) := hA.less (by simp only [need, Told.deep]; lia)
 have hA' := hA0.deeper (callEnvM fBody L 1006)
 have hr := hA'.rm
 refine W.cons (W.ifF [] hr OnOk.none trivial (W.cons (W.ifT [] hr OnOk.none trivial ?_)))
 have hx := fun i => rows_ext hf.ok n (l.take i) q fun r hr => ht2 r (List.mem_of_mem_take hr)
 have hc : ∀ i, (l.take i).length * (n + k) ≤ l.length * (n + k) := fun i => Nat.mul_le_mul_right _ (by refine rG List.length_take ?_; lia)
 simp only [Told.cost] at hs
 refine W.cons (W.forI (l.map fun r => .lst (r.map litMV)) (fun i H' => St g H' (emitRows tk (l.take i) q)) hr.1
  (W.e0 (.lst (l.map fun r => .lst (r.map litMV))) hr ⟨rfl, by refine rG (List.length_map ..) ?_; lia, rfl, rfl, by simpa [emitRows] using h⟩) (fun i v H' hv hst => ?_) (fun o H' hst => ?_))
 ·rw [List.getElem?_map] at hv
  (refine x1a2 (Option.map_eq_some_iff.mp hv) fun r hr' e92 => ?_; subst e92)
  have hlt : i < l.length := (List.getElem?_eq_some_iff.mp hr').1
  have hrl := ht2 r (List.mem_of_getElem? hr')
  have hsz := (hx i).2
  have hrow := row_ext r (emitRows tk (l.take i) q)
  have hl1 := hl.ext (hx i).1
  have hci : (l.take i).length * (n + k) + (n + k) ≤ l.length * (n + k) := by
   refine rL (Nat.succ_mul ..) ?_; exact Nat.mul_le_mul_right _ (by refine rG List.length_take ?_; lia)
  refine W.cons (W.ex (W.callName f (by kernel_rfl) hf.fn (W.ec (W.meth (.raw (.ref g.ca)) (.ref 1084) (by kernel_rfl) (PuN.e (.raw (.ref g.ca)) hr OnOk.none) (MethG.own hst.hc hst.hcd (by kernel_rfl) (by kernel_rfl)) (W.es [.lst (r.map litMV)] hr OnOk.none
   ((rowOf_ok (hA'.less (by first | decide | lia)) hst (r := r) (by lia) (by lia)).mono fun v1 H1 hq => x0a2 hq fun e1 h1 => ?_).toP)))))
  subst e1
  refine W.esC [.int ((r.map litMV).length : Int)] [(r.map litMV).length < 1000000] hr OnOk.none ⟨by refine rG (List.length_map ..) ?_; lia, trivial⟩ ?_
  (refine rG (List.length_map ..) ?_; refine rG hrl ?_)
  refine (hf.run _ _ _ _ (hA'.less (by first | decide | lia)) h1 (hl1.ext hrow.1) (by lia)).mono fun v2 H2 h2 => ?_
  refine W.nil ⟨⟨_, rfl⟩, rfl, ?_⟩
  (refine rG List.take_add_one ?_; refine rG hr' ?_; refine rG (Option.toList_some ..) ?_; refine rG (rows_take ..) ?_)
  exact h2
 ·rw [List.length_map, List.take_of_length_le (Nat.le_refl _)] at hst
  exact W.nil (W.nil (W.nil hst))
theorem compBody_ok {n : Nat} {op : Str} {l r : Told} {cols : List Str} (hcomp : ∀ {f : MV} {tk : Int → PS → PS} {k rm : Nat}, Taker c g n f tk k rm → ∀ A H q, Room A (need (.comp op l r cols) rm - 1) → St g H q → LabOk q → q.size + (Told.comp op l r cols).cost n k < 900000 →
  CallW c A (.raw (.ref 1013)) [.raw (.ref g.ca), nodeMV (.comp op l r cols), f] H (fun r' H' => St g H' (emitBody (.comp op l r cols) tk q))) : BodyOk c g n (.comp op l r cols) := fun {f tk k rm} hf A H q hA h hl hs => by
 refine CallW.bd (fBody_at c) hA.depth fBody_ok bBody fun L => ?_
 have hA0 : Room A (need (.comp op l r cols) rm - 1 + 1) := hA.less (by simp only [need, Told.deep]; lia)
 have hA' := hA0.deeper (callEnvM fBody L 1006)
 have hr := hA'.rm
 refine W.cons (W.ifF [] hr OnOk.none trivial (W.cons (W.ifF [] hr OnOk.none trivial (W.cons (W.ifT [] hr OnOk.none trivial ?_)))))
 refine W.cons (W.asgL .none hr (h.onC "coder") ?_)
 refine W.cons (W.setAttr (W.e0 .none hr (W.e0 (.raw (.ref g.ca)) hr ⟨g.ca, 1173, g.cd, _, rfl, h.hc, h.hcd, by kernel_rfl, Nat.le_of_ble_eq_true rfl, ?_⟩)))
 have e1 : H.upd g.cd (.attrs (setL [("program", .raw (.ref g.pa)), ("bindings", .raw (.ref g.bv)), ("hints", .none)] "hints" MV.none)) = H := TM.upd_same h.hcd
 refine rG e1 ?_
 refine W.cons (W.ex (W.callName (.raw (.ref 1013)) (by kernel_rfl) (by kernel_rfl) (W.es [.raw (.ref g.ca), nodeMV (.comp op l r cols), f] hr OnOk.none ((hcomp hf _ _ _ hA' h hl hs).mono fun v H1 h1 => ?_))))
 refine W.cons (W.setAttr (W.e0 .none hr (W.e0 (.raw (.ref g.ca)) hr ⟨g.ca, 1173, g.cd, _, rfl, h1.hc, h1.hcd, by kernel_rfl, Nat.le_of_ble_eq_true rfl, ?_⟩)))
 have e2 : H1.upd g.cd (.attrs (setL [("program", .raw (.ref g.pa)), ("bindings", .raw (.ref g.bv)), ("hints", .none)] "hints" MV.none)) = H1 := TM.upd_same h1.hcd
 refine rG e2 ?_
 exact W.nil (W.nil (W.nil (W.nil h1)))
theorem other_ok {n : Nat} {t : Told} (hb : BodyOk c g n t) (cur : Int) (A : Around) (H : TM) (q : PS) (hA : Room A (need t 4 + 1)) (h : St g H q) (hl : LabOk q) (hs : q.size + t.cost n 2 < 900000) :
  CallW c A (.raw (.ref 1020)) [.raw (.ref g.ca), nodeMV t, .int cur] H (fun r H' => St g H' (emitBody t (putKey cur · n) q)) := by
 refine CallW.bd (names := ["coder", "body", "cursor"]) (fOther_at c) hA.depth fOther_ok (bind3 fun p S a b d => by kernel_rfl) fun L => ?_
 have hA' := hA.deeper (callEnvM fOther L 1020)
 have hr := hA'.rm
 refine W.fz1 "cursor" (.int cur) (W.fz1 "coder" (.raw (.ref g.ca)) ?_)
 refine W.cons (W.defN 1015 cPut ["cursor", "coder"] [.int cur, .raw (.ref g.ca)] ?_)
 refine W.cons (W.ex (W.callName (.raw (.ref 1006)) (by kernel_rfl) (by kernel_rfl) (W.es [.raw (.ref g.ca), nodeMV t, .lst [], .clo cPut ["cursor", "coder"] [.int cur, .raw (.ref g.ca)]] hr OnOk.none ((hb (put_tk n cur) _ _ _ hA' h hl hs).mono fun v H1 h1 => ?_))))
 exact W.nil h1
end
end Mine
namespace Mine
section
variable {c : Cx} {g : Pg}
theorem emit_all {l r : Told} {cols : List Str} {tk : Int → PS → PS} {q : PS} : emitBody (.comp "union all" l r cols) tk q = emitBody r tk (emitBody l tk q) := by kernel_rfl
theorem emit_un {l r : Told} {cols : List Str} {tk : Int → PS → PS} {q : PS} {n : Nat} (h : cols.length = n) : emitBody (.comp "union" l r cols) tk q = walkAll q.curs (tell q.curs n none tk) (emitBody r (putNew q.curs n) (emitBody l (putNew q.curs n) (openKeys cols q))) := by subst h; kernel_rfl
theorem emit_ex {l r : Told} {cols : List Str} {tk : Int → PS → PS} {q : PS} {n : Nat} (h : cols.length = n) : emitBody (.comp "except" l r cols) tk q = walkAll q.curs (tell q.curs n none tk) (emitBody r (takeOut q.curs n) (emitBody l (putNew q.curs n) (openKeys cols q))) := by subst h; kernel_rfl
theorem emit_in {l r : Told} {cols : List Str} {tk : Int → PS → PS} {q : PS} {n : Nat} (h : cols.length = n) : emitBody (.comp "intersect" l r cols) tk q = walkAll q.curs (tell q.curs n (some (emitBody l (putNew q.curs n) (openKeys cols q)).curs) tk) (emitBody r (putKey (emitBody l (putNew q.curs n) (openKeys cols q)).curs · n) (openKeys cols (emitBody l (putNew q.curs n) (openKeys cols q)))) := by subst h; kernel_rfl
theorem comp_ok {n : Nat} (hn : n ≤ 100) {op : Str} {l r : Told} {cols : List Str} (ht : (Told.comp op l r cols).ok n) (il : BodyOk c g n l) (ir : BodyOk c g n r) :
  ∀ {f : MV} {tk : Int → PS → PS} {k rm : Nat}, Taker c g n f tk k rm → ∀ A H q, Room A (need (.comp op l r cols) rm - 1) → St g H q → LabOk q → q.size + (Told.comp op l r cols).cost n k < 900000 →
  CallW c A (.raw (.ref 1013)) [.raw (.ref g.ca), nodeMV (.comp op l r cols), f] H (fun r' H' => St g H' (emitBody (.comp op l r cols) tk q)) := fun {f tk k rm} hf A H q hA h hl hs => by
 (refine x3a1 hf.isClo fun fd fns fvs e93 => ?_; subst e93)
 refine x0a5 ht fun hop htl htr htc hcols => ?_
 have xl := body_ext n l htl
 have xr := body_ext n r htr
 have ml := cost_mono n l (j := k) (k := k + 4) (by lia)
 have mr := cost_mono n r (j := k) (k := k + 4) (by lia)
 have ml4 := cost_mono n l (j := 4) (k := k + 4) (by lia)
 have mr4 := cost_mono n r (j := 4) (k := k + 4) (by lia)
 have mr1 := cost_mono n r (j := 1) (k := k + 4) (by lia)
 have mr2 := cost_mono n r (j := 2) (k := k + 4) (by lia)
 simp only [Told.cost] at hs
 have hneed : need (.comp op l r cols) rm - 1 = rm + 4 + 20 * (max l.deep r.deep + 1) + 18 + 1 := by simp only [need, Told.deep]; lia
 rw [hneed] at hA
 refine CallW.bd (names := ["coder", "body", "take"]) (fComp_at c) hA.depth fComp_ok (bind3 fun p S a b d => by kernel_rfl) fun L => ?_
 have hA' := hA.deeper (callEnvM fComp L 1013)
 have hr := hA'.rm
 have rl : ∀ rm', rm' ≤ rm + 4 → Room (A.deeper (callEnvM fComp L 1013)) (need l rm') := fun rm' h => hA'.less (by simp only [need]; lia)
 have rr : ∀ rm', rm' ≤ rm + 4 → Room (A.deeper (callEnvM fComp L 1013)) (need r rm' + 1) := fun rm' h => hA'.less (by simp only [need]; lia)
 have hmany : ((cols.map fun s => MV.tup [.str "c", colMV s]).length : Int) = (n : Int) := by (refine rG (List.length_map ..) ?_; refine rG htc ?_; rfl)
 rcases hop with rfl | rfl | rfl | rfl
 case inr.inr.inr =>
  refine W.cons (W.ifT [] hr OnOk.none trivial ?_)
  refine W.cons (W.ex (W.callName (.raw (.ref 1006)) (by kernel_rfl) (by kernel_rfl) (W.es [.raw (.ref g.ca), nodeMV l, .lst [], .clo fd fns fvs] hr OnOk.none ((il hf _ _ _ (rl rm (by lia)) h hl (by lia)).mono fun v H1 h1 => ?_))))
  refine x0a2 (xl tk k hf.ok q) fun x1 s1 => ?_
  refine W.cons (W.ex (W.callName (.raw (.ref 1006)) (by kernel_rfl) (by kernel_rfl) (W.es [.raw (.ref g.ca), nodeMV r, .lst [], .clo fd fns fvs] hr OnOk.none ((ir hf _ _ _ ((rr rm (by lia)).less (by first | decide | lia)) h1 (hl.ext x1) (by lia)).mono fun v H2 h2 => ?_))))
  refine W.cons (W.retNone ?_)
  show St g H2 _
  refine rG emit_all ?_; exact h2
 all_goals
  refine W.cons (W.ifF [] hr OnOk.none trivial (W.nil ?_))
  refine W.cons (W.asgC (.raw (.ref g.pa)) hr (h.onC "coder") ?_)
  refine W.cons (W.asgVC (W.eC (.int ((cols.map fun s => MV.tup [.str "c", colMV s]).length : Int)) [(cols.map fun s => MV.tup [.str "c", colMV s]).length < 1000000] hr ⟨by refine rG (List.length_map ..) ?_; lia, trivial⟩ ⟨by kernel_rfl, ?_⟩))
  refine rG hmany ?_
  refine W.cons (W.asgVC (W.callName (.raw (.ref 775)) (by kernel_rfl) (by kernel_rfl) (W.es [.raw (.ref g.ca), outMV cols] hr OnOk.none ((openKeys_ok (hA'.less (by first | decide | lia)) h hcols (by lia) (by lia)).val fun H1 h1 => ?_))))
  refine ⟨by kernel_rfl, W.fz1 "program" (.raw (.ref g.pa)) (W.fz1 "cursor" (.int q.curs) (W.fz1 "coder" (.raw (.ref g.ca)) ?_))⟩
  refine W.cons (W.defN 1008 cPutNew ["program", "cursor", "coder"] [.raw (.ref g.pa), .int q.curs, .raw (.ref g.ca)] ?_)
  refine W.cons (W.defN 1008 cTakeOut ["program", "cursor"] [.raw (.ref g.pa), .int q.curs] ?_)
  refine x0a2 (openKeys_ext cols q) fun y1 z1 => ?_
  have hl1 := hl.ext y1
  refine W.cons (W.ex (W.callName (.raw (.ref 1006)) (by kernel_rfl) (by kernel_rfl) (W.es [.raw (.ref g.ca), nodeMV l, .lst [], .clo cPutNew ["program", "cursor", "coder"] [.raw (.ref g.pa), .int q.curs, .raw (.ref g.ca)]] hr OnOk.none ((il (putNew_tk n q.curs) _ _ _ (rl 4 (by lia)) h1 hl1 (by lia)).mono fun v H2 h2 => ?_))))
  refine x0a2 (xl (putNew q.curs n) 4 (putNew_ok _ _) (openKeys cols q)) fun y2 z2 => ?_
  have hl2 := hl1.ext y2
  refine W.cons (W.asgC .none hr OnOk.none ?_)
 ·refine W.cons (W.ifT [] hr OnOk.none trivial ?_)
  refine W.cons (W.ex (W.callName (.raw (.ref 1006)) (by kernel_rfl) (by kernel_rfl) (W.es [.raw (.ref g.ca), nodeMV r, .lst [], .clo cPutNew ["program", "cursor", "coder"] [.raw (.ref g.pa), .int q.curs, .raw (.ref g.ca)]] hr OnOk.none ((ir (putNew_tk n q.curs) _ _ _ ((rr 4 (by lia)).less (by first | decide | lia)) h2 hl2 (by lia)).mono fun v H3 h3 => ?_))))
  refine x0a2 (xr (putNew q.curs n) 4 (putNew_ok _ _) (emitBody l (putNew q.curs n) (openKeys cols q))) fun y3 z3 => ?_
  have hl3 := hl2.ext y3
  refine W.nil ?_
  refine W.fz1 "take" (.clo fd fns fvs) (W.fz1 "other" .none (W.fz1 "many" (.int n) ?_))
  refine W.cons (W.defN 1008 cTell ["take", "program", "other", "many", "cursor"] [.clo fd fns fvs, .raw (.ref g.pa), optMV none, .int n, .int q.curs] ?_)
  refine W.cons (W.ex (W.callName (.raw (.ref 935)) (by kernel_rfl) (by kernel_rfl) (W.es [.raw (.ref g.ca), .int q.curs, .bool false, .clo cTell ["take", "program", "other", "many", "cursor"] [.clo fd fns fvs, .raw (.ref g.pa), optMV none, .int n, .int q.curs]] hr OnOk.none ((walkAll_ok' (tell_tn hf hn q.curs none) (hA'.less (by first | decide | lia)) h3 hl3 (by lia)).mono fun v H4 h4 => ?_))))
  refine W.nil ?_
  show St g H4 _
  refine rG (emit_un htc) ?_; exact h4
 ·refine W.cons (W.ifF [] hr OnOk.none trivial (W.cons (W.ifT [] hr OnOk.none trivial ?_)))
  refine W.cons (W.ex (W.callName (.raw (.ref 1006)) (by kernel_rfl) (by kernel_rfl) (W.es [.raw (.ref g.ca), nodeMV r, .lst [], .clo cTakeOut ["program", "cursor"] [.raw (.ref g.pa), .int q.curs]] hr OnOk.none ((ir (takeOut_tk n q.curs) _ _ _ ((rr 4 (by lia)).less (by first | decide | lia)) h2 hl2 (by lia)).mono fun v H3 h3 => ?_))))
  refine x0a2 (xr (takeOut q.curs n) 1 (takeOut_ok _ _) (emitBody l (putNew q.curs n) (openKeys cols q))) fun y3 z3 => ?_
  have hl3 := hl2.ext y3
  refine W.nil (W.nil ?_)
  refine W.fz1 "take" (.clo fd fns fvs) (W.fz1 "other" .none (W.fz1 "many" (.int n) ?_))
  refine W.cons (W.defN 1008 cTell ["take", "program", "other", "many", "cursor"] [.clo fd fns fvs, .raw (.ref g.pa), optMV none, .int n, .int q.curs] ?_)
  refine W.cons (W.ex (W.callName (.raw (.ref 935)) (by kernel_rfl) (by kernel_rfl) (W.es [.raw (.ref g.ca), .int q.curs, .bool false, .clo cTell ["take", "program", "other", "many", "cursor"] [.clo fd fns fvs, .raw (.ref g.pa), optMV none, .int n, .int q.curs]] hr OnOk.none ((walkAll_ok' (tell_tn hf hn q.curs none) (hA'.less (by first | decide | lia)) h3 hl3 (by lia)).mono fun v H4 h4 => ?_))))
  refine W.nil ?_
  show St g H4 _
  refine rG (emit_ex htc) ?_; exact h4
 ·refine W.cons (W.ifF [] hr OnOk.none trivial (W.cons (W.ifF [] hr OnOk.none trivial (W.cons (W.ifT [] hr OnOk.none trivial ?_)))))
  refine W.cons (W.asgVC (W.callName (.raw (.ref 775)) (by kernel_rfl) (by kernel_rfl) (W.es [.raw (.ref g.ca), outMV cols] hr OnOk.none ((openKeys_ok (hA'.less (by first | decide | lia)) h2 hcols (by lia) (by lia)).val fun H3 h3 => ?_))))
  refine x0a2 (openKeys_ext cols (emitBody l (putNew q.curs n) (openKeys cols q))) fun y3 z3 => ?_
  have hl3 := hl2.ext y3
  refine ⟨by kernel_rfl, W.cons (W.ex (W.callName (.raw (.ref 1020)) (by kernel_rfl) (by kernel_rfl) (W.es [.raw (.ref g.ca), nodeMV r, .int (emitBody l (putNew q.curs n) (openKeys cols q)).curs] hr OnOk.none ((other_ok ir (emitBody l (putNew q.curs n) (openKeys cols q)).curs _ _ _ (rr 4 (by lia)) h3 hl3 (by lia)).mono fun v H4 h4 => ?_))))⟩
  refine x0a2 (xr (putKey (emitBody l (putNew q.curs n) (openKeys cols q)).curs · n) 2 (putKey_ok' _ _) (openKeys cols (emitBody l (putNew q.curs n) (openKeys cols q)))) fun y4 z4 => ?_
  have hl4 := hl3.ext y4
  refine W.nil (W.nil (W.nil ?_))
  refine W.fz1 "take" (.clo fd fns fvs) (W.fz1 "other" (.int (emitBody l (putNew q.curs n) (openKeys cols q)).curs) (W.fz1 "many" (.int n) ?_))
  refine W.cons (W.defN 1008 cTell ["take", "program", "other", "many", "cursor"] [.clo fd fns fvs, .raw (.ref g.pa), optMV (some (emitBody l (putNew q.curs n) (openKeys cols q)).curs), .int n, .int q.curs] ?_)
  refine W.cons (W.ex (W.callName (.raw (.ref 935)) (by kernel_rfl) (by kernel_rfl) (W.es [.raw (.ref g.ca), .int q.curs, .bool false, .clo cTell ["take", "program", "other", "many", "cursor"] [.clo fd fns fvs, .raw (.ref g.pa), optMV (some (emitBody l (putNew q.curs n) (openKeys cols q)).curs), .int n, .int q.curs]] hr OnOk.none ((walkAll_ok' (tell_tn hf hn q.curs (some (emitBody l (putNew q.curs n) (openKeys cols q)).curs)) (hA'.less (by first | decide | lia)) h4 hl4 (by lia)).mono fun v H5 h5 => ?_))))
  refine W.nil ?_
  show St g H5 _
  refine rG (emit_in htc) ?_; exact h5
theorem body_ok {n : Nat} (hn : n ≤ 100) : ∀ (t : Told), t.ok n → BodyOk c g n t
 | .rows l => fun ht => rowsBody_ok hn l ht
 | .comp op l r cols => fun ht => compBody_ok (comp_ok hn ht (body_ok hn l ht.2.1) (body_ok hn r ht.2.2.1))
end
end Mine
namespace Mine
noncomputable def SrcTo (s : Addr) (H G : TM) : Prop := ∃ x y : Int, 0 ≤ x ∧ 0 ≤ y ∧ y < 2147483648 ∧ G = H.upd s (.list [.int x, .int y])
noncomputable def Src (s : Addr) (H : TM) : Prop := SrcTo s H H
theorem SrcTo.src {s : Addr} {H G : TM} (h : SrcTo s H G) : Src s G := by
 (refine x2a4 h fun x y h1 h2 h3 e95 => ?_; subst e95)
 exact i2a4 x y h1 h2 h3 ((TM.upd_upd).symm)
theorem SrcTo.trans {s : Addr} {H G K : TM} (h : SrcTo s H G) (k : SrcTo s G K) : SrcTo s H K := by
 (refine x2a4 h fun x y h1 h2 h3 e95 => ?_; subst e95)
 (refine x2a4 k fun x' y' k1 k2 k3 e95 => ?_; subst e95)
 exact i2a4 x' y' k1 k2 k3 TM.upd_upd
theorem Src.at {s : Addr} {H : TM} (h : Src s H) : ∃ x y : Int, 0 ≤ x ∧ 0 ≤ y ∧ y < 2147483648 ∧ H s = some (.list [.int x, .int y]) := by
 refine x2a4 h fun x y h1 h2 h3 e => ?_
 exact i2a4 x y h1 h2 h3 (by refine rG e ?_; exact TM.upd_self _ _ _)
theorem SrcTo.up {s a : Addr} {H G : TM} {x : MObj} (h : SrcTo s H G) (n : a ≠ s) : SrcTo s (H.upd a x) (G.upd a x) := by
 (refine x2a4 h fun x' y h1 h2 h3 e95 => ?_; subst e95)
 exact i2a4 x' y h1 h2 h3 (TM.upd_comm (Ne.symm n))
theorem Src.not {s a : Addr} {H : TM} (h : Src s H) (n : H a = none) : a ≠ s := by
 rintro rfl
 refine x2a4 h.at fun x y _ _ _ e => ?_
 rw [n] at e; injection e
section
variable {c : Cx} {A : Around} {s : Addr} {H : TM}
theorem take_ok {top : Int} (hA : Room A 1) (h : Src s H) (h3 : 0 < top) (h4 : top < 100) :
  CallW c A (.raw (.ref 1287)) [.raw (.ref s), .int top] H (fun r G => ∃ d : Int, r = .int d ∧ 0 ≤ d ∧ d < top ∧ SrcTo s H G) := by
 refine x2a4 h.at fun x y h0 h1 h2 hs => ?_
 refine CallW.bd (names := ["source", "top"]) (fTake_at c) hA.depth fTake_ok (bind2 fun p S a b => by kernel_rfl) fun L => ?_
 have hr := (hA.deeper (callEnvM fTake L 1287)).rm
 have hon := OnOk.one (env := callEnvM fTake L 1287) (m := bM fTake L 1287 ["source", "top"] [.raw (.ref s), .int top]) (cm := bC fTake L 1287 ["source", "top"] [.raw (.ref s), .int top]) "source" (.list [.int x, .int y]) s ⟨_, hs, .inl rfl⟩ (by kernel_rfl)
 refine W.cons (W.if2 (decide (x > 0)) [] hr hon trivial (fun hx => ?_) fun hx => ?_)
 ·refine W.cons (W.asgLC (.int (x.fmod top)) [top ≠ 0] hr hon ⟨by lia, trivial⟩ ?_)
  have hon2 := OnOk.one (env := callEnvM fTake L 1287) (m := (bM fTake L 1287 ["source", "top"] [.raw (.ref s), .int top]).set "digit" (.int (x.fmod top))) (cm := bC fTake L 1287 ["source", "top"] [.raw (.ref s), .int top]) "source" (.list [.int x, .int y]) s ⟨_, hs, .inl rfl⟩ (by kernel_rfl)
  refine W.cons (W.setp 9 (.int (x.fdiv top)) (.int 0) s (.list [.int x, .int y]) (.list [.int (x.fdiv top), .int y]) [top ≠ 0, top.natAbs < 1073741824] [(0:Int) ≤ 0, (0:Int) < ([MV.int x, MV.int y].length : Nat), [MV.int x, MV.int y].length < 1000000] hr hon2 (by kernel_rfl) ⟨by lia, by lia, trivial⟩ (by kernel_rfl) (by kernel_rfl) hs (by kernel_rfl) ⟨by decide, by simp, by simp, trivial⟩ rfl ?_)
  refine W.cons (W.re (.int (x.fmod top)) hr OnOk.none ?_)
  exact ⟨x.fmod top, rfl, Int.fmod_nonneg h0 (Int.le_of_lt h3), Int.fmod_lt_of_pos x h3, x.fdiv top, y, Int.fdiv_nonneg h0 (Int.le_of_lt h3), h1, h2, rfl⟩
 ·refine W.nil ?_
  have key : ((y * 39373 + 7).fmod 2147483647) < 2147483647 := Int.fmod_lt_of_pos _ (by decide)
  have key0 : 0 ≤ ((y * 39373 + 7).fmod 2147483647) := Int.fmod_nonneg (by lia) (by decide)
  refine W.cons (W.setp 9 (.int ((y * 39373 + 7).fmod 2147483647)) (.int 1) s (.list [.int x, .int y]) (.list [.int x, .int ((y * 39373 + 7).fmod 2147483647)]) [IntMulOk y 39373, (2147483647:Int) ≠ 0] [(0:Int) ≤ 1, (1:Int) < ([MV.int x, MV.int y].length : Nat), [MV.int x, MV.int y].length < 1000000] hr hon (by kernel_rfl) ⟨IntMulOk.of_right (by decide +kernel), by decide, trivial⟩ (by kernel_rfl) (by kernel_rfl) hs (by kernel_rfl) ⟨by decide, by simp, by simp, trivial⟩ rfl ?_)
  generalize hz : (y * 39373 + 7).fmod 2147483647 = z at *
  have hon3 := OnOk.one (env := callEnvM fTake L 1287) (m := bM fTake L 1287 ["source", "top"] [.raw (.ref s), .int top]) (cm := bC fTake L 1287 ["source", "top"] [.raw (.ref s), .int top]) (H := H.upd s (.list [.int x, .int z])) "source" (.list [.int x, .int z]) s ⟨_, TM.upd_self _ _ _, .inl rfl⟩ (by kernel_rfl)
  refine W.cons (W.reC (.int ((((z * z).fmod 2147483629).fdiv 32).fmod top)) [IntMulOk z z, (2147483629:Int) ≠ 0, (32:Int) ≠ 0, (32:Int).natAbs < 1073741824, top ≠ 0] hr hon3 ⟨by mul_fits, by decide, by decide, by decide, by lia, trivial⟩ ?_)
  exact ⟨_, rfl, Int.fmod_nonneg (Int.fdiv_nonneg (Int.fmod_nonneg (Int.mul_nonneg key0 key0) (by decide)) (by decide)) (Int.le_of_lt h3), Int.fmod_lt_of_pos _ h3, x, z, h0, key0, by lia, rfl⟩
theorem one_ok {l : List MV} (hA : Room A 2) (h : Src s H) (hl : 0 < l.length) (hl2 : l.length < 100) :
  CallW c A (.raw (.ref 1294)) [.raw (.ref s), .lst l] H (fun r G => r ∈ l ∧ SrcTo s H G) := by
 refine CallW.bd (names := ["source", "things"]) (fOne_at c) hA.depth fOne_ok (bind2 fun p S a b => by kernel_rfl) fun L => ?_
 have hA' := hA.deeper (callEnvM fOne L 1294)
 have hr := hA'.rm
 refine W.cons (W.ret (W.sub rfl (W.e0 (.lst l) hr (W.callName (.raw (.ref 1287)) (by kernel_rfl) (by kernel_rfl) (W.esC [.raw (.ref s), .int l.length] [l.length < 1000000] hr OnOk.none ⟨by lia, trivial⟩ ((take_ok hA' h (by lia) (by lia)).mono fun r G hpat => ?_))))))
 refine x1a4 hpat fun d e h1 h2 h3 => ?_
 subst e
 refine ⟨l.getD d.toNat .none, _, rfl, ⟨h1, h2, by lia, trivial⟩, ?_, h3⟩
 (refine rG List.getD_eq_getElem?_getD ?_; refine rG (List.getElem?_eq_getElem (by lia)) ?_)
 exact List.getElem_mem _
end
end Mine
namespace Mine
theorem W.forR {c : Cx} {A : Around} {env : Env} {m cm : LM} {H : TM} {x : Str} {px pos : Pos} {iter : Expr} {body : List Stmt} {Q : MFlow → LM → LM → TM → Prop} (I : List MV → TM → Prop) (hA : A.handled = none)
  (h : W c A env m cm H (eval iter env) V (LoopS fun l m1 cm1 H1 => m1 = m ∧ cm1 = cm ∧ I l H1))
  (hb : ∀ v rest H, I (v :: rest) H → W c A env (m.put x (some v)) cm H (execs body env) Fl (LoopQ (fun m' cm' H' => (∃ o, m' = m.put x o) ∧ cm' = cm ∧ I rest H') Q))
  (he : ∀ o H, I [] H → Q .next (m.put x o) cm H) (hx : env.kindOf x = some .local := by kernel_rfl) (hs : ∀ x, foldedSetIterable iter env x = pure x := by intro _; rfl) :
  W c A env m cm H (exec (.For (.Name x px) iter body [] pos) env) Fl Q := by
 refine W.forL (fun rest m' cm' H' => ∃ o, m' = m.put x o ∧ cm' = cm ∧ I rest H') hA
  (h.mono fun v m1 cm1 H1 ⟨l, e1, e2, e3, e4, e5⟩ => ⟨l, e1, e2, m x, by (refine rG e3 ?_; refine rG (LM.put_self ..) ?_; rfl), e4, e5⟩) (fun v rest m' cm' H' ⟨o, hm, hc, hI⟩ => ?_) (fun m' cm' H' hq => x1a3 hq fun o hm hc hI => ?_) hs
 ·subst hm hc
  refine ⟨(m.put x o).set x v, cm', ?_, ?_⟩
  ·(rewrite [storeTo]; refine rG hx ?_; rfl)
  ·have e : (m.put x o).set x v = m.put x (some v) := by
    funext y; simp only [LM.set, LM.put]; split <;> rfl
   refine rG e ?_
   exact (hb v rest H' hI).mono fun f m2 cm2 H2 q => by
    cases f <;> first
     | exact (let ⟨⟨o, h1⟩, h2, h3⟩ := q; ⟨o, h1, h2, h3⟩)
     | exact q
 ·subst hm hc
  exact he o H' hI
noncomputable def toldVs : Told → List MV
 | .rows l => [.str "rows", .lst (l.map fun r => .lst (r.map Wt.mv))]
 | .comp op l r cols => [.str op, .tup (toldVs l), .tup (toldVs r), .lst (cols.map .str)]
noncomputable def toldMV (t : Told) : MV := .tup (toldVs t)
noncomputable def wts : List Wt := [.none, .int 1, .int 2, .str "a", .str "A", .str "b"]
@[reducible] noncomputable def RowOk (n : Nat) (r : List Wt) : Prop := r.length = n ∧ ∀ w ∈ r, w ∈ wts
noncomputable def Told.good (n : Nat) : Told → Prop
 | .rows l => l.length ≤ 3 ∧ ∀ r ∈ l, RowOk n r
 | .comp op l r cols => (op = "union" ∨ op = "except" ∨ op = "intersect" ∨ op = "union all") ∧ l.good n ∧ r.good n ∧ cols.length = n ∧ ∀ s ∈ cols, s = "binary" ∨ s = "nocase"
theorem Told.good.ok {n : Nat} : ∀ {t : Told}, t.good n → t.ok n
 | .rows l => by intro hz1; refine x0a2 hz1 fun h1 h2 => ?_; exact ⟨h1, fun r hr => (h2 r hr).1⟩
 | .comp .. => by intro hz1; refine x0a4 hz1 fun h1 h2 h3 h4 => ?_; exact ⟨h1, h2.ok, h3.ok, h4⟩
theorem mem_map_mv {l : List Wt} {x : MV} (h : x ∈ l.map Wt.mv) : ∃ w ∈ l, x = w.mv := by
 refine x1a2 (List.mem_map.mp h) fun w h1 h2 => ?_; exact i1a2 w h1 h2.symm
section
variable {c : Cx} {A : Around} {s : Addr} {H : TM}
theorem mem_wts {v : MV} (h : v ∈ wts.map Wt.mv) : ∃ w ∈ wts, v = w.mv := mem_map_mv h
inductive LotI (n : Nat) (s a : Addr) (H : TM) (rest : List MV) (H' : TM) : Prop
 | mk (l : List (List Wt)) (G : TM) (e : H' = G.upd a (.plist (l.map fun r => .lst (r.map Wt.mv)))) (ga : G a = none) (hG : SrcTo s H G) (l1 : 1 ≤ l.length + rest.length) (l2 : l.length + rest.length ≤ 3) (l3 : ∀ row ∈ l, RowOk n row) : LotI n s a H rest H'
inductive LotJ (n : Nat) (s a : Addr) (H : TM) (l : List (List Wt)) (rest acc : List MV) (H' : TM) : Prop
 | mk (r : List Wt) (G : TM) (e : H' = G.upd a (.plist (l.map fun r => .lst (r.map Wt.mv)))) (ga : G a = none) (hG : SrcTo s H G) (r1 : r.length + rest.length = n) (r2 : acc = r.map Wt.mv) (r3 : ∀ w ∈ r, w ∈ wts) : LotJ n s a H l rest acc H'
inductive LotR (n : Nat) (s : Addr) (H : TM) (r : MV) (G : TM) : Prop
 | mk (l : List (List Wt)) (e : r = toldMV (.rows l)) (l1 : 1 ≤ l.length) (l2 : l.length ≤ 3) (l3 : ∀ row ∈ l, RowOk n row) (hG : SrcTo s H G) : LotR n s H r G
theorem lot_ok {n : Nat} (hA : Room A 3) (h : Src s H) (hn : n ≤ 2) :
  CallW c A (.raw (.ref 1299)) [.raw (.ref s), .int n] H (LotR n s H) := by
 refine CallW.bd (names := ["source", "many"]) (fLot_at c) hA.depth fLot_ok (bind2 fun p S a b => by kernel_rfl) fun L => ?_
 have hA' := hA.deeper (callEnvM fLot L 1299)
 have hr := hA'.rm
 refine W.cons (W.asgV (W.listO (W.es [] hr OnOk.none ⟨by decide, fun a ha => ⟨by kernel_rfl, ?_⟩⟩)))
 have has : a ≠ s := h.not ha
 refine W.cons (W.forR (LotI n s a H) hr.1
  (W.callNm (.raw (.type "range")) (by kernel_rfl) (by kernel_rfl) (W.ec (W.bin (W.e0 (.int 1) hr (W.callName (.raw (.ref 1287)) (by kernel_rfl) (by kernel_rfl) (W.es [.raw (.ref s), .int 3] hr OnOk.none
   ((take_ok (hA'.less (by first | decide | lia)) ?_ (by decide) (by decide)).mono fun r G hd => ?_))))))) (fun v rest H' hst => ?_) (fun o H' hst => ?_))
 ·exact SrcTo.up h has
 ·refine x1a4 hd fun d e h1 h2 h3 => ?_
  subst e
  refine ⟨.int (1 + d), [], rfl, trivial, W.items_nil (CallP.plain hr (z := .rng (1 + d).toNat) (C := [0 ≤ 1 + d]) (by kernel_rfl) ⟨by lia, trivial⟩ ⟨_, rfl, by simp; lia, rfl, rfl, ?_⟩)⟩
  (refine x2a4 h3 fun x y k1 k2 k3 e95 => ?_; subst e95)
  refine ⟨[], H.upd s (.list [.int x, .int y]), TM.upd_comm has, by refine rG (TM.upd_ne has) ?_; exact ha, ⟨x, y, k1, k2, k3, rfl⟩, by simp; lia, by simp; lia, fun r hr => nomatch hr⟩
 ·obtain ⟨l, G, rfl, ga, hG, l1, l2, l3⟩ := hst
  rw [List.length_cons] at l1 l2
  refine W.cons (W.ex (W.meth (.raw (.ref a)) (.builtin "list.append") (by kernel_rfl) (PuN.e (.raw (.ref a)) hr OnOk.none) (MethG.append (TM.upd_self _ _ _)) (W.ec ?_)))
  refine W.comp (LotJ n s a H l) hr.1 (by kernel_rfl) (by kernel_rfl) (by kernel_rfl)
   (W.eC (.rng (n : Int).toNat) [(0 : Int) ≤ (n : Int)] hr ⟨by lia, trivial⟩ ⟨_, rfl, by simp; lia, ⟨[], G, rfl, ga, hG, by simp, rfl, fun w hw => nomatch hw⟩, fun C m0 v rest acc H' hj => ?_, fun acc H' hj => ?_⟩)
  ·obtain ⟨r, G, e1, g1, g2, r1, r2, r3⟩ := hj
   subst e1
   refine i1a2 (m0.set "k" v) (by kernel_rfl) (W.callName (.raw (.ref 1294)) (by kernel_rfl) (by kernel_rfl) (W.es [.raw (.ref s), .lst (wts.map Wt.mv)] hr OnOk.none ((one_ok (hA'.less (by first | decide | lia)) (g2.src.up has) (by decide) (by decide)).mono fun u G' hg => ?_)))
   (refine x1a2 (mem_wts hg.1) fun w hw e92 => ?_; subst e92)
   have g3 := hg.2
   rw [List.length_cons] at r1
   (refine x2a4 g3 fun x y k1 k2 k3 e95 => ?_; subst e95)
   refine ⟨rfl, by (refine rG r2 ?_; refine rG (List.length_map ..) ?_); lia, r ++ [w], G.upd s (.list [.int x, .int y]), TM.upd_comm has, by refine rG (TM.upd_ne has) ?_; exact g1, g2.trans ⟨x, y, k1, k2, k3, rfl⟩, by simp; lia, by refine rG r2 ?_; simp, fun z hz => ?_⟩
   rcases List.mem_append.mp hz with hz | hz
   ·exact r3 z hz
   ·rw [List.mem_singleton] at hz; subst hz; exact hw
  ·obtain ⟨r, G, e1, g1, g2, r1, r2, r3⟩ := hj
   subst e1 r2
   refine W.items_nil (CallP.append (TM.upd_self _ _ _) (by refine rG (List.length_map ..) ?_; lia) (W.nil ⟨⟨_, rfl⟩, rfl, ?_⟩))
   refine ⟨l ++ [r], G, ?_, g1, g2, by simp; lia, by simp; lia, fun z hz => ?_⟩
   ·(refine rG TM.upd_upd ?_; refine rG List.map_append ?_); rfl
   rcases List.mem_append.mp hz with hz | hz
   ·exact l3 z hz
   ·rw [List.mem_singleton] at hz; subst hz; exact ⟨by simpa using r1, r3⟩
 ·obtain ⟨l, G, rfl, ga, hG, l1, l2, l3⟩ := hst
  refine W.cons (W.ret (W.tuple (W.ec (W.e0 (.str "rows") hr (W.ec (W.frozen (W.e0 (.raw (.ref a)) hr ⟨a, _, _, rfl, TM.upd_self _ _ _, .inr rfl, W.items_nil ⟨by show 2 < 1000000; decide, ?_⟩⟩)))))))
  exact ⟨l, rfl, by simpa using l1, by simpa using l2, l3, by refine rG (TM.del_upd ga) ?_; exact hG⟩
end
end Mine
namespace Mine
noncomputable def opNames : List Str := ["union", "except", "intersect", "union all"]
noncomputable def colNames : List Str := ["binary", "nocase"]
theorem mem_strs {v : MV} {l : List Str} (h : v ∈ l.map MV.str) : ∃ x ∈ l, v = .str x := by
 refine x1a2 (List.mem_map.mp h) fun x h1 h2 => ?_; exact i1a2 x h1 h2.symm
inductive TolI (s a : Addr) (H : TM) (P : Told → Prop) (k : Nat) (H' : TM) : Prop
 | mk (l : List Told) (G : TM) (e : H' = G.upd a (.plist (l.map toldMV))) (ga : G a = none) (hG : SrcTo s H G) (l1 : l.length + k = 2) (l2 : ∀ t ∈ l, P t) : TolI s a H P k H'
inductive TolR (s : Addr) (n d : Nat) (H : TM) (r : MV) (G : TM) : Prop
 | mk (op : Str) (x y : Told) (cols : List Str) (e : r = toldMV (.comp op x y cols)) (hg : (Told.comp op x y cols).good n) (h1 : x.deep ≤ d) (h2 : y.deep ≤ d) (hG : SrcTo s H G) : TolR s n d H r G
theorem told_step {s a : Addr} {H G G2 : TM} {l : List Told} {t : Told} {k : Nat} {P : Told → Prop} (has : a ≠ s) (ga : G a = none) (hG : SrcTo s H G) (hG2 : SrcTo s (G.upd a (.plist (l.map toldMV))) G2) (l1 : l.length + (k + 1) = 2) (l2 : ∀ t ∈ l, P t) (ht : P t) :
  G2 a = some (.plist (l.map toldMV)) ∧ TolI s a H P k (G2.upd a (.plist (l.map toldMV ++ [toldMV t]))) := by
 (refine x2a4 hG2 fun x1 y1 k4 k5 k6 e95 => ?_; subst e95)
 refine ⟨by (refine rG (TM.upd_ne has) ?_; refine rG (TM.upd_self ..) ?_; rfl), l ++ [t], G.upd s (.list [.int x1, .int y1]), ?_, by refine rG (TM.upd_ne has) ?_; exact ga, hG.trans ⟨x1, y1, k4, k5, k6, rfl⟩, by simp; lia, fun z hz => ?_⟩
 ·(refine rG (TM.upd_comm has) ?_; refine rG TM.upd_upd ?_; refine rG List.map_append ?_); rfl
 rcases List.mem_append.mp hz with hz | hz
 ·exact l2 z hz
 ·rw [List.mem_singleton] at hz; subst hz; exact ht
section
variable {c : Cx} {s : Addr}
noncomputable def ToldC (c : Cx) (s : Addr) (n d : Nat) : Prop := ∀ (A : Around) (H : TM), Room A (d + 4) → Src s H →
  CallW c A (.raw (.ref 1304)) [.raw (.ref s), .int n, .int d] H (TolR s n d H)
theorem told_main {n : Nat} (hn : n ≤ 2) (d : Nat) (ih : ∀ d' : Nat, d = d' + 1 → ToldC c s n d') : ToldC c s n d := by
  intro A H hA h
  refine CallW.bd (names := ["source", "many", "deep"]) (fTold_at c) hA.depth fTold_ok (bind3 fun p S a b d => by kernel_rfl) fun L => ?_
  have hA' := hA.deeper (callEnvM fTold L 1304)
  have hr := hA'.rm
  refine W.cons (W.asgV (W.callName (.raw (.ref 1294)) (by kernel_rfl) (by kernel_rfl) (W.es [.raw (.ref s), .lst (opNames.map .str)] hr OnOk.none ((one_ok (hA'.less (by first | decide | lia)) h (by decide) (by decide)).mono fun u H0 hpat => ?_))))
  refine x0a2 hpat fun e h0 => ?_
  (refine x1a2 (mem_strs e) fun op hop e92 => ?_; subst e92)
  refine ⟨by kernel_rfl, ?_⟩
  refine W.cons (W.asgV (W.listO (W.es [] hr OnOk.none ⟨by decide, fun a ha => ⟨by kernel_rfl, ?_⟩⟩)))
  have has : a ≠ s := h0.src.not ha
  refine W.cons (W.forR (fun rest H' => TolI s a H (fun t => t.good n ∧ t.deep ≤ d) rest.length H') hr.1
   (W.eC (.rng (2 : Int).toNat) [(0 : Int) ≤ 2] hr ⟨by lia, trivial⟩ ⟨_, rfl, by simp, rfl, rfl, [], H0, rfl, ha, h0, by simp, fun t ht => nomatch ht⟩) (fun v rest H' hst => ?_) (fun o H' hst => ?_))
  ·obtain ⟨l, G, rfl, ga, hG, l1, l2⟩ := hst
   rw [List.length_cons] at l1
   refine W.cons (W.ex (W.meth (.raw (.ref a)) (.builtin "list.append") (by kernel_rfl) (PuN.e (.raw (.ref a)) hr OnOk.none) (MethG.append (TM.upd_self _ _ _)) (W.ec (W.ifExp (W.testBool (W.allAnd (W.testCmp hr rfl (W.e0 (.int d) hr (W.e0 (.int 0) hr ⟨decide ((d : Int) > 0), [], rfl, trivial, ?_⟩)))))))))
   cases hd : d with
   | zero =>
    subst hd
    refine W.callName (.raw (.ref 1299)) (by kernel_rfl) (by kernel_rfl) (W.es [.raw (.ref s), .int n] hr OnOk.none ((lot_ok (hA'.less (by first | decide | lia)) (hG.src.up has) hn).mono fun u G' hpat => ?_))
    obtain ⟨x, e, k1, k2, k3, hG'⟩ := hpat
    subst e
    obtain ⟨q1, q2⟩ := told_step (t := .rows x) has ga hG hG' l1 l2 ⟨⟨k2, k3⟩, Nat.zero_le _⟩
    exact W.items_nil (CallP.append q1 (by refine rG (List.length_map ..) ?_; lia) (W.nil ⟨⟨_, rfl⟩, rfl, q2⟩))
   | succ d' =>
    subst hd
    refine rG (decide_eq_true (by lia)) ?_
    refine W.allAnd (W.testCmp hr rfl (W.callName (.raw (.ref 1287)) (by kernel_rfl) (by kernel_rfl) (W.es [.raw (.ref s), .int 2] hr OnOk.none ((take_ok (hA'.less (by first | decide | lia)) (hG.src.up has) (by decide) (by decide)).mono fun u G1 hpat => ?_))))
    obtain ⟨z, e, z1, z2, hG1⟩ := hpat
    subst e
    refine W.e0 (.int 0) hr ⟨decide (z = 0), [], rfl, trivial, ?_⟩
    by_cases hz : z = 0
    ·refine rG (decide_eq_true hz) ?_
     refine W.allNil ?_
     have ed : ((d' + 1 : Nat) : Int) - 1 = (d' : Int) := by lia
     refine W.callName (.raw (.ref 1304)) (by kernel_rfl) (by kernel_rfl) (W.es [.raw (.ref s), .int n, .int (((d' + 1 : Nat) : Int) - 1)] hr OnOk.none ?_)
     refine rG ed ?_
     refine (ih d' rfl _ _ (hA'.less (by first | decide | lia)) hG1.src).mono fun u G' hpat => ?_
     obtain ⟨op', x, y, cols, e, k1, k2, k3, hG'⟩ := hpat
     subst e
     obtain ⟨q1, q2⟩ := told_step (t := .comp op' x y cols) has ga hG (hG1.trans hG') l1 l2 ⟨k1, by simp only [Told.deep]; lia⟩
     exact W.items_nil (CallP.append q1 (by refine rG (List.length_map ..) ?_; lia) (W.nil ⟨⟨_, rfl⟩, rfl, q2⟩))
    ·refine rG (decide_eq_false hz) ?_
     refine W.callName (.raw (.ref 1299)) (by kernel_rfl) (by kernel_rfl) (W.es [.raw (.ref s), .int n] hr OnOk.none ((lot_ok (hA'.less (by first | decide | lia)) hG1.src hn).mono fun u G' hpat => ?_))
     obtain ⟨x, e, k1, k2, k3, hG'⟩ := hpat
     subst e
     obtain ⟨q1, q2⟩ := told_step (t := .rows x) has ga hG (hG1.trans hG') l1 l2 ⟨⟨k2, k3⟩, Nat.zero_le _⟩
     exact W.items_nil (CallP.append q1 (by refine rG (List.length_map ..) ?_; lia) (W.nil ⟨⟨_, rfl⟩, rfl, q2⟩))
  ·obtain ⟨l, G, rfl, ga, hG, l1, l2⟩ := hst
   match l, l1 with
   | [x, y], _ =>
   have h0 := l2 x (.head _)
   have h1 := l2 y (.tail _ (.head _))
   refine W.cons (W.ret (W.tuple (W.ec (W.e0 (.str op) hr (W.ec (W.eO (toldMV x) hr (OnOk.one "sides" (.list ([x, y].map toldMV)) a ⟨_, TM.upd_self _ _ _, .inr rfl⟩) (W.ec (W.eO (toldMV y) hr (OnOk.one "sides" (.list ([x, y].map toldMV)) a ⟨_, TM.upd_self _ _ _, .inr rfl⟩) (W.ec ?_)))))))))
   refine W.freeze (TM.upd_self _ _ _) (.inr rfl) ?_
   refine rG (TM.del_upd ga) ?_
   refine W.comp (fun rest acc H' => ∃ (r : List Str), SrcTo s G H' ∧ r.length + rest.length = n ∧ acc = r.map MV.str ∧ ∀ w ∈ r, w ∈ colNames) hr.1 (by kernel_rfl) (by kernel_rfl) (by kernel_rfl)
    (W.eC (.rng (n : Int).toNat) [(0 : Int) ≤ (n : Int)] hr ⟨by lia, trivial⟩ ⟨_, rfl, by simp; lia, ⟨[], hG.src, by simp, rfl, fun w hw => nomatch hw⟩, fun C m0 v rest acc H' ⟨r, g2, r1, r2, r3⟩ => ?_, fun acc H' hq => x1a4 hq fun r g2 r1 r2 r3 => ?_⟩)
   ·refine i1a2 (m0.set "k" v) (by kernel_rfl) (W.callName (.raw (.ref 1294)) (by kernel_rfl) (by kernel_rfl) (W.es [.raw (.ref s), .lst (colNames.map MV.str)] hr OnOk.none ((one_ok (hA'.less (by first | decide | lia)) g2.src (by decide) (by decide)).mono fun u G' hpat => ?_)))
    obtain ⟨e, g3⟩ := hpat
    obtain ⟨w, hw, rfl⟩ := mem_strs e
    rw [List.length_cons] at r1
    refine ⟨rfl, by (refine rG r2 ?_; refine rG (List.length_map ..) ?_); lia, r ++ [w], g2.trans g3, by simp; lia, by refine rG r2 ?_; simp, fun z hz => ?_⟩
    rcases List.mem_append.mp hz with hz | hz
    ·exact r3 z hz
    ·rw [List.mem_singleton] at hz; subst hz; exact hw
   ·subst r2
    refine W.items_nil ⟨by show 4 < 1000000; decide, op, x, y, r, rfl, ⟨?_, h0.1, h1.1, by simpa using r1, fun w hw => ?_⟩, h0.2, h1.2, hG.trans g2⟩
    ·simpa [opNames] using hop
    ·simpa [colNames] using r3 w hw
theorem told_ok {n : Nat} (hn : n ≤ 2) : ∀ d : Nat, ToldC c s n d
 | 0 => told_main hn 0 fun d' e => by lia
 | d + 1 => told_main hn (d + 1) fun d' e => by
  have : d' = d := by lia
  subst this
  exact told_ok hn d'
end
end Mine
namespace Mine
section
variable {c : Cx} {A : Around} {env : Env} {m cm : LM} {H : TM}
inductive MapI {α : Type} (H : TM) (l : List α) (fi fo : α → MV) (rest acc : List MV) (H' : TM) : Prop
 | mk (e : H' = H) (a b : List α) (h5 : l = a ++ b) (h6 : acc = a.map fo) (h7 : rest = b.map fi) : MapI H l fi fo rest acc H'
noncomputable abbrev MapS {α : Type} (c : Cx) (A : Around) (env : Env) (scope : Scope) (target elt : Expr) (H : TM) (l : List α) (fi fo : α → MV) (P : LM → LM → TM → Prop) : MV → LM → LM → TM → Prop := fun v m1 cm1 H1 => H1 = H ∧ iterV v = some (l.map fi) ∧ l.length < 1000000 ∧
   (∀ C m0 x, x ∈ l → ∃ m2, bindT (compEnvC scope (closL scope env) C env) m0 cm1 target (fi x) = some (m2, cm1) ∧
    W c A (compEnvC scope (closL scope env) C env) m2 cm1 H (eval elt (compEnvC scope (closL scope env) C env)) V (fun u _ cm2 H' => cm2 = cm1 ∧ H' = H ∧ u = fo x)) ∧ P m1 cm1 H
theorem map_comp {α : Type} {scope : Scope} {target elt : Expr} {l : List α} {fi fo : α → MV} {P : LM → LM → TM → Prop} {Z : List MV → LM → LM → TM → Prop} {v : MV} {m1 cm1 : LM} {H1 : TM} (hZ : P m1 cm1 H → Z (l.map fo) m1 cm1 H) (h : MapS c A env scope target elt H l fi fo P v m1 cm1 H1) : CompS c A env scope target elt (MapI H l fi fo) Z v m1 cm1 H1 := by
 refine x0a5 h fun e h1 h2 h3 h4 => ?_
 refine ⟨_, h1, by refine rG (List.length_map ..) ?_; exact h2, ⟨e, [], l, rfl, rfl, rfl⟩, fun C m0 v rest acc H' hI => ?_, fun acc H' hI => ?_⟩
 ·obtain ⟨e', a, b, h5, h6, h7⟩ := hI
  cases b with
  | nil => injection h7
  | cons x b =>
   rw [List.map_cons] at h7
   injection h7 with h7 h8
   subst h7 e'
   (refine x1a2 (h3 C m0 x (by refine rG h5 ?_; exact List.mem_append_right _ (.head _))) fun m2 k1 k2 => ?_)
   have hlen : acc.length < 1000000 := by
    (refine rG h6 ?_; refine rG (List.length_map ..) ?_)
    exact Nat.lt_of_le_of_lt (by (refine rG h5 ?_; refine rG List.length_append ?_); exact Nat.le_add_right _ _) h2
   refine i1a2 m2 k1 (k2.mono fun u m4 cm2 H2 q => ?_)
   refine x0a3 q fun q1 q2 q3 => ?_
   exact ⟨q1, hlen, q2, a ++ [x], b, by (refine rG h5 ?_; refine rG (List.append_assoc ..) ?_); rfl, by (refine rG h6 ?_; refine rG q3 ?_; refine rG List.map_append ?_); rfl, h8⟩
 ·obtain ⟨e', a, b, h5, h6, h7⟩ := hI
  cases b with
  | cons x b => injection h7
  | nil =>
   rw [List.append_nil] at h5
   subst h5 h6 e'
   exact hZ h4
theorem W.compMap {α : Type} {elt target iter : Expr} {scope : Scope} {pos : Pos} {Q : MV → LM → LM → TM → Prop} (l : List α) (fi fo : α → MV) (hA : A.handled = none)
  (h : W c A env m cm H (eval iter env) V (MapS c A env scope target elt H l fi fo (Q (.lst (l.map fo)))))
  (hcl : (closC env scope.names []).isSome = true := by kernel_rfl) (hst : (scope.names.all fun x => x.2 != .cell && (x.2 != .local || scope.names.lookup x.1 == some .local)) = true := by kernel_rfl) (hkind : scope.kind = .function := by kernel_rfl)
  (hs : ∀ x, foldedSetIterable iter env x = pure x := by intro _; rfl) :
  W c A env m cm H (eval (.ListComp elt [⟨target, iter, [], 0⟩] scope pos) env) V Q :=
 W.comp (Q := Q) (MapI H l fi fo) hA hcl hst hkind (h.mono fun _ _ _ _ q => map_comp (fun p => p) q) hs
theorem pu_pow {F : FM} {a b : Value} (hx : VR F (.int 10) a) (hy : VR F (.int 18) b) : Pu c A F (binaryOp .Pow a b) V (.int 1000000000000000000) := fun T s r => by
 simp only [VR] at hx hy
 (refine x1a1 hx fun t e91 => ?_; subst e91)
 (refine x1a1 hy fun u e91 => ?_; subst e91)
 refine PySem.AutoIntOps.pow_4 (by decide) (by decide) (by decide) (by decide) (by decide +kernel) ?_
 show (Made.int 1000000000000000000).post _ s
 exact ⟨F, FM.le.refl F, r.tok _, vr_int⟩
theorem W.pow {l r : Expr} {pos : Pos} {Q : MV → LM → LM → TM → Prop}
  (h : W c A env m cm H (eval l env) V fun a m1 cm1 H1 => W c A env m1 cm1 H1 (eval r env) V fun b m2 cm2 H2 => a = .int 10 ∧ b = .int 18 ∧ Q (.int 1000000000000000000) m2 cm2 H2) :
  W c A env m cm H (eval (.BinOp l .Pow r pos) env) V Q := fun F K s r0 =>
 wpAny_BinOp (W.wp h r0 fun F1 x m1 cm1 H1 a s1 k1 r1 v1 q1 =>
  W.wp q1 r1 fun F2 y m2 cm2 H2 b s2 k2 rr v2 qq => by
   obtain ⟨T, r2, l2⟩ := rr
   refine x0a3 qq fun e1 e2 q2 => ?_
   subst e1 e2
   exact PostN.wp (pu_pow (VR.mono k2 _ v1) v2 T s2 r2) fun F3 u s3 k3 r3 v3 => ⟨F3, _, m2, cm2, H2, k1.trans (k2.trans k3), ⟨T, r3, l2.up k3⟩, v3, q2⟩)
theorem LM.set_set {m : LM} {x : Str} {v w : MV} : (m.set x v).set x w = m.set x w := by
 funext y; simp only [LM.set]; split <;> rfl
theorem pool_ok {ns : List Int} (hA : Room A 1) (hl : ns.length < 1000) :
  CallW c A (.raw (.ref 1280)) [.lst (ns.map .int), .int 0] H (fun r G => ∃ a x y, r = .raw (.ref a) ∧ H a = none ∧ G = H.upd a (.plist [.int x, .int y]) ∧ 0 ≤ x ∧ 0 ≤ y ∧ y < 2147483648) := by
 refine CallW.bd (names := ["script", "k"]) (fPool_at c) hA.depth fPool_ok (bind2 fun p S a b => by kernel_rfl) fun L => ?_
 have hA' := hA.deeper (callEnvM fPool L 1280)
 have hr := hA'.rm
 have hlen : (ns.map MV.int).length = ns.length := List.length_map ..
 refine W.cons (W.asgL (.int 0) hr OnOk.none ?_)
 refine W.cons ((W.if2 (Q := fun f m' cm' H' => f = .next ∧ ∃ i, m' = (bM fPool L 1280 ["script", "k"] [.lst (ns.map .int), .int 0]).set "cell" (.int i) ∧ cm' = bC fPool L 1280 ["script", "k"] [.lst (ns.map .int), .int 0] ∧ H' = H)
  (decide ((0 : Int) < (ns.map MV.int).length)) [(ns.map MV.int).length < 1000000] hr OnOk.none ⟨by lia, trivial⟩ (fun e => ?_) (fun e => W.nil ⟨rfl, 0, rfl, rfl, rfl⟩)).mono fun f m' cm' H' ⟨e, i, e1, e2, e3⟩ => ?_)
 ·have e := of_decide_eq_true e
  have : (ns.map MV.int).getD (0 : Int).toNat .none = .int (ns.getD 0 0) := by
   cases ns with
   | nil => simp at e
   | cons a l => rfl
  refine W.cons (W.asgLC ((ns.map MV.int).getD (0 : Int).toNat .none) [(0 : Int) ≤ 0, (0 : Int) < ((ns.map MV.int).length : Int), (ns.map MV.int).length < 1000000] hr OnOk.none ⟨by decide, e, by lia, trivial⟩ (W.nil ?_))
  (refine rG this ?_; refine rG LM.set_set ?_)
  exact ⟨rfl, _, rfl, rfl, rfl⟩
 ·subst e e1 e2 e3
  refine W.cons (W.asgL (.int (if -1 - i > i then -1 - i else i)) hr OnOk.none ?_)
  have hb : 0 ≤ (if -1 - i > i then -1 - i else i) := by split <;> lia
  generalize (if -1 - i > i then -1 - i else i) = b at *
  have hf : 0 ≤ b.fmod 2147483629 ∧ b.fmod 2147483629 < 2147483629 := ⟨Int.fmod_nonneg hb (by decide), Int.fmod_lt_of_pos _ (by decide)⟩
  refine W.cons (W.asgLC (.int (((b.fmod 2147483629 + 7919 * 0 * 0 + 31 * 0 + 17) * 48271).fmod 2147483647)) [(2147483629 : Int) ≠ 0, IntMulOk 7919 0, IntMulOk (7919 * 0) 0, IntMulOk 31 0, IntMulOk (b.fmod 2147483629 + 7919 * 0 * 0 + 31 * 0 + 17) 48271, (2147483647 : Int) ≠ 0] hr OnOk.none
   ⟨by decide, IntMulOk.of_right (by decide +kernel), IntMulOk.of_right (by decide +kernel), IntMulOk.of_right (by decide +kernel), IntMulOk.of_right (by decide +kernel), by decide, trivial⟩ ?_)
  have hy : 0 ≤ ((b.fmod 2147483629 + 7919 * 0 * 0 + 31 * 0 + 17) * 48271).fmod 2147483647 ∧ ((b.fmod 2147483629 + 7919 * 0 * 0 + 31 * 0 + 17) * 48271).fmod 2147483647 < 2147483647 := ⟨Int.fmod_nonneg (by lia) (by decide), Int.fmod_lt_of_pos _ (by decide)⟩
  generalize ((b.fmod 2147483629 + 7919 * 0 * 0 + 31 * 0 + 17) * 48271).fmod 2147483647 = y at *
  refine W.cons (W.ret (W.listO (W.ec (W.bin (W.e0 (.int b) hr ?_)))))
  refine W.callNm (.raw (.type "int")) (by kernel_rfl) (by kernel_rfl) (W.ec (W.cmp hr rfl (W.e0 (.int b) hr (W.pow (W.e0 (.int 10) hr (W.e0 (.int 18) hr ⟨rfl, rfl, decide (b ≥ 1000000000000000000), [], rfl, trivial, ?_⟩))))))
  refine W.items_nil (CallP.plain hr (z := .int (if decide (b ≥ 1000000000000000000) then 1 else 0)) (C := []) (by kernel_rfl) trivial ?_)
  refine ⟨.int (b * (if decide (b ≥ 1000000000000000000) then 1 else 0)), [IntMulOk b (if decide (b ≥ 1000000000000000000) then 1 else 0)], rfl, ⟨?_, trivial⟩, W.es [.int y] hr OnOk.none ⟨by show 2 < 1000000; decide, fun a ha => ?_⟩⟩
  ·split <;> exact IntMulOk.of_right (by decide +kernel)
  ·refine ⟨a, _, y, rfl, ha, rfl, ?_, hy.1, (by lia)⟩
   split <;> lia
end
end Mine
namespace Mine
theorem TM.made_del {H : TM} {a d : Addr} {x y : MObj} (ha : H a = none) (hd : H d = none) : (((H.upd a x).upd d y).del a).del d = H := by
 funext b
 simp only [TM.del, TM.upd]
 by_cases h1 : b = d
 ·(refine rG (if_pos h1) ?_; refine rG h1 ?_; refine rG hd ?_; rfl)
 ·refine rG (if_neg h1) ?_
  by_cases h2 : b = a
  ·(refine rG (if_pos h2) ?_; refine rG h2 ?_; refine rG ha ?_; rfl)
  ·(refine rG (if_neg h2) ?_; refine rG (if_neg h1) ?_; refine rG (if_neg h2) ?_; rfl)
section
variable {c : Cx} {A : Around} {H : TM}
theorem node_ok {n : Nat} : ∀ (t : Told), t.good n → n ≤ 2 → ∀ (A : Around) (H : TM), Room A (t.deep + 3) →
  CallW c A (.raw (.ref 1309)) [toldMV t] H (fun r G => G = H ∧ r = nodeMV t)
 | .rows l => by
  intro hz1 hn A H hA
  refine x0a2 hz1 fun h1 h2 => ?_
  refine CallW.bd (names := ["told"]) (fNode_at c) hA.depth fNode_ok (bind1 fun p S a => by kernel_rfl) fun L => ?_
  have hA' := hA.deeper (callEnvM fNode L 1309)
  have hr := hA'.rm
  refine W.cons (W.ifT [] hr OnOk.none trivial ?_)
  refine W.cons (W.ret (W.callName (.raw (.ref 550)) (by kernel_rfl) (by kernel_rfl) (W.ec ?_)))
  refine W.compMap l (fun r => .lst (r.map Wt.mv)) (fun r => .lst (r.map litMV)) hr.1 (W.e0 (.lst (l.map fun r => .lst (r.map Wt.mv))) hr ⟨rfl, rfl, by lia, fun C m0 r hm => ⟨m0.set "row" (.lst (r.map Wt.mv)), by kernel_rfl, ?_⟩, ?_⟩)
  ·have := (h2 r hm).1
   refine W.compMap r Wt.mv litMV hr.1 (W.e0 (.lst (r.map Wt.mv)) hr ⟨rfl, rfl, by lia, fun C m0 w hw => ⟨m0.set "worth" w.mv, by kernel_rfl, ?_⟩, rfl, rfl, rfl⟩)
   exact W.callName (.raw (.ref 112)) (by kernel_rfl) (by kernel_rfl) (W.es [w.mv] hr OnOk.none ((lit_ok (hA'.less (by first | decide | lia)) _).mono fun u G hq => x0a2 hq fun e1 e2 => ⟨rfl, e1, e2⟩))
  ·exact W.items_nil ((vals_ok (hA'.less (by first | decide | lia)) _).mono fun u G hq => x0a2 hq fun e1 e2 => ⟨e1, e2⟩)
 | .comp op x y cols => by
  intro hz1 hn A H hA
  refine x0a5 hz1 fun h1 h2 h3 h4 h5 => ?_
  refine CallW.bd (names := ["told"]) (fNode_at c) hA.depth fNode_ok (bind1 fun p S a => by kernel_rfl) fun L => ?_
  have hA0 : Room A (max x.deep y.deep + 3 + 1) := hA.less (by simp only [Told.deep]; lia)
  have hA' := hA0.deeper (callEnvM fNode L 1309)
  have hr := hA'.rm
  refine W.cons (W.if2 (decide (op = "rows")) [] hr OnOk.none trivial (fun e => ?_) fun _ => W.nil ?_)
  ·exfalso
   have e := of_decide_eq_true e
   subst e
   revert h1; decide
  refine W.cons (W.asgV (W.callName (.raw (.ref 576)) (by kernel_rfl) (by kernel_rfl) (W.ec (W.e0 (.str op) hr (W.ec ?_)))))
  refine W.callName (.raw (.ref 1309)) (by kernel_rfl) (by kernel_rfl) (W.es [toldMV x] hr OnOk.none ((node_ok x h2 hn _ _ (hA'.less (by first | decide | lia))).val2 ?_))
  refine W.ec (W.callName (.raw (.ref 1309)) (by kernel_rfl) (by kernel_rfl) (W.es [toldMV y] hr OnOk.none ((node_ok y h3 hn _ _ (hA'.less (by first | decide | lia))).val2 ?_)))
  refine W.items_nil (CallW.make (f := 566) (by kernel_rfl) (by kernel_rfl) (by kernel_rfl) fun A' a d e1 e2 e3 ha hd hne => ?_)
  refine (initCom_ok ((hA'.less (k := _) (j := 2) (by lia)).made e1 e2 e3) (TM.upd_self _ _ _) (by (refine rG (TM.upd_ne (Ne.symm hne)) ?_; refine rG (TM.upd_self ..) ?_; rfl))).mono fun u G hq => x0a2 hq fun e1 e2 => ⟨e1, by kernel_rfl, ?_⟩
  subst e2
  (refine rG (TM.upd_comm (Ne.symm hne)) ?_; refine rG TM.upd_upd ?_)
  refine W.cons (W.setAttr (W.compMap cols .str (fun s => .tup [.str "c", colMV s]) hr.1 (W.e0 (.lst (cols.map .str)) hr ⟨rfl, rfl, by lia, fun C m0 w hw => ⟨m0.set "collation" (.str w), by kernel_rfl, ?_⟩, ?_⟩)))
  ·refine W.tuple (W.ec (W.e0 (.str "c") hr (W.ec (W.callName (.raw (.ref 448)) (by kernel_rfl) (by kernel_rfl) (W.ec (W.callName (.raw (.ref 112)) (by kernel_rfl) (by kernel_rfl) (W.es [.none] hr OnOk.none ((lit_ok (hA'.less (by first | decide | lia)) _).val2 ?_))))))))
   refine W.es [.str w] hr OnOk.none ((col_ok (hA'.less (by first | decide | lia)) _).val2 ?_)
   exact W.items_nil ⟨by show 2 < 1000000; decide, rfl, rfl, rfl⟩
  ·refine W.e0 (.raw (.ref a)) hr ⟨a, 576, d, _, rfl, by (refine rG (TM.upd_ne hne) ?_; refine rG (TM.upd_self ..) ?_; rfl), TM.upd_self _ _ _, by kernel_rfl, Nat.le_of_ble_eq_true rfl, ?_⟩
   refine rG TM.upd_upd ?_
   refine W.cons (W.ret (W.frozenObj (W.e0 (.raw (.ref a)) hr ⟨a, d, 576, _, rfl, by (refine rG (TM.upd_ne hne) ?_; refine rG (TM.upd_self ..) ?_; rfl), TM.upd_self _ _ _, ?_⟩)))
   exact ⟨TM.made_del ha hd, rfl⟩
end
noncomputable def PS.start : PS := { ops := [], regs := 1, curs := 0, lab := -1, labels := [] }
section
variable {c : Cx} {A : Around} {H : TM}
theorem initPrg_ok (hA : Room A 1) {a d : Addr} {H : TM} (ha : H a = some (.exact (instObj 1269 d))) (hd : H d = some (.attrs [])) :
  CallW c A (.raw (.ref 1193)) [.raw (.ref a)] H (fun r H' => r = .none ∧ ∃ oa la, H oa = none ∧ H la = none ∧ oa ≠ la ∧
   H' = ((H.upd oa (.plist [])).upd la (.idict [])).upd d (.attrs (progAttrs ⟨a, d, oa, la, 0, 0, 0⟩ .start))) := by
 refine CallW.bd (names := ["self"]) (fInitPrg_at c) hA.depth fInitPrg_ok (bind1 fun p S a => by kernel_rfl) fun L => ?_
 have hr := (hA.deeper (callEnvM fInitPrg L 1193)).rm
 have hne : a ≠ d := by first | exact TM.neS hd ha | exact (TM.neS hd ha).symm | (rintro rfl; rw [ha] at hd; (injection hd with hd; injection hd))
 refine W.cons (W.setAttr (W.listO (W.es [] hr OnOk.none ⟨by decide, fun oa hoa => W.e0 (.raw (.ref a)) hr ?_⟩)))
 have n1 : a ≠ oa := by first | exact TM.neS hoa ha | exact (TM.neS hoa ha).symm | (rintro rfl; rw [ha] at hoa; injection hoa)
 have n2 : d ≠ oa := by first | exact TM.neS hoa hd | exact (TM.neS hoa hd).symm | (rintro rfl; rw [hd] at hoa; injection hoa)
 refine ⟨a, 1269, d, _, rfl, by refine rG (TM.upd_ne n1) ?_; exact ha, by refine rG (TM.upd_ne n2) ?_; exact hd, by kernel_rfl, Nat.le_of_ble_eq_true rfl, ?_⟩
 have ha1 : ∀ x, ((H.upd oa (.plist [])).upd d x) a = some (.exact (instObj 1269 d)) := fun x => by (refine rG (TM.upd_ne hne) ?_; refine rG (TM.upd_ne n1) ?_); exact ha
 refine W.cons (W.selfSet (a := a) (d := d) (C := 1269) (.lst []) [] hr trivial (ha1 _) (TM.upd_self _ _ _) (Nat.le_of_ble_eq_true rfl) ?_)
 refine rG TM.upd_upd ?_
 refine W.cons (W.selfSet (a := a) (d := d) (C := 1269) (.int 1) [] hr trivial (ha1 _) (TM.upd_self _ _ _) (Nat.le_of_ble_eq_true rfl) ?_)
 refine rG TM.upd_upd ?_
 refine W.cons (W.selfSet (a := a) (d := d) (C := 1269) (.int 0) [] hr trivial (ha1 _) (TM.upd_self _ _ _) (Nat.le_of_ble_eq_true rfl) ?_)
 refine rG TM.upd_upd ?_
 refine W.cons (W.selfSet (a := a) (d := d) (C := 1269) (.int 0) [] hr trivial (ha1 _) (TM.upd_self _ _ _) (Nat.le_of_ble_eq_true rfl) ?_)
 refine rG TM.upd_upd ?_
 refine W.cons (W.selfSet (a := a) (d := d) (C := 1269) (.bool false) [] hr trivial (ha1 _) (TM.upd_self _ _ _) (Nat.le_of_ble_eq_true rfl) ?_)
 refine rG TM.upd_upd ?_
 refine W.cons (W.setAttr (W.dictE fun la hla => W.e0 (.raw (.ref a)) hr ?_))
 have m1 : a ≠ la := by first | exact TM.neS hla ha1 | exact (TM.neS hla ha1).symm | (rintro rfl; rw [ha1] at hla; injection hla)
 have m2 : d ≠ la := by rintro rfl; rw [TM.upd_self] at hla; injection hla
 have m3 : oa ≠ la := by rintro rfl; rw [TM.upd_ne (Ne.symm n2), TM.upd_self] at hla; injection hla
 refine ⟨a, 1269, d, _, rfl, by refine rG (TM.upd_ne m1) ?_; exact ha1 _, by (refine rG (TM.upd_ne m2) ?_; refine rG (TM.upd_self ..) ?_; rfl), by kernel_rfl, Nat.le_of_ble_eq_true rfl, ?_⟩
 (refine rG (TM.upd_comm m2) ?_; refine rG TM.upd_upd ?_)
 have ha2 : ∀ x, (((H.upd oa (.plist [])).upd la (.idict [])).upd d x) a = some (.exact (instObj 1269 d)) := fun x => by (refine rG (TM.upd_ne hne) ?_; refine rG (TM.upd_ne m1) ?_; refine rG (TM.upd_ne n1) ?_); exact ha
 refine W.cons (W.selfSet (a := a) (d := d) (C := 1269) (.int (-1)) [] hr trivial (ha2 _) (TM.upd_self _ _ _) (Nat.le_of_ble_eq_true rfl) ?_)
 refine rG TM.upd_upd ?_
 have hla' : H la = none := by rw [TM.upd_ne (Ne.symm m2), TM.upd_ne (Ne.symm m3)] at hla; exact hla
 exact W.nil ⟨rfl, oa, la, hoa, hla', m3, rfl⟩
end
end Mine
namespace Mine
section
variable {c : Cx} {A : Around} {env : Env} {m cm : LM} {H : TM}
noncomputable def ItMk (c : Cx) (A : Around) (D : Addr) (Z : TM → Prop) (X : List MV → MObj → Prop) (l : List MV) : Prop :=
 ∀ F T s (G : Value → Shared → Prop), Rel c F T s → Z T → (∀ it y s', T it = none → X l y → Rel c F (T.upd it y) s' → G (.ref it) s') → wpAny (model P c.w) A (pyIter (.ref D)) G NoE s
noncomputable def ItNx (c : Cx) (A : Around) (Z : TM → Prop) (X : List MV → MObj → Prop) : Prop :=
 ∀ F T s it v rest y (G : Option Value → Shared → Prop), Rel c F T s → Z T → T it = some y → X (v :: rest) y → (∀ u y' s', VR F v u → X rest y' → Rel c F (T.upd it y') s' → G (some u) s') → wpAny (model P c.w) A (pyNext (.ref it)) G NoE s
noncomputable def ItEn (c : Cx) (A : Around) (Z : TM → Prop) (X : List MV → MObj → Prop) : Prop :=
 ∀ F T s it y (G : Option Value → Shared → Prop), Rel c F T s → Z T → T it = some y → X [] y → (∀ s', Rel c F (T.del it) s' → G none s') → wpAny (model P c.w) A (pyNext (.ref it)) G NoE s
inductive GenS (D : Addr) (I : List MV → LM → LM → TM → Prop) (B : List MV → Prop) (v : MV) (m cm : LM) (H : TM) : Prop
 | mk (e : v = .raw (.ref D)) (l : List MV) (hI : I l m cm H) (hb : B l) : GenS D I B v m cm H
inductive GLoop (c : Cx) (env : Env) (K : TM) (it : Addr) (I : List MV → LM → LM → TM → Prop) (X : List MV → MObj → Prop) (F : FM) (n : Nat) (s : Shared) : Prop
 | mk (l : List MV) (m cm : LM) (H : TM) (F' : FM) (y : MObj) (k : F.le F') (hn : n = l.length) (hI : I l m cm H) (hx : X l y) (r : RelE c env m cm F' H (K.upd it y) s) : GLoop c env K it I X F n s
theorem W.forG {x : Str} {px pos : Pos} {iter : Expr} {body : List Stmt} {Q : MFlow → LM → LM → TM → Prop} (D : Addr) (Z : TM → Prop) (X : List MV → MObj → Prop) (I : List MV → LM → LM → TM → Prop) (hA : A.handled = none)
  (hX : ∀ l y, X l y → ∀ v, y ≠ .cell v) (hP : ∀ l m cm H, I l m cm H → ∀ T : TM, H.le T → Z T)
  (h : W c A env m cm H (eval iter env) V (GenS D I (ItMk c A D Z X))) (hn : ItNx c A Z X) (hz : ItEn c A Z X)
  (hb : ∀ v rest m cm H, I (v :: rest) m cm H → Bnd (storeTo env m cm x v) fun m2 cm2 => W c A env m2 cm2 H (execs body env) Fl (LoopQ (I rest) Q))
  (he : ∀ m cm H, I [] m cm H → Q .next m cm H) (hs : ∀ x, foldedSetIterable iter env x = pure x := by intro _; rfl) :
  W c A env m cm H (exec (.For (.Name x px) iter body [] pos) env) Fl Q := fun F K s r => by
 refine wpAny_For (W.wp h r fun F1 v m1 cm1 H1 u s1 k1 rr v1 qq => ?_) hs
 obtain ⟨T1, r1, y1⟩ := rr
 obtain ⟨ev, l, hI, hit⟩ := qq
 subst ev
 simp only [V, VR] at v1
 subst v1
 refine hit F1 T1 s1 _ r1 (hP _ _ _ _ hI _ y1.hT) fun it y0 s2 hit x0 r2 => ?_
 have hKit : K it = none := by
  cases q : K it with
  | none => rfl
  | some z => rw [y1.kT _ _ q] at hit; cases hit
 refine codeAny_forLoop (GLoop c env K it I X F) (fun n s hl => ?_) l.length ⟨l, m1, cm1, H1, F1, y0, k1, rfl, hI, x0, _, r2, y1.newK hit⟩
 obtain ⟨l, m, cm, H, F', y0, kF, hn', hI, hx, T, r, y⟩ := hl
 have hTit : T it = some y0 := y.kT _ _ (TM.upd_self _ _ _)
 have hPT := hP _ _ _ _ hI _ y.hT
 cases l with
 | nil =>
  refine wpAny_mono (hz F' T s it y0 _ r hPT hTit hx fun s' r' => ?_) (fun _ _ h => h) fun _ _ x => x.elim
  refine wpAny_execs_nil ⟨F', .next, m, cm, H, kF, ⟨_, r', ?_⟩, rfl, he m cm H hI⟩
  have := y.delK (TM.upd_self _ _ _) (hX _ _ hx)
  rw [TM.del_upd hKit] at this; exact this
 | cons v rest =>
  refine wpAny_mono (hn F' T s it v rest y0 _ r hPT hTit hx fun u y2 s' hu hx2 r' => ?_) (fun _ _ h => h) fun _ _ x => x.elim
  have y' := y.setK (y := y2) (TM.upd_self _ _ _) (hX _ _ hx)
  rw [TM.upd_upd] at y'
  obtain ⟨m2, cm2, hst, hw⟩ := hb v rest m cm H hI
  refine wpAny_assign_Name (wpAny_mono (store_ok hst ⟨_, r', y'⟩ hu fun s'' r'' => ?_) (fun _ _ h => h) fun _ _ x => x.elim)
  refine W.wp hw r'' fun F3 b m3 cm3 H3 f s3 k3 rr v3 q3 => ?_
  cases b with
  | next => cases v3; exact ⟨rest.length, by refine rG hn' ?_; exact Nat.lt_succ_self _, rest, m3, cm3, H3, F3, y2, kF.trans k3, rfl, q3, hx2, rr⟩
  | cont => cases v3; exact ⟨rest.length, by refine rG hn' ?_; exact Nat.lt_succ_self _, rest, m3, cm3, H3, F3, y2, kF.trans k3, rfl, q3, hx2, rr⟩
  | brk => cases v3; exact ⟨F3, .next, m3, cm3, H3, kF.trans k3, rr.elim fun T3 r3 y3 => ⟨T3, r3, y3.lessK hKit (hX _ _ hx2)⟩, rfl, q3⟩
  | ret w => obtain ⟨u', rfl, v3⟩ := v3; exact ⟨F3, .ret w, m3, cm3, H3, kF.trans k3, rr.elim fun T3 r3 y3 => ⟨T3, r3, y3.lessK hKit (hX _ _ hx2)⟩, ⟨u', rfl, v3⟩, q3⟩
theorem VRs.drop {F : FM} : ∀ (i : Nat) {l : List MV} {vs : List Value}, VRs F l vs → VRs F (l.drop i) (vs.drop i)
 | 0, _ => by rename_i _; intro h; exact h
 | i + 1, [] => by rename_i _; intro h; subst h; exact VRs.nil
 | i + 1, x :: l => by
  rename_i _
  intro h
  (refine x2a3 h.uncons fun u r e92 _ h2 => ?_; subst e92)
  exact VRs.drop i h2
inductive ListIt (D : Addr) (l rest : List MV) (y : MObj) : Prop
 | mk (i : Nat) (o : Obj) (e : y = .exact o) (hc : o.cls = .type "list_iterator") (hd : o.data = .fields #[.ref D, .int i 0]) (hr : rest = l.drop i) : ListIt D l rest y
theorem W.forO {x : Str} {px pos : Pos} {iter : Expr} {body : List Stmt} {Q : MFlow → LM → LM → TM → Prop} (D : Addr) (l : List MV) (I : Nat → TM → Prop) (hA : A.handled = none)
  (hD : ∀ i H, I i H → H D = some (.plist l))
  (h : W c A env m cm H (eval iter env) V (fun v m1 cm1 H1 => v = .raw (.ref D) ∧ m1 = m ∧ cm1 = cm ∧ I 0 H1))
  (hb : ∀ i v H, l[i]? = some v → I i H → W c A env (m.put x (some v)) cm H (execs body env) Fl (LoopQ (fun m' cm' H' => (∃ o, m' = m.put x o) ∧ cm' = cm ∧ I (i + 1) H') Q))
  (he : ∀ o H, I l.length H → Q .next (m.put x o) cm H) (hx : env.kindOf x = some .local := by kernel_rfl) (hs : ∀ x, foldedSetIterable iter env x = pure x := by intro _; rfl) :
  W c A env m cm H (exec (.For (.Name x px) iter body [] pos) env) Fl Q := by
 have hlen : ∀ {F : FM} {T : TM} {s : Shared}, Rel c F T s → T D = some (.plist l) → ∃ vs, s.heap.IsList D vs ∧ VRs F l vs.toList := fun r hT => IsLst.get (l := l) (.inr rfl) (r.own _ _ hT).2.1
 refine W.forG D (fun T => T D = some (.plist l)) (ListIt D l) (IdxI m cm x l.length (fun i => l.drop i) I) hA (fun l y hl v => ?_) (fun rest m' cm' H' hI T k => ?_) (h.mono fun v m1 cm1 H1 q => ?_) (fun F T s it v rest y G r hT hit hl kk => ?_) (fun F T s it y G r hT hit hl kk => ?_) (fun v rest m' cm' H' hI => ?_) (fun m' cm' H' hI => ?_) hs
 ·obtain ⟨i, o, e, _⟩ := hl
  refine rG e ?_; intro e; injection e
 ·obtain ⟨i, o, _, _, _, _, hI⟩ := hI
  exact k _ _ (hD i H' hI)
 ·refine x0a4 q fun e1 e3 e4 e5 => ?_
  refine ⟨e1, l, ⟨0, m x, Nat.zero_le _, rfl, by (refine rG e3 ?_; refine rG (LM.put_self ..) ?_; rfl), e4, e5⟩, fun F T s G r hT kk => ?_⟩
  refine x1a2 (hlen r hT) fun vs hl hv => ?_
  exact wpAny_pyIter_list hl (kk _ _ _ r.fresh ⟨0, _, rfl, rfl, rfl, rfl⟩ (r.pushO (Heap.get?_push_size _ rfl)))
 ·obtain ⟨i, o, e1, e2, e3, e4⟩ := hl
  subst e1
  refine x1a2 (hlen r hT) fun vs hl hv => ?_
  have hv' : VRs F (v :: rest) (vs.toList.drop i) := by refine rG e4 ?_; exact hv.drop i
  refine x2a3 hv'.uncons fun u rr k1 k2 k3 => ?_
  have hu : vs[i]? = some u := by
   have : (vs.toList.drop i)[0]? = some u := by refine rG k1 ?_; rfl
   simpa using this
  refine wpAny_pyNext_list_item (i := i) ⟨o, (r.own _ _ hit).2.1, e2, e3⟩ hl hu fun h' ho hs' => ?_
  refine x1a3 ho fun o' g1 g2 g3 => ?_
  exact kk u (.exact o') _ k2 ⟨i + 1, o', rfl, g2, g3, by (refine rL List.drop_drop ?_; refine rL e4 ?_); rfl⟩ (r.set (tk := s.toks) hit hs' g1)
 ·obtain ⟨i, o, e1, e2, e3, e4⟩ := hl
  subst e1
  refine x1a2 (hlen r hT) fun vs hl hv => ?_
  have hlen := hv.len
  rw [Array.length_toList] at hlen
  have : l.length ≤ i := by simpa using e4.symm
  exact wpAny_pyNext_list_end hA (i := i) ⟨o, (r.own _ _ hit).2.1, e2, e3⟩ hl (Array.getElem?_eq_none (hlen ▸ this)) fun h' hx => kk _ (r.but (tk := s.toks) hit hx)
 ·obtain ⟨i, o, hi, hr, hm, hc, hI⟩ := hI
  subst hm hc
  have hv : l[i]? = some v := by
   have : (l.drop i)[0]? = some v := by refine rL hr ?_; rfl
   simpa using this
  refine ⟨m.put x (some v), cm', ?_, IdxI.turn (List.getElem?_eq_some_iff.mp hv).1 ?_ (hb i v H' hv hI)⟩
  ·unfold storeTo; refine rG hx ?_; dsimp only; (refine rG (LM.put_set ..) ?_; rfl)
  ·show rest = l.drop (i + 1)
   (refine rL List.drop_drop ?_; refine rL hr ?_); rfl
 ·obtain ⟨i, o, hi, hr, hm, hc, hI⟩ := hI
  subst hm hc
  have : i = l.length := Nat.le_antisymm hi (by simpa using hr.symm)
  subst this
  exact he o H' hI
end
end Mine
namespace Mine
noncomputable def jumpsL : List (Str × Tok × Tok) := [("Goto", 1961, 1962), ("Gosub", 1964, 1965), ("Once", 1967, 1968), ("If", 1970, 1971), ("IfNot", 1973, 1974), ("IsNull", 1976, 1977), ("NotNull", 1979, 1980), ("IfPos", 1982, 1983), ("MustBeInt", 1985, 1986), ("CompareJump", 1988, 1989), ("Rewind", 1991, 1992), ("Last", 1994, 1995), ("Next", 1997, 1998), ("Prev", 2000, 2001), ("SeekRowid", 2003, 2004), ("SeekGE", 2006, 2007), ("SeekGT", 2009, 2010), ("SeekLE", 2012, 2013), ("SeekLT", 2014, 2015), ("IdxGT", 2016, 2017), ("IdxGE", 2018, 2019), ("IdxLT", 2020, 2021), ("IdxLE", 2022, 2023), ("Found", 2024, 2025), ("NotFound", 2026, 2027), ("NoConflict", 2028, 2029), ("NotExists", 2030, 2031), ("SorterSort", 2032, 2033), ("SorterNext", 2034, 2035), ("IntegrityRows", 2036, 2037)]
noncomputable def jumpEn (p : Params) (x : Str × Tok × Tok) : DictEntry := en p x.1 x.2.1 (.int 1 x.2.2)
theorem jumps_look (p : Params) : (Ks p).lookup 1178 = some ⟨.type "dict", none, .dict (jumpsL.map (jumpEn p)).toArray 30, #[]⟩ := by kernel_rfl
theorem jumps_nodup : (jumpsL.map (·.1)).Nodup := by decide +kernel
theorem jumps_pairs (w : World) : ∀ l : List (Str × Tok × Tok), Pairs (PySem.strKind P w) (l.map (jumpEn w.params)) (l.map fun x => (x.1, .int 1 x.2.2))
 | [] => .nil
 | x :: l => .cons (by simp [PySem.strKind, Value.isStrOf, jumpEn, en]) rfl (jumps_pairs w l)
section
variable {c : Cx} {A : Around} {env : Env} {m cm : LM} {H : TM}
theorem jumps_at {F : FM} {T : TM} {s : Shared} (r : Rel c F T s) : s.heap.DictOf (PySem.strKind P c.w) 1178 (jumpsL.map fun x => (x.1, .int 1 x.2.2)) := by
 refine ⟨_, _, _, (r.kin _ _ (jumps_look _)), ⟨rfl, rfl, rfl⟩, rfl, ?_, ?_, ?_⟩
 ·intro e he
  simp only [List.mem_toArray] at he
  (refine x1a2 (List.mem_map.mp he) fun x hx e92 => ?_; subst e92)
  exact i1a2 x.1 (by simp [PySem.strKind, Value.isStrOf, jumpEn, en]) rfl
 ·exact jumps_pairs c.w jumpsL
 ·refine rG List.map_map ?_; exact jumps_nodup
theorem jumps_val (s : Str) : ∀ l : List (Str × Tok × Tok), (valueAt (l.map fun x => (x.1, Value.int 1 x.2.2)) s).isSome = l.any fun x => decide (x.1 = s)
 | [] => rfl
 | x :: l => by
  have := jumps_val s l
  unfold valueAt at this ⊢
  (refine rG List.map_cons ?_; refine rG List.find?_cons ?_; refine rG List.any_cons ?_)
  by_cases h : x.1 = s
  ·simp [h]
  ·simp only [h, decide_false, Bool.false_or]; exact this
theorem W.testJump {l r : Expr} {pos : Pos} {Z : Bool → LM → LM → TM → Prop} {whole : Sem Value}
  (h : W c A env m cm H (eval l env) V fun a m1 cm1 H1 => W c A env m1 cm1 H1 (eval r env) V fun b m2 cm2 H2 => ∃ s, a = .str s ∧ b = .raw (.ref 1178) ∧ Z (jumpsL.any fun x => decide (x.1 = s)) m2 cm2 H2)
  (hm : behindInMarks .In r = false := by rfl) :
  W c A env m cm H (isTrue (.Compare l [.In] [r] pos) env whole) Bo Z := fun F K s r0 =>
 wpAny_isTrue_Compare1 (W.wp h r0 fun F1 x m1 cm1 H1 a s1 k1 r1 v1 q1 =>
  W.wp q1 r1 fun F2 y m2 cm2 H2 b s2 k2 rr v2 qq => by
   obtain ⟨T, r2, l2⟩ := rr
   refine x1a3 qq fun z ea eb q2 => ?_
   subst ea eb
   simp only [V, VR] at v1 v2
   (refine x1a1 v1 fun t e91 => ?_; subst e91)
   subst v2
   refine wpAny_in_of (knd := PySem.strKind P c.w) (k := z) (by simp [PySem.strKind, Value.isStrOf]) (by decide +kernel) (jumps_at r2).mapOf ?_
   refine rG (jumps_val ..) ?_
   exact wpAny_truthy_bool ⟨F2, _, m2, cm2, H2, k1.trans k2, ⟨T, r2.tok _, l2⟩, rfl, q2⟩) hm
theorem W.pin {α β : Type} {t : Sem α} {R : FM → β → α → Prop} {Z : β → LM → LM → TM → Prop} {a : Addr} {l : List (Int × MV)} (ha : H a = some (.idict l)) (h : ∀ o, W c A env m cm (H.upd a (.pin o l)) t R Z) : W c A env m cm H t R Z := fun F K s r => by
 obtain ⟨kvs, ⟨o, es, ep, h1, h2⟩, h3⟩ := r.rep ha
 exact h o F K s (r.set (tk := s.toks) (h' := s.heap) (y := .pin o l) ha (Heap.SameBut.refl ..) ⟨h1, kvs, ⟨o, es, ep, h1, h2⟩, h3⟩)
theorem W.unpin {α β : Type} {t : Sem α} {R : FM → β → α → Prop} {Z : β → LM → LM → TM → Prop} {a : Addr} {o : Obj} {l : List (Int × MV)} (ha : H a = some (.pin o l)) (h : W c A env m cm (H.upd a (.idict l)) t R Z) : W c A env m cm H t R Z := fun F K s r => by
 obtain ⟨h1, kvs, h2, h3⟩ := r.rep ha
 exact h F K s (r.set (tk := s.toks) (h' := s.heap) (y := .idict l) ha (Heap.SameBut.refl ..) ⟨kvs, h2, h3⟩)
theorem KVs.get {K : Type} {F : FM} : ∀ {l : List (K × MV)} {kvs : List (K × Value)} {i : Nat} {k : K} {v : MV}, KVs F l kvs → l[i]? = some (k, v) → ∃ u, kvs[i]? = some (k, u)
 | [] => by rename_i _ _ _ _; intro _ e; simp at e
 | (x, m) :: l => by
  rename_i _ i k v
  intro h e
  refine x2a3 h fun u r e1 h1 h2 => ?_
  subst e1
  cases i with
  | zero => (injection e with e; injection e with e; subst e); exact i1a1 u rfl
  | succ i => exact KVs.get (i := i) h2 e
theorem drop_get {α : Type} {l : List α} {i : Nat} {x : α} (q : l[i]? = some x) : l.drop i = x :: l.drop (i + 1) := by
 obtain ⟨hlt, e⟩ := List.getElem?_eq_some_iff.mp q
 (refine rG (List.drop_eq_getElem_cons hlt) ?_; refine rG e ?_; rfl)
theorem drop_ints {l : List (Int × MV)} {i : Nat} {v : MV} {rest : List MV} (e : v :: rest = (l.drop i).map fun x => MV.int x.1) : ∃ k mv, l[i]? = some (k, mv) ∧ v = .int k ∧ rest = (l.drop (i + 1)).map fun x => .int x.1 := by
 cases q : l[i]? with
 | none =>
  have : l.drop i = [] := by simpa using q
  rw [this] at e; cases e
 | some kv =>
  rw [drop_get q, List.map_cons] at e
  injection e with e1 e2
  exact i2a3 kv.1 kv.2 rfl e1 e2
theorem drop_end {l : List (Int × MV)} {i : Nat} (e : [] = (l.drop i).map fun x => MV.int x.1) : l.length ≤ i := by simpa using e.symm
inductive DictIt (D : Addr) (od : Obj) (l : List (Int × MV)) (rest : List MV) (y : MObj) : Prop
 | mk (i : Nat) (o : Obj) (es : Array DictEntry) (ep : Nat) (e : y = .exact o) (hc : o.cls = .type "dict_keyiterator") (hd : o.data = .fields #[.ref D, .int i 0, .int l.length 0, .int ep 0]) (hod : od.data = .dict es ep) (hr : rest = (l.drop i).map fun x => .int x.1) : DictIt D od l rest y
theorem W.forD {x : Str} {px pos : Pos} {iter : Expr} {body : List Stmt} {Q : MFlow → LM → LM → TM → Prop} (D : Addr) (od : Obj) (l : List (Int × MV)) (I : Nat → TM → Prop) (hA : A.handled = none)
  (hD : ∀ i H, I i H → H D = some (.pin od l))
  (h : W c A env m cm H (eval iter env) V (fun v m1 cm1 H1 => v = .raw (.ref D) ∧ m1 = m ∧ cm1 = cm ∧ I 0 H1))
  (hb : ∀ i k v H, l[i]? = some (k, v) → I i H → W c A env (m.put x (some (.int k))) cm H (execs body env) Fl (LoopQ (fun m' cm' H' => (∃ o, m' = m.put x o) ∧ cm' = cm ∧ I (i + 1) H') Q))
  (he : ∀ o H, I l.length H → Q .next (m.put x o) cm H) (hx : env.kindOf x = some .local := by kernel_rfl) (hs : ∀ x, foldedSetIterable iter env x = pure x := by intro _; rfl) :
  W c A env m cm H (exec (.For (.Name x px) iter body [] pos) env) Fl Q := by
 have look_ : ∀ {F : FM} {T : TM} {s : Shared}, Rel c F T s → T D = some (.pin od l) → ∃ kvs ep es, s.heap.DictAt (intKind P c.w) D kvs ep ∧ KVs F l kvs ∧ od.data = .dict es ep ∧ c.h0.objs.size ≤ D := fun {F T s} r hT => by
  obtain ⟨_, ⟨h1, kvs, h2, h3⟩, h4, _⟩ := r.own _ _ hT
  refine x1a1 h2.dictAt fun ep h5 => ?_
  refine x2a4 (id h5) fun o' es g1 g2 g3 g4 => ?_
  rw [h1] at g1
  (injection g1 with g1; subst g1)
  exact i3a4 kvs ep es h5 h3 g3 h4
 refine W.forG D (fun T => T D = some (.pin od l)) (DictIt D od l) (IdxI m cm x l.length (fun i => (l.drop i).map fun x => .int x.1) I) hA (fun l y hl v => ?_) (fun rest m' cm' H' hI T k => ?_) (h.mono fun v m1 cm1 H1 q => ?_) (fun F T s it v rest y G r hT hit hl kk => ?_) (fun F T s it y G r hT hit hl kk => ?_) (fun v rest m' cm' H' hI => ?_) (fun m' cm' H' hI => ?_) hs
 ·obtain ⟨i, o, es, ep, e, _⟩ := hl
  refine rG e ?_; intro e; injection e
 ·obtain ⟨i, o, _, _, _, _, hI⟩ := hI
  exact k _ _ (hD i H' hI)
 ·refine x0a4 q fun e1 e3 e4 e5 => ?_
  refine ⟨e1, _, ⟨0, m x, Nat.zero_le _, rfl, by (refine rG e3 ?_; refine rG (LM.put_self ..) ?_; rfl), e4, e5⟩, fun F T s G r hT kk => ?_⟩
  refine x3a4 (look_ r hT) fun kvs ep es h5 h3 g3 h4 => ?_
  have hlen := h3.len
  refine wpAny_pyIter_dict (knd := intKind P c.w) ?_ h5 (kk _ _ _ r.fresh ⟨0, _, es, ep, rfl, rfl, ?_, g3, rfl⟩ (r.pushO (Heap.get?_push_size _ rfl)))
  ·rw [beq_eq_false_iff_ne]
   rintro rfl
   rw [c.sz] at h4
   exact absurd h4 (by decide)
  ·refine rG hlen ?_; rfl
 ·obtain ⟨i, o, es, ep, e1, e2, e3, e5, e4⟩ := hl
  subst e1
  refine x3a4 (look_ r hT) fun kvs ep' es' h5 h3 g3 h4 => ?_
  have hep : ep' = ep := by rw [e5] at g3; cases g3; rfl
  subst hep
  have hlen := h3.len
  (refine x2a3 (drop_ints e4) fun k mv q e93 e7 => ?_; subst e93)
  refine x1a1 (h3.get q) fun u hu => ?_
  refine wpAny_pyNext_dict_item (knd := intKind P c.w) (i := i) (ep := ep') ⟨o, (r.own _ _ hit).2.1, e2, by (refine rG e3 ?_; refine rG hlen ?_; rfl)⟩ h5 hu fun key h' hk ho hs' => ?_
  refine x1a3 ho fun o2 j1 j2 j3 => ?_
  (refine x1a1 (Value.isInt_shape hk) fun t e91 => ?_; subst e91)
  exact kk _ (.exact o2) _ vr_int ⟨i + 1, o2, es, ep', rfl, j2, by (refine rG j3 ?_; refine rG hlen ?_; rfl), e5, e7⟩ (r.set (tk := s.toks) hit hs' j1)
 ·obtain ⟨i, o, es, ep, e1, e2, e3, e5, e4⟩ := hl
  subst e1
  refine x3a4 (look_ r hT) fun kvs ep' es' h5 h3 g3 h4 => ?_
  have hep : ep' = ep := by rw [e5] at g3; cases g3; rfl
  subst hep
  have hlen := h3.len
  exact wpAny_pyNext_dict_end (knd := intKind P c.w) (i := i) (ep := ep') hA ⟨o, (r.own _ _ hit).2.1, e2, by (refine rG e3 ?_; refine rG hlen ?_; rfl)⟩ h5 (List.getElem?_eq_none (by refine rG hlen ?_; exact drop_end e4)) fun h' hx => kk _ (r.but (tk := s.toks) hit hx)
 ·obtain ⟨i, o, hi, hr, hm, hc, hI⟩ := hI
  subst hm hc
  (refine x2a3 (drop_ints hr) fun k mv q e93 e7 => ?_; subst e93)
  refine ⟨m.put x (some (.int k)), cm', ?_, IdxI.turn (List.getElem?_eq_some_iff.mp q).1 e7 (hb i k mv H' q hI)⟩
  unfold storeTo; refine rG hx ?_; dsimp only; (refine rG (LM.put_set ..) ?_; rfl)
 ·obtain ⟨i, o, hi, hr, hm, hc, hI⟩ := hI
  subst hm hc
  have : i = l.length := Nat.le_antisymm hi (drop_end hr)
  subst this
  exact he o H' hI
end
end Mine
end
section
set_option backward.match.sparseCases false
open PySem PySem.W PySem.W.X PyProof.Rows PySem.Calls
open Builtin Builtin.ObjectAttr
namespace Mine
noncomputable def fixL (lab : List (Int × Int)) (l : Int) : Int := if l < 0 then (look lab l).getD l else l
noncomputable def Ins.target : Ins → Option Int
 | .rewind _ l => some l
 | .next _ l => some l
 | .found _ _ l _ _ => some l
 | _ => none
noncomputable def Ins.fix (lab : List (Int × Int)) : Ins → Ins
 | .rewind cu l => .rewind cu (fixL lab l)
 | .next cu l => .next cu (fixL lab l)
 | .found b cu l f m => .found b cu (fixL lab l) f m
 | i => i
noncomputable def Ins.closed (lab : List (Int × Int)) (i : Ins) : Prop := ∀ l, i.target = some l → l < 0 → ∃ v, look lab l = some v
noncomputable def isJump (n : Str) : Bool := jumpsL.any fun x => decide (x.1 = n)
theorem ins_shape (lab : List (Int × Int)) (i : Ins) : ∃ n p1 p2 p3 p4, insMV i = [.str n, p1, .int p2, p3, p4] ∧
  ((isJump n = true ∧ i.target = some p2 ∧ insMV (i.fix lab) = [.str n, p1, .int (fixL lab p2), p3, p4]) ∨ (isJump n = false ∧ insMV (i.fix lab) = insMV i)) := by
 cases i with
 | value t w => exact i5a2 _ _ _ _ _ rfl (.inr ⟨by decide +kernel, rfl⟩)
 | record f m r => exact i5a2 _ _ _ _ _ rfl (.inr ⟨by decide +kernel, rfl⟩)
 | result f m => exact i5a2 _ _ _ _ _ rfl (.inr ⟨by decide +kernel, rfl⟩)
 | openE cu cols => exact i5a2 _ _ _ _ _ rfl (.inr ⟨by decide +kernel, rfl⟩)
 | column cu a r => exact i5a2 _ _ _ _ _ rfl (.inr ⟨by decide +kernel, rfl⟩)
 | rewind cu l => exact i5a2 _ _ _ _ _ rfl (.inl ⟨by decide +kernel, rfl, rfl⟩)
 | next cu l => exact i5a2 _ _ _ _ _ rfl (.inl ⟨by decide +kernel, rfl, rfl⟩)
 | found b cu l f m => cases b <;> exact i5a2 _ _ _ _ _ rfl (.inl ⟨by decide +kernel, rfl, rfl⟩)
 | insert cu r => exact i5a2 _ _ _ _ _ rfl (.inr ⟨by decide +kernel, rfl⟩)
 | delete cu f m => exact i5a2 _ _ _ _ _ rfl (.inr ⟨by decide +kernel, rfl⟩)
 | halt => exact i5a2 _ _ _ _ _ rfl (.inr ⟨by decide +kernel, rfl⟩)
noncomputable def haltNames : List Str := ["Halt", "Goto", "Return", "Fail"]
theorem ins_open {i : Ins} (h : i ≠ .halt) : ∃ n r C, insMV i = .str n :: r ∧ cmpV .NotIn (.str n) (.tup (haltNames.map .str)) = some (true, C) ∧ AllP C := by
 cases i with
 | found b cu l f m => cases b <;> exact ⟨_, _, _, rfl, rfl, by decide +kernel, by decide +kernel, trivial⟩
 | halt => exact absurd rfl h
 | _ => exact ⟨_, _, _, rfl, rfl, by decide +kernel, by decide +kernel, trivial⟩
theorem look_labMV : ∀ (l : List (Int × Int)) (k : Int), look (labMV l) k = (look l k).map MV.int
 | [] => fun _ => rfl
 | (a, v) :: l => by
  intro k
  have := look_labMV l k
  unfold labMV at this ⊢
  (refine rG List.map_cons ?_; rewrite [look]; rewrite [look]; refine rG this ?_)
  split <;> rfl
theorem look_mem : ∀ {l : List (Int × Int)} {k v : Int}, (k, v) ∈ l → ∃ v', look l k = some v' ∧ (k, v') ∈ l
 | (a, w) :: l, k, v, h => by
  by_cases e : a = k
  ·exact i1a2 w (by (rewrite [look]; refine rG (if_pos e) ?_; rfl)) (by refine rG e ?_; exact .head _)
  ·(rewrite [look]; refine rG (if_neg e) ?_)
   rcases List.mem_cons.mp h with q | q
   ·(injection q with q; subst q); exact absurd rfl e
   ·refine x1a2 (look_mem q) fun v' h1 h2 => ?_
    exact i1a2 v' h1 (.tail _ h2)
theorem OpsAt.get {H : TM} : ∀ {os : List Addr} {is : List Ins} {j : Nat} {a : Addr}, OpsAt H os is → os[j]? = some a → ∃ i, is[j]? = some i ∧ H a = some (.list (insMV i))
 | b :: os, i :: is, 0 => by rename_i a; intro h e; simp at e; subst e; exact i1a2 i rfl h.1
 | b :: os, i :: is, j + 1 => by rename_i a; intro h e; simp at e ⊢; exact OpsAt.get h.2 e
 | [], [], _ => by rename_i _; intro _ e; simp at e
 | [], _ :: _, _ => by rename_i _; intro h _; exact h.elim
 | _ :: _, [], _ => by rename_i _; intro h _; exact h.elim
theorem OpsAt.setAt {H : TM} {i' : Ins} : ∀ {os : List Addr} {is : List Ins} {j : Nat} {a : Addr}, OpsAt H os is → os.Nodup → os[j]? = some a → OpsAt (H.upd a (.list (insMV i'))) os (is.set j i')
 | b :: os, i :: is, 0 => by
  rename_i a
  intro h hn e
  simp at e; subst e
  exact ⟨TM.upd_self _ _ _, h.2.upd (List.nodup_cons.mp hn).1⟩
 | b :: os, i :: is, j + 1 => by
  rename_i a
  intro h hn e
  simp at e
  have hb : b ≠ a := by
   rintro rfl
   exact (List.nodup_cons.mp hn).1 (List.mem_of_getElem? e)
  exact ⟨by refine rG (TM.upd_ne hb) ?_; exact h.1, OpsAt.setAt h.2 (List.nodup_cons.mp hn).2 e⟩
 | [], [], _ => by rename_i _; intro _ _ e; simp at e
 | [], _ :: _, _ => by rename_i _; intro h _ _; exact h.elim
 | _ :: _, [], _ => by rename_i _; intro h _ _; exact h.elim
noncomputable def PS.finish (q : PS) : PS := { q with ops := (q.ops ++ [Ins.halt]).map (Ins.fix q.labels) }
structure PS.Ready (q : PS) : Prop where
 open_ : ∀ i ∈ q.ops, i ≠ Ins.halt
 labs : ∀ x ∈ q.labels, x.2 ≤ (q.ops.length : Int)
 closed : ∀ i ∈ q.ops, i.closed q.labels
 small : q.size < 800000
theorem fix_step {lab : List (Int × Int)} {ops : List Ins} {j : Nat} {i : Ins} (h : ops[j]? = some i) :
  ((ops.take j).map (Ins.fix lab) ++ ops.drop j).set j (i.fix lab) = (ops.take (j + 1)).map (Ins.fix lab) ++ ops.drop (j + 1) := by
 obtain ⟨hlt, e⟩ := List.getElem?_eq_some_iff.mp h
 have hl : ((ops.take j).map (Ins.fix lab)).length = j := by (refine rG (List.length_map ..) ?_; refine rG List.length_take ?_); lia
 (refine rG (List.set_append_right _ _ (by lia)) ?_; refine rG hl ?_; refine rG (Nat.sub_self ..) ?_; refine rG (List.drop_eq_getElem_cons hlt) ?_; refine rG e ?_; refine rG List.set_cons_zero ?_; refine rG List.take_add_one ?_; refine rG h ?_)
 simp
section
variable {c : Cx} {A : Around} {g : Pg} {H : TM} {q : PS}
theorem fix_get {lab : List (Int × Int)} {ops : List Ins} {j : Nat} {i : Ins} (h : ((ops.take j).map (Ins.fix lab) ++ ops.drop j)[j]? = some i) (hj : j < ops.length) : ops[j]? = some i := by
 rw [List.getElem?_append_right (by (refine rG (List.length_map ..) ?_; refine rG List.length_take ?_); lia), List.length_map, List.length_take, Nat.min_eq_left (Nat.le_of_lt hj), Nat.sub_self, List.getElem?_drop] at h
 simpa using h
theorem cmpO_nin {k : Int} {l : List (Int × MV)} (h : (look l k).isSome = true) : cmpO .NotIn (.int k) (.idict l) = some (false, []) := by
 show some (!(look l k).isSome, ([] : List Prop)) = _
 refine rG h ?_; rfl
theorem finish_ok (hA : Room A 2) (h : St g H q) (hq : q.Ready) :
  CallW c A (.raw (.ref 1266)) [.raw (.ref g.pa)] H (fun r H' => r = .raw (.ref g.pa) ∧ St g H' q.finish) := by
 refine CallW.bd (names := ["self"]) (fFinish_at c) hA.depth fFinish_ok (bind1 fun p S a => by kernel_rfl) fun L => ?_
 have hA' := hA.deeper (callEnvM fFinish L 1266)
 have hr := hA'.rm
 refine x1a3 h.ops fun os o1 o2 o3 => ?_
 have hlen := o3.len
 have hsz := hq.small
 have hopl : q.ops.length < 800000 := by unfold PS.size at hsz; lia
 refine W.cons (W.ite (W.mono (Q := fun b m' cm' H' => b = true ∧ m' = bM fFinish L 1266 ["self"] [.raw (.ref g.pa)] ∧ cm' = bC fFinish L 1266 ["self"] [.raw (.ref g.pa)] ∧ H' = H) ?_ fun b m' cm' H' ⟨e1, e2, e3, e4⟩ => ?_))
 ·refine W.testBool (W.allOr (W.testNot (W.testLst rfl (W.eO (.raw (.ref g.oa)) hr (h.on "self") ⟨g.oa, _, _, rfl, o1, .inr rfl, by (refine rG (List.length_map ..) ?_; refine rG hlen ?_); lia, ?_⟩))))
  rcases List.eq_nil_or_concat os with rfl | ⟨os', z, rfl⟩
  ·exact ⟨rfl, rfl, rfl, rfl⟩
  ·have e0 : (!((os'.concat z).map fun a => MV.raw (.ref a)).isEmpty) = true := by simp
   refine rG e0 ?_
   refine x1a2 (o3.get (j := os'.length) (a := z) (by simp)) fun i hi1 hi2 => ?_
   refine x3a3 (ins_open (hq.open_ i (List.mem_of_getElem? hi1))) fun n rr C k1 k2 k3 => ?_
   have hl5 : (insMV i).length = 5 := by cases i <;> rfl
   refine W.allOr (W.testCmp hr rfl (W.subO rfl (W.lastO rfl (W.eO (.raw (.ref g.oa)) hr (h.on "self") (W.e0 (.int (-1)) hr ⟨g.oa, _, os'.map fun a => .raw (.ref a), .raw (.ref z), rfl, rfl, o1, by (refine rG List.concat_eq_append ?_; refine rG List.map_append ?_); exact .inr rfl, ?_, ?_⟩)))))
   ·rw [List.concat_eq_append, List.length_append] at hlen
    refine rG (List.length_map ..) ?_; simp at hlen; lia
   ·refine W.e0 (.int 0) hr ⟨z, .list (insMV i), .str n, [(0 : Int) ≤ 0, (0 : Int) < ((insMV i).length : Int), (insMV i).length < 1000000], rfl, ⟨_, hi2, .inl rfl⟩, by refine rG k1 ?_; rfl, ⟨by decide, by lia, by lia, trivial⟩, ?_⟩
    refine W.e0 (.tup (haltNames.map .str)) hr ⟨true, C, k2, k3, ⟨rfl, rfl, rfl, rfl⟩⟩
 ·subst e1 e2 e3 e4
  refine W.cons (W.ex (W.prog h 1201 hr (h.on "self") (W.es [.str "Halt"] hr OnOk.none ((add_ok (hA'.less (by first | decide | lia)) h .halt (by lia) bAdd1).mono fun v H1 h1 => ?_))))
  refine W.nil ?_
  refine x1a3 h1.ops fun os o1 o2 o3 => ?_
  have hlen := o3.len
  have hopl1 : (q.add .halt).ops.length = q.ops.length + 1 := by simp [PS.add]
  refine W.pin h1.hl fun od => ?_
  have noa : ∀ {b : Addr} {x : MObj}, H1 b = some x → (∀ l, x ≠ .idict l) → b ≠ g.la := fun e n q => by rw [q, h1.hl] at e; (injection e with e; subst e); exact n _ rfl
  have keep : ∀ {b : Addr} {x y : MObj}, H1 b = some x → (∀ l, x ≠ .idict l) → (H1.upd g.la y) b = some x := fun e n => by refine rG (TM.upd_ne (noa e n)) ?_; exact e
  have p1 : (H1.upd g.la (.pin od (labMV q.labels))) g.pa = _ := keep h1.hp (fun l e => by injection e)
  have p2 : (H1.upd g.la (.pin od (labMV q.labels))) g.pd = _ := keep h1.hd (fun l e => by injection e)
  have p3 : (H1.upd g.la (.pin od (labMV q.labels))) g.oa = _ := keep o1 (fun l e => by injection e)
  refine W.cons (W.forD g.la od (labMV q.labels) (fun _ H' => H' = H1.upd g.la (.pin od (labMV q.labels))) hr.1 (fun i H' e => by subst e; exact TM.upd_self _ _ _)
   (W.eO (.raw (.ref g.la)) hr (OnOk.one "self" (.obj 1269 (progAttrs g (q.add .halt))) g.pa ⟨g.pd, p1, p2⟩) ⟨rfl, rfl, rfl, rfl⟩) (fun i k v H' hk e => ?_) (fun o H' e => ?_))
  ·subst e
   have hm := List.mem_of_getElem? hk
   refine x1a2 (List.mem_map.mp hm) fun x hx ex => ?_
   obtain ⟨x1, x2⟩ := x
   (injection ex with ex; subst ex)
   refine x1a2 (look_mem hx) fun v' hv hv' => ?_
   have hle := hq.labs _ hv'
   refine W.cons (W.ite (W.testCmp hr rfl (W.subO rfl (W.eO (.raw (.ref g.la)) hr (OnOk.one "self" (.obj 1269 (progAttrs g (q.add .halt))) g.pa ⟨g.pd, p1, p2⟩)
    (W.e0 (.int x1) hr ⟨g.la, .idict (labMV q.labels), .int v', [], rfl, .inr ⟨od, TM.upd_self _ _ _⟩, by simp only [ownSub, look_labMV, hv]; rfl, trivial, ?_⟩)))))
   refine W.callNm (.raw (.builtin "len")) (by kernel_rfl) (by kernel_rfl) (W.ec (W.eO (.raw (.ref g.oa)) hr (OnOk.one "self" (.obj 1269 (progAttrs g (q.add .halt))) g.pa ⟨g.pd, p1, p2⟩)
    (W.items_nil (CallP.lenO p3 (.inr rfl) (by (refine rG (List.length_map ..) ?_; refine rG hlen ?_; refine rG hopl1 ?_); lia) ⟨false, [], ?_, trivial, W.nil (W.nil ⟨⟨_, rfl⟩, rfl, rfl⟩)⟩))))
   show some (decide (v' = _), []) = _
   (refine rG (decide_eq_false (by rw [List.length_map, hlen, hopl1]; dsimp only at hle; lia)) ?_; rfl)
  ·subst e
   refine W.unpin (TM.upd_self _ _ _) ?_
   have hl1 : H1 g.la = some (.idict (labMV q.labels)) := h1.hl
   (refine rG TM.upd_upd ?_; refine rG (TM.upd_same hl1) ?_)
   have hops : (q.add .halt).ops = q.ops ++ [.halt] := rfl
   rw [hops] at o3
   generalize hop : q.ops ++ [.halt] = ops at *
   have hcl : ∀ i ∈ ops, i.closed q.labels := fun i hi => by
    rw [← hop] at hi
    rcases List.mem_append.mp hi with hi | hi
    ·exact hq.closed i hi
    ·simp at hi; subst hi; intro l e; injection e
   have notos : ∀ {b : Addr} {x : MObj}, H1 b = some x → (∀ l, x ≠ .list l) → b ∉ os := fun {b x} hb hx hm => by
    refine x1a1 (o3.mem hm) fun i e => ?_
    rw [hb] at e; (injection e with e; subst e); exact hx _ rfl
   have hoa := notos o1 (fun l e => by injection e)
   have hpa := notos h1.hp (fun l e => by injection e)
   have hpd := notos h1.hd (fun l e => by injection e)
   have hla := notos h1.hl (fun l e => by injection e)
   have hca := notos h1.hc (fun l e => by injection e)
   have hcd := notos h1.hcd (fun l e => by injection e)
   have hlen2 : os.length = ops.length := o3.len
   refine W.cons (W.forO g.oa (os.map fun a => .raw (.ref a)) (fun j H' => (∀ b, b ∉ os → H' b = H1 b) ∧ OpsAt H' os ((ops.take j).map (Ins.fix q.labels) ++ ops.drop j)) hr.1 (fun j H' hq => x0a2 hq fun h2 _ => by refine rG (h2 _ hoa) ?_; exact o1)
    (W.eO (.raw (.ref g.oa)) hr (h1.on "self") ⟨rfl, rfl, rfl, fun _ _ => rfl, by simpa using o3⟩) (fun j v H' hv hq => x0a2 hq fun h2 h3 => ?_) (fun o' H' hq => x0a2 hq fun h2 h3 => ?_))
   ·rw [List.getElem?_map] at hv
    (refine x1a2 (Option.map_eq_some_iff.mp hv) fun a ha e92 => ?_; subst e92)
    refine x1a2 (h3.get ha) fun i hi hHa => ?_
    have hj : j < ops.length := by refine rL hlen2 ?_; exact (List.getElem?_eq_some_iff.mp ha).1
    have hi := fix_get hi hj
    have him := List.mem_of_getElem? hi
    have step := fix_step (lab := q.labels) hi
    have on2 : ∀ {env : Env} {m cm : LM} (e : nameV env m cm "op" = some (.raw (.ref a))), OnOk env m cm H' (on1 "op" (.list (insMV i))) := fun e => OnOk.one "op" (.list (insMV i)) a ⟨_, hHa, .inl rfl⟩ e
    have onS : ∀ {env : Env} {m cm : LM} (e : nameV env m cm "self" = some (.raw (.ref g.pa))), OnOk env m cm H' (on1 "self" (.obj 1269 (progAttrs g (q.add .halt)))) := fun e => OnOk.one "self" _ g.pa ⟨g.pd, by refine rG (h2 _ hpa) ?_; exact h1.hp, by refine rG (h2 _ hpd) ?_; exact h1.hd⟩ e
    refine x5a2 (ins_shape q.labels i) fun n p1 p2 p3 p4 e1 e2 => ?_
    rw [e1] at on2
    refine W.cons (W.ite (W.testBool (W.allAnd (W.testJump (W.eO (.str n) hr (on2 (by kernel_rfl)) (W.e0 (.raw (.ref 1178)) hr ⟨n, rfl, rfl, ?_⟩))))))
    show if isJump n = true then _ else _
    have same : insMV (i.fix q.labels) = insMV i → OpsAt H' os ((ops.take (j + 1)).map (Ins.fix q.labels) ++ ops.drop (j + 1)) := fun e => by
     have := h3.setAt (i' := i.fix q.labels) o2 ha
     rw [e, TM.upd_same hHa, step] at this
     exact this
    rcases e2 with ⟨e2, e3, e4⟩ | ⟨e2, e3⟩
    ·refine rG (if_pos e2) ?_
     refine W.allAnd (W.testCmp hr rfl (W.eO (.int p2) hr (on2 (by kernel_rfl)) (W.e0 (.int 0) hr ⟨decide (p2 < 0), [], rfl, trivial, ?_⟩)))
     by_cases hp2 : p2 < 0
     ·refine rG (decide_eq_true hp2) ?_
      refine W.allNil ?_
      refine x1a1 (hcl i him p2 e3 hp2) fun v' hv' => ?_
      have hfix : fixL q.labels p2 = v' := by (rewrite [fixL]; refine rG (if_pos hp2) ?_; refine rG hv' ?_); rfl
      rw [hfix] at e4
      refine W.cons (W.ite (W.testCmpO hr (W.eO (.int p2) hr (on2 (by kernel_rfl)) (W.eO (.raw (.ref g.la)) hr (onS (by kernel_rfl)) ⟨g.la, .idict (labMV q.labels), false, [], rfl, .inl (by refine rG (h2 _ hla) ?_; exact hl1), cmpO_nin (by (refine rG (look_labMV ..) ?_; refine rG hv' ?_); rfl), trivial, ?_⟩))))
      refine W.nil ?_
      refine W.cons (W.setSub rfl (W.subO rfl (W.eO (.raw (.ref g.la)) hr (onS (by kernel_rfl)) (W.eO (.int p2) hr (on2 (by kernel_rfl)) ⟨g.la, .idict (labMV q.labels), .int v', [], rfl, .inl (by refine rG (h2 _ hla) ?_; exact hl1), by simp only [ownSub, look_labMV, hv']; rfl, trivial, ?_⟩))))
      refine W.e0 (.raw (.ref a)) hr (W.e0 (.int 2) hr ⟨a, .list (insMV i), .list ((insMV i).set 2 (.int v')), _, rfl, hHa, rfl, ?_, ?_⟩)
      ·refine rG e1 ?_; exact ⟨by decide, by show (2 : Int) < ((5 : Nat) : Int); decide, by show 5 < 1000000; decide, trivial⟩
      ·have e5 : (insMV i).set 2 (.int v') = insMV (i.fix q.labels) := by (refine rG e1 ?_; refine rG e4 ?_); rfl
       refine rG e5 ?_
       refine W.nil (W.nil ⟨⟨_, rfl⟩, rfl, fun b hb => ?_, ?_⟩)
       ·refine rG (TM.upd_ne (by rintro rfl; exact hb (List.mem_of_getElem? ha))) ?_; exact h2 b hb
       ·have := h3.setAt (i' := i.fix q.labels) o2 ha
        rw [step] at this; exact this
     ·refine rG (decide_eq_false hp2) ?_
      refine W.nil (W.nil ⟨⟨_, rfl⟩, rfl, h2, same ?_⟩)
      (refine rG e4 ?_; refine rG e1 ?_; rewrite [fixL]; refine rG (if_neg hp2) ?_; rfl)
    ·refine rG e2 ?_
     exact W.nil (W.nil ⟨⟨_, rfl⟩, rfl, h2, same e3⟩)
   ·rw [List.length_map, hlen2, List.take_of_length_le (Nat.le_refl _), List.drop_of_length_le (Nat.le_refl _), List.append_nil] at h3
    refine W.cons (W.re (.raw (.ref g.pa)) hr OnOk.none ⟨rfl, ?_⟩)
    refine ⟨by refine rG (h2 _ hpa) ?_; exact h1.hp, by refine rG (h2 _ hpd) ?_; exact h1.hd, ⟨os, by refine rG (h2 _ hoa) ?_; exact o1, o2, ?_⟩, by refine rG (h2 _ hla) ?_; exact hl1, by refine rG (h2 _ hca) ?_; exact h1.hc, by refine rG (h2 _ hcd) ?_; exact h1.hcd, h1.cpd⟩
    (rewrite [PS.finish]; refine rG hop ?_); exact h3
end
end Mine
end
section
open PySem PySem.W PySem.W.X PyProof.Rows PySem.Calls
open Builtin Builtin.ObjectAttr
namespace Mine
theorem oldK_multi {h₀ h h' : Heap} (K : OldK h₀ h) {S : List Addr} (ha : ∀ a ∈ S, h₀.objs.size ≤ a) (hx : ∀ b o, b ∉ S → h.get? b = some o → h'.get? b = some o) : OldK h₀ h' := by
 have ne : ∀ b o, h₀.get? b = some o → b ∉ S := fun b o e hm => Nat.not_lt.mpr (ha b hm) (Heap.lt_size e)
 refine ⟨fun b o e => ?_, fun b o e => let ⟨o', ho'⟩ := K.there b o e; ⟨o', hx _ _ (ne b o e) ho'⟩⟩
 rcases K.old b o e with x | ⟨t, hc, vs, more, hv, x⟩ | ⟨rfl, hc, ⟨o', es, n, ho', r⟩, z⟩
 ·exact .inl (hx _ _ (ne b o e) x)
 ·exact .inr (.inl ⟨t, hc, vs, more, hv, hx _ _ (ne b o e) x⟩)
 ·exact .inr (.inr ⟨rfl, hc, ⟨o', es, n, hx _ _ (ne _ o e) ho', r⟩, fun key => by refine rG (OldK.staticOf_congr ((hx _ _ (ne _ o e) ho').trans ho'.symm) key) ?_; exact z key⟩)
section
variable {c : Cx} {A : Around} {F : FM} {T : TM} {s : Shared}
theorem Rel.multi (R : Rel c F T s) (S : List Addr) (hS : ∀ a ∈ S, ∃ x, T a = some x) {h' : Heap} {tk : Nat} (hk : ∀ b o, b ∉ S → s.heap.get? b = some o → h'.get? b = some o) {T' : TM} (hT : ∀ b, b ∉ S → T' b = T b)
  (hown : ∀ a ∈ S, ∀ x, T' a = some x → Rep c.w F h' a x) : Rel c F T' { s with heap := h', toks := tk } := by
 have hS' : ∀ a ∈ S, F a = none ∧ c.h0.objs.size ≤ a ∧ a ∉ growT := fun a ha => by
  refine x1a1 (hS a ha) fun x e => ?_
  refine x0a4 (R.own a x e) fun h1 _ h3 h4 => ?_
  exact ⟨h1, h3, h4⟩
 refine ⟨fun b o eb => ?_, R.f0, fun b y eb => ?_, R.tabs_keep (FM.le.refl F) fun b o hb eb => hk b o (fun hm => Nat.not_lt.mpr (hS' b hm).2.1 hb) eb, oldK_multi R.old (fun a ha => (hS' a ha).2.1) hk, R.gens, R.os⟩
 ·refine x0a2 (R.fz b o eb) fun u v => ?_
  exact ⟨hk b o (fun hm => by rw [(hS' b hm).1] at eb; injection eb) u, v⟩
 ·by_cases hb : b ∈ S
  ·refine x0a3 (hS' b hb) fun h1 h2 h3 => ?_
   exact ⟨h1, hown b hb y eb, h2, h3⟩
  ·rw [hT b hb] at eb
   refine x0a3 (R.own b y eb) fun k1 k2 k3 => ?_
   refine x1a1 k2.here fun o ho => ?_
   exact ⟨k1, k2.keep (FM.le.refl F) ((hk b o hb ho).trans ho.symm), k3⟩
end
structure Zp where
 z : Addr
 TI : Addr
 TO : Addr
 i1 : Addr
 i2 : Addr
noncomputable def zipO (q : Zp) (v : Value) : Obj := { cls := .type "zip", dict := none, data := .fields #[v, .bool false, .bool false, .ref q.TI, .ref q.TO], slots := #[] }
noncomputable def pairO (a b : Value) : Obj := { cls := .type "tuple", data := .seq #[a, b] }
noncomputable def ZK (K : TM) (q : Zp) (oz oT o1 o2 : Obj) : TM := ((((K.upd q.TI (.exact (pairO (.ref q.i1) (.ref q.i2)))).upd q.TO (.exact oT)).upd q.i1 (.exact o1)).upd q.i2 (.exact o2)).upd q.z (.exact oz)
structure Zp.ap (q : Zp) : Prop where
 h1 : q.TI ≠ q.z
 h2 : q.TO ≠ q.z
 h3 : q.i1 ≠ q.z
 h4 : q.i2 ≠ q.z
 h5 : q.TI ≠ q.TO
 h6 : q.TI ≠ q.i1
 h7 : q.TI ≠ q.i2
 h8 : q.TO ≠ q.i1
 h9 : q.TO ≠ q.i2
 h10 : q.i1 ≠ q.i2
noncomputable def ItO (o : Obj) (l : Addr) (i : Nat) : Prop := o.cls = .type "list_iterator" ∧ o.data = .fields #[.ref l, .int i 0]
section
variable {c : Cx} {A : Around} {env : Env} {m cm : LM} {H : TM} {K : TM}
theorem ZK.TI {q : Zp} (a : q.ap) {oz oT o1 o2 : Obj} : ZK K q oz oT o1 o2 q.TI = some (.exact (pairO (.ref q.i1) (.ref q.i2))) := by
 unfold ZK; (refine rG (TM.upd_ne a.h1) ?_; refine rG (TM.upd_ne a.h7) ?_; refine rG (TM.upd_ne a.h6) ?_; refine rG (TM.upd_ne a.h5) ?_; refine rG (TM.upd_self ..) ?_; rfl)
theorem ZK.TO {q : Zp} (a : q.ap) {oz oT o1 o2 : Obj} : ZK K q oz oT o1 o2 q.TO = some (.exact oT) := by
 unfold ZK; (refine rG (TM.upd_ne a.h2) ?_; refine rG (TM.upd_ne a.h9) ?_; refine rG (TM.upd_ne a.h8) ?_; refine rG (TM.upd_self ..) ?_; rfl)
theorem ZK.i1 {q : Zp} (a : q.ap) {oz oT o1 o2 : Obj} : ZK K q oz oT o1 o2 q.i1 = some (.exact o1) := by
 unfold ZK; (refine rG (TM.upd_ne a.h3) ?_; refine rG (TM.upd_ne a.h10) ?_; refine rG (TM.upd_self ..) ?_; rfl)
theorem ZK.i2 {q : Zp} (a : q.ap) {oz oT o1 o2 : Obj} : ZK K q oz oT o1 o2 q.i2 = some (.exact o2) := by
 unfold ZK; (refine rG (TM.upd_ne a.h4) ?_; refine rG (TM.upd_self ..) ?_; rfl)
theorem ZK.z {q : Zp} {oz oT o1 o2 : Obj} : ZK K q oz oT o1 o2 q.z = some (.exact oz) := TM.upd_self _ _ _
theorem Lay.zk {F : FM} {T : TM} {q : Zp} (a : q.ap) {oz oT o1 o2 oz' oT' o1' o2' : Obj} (y : Lay F env m cm H (ZK K q oz oT o1 o2) T) : Lay F env m cm H (ZK K q oz' oT' o1' o2') ((((T.upd q.TO (.exact oT')).upd q.i1 (.exact o1')).upd q.i2 (.exact o2')).upd q.z (.exact oz')) := by
 have ne : ∀ (o : Obj) v, MObj.exact o ≠ .cell v := fun o v e => by injection e
 have y1 := y.setK (y := .exact oT') (ZK.TO a) (ne _)
 have y2 := y1.setK (a := q.i1) (y := .exact o1') (x := .exact o1) (by refine rG (TM.upd_ne (Ne.symm a.h8)) ?_; exact ZK.i1 a) (ne _)
 have y3 := y2.setK (a := q.i2) (y := .exact o2') (x := .exact o2) (by (refine rG (TM.upd_ne (Ne.symm a.h10)) ?_; refine rG (TM.upd_ne (Ne.symm a.h9)) ?_); exact ZK.i2 a) (ne _)
 have y4 := y3.setK (a := q.z) (y := .exact oz') (x := .exact oz) (by (refine rG (TM.upd_ne (Ne.symm a.h4)) ?_; refine rG (TM.upd_ne (Ne.symm a.h3)) ?_; refine rG (TM.upd_ne (Ne.symm a.h2)) ?_); exact ZK.z) (ne _)
 have e : ((((ZK K q oz oT o1 o2).upd q.TO (.exact oT')).upd q.i1 (.exact o1')).upd q.i2 (.exact o2')).upd q.z (.exact oz') = ZK K q oz' oT' o1' o2' := by
  funext b
  simp only [ZK, TM.upd]
  by_cases b1 : b = q.z
  ·(refine rG (if_pos b1) ?_; refine rG (if_pos b1) ?_; rfl)
  ·(refine rG (if_neg b1) ?_; refine rG (if_neg b1) ?_)
   by_cases b2 : b = q.i2
   ·(refine rG (if_pos b2) ?_; refine rG (if_pos b2) ?_; refine rG (if_neg b1) ?_; rfl)
   ·(refine rG (if_neg b2) ?_; refine rG (if_neg b2) ?_)
    by_cases b3 : b = q.i1
    ·(refine rG (if_pos b3) ?_; refine rG (if_pos b3) ?_; refine rG (if_neg b1) ?_; refine rG (if_neg b2) ?_; rfl)
    ·(refine rG (if_neg b3) ?_; refine rG (if_neg b3) ?_)
     by_cases b4 : b = q.TO
     ·(refine rG (if_pos b4) ?_; refine rG (if_pos b4) ?_; refine rG (if_neg b1) ?_; refine rG (if_neg b2) ?_; refine rG (if_neg b3) ?_; rfl)
     ·(refine rG (if_neg b4) ?_; refine rG (if_neg b4) ?_; refine rG (if_neg b1) ?_; refine rG (if_neg b2) ?_; refine rG (if_neg b3) ?_; refine rG (if_neg b4) ?_; rfl)
 rw [e] at y4; exact y4
theorem Lay.unzk {F : FM} {T : TM} {q : Zp} (a : q.ap) {oz oT o1 o2 : Obj} (k1 : K q.z = none) (k2 : K q.TI = none) (k3 : K q.TO = none) (k4 : K q.i1 = none) (k5 : K q.i2 = none) (y : Lay F env m cm H (ZK K q oz oT o1 o2) T) : Lay F env m cm H K T := by
 have ne : ∀ (o : Obj) v, MObj.exact o ≠ .cell v := fun o v e => by injection e
 refine Lay.lessK (Lay.lessK (Lay.lessK (Lay.lessK (Lay.lessK y ?_ (ne _)) ?_ (ne _)) ?_ (ne _)) ?_ (ne _)) k2 (ne _)
 ·(refine rG (TM.upd_ne (Ne.symm a.h4)) ?_; refine rG (TM.upd_ne (Ne.symm a.h3)) ?_; refine rG (TM.upd_ne (Ne.symm a.h2)) ?_; refine rG (TM.upd_ne (Ne.symm a.h1)) ?_); exact k1
 ·(refine rG (TM.upd_ne (Ne.symm a.h10)) ?_; refine rG (TM.upd_ne (Ne.symm a.h9)) ?_; refine rG (TM.upd_ne (Ne.symm a.h7)) ?_); exact k5
 ·(refine rG (TM.upd_ne (Ne.symm a.h8)) ?_; refine rG (TM.upd_ne (Ne.symm a.h6)) ?_); exact k4
 ·refine rG (TM.upd_ne (Ne.symm a.h5)) ?_; exact k3
end
end Mine
namespace Mine
theorem LM.put_set2 {m : LM} {x1 x2 : Str} {o1 o2 : Option MV} {v1 v2 : MV} : (((m.put x1 o1).put x2 o2).set x1 v1).set x2 v2 = (m.put x1 (some v1)).put x2 (some v2) := by
 funext y
 simp only [LM.set, LM.put]
 by_cases h2 : y = x2
 ·simp only [h2, if_true]
 ·by_cases h1 : y = x1
  ·simp only [if_neg h2, if_pos h1]
  ·simp only [if_neg h2, if_neg h1]
section
variable {c : Cx} {A : Around} {env : Env} {m cm : LM} {H : TM} {K : TM}
inductive ZSt (c : Cx) (env : Env) (K : TM) (q : Zp) (a1 a2 : Addr) (i : Nat) (m cm : LM) (F : FM) (H : TM) (s : Shared) : Prop
 | mk (o1 o2 : Obj) (x y : Value) (h1 : ItO o1 a1 i) (h2 : ItO o2 a2 i) (r : RelE c env m cm F H (ZK K q (zipO q .none) (pairO x y) o1 o2) s) : ZSt c env K q a1 a2 i m cm F H s
structure Zp.free (q : Zp) (K : TM) : Prop where
 z : K q.z = none
 TI : K q.TI = none
 TO : K q.TO = none
 i1 : K q.i1 = none
 i2 : K q.i2 = none
noncomputable def FzL (F : FM) (a : Addr) (vs : Array Value) : Prop := ∃ o n, F a = some o ∧ o.cls = .type "list" ∧ o.data = .seq vs n
theorem FzL.mono {F G : FM} {a : Addr} {vs : Array Value} (k : F.le G) : FzL F a vs → FzL G a vs := fun hq => x2a2 hq fun o n h1 h2 => ⟨o, n, k _ _ h1, h2⟩
theorem ZSt.step {q : Zp} (ap : q.ap) (fr : q.free K) {a1 a2 : Addr} {i : Nat} {F : FM} {s : Shared} {vs1 vs2 : Array Value} {x y : Value} (h : ZSt c env K q a1 a2 i m cm F H s) (f1 : FzL F a1 vs1) (f2 : FzL F a2 vs2) (hx : vs1[i]? = some x) (hy : vs2[i]? = some y)
  {G : Option Value → Shared → Prop} {target : Expr} {elts : List Expr} {k : Nat} {pos : Pos}
  (hG : ∀ t s', wpAny (model P c.w) A (letOwnedTupleGo (.Tuple elts k pos) (.ref q.z) (.ref t)) (fun _ s'' => ∃ F', F.le F' ∧ F' t = some (pairO x y) ∧ ZSt c env K q a1 a2 (i + 1) m cm F' H s'') NoE s' → G (some (.ref t)) s') :
  wpAny (model P c.w) A (pyNext (.ref q.z)) G NoE s := by
 obtain ⟨o1, o2, u, v, ⟨c1, d1⟩, ⟨c2, d2⟩, T, r, y0⟩ := h
 have tz : T q.z = some (.exact (zipO q .none)) := y0.kT _ _ ZK.z
 have tI := y0.kT _ _ (ZK.TI (K := K) ap (oz := zipO q .none) (oT := pairO u v) (o1 := o1) (o2 := o2))
 have tO := y0.kT _ _ (ZK.TO (K := K) ap (oz := zipO q .none) (oT := pairO u v) (o1 := o1) (o2 := o2))
 have t1 := y0.kT _ _ (ZK.i1 (K := K) ap (oz := zipO q .none) (oT := pairO u v) (o1 := o1) (o2 := o2))
 have t2 := y0.kT _ _ (ZK.i2 (K := K) ap (oz := zipO q .none) (oT := pairO u v) (o1 := o1) (o2 := o2))
 refine x2a3 f1 fun ol1 n1 g1 g2 g3 => ?_
 refine x2a3 f2 fun ol2 n2 g4 g5 g6 => ?_
 have nf : ∀ {a b : Addr} {ob : Obj} {xx : MObj}, F a = some ob → T b = some xx → a ≠ b := fun e1 e2 e => by
  subst e; rw [(r.own _ _ e2).1] at e1; injection e1
 have hget : ∀ {b : Addr} {o : Obj}, T b = some (.exact o) → s.heap.get? b = some o := fun e => (r.own _ _ e).2.1
 refine wpAny_pyNext_zip_item (l1 := a1) (l2 := a2) (k1 := i) (k2 := i) ⟨ap.h1, ap.h2, ap.h3, ap.h4, ap.h5, ap.h6, ap.h7, ap.h8, ap.h9, ap.h10, nf g1 tz, nf g1 tO, nf g1 t1, nf g1 t2, nf g4 tz, nf g4 tO, nf g4 t1, nf g4 t2⟩
  (hget tz) (hget tI) (hget tO) ⟨o1, hget t1, c1, d1⟩ ⟨o2, hget t2, c2, d2⟩ ⟨ol1, (r.fz _ _ g1).1, g2, n1, g3⟩ ⟨ol2, (r.fz _ _ g4).1, g5, n2, g6⟩ hx hy fun h' b1 b2 ⟨o1', b3, c3, d3⟩ ⟨o2', b4, c4, d4⟩ b5 b6 hk => hG _ _ ?_
 have hsz : ∀ {b : Addr} {xx : MObj}, T b = some xx → s.heap.objs.size ≠ b := fun e e' => by rw [← e', r.fresh] at e; injection e
 have r1 : Rel c F ((((T.upd q.TO (.exact (pairO x y))).upd q.i1 (.exact o1')).upd q.i2 (.exact o2')).upd q.z (.exact (zipO q (rawInt s.heap.objs.size)))) { s with heap := h' } := by
  refine r.multi (tk := s.toks) [q.z, q.TO, q.i1, q.i2] (fun a ha => ?_) (fun b o hb e => ?_) (fun b hb => ?_) fun a ha xx e => ?_
  ·simp only [List.mem_cons, List.not_mem_nil, or_false] at ha
   rcases ha with rfl | rfl | rfl | rfl
   ·exact ⟨_, tz⟩
   ·exact ⟨_, tO⟩
   ·exact ⟨_, t1⟩
   ·exact ⟨_, t2⟩
  ·simp only [List.mem_cons, List.not_mem_nil, or_false, not_or] at hb
   exact hk b o hb.1 hb.2.1 hb.2.2.1 hb.2.2.2 e
  ·simp only [List.mem_cons, List.not_mem_nil, or_false, not_or] at hb
   (refine rG (TM.upd_ne hb.1) ?_; refine rG (TM.upd_ne hb.2.2.2) ?_; refine rG (TM.upd_ne hb.2.2.1) ?_; refine rG (TM.upd_ne hb.2.1) ?_; rfl)
  ·simp only [List.mem_cons, List.not_mem_nil, or_false] at ha
   rcases ha with rfl | rfl | rfl | rfl
   ·rw [TM.upd_self] at e; (injection e with e; subst e); exact b1
   ·rw [TM.upd_ne ap.h2, TM.upd_ne ap.h9, TM.upd_ne ap.h8, TM.upd_self] at e; (injection e with e; subst e); exact b2
   ·rw [TM.upd_ne ap.h3, TM.upd_ne ap.h10, TM.upd_self] at e; (injection e with e; subst e); exact b3
   ·rw [TM.upd_ne ap.h4, TM.upd_self] at e; (injection e with e; subst e); exact b4
 have hT0 : ((((T.upd q.TO (.exact (pairO x y))).upd q.i1 (.exact o1')).upd q.i2 (.exact o2')).upd q.z (.exact (zipO q (rawInt s.heap.objs.size)))) s.heap.objs.size = none := by
  (refine rG (TM.upd_ne (hsz tz)) ?_; refine rG (TM.upd_ne (hsz t2)) ?_; refine rG (TM.upd_ne (hsz t1)) ?_; refine rG (TM.upd_ne (hsz tO)) ?_); exact r.fresh
 have r2 := r1.freezeNew (a := s.heap.objs.size) (o := pairO x y) b5 r.freshF hT0 r.size_ng
 refine wpAny_letOwnedTupleGo_zip (s := { s with heap := h' }) b1 fun h2 e1 e2 => ⟨F.upd s.heap.objs.size (pairO x y), FM.le_upd r.freshF, FM.upd_self _ _ _, o1', o2', x, y, ⟨c3, d3⟩, ⟨c4, d4⟩, _, r2.set (tk := s.toks) (y := .exact (zipO q .none)) (TM.upd_self _ _ _) e2 e1, ?_⟩
 refine rG TM.upd_upd ?_
 exact (y0.zk ap).up (FM.le_upd r.freshF)
theorem ZSt.stop {q : Zp} (ap : q.ap) (fr : q.free K) {a1 a2 : Addr} {i : Nat} {F : FM} {s : Shared} {vs1 vs2 : Array Value} (hh : A.handled = none) (h : ZSt c env K q a1 a2 i m cm F H s) (f1 : FzL F a1 vs1) (f2 : FzL F a2 vs2) (hx : vs1[i]? = none)
  {G : Option Value → Shared → Prop} (hG : ∀ s', RelE c env m cm F H K s' → G none s') : wpAny (model P c.w) A (pyNext (.ref q.z)) G NoE s := by
 obtain ⟨o1, o2, u, v, ⟨c1, d1⟩, ⟨c2, d2⟩, T, r, y0⟩ := h
 have tz : T q.z = some (.exact (zipO q .none)) := y0.kT _ _ ZK.z
 have tI := y0.kT _ _ (ZK.TI (K := K) ap (oz := zipO q .none) (oT := pairO u v) (o1 := o1) (o2 := o2))
 have tO := y0.kT _ _ (ZK.TO (K := K) ap (oz := zipO q .none) (oT := pairO u v) (o1 := o1) (o2 := o2))
 have t1 := y0.kT _ _ (ZK.i1 (K := K) ap (oz := zipO q .none) (oT := pairO u v) (o1 := o1) (o2 := o2))
 have t2 := y0.kT _ _ (ZK.i2 (K := K) ap (oz := zipO q .none) (oT := pairO u v) (o1 := o1) (o2 := o2))
 refine x2a3 f1 fun ol1 n1 g1 g2 g3 => ?_
 refine x2a3 f2 fun ol2 n2 g4 g5 g6 => ?_
 have nf : ∀ {a b : Addr} {ob : Obj} {xx : MObj}, F a = some ob → T b = some xx → a ≠ b := fun e1 e2 e => by
  subst e; rw [(r.own _ _ e2).1] at e1; injection e1
 have hget : ∀ {b : Addr} {o : Obj}, T b = some (.exact o) → s.heap.get? b = some o := fun e => (r.own _ _ e).2.1
 refine wpAny_pyNext_zip_end (l1 := a1) (l2 := a2) (k1 := i) (k2 := i) hh ⟨ap.h1, ap.h2, ap.h3, ap.h4, ap.h5, ap.h6, ap.h7, ap.h8, ap.h9, ap.h10, nf g1 tz, nf g1 tO, nf g1 t1, nf g1 t2, nf g4 tz, nf g4 tO, nf g4 t1, nf g4 t2⟩
  (hget tz) (hget tI) (hget tO) ⟨o1, hget t1, c1, d1⟩ ⟨o2, hget t2, c2, d2⟩ ⟨ol1, (r.fz _ _ g1).1, g2, n1, g3⟩ ⟨ol2, (r.fz _ _ g4).1, g5, n2, g6⟩ (.inl hx) fun h' hk => hG _ ?_
 have ne : ∀ (o : Obj) v, MObj.exact o ≠ .cell v := fun o v e => by injection e
 refine ⟨(((T.del q.z).del q.TO).del q.i1).del q.i2, r.multi (tk := s.toks) [q.z, q.TO, q.i1, q.i2] (fun a ha => ?_) (fun b o hb e => ?_) (fun b hb => ?_) (fun a ha xx e => ?_), ?_⟩
 ·simp only [List.mem_cons, List.not_mem_nil, or_false] at ha
  rcases ha with rfl | rfl | rfl | rfl
  ·exact ⟨_, tz⟩
  ·exact ⟨_, tO⟩
  ·exact ⟨_, t1⟩
  ·exact ⟨_, t2⟩
 ·simp only [List.mem_cons, List.not_mem_nil, or_false, not_or] at hb
  exact hk b o hb.1 hb.2.1 hb.2.2.1 hb.2.2.2 e
 ·simp only [List.mem_cons, List.not_mem_nil, or_false, not_or] at hb
  simp only [TM.del]
  (refine rG (if_neg hb.2.2.2) ?_; refine rG (if_neg hb.2.2.1) ?_; refine rG (if_neg hb.2.1) ?_; refine rG (if_neg hb.1) ?_; rfl)
 ·exfalso
  simp only [List.mem_cons, List.not_mem_nil, or_false] at ha
  rcases ha with rfl | rfl | rfl | rfl <;> simp [TM.del] at e
 ·have y1 := y0.delK ZK.z (ne _)
  have y2 := y1.delK (a := q.TO) (x := .exact (pairO u v)) (by simp only [TM.del]; refine rG (if_neg ap.h2) ?_; exact ZK.TO ap) (ne _)
  have y3 := y2.delK (a := q.i1) (x := .exact o1) (by simp only [TM.del]; (refine rG (if_neg (Ne.symm ap.h8)) ?_; refine rG (if_neg ap.h3) ?_); exact ZK.i1 ap) (ne _)
  have y4 := y3.delK (a := q.i2) (x := .exact o2) (by simp only [TM.del]; (refine rG (if_neg (Ne.symm ap.h10)) ?_; refine rG (if_neg (Ne.symm ap.h9)) ?_; refine rG (if_neg ap.h4) ?_); exact ZK.i2 ap) (ne _)
  have e : ((((ZK K q (zipO q .none) (pairO u v) o1 o2).del q.z).del q.TO).del q.i1).del q.i2 = K.upd q.TI (.exact (pairO (.ref q.i1) (.ref q.i2))) := by
   funext b
   simp only [TM.del, ZK, TM.upd]
   by_cases b1 : b = q.i2
   ·(refine rG (if_pos b1) ?_; refine rG b1 ?_; refine rG (if_neg (Ne.symm ap.h7)) ?_; refine rG fr.i2 ?_; rfl)
   ·refine rG (if_neg b1) ?_
    by_cases b2 : b = q.i1
    ·(refine rG (if_pos b2) ?_; refine rG b2 ?_; refine rG (if_neg (Ne.symm ap.h6)) ?_; refine rG fr.i1 ?_; rfl)
    ·refine rG (if_neg b2) ?_
     by_cases b3 : b = q.TO
     ·(refine rG (if_pos b3) ?_; refine rG b3 ?_; refine rG (if_neg (Ne.symm ap.h5)) ?_; refine rG fr.TO ?_; rfl)
     ·refine rG (if_neg b3) ?_
      by_cases b4 : b = q.z
      ·(refine rG (if_pos b4) ?_; refine rG b4 ?_; refine rG (if_neg (Ne.symm ap.h1)) ?_; refine rG fr.z ?_; rfl)
      ·(refine rG (if_neg b4) ?_; refine rG (if_neg b4) ?_; refine rG (if_neg b1) ?_; refine rG (if_neg b2) ?_; refine rG (if_neg b3) ?_; rfl)
  rw [e] at y4
  exact y4.lessK fr.TI (ne _)
end
end Mine
namespace Mine
section
variable {c : Cx} {A : Around} {env : Env} {m cm : LM} {H : TM}
theorem FzL.of {F : FM} {l : List MV} {v : Value} (h : VR F (.lst l) v) : ∃ a vs, v = .ref a ∧ FzL F a vs ∧ VRs F l vs.toList := by
 simp only [VR] at h
 obtain ⟨a, o, vs, n, rfl, h1, h2, h3, h4⟩ := h
 exact i2a3 a vs rfl ⟨o, n, h1, h2, h3⟩ h4
theorem zip_eval {K : TM} {p pos : Pos} {e1 e2 : Expr} {l1 l2 : List MV} {I : TM → Prop} {F : FM} {s : Shared} (hn : nameV env m cm "zip" = some (.raw (.type "zip"))) (hfn : isFn c.w.params (.raw (.type "zip")) = true)
  (h : W c A env m cm H (spliced (backTo pos (starEach [e1, e2] env))) VL (fun vs m1 cm1 H1 => vs = [.lst l1, .lst l2] ∧ m1 = m ∧ cm1 = cm ∧ I H1))
  (hs : starEach [e1, e2] env = (false, eval e1 env) :: starEach [e2] env) (hp : (backTo pos (starEach [e2] env)).any (·.1) = false) (r : RelE c env m cm F H K s) {G : Value → Shared → Prop}
  (kk : ∀ F' H1 q a1 a2 vs1 vs2 s', F.le F' → Zp.ap q → q.free K → I H1 → FzL F' a1 vs1 → FzL F' a2 vs2 → VRs F' l1 vs1.toList → VRs F' l2 vs2.toList → IsZip s'.heap q.z q.TI q.TO .none → ZSt c env K q a1 a2 0 m cm F' H1 s' → G (.ref q.z) s') :
  wpAny (model P c.w) A (eval (.Call (.Name "zip" p) [e1, e2] [] pos) env) G NoE s := by
 obtain ⟨T, r0, l⟩ := r
 refine wpAny_Call_Name_kw ((puN_name F hn).then (γ := Unit) (δ := Unit) r0 l fun F1 fv s1 k1 l r1 v1 => ?_)
 rw [hs] at h ⊢
 refine callWith_of (P := KeepP c fv) (by show ((false || (backTo pos (starEach [e2] env)).any (·.1)) || false) = false; refine rG hp ?_; rfl) (fun h x => x) (evalArgs_plain ?_)
 refine W.wp h ⟨T, r1, l⟩ fun F2 b m2 cm2 H2 vs s2 k2 r2 v2 qq => ?_
 refine x0a4 qq fun q1 q2 q3 q4 => ?_
 refine ⟨?_, ?_⟩
 ·obtain ⟨T2, r2, l2⟩ := r2
  exact isFn_of hfn r2 (VR.mono k2 _ v1)
 ·subst q1 q2 q3
  simp only [V, VR] at v1
  subst v1
  (refine x2a3 (VRs.two v2) fun u1 u2 e92 w1 w2 => ?_; subst e92)
  (refine x2a3 (FzL.of w1) fun a1 vs1 e92 f1 g1 => ?_; subst e92)
  (refine x2a3 (FzL.of w2) fun a2 vs2 e92 f2 g2 => ?_; subst e92)
  obtain ⟨T2, r2, y2⟩ := r2
  refine x2a3 (id f1) fun ol1 n1 x1 x2 x3 => ?_
  refine x2a3 (id f2) fun ol2 n2 x4 x5 x6 => ?_
  have il1 : s2.heap.IsList a1 vs1 := ⟨ol1, (r2.fz _ _ x1).1, x2, n1, x3⟩
  have il2 : s2.heap.IsList a2 vs2 := ⟨ol2, (r2.fz _ _ x4).1, x5, n2, x6⟩
  refine call_zip_2 il1 il2 fun h' b1 b2 b3 ⟨o1, b4, c4, d4⟩ ⟨o2, b5, c5, d5⟩ b6 hk => ?_
  have lt : ∀ j : Nat, T2 (s2.heap.objs.size + j) = none := fun j => by
   cases e : T2 (s2.heap.objs.size + j) with
   | none => rfl
   | some x =>
    obtain ⟨o, ho⟩ := (r2.own _ _ e).2.1.here
    exact absurd (Heap.lt_size ho) (Nat.not_lt.mpr (Nat.le_add_right _ _))
  have ltF : ∀ j : Nat, F2 (s2.heap.objs.size + j) = none := fun j => by
   cases e : F2 (s2.heap.objs.size + j) with
   | none => rfl
   | some x => exact absurd (Heap.lt_size (r2.fz _ _ e).1) (Nat.not_lt.mpr (Nat.le_add_right _ _))
  have ltK : ∀ j : Nat, K (s2.heap.objs.size + j) = none := fun j => by
   cases e : K (s2.heap.objs.size + j) with
   | none => rfl
   | some x => have := y2.kT _ _ e; rw [lt j] at this; cases this
  have hb : ∀ j : Nat, c.h0.objs.size ≤ s2.heap.objs.size + j := fun j => Nat.le_trans r2.sz (Nat.le_add_right _ _)
  let q : Zp := ⟨s2.heap.objs.size + 4, s2.heap.objs.size + 2, s2.heap.objs.size + 3, s2.heap.objs.size, s2.heap.objs.size + 1⟩
  have aux : ∀ i j : Nat, i ≠ j → s2.heap.objs.size + i ≠ s2.heap.objs.size + j := fun i j h e => h (Nat.add_left_cancel e)
  have ap : q.ap := ⟨aux 2 4 (by decide), aux 3 4 (by decide), aux 0 4 (by decide), aux 1 4 (by decide), aux 2 3 (by decide), aux 2 0 (by decide), aux 2 1 (by decide), aux 3 0 (by decide), aux 3 1 (by decide), aux 0 1 (by decide)⟩
  have r3 := r2.ext (h' := h') (tk := s2.toks) hk
  have r4 := r3.own_new (a := q.TI) (x := .exact (pairO (.ref q.i1) (.ref q.i2))) b2 (ltF 2) (hb 2)
  have r5 := r4.own_new (a := q.TO) (x := .exact (pairO .none .none)) b3 (ltF 3) (hb 3)
  have r6 := r5.own_new (a := q.i1) (x := .exact o1) b4 (ltF 0) (hb 0)
  have r7 := r6.own_new (a := q.i2) (x := .exact o2) b5 (ltF 1) (hb 1)
  have r8 := r7.own_new (a := q.z) (x := .exact (zipO q .none)) b1 (ltF 4) (hb 4)
  have y3 := y2.newK (a := q.TI) (y := .exact (pairO (.ref q.i1) (.ref q.i2))) (lt 2)
  have y4 := y3.newK (a := q.TO) (y := .exact (pairO .none .none)) (by refine rG (TM.upd_ne (Ne.symm ap.h5)) ?_; exact lt 3)
  have y5 := y4.newK (a := q.i1) (y := .exact o1) (by (refine rG (TM.upd_ne (Ne.symm ap.h8)) ?_; refine rG (TM.upd_ne (Ne.symm ap.h6)) ?_); exact lt 0)
  have y6 := y5.newK (a := q.i2) (y := .exact o2) (by (refine rG (TM.upd_ne (Ne.symm ap.h10)) ?_; refine rG (TM.upd_ne (Ne.symm ap.h9)) ?_; refine rG (TM.upd_ne (Ne.symm ap.h7)) ?_); exact lt 1)
  have y7 := y6.newK (a := q.z) (y := .exact (zipO q .none)) (by (refine rG (TM.upd_ne (Ne.symm ap.h4)) ?_; refine rG (TM.upd_ne (Ne.symm ap.h3)) ?_; refine rG (TM.upd_ne (Ne.symm ap.h2)) ?_; refine rG (TM.upd_ne (Ne.symm ap.h1)) ?_); exact lt 4)
  exact kk F2 H2 q a1 a2 vs1 vs2 _ (k1.trans k2) ap ⟨ltK 4, ltK 2, ltK 3, ltK 0, ltK 1⟩ q4 f1 f2 g1 g2 b1 ⟨o1, o2, .none, .none, ⟨c4, d4⟩, ⟨c5, d5⟩, _, r8, y7⟩
theorem VRs.getAt {F : FM} {l : List MV} {vs : Array Value} {i : Nat} {v : MV} (h : VRs F l vs.toList) (e : l[i]? = some v) : ∃ u, vs[i]? = some u ∧ VR F v u := by
 have h' := VRs.drop i h
 have : l.drop i = v :: l.drop (i + 1) := by
  obtain ⟨hlt, e'⟩ := List.getElem?_eq_some_iff.mp e
  (refine rG (List.drop_eq_getElem_cons hlt) ?_; refine rG e' ?_; rfl)
 rw [this] at h'
 refine x2a3 h'.uncons fun u r k1 k2 k3 => ?_
 refine i1a2 u ?_ k2
 have : (vs.toList.drop i)[0]? = some u := by refine rG k1 ?_; rfl
 simpa using this
theorem W.forZ {x1 x2 : Str} {px1 px2 pt pz pc pos : Pos} {k : Nat} {e1 e2 : Expr} {body : List Stmt} {Q : MFlow → LM → LM → TM → Prop} (l1 l2 : List MV) (I : Nat → TM → Prop) (hA : A.handled = none) (hlen : l1.length = l2.length)
  (h : W c A env m cm H (spliced (backTo pc (starEach [e1, e2] env))) VL (fun vs m1 cm1 H1 => vs = [.lst l1, .lst l2] ∧ m1 = m ∧ cm1 = cm ∧ I 0 H1))
  (hb : ∀ i v1 v2 H, l1[i]? = some v1 → l2[i]? = some v2 → I i H → W c A env ((m.put x1 (some v1)).put x2 (some v2)) cm H (execs body env) Fl (LoopQ (fun m' cm' H' => (∃ o1 o2, m' = (m.put x1 o1).put x2 o2) ∧ cm' = cm ∧ I (i + 1) H') Q))
  (he : ∀ o1 o2 H, I l1.length H → Q .next ((m.put x1 o1).put x2 o2) cm H)
  (hn : nameV env m cm "zip" = some (.raw (.type "zip")) := by kernel_rfl) (hfn : isFn c.w.params (.raw (.type "zip")) = true := by kernel_rfl)
  (hx1 : env.kindOf x1 = some .local := by kernel_rfl) (hx2 : env.kindOf x2 = some .local := by kernel_rfl)
  (hsp : starEach [e1, e2] env = (false, eval e1 env) :: starEach [e2] env := by rfl) (hp : (backTo pc (starEach [e2] env)).any (·.1) = false := by rfl)
  (hs : ∀ x, foldedSetIterable (.Call (.Name "zip" pz) [e1, e2] [] pc) env x = pure x := by intro _; rfl) :
  W c A env m cm H (exec (.For (.Tuple [.Name x1 px1, .Name x2 px2] k pt) (.Call (.Name "zip" pz) [e1, e2] [] pc) body [] pos) env) Fl Q := fun F K s r => by
 refine wpAny_For (zip_eval hn hfn h hsp hp r fun F1 H1 q a1 a2 vs1 vs2 s1 k1 ap fr hI f1 f2 g1 g2 iz zs => ?_) hs
 refine wpAny_pyIter_zip iz ?_
 have bindOk : ∀ {m' : LM} {v1 v2 : MV}, bindT env m' cm (.Tuple [.Name x1 px1, .Name x2 px2] k pt) (.tup [v1, v2]) = some ((m'.set x1 v1).set x2 v2, cm) := fun {m' v1 v2} => by
  show bindAll env [x1, x2] [v1, v2] m' cm = _
  simp only [bindAll, storeTo, hx1, hx2]
 refine codeAny_forLoop_any (fun n s => ∃ i o1 o2 F' H, i + n = l1.length ∧ F1.le F' ∧ I i H ∧ ZSt c env K q a1 a2 i ((m.put x1 o1).put x2 o2) cm F' H s) (fun n s hz => ?_) l1.length
  ⟨0, m x1, (m.put x1 (m x1)) x2, F1, H1, Nat.zero_add _, FM.le.refl _, hI, by (refine rG (LM.put_self ..) ?_; refine rG (LM.put_self ..) ?_); exact zs⟩
 refine x5a4 hz fun i o1 o2 F' H' hi kF hI zs => ?_
 have hlv := (g1.mono kF).len
 rw [Array.length_toList] at hlv
 cases n with
 | zero =>
  refine wpAny_mono (zs.stop ap fr hA (f1.mono kF) (f2.mono kF) (by rw [Array.getElem?_eq_none]; lia) fun s' r' => ?_) (fun _ _ h => h) fun _ _ x => x.elim
  refine wpAny_execs_nil ⟨F', .next, _, cm, H', k1.trans kF, r', rfl, he o1 o2 H' ?_⟩
  have : i = l1.length := by lia
  refine rL this ?_; exact hI
 | succ n =>
  refine x1a1 (⟨_, List.getElem?_eq_getElem (by lia)⟩ : ∃ v, l1[i]? = some v) fun v1 hv1 => ?_
  refine x1a1 (⟨_, List.getElem?_eq_getElem (by lia)⟩ : ∃ v, l2[i]? = some v) fun v2 hv2 => ?_
  refine x1a2 (VRs.getAt (g1.mono kF) hv1) fun u1 hu1 w1 => ?_
  refine x1a2 (VRs.getAt (g2.mono kF) hv2) fun u2 hu2 w2 => ?_
  refine wpAny_mono (zs.step ap fr (f1.mono kF) (f2.mono kF) hu1 hu2 (target := .Name x1 px1) (elts := [.Name x1 px1, .Name x2 px2]) (k := k) (pos := pt) fun t s' hgo => ?_) (fun _ _ h => h) fun _ _ x => x.elim
  refine wpAny_mono hgo (fun _ s2 hg => ?_) fun _ _ x => x.elim
  obtain ⟨F2, k2, ft, oa, ob, x, y, i1, i2, r2⟩ := hg
  have hu : VR F2 (.tup [v1, v2]) (.ref t) := by
   simp only [VR]
   exact ⟨t, _, _, _, rfl, ft, rfl, rfl, .cons (w1.mono k2) (.cons (w2.mono k2) VRs.nil)⟩
  refine wpAny_mono (bindT_ok hA bindOk r2 hu fun s3 r3 => ?_) (fun _ _ h => h) fun _ _ x => x.elim
  rw [LM.put_set2] at r3
  refine W.wp (hb i v1 v2 H' hv1 hv2 hI) r3 fun F3 b m3 cm3 H3 f s4 k3 r4 v3 q3 => ?_
  obtain ⟨T3, r4, y4⟩ := r4
  cases b with
  | next => subst v3; obtain ⟨⟨oo1, oo2, rfl⟩, rfl, q3⟩ := q3; exact ⟨n, Nat.lt_succ_self _, i + 1, oo1, oo2, F3, H3, by lia, kF.trans (k2.trans k3), q3, oa, ob, x, y, i1, i2, T3, r4, y4⟩
  | cont => subst v3; obtain ⟨⟨oo1, oo2, rfl⟩, rfl, q3⟩ := q3; exact ⟨n, Nat.lt_succ_self _, i + 1, oo1, oo2, F3, H3, by lia, kF.trans (k2.trans k3), q3, oa, ob, x, y, i1, i2, T3, r4, y4⟩
  | brk => subst v3; exact ⟨F3, .next, m3, cm3, H3, k1.trans (kF.trans (k2.trans k3)), ⟨T3, r4, y4.unzk ap fr.z fr.TI fr.TO fr.i1 fr.i2⟩, rfl, q3⟩
  | ret w => obtain ⟨u', rfl, v3⟩ := v3; exact ⟨F3, .ret w, m3, cm3, H3, k1.trans (kF.trans (k2.trans k3)), ⟨T3, r4, y4.unzk ap fr.z fr.TI fr.TO fr.i1 fr.i2⟩, ⟨u', rfl, v3⟩, q3⟩
end
end Mine
namespace Mine
open Builtin.Str
noncomputable def kStr (s col : Str) : Str := if col = "nocase" then Txt.lower s else s
noncomputable def kVs : Wt → Str → List MV
 | .none, _ => [.int 0, .int 0, .str ""]
 | .int i, _ => [.int 1, .int i, .str ""]
 | .str s, col => [.int 2, .int 0, .str (kStr s col)]
noncomputable def kMV (w : Wt) (col : Str) : MV := .tup (kVs w col)
noncomputable def keyL (row : List Wt) (cols : List Str) : List MV := List.zipWith kMV row cols
@[reducible] noncomputable def ColsOk (n : Nat) (cols : List Str) : Prop := cols.length = n ∧ ∀ s ∈ cols, s = "binary" ∨ s = "nocase"
section
variable {c : Cx} {A : Around} {H : TM}
theorem lkey_ok {n : Nat} {row : List Wt} {cols : List Str} (hA : Room A 1) (hr : RowOk n row) (hc : ColsOk n cols) (hn : n ≤ 100) :
  CallW c A (.raw (.ref 1316)) [.lst (row.map Wt.mv), .lst (cols.map .str)] H (fun r G => G = H ∧ r = .lst (keyL row cols)) := by
 refine CallW.bd (names := ["row", "collations"]) (fKey_at c) hA.depth fKey_ok (bind2 fun p S a b => by kernel_rfl) fun L => ?_
 have hA' := hA.deeper (callEnvM fKey L 1316)
 have hrm := hA'.rm
 have hlen : (row.map Wt.mv).length = (cols.map MV.str).length := by (refine rG (List.length_map ..) ?_; refine rG (List.length_map ..) ?_; refine rG hr.1 ?_; refine rG hc.1 ?_; rfl)
 have hkl : (keyL row cols).length = n := by simp [keyL, hr.1, hc.1]
 refine W.cons (W.asgV (W.listO (W.es [] hrm OnOk.none ⟨by decide, fun a ha => ⟨by kernel_rfl, ?_⟩⟩)))
 refine W.cons (W.forZ (row.map Wt.mv) (cols.map MV.str) (fun i H' => H' = H.upd a (.plist ((keyL row cols).take i))) hrm.1 hlen
  (W.es [.lst (row.map Wt.mv), .lst (cols.map .str)] hrm OnOk.none ⟨rfl, rfl, rfl, rfl⟩) (fun i v1 v2 H' h1 h2 e => ?_) (fun o1 o2 H' e => ?_))
 ·subst e
  rw [List.getElem?_map] at h1 h2
  (refine x1a2 (Option.map_eq_some_iff.mp h1) fun w hw e92 => ?_; subst e92)
  (refine x1a2 (Option.map_eq_some_iff.mp h2) fun s hs e92 => ?_; subst e92)
  have hwm := hr.2 w (List.mem_of_getElem? hw)
  have hsm := hc.2 s (List.mem_of_getElem? hs)
  have hk : (keyL row cols)[i]? = some (kMV w s) := by simp [keyL, List.getElem?_zipWith, hw, hs]
  have hil : i < n := by refine rL hkl ?_; exact (List.getElem?_eq_some_iff.mp hk).1
  have fin : ∀ {u : MV}, u = kMV w s → ((H.upd a (.plist ((keyL row cols).take i))).upd a (.plist ((keyL row cols).take i ++ [u]))) = H.upd a (.plist ((keyL row cols).take (i + 1))) := fun {u} e => by
   (refine rG TM.upd_upd ?_; refine rG List.take_add_one ?_; refine rG hk ?_; refine rG e ?_); rfl
  have hlt : ((keyL row cols).take i).length < 1000000 := by (refine rG List.length_take ?_; refine rG hkl ?_); lia
  cases w with
  | none =>
   refine W.cons (W.ifF [] hrm OnOk.none trivial (W.cons (W.ex (W.meth (.raw (.ref a)) (.builtin "list.append") (by kernel_rfl) (PuN.e (.raw (.ref a)) hrm OnOk.none) (MethG.append (TM.upd_self _ _ _)) (W.ec (W.ifExp (W.testCmp hrm rfl (W.e0 .none hrm (W.e0 .none hrm ⟨true, [], rfl, trivial, ?_⟩)))))))))
   refine W.e0 (kMV .none s) hrm (W.items_nil (CallP.append (TM.upd_self _ _ _) hlt (W.nil (W.nil ⟨⟨_, _, rfl⟩, rfl, fin rfl⟩))))
  | int z =>
   refine W.cons (W.ifF [] hrm OnOk.none trivial (W.cons (W.ex (W.meth (.raw (.ref a)) (.builtin "list.append") (by kernel_rfl) (PuN.e (.raw (.ref a)) hrm OnOk.none) (MethG.append (TM.upd_self _ _ _)) (W.ec (W.ifExp (W.testCmp hrm rfl (W.e0 (.int z) hrm (W.e0 .none hrm ⟨false, [], rfl, trivial, ?_⟩)))))))))
   refine W.e0 (kMV (.int z) s) hrm (W.items_nil (CallP.append (TM.upd_self _ _ _) hlt (W.nil (W.nil ⟨⟨_, _, rfl⟩, rfl, fin rfl⟩))))
  | str x =>
   have hx : Builtin.Str.tooLong (Txt.lower x).length = false := by
    simp only [wts, List.mem_cons, List.not_mem_nil, or_false, reduceCtorEq, false_or, Wt.str.injEq] at hwm
    rcases hwm with rfl | rfl | rfl <;> decide +kernel
   refine W.cons (W.ifT [] hrm OnOk.none trivial (W.cons (W.ex (W.meth (.raw (.ref a)) (.builtin "list.append") (by kernel_rfl) (PuN.e (.raw (.ref a)) hrm OnOk.none) (MethG.append (TM.upd_self _ _ _)) (W.ec ?_)))))
   refine W.tuple (W.ec (W.e0 (.int 2) hrm (W.ec (W.e0 (.int 0) hrm (W.ec ?_)))))
   refine W.ifExp (W.testCmp hrm rfl (W.e0 (.str s) hrm (W.e0 (.str "nocase") hrm ⟨decide (s = "nocase"), [], rfl, trivial, ?_⟩)))
   by_cases hcs : s = "nocase"
   ·refine rG (decide_eq_true hcs) ?_
    refine W.meth0 (.str x) (.builtin "str.lower") (by kernel_rfl) (PuN.e (.str x) hrm OnOk.none) MethG.lower (CallP.lower hx ?_)
    exact W.items_nil ⟨by show 3 < 1000000; decide, W.items_nil (CallP.append (TM.upd_self _ _ _) hlt (W.nil (W.nil ⟨⟨_, _, rfl⟩, rfl, fin (by (rewrite [kMV]; rewrite [kVs]; rewrite [kStr]; refine rG (if_pos hcs) ?_; rfl))⟩)))⟩
   ·refine rG (decide_eq_false hcs) ?_
    refine W.e0 (.str x) hrm ?_
    exact W.items_nil ⟨by show 3 < 1000000; decide, W.items_nil (CallP.append (TM.upd_self _ _ _) hlt (W.nil (W.nil ⟨⟨_, _, rfl⟩, rfl, fin (by (rewrite [kMV]; rewrite [kVs]; rewrite [kStr]; refine rG (if_neg hcs) ?_; rfl))⟩)))⟩
 ·subst e
  refine W.cons (W.ret (W.frozen (W.e0 (.raw (.ref a)) hrm ⟨a, _, _, rfl, TM.upd_self _ _ _, .inr rfl, TM.del_upd ha, ?_⟩)))
  (refine rG (List.take_of_length_le (by rw [hkl, List.length_map, hr.1]; exact Nat.le_refl _)) ?_; rfl)
end
end Mine
end
section
set_option backward.match.sparseCases false
open PySem PySem.W PySem.W.X PyProof.Rows PySem.Calls
open Builtin Builtin.ObjectAttr
namespace Mine
open Builtin.Str
noncomputable def code : Wt → Str → Nat
 | .none, _ => 0
 | .int i, _ => if i = 1 then 1 else 2
 | .str s, col => if kStr s col = "A" then 3 else if kStr s col = "a" then 4 else 5
noncomputable def kD (w : Wt) (col : Str) : PyData := match w with
 | .none => .tuple [.int 0, .int 0, .str ""]
 | .int i => .tuple [.int 1, .int i, .str ""]
 | .str s => .tuple [.int 2, .int 0, .str (kStr s col)]
noncomputable def rank : List Wt → List Str → Nat
 | [w], [col] => code w col
 | [w1, w2], [c1, c2] => 6 * code w1 c1 + code w2 c2
 | _, _ => 0
theorem kMV_dat (w : Wt) (col : Str) : (kMV w col).dat = some (kD w col) := by cases w <;> rfl
noncomputable def keyD (row : List Wt) (cols : List Str) : List PyData := List.zipWith kD row cols
theorem keyL_dat : ∀ (row : List Wt) (cols : List Str), datAll (keyL row cols) = some (keyD row cols)
 | [], _ => by simp [keyL, keyD, datAll]
 | _ :: _, [] => by simp [keyL, keyD, datAll]
 | w :: row, s :: cols => by
  have := keyL_dat row cols
  show datAll (kMV w s :: keyL row cols) = some (kD w s :: keyD row cols)
  (rewrite [datAll]; refine rG (kMV_dat ..) ?_; refine rG this ?_; rfl)
theorem fin1 : ∀ w ∈ wts, ∀ w' ∈ wts, ∀ col ∈ colNames, PyData.eqv (kD w col) (kD w' col) = decide (code w col = code w' col) := by decide +kernel
theorem fin2 : ∀ w ∈ wts, ∀ col ∈ colNames, code w col < 6 := by decide +kernel
theorem fin3 : ∀ w ∈ wts, ∀ col ∈ colNames, SeqAt.shaped (.list [kD w col]) = true := by decide +kernel
theorem fin4 : ∀ w ∈ wts, ∀ col ∈ colNames, ∀ w' ∈ wts, ∀ col' ∈ colNames, SeqAt.shaped (.list [kD w col, kD w' col']) = true := by decide +kernel
theorem colsMem {n : Nat} {cols : List Str} (h : ColsOk n cols) : ∀ s ∈ cols, s ∈ colNames := fun s hs => by
 rcases h.2 s hs with rfl | rfl
 ·exact .head _
 ·exact .tail _ (.head _)
noncomputable def N12 (n : Nat) : Prop := n = 1 ∨ n = 2
theorem shape1 {row : List Wt} (h : RowOk 1 row) : ∃ w, row = [w] ∧ w ∈ wts := by
 match row, h with
 | [w], h => exact i1a2 w rfl (h.2 w (.head _))
theorem shape2 {row : List Wt} (h : RowOk 2 row) : ∃ w w', row = [w, w'] ∧ w ∈ wts ∧ w' ∈ wts := by
 match row, h with
 | [w, w'], h => exact i2a3 w w' rfl (h.2 w (.head _)) (h.2 w' (.tail _ (.head _)))
theorem cshape1 {cols : List Str} (h : ColsOk 1 cols) : ∃ s, cols = [s] ∧ s ∈ colNames := by
 have hm := colsMem h
 match cols, h with
 | [w], h => exact i1a2 w rfl (hm w (.head _))
theorem cshape2 {cols : List Str} (h : ColsOk 2 cols) : ∃ s s', cols = [s, s'] ∧ s ∈ colNames ∧ s' ∈ colNames := by
 have hm := colsMem h
 match cols, h with
 | [w, w'], h => exact i2a3 w w' rfl (hm w (.head _)) (hm w' (.tail _ (.head _)))
theorem key_shaped {n : Nat} {row : List Wt} {cols : List Str} (hn : N12 n) (hr : RowOk n row) (hc : ColsOk n cols) : SeqAt.shaped (.list (keyD row cols)) = true := by
 rcases hn with rfl | rfl
 ·(refine x1a2 (shape1 hr) fun w e91 h1 => ?_; subst e91)
  (refine x1a2 (cshape1 hc) fun s e91 h2 => ?_; subst e91)
  exact fin3 w h1 s h2
 ·(refine x2a3 (shape2 hr) fun w w' e92 h1 h1' => ?_; subst e92)
  (refine x2a3 (cshape2 hc) fun s s' e92 h2 h2' => ?_; subst e92)
  exact fin4 w h1 s h2 w' h1' s' h2'
theorem key_eqv {n : Nat} {r r' : List Wt} {cols : List Str} (hn : N12 n) (hr : RowOk n r) (hr' : RowOk n r') (hc : ColsOk n cols) : PyData.eqv (.list (keyD r cols)) (.list (keyD r' cols)) = decide (rank r cols = rank r' cols) := by
 rcases hn with rfl | rfl
 ·(refine x1a2 (shape1 hr) fun w e91 h1 => ?_; subst e91)
  (refine x1a2 (shape1 hr') fun v e91 h3 => ?_; subst e91)
  (refine x1a2 (cshape1 hc) fun s e91 h2 => ?_; subst e91)
  show (PyData.eqv (kD w s) (kD v s) && true) = _
  (refine rG (Bool.and_true ..) ?_; refine rG (fin1 w h1 v h3 s h2) ?_); rfl
 ·(refine x2a3 (shape2 hr) fun w w' e92 h1 h1' => ?_; subst e92)
  (refine x2a3 (shape2 hr') fun v v' e92 h3 h3' => ?_; subst e92)
  (refine x2a3 (cshape2 hc) fun s s' e92 h2 h2' => ?_; subst e92)
  show (PyData.eqv (kD w s) (kD v s) && (PyData.eqv (kD w' s') (kD v' s') && true)) = _
  (refine rG (Bool.and_true ..) ?_; refine rG (fin1 w h1 v h3 s h2) ?_; refine rG (fin1 w' h1' v' h3' s' h2') ?_)
  have q1 := fin2 w' h1' s' h2'
  have q2 := fin2 v' h3' s' h2'
  show _ = decide (6 * code w s + code w' s' = 6 * code v s + code v' s')
  refine rL (Bool.decide_and ..) ?_
  exact decide_eq_decide.mpr (by lia)
theorem key_eqV {n : Nat} {r r' : List Wt} {cols : List Str} (hn : N12 n) (hr : RowOk n r) (hr' : RowOk n r') (hc : ColsOk n cols) :
  ∃ C, cmpV .Eq (.lst (keyL r cols)) (.lst (keyL r' cols)) = some (decide (rank r cols = rank r' cols), C) ∧ AllP C := by
 refine ⟨[SeqAt.shaped (.list (keyD r cols)) = true, SeqAt.shaped (.list (keyD r' cols)) = true], ?_, key_shaped hn hr hc, key_shaped hn hr' hc, trivial⟩
 refine rL (key_eqv hn hr hr' hc) ?_
 exact datEq_of (dat_lst (keyL_dat _ _)) (dat_lst (keyL_dat _ _))
end Mine
end
section
open PySem PySem.W PySem.W.X PyProof.Rows PySem.Calls
open Builtin Builtin.ObjectAttr
namespace Mine
structure Lot where
 by_ : List Str
 rows : List (List Wt)
 at_ : Int
noncomputable def rowsMV (l : List (List Wt)) : List MV := l.map fun r => .lst (r.map Wt.mv)
noncomputable def lotD (l : Lot) (rr : Addr) : List (Str × MV) := [("by", .lst (l.by_.map .str)), ("rows", .raw (.ref rr)), ("at", .int l.at_)]
noncomputable def LotAt (H : TM) (x rr : Addr) (l : Lot) : Prop := H x = some (.sdict (lotD l rr)) ∧ H rr = some (.plist (rowsMV l.rows))
noncomputable def Lot.ok (n : Nat) (l : Lot) : Prop := ColsOk n l.by_ ∧ (∀ r ∈ l.rows, RowOk n r) ∧ l.rows.length < 60 ∧ 0 ≤ l.at_ ∧ True
noncomputable def Lot.spot (l : Lot) (row : List Wt) : Option Nat := l.rows.findIdx? fun r => decide (rank r l.by_ = rank row l.by_)
noncomputable def spotMV : Option Nat → MV
 | some i => .int i
 | none => .int (-1)
section
variable {c : Cx} {A : Around} {H : TM}
theorem spot_ok {n : Nat} (hn : N12 n) {x rr : Addr} {l : Lot} {row : List Wt} (hA : Room A 2) (h : LotAt H x rr l) (hl : l.ok n) (hr : RowOk n row) :
  CallW c A (.raw (.ref 1328)) [.raw (.ref x), .lst (row.map Wt.mv)] H (fun r G => G = H ∧ r = spotMV (l.spot row)) := by
 refine x0a2 h fun hx hrr => ?_
 refine x0a5 hl fun h1 h2 h3 h4 _ => ?_
 have hn' : n ≤ 100 := by rcases hn with rfl | rfl <;> decide
 refine CallW.bd (names := ["index", "row"]) (fSpot_at c) hA.depth fSpot_ok (bind2 fun p S a b => by kernel_rfl) fun L => ?_
 have hA' := hA.deeper (callEnvM fSpot L 1328)
 have hrm := hA'.rm
 have on : ∀ {env : Env} {m cm : LM} (e : nameV env m cm "index" = some (.raw (.ref x))), OnOk env m cm H (on1 "index" (.sdict (lotD l rr))) := fun e => OnOk.one "index" _ x hx e
 have hlen : (rowsMV l.rows).length = l.rows.length := List.length_map ..
 refine W.cons (W.asgV (W.callName (.raw (.ref 1316)) (by kernel_rfl) (by kernel_rfl) (W.es [.lst (row.map Wt.mv), .lst (l.by_.map .str)] hrm (on (by kernel_rfl)) ((lkey_ok hA' hr h1 hn').val2 ?_))))
 refine ⟨by kernel_rfl, ?_⟩
 refine W.cons (W.forI ((List.range (l.rows.length : Int).toNat).map fun (j : Nat) => MV.int (j : Int)) (fun i H' => H' = H ∧ ∀ (j : Nat) (r : List Wt), j < i → l.rows[j]? = some r → rank r l.by_ ≠ rank row l.by_) hrm.1
  (W.callNm (.raw (.type "range")) (by kernel_rfl) (by kernel_rfl) (W.ec (W.callNm (.raw (.builtin "len")) (by kernel_rfl) (by kernel_rfl) (W.ec (W.eO (.raw (.ref rr)) hrm (on (by kernel_rfl)) (W.items_nil (CallP.lenO hrr (.inr rfl) (by lia) ?_))))))) (fun i v H' hv hq => x0a2 hq fun e hst => ?_) (fun o H' hq => x0a2 hq fun e hst => ?_))
 ·refine rG hlen ?_
  refine W.items_nil (CallP.plain hrm (z := .rng (l.rows.length : Int).toNat) (C := [(0 : Int) ≤ (l.rows.length : Int)]) (by kernel_rfl) ⟨by lia, trivial⟩ ⟨rfl, by simp; lia, rfl, rfl, rfl, fun j r hj => by lia⟩)
 ·subst e
  (refine x0a2 (rng_get hv) fun hlt e91 => ?_; subst e91)
  rw [Int.toNat_natCast] at hlt
  refine x1a1 (⟨_, List.getElem?_eq_getElem hlt⟩ : ∃ r, l.rows[i]? = some r) fun r hr' => ?_
  have hrok := h2 r (List.mem_of_getElem? hr')
  refine x1a2 (key_eqV hn hrok hr h1) fun C e1 e2 => ?_
  have hget : (rowsMV l.rows).getD (i : Int).toNat .none = .lst (r.map Wt.mv) := by
   (refine rG List.getD_eq_getElem?_getD ?_; refine rG (Int.toNat_natCast ..) ?_; rewrite [rowsMV]; refine rG List.getElem?_map ?_; refine rG hr' ?_); rfl
  refine W.cons (W.ite (W.testCmp hrm rfl (W.callName (.raw (.ref 1316)) (by kernel_rfl) (by kernel_rfl) (W.ec (W.subO rfl (W.eO (.raw (.ref rr)) hrm (on (by kernel_rfl)) (W.e0 (.int (i : Int)) hrm ⟨rr, .list (rowsMV l.rows), .lst (r.map Wt.mv), [(0 : Int) ≤ (i : Int), (i : Int) < ((rowsMV l.rows).length : Int), (rowsMV l.rows).length < 1000000], rfl, ⟨_, hrr, .inr rfl⟩, by refine rL hget ?_; rfl, ⟨by lia, by lia, by lia, trivial⟩, ?_⟩)))))))
  refine W.es [.lst (l.by_.map .str)] hrm (on (by kernel_rfl)) ((lkey_ok hA' hrok h1 hn').val2 ?_)
  refine W.e0 (.lst (keyL row l.by_)) hrm ⟨_, C, e1, e2, ?_⟩
  by_cases hc : rank r l.by_ = rank row l.by_
  ·refine rG (decide_eq_true hc) ?_
   refine W.cons (W.re (.int (i : Int)) hrm OnOk.none ⟨rfl, ?_⟩)
   have : l.spot row = some i := by
    rw [Lot.spot, List.findIdx?_eq_some_iff_getElem]
    obtain ⟨hlt2, e5⟩ := List.getElem?_eq_some_iff.mp hr'
    refine ⟨hlt2, by refine rG e5 ?_; exact decide_eq_true hc, fun j hj => ?_⟩
    have := hst j _ hj (List.getElem?_eq_getElem (by lia))
    simpa using this
   refine rG this ?_; rfl
  ·refine rG (decide_eq_false hc) ?_
   refine W.nil (W.nil ⟨⟨_, rfl⟩, rfl, rfl, fun j r2 hj hr2 => ?_⟩)
   by_cases hji : j = i
   ·subst hji; rw [hr'] at hr2; (injection hr2 with hr2; subst hr2); exact hc
   ·exact hst j r2 (by lia) hr2
 ·subst e
  refine W.cons (W.re (.int (-1)) hrm OnOk.none ⟨rfl, ?_⟩)
  have : l.spot row = none := by
   rw [Lot.spot, List.findIdx?_eq_none_iff]
   intro r hm
   obtain ⟨j, hj, e⟩ := List.getElem_of_mem hm
   have := hst j r (by (refine rG (List.length_map ..) ?_; refine rG List.length_range ?_; refine rG (Int.toNat_natCast ..) ?_); exact hj) (by (refine rG (List.getElem?_eq_getElem hj) ?_; refine rG e ?_; rfl))
   simpa using this
  refine rG this ?_; rfl
end
end Mine
namespace Mine
noncomputable def pw {α : Type} (n : Nat) (key : Nat → Nat) : KasT α → (α → Prop) → Prop
 | .ret a, Q => Q a
 | .ask i j k, Q => i < n ∧ j < n ∧ pw n key (k (decide (key i < key j))) Q
theorem pw_bind {α β : Type} {n : Nat} {key : Nat → Nat} {f : α → KasT β} {Q : β → Prop} : ∀ (t : KasT α), pw n key t (fun a => pw n key (f a) Q) → pw n key (t.bind f) Q
 | .ret _ => fun h => h
 | .ask _ _ k => by intro hz1; obtain ⟨h1, h2, h⟩ := hz1; exact ⟨h1, h2, pw_bind (k _) h⟩
theorem pw_mono {α : Type} {n : Nat} {key : Nat → Nat} {Q Q' : α → Prop} (hq : ∀ a, Q a → Q' a) : ∀ (t : KasT α), pw n key t Q → pw n key t Q'
 | .ret a => fun h => hq a h
 | .ask _ _ k => by intro hz1; obtain ⟨h1, h2, h⟩ := hz1; exact ⟨h1, h2, pw_mono hq (k _) h⟩
theorem pw_wp {α : Type} {n : Nat} {key : Nat → Nat} {Q : α → Prop} {cmp : Nat → Nat → (Bool → Shared → Prop) → Shared → Prop} {G : α → Shared → Prop} {s : Shared}
  (hc : ∀ i j C, i < n → j < n → C (decide (key i < key j)) s → cmp i j C s) (hG : ∀ a, Q a → G a s) : ∀ (t : KasT α), pw n key t Q → t.kasWp cmp G s
 | .ret a => fun h => hG a h
 | .ask i j k => by intro hz1; obtain ⟨h1, h2, h⟩ := hz1; exact hc i j _ h1 h2 (pw_wp hc hG (k _) h)
section
variable {n : Nat} {key : Nat → Nat}
structure Ord (n : Nat) (p : Array Nat) : Prop where
 size : p.size = n
 perm : p.toList.Perm (List.range n)
noncomputable def at_ (p : Array Nat) (i : Nat) : Nat := p.getD i 0
theorem at_get {p : Array Nat} {i : Nat} (h : i < p.size) : p[i]? = some (at_ p i) := by simp [at_, Array.getD, h]
theorem Ord.lt {p : Array Nat} (h : Ord n p) (hn : 0 < n) (i : Nat) : at_ p i < n := by
 by_cases hi : i < p.size
 ·have h1 := at_get hi
  have hm : at_ p i ∈ p.toList := by
   rw [← Array.getElem?_toList] at h1
   exact List.mem_of_getElem? h1
  exact List.mem_range.mp (h.perm.mem_iff.mp hm)
 ·simp [at_, Array.getD, hi]; exact hn
theorem Ord.ne {p : Array Nat} (h : Ord n p) {i j : Nat} (hij : i < j) (hj : j < n) : at_ p i ≠ at_ p j := by
 have nd : p.toList.Nodup := h.perm.nodup_iff.mpr List.nodup_range
 have h1 := at_get (p := p) (i := i) (by refine rG h.size ?_; lia)
 have h2 := at_get (p := p) (i := j) (by refine rG h.size ?_; exact hj)
 rw [← Array.getElem?_toList] at h1 h2
 intro e
 rw [e] at h1
 obtain ⟨l1, e1⟩ := List.getElem?_eq_some_iff.mp h1
 obtain ⟨l2, e2⟩ := List.getElem?_eq_some_iff.mp h2
 have := (List.getElem_inj nd).mp (e1.trans e2.symm)
 lia
noncomputable def Up (key : Nat → Nat) (p : Array Nat) (k : Nat) : Prop := ∀ i j, i < j → j < k → key (at_ p i) ≤ key (at_ p j)
noncomputable def Down (key : Nat → Nat) (p : Array Nat) (k : Nat) : Prop := ∀ i j, i < j → j < k → key (at_ p j) < key (at_ p i)
noncomputable def Inj (n : Nat) (key : Nat → Nat) : Prop := ∀ i j, i < n → j < n → key i = key j → i = j
theorem asc_pw {p : Array Nat} (hp : Ord n p) (hn : 0 < n) : ∀ (f a : Nat), 1 ≤ a → Up key p a → pw n key (kas_asc p f a) (fun m => a ≤ m ∧ m ≤ a + f ∧ Up key p m ∧ (m < a + f → key (at_ p m) < key (at_ p (m - 1))))
 | 0 => fun a h1 hu => ⟨Nat.le_refl _, Nat.le_refl _, hu, fun h => absurd h (Nat.lt_irrefl _)⟩
 | f + 1 => by
  intro a h1 hu
  refine ⟨hp.lt hn _, hp.lt hn _, ?_⟩
  show pw n key (if decide (key (at_ p a) < key (at_ p (a - 1))) = true then _ else _) _
  by_cases h : key (at_ p a) < key (at_ p (a - 1))
  ·refine rG (if_pos (decide_eq_true h)) ?_
   exact ⟨Nat.le_refl _, by lia, hu, fun _ => h⟩
  ·refine rG (if_neg (by simpa using h)) ?_
   have hu' : Up key p (a + 1) := fun i j hij hj => by
    by_cases hja : j = a
    ·subst hja
     by_cases hia : i = j - 1
     ·subst hia; lia
     ·have := hu i (j - 1) (by lia) (by lia); lia
    ·exact hu i j hij (by lia)
   exact pw_mono (fun m hq => x0a4 hq fun q1 q2 q3 q4 => ⟨by lia, by lia, q3, fun hm => q4 (by lia)⟩) _ (asc_pw hp hn f (a + 1) (by lia) hu')
theorem desc_pw {p : Array Nat} (hp : Ord n p) (hk : Inj n key) : ∀ (f a : Nat), 1 ≤ a → a + f ≤ n → Down key p a → pw n key (kas_desc f p a 0) (fun r => r.1 = p ∧ r.2.2 = 0 ∧ a ≤ r.2.1 ∧ r.2.1 ≤ a + f ∧ Down key p r.2.1)
 | 0 => fun a h1 h2 hd => ⟨rfl, rfl, Nat.le_refl _, Nat.le_refl _, hd⟩
 | f + 1 => by
  intro a h1 h2 hd
  have hn : 0 < n := by lia
  refine ⟨hp.lt hn _, hp.lt hn _, ?_⟩
  show pw n key (if decide (key (at_ p a) < key (at_ p (a - 1))) = true then _ else _) _
  by_cases h : key (at_ p a) < key (at_ p (a - 1))
  ·(refine rG (if_pos (decide_eq_true h)) ?_; refine rG (if_neg (by decide)) ?_)
   have hd' : Down key p (a + 1) := fun i j hij hj => by
    by_cases hja : j = a
    ·subst hja
     by_cases hia : i = j - 1
     ·subst hia; exact h
     ·have := hd i (j - 1) (by lia) (by lia); lia
    ·exact hd i j hij (by lia)
   exact pw_mono (fun r hq => x0a5 hq fun q1 q2 q3 q4 q5 => ⟨q1, q2, by lia, by lia, q5⟩) _ (desc_pw hp hk f (a + 1) (by lia) (by lia) hd')
  ·refine rG (if_neg (by simpa using h)) ?_
   refine ⟨hp.lt hn _, hp.lt hn _, ?_⟩
   have hne := hp.ne (i := a - 1) (j := a) (by lia) (by lia)
   have h' : key (at_ p (a - 1)) < key (at_ p a) := by
    rcases Nat.lt_or_ge (key (at_ p (a - 1))) (key (at_ p a)) with q | q
    ·exact q
    ·exact absurd (hk _ _ (hp.lt hn _) (hp.lt hn _) (by lia)) hne
   show pw n key (if decide (key (at_ p (a - 1)) < key (at_ p a)) = true then _ else _) _
   refine rG (if_pos (decide_eq_true h')) ?_
   exact ⟨rfl, rfl, Nat.le_refl _, by show a ≤ a + (f + 1); lia, hd⟩
theorem Ord.rev {p : Array Nat} (hp : Ord n p) (i j : Nat) : Ord n (kas_rev p i j) :=
 ⟨(mirror_size _ _ _ _).trans hp.size, (Array.perm_iff_toList_perm.mp (mirror_perm p i j _)).trans hp.perm⟩
theorem rev_at {p : Array Nat} (hp : Ord n p) {j k : Nat} (hj : j ≤ n) (hk : k < j) : at_ (kas_rev p 0 j) k = at_ p (j - 1 - k) := by
 have e := getElem?_mirror_all (xs := p) (i := 0) (j := j) (by refine rG hp.size ?_; exact hj) k
 rw [if_pos ⟨Nat.zero_le _, hk⟩] at e
 have h1 := at_get (p := kas_rev p 0 j) (i := k) (by refine rG ((hp.rev 0 j).size) ?_; lia)
 have h2 := at_get (p := p) (i := 0 + j - 1 - k) (by refine rG hp.size ?_; lia)
 unfold kas_rev at h1
 rw [e, h2, Nat.zero_add] at h1
 exact (Option.some.inj h1).symm
theorem tail_pw {p : Array Nat} (hp : Ord n p) {m nrem : Nat} (h1 : 1 ≤ m) (h2 : m ≤ nrem) (h3 : nrem ≤ n) (hd : Down key p m) : pw n key (kas_tail3 m nrem p) (fun r => 1 ≤ r.1 ∧ r.1 ≤ nrem ∧ Ord n r.2 ∧ Up key r.2 r.1) := by
 unfold kas_tail3
 refine pw_bind _ (pw_mono (fun a hq => x0a4 hq fun q1 q2 q3 _ => ⟨by dsimp only; lia, by dsimp only; lia, hp.rev 0 m, q3⟩) _ (asc_pw (hp.rev 0 m) (by lia) (nrem - m) m h1 fun i j hij hj => ?_))
 (refine rG (rev_at hp (by lia) (by lia)) ?_; refine rG (rev_at hp (by lia) (by lia)) ?_)
 exact Nat.le_of_lt (hd _ _ (by lia) (by lia))
theorem count_pw {p : Array Nat} (hp : Ord n p) (hk : Inj n key) (hn : 1 ≤ n) : pw n key (kas_count n p) (fun r => 1 ≤ r.1 ∧ r.1 ≤ n ∧ Ord n r.2 ∧ Up key r.2 r.1) := by
 unfold kas_count
 refine pw_bind _ (pw_mono (fun m hpat => ?_) _ (asc_pw hp (by lia) (n - 1) 1 (Nat.le_refl _) fun i j hij hj => by lia))
 obtain ⟨q1, q2, q3, q4⟩ := hpat
 by_cases e1 : (m == n) = true
 ·refine rG (if_pos e1) ?_
  exact ⟨q1, by lia, hp, q3⟩
 ·refine rG (if_neg e1) ?_
  have hmn : m ≠ n := by simpa using e1
  by_cases e2 : m > 1
  ·refine rG (if_pos e2) ?_
   refine ⟨hp.lt hn _, hp.lt hn _, ?_⟩
   show pw n key (if decide (key (at_ p 0) < key (at_ p (m - 1))) = true then _ else _) _
   have hne := hp.ne (i := 0) (j := m - 1) (by lia) (by lia)
   have hle := q3 0 (m - 1) (by lia) (by lia)
   have : key (at_ p 0) < key (at_ p (m - 1)) := by
    rcases Nat.lt_or_ge (key (at_ p 0)) (key (at_ p (m - 1))) with q | q
    ·exact q
    ·exact absurd (hk _ _ (hp.lt hn _) (hp.lt hn _) (by lia)) hne
   refine rG (if_pos (decide_eq_true this)) ?_
   exact ⟨q1, by dsimp only; lia, hp, q3⟩
  ·refine rG (if_neg e2) ?_
   have hm1 : m = 1 := by lia
   subst hm1
   unfold kas_descPart
   have q5 := q4 (by lia)
   refine pw_bind _ (pw_mono (fun r ⟨r1, r2, r3, r4, r5⟩ => ?_) _ (desc_pw hp hk (n - (1 + 1)) (1 + 1) (by lia) (by lia) fun i j hij hj => ?_))
   ·have : i = 0 := by lia
    have : j = 1 := by lia
    subst_vars
    exact q5
   ·(refine rG r2 ?_; refine rG (if_neg (by decide)) ?_; refine rG r1 ?_)
    exact tail_pw hp (by lia) (by lia) (Nat.le_refl _) r5
theorem Ord.bub {p : Array Nat} (hp : Ord n p) (i j : Nat) : Ord n (bubble p i j) :=
 ⟨(bubble_size _ _ _).trans hp.size, (Array.perm_iff_toList_perm.mp (bubble_perm p i j)).trans hp.perm⟩
theorem bub_at {p : Array Nat} (hp : Ord n p) {k l i : Nat} (hk : k < n) (hl : l ≤ k) (hi : i ≤ k) : at_ (bubble p k (k - l)) i = if i = l then at_ p k else if l < i then at_ p (i - 1) else at_ p i := by
 have e := getElem?_bubble (xs := p) (src := k) (by refine rG hp.size ?_; exact hk) (k - l) (by lia) i
 have h1 := at_get (p := bubble p k (k - l)) (i := i) (by refine rG ((hp.bub _ _).size) ?_; lia)
 rw [h1] at e
 have e1 : k - (k - l) = l := by lia
 rw [e1] at e
 by_cases c1 : i = l
 ·rw [if_pos c1] at e ⊢
  rw [at_get (by refine rG hp.size ?_; exact hk)] at e
  exact Option.some.inj e
 ·rw [if_neg c1] at e ⊢
  by_cases c2 : l < i
  ·rw [if_pos ⟨c2, hi⟩] at e
   refine rG (if_pos c2) ?_
   rw [at_get (by refine rG hp.size ?_; lia)] at e
   exact Option.some.inj e
  ·rw [if_neg (fun h => c2 h.1)] at e
   refine rG (if_neg c2) ?_
   rw [at_get (by refine rG hp.size ?_; lia)] at e
   exact Option.some.inj e
theorem place_pw {p : Array Nat} (hp : Ord n p) {k : Nat} (hk : k < n) (hu : Up key p k) : ∀ (f l r : Nat), l ≤ r → r ≤ k → r - l ≤ f → (∀ i, i < l → key (at_ p i) ≤ key (at_ p k)) → (∀ i, r ≤ i → i < k → key (at_ p k) ≤ key (at_ p i)) →
  pw n key (kas_place p k f l r) (fun q => q ≤ k ∧ (∀ i, i < q → key (at_ p i) ≤ key (at_ p k)) ∧ (∀ i, q ≤ i → i < k → key (at_ p k) ≤ key (at_ p i)))
 | 0 => fun l r h1 h2 h3 ha hb => ⟨by lia, ha, fun i h h' => hb i (by lia) h'⟩
 | f + 1 => by
  intro l r h1 h2 h3 ha hb
  have hn : 0 < n := by lia
  unfold kas_place
  by_cases hlr : l ≥ r
  ·refine rG (if_pos hlr) ?_
   exact ⟨by lia, ha, fun i h h' => hb i (by lia) h'⟩
  ·refine rG (if_neg hlr) ?_
   refine ⟨hp.lt hn _, hp.lt hn _, ?_⟩
   show pw n key (if decide (key (at_ p k) < key (at_ p ((l + r) / 2))) = true then _ else _) _
   by_cases h : key (at_ p k) < key (at_ p ((l + r) / 2))
   ·refine rG (if_pos (decide_eq_true h)) ?_
    refine place_pw hp hk hu f l ((l + r) / 2) (by lia) (by lia) (by lia) ha fun i hi hik => ?_
    by_cases e : i = (l + r) / 2
    ·subst e; lia
    ·have := hu ((l + r) / 2) i (by lia) hik; lia
   ·refine rG (if_neg (by simpa using h)) ?_
    refine place_pw hp hk hu f ((l + r) / 2 + 1) r (by lia) h2 (by lia) (fun i hi => ?_) hb
    by_cases e : i = (l + r) / 2
    ·subst e; lia
    ·have := hu i ((l + r) / 2) (by lia) (by lia); lia
theorem bin_pw : ∀ (f : Nat) (p : Array Nat) (k : Nat), Ord n p → k + f = n → Up key p k → pw n key (kas_bin f p k) (fun q => Ord n q ∧ Up key q n)
 | 0 => fun p k hp hk hu => ⟨hp, by refine rL hk ?_; exact hu⟩
 | f + 1 => by
  intro p k hp hk hu
  unfold kas_bin
  refine pw_bind _ (pw_mono (fun l hpat => ?_) _ (place_pw hp (by lia) hu k 0 k (Nat.zero_le _) (Nat.le_refl _) (by lia) (fun i h => absurd h (Nat.not_lt_zero _)) fun i h1 h2 => by lia))
  obtain ⟨q1, q2, q3⟩ := hpat
  refine bin_pw f _ (k + 1) (hp.bub _ _) (by lia) fun i j hij hj => ?_
  (refine rG (bub_at hp (by lia) q1 (by lia)) ?_; refine rG (bub_at hp (by lia) q1 (by lia)) ?_)
  by_cases c1 : i = l
  ·(refine rG (if_pos c1) ?_; refine rG (if_neg (by lia)) ?_; refine rG (if_pos (by lia)) ?_)
   exact q3 _ (by lia) (by lia)
  ·refine rG (if_neg c1) ?_
   by_cases c2 : l < i
   ·(refine rG (if_pos c2) ?_; refine rG (if_neg (by lia)) ?_; refine rG (if_pos (by lia)) ?_)
    exact hu _ _ (by lia) (by lia)
   ·refine rG (if_neg c2) ?_
    by_cases c3 : j = l
    ·refine rG (if_pos c3) ?_
     exact q2 _ (by lia)
    ·refine rG (if_neg c3) ?_
     by_cases c4 : l < j
     ·refine rG (if_pos c4) ?_
      by_cases c5 : i = j - 1
      ·lia
      ·exact hu _ _ (by lia) (by lia)
     ·refine rG (if_neg c4) ?_
      exact hu _ _ hij (by lia)
theorem sort_pw (hk : Inj n key) (hn : 1 ≤ n) : pw n key (kas_sort n) (fun q => Ord n q ∧ Up key q n) := by
 unfold kas_sort
 have h0 : Ord n (List.toArray (List.range n)) := ⟨by simp, List.Perm.refl _⟩
 refine pw_bind _ (pw_mono (fun r hpat => ?_) _ (count_pw h0 hk hn))
 obtain ⟨q1, q2, q3, q4⟩ := hpat
 by_cases h : r.1 < n
 ·(refine rG (if_pos h) ?_; refine rG (Nat.max_eq_left q1) ?_)
  exact bin_pw _ _ _ q3 (by lia) q4
 ·refine rG (if_neg h) ?_
  have : r.1 = n := by lia
  exact ⟨q3, by refine rL this ?_; exact q4⟩
end
end Mine
namespace Mine.SeqAt
open PySem.SeqAt
open MeetsSeq MeetsSeq2 MeetsSeq3 SeqRoads2
noncomputable def lexv (e lt : Nat → Bool) : Nat → Nat → Bool
 | 0, _ => false
 | k + 1, i => if e i then lexv e lt k (i + 1) else lt i
noncomputable def LtAt (A : Around) (s : Shared) (y x : Value) (b : Bool) : Prop :=
 ∀ (prog : Program) (w : World) (E : Value → Shared → Prop) (Q : Value → Shared → Prop), Q (.bool b) s → wpAny (model prog w) A (richCompare .Lt y x) Q E s
theorem lt_loopAt (l b : Addr) (items items2 : Array Value) (n n2 : Nat) (dd dd2 : Option Addr) (sl sl2 : Array (Option Value)) (hsz : items.size = items2.size) (e lt : Nat → Bool) (k : Nat) :
  ∀ i : Nat, items.size - i = k → Meets (Builtin.«list.__eq__.loop» ⟨[.ref l, .ref b, rawInt i, rawInt 0], []⟩)
   (fun A R s => s.heap.get? l = some { cls := .type "list", dict := dd, data := .seq items n, slots := sl } ∧ s.heap.get? b = some { cls := .type "list", dict := dd2, data := .seq items2 n2, slots := sl2 } ∧
    (∀ j (h1 : j < items.size) (h2 : j < items2.size), EqAt A.in1 s items[j] items2[j] (e j)) ∧ (∀ j (h1 : j < items.size) (h2 : j < items2.size), LtAt A.in1 s items[j] items2[j] (lt j)) ∧
    R (.ok (.ret (.bool (lexv e lt k i)))) s) := by
 induction k with
 | zero =>
  intro i hk prog w A R s h
  obtain ⟨hp, g, d, tk, os⟩ := s; obtain ⟨hl, hb, he, hlt, h⟩ := h
  wp_walk using AutoSeq1.wpAny_loadPart' hl, AutoSeq1.wpAny_loadPart' hb
  have hi1 : items[((i : Nat) : Int).toNat]? = none := by simp; lia
  have hi2 : items2[((i : Nat) : Int).toNat]? = none := by simp; lia
  rw [hi1, hi2]
  wp_walk using AutoSeq1.wpAny_loadPart' hl, AutoSeq1.wpAny_loadPart' hb
  show R (.ok (.ret (.bool (decide (items.size < items2.size))))) _
  rw [decide_eq_false (by lia)]
  exact h
 | succ k ih =>
  intro i hk prog w A R s h
  obtain ⟨hp, g, d, tk, os⟩ := s; obtain ⟨hl, hb, he, hlt', h⟩ := h
  wp_walk using AutoSeq1.wpAny_loadPart' hl, AutoSeq1.wpAny_loadPart' hb
  have hlt : i < items.size := by lia
  have hlt2 : i < items2.size := by lia
  have hi1 : items[((i : Nat) : Int).toNat]? = some items[i] := by simp [hlt]
  have hi2 : items2[((i : Nat) : Int).toNat]? = some items2[i] := by simp [hlt2]
  have hc : ((i : Int) + 1) = ((i + 1 : Nat) : Int) := by push_cast; rfl
  rw [hi1, hi2]
  refine wpAny_bind (he i hlt hlt2 prog w _ _ ?_)
  unfold lexv at h
  cases hb' : e i with
  | true =>
   rw [hb'] at h
   wp_walk
   rw [hc]
   exact ⟨plainId_quiet plain_eq_loop _, codeAny_builtin entry_eq_loop (by
    rw [Around.under_plainId plain_eq_loop _]
    exact ih (i + 1) (by lia) prog w A R _ ⟨hl, hb, he, hlt', by simpa using h⟩)⟩
  | false =>
   rw [hb'] at h
   wp_walk using AutoSeq1.wpAny_loadPart' hl, AutoSeq1.wpAny_loadPart' hb
   rw [hi1, hi2]
   refine wpAny_bind (hlt' i hlt hlt2 prog w _ _ ?_)
   wp_walk
   simpa using h
theorem list_ltAt (l b : Addr) (items items2 : Array Value) (n n2 : Nat) (dd dd2 : Option Addr) (sl sl2 : Array (Option Value)) (hsz : items.size = items2.size) (e lt : Nat → Bool) :
  Meets (Builtin.«list.__lt__» ⟨[.ref l, .ref b], []⟩)
   (fun A R s => s.heap.get? l = some { cls := .type "list", dict := dd, data := .seq items n, slots := sl } ∧ s.heap.get? b = some { cls := .type "list", dict := dd2, data := .seq items2 n2, slots := sl2 } ∧
    (∀ j (h1 : j < items.size) (h2 : j < items2.size), EqAt A.in1 s items[j] items2[j] (e j)) ∧ (∀ j (h1 : j < items.size) (h2 : j < items2.size), LtAt A.in1 s items[j] items2[j] (lt j)) ∧
    R (.ok (.ret (.bool (lexv e lt items.size 0)))) s) := by
 intro prog w A R s h
 obtain ⟨hp, g, d, tk, os⟩ := s; obtain ⟨hl, hb, he, hlt, h⟩ := h
 have f3 := AutoSeq1.sub_list_list
 wp_walk using AutoSeq1.wpAny_loadPart' hl, AutoSeq1.wpAny_loadPart' hb
 exact ⟨plainId_quiet plain_eq_loop _, codeAny_builtin entry_eq_loop (by
  rw [Around.under_plainId plain_eq_loop _]
  exact lt_loopAt l b items items2 n n2 dd dd2 sl sl2 hsz e lt _ 0 rfl prog w A R _ ⟨hl, hb, he, hlt, h⟩)⟩
theorem tuple_ltAt (l b : Addr) (items items2 : Array Value) (n n2 : Nat) (dd dd2 : Option Addr) (sl sl2 : Array (Option Value)) (hsz : items.size = items2.size) (e lt : Nat → Bool) :
  Meets (Builtin.«tuple.__lt__» ⟨[.ref l, .ref b], []⟩)
   (fun A R s => s.heap.get? l = some { cls := .type "tuple", dict := dd, data := .seq items n, slots := sl } ∧ s.heap.get? b = some { cls := .type "tuple", dict := dd2, data := .seq items2 n2, slots := sl2 } ∧
    (∀ j (h1 : j < items.size) (h2 : j < items2.size), EqAt A.in1 s items[j] items2[j] (e j)) ∧ (∀ j (h1 : j < items.size) (h2 : j < items2.size), LtAt A.in1 s items[j] items2[j] (lt j)) ∧
    R (.ok (.ret (.bool (lexv e lt items.size 0)))) s) :=
 .of_wp fun prog w A R s h => by
  obtain ⟨hp, g, d, tk, os⟩ := s; obtain ⟨hl, hb, he, hlt', h⟩ := h
  have f2 := AutoSeq1.sub_tuple_tuple
  have hZ : (items.toList.zip items2.toList).length = items.size := by simp [hsz]
  wp_walk using AutoSeq1.wpAny_loadPart' hl, AutoSeq1.wpAny_loadPart' hb, wpAny_forIn_list _ (fun rest b s' => b.1 = none ∧ s' = ⟨hp, g, d, tk, os⟩ ∧ ∃ i, i ≤ items.size ∧ rest = (items.toList.zip items2.toList).drop i ∧
   R (.ok (.ret (.bool (lexv e lt (items.size - i) i)))) ⟨hp, g, d, tk, os⟩) _
  case turn =>
   rintro ⟨y, x⟩ rest b s' ⟨hb', rfl, i, hi, hz, hR⟩
   have hlt : i < (items.toList.zip items2.toList).length := by
    rcases Nat.lt_or_ge i (items.toList.zip items2.toList).length with h' | h'
    ·exact h'
    ·rw [List.drop_of_length_le h'] at hz; injection hz
   have h1 : i < items.size := hZ ▸ hlt
   have h2 : i < items2.size := hsz ▸ h1
   rw [List.drop_eq_getElem_cons hlt] at hz
   injection hz with hyx hrest
   have hy : y = items[i] := by have := congrArg Prod.fst hyx; simpa using this
   have hx : x = items2[i] := by have := congrArg Prod.snd hyx; simpa using this
   subst hy hx
   have hs : items.size - i = (items.size - (i + 1)) + 1 := by lia
   rw [hs] at hR
   unfold lexv at hR
   refine wpAny_bind (he i h1 h2 prog w _ _ ?_)
   cases hy : e i with
   | true =>
    rw [hy] at hR
    wp_walk
    exact ⟨rfl, rfl, i + 1, by lia, hrest, by simpa using hR⟩
   | false =>
    rw [hy] at hR
    have hr : ∀ (E : Value → Shared → Prop) (Q : Value → Shared → Prop), Q (.bool (lt i)) ⟨hp, g, d, tk, os⟩ → wpAny (model prog w) A.in1 (richCompare .Lt items[i] items2[i]) Q E ⟨hp, g, d, tk, os⟩ := fun E Q => hlt' i h1 h2 prog w E Q
    wp_walk using hr _ _
    exact ⟨_, rfl, by simpa using hR⟩
  case fin =>
   rintro ⟨b1, b2⟩ s' ⟨hb', rfl, i, hi, hz, hR⟩
   simp only at hb'
   subst hb'
   have : i = items.size := by
    have := congrArg List.length hz
    rw [List.length_nil, List.length_drop, hZ] at this
    lia
   subst this
   rw [Nat.sub_self] at hR
   wp_walk
   refine ⟨_, rfl, ?_⟩
   show R (.ok (.ret (.bool (decide (items.size < items2.size))))) _
   rw [decide_eq_false (by lia)]
   exact hR
  case h =>
   exact ⟨rfl, rfl, 0, Nat.zero_le _, rfl, h⟩
end Mine.SeqAt
namespace Mine
open Builtin.Str SeqAt
noncomputable def kT : Wt → Str → Int × Int × Str
 | .none, _ => (0, 0, "")
 | .int i, _ => (1, i, "")
 | .str s, col => (2, 0, kStr s col)
noncomputable def eT (a b : Int × Int × Str) : Nat → Bool
 | 0 => decide (a.1 = b.1)
 | 1 => decide (a.2.1 = b.2.1)
 | _ => decide (a.2.2 = b.2.2)
noncomputable def ltT (a b : Int × Int × Str) : Nat → Bool
 | 0 => decide (a.1 < b.1)
 | 1 => decide (a.2.1 < b.2.1)
 | _ => decide (a.2.2.cps.toList < b.2.2.cps.toList)
theorem fin5 : ∀ w ∈ wts, ∀ w' ∈ wts, ∀ col ∈ colNames, lexv (eT (kT w col) (kT w' col)) (ltT (kT w col) (kT w' col)) 3 0 = decide (code w col < code w' col) := by decide +kernel
theorem kMV_kT (w : Wt) (col : Str) : kMV w col = .tup [.int (kT w col).1, .int (kT w col).2.1, .str (kT w col).2.2] := by cases w <;> rfl
section
variable {c : Cx} {A : Around} {F : FM} {T : TM} {s : Shared}
theorem tup_parts {a : Int × Int × Str} {u : Value} (r : Rel c F T s) (h : VR F (.tup [.int a.1, .int a.2.1, .str a.2.2]) u) : ∃ t d n sl k0 k1 k2, u = .ref t ∧ s.heap.get? t = some { cls := .type "tuple", dict := d, data := .seq #[.int a.1 k0, .int a.2.1 k1, .str a.2.2 k2] n, slots := sl } := by
 simp only [VR] at h
 obtain ⟨t, ⟨c1, d1, dt1, sl1⟩, vs, n, rfl, e1, e2, e3, e4⟩ := h
 dsimp only at e2 e3
 subst e2 e3
 refine x2a3 e4.uncons fun u0 r0 q0 v0 e4 => ?_
 refine x2a3 (VRs.two e4) fun u1 u2 q1 v1 v2 => ?_
 subst q1
 (refine x1a1 (by simpa only [VR] using v0 : ∃ t, u0 = .int a.1 t) fun k0 e91 => ?_; subst e91)
 (refine x1a1 (by simpa only [VR] using v1 : ∃ t, u1 = .int a.2.1 t) fun k1 e91 => ?_; subst e91)
 (refine x1a1 (by simpa only [VR] using v2 : ∃ t, u2 = .str a.2.2 t) fun k2 e91 => ?_; subst e91)
 have : vs = #[.int a.1 k0, .int a.2.1 k1, .str a.2.2 k2] := Array.toList_inj.mp q0
 subst this
 exact i7a2 t d1 n sl1 k0 k1 k2 rfl ((r.fz _ _ e1).1)
theorem tup_lt {w w' : Wt} {col : Str} {u v : Value} (r : Rel c F T s) (hw : w ∈ wts) (hw' : w' ∈ wts) (hc : col ∈ colNames) (hu : VR F (kMV w col) u) (hv : VR F (kMV w' col) v) (hA : A.units < cLine) : LtAt A s u v (decide (code w col < code w' col)) := by
 intro prog wd E Q hQ
 rw [kMV_kT] at hu hv
 rw [← fin5 w hw w' hw' col hc] at hQ
 (refine x7a2 (tup_parts r hu) fun t d n sl k0 k1 k2 e97 h1 => ?_; subst e97)
 (refine x7a2 (tup_parts r hv) fun t' d' n' sl' j0 j1 j2 e97 h2 => ?_; subst e97)
 generalize kT w col = a at *
 generalize kT w' col = b at *
 refine richCompare_meets_room ⟨_, h1, rfl⟩ ⟨_, h2, rfl⟩ PySem.F.slot_tuple_lt PySem.F.entry_tuple_lt (PySem.F.args_tuple_lt_2 _ _) (tuple_ltAt t t' #[.int a.1 k0, .int a.2.1 k1, .str a.2.2 k2] #[.int b.1 j0, .int b.2.1 j1, .str b.2.2 j2] n n' d d' sl sl' rfl (eT a b) (ltT a b)) ⟨h1, h2, fun j g1 g2 => ?_, fun j g1 g2 => ?_, ⟨by simp, hQ⟩⟩ hA
 ·match j, g1 with
  | 0, _ => exact fun prog w E Q hq => wpAny_eqBool_int hq
  | 1, _ => exact fun prog w E Q hq => wpAny_eqBool_int hq
  | 2, _ => exact fun prog w E Q hq => wpAny_eqBool_str hq
 ·match j, g1 with
  | 0, _ => exact fun prog w E Q hq => PyProof.Rows.lt_int (A := _) hq
  | 1, _ => exact fun prog w E Q hq => PyProof.Rows.lt_int hq
  | 2, _ => exact fun prog w E Q hq => PyProof.Rows.lt_str hq
theorem lst_parts {l : List MV} {u : Value} (r : Rel c F T s) (h : VR F (.lst l) u) : ∃ t d n sl vs, u = .ref t ∧ VRs F l vs.toList ∧ s.heap.get? t = some { cls := .type "list", dict := d, data := .seq vs n, slots := sl } := by
 simp only [VR] at h
 obtain ⟨t, ⟨c1, d1, dt1, sl1⟩, vs, n, rfl, e1, e2, e3, e4⟩ := h
 dsimp only at e2 e3
 subst e2 e3
 exact i5a3 t d1 n sl1 vs rfl e4 ((r.fz _ _ e1).1)
theorem tup_eq {w w' : Wt} {col : Str} {u v : Value} (r : Rel c F T s) (hw : w ∈ wts) (hw' : w' ∈ wts) (hc : col ∈ colNames) (hu : VR F (kMV w col) u) (hv : VR F (kMV w' col) v) (hA : A.units + 64 < cLine) : EqAt A s u v (decide (code w col = code w' col)) := by
 refine rL (fin1 w hw w' hw' col hc) ?_
 refine x1a1 (reads_of (fun a o e => (r.fz a o e).1) _ hu (kMV_dat w col)) fun as h1 => ?_
 refine x1a1 (reads_of (fun a o e => (r.fz a o e).1) _ hv (kMV_dat w' col)) fun bs h2 => ?_
 have fin6 : ∀ w ∈ wts, ∀ col ∈ colNames, SeqAt.shaped (kD w col) = true := by decide +kernel
 exact eqAt_reads _ _ _ _ _ _ _ _ h1 h2 (canLay_of_shaped (fin6 w hw col hc)) (canLay_of_shaped (fin6 w' hw' col hc)) (room_of_shaped (fin6 w hw col hc) hA)
theorem key_lt {n : Nat} {a b : List Wt} {cols : List Str} {u v : Value} {E : Value → Shared → Prop} {Q : Bool → Shared → Prop} (r : Rel c F T s) (hn : N12 n) (ha : RowOk n a) (hb : RowOk n b) (hc : ColsOk n cols) (hu : VR F (.lst (keyL a cols)) u) (hv : VR F (.lst (keyL b cols)) v) (hA : A.units + 70 < cLine)
  (hQ : Q (decide (rank a cols < rank b cols)) s) : wpAny (model P c.w) A (keyLt' oneType' u v) Q E s := by
 (refine x5a3 (lst_parts r hu) fun t d n1 sl vs e95 h1 h2 => ?_; subst e95)
 (refine x5a3 (lst_parts r hv) fun t' d' n2 sl' vs' e95 h3 h4 => ?_; subst e95)
 have hsz : vs.size = vs'.size := by
  have q1 := h1.len
  have q2 := h3.len
  rw [Array.length_toList] at q1 q2
  (refine rG q1 ?_; refine rG q2 ?_)
  simp [keyL, ha.1, hb.1]
 (refine rG (keyLt'_oneType ..) ?_; refine rG (oneLt'_eq ..) ?_)
 simp only [if_true]
 refine wpAny_bind (wpAny_cRoomFor (by lia) ?_)
 refine wpAny_bind (wpAny_callSpecialIfBound?_slot ⟨_, h2, rfl⟩ PySem.F.slot_list_lt ?_)
 have fin : ∀ (e lt : Nat → Bool) (m : Nat), vs.size = m → (∀ j (g1 : j < vs.size) (g2 : j < vs'.size), EqAt A.in1 s vs[j] vs'[j] (e j)) → (∀ j (g1 : j < vs.size) (g2 : j < vs'.size), LtAt A.in1 s vs[j] vs'[j] (lt j)) → lexv e lt m 0 = decide (rank a cols < rank b cols) →
   wpAny (model P c.w) A (call (.builtin "list.__lt__") [.ref t, .ref t']) (fun v s' => v = .bool (decide (rank a cols < rank b cols)) ∧ s' = s) (fun _ _ => False) s := fun e lt m hm he hlt hl => by
  subst hm
  refine call_meets PySem.F.slot_list_lt ⟨_, h2, rfl⟩ PySem.F.entry_list_lt (PySem.F.args_list_lt_2 _ _) (list_ltAt t t' vs vs' n1 n2 d d' sl sl' hsz e lt) ⟨h2, h4, he, hlt, ?_⟩
  refine rG hl ?_
  exact ⟨rfl, rfl⟩
 have key : wpAny (model P c.w) A (call (.builtin "list.__lt__") [.ref t, .ref t']) (fun v s' => v = .bool (decide (rank a cols < rank b cols)) ∧ s' = s) (fun _ _ => False) s := ?_
 ·exact wpAny_mono key (fun v s' hq => x0a2 hq fun e1 e2 => by subst e1 e2; exact wpAny_truthy_bool hQ) fun _ _ x => x.elim
 have two : ∀ {l : List MV} {x : MV} {i : Nat} {us : Array Value} (hh : VRs F l us.toList) (e : l[i]? = some x) (g : i < us.size), VR F x us[i] := fun hh e g => by
  refine x1a2 (VRs.getAt hh e) fun u h1 h2 => ?_
  rw [Array.getElem?_eq_getElem g] at h1
  (injection h1 with h1; subst h1); exact h2
 rcases hn with rfl | rfl
 ·(refine x1a2 (shape1 ha) fun w e91 k1 => ?_; subst e91)
  (refine x1a2 (shape1 hb) fun w' e91 k2 => ?_; subst e91)
  (refine x1a2 (cshape1 hc) fun x e91 k3 => ?_; subst e91)
  have hm : vs.size = 1 := by have := h1.len; rw [Array.length_toList] at this; exact this
  refine fin (fun _ => decide (code w x = code w' x)) (fun _ => decide (code w x < code w' x)) 1 hm (fun j g1 g2 => ?_) (fun j g1 g2 => ?_) ?_
  ·have : j = 0 := by lia
   subst this
   exact tup_eq (A := A.in1) r k1 k2 k3 (two h1 rfl g1) (two h3 rfl g2) (by show A.units + 1 + 64 < cLine; lia)
  ·have : j = 0 := by lia
   subst this
   exact tup_lt (A := A.in1) r k1 k2 k3 (two h1 rfl g1) (two h3 rfl g2) (by show A.units + 1 < cLine; lia)
  ·show (if decide (code w x = code w' x) = true then false else decide (code w x < code w' x)) = decide (code w x < code w' x)
   by_cases e : code w x = code w' x
   ·(refine rG (if_pos (decide_eq_true e)) ?_; refine rG (decide_eq_false (by lia)) ?_; rfl)
   ·(refine rG (if_neg (by simpa using e)) ?_; rfl)
 ·(refine x2a3 (shape2 ha) fun w1 w2 e92 k1 k1' => ?_; subst e92)
  (refine x2a3 (shape2 hb) fun v1 v2 e92 k2 k2' => ?_; subst e92)
  (refine x2a3 (cshape2 hc) fun x1 x2 e92 k3 k3' => ?_; subst e92)
  have hm : vs.size = 2 := by have := h1.len; rw [Array.length_toList] at this; exact this
  refine fin (fun j => if j = 0 then decide (code w1 x1 = code v1 x1) else decide (code w2 x2 = code v2 x2)) (fun j => if j = 0 then decide (code w1 x1 < code v1 x1) else decide (code w2 x2 < code v2 x2)) 2 hm (fun j g1 g2 => ?_) (fun j g1 g2 => ?_) ?_
  ·match j, g1, g2 with
   | 0, g1, g2 => exact tup_eq (A := A.in1) r k1 k2 k3 (two h1 rfl g1) (two h3 rfl g2) (by show A.units + 1 + 64 < cLine; lia)
   | 1, g1, g2 => exact tup_eq (A := A.in1) r k1' k2' k3' (two h1 rfl g1) (two h3 rfl g2) (by show A.units + 1 + 64 < cLine; lia)
   | j + 2, g1, _ => lia
  ·match j, g1, g2 with
   | 0, g1, g2 => exact tup_lt (A := A.in1) r k1 k2 k3 (two h1 rfl g1) (two h3 rfl g2) (by show A.units + 1 < cLine; lia)
   | 1, g1, g2 => exact tup_lt (A := A.in1) r k1' k2' k3' (two h1 rfl g1) (two h3 rfl g2) (by show A.units + 1 < cLine; lia)
   | j + 2, g1, _ => lia
  ·have q1 := fin2 w2 k1' x2 k3'
   have q2 := fin2 v2 k2' x2 k3'
   show (if decide (code w1 x1 = code v1 x1) = true then (if decide (code w2 x2 = code v2 x2) = true then false else decide (code w2 x2 < code v2 x2)) else decide (code w1 x1 < code v1 x1)) = decide (6 * code w1 x1 + code w2 x2 < 6 * code v1 x1 + code v2 x2)
   by_cases e : code w1 x1 = code v1 x1
   ·(refine rG (if_pos (decide_eq_true e)) ?_; refine rG e ?_)
    by_cases e' : code w2 x2 = code v2 x2
    ·(refine rG (if_pos (decide_eq_true e')) ?_; refine rG (decide_eq_false (by lia)) ?_; rfl)
    ·refine rG (if_neg (by simpa using e')) ?_
     exact decide_eq_decide.mpr (by lia)
   ·refine rG (if_neg (by simpa using e)) ?_
    exact decide_eq_decide.mpr (by lia)
end
end Mine
namespace Mine
open Builtin.Str
section
variable {c : Cx} {A : Around} {env : Env} {m cm : LM} {H K : TM}
theorem Lay.claim {F : FM} {T : TM} {a : Addr} {x : MObj} (y : Lay F env m cm H (K.upd a x) T) (e : K a = none) (hx : ∀ v, x ≠ .cell v) : Lay F env m cm (H.upd a x) K T := by
 refine x0a2 (y.k_cell (TM.upd_self K a x) hx) fun n1 n2 => ?_
 have l := y.lessK e hx
 have hT : T a = some x := y.kT _ _ (TM.upd_self _ _ _)
 refine { l with
  hT := fun b z eb => by
   by_cases hb : b = a
   ·subst hb; rw [TM.upd_self] at eb; (injection eb with eb; subst eb); exact hT
   ·rw [TM.upd_ne hb] at eb; exact l.hT b z eb
  dis := fun b => by
   by_cases hb : b = a
   ·subst hb; exact .inr e
   ·refine rG (TM.upd_ne hb) ?_; exact l.dis b
  hl := by refine rG (TM.upd_ne (Ne.symm n1)) ?_; exact l.hl
  own := fun n b hb hk hz => by
   refine x0a4 (l.own n b hb hk hz) fun o1 o2 o3 o4 => ?_
   exact ⟨by refine rG (TM.upd_ne (n2 n b hb hz)) ?_; exact o1, o2, o3, o4⟩ }
noncomputable def lstO (l : List Value) (e : Nat) : Obj := seqObj "list" l.toArray e
noncomputable def K2 (K : TM) (D kS : Addr) (e1 : Nat) (ks : List Value) (e : Nat) : TM := (K.upd D (.exact (lstO [] e1))).upd kS (.exact (lstO ks e))
theorem noCell {o : Obj} : ∀ v, MObj.exact o ≠ .cell v := fun v e => by injection e
theorem keys_fold {cols : List Str} {f : MV} {fv : Value} {D kS : Addr} {e1 : Nat} {E : Value → Shared → Prop} {body : Value → PUnit → Sem (ForInStep PUnit)}
  (hb : ∀ x (s : Shared) (C : Shared → Prop), wpAny (model P c.w) A (call fv [x]) (fun k s' => ∃ ks e, s'.heap.get? kS = some (lstO ks e) ∧ ks.length < 64 ∧ C { s' with heap := s'.heap.update kS (Obj.mapSeq (·.push k)) }) (fun _ _ => False) s →
   wpAny (model P c.w) A (body x ⟨⟩) (fun r s' => r = .yield ⟨⟩ ∧ C s') E s) :
  ∀ (rest : List (List Wt)) (us : List Value) (dn : List (List Wt)) (ks : List Value) (e : Nat) (F : FM) (s : Shared), VRs F (rowsMV rest) us → VRs F (dn.map fun r => .lst (keyL r cols)) ks → VR F f fv → RelE c env m cm F H (K2 K D kS e1 ks e) s → dn.length + rest.length < 64 →
   (∀ row ∈ rest, CallW c A f [.lst (row.map Wt.mv)] H (fun r G => G = H ∧ r = .lst (keyL row cols))) →
   wpAny (model P c.w) A (forIn us PUnit.unit body) (fun _ s' => ∃ F' ks' e', F.le F' ∧ VRs F' ((dn ++ rest).map fun r => .lst (keyL r cols)) ks' ∧ RelE c env m cm F' H (K2 K D kS e1 ks' e') s') E s
 | [] => by
  intro us dn ks e F s h1 h2 hf r hz hc
  have : us = [] := by simpa [rowsMV, VRs] using h1
  subst this
  refine rG List.forIn_nil ?_
  exact wpAny_pure ⟨F, ks, e, FM.le.refl F, by refine rG (List.append_nil ..) ?_; exact h2, r⟩
 | row :: rest => by
  intro us dn ks e F s h1 h2 hf r hz hc
  (refine x2a3 ((show VRs F (.lst (row.map Wt.mv) :: rowsMV rest) us from h1).uncons) fun u us' e92 h3 h4 => ?_; subst e92)
  refine rG (List.forIn_cons ..) ?_
  have call1 := call_back r hf (VRs.cons h3 VRs.nil) (hc row (.head _)) (G := fun k s' => ∃ ks0 e0, s'.heap.get? kS = some (lstO ks0 e0) ∧ ks0.length < 64 ∧ (fun s'' => ∃ kz F' e', F.le F' ∧ VRs F' ((dn ++ [row]).map fun r => .lst (keyL r cols)) (ks ++ [kz]) ∧ RelE c env m cm F' H (K2 K D kS e1 (ks ++ [kz]) e') s'') { s' with heap := s'.heap.update kS (Obj.mapSeq (·.push k)) })
   fun F' H' v s' x k1 r' hv hq => x0a2 hq fun q1 q2 => by
    subst q1 q2
    obtain ⟨T, R, y⟩ := r'
    have tk : T kS = some (.exact (lstO ks e)) := y.kT _ _ (TM.upd_self _ _ _)
    have hk : s'.heap.get? kS = some (lstO ks e) := (R.own _ _ tk).2.1
    have hlen := h2.len
    rw [List.length_map] at hlen
    rw [List.length_cons] at hz
    have ea : (List.toArray ks).push v = List.toArray (ks ++ [v]) := by simp
    (refine x1a1 (⟨_, by unfold lstO; refine rL ea ?_; exact get?_update_seq hk (·.push v)⟩ : ∃ c2, (s'.heap.update kS (Obj.mapSeq (·.push v))).get? kS = some (lstO (ks ++ [v]) c2)) fun c2 hc2 => ?_)
    refine ⟨ks, e, hk, by lia, v, F', c2, k1, ?_, _, R.set (tk := s'.toks) (y := .exact (lstO (ks ++ [v]) c2)) tk (Heap.SameBut.update s'.heap kS _) hc2, ?_⟩
    ·refine rG List.map_append ?_; exact (h2.mono k1).append (.cons hv VRs.nil)
    ·have := y.setK (y := .exact (lstO (ks ++ [v]) c2)) (TM.upd_self _ _ _) noCell
     unfold K2 at this
     rw [TM.upd_upd] at this; exact this
  refine wpAny_bind (wpAny_mono (hb u s (fun s'' => ∃ kz F' e', F.le F' ∧ VRs F' ((dn ++ [row]).map fun r => .lst (keyL r cols)) (ks ++ [kz]) ∧ RelE c env m cm F' H (K2 K D kS e1 (ks ++ [kz]) e') s'') call1) (fun q s' hpat => ?_) fun _ _ x => x)
  obtain ⟨eq, kz, F', e', k1, h5, r'⟩ := hpat
  subst eq
  show wpAny (model P c.w) A (forIn us' PUnit.unit body) _ E s'
  refine wpAny_mono (keys_fold hb rest us' (dn ++ [row]) _ e' F' s' (h4.mono k1) h5 (hf.mono k1) r' (by (refine rG List.length_append ?_; refine rG List.length_singleton ?_); rw [List.length_cons] at hz; lia) fun row' hr => hc row' (.tail _ hr)) (fun _ s'' hq => x3a3 hq fun F2 ks2 e2 k2 h6 r2 => ⟨F2, ks2, e2, k1.trans k2, by simpa using h6, r2⟩) fun _ _ x => x
end
end Mine
namespace Mine
open Builtin.Str
noncomputable def SortedOf (cols : List Str) (rows out : List (List Wt)) : Prop := out.Perm rows ∧ out.Pairwise fun a b => rank a cols ≤ rank b cols
section
variable {c : Cx} {A : Around} {env : Env} {m cm : LM} {H K : TM}
theorem K2.kS {D kS : Addr} {e1 e : Nat} {ks : List Value} : K2 K D kS e1 ks e kS = some (.exact (lstO ks e)) := TM.upd_self _ _ _
theorem K2.D {D kS : Addr} (h : D ≠ kS) {e1 e : Nat} {ks : List Value} : K2 K D kS e1 ks e D = some (.exact (lstO [] e1)) := by
 unfold K2; (refine rG (TM.upd_ne h) ?_; refine rG (TM.upd_self ..) ?_; rfl)
theorem sort_tail {D kS : Addr} {e1 e : Nat} {ks out : List Value} {outR : List (List Wt)} {st : SortSt} {F : FM} {s : Shared} {P' : PySem.Fin → Shared → Prop} {E : Value → Shared → Prop} (r : RelE c env m cm F H (K2 K D kS e1 ks e) s) (hDk : D ≠ kS) (hKD : K D = none) (hKk : K kS = none)
  (hout : (arrOf st).map (·.2) = List.toArray out) (hz : out.length < 64) (hkz : ks.length < 64) (hf : failedOf st = none) (ho : VRs F (rowsMV outR) out)
  (h : ∀ s', RelE c env m cm F (H.upd D (.plist (rowsMV outR))) K s' → P' (.done (.ret .none)) s') : wpAny (model P c.w) A (ksk_tail D false e1 (.ref kS) st) P' E s := by
 obtain ⟨T, R, y⟩ := r
 have tk : T kS = some (.exact (lstO ks e)) := y.kT _ _ K2.kS
 have tD : T D = some (.exact (lstO [] e1)) := y.kT _ _ (K2.D hDk)
 have gk : s.heap.get? kS = some (lstO ks e) := (R.own _ _ tk).2.1
 have s1 := Heap.SameBut.update s.heap kS (Obj.mapSeq fun _ => (#[] : Array Value))
 refine x1a1 (⟨_, get?_update_seq gk fun _ => #[]⟩ : ∃ ck, (s.heap.update kS (Obj.mapSeq fun _ => (#[] : Array Value))).get? kS = some (lstO [] ck)) fun ck hck => ?_
 have R1 := R.set (tk := s.toks) (y := .exact (lstO [] ck)) tk s1 hck
 have y1 := y.setK (y := .exact (lstO [] ck)) K2.kS noCell
 have tD1 : (T.upd kS (.exact (lstO [] ck))) D = some (.exact (lstO [] e1)) := by refine rG (TM.upd_ne hDk) ?_; exact tD
 have gD : (s.heap.update kS (Obj.mapSeq fun _ => (#[] : Array Value))).get? D = some (lstO [] e1) := (R1.own _ _ tD1).2.1
 have s2 := Heap.SameBut.update (s.heap.update kS (Obj.mapSeq fun _ => (#[] : Array Value))) D (Obj.mapSeq fun _ => List.toArray out)
 refine x1a1 (⟨_, get?_update_seq gD fun _ => List.toArray out⟩ : ∃ c2, ((s.heap.update kS (Obj.mapSeq fun _ => (#[] : Array Value))).update D (Obj.mapSeq fun _ => List.toArray out)).get? D = some (lstO out c2)) fun c2 hc2 => ?_
 have R2 := R1.set (tk := s.toks) (y := .plist (rowsMV outR)) tD1 s2 ⟨List.toArray out, ⟨c2, hc2⟩, by simpa using ho⟩
 have y2 := y1.setK (a := D) (x := .exact (lstO [] e1)) (y := .plist (rowsMV outR)) (by unfold K2; (refine rG (TM.upd_ne hDk) ?_; refine rG (TM.upd_ne hDk) ?_; refine rG (TM.upd_self ..) ?_; rfl)) noCell
 unfold ksk_tail
 try dsimp only
 refine rG hout ?_
 refine wpAny_bind (listUpdate_at gk rfl ?_ (by (refine rG List.size_toArray ?_; refine rG sizeLine_eq ?_); lia) (Nat.zero_le _))
 refine wpAny_bind (wpAny_letGo ?_)
 refine wpAny_bind (seqEpoch_at gD rfl ?_)
 refine wpAny_bind (listUpdate_at gD rfl ?_ (Nat.zero_le _) (Nat.le_trans (Nat.le_of_eq (by simp)) (show out.length ≤ _ by refine rG sizeLine_eq ?_; lia)))
 refine rG hf ?_
 simp only [bne_self_eq_false, Bool.false_eq_true, if_false]
 refine wpAny_pure (h _ ⟨_, R2, ?_⟩)
 have e : ((K2 K D kS e1 ks e).upd kS (.exact (lstO [] ck))).upd D (.plist (rowsMV outR)) = (K.upd D (.plist (rowsMV outR))).upd kS (.exact (lstO [] ck)) := by
  funext b
  simp only [K2, TM.upd]
  by_cases h1 : b = D
  ·(refine rG (if_pos h1) ?_; refine rG (if_neg (by rw [h1]; exact hDk)) ?_; refine rG (if_pos h1) ?_; rfl)
  ·refine rG (if_neg h1) ?_
   by_cases h2 : b = kS
   ·(refine rG (if_pos h2) ?_; refine rG (if_pos h2) ?_; rfl)
   ·(refine rG (if_neg h2) ?_; refine rG (if_neg h2) ?_; refine rG (if_neg h2) ?_; refine rG (if_neg h1) ?_; refine rG (if_neg h1) ?_; rfl)
 rw [e] at y2
 exact (y2.lessK (by refine rG (TM.upd_ne (Ne.symm hDk)) ?_; exact hKk) noCell).claim hKD (fun v e => by injection e)
theorem VRs.pick {F : FM} {l : List MV} {vs : List Value} (h : VRs F l vs) : ∀ (p : List Nat), (∀ i ∈ p, i < l.length) → VRs F (p.map fun i => l.getD i .none) (p.map fun i => vs.getD i Value.none)
 | [] => fun _ => VRs.nil
 | i :: p => by
  intro hp
  have hi := hp i (.head _)
  refine x1a2 (VRs.getAt (vs := vs.toArray) (by simpa using h) (List.getElem?_eq_getElem hi)) fun u h1 h2 => ?_
  have e1 : l.getD i .none = l[i] := by simp [hi]
  have e2 : vs.getD i Value.none = u := by
   have : vs[i]? = some u := by simpa using h1
   simp [List.getD_eq_getElem?_getD, this]
  (refine rG List.map_cons ?_; refine rG List.map_cons ?_; refine rG e1 ?_; refine rG e2 ?_)
  exact .cons h2 (VRs.pick h p fun j hj => hp j (.tail _ hj))
end
end Mine
namespace Mine
open Builtin.Str
section
variable {c : Cx} {A : Around} {env : Env} {m cm : LM} {H K : TM}
theorem range_getD {α : Type} (l : List α) (d : α) : (List.range l.length).map (fun i => l.getD i d) = l := by
 apply List.ext_getElem
 ·simp
 ·intro i h1 h2
  simp [h2]
theorem sorted_of {cols : List Str} {rows : List (List Wt)} {p : Array Nat} (hp : Ord rows.length p) (hu : Up (fun i => rank (rows.getD i []) cols) p rows.length) : SortedOf cols rows (p.toList.map fun i => rows.getD i []) := by
 refine ⟨?_, ?_⟩
 ·have := hp.perm.map fun i => rows.getD i []
  rw [range_getD] at this
  exact this
 ·rw [List.pairwise_map, List.pairwise_iff_getElem]
  intro i j hi hj hij
  have hs := hp.size
  rw [← Array.length_toList] at hs
  have e1 : at_ p i = p.toList[i] := by
   have h1 := at_get (p := p) (i := i) (by refine rG hp.size ?_; lia)
   rw [← Array.getElem?_toList, List.getElem?_eq_getElem hi] at h1
   exact (Option.some.inj h1).symm
  have e2 : at_ p j = p.toList[j] := by
   have h1 := at_get (p := p) (i := j) (by refine rG hp.size ?_; lia)
   rw [← Array.getElem?_toList, List.getElem?_eq_getElem hj] at h1
   exact (Option.some.inj h1).symm
  have := hu i j hij (by lia)
  rw [e1, e2] at this
  exact this
theorem rank_inj {cols : List Str} {rows : List (List Wt)} (h : (rows.map fun r => rank r cols).Nodup) : Inj rows.length (fun i => rank (rows.getD i []) cols) := fun i j hi hj e => by
 have h1 : i < (rows.map fun r => rank r cols).length := by refine rG (List.length_map ..) ?_; exact hi
 have h2 : j < (rows.map fun r => rank r cols).length := by refine rG (List.length_map ..) ?_; exact hj
 refine (List.getElem_inj (h₀ := h1) (h₁ := h2) h).mp ?_
 (refine rG (List.getElem_map ..) ?_; refine rG (List.getElem_map ..) ?_)
 simpa [hi, hj] using e
theorem sort_end {n : Nat} {cols : List Str} {D kS : Addr} {e1 e : Nat} {ks us : List Value} {rows : List (List Wt)} {F : FM} {s : Shared} {P' : PySem.Fin → Shared → Prop} {E : Value → Shared → Prop} (r : RelE c env m cm F H (K2 K D kS e1 ks e) s) (hDk : D ≠ kS) (hKD : K D = none) (hKk : K kS = none)
  (hn : N12 n) (hrows : ∀ r ∈ rows, RowOk n r) (hc : ColsOk n cols) (h64 : rows.length < 60) (hnd : (rows.map fun r => rank r cols).Nodup) (hA : A.units + 70 < cLine)
  (hu : VRs F (rowsMV rows) us) (hk : VRs F (rows.map fun r => .lst (keyL r cols)) ks)
  (h : ∀ out s', SortedOf cols rows out → RelE c env m cm F (H.upd D (.plist (rowsMV out))) K s' → P' (.done (.ret .none)) s') : wpAny (model P c.w) A (ksk_end D false us.toArray e1 (.ref kS) (List.toArray ks)) P' E s := by
 have l1 : us.length = rows.length := by have := hu.len; rw [rowsMV, List.length_map] at this; exact this
 have l2 : ks.length = rows.length := by have := hk.len; rw [List.length_map] at this; exact this
 unfold ksk_end
 try dsimp only
 simp only [Bool.false_eq_true, if_false]
 by_cases h2 : us.toArray.size < 2
 ·(refine rG (if_pos h2) ?_; refine rG (if_pos h2) ?_)
  refine wpAny_bind (wpAny_pure ?_)
  refine rG (StateT.run_pure ..) ?_
  refine wpAny_bind (wpAny_pure ?_)
  try dsimp only
  refine sort_tail (out := us) (outR := rows) r hDk hKD hKk ?_ (by lia) (by lia) rfl hu fun s' r' => h rows s' ⟨List.Perm.refl _, ?_⟩ r'
  ·show ((List.toArray ks).zip us.toArray).map (·.2) = List.toArray us
   apply Array.toList_inj.mp
   (refine rG Array.toList_map ?_; refine rG (ksk_zip ..) ?_)
   show (ks.zip us).map Prod.snd = us
   rw [List.map_snd_zip]; lia
  ·rw [List.size_toArray] at h2
   match rows, l1 with
   | [], _ => exact List.Pairwise.nil
   | [x], _ => exact List.pairwise_singleton _ _
   | _ :: _ :: _, l1 => simp at l1; lia
 ·(refine rG (if_neg h2) ?_; refine rG (if_neg h2) ?_)
  rw [List.size_toArray] at h2
  obtain ⟨T, R, y⟩ := id r
  have hkl : ∀ (i : Nat), i < rows.length → VR F (.lst (keyL (rows.getD i []) cols)) (ks.getD i Value.none) := fun i hi => by
   have e1 : (rows.map fun r => MV.lst (keyL r cols))[i]? = some (.lst (keyL (rows.getD i []) cols)) := by simp [hi]
   refine x1a2 (VRs.getAt (vs := ks.toArray) (by simpa using hk) e1) fun u h1 h2 => ?_
   have e2 : ks.getD i Value.none = u := by
    have : ks[i]? = some u := by simpa using h1
    simp [List.getD_eq_getElem?_getD, this]
   refine rG e2 ?_; exact h2
  have hmem : ∀ (i : Nat), i < rows.length → RowOk n (rows.getD i []) := fun i hi => by
   have : rows.getD i [] = rows[i] := by simp [hi]
   refine rG this ?_; exact hrows _ (List.getElem_mem hi)
  have kinds : ∀ v ∈ ks, Looks (model P c.w) s.heap (typeOf v) (.type "list") := fun v hv => by
   obtain ⟨i, hi, e⟩ := List.getElem_of_mem hv
   have hw := hkl i (by lia)
   have e2 : ks.getD i Value.none = v := by simp [hi, e]
   rw [e2] at hw
   (refine x5a3 (lst_parts R hw) fun t d n sl vs e95 _ h3 => ?_; subst e95)
   exact (Looks.ld h3).andThen .now
  refine wpAny_bind (kas_kind (T := .type "list") (by lia) kinds (by decide) (by decide) ?_)
  have run := kat_run (prog := P) (w := c.w) (A := A) (E := E) (s := s) (κ := oneType') (ks := ks) (vs := us) (Q := fun st' s' => s' = s ∧ ∃ p : Array Nat, arrOf st' = p.map (kas_item (ks.toArray.zip us.toArray)) ∧ failedOf st' = none ∧ Ord rows.length p ∧ Up (fun i => rank (rows.getD i []) cols) p rows.length)
   (G := fun p s' => s' = s ∧ Ord rows.length p ∧ Up (fun i => rank (rows.getD i []) cols) p rows.length) (by lia) (by lia) (by lia) (fun p st' s' a1 a2 a3 hq => x0a3 hq fun a4 a5 a6 => ⟨a4, p, a2, a3, a5, a6⟩) (by
    refine rG l1 ?_
    refine pw_wp (n := rows.length) (key := fun i => rank (rows.getD i []) cols) (fun i j C hi hj hC => ?_) (fun p hp => ⟨rfl, hp.1, hp.2⟩) _ (sort_pw (rank_inj hnd) (by lia))
    exact key_lt R hn (hmem i hi) (hmem j hj) hc (hkl i hi) (hkl j hj) hA hC)
  refine wpAny_bind (wpAny_mono run ?_ fun _ _ x => x)
  rintro ⟨⟨⟩, st'⟩ s' ⟨e0, p, har, hf, hp, hup⟩
  subst e0
  try dsimp only
  have hpl : ∀ i ∈ p.toList, i < rows.length := fun i hi => List.mem_range.mp (hp.perm.mem_iff.mp hi)
  refine sort_tail (out := p.toList.map fun i => us.getD i Value.none) (outR := p.toList.map fun i => rows.getD i []) r hDk hKD hKk (kat_snds (by lia) har) (by (refine rG (List.length_map ..) ?_; refine rG Array.length_toList ?_; refine rG hp.size ?_); lia) (by lia) hf ?_ fun s' r' => h _ s' (sorted_of hp hup) r'
  have pk := VRs.pick hu p.toList fun i hi => by (rewrite [rowsMV]; refine rG (List.length_map ..) ?_); exact hpl i hi
  have e : (p.toList.map fun i => (rowsMV rows).getD i .none) = rowsMV (p.toList.map fun i => rows.getD i []) := by
   (rewrite [rowsMV]; rewrite [rowsMV]; refine rG List.map_map ?_)
   refine List.map_congr_left fun i hi => ?_
   have := hpl i hi
   simp [this]
  rw [e] at pk; exact pk
end
end Mine
namespace Mine
open Builtin.Str
section
variable {c : Cx} {A : Around} {env : Env} {m cm : LM} {H K : TM}
theorem sort_eval {n : Nat} {cols : List Str} {rows : List (List Wt)} {f : MV} {qf lA : Addr} {vs : List Value} {F : FM} {s : Shared} {G : Value → Shared → Prop} (r : RelE c env m cm F H K s) (hn : N12 n) (hrows : ∀ r ∈ rows, RowOk n r) (hc : ColsOk n cols) (h64 : rows.length < 60)
  (hnd : (rows.map fun r => rank r cols).Nodup) (hA : A.units + 80 < cLine) (fl : FzL F lA vs.toArray) (hv : VRs F (rowsMV rows) vs) (hf : VR F f (.ref qf))
  (hcall : ∀ row ∈ rows, CallW c A.in1.in1 f [.lst (row.map Wt.mv)] H (fun r G => G = H ∧ r = .lst (keyL row cols)))
  (hG : ∀ F' D out s', F.le F' → H D = none → SortedOf cols rows out → RelE c env m cm F' (H.upd D (.plist (rowsMV out))) K s' → G (.ref D) s') :
  wpAny (model P c.w) A (call (.builtin "sorted") [.ref lA] [(Str.ofString "key", .ref qf)]) G NoE s := by
 obtain ⟨T, R, y⟩ := r
 refine x2a3 fl fun ol n0 g1 g2 g3 => ?_
 have hl : s.heap.IsList lA vs.toArray := ⟨ol, (R.fz _ _ g1).1, g2, n0, g3⟩
 have hvl : vs.length = rows.length := by have := hv.len; rw [rowsMV, List.length_map] at this; exact this
 refine call_function_entry_kw kind_sorted plain_sorted entry_sorted (ksk_s1 _ _) ?_
 unfold Builtin.«sorted»
 refine wpAny_bind (m := checkCount "sorted" 1 1 _) (wpAny_pure ?_)
 refine wpAny_bind (collect_list hl ?_ (by refine rG sizeLine_eq ?_; lia))
 refine wpAny_bind (wpAny_newList ?_ (by refine rG sizeLine_eq ?_; lia))
 have hsz : ((s.heap.push (seqObj "list" #[] 0)).update s.heap.objs.size (Obj.mapSeq (· ++ vs.toArray))).objs.size = s.heap.objs.size + 1 := by
  (refine rG (Heap.size_update ..) ?_; refine rG (Heap.size_push ..) ?_; rfl)
 have hoL : (((s.heap.push (seqObj "list" #[] 0)).update s.heap.objs.size (Obj.mapSeq (· ++ vs.toArray))).push (seqObj "list" vs.toArray 0)).get? (s.heap.objs.size + 1) = some (seqObj "list" vs.toArray 0) := by
  refine rL hsz ?_; exact Heap.get?_push_size _ rfl
 have keep : ∀ b o, s.heap.get? b = some o → (((s.heap.push (seqObj "list" #[] 0)).update s.heap.objs.size (Obj.mapSeq (· ++ vs.toArray))).push (seqObj "list" vs.toArray 0)).get? b = some o := fun b o q => by
  have hlt : b < s.heap.objs.size := Heap.lt_size q
  (refine rG (Heap.get?_push_ne _ _ _ (by rw [hsz]; exact Nat.ne_of_lt (Nat.lt_succ_of_lt hlt))) ?_; refine rG (Heap.get?_update_ne _ _ _ _ (Nat.ne_of_lt hlt)) ?_; refine rG (Heap.get?_push_ne _ _ _ (Nat.ne_of_lt hlt)) ?_)
  exact q
 show wpAny _ _ _ _ _ { s with heap := ((s.heap.push (seqObj "list" #[] 0)).update s.heap.objs.size (Obj.mapSeq (· ++ vs.toArray))).push (seqObj "list" vs.toArray 0) }
 refine rG hsz ?_
 have lt : ∀ b : Addr, s.heap.objs.size ≤ b → T b = none := fun b hb => by
  cases e : T b with
  | none => rfl
  | some x =>
   obtain ⟨o, ho⟩ := (R.own _ _ e).2.1.here
   exact absurd (Heap.lt_size ho) (Nat.not_lt.mpr hb)
 have ltF : ∀ b : Addr, s.heap.objs.size ≤ b → F b = none := fun b hb => by
  cases e : F b with
  | none => rfl
  | some x => exact absurd (Heap.lt_size (R.fz _ _ e).1) (Nat.not_lt.mpr hb)
 have ltK : ∀ b : Addr, s.heap.objs.size ≤ b → K b = none := fun b hb => by
  cases e : K b with
  | none => rfl
  | some x => have := y.kT _ _ e; rw [lt b hb] at this; cases this
 have ltH : ∀ b : Addr, s.heap.objs.size ≤ b → H b = none := fun b hb => by
  cases e : H b with
  | none => rfl
  | some x => have := y.hT _ _ e; rw [lt b hb] at this; cases this
 generalize hDd : s.heap.objs.size + 1 = D at *
 have hD : s.heap.objs.size ≤ D := by refine rL hDd ?_; exact Nat.le_succ _
 generalize hh3 : ((s.heap.push (seqObj "list" #[] 0)).update s.heap.objs.size (Obj.mapSeq (· ++ vs.toArray))).push (seqObj "list" vs.toArray 0) = h3 at *
 have R1 := R.ext (h' := h3) (tk := s.toks) keep
 have R2 := R1.own_new (a := D) (x := .exact (lstO vs 0)) hoL (ltF D hD) (Nat.le_trans R.sz hD)
 have y2 := y.newK (a := D) (y := .exact (lstO vs 0)) (lt D hD)
 refine wpAny_bind (wpAny_holding (wpAny_call_entry_kw slot_list_sort ⟨_, hoL, rfl⟩ entry_list_sort ?body (ksk_l1 _ _)))
 case body =>
  show wpAny (model P c.w) A.in1.in1 (Builtin.«list.sort» ⟨[.ref D], [(Str.ofString "key", .ref qf)]⟩) _ _ _
  refine rG (ksk_t1 ..) ?_
  have s1 := Heap.SameBut.update h3 D (Obj.mapSeq fun _ => (#[] : Array Value))
  obtain ⟨e1, ho1⟩ : ∃ e1, (h3.update D (Obj.mapSeq fun _ => (#[] : Array Value))).get? D = some (lstO [] e1) := ⟨_, get?_update_seq hoL fun _ => #[]⟩
  have R3 := R2.set (tk := s.toks) (y := .exact (lstO [] e1)) (TM.upd_self _ _ _) s1 ho1
  have y3 := y2.setK (y := .exact (lstO [] e1)) (TM.upd_self _ _ _) noCell
  rw [TM.upd_upd, TM.upd_upd] at y3
  rw [TM.upd_upd] at R3
  generalize hh4 : h3.update D (Obj.mapSeq fun _ => (#[] : Array Value)) = h4 at *
  have R4 := R3.ext (h' := h4.push (seqObj "tuple" vs.toArray 0)) (tk := s.toks) fun b o e => Heap.get?_push_of_some _ e
  generalize hh5 : h4.push (seqObj "tuple" vs.toArray 0) = h5 at *
  have hlt4 : D < h4.objs.size := Heap.lt_size ho1
  have hsz5 : h5.objs.size = h4.objs.size + 1 := by refine rL hh5 ?_; exact Heap.size_push ..
  have hDk : D ≠ h5.objs.size := by refine rG hsz5 ?_; exact Nat.ne_of_lt (Nat.lt_succ_of_lt hlt4)
  have hkS : s.heap.objs.size ≤ h5.objs.size := by refine rG hsz5 ?_; exact Nat.le_trans hD (Nat.le_of_lt (Nat.lt_succ_of_lt hlt4))
  have R5 := R4.pushO (o := lstO [] 0) (x := .exact (lstO [] 0)) (Heap.get?_push_size _ rfl)
  have y5 := y3.newK (a := h5.objs.size) (y := .exact (lstO [] 0)) (by refine rG (TM.upd_ne (Ne.symm hDk)) ?_; exact lt _ hkS)
  unfold ksk_tree
  refine wpAny_bind (listItems_at hoL rfl ?_)
  refine wpAny_bind (listUpdate_at hoL rfl ?_ (by (refine rG List.size_toArray ?_; refine rG sizeLine_eq ?_); lia) (Nat.zero_le _))
  show wpAny _ _ _ _ _ { s with heap := h3.update D (Obj.mapSeq fun _ => (#[] : Array Value)) }
  refine rG hh4 ?_
  refine wpAny_bind (seqEpoch_at ho1 rfl ?_)
  refine wpAny_bind (wpAny_newTuple ?_ (by show vs.length ≤ _; refine rG sizeLine_eq ?_; lia))
  refine wpAny_bind (wpAny_newList ?_ (Nat.zero_le _))
  refine wpAny_holding ?_
  show wpAny _ _ _ _ _ { s with heap := (h4.push (seqObj "tuple" vs.toArray 0)).push (seqObj "list" #[] 0) }
  dsimp only
  refine rG hh5 ?_
  unfold ksk_rest
  refine wpAny_bind (wpAny_rule ?_)
  first
   | refine rG (List.forIn_toArray ..) ?_
   | (rw [← Array.forIn_toList]; simp only [List.toList_toArray])
   | rw [← Array.forIn_toList]
  refine wpAny_bind (wpAny_mono (keys_fold (c := c) (A := A.in1.in1) (env := env) (m := m) (cm := cm) (H := H) (K := K) (cols := cols) (f := f) (fv := .ref qf) (D := D) (kS := h5.objs.size) (e1 := e1) (fun x s C hx => ?_) rows vs [] [] 0 F _ hv VRs.nil hf ⟨_, R5, y5⟩ (by simp; lia) hcall) (fun _ s' hq => x3a3 hq fun F' ks e' k1 hks r' => ?_) fun _ _ x => x)
  ·refine wpAny_bind (wpAny_attempt (wpAny_mono hx (fun k s'' hpat => ?_) fun _ _ hF => hF.elim))
   obtain ⟨ks, e, hk, hkl, hC⟩ := hpat
   try dsimp only
   refine wpAny_bind (listUpdate_at hk rfl ?_ (by (refine rG List.size_toArray ?_; refine rG sizeLine_eq ?_); lia) (Nat.le_trans (Nat.le_of_eq (Array.size_push ..)) (by (refine rG List.size_toArray ?_; refine rG sizeLine_eq ?_); lia)))
   exact wpAny_pure ⟨rfl, hC⟩
  ·try dsimp only
   obtain ⟨T', R', y'⟩ := id r'
   have hk : s'.heap.get? h5.objs.size = some (lstO ks e') := (R'.own _ _ (y'.kT _ _ K2.kS)).2.1
   refine wpAny_bind (listItems_at hk rfl ?_)
   exact sort_end r' hDk (ltK D hD) (ltK _ hkS) hn hrows hc h64 hnd (by show A.units + 1 + 1 + 70 < cLine; lia) (hv.mono k1) (by simpa using hks) fun out s'' so r'' => ⟨_, rfl, wpAny_pure ⟨_, rfl, hG F' D out s'' k1 (ltH D hD) so r''⟩⟩
end
end Mine
namespace Mine
open Builtin.Str
theorem Room.in2 {A : Around} {k : Nat} (h : Room A (k + 1)) : Room A.in1.in1 k := ⟨h.1, by have := h.2.1; show A.units + 1 + 1 + 4 * k + 100 < cLine; lia, by have := h.2.2; show A.depth + k < recursionLimit; lia⟩
section
variable {c : Cx} {A : Around} {env : Env} {m cm : LM} {H : TM}
theorem W.sortedK {p pos kp : Pos} {e0 ek : Expr} {Q : MV → LM → LM → TM → Prop} (hA : Rm A)
  (h : W c A env m cm H (spliced (backTo pos (starEach [e0] env))) VL (fun ws m1 cm1 H1 => W c A env m1 cm1 H1 (eval ek env) V (fun f m2 cm2 H2 => ∃ (n : Nat) (cols : List Str) (rows : List (List Wt)) (d : CloD) (ns : List Str) (vs : List MV),
   ws = [.lst (rowsMV rows)] ∧ f = .clo d ns vs ∧ N12 n ∧ (∀ r ∈ rows, RowOk n r) ∧ ColsOk n cols ∧ rows.length < 60 ∧ (rows.map fun r => rank r cols).Nodup ∧
   (∀ row ∈ rows, CallW c A.in1.in1 f [.lst (row.map Wt.mv)] H2 (fun r G => G = H2 ∧ r = .lst (keyL row cols))) ∧ ∀ D out, H2 D = none → SortedOf cols rows out → Q (.raw (.ref D)) m2 cm2 (H2.upd D (.plist (rowsMV out))))))
  (hu : A.units + 80 < cLine) (hname : nameV env m cm "sorted" = some (.raw (.builtin "sorted")) := by kernel_rfl)
  (he : backTo pos (starEach [e0] env) = [(false, eval e0 env)] := by rfl) (hpl : (backTo pos (starEach [e0] env)).any (·.1) = false := by rfl) :
  W c A env m cm H (eval (.Call (.Name "sorted" p) [e0] [⟨some "key", ek, kp⟩] pos) env) V Q := fun F K s r => by
 obtain ⟨T, r0, l⟩ := r
 refine wpAny_Call_Name_kw ((puN_name F hname).then (γ := Unit) (δ := Unit) r0 l fun F1 fv s1 k1 l r1 v1 => ?_)
 simp only [V, VR] at v1
 subst v1
 refine PyProof.Rows.callWith_kw ?_ he hpl
 refine W.wp h ⟨T, r1, l⟩ fun F2 b m2 cm2 H2 vs s2 k2 r2 v2 q2 => ?_
 refine PyProof.Rows.kws_cons (W.wp q2 r2 fun F3 f m3 cm3 H3 fv s3 k3 r3 v3 qq => ?_)
 obtain ⟨n, cols, rows, d, ns, us, e1, e2, hn, hr, hc, h64, hnd, hcall, hq⟩ := qq
 refine PyProof.Rows.kws_nil ?_
 subst e1 e2
 (refine x1a2 (VRs.one v2) fun u e91 w1 => ?_; subst e91)
 (refine x2a3 (FzL.of w1) fun lA vs1 e92 f1 g1 => ?_; subst e92)
 have v3' := v3
 simp only [V, VR] at v3'
 obtain ⟨qf, _, _, _, _, _, _, _, rfl, _⟩ := v3'
 exact sort_eval r3 hn hr hc h64 hnd hu (vs := vs1.toList) (by refine rG Array.toArray_toList ?_; exact f1.mono k3) (g1.mono k3) v3 hcall fun F' D out s' kF hD so r' => ⟨F', _, _, _, _, k1.trans (k2.trans (k3.trans kF)), r', by simp only [V, VR], hq D out hD so⟩
end
end Mine
namespace Mine
noncomputable def srt (cols : List Str) (rows : List (List Wt)) : List (List Wt) := rows.mergeSort fun a b => decide (rank a cols ≤ rank b cols)
theorem srt_ok (cols : List Str) (rows : List (List Wt)) : SortedOf cols rows (srt cols rows) := by
 refine ⟨List.mergeSort_perm _ _, ?_⟩
 have := List.pairwise_mergeSort (le := fun a b => decide (rank a cols ≤ rank b cols)) (fun a b d h1 h2 => by simp at *; lia) (fun a b => by simp; lia) rows
 exact this.imp fun h => by simpa using h
theorem sorted_uniq {cols : List Str} : ∀ {a b : List (List Wt)}, a.Perm b → (a.map fun r => rank r cols).Nodup → a.Pairwise (fun x y => rank x cols ≤ rank y cols) → b.Pairwise (fun x y => rank x cols ≤ rank y cols) → a = b
 | [], b => fun h _ _ _ => (List.nil_perm.mp h).symm ▸ rfl
 | x :: a, [] => fun h _ _ _ => absurd h.length_eq (by simp)
 | x :: a, y :: b => by
  intro h hn h1 h2
  rw [List.map_cons, List.nodup_cons] at hn
  refine x0a2 (List.pairwise_cons.mp h1) fun h3 h4 => ?_
  refine x0a2 (List.pairwise_cons.mp h2) fun h5 h6 => ?_
  have hx : x ∈ y :: b := h.mem_iff.mp (.head _)
  have hy : y ∈ x :: a := h.mem_iff.mpr (.head _)
  have e : x = y := by
   rcases List.mem_cons.mp hx with q | q
   ·exact q
   ·rcases List.mem_cons.mp hy with q' | q'
    ·exact q'.symm
    ·have e1 := h5 x q
     have e2 := h3 y q'
     exact absurd (List.mem_map.mpr ⟨y, q', by lia⟩) hn.1
  subst e
  have hp : a.Perm b := (List.perm_cons x).mp h
  (refine rG (sorted_uniq hp hn.2 h4 h6) ?_; rfl)
theorem SortedOf.eq {cols : List Str} {rows out : List (List Wt)} (h : SortedOf cols rows out) (hn : (rows.map fun r => rank r cols).Nodup) : out = srt cols rows := by
 refine x0a2 (srt_ok cols rows) fun h1 h2 => ?_
 refine sorted_uniq (h.1.trans h1.symm) ?_ h.2 h2
 exact (h.1.map fun r => rank r cols).nodup_iff.mpr hn
namespace Lot
noncomputable def less (l : Lot) (row : List Wt) : List (List Wt) := match l.spot row with
 | some i => l.rows.eraseIdx i
 | none => l.rows
noncomputable def del (l : Lot) (row : List Wt) : Lot := { l with rows := l.less row }
noncomputable def put (l : Lot) (row : List Wt) : Lot := { l with rows := srt l.by_ (l.less row ++ [row]) }
noncomputable def nd (l : Lot) : Prop := (l.rows.map fun r => rank r l.by_).Nodup
theorem less_sub (l : Lot) (row : List Wt) : ∀ r ∈ l.less row, r ∈ l.rows := fun r h => by
 unfold less at h
 split at h
 ·exact List.mem_of_mem_eraseIdx h
 ·exact h
theorem less_len (l : Lot) (row : List Wt) : (l.less row).length ≤ l.rows.length := by
 unfold less
 split
 ·refine rG List.length_eraseIdx ?_; split <;> lia
 ·exact Nat.le_refl _
theorem less_nd {l : Lot} (h : l.nd) (row : List Wt) : ((l.less row).map fun r => rank r l.by_).Nodup := by
 unfold less
 split
 ·exact h.sublist ((List.eraseIdx_sublist _ _).map _)
 ·exact h
set_option tactic.hygienic true in
theorem less_not {l : Lot} (h : l.nd) (row : List Wt) : ∀ r ∈ l.less row, rank r l.by_ ≠ rank row l.by_ := fun r hr => by
 unfold less at hr
 split at hr
 ·rename_i i e
  rw [spot, List.findIdx?_eq_some_iff_getElem] at e
  obtain ⟨hi, h1, _⟩ := e
  have h1 := of_decide_eq_true h1
  obtain ⟨j, hj, e⟩ := List.getElem_of_mem hr
  intro e2
  rw [List.getElem_eraseIdx] at e
  rw [List.length_eraseIdx, if_pos hi] at hj
  split at e
  ·rename_i hlt
   have := (List.getElem_inj (xs := l.rows.map fun r => rank r l.by_) (h₀ := by refine rG (List.length_map ..) ?_; lia) (h₁ := by refine rG (List.length_map ..) ?_; lia) h (i := j) (j := i)).mp (by (refine rG (List.getElem_map ..) ?_; refine rG (List.getElem_map ..) ?_; refine rG e ?_; refine rG e2 ?_; refine rG h1 ?_; rfl))
   lia
  ·have := (List.getElem_inj (xs := l.rows.map fun r => rank r l.by_) (h₀ := by refine rG (List.length_map ..) ?_; lia) (h₁ := by refine rG (List.length_map ..) ?_; lia) h (i := j + 1) (j := i)).mp (by (refine rG (List.getElem_map ..) ?_; refine rG (List.getElem_map ..) ?_; refine rG e ?_; refine rG e2 ?_; refine rG h1 ?_; rfl))
   lia
 ·rename_i e
  rw [spot, List.findIdx?_eq_none_iff] at e
  have := e r hr
  simpa using this
theorem add_nd {l : Lot} (h : l.nd) (row : List Wt) : ((l.less row ++ [row]).map fun r => rank r l.by_).Nodup := by
 (refine rG List.map_append ?_; rewrite [List.nodup_append])
 refine ⟨less_nd h row, by simp, fun x hx y hy e => ?_⟩
 simp at hy
 refine x1a2 (List.mem_map.mp hx) fun r hr e2 => ?_
 exact less_not h row r hr (by (refine rG e2 ?_; refine rG e ?_; refine rG hy ?_; rfl))
end Lot
end Mine
end
section
set_option backward.match.sparseCases false
open PySem PySem.W PySem.W.X PyProof.Rows PySem.Calls
open Builtin Builtin.ObjectAttr
namespace Mine
noncomputable def fdOkE (fd : FuncData) : Bool := (match fd.body with | .expr _ => true | _ => false) && fd.globals == mainGlobals && fd.builtins == builtinsNs && !fd.scope.isCoroutine && !fd.scope.isGenerator && fd.scope.kind == .function &&
 (fd.scope.names.all fun x => x.2 != .cell || fd.scope.names.lookup x.1 == some .cell)
noncomputable def bxOf (fd : FuncData) : Expr := match fd.body with
 | .expr b => b
 | _ => .Constant .none 0 ⟨0, 0, 0, 0⟩
section
variable {c : Cx} {A : Around}
theorem call_bodyE {fa : Addr} {fd : FuncData} {bargs : List MV} {names : List Str} {H : TM} {cl : LM} {Q : MV → TM → Prop} {F : FM} {K T : TM} {s : Shared} {vals : List Value} {o : Obj}
  (e1 : s.heap.get? fa = some o) (e2 : o.data = .func fd) (e3 : s.heap.CodeRec fd.code fd.qualname) (hroom : A.depth < recursionLimit) (hok : fdOkE fd = true)
  (hcl : ∀ n a, (n, a) ∈ fd.closure → ∃ v, cl n = some (.fz v) ∧ ∃ o u, F a = some o ∧ o.data = .cell (some u) ∧ VR F v u) (hcl0 : ∀ n, fd.scope.names.lookup n = some .cell → cl n = none)
  (hbind : ∃ bvals, BindsTo s fd ⟨vals, []⟩ (names.zip bvals) ∧ VRs F bargs bvals)
  (r : Rel c F T s) (hT : H.le T) (kT : K.le T) (hd : H.dis K)
  (h : ∀ L, ∃ m1 cm1, bindAll (callEnvM fd L fa) names bargs LM.nil cl = some (m1, cm1) ∧
   W c (A.deeper (callEnvM fd L fa)) (callEnvM fd L fa) m1 cm1 H (eval (bxOf fd) (callEnvM fd L fa)) V (fun v _ _ H' => Q v H')) :
  codeAny (model P c.w) A (.call (.ref fa) ⟨vals, []⟩) (CallR c F K Q) s := by
 unfold fdOkE at hok
 simp only [Bool.and_eq_true, beq_iff_eq, Bool.not_eq_true'] at hok
 obtain ⟨⟨⟨⟨⟨⟨hbody', hgl⟩, hbl⟩, hco⟩, hgen⟩, hk⟩, hcells⟩ := hok
 have hbody : fd.body = .expr (bxOf fd) := by
  unfold bxOf
  split at hbody'
  ·rename_i q; (refine rG q ?_; rfl)
  ·injection hbody'
 refine x1a2 hbind fun bvals hb1 hb2 => ?_
 refine kla_callFunE hroom e1 e2 hco hgen hbody e3 (hb1 _ _ _ _ ?_)
 refine x2a2 (h s.heap.objs.size) fun m1 cm1 hba hw => ?_
 simp only [newFunctionEnv, Option.isSome_none, Bool.false_eq_true, if_false]
 refine wpAny_bind (wpAny_alloc ?_)
 refine wpAny_bind (wpAny_layCells _ (fun name kind cells => by cases hkc : kind == NameKind.cell <;> simp [hkc]) _ _ _ _ ?_)
 have lay := lay_new (fa := fa) hk hgl hbl hcells hcl hcl0 r hT kT hd
 have hz : ({ s with heap := s.heap.push { cls := .type "frame", data := .dict #[] } } : Shared).heap.objs.size = s.heap.objs.size + 1 := Heap.size_push ..
 refine rG hz ?_
 refine wpAny_bind (binds_ok (env := callEnvM fd s.heap.objs.size fa) (fun _ _ _ => rfl) names bargs bvals LM.nil cl _ hba hb2 lay fun s' r' => wpAny_pure ⟨?_, kla_codeExpr ?_⟩)
 ·obtain ⟨T3, r3, _⟩ := r'
  exact r3.nolimit
 ·exact W.wp hw r' fun F' b m' cm' H' u s'' k1 rr v1 q1 => by
   obtain ⟨T', r4, l4⟩ := rr
   exact ⟨F', T', _, b, k1, r4, l4.hT, l4.kT, l4.dis, v1, q1⟩
theorem CallW.ce {d : CloD} {ns : List Str} {vs args bargs : List MV} {names : List Str} {H : TM} {Q : MV → TM → Prop} (hroom : A.depth < recursionLimit)
  (hbind : ∀ cl doc pm code ct, Binds c (d.fd cl doc pm code ct) names args bargs)
  (h : ∀ L fa as doc pm code ct, as.length = ns.length → W c (A.deeper (eC d ns as doc pm code ct L fa)) (eC d ns as doc pm code ct L fa) (cM d ns as doc pm code ct L fa vs names bargs) (cC d ns as doc pm code ct L fa vs names bargs) H
   (eval (bxOf (d.fd (ns.zip as) doc pm code ct)) (eC d ns as doc pm code ct L fa)) V (fun v _ _ H' => Q v H'))
  (hok : ∀ cl doc pm code ct, fdOkE (d.fd cl doc pm code ct) = true := by intro _ _ _ _ _; kernel_rfl) (hns : ns.Nodup := by decide +kernel) (hnc : (d.scope.names.all fun x => x.2 != .cell) = true := by kernel_rfl)
  (hba : ∀ L fa as doc pm code ct, (bindAll (eC d ns as doc pm code ct L fa) names bargs LM.nil (cloL ns vs)).isSome = true := by intro _ _ _ _ _ _ _; kernel_rfl) :
  CallW c A (.clo d ns vs) args H Q := fun F K T s fv vals r hT kT hd hf hv => by
 simp only [VR] at hf
 obtain ⟨fa, o, cl, us, doc, pm, code, ct, rfl, e2, r1, r2, ⟨cc, oc, vs', t, e3, e4, e5, e6⟩, r4, r5⟩ := hf
 refine x1a2 (cells_names r4) fun as h1 h2 => ?_
 subst h2
 refine call_bodyE (cl := cloL ns vs) (r.fz _ _ e2).1 r2 ⟨cc, oc, vs', t, e3, (r.fz _ _ e4).1, e5, e6⟩ hroom (hok _ _ _ _ _) (cells_clo r4 r5 hns) (fun n q => ?_) (hbind _ _ _ _ _ F T s vals r hv) r hT kT hd fun L => ?_
 ·exfalso
  have q' : d.scope.names.lookup n = some .cell := q
  have := List.all_eq_true.mp hnc _ (mem_of_lookup q')
  simp at this
 ·obtain ⟨⟨m1, cm1⟩, e⟩ := Option.isSome_iff_exists.mp (hba L fa as doc pm code ct)
  refine i2a2 m1 cm1 e ?_
  have := h L fa as doc pm code ct h1
  unfold cM cC at this
  rw [e] at this
  exact this
end
end Mine
namespace Mine
theorem W.lamN {c : Cx} {A : Around} {env : Env} {m cm : LM} {H : TM} {params : Arguments} {body : Expr} {scope : Scope} {pos : Pos} {Q : MV → LM → LM → TM → Prop} (Pl : Addr) (d : CloD) (ns : List Str) (vs : List MV) (q : Q (.clo d ns vs) m cm H)
  (hns : (closL scope env).map (·.1) = ns := by kernel_rfl) (hP : Pl ∈ growT := by decide) (hcode : env.code = .ref (growCd Pl) := by rfl)
  (hd : d = { name := "<lambda>", qual := env.qual ++ "<lambda>", params := params, body := .expr body, scope := scope } := by kernel_rfl) (hqn : d.qual = qn pos.line pos.col := by kernel_rfl)
  (hdef : defaultsOf params env = ([], []) := by rfl)
  (hcl : (closC env scope.names []).isSome = true := by kernel_rfl) (hvs : (closL scope env).map (fun x => cm x.1) = vs.map (fun v => some (.fz v)) := by kernel_rfl) :
  W c A env m cm H (eval (.Lambda params body scope pos) env) V Q := W.lam Pl d vs hP hcode hd hqn hdef hcl hvs (by refine rG hns ?_; exact q)
noncomputable def kwLam : Stmt → Expr
 | .If _ (.Assign _ (.Call _ _ (k :: _) _) _ :: _) _ _ => k.value
 | .Return (some (.Call _ _ (k :: _) _)) _ => k.value
 | _ => .Constant .none 0 ⟨0, 0, 0, 0⟩
noncomputable def lamD (q : Str) : Expr → CloD
 | .Lambda params body scope _ => { name := "<lambda>", qual := q, params := params, body := .expr body, scope := scope }
 | _ => { name := "", qual := "", params := fdArgs (st 105), body := .stmts [], scope := fdScope (st 105) }
noncomputable def cChg : CloD := lamD "_law_change.<locals>.<lambda>" (kwLam (stIn (fdBody (st 105)) 2))
section
variable {c : Cx} {A : Around} {H : TM}
theorem chg_lam {n : Nat} {x rr : Addr} {l : Lot} {row : List Wt} (hA : Room A 2) (hx : H x = some (.sdict (lotD l rr))) (hc : ColsOk n l.by_) (hr : RowOk n row) (hn : n ≤ 100) :
  CallW c A (.clo cChg ["index"] [.raw (.ref x)]) [.lst (row.map Wt.mv)] H (fun r G => G = H ∧ r = .lst (keyL row l.by_)) := by
 refine CallW.ce (names := ["one"]) (bargs := [.lst (row.map Wt.mv)]) hA.depth (cbind1 fun cl doc pm code ct p S a => by kernel_rfl) fun L fa as doc pm code ct has => ?_
 (refine x1a1 (by match as, has with | [a], _ => exact ⟨a, rfl⟩ : ∃ a, as = [a]) fun a1 e91 => ?_; subst e91)
 have hA' := hA.deeper (eC cChg ["index"] [a1] doc pm code ct L fa)
 have hrm := hA'.rm
 exact W.callName (.raw (.ref 1316)) (by kernel_rfl) (by kernel_rfl) (W.es [.lst (row.map Wt.mv), .lst (l.by_.map .str)] hrm (OnOk.one "index" (.sdict (lotD l rr)) x hx) (lkey_ok hA' hr hc hn))
theorem rowsMV_erase : ∀ (l : List (List Wt)) (i : Nat), (rowsMV l).eraseIdx i = rowsMV (l.eraseIdx i)
 | [], i => rfl
 | x :: l, 0 => rfl
 | x :: l, i + 1 => congrArg (MV.lst (x.map Wt.mv) :: ·) (rowsMV_erase l i)
theorem change_ok {n : Nat} (hn : N12 n) {x rr : Addr} {l : Lot} {row : List Wt} {name : Str} {ins : Bool} (hA : Room A 6) (hname : name = if ins then "IdxInsert" else "IdxDelete") (h : LotAt H x rr l) (hl : l.ok n) (hnd : l.nd) (h58 : l.rows.length < 58) (hr : RowOk n row) :
  CallW c A (.raw (.ref 1340)) [.str name, .raw (.ref x), .lst (row.map Wt.mv)] H (fun r G => ∃ rr', LotAt G x rr' (if ins then l.put row else l.del row) ∧ (rr' = rr ∨ H rr' = none) ∧ ∀ b, b ≠ x → b ≠ rr → b ≠ rr' → G b = H b) := by
 have hl' := hl
 refine x0a5 hl fun h1 h2 h3 h4 _ => ?_
 refine x0a2 (id h) fun hx hrr => ?_
 have hxr : x ≠ rr := by first | exact TM.neS hrr hx | exact (TM.neS hrr hx).symm | (rintro rfl; rw [hx] at hrr; (injection hrr with hrr; injection hrr))
 have hn' : n ≤ 100 := by rcases hn with rfl | rfl <;> decide
 refine CallW.bd (names := ["name", "index", "row"]) (fChange_at c) hA.depth fChange_ok (bind3 fun p S a b d => by kernel_rfl) fun L => ?_
 have hA' : Room (A.deeper (callEnvM fChange L 1340)) 5 := hA.deeper (callEnvM fChange L 1340)
 have hrm := hA'.rm
 refine W.cons (W.asgV (W.callName (.raw (.ref 1328)) (by kernel_rfl) (by kernel_rfl) (W.es [.raw (.ref x), .lst (row.map Wt.mv)] hrm OnOk.none ((spot_ok hn (hA'.less (by first | decide | lia)) h hl' hr).val2 ?_))))
 refine ⟨by kernel_rfl, ?_⟩
 have hle := l.less_len row
 refine W.cons (W.mono (Q := fun f m' cm' H' => f = .next ∧ m' = (bM fChange L 1340 ["name", "index", "row"] [.str name, .raw (.ref x), .lst (row.map Wt.mv)]).set "spot" (spotMV (l.spot row)) ∧ cm' = bC fChange L 1340 ["name", "index", "row"] [.str name, .raw (.ref x), .lst (row.map Wt.mv)] ∧ H' = H.upd rr (.plist (rowsMV (l.less row)))) ?_ fun f m' cm' H' hq => x0a4 hq fun e1 e2 e3 e4 => ?_)
 ·cases hs : l.spot row with
  | none =>
   refine W.ifF [] hrm OnOk.none trivial (W.nil ⟨rfl, rfl, rfl, ?_⟩)
   (rewrite [Lot.less]; refine rG hs ?_)
   exact (TM.upd_same hrr).symm
  | some i =>
   have hi : i < l.rows.length := by
    rw [Lot.spot, List.findIdx?_eq_some_iff_getElem] at hs
    exact hs.1
   have hlen : (rowsMV l.rows).length = l.rows.length := List.length_map ..
   refine W.ite (W.testCmp hrm rfl (W.e0 (.int (i : Int)) hrm (W.e0 (.int 0) hrm ⟨true, [], ?_, trivial, ?_⟩)))
   ·show some (decide ((i : Int) ≥ 0), []) = _
    (refine rG (decide_eq_true (by lia)) ?_; rfl)
   ·refine W.cons (W.ex (W.meth (.raw (.ref rr)) (.builtin "list.pop") (by kernel_rfl) (PuN.e (.raw (.ref rr)) hrm (OnOk.one "index" (.sdict (lotD l rr)) x hx)) (MethG.pop hrr) (W.es [.int (i : Int)] hrm OnOk.none (CallP.pop hrr (by lia) (by lia) (by lia) (W.nil ⟨rfl, rfl, rfl, ?_⟩)))))
    (refine rG (Int.toNat_natCast ..) ?_; refine rG (rowsMV_erase ..) ?_; rewrite [Lot.less]; refine rG hs ?_; rfl)
 ·subst e1 e2 e3 e4
  have hx' : (H.upd rr (.plist (rowsMV (l.less row)))) x = some (.sdict (lotD l rr)) := by refine rG (TM.upd_ne hxr) ?_; exact hx
  cases ins with
  | false =>
   simp only [Bool.false_eq_true, if_false] at hname
   subst hname
   refine W.cons (W.ifF [] hrm OnOk.none trivial (W.nil (W.nil ⟨rr, ⟨hx', TM.upd_self _ _ _⟩, .inl rfl, fun b b1 b2 b3 => TM.upd_ne b2⟩)))
  | true =>
   simp only [if_true] at hname
   subst hname
   refine W.cons (W.ifT [] hrm OnOk.none trivial ?_)
   refine W.fz1 "index" (.raw (.ref x)) ?_
   have hu : (A.deeper (callEnvM fChange L 1340)).units + 80 < cLine := by have := hA'.2.1; lia
   refine W.cons (W.setSub rfl (W.sortedK hrm (W.ec (W.addO ?_)) hu))
   refine W.eO (.raw (.ref rr)) hrm (OnOk.one "index" (.sdict (lotD l rr)) x hx') (W.e0 (.lst [.lst (row.map Wt.mv)]) hrm ⟨rr, _, _, _, rfl, TM.upd_self _ _ _, .inr rfl, rfl, ?_, W.items_nil (W.lamN 1335 cChg ["index"] [.raw (.ref x)] ?_)⟩)
   ·(rewrite [rowsMV]; refine rG (List.length_map ..) ?_); show _ + 1 < _; lia
   ·refine ⟨n, l.by_, l.less row ++ [row], cChg, ["index"], [.raw (.ref x)], ?_, rfl, hn, fun r hr' => ?_, h1, by simp; lia, Lot.add_nd hnd row, fun r hr' => ?_, fun D out hD so => ?_⟩
    ·simp [rowsMV]
    ·rcases List.mem_append.mp hr' with q | q
     ·exact h2 r (l.less_sub row r q)
     ·rw [List.mem_singleton] at q; subst q; exact hr
    ·have hrow : RowOk n r := by
      rcases List.mem_append.mp hr' with q | q
      ·exact h2 r (l.less_sub row r q)
      ·rw [List.mem_singleton] at q; subst q; exact hr
     exact chg_lam (hA'.less (j := 3) (by lia)).in2 hx' h1 hrow hn'
    ·have hDx : D ≠ x := by first | exact TM.neS hD hx' | exact (TM.neS hD hx').symm | (rintro rfl; rw [hx'] at hD; cases hD)
     have hDr : D ≠ rr := by rintro rfl; rw [TM.upd_self] at hD; cases hD
     refine W.e0 (.raw (.ref x)) hrm (W.e0 (.str "rows") hrm ⟨x, .sdict (lotD l rr), .sdict (lotD l D), _, rfl, by refine rG (TM.upd_ne (Ne.symm hDx)) ?_; exact hx', rfl, ⟨by show 3 < 1000000; decide, trivial⟩, ?_⟩)
     refine W.nil (W.nil ⟨D, ⟨?_, ?_⟩, .inr ?_, fun b b1 b2 b3 => ?_⟩)
     ·refine rG (TM.upd_self ..) ?_; rfl
     ·(refine rG (TM.upd_ne hDx) ?_; refine rG (TM.upd_self ..) ?_; refine rG (if_pos rfl) ?_; refine rG (so.eq (Lot.add_nd hnd row)) ?_); rfl
     ·rw [TM.upd_ne hDr] at hD; exact hD
     ·(refine rG (TM.upd_ne b1) ?_; refine rG (TM.upd_ne b3) ?_; refine rG (TM.upd_ne b2) ?_; rfl)
end
end Mine
end
section
open PySem PySem.W PySem.W.X PyProof.Rows PySem.Calls
open Builtin Builtin.ObjectAttr
namespace Mine
section
variable {c : Cx} {A : Around} {env : Env} {m cm : LM} {H : TM}
theorem W.dict3 {k1 k2 k3 : Str} {e1 e2 e3 : Expr} {p1 p2 p3 pos : Pos} {i1 i2 i3 : Nat} {Q : MV → LM → LM → TM → Prop} (h12 : k1 ≠ k2) (h13 : k1 ≠ k3) (h23 : k2 ≠ k3)
  (h : ∀ a, H a = none → W c A env m cm (H.upd a (.sdict [])) (eval e1 env) V (fun v1 m1 cm1 H1 => W c A env m1 cm1 H1 (eval e2 env) V (fun v2 m2 cm2 H2 => W c A env m2 cm2 H2 (eval e3 env) V (fun v3 m3 cm3 H3 =>
   H3 a = some (.sdict []) ∧ Q (.raw (.ref a)) m3 cm3 (H3.upd a (.sdict [(k1, v1), (k2, v2), (k3, v3)])))))) :
  W c A env m cm H (eval (.Dict [some (.Constant (.str k1) i1 p1), some (.Constant (.str k2) i2 p2), some (.Constant (.str k3) i3 p3)] [e1, e2, e3] pos) env) V Q := fun F K s r => by
 refine x0a2 (r.pushO (o := { cls := .type "dict", data := .dict #[] }) (x := .sdict []) ⟨[], Heap.DictOf.new _, rfl⟩) fun h0 r2 => ?_
 refine wpAny_Dict_walk (knd := PySem.strKind P c.w) rfl rfl (by simp) (by show 3 ≤ 15; decide) ?_
 have key : ∀ {k : Str} {i : Nat} {p : Pos} {K' : TM} {m' cm' H' F'} {s' : Shared} {G : Value → Shared → Prop}, RelE c env m' cm' F' H' K' s' → (∀ t s'', RelE c env m' cm' F' H' K' s'' → G (.str k t) s'') → wpAny (model P c.w) A (eval (.Constant (.str k) i p) env) G NoE s' := fun {k i p K' m' cm' H' F' s' G} ⟨T, R, y⟩ hG =>
  wpAny_Constant_str (hG _ _ (RelE.tok ⟨T, R, y⟩ _))
 have hd : ∀ {m' cm' H' F'} {s' : Shared}, RelE c env m' cm' F' H' K s' → H' s.heap.objs.size = some (.sdict []) → s'.heap.DictOf (PySem.strKind P c.w) s.heap.objs.size [] := fun r e => by
  refine x1a2 (r.rep e) fun kvs h1 h2 => ?_
  subst h2
  exact h1
 refine pairTrees_cons_walk (key r2 fun t1 s1 r3 => ?_)
 refine W.wp (h _ h0) r3 fun F1 v1 m1 cm1 H1 u1 s2 kk1 r4 w1 q1 => ?_
 refine pairTrees_cons_walk (key r4 fun t2 s3 r5 => ?_)
 refine W.wp q1 r5 fun F2 v2 m2 cm2 H2 u2 s4 kk2 r6 w2 q2 => ?_
 refine pairTrees_cons_walk (key r6 fun t3 s5 r7 => ?_)
 refine W.wp q2 r7 fun F3 v3 m3 cm3 H3 u3 s6 kk3 r8 w3 qq => ?_
 refine x0a2 qq fun q3 q4 => ?_
 refine pairTrees_nil_walk ⟨[(k1, u1), (k2, u2), (k3, u3)], ⟨by simp [PySem.strKind, Value.isStrOf], rfl, by simp [PySem.strKind, Value.isStrOf], rfl, by simp [PySem.strKind, Value.isStrOf], rfl, trivial⟩, hd r8 q3, fun h' hdict hs' => ?_⟩
 have em : merged [] [(k1, u1), (k2, u2), (k3, u3)] = [(k1, u1), (k2, u2), (k3, u3)] := by
  simp [merged, stored, h12, h13, h23]
 rw [em] at hdict
 exact ⟨F3, _, m3, cm3, _, kk1.trans (kk2.trans kk3), r8.set (y := .sdict [(k1, v1), (k2, v2), (k3, v3)]) q3 hs' ⟨_, hdict, ⟨u1, _, rfl, (w1.mono kk2).mono kk3, u2, _, rfl, w2.mono kk3, u3, _, rfl, w3, rfl⟩⟩, vr_raw, q4⟩
noncomputable def bT (env : Env) (m cm : LM) (e : Expr) (v : MV) : LM × LM := (bindT env m cm e v).getD (LM.nil, LM.nil)
noncomputable abbrev BbP (env : Env) (t : Expr) (Q : MFlow → LM → LM → TM → Prop) : MV → LM → LM → TM → Prop := fun v m cm H => (bindT env m cm t v).isSome = true ∧ Q .next (bT env m cm t v).1 (bT env m cm t v).2 H
theorem W.asgB {elts : List Expr} {k : Nat} {p pos : Pos} {value : Expr} {Q : MFlow → LM → LM → TM → Prop} (hh : A.handled = none)
  (h : W c A env m cm H (eval value env) V (BbP env (.Tuple elts k p) Q))
  (hs : swapsWithSole [.Tuple elts k p] value pos.line env = pure false := by rfl)
  (hw : swappedStores [.Tuple elts k p] value env = pure none := by rfl) : W c A env m cm H (exec (.Assign [.Tuple elts k p] value pos) env) Fl Q :=
 W.asgT hh (h.mono fun v m' cm' H' hq => x0a2 hq fun e q => by
  obtain ⟨⟨m1, cm1⟩, e1⟩ := Option.isSome_iff_exists.mp e
  refine ⟨m1, cm1, e1, ?_⟩
  unfold bT at q
  rw [e1] at q
  exact q) hs hw
end
end Mine
end
section
set_option backward.match.sparseCases false
open PySem PySem.W PySem.W.X PyProof.Rows PySem.Calls
open Builtin Builtin.ObjectAttr
namespace Mine
inductive Hv where
 | w (x : Wt)
 | rc (r : List Wt)
noncomputable def Hv.mv : Hv → MV
 | .w x => x.mv
 | .rc r => .lst (r.map Wt.mv)
structure Vm where
 held : List (Int × Hv)
 lots : List (Int × Lot)
 ans : List (List Wt)
noncomputable def get1 (h : List (Int × Hv)) (k : Int) : Option Wt := match look h k with
 | some (.w x) => some x
 | _ => none
noncomputable def getN (h : List (Int × Hv)) : Int → Nat → Option (List Wt)
 | _, 0 => some []
 | f, m + 1 => match get1 h f, getN h (f + 1) m with
  | some x, some r => some (x :: r)
  | _, _ => none
noncomputable def doIns (n : Nat) (v : Vm) : Ins → Option (Vm × Bool)
 | .value t w => some ({ v with held := putL v.held t (.w w) }, false)
 | .record f m r => if m = (n : Int) then (match getN v.held f n with
   | some row => some ({ v with held := putL v.held r (.rc row) }, false)
   | none => none) else none
 | .result f m => if m = (n : Int) then (match getN v.held f n with
   | some row => some ({ v with ans := v.ans ++ [row] }, false)
   | none => none) else none
 | .openE cu cols => match look v.lots cu with
   | some _ => none
   | none => if ColsOk n cols then some ({ v with lots := v.lots ++ [(cu, ⟨cols, [], 0⟩)] }, false) else none
 | .column cu a r => match look v.lots cu with
   | some l => (match l.rows[l.at_.toNat]? with
    | some row => if 0 ≤ a then (match row[a.toNat]? with
     | some w => some ({ v with held := putL v.held r (.w w) }, false)
     | none => none) else none
    | none => none)
   | none => none
 | .rewind cu _ => match look v.lots cu with
   | some l => some ({ v with lots := putL v.lots cu { l with at_ := 0 } }, l.rows.isEmpty)
   | none => none
 | .next cu _ => match look v.lots cu with
   | some l => some ({ v with lots := putL v.lots cu { l with at_ := l.at_ + 1 } }, decide (l.at_ + 1 < (l.rows.length : Int)))
   | none => none
 | .found pos cu _ f m => if m = (n : Int) then (match look v.lots cu, getN v.held f n with
   | some l, some row => if RowOk n row then some (v, (l.spot row).isSome == pos) else none
   | _, _ => none) else none
 | .insert cu r => match look v.lots cu, look v.held r with
   | some l, some (.rc row) => if RowOk n row ∧ l.rows.length < 50 then some ({ v with lots := putL v.lots cu (l.put row) }, false) else none
   | _, _ => none
 | .delete cu f m => if m = (n : Int) then (match look v.lots cu, getN v.held f n with
   | some l, some row => if RowOk n row ∧ l.rows.length < 50 then some ({ v with lots := putL v.lots cu (l.del row) }, false) else none
   | _, _ => none) else none
 | .halt => none
set_option tactic.hygienic true in
theorem getN_len {h : List (Int × Hv)} : ∀ {m : Nat} {f : Int} {row : List Wt}, getN h f m = some row → row.length = m ∧ ∀ k : Nat, k < m → look h (f + (k : Int)) = some (.w (row.getD k .none))
 | 0 => by
  rename_i f row
  intro e
  simp only [getN, Option.some.injEq] at e
  subst e
  exact ⟨rfl, fun k hk => absurd hk (Nat.not_lt_zero _)⟩
 | m + 1 => by
  rename_i f row
  intro e
  simp only [getN] at e
  split at e
  ·rename_i x r e1 e2
   (injection e with e; subst e)
   refine x0a2 (getN_len e2) fun h1 h2 => ?_
   refine ⟨by (refine rG List.length_cons ?_; refine rG h1 ?_; rfl), fun k hk => ?_⟩
   cases k with
   | zero =>
    unfold get1 at e1
    split at e1
    ·rename_i y ey
     (injection e1 with e1; subst e1)
     simpa using ey
    ·injection e1
   | succ k =>
    have := h2 k (by lia)
    have e3 : f + 1 + (k : Int) = f + ((k + 1 : Nat) : Int) := by lia
    rw [e3] at this
    simpa using this
  ·injection e
structure Ent where
 k : Int
 a : Addr
 rr : Addr
 lot : Lot
structure VmAt (hd ld an : Addr) (H : TM) (v : Vm) : Prop where
 held : H hd = some (.idict (v.held.map fun x => (x.1, x.2.mv)))
 ans : H an = some (.plist (rowsMV v.ans))
 ne : hd ≠ ld
 lots : ∃ es : List Ent, H ld = some (.idict (es.map fun e => (e.k, .raw (.ref e.a)))) ∧ es.map (fun e => (e.k, e.lot)) = v.lots ∧ (∀ e ∈ es, LotAt H e.a e.rr e.lot) ∧ (es.map (·.a)).Nodup ∧ (es.map (·.rr)).Nodup ∧ an ∉ es.map (·.rr)
structure VmOk (n : Nat) (v : Vm) : Prop where
 lots : ∀ x ∈ v.lots, x.2.ok n ∧ x.2.nd
 nd : (v.lots.map (·.1)).Nodup
theorem look_map {K α β : Type} [DecidableEq K] (f : α → β) (k : K) : ∀ l : List (K × α), look (l.map fun x => (x.1, f x.2)) k = (look l k).map f
 | [] => rfl
 | (a, v) :: l => by
  have := look_map f k l
  (refine rG List.map_cons ?_; rewrite [look]; rewrite [look]; refine rG this ?_)
  split <;> rfl
theorem putL_map {K α β : Type} [DecidableEq K] (f : α → β) (k : K) (v : α) (l : List (K × α)) : (putL l k v).map (fun x => (x.1, f x.2)) = putL (l.map fun x => (x.1, f x.2)) k (f v) := by
 unfold putL
 have e : (l.any fun x => decide (x.1 = k)) = ((l.map fun x => (x.1, f x.2)).any fun x => decide (x.1 = k)) := by refine rG List.any_map ?_; rfl
 refine rL e ?_
 split
 ·(refine rG List.map_map ?_; refine rG List.map_map ?_)
  refine List.map_congr_left fun x _ => ?_
  show (((if x.1 = k then (x.1, v) else x) : K × α).1, f ((if x.1 = k then (x.1, v) else x) : K × α).2) = if x.1 = k then (x.1, f v) else (x.1, f x.2)
  split <;> rfl
 ·refine rG List.map_append ?_; rfl
theorem putL_len {K α : Type} [DecidableEq K] (l : List (K × α)) (k : K) (v : α) : (putL l k v).length ≤ l.length + 1 := by
 unfold putL
 split
 ·refine rG (List.length_map ..) ?_; lia
 ·simp
theorem look_put {K α : Type} [DecidableEq K] (k : K) (v : α) (k' : K) : ∀ l : List (K × α), look (putL l k v) k' = if k = k' then some v else look l k' := by
 have app : ∀ (l : List (K × α)), (∀ x ∈ l, x.1 ≠ k) → look (l ++ [(k, v)]) k' = if k = k' then some v else look l k' := by
  intro l
  induction l with
  | nil => intro _; show look [(k, v)] k' = _; rw [look]; rfl
  | cons x l ih =>
   intro h
   obtain ⟨a, w⟩ := x
   have := ih fun y hy => h y (.tail _ hy)
   have ha := h _ (.head _)
   (refine rG List.cons_append ?_; rewrite [look]; rewrite [look]; refine rG this ?_)
   by_cases e : k = k'
   ·(refine rG (if_pos e) ?_; refine rG (if_pos e) ?_)
    (refine rG (if_neg (fun q => ha (by rw [q, e]))) ?_; rfl)
   ·(refine rG (if_neg e) ?_; refine rG (if_neg e) ?_; rfl)
 have mp : ∀ (l : List (K × α)), (l.any fun x => decide (x.1 = k)) = true → look (l.map fun x => if x.1 = k then (x.1, v) else x) k' = if k = k' then some v else look l k' := by
  intro l
  induction l with
  | nil => intro h; simp at h
  | cons x l ih =>
   intro h
   obtain ⟨a, w⟩ := x
   refine rG List.map_cons ?_
   by_cases ea : a = k
   ·subst ea
    refine rG (if_pos rfl) ?_
    show look ((a, v) :: _) k' = _
    rw [look, look]
    by_cases e : a = k'
    ·(refine rG (if_pos e) ?_; refine rG (if_pos e) ?_; rfl)
    ·(refine rG (if_neg e) ?_; refine rG (if_neg e) ?_; refine rG (if_neg e) ?_)
     by_cases h2 : (l.any fun x => decide (x.1 = a)) = true
     ·have := ih h2
      rw [if_neg e] at this; exact this
     ·have e3 : (l.map fun x => if x.1 = a then (x.1, v) else x) = l := by
       rw [List.map_congr_left (g := _root_.id)]
       ·exact List.map_id _
       ·intro x hx
        rw [if_neg]
        ·rfl
        ·intro q
         exact h2 (List.any_eq_true.mpr ⟨x, hx, decide_eq_true q⟩)
      (refine rG e3 ?_; rfl)
   ·refine rG (if_neg ea) ?_
    show look ((a, w) :: _) k' = _
    rw [look, look]
    have h2 : (l.any fun x => decide (x.1 = k)) = true := by
     rw [List.any_cons] at h
     simpa [ea] using h
    refine rG (ih h2) ?_
    by_cases e : a = k'
    ·(refine rG (if_pos e) ?_; refine rG (if_pos e) ?_; refine rG (if_neg (fun q => ea (by rw [e, q]))) ?_; rfl)
    ·(refine rG (if_neg e) ?_; refine rG (if_neg e) ?_; rfl)
 intro l
 unfold putL
 split
 ·rename_i h; exact mp l h
 ·rename_i h
  exact app l fun x hx q => h (List.any_eq_true.mpr ⟨x, hx, decide_eq_true q⟩)
end Mine
end
section
open PySem PySem.W PySem.W.X PyProof.Rows PySem.Calls
open Builtin Builtin.ObjectAttr
namespace Mine
section
variable {hd ld an : Addr} {H : TM} {v : Vm}
theorem VmAt.hold (h : VmAt hd ld an H v) (k : Int) (x : Hv) : VmAt hd ld an (H.upd hd (.idict (putL (v.held.map fun x => (x.1, x.2.mv)) k x.mv))) { v with held := putL v.held k x } := by
 obtain ⟨h1, h2, h3, es, g1, g2, g3, g4, g5, g6⟩ := h
 have ne : ∀ {b : Addr} {y : MObj}, H b = some y → (∀ l, y ≠ .idict l) → b ≠ hd := fun e n q => by rw [q, h1] at e; (injection e with e; subst e); exact n _ rfl
 refine ⟨?_, by refine rG (TM.upd_ne (ne h2 (fun l e => by injection e))) ?_; exact h2, h3, es, by refine rG (TM.upd_ne (Ne.symm h3)) ?_; exact g1, g2, fun e he => ?_, g4, g5, g6⟩
 ·(refine rG (TM.upd_self ..) ?_; refine rG (putL_map ..) ?_; rfl)
 ·refine x0a2 (g3 e he) fun q1 q2 => ?_
  exact ⟨by refine rG (TM.upd_ne (ne q1 (fun l e => by injection e))) ?_; exact q1, by refine rG (TM.upd_ne (ne q2 (fun l e => by injection e))) ?_; exact q2⟩
theorem VmAt.answer (h : VmAt hd ld an H v) (row : List Wt) : VmAt hd ld an (H.upd an (.plist (rowsMV v.ans ++ [.lst (row.map Wt.mv)]))) { v with ans := v.ans ++ [row] } := by
 obtain ⟨h1, h2, h3, es, g1, g2, g3, g4, g5, g6⟩ := h
 have ne : ∀ {b : Addr} {y : MObj}, H b = some y → (∀ l, y ≠ .plist l) → b ≠ an := fun e n q => by rw [q, h2] at e; (injection e with e; subst e); exact n _ rfl
 refine ⟨by refine rG (TM.upd_ne (ne h1 (fun l e => by injection e))) ?_; exact h1, ?_, h3, es, by refine rG (TM.upd_ne (ne g1 (fun l e => by injection e))) ?_; exact g1, g2, fun e he => ?_, g4, g5, g6⟩
 ·(refine rG (TM.upd_self ..) ?_; rewrite [rowsMV]; rewrite [rowsMV]; refine rG List.map_append ?_); rfl
 ·refine x0a2 (g3 e he) fun q1 q2 => ?_
  refine ⟨by refine rG (TM.upd_ne (ne q1 (fun l e => by injection e))) ?_; exact q1, ?_⟩
  rw [TM.upd_ne]; · exact q2
  rintro rfl
  exact g6 (List.mem_map.mpr ⟨e, he, rfl⟩)
theorem ent_look {cu : Int} {l : Lot} : ∀ {es : List Ent}, look (es.map fun e => (e.k, e.lot)) cu = some l → ∃ e ∈ es, e.k = cu ∧ e.lot = l ∧ look (es.map fun e => (e.k, MV.raw (.ref e.a))) cu = some (.raw (.ref e.a))
 | [] => by intro h; injection h
 | e :: es => by
  intro h
  rw [List.map_cons, look] at h
  (refine rG List.map_cons ?_; rewrite [look])
  split at h
  ·rename_i q
   (injection h with h; subst h)
   exact i1a4 e (.head _) q rfl (by (refine rG (if_pos q) ?_; rfl))
  ·rename_i q
   refine x1a4 (ent_look h) fun e' h1 h2 h3 h4 => ?_
   exact i1a4 e' (.tail _ h1) h2 h3 (by refine rG (if_neg q) ?_; exact h4)
theorem nodup_inj {α β : Type} {f : α → β} : ∀ {l : List α}, (l.map f).Nodup → ∀ {x y : α}, x ∈ l → y ∈ l → f x = f y → x = y
 | [] => by intro _ _ _ h _ _; contradiction
 | a :: l => by
  intro hn x y hx hy e
  rw [List.map_cons, List.nodup_cons] at hn
  rcases List.mem_cons.mp hx with q1 | q1 <;> rcases List.mem_cons.mp hy with q2 | q2
  ·(refine rG q1 ?_; refine rG q2 ?_; rfl)
  ·exact absurd (List.mem_map.mpr ⟨y, q2, by (refine rL e ?_; refine rG q1 ?_; rfl)⟩) hn.1
  ·exact absurd (List.mem_map.mpr ⟨x, q1, by (refine rG e ?_; refine rG q2 ?_; rfl)⟩) hn.1
  ·exact nodup_inj hn.2 q1 q2 e
theorem VmAt.lot (h : VmAt hd ld an H v) (hk : (v.lots.map (·.1)).Nodup) {cu : Int} {l : Lot} (hl : look v.lots cu = some l) :
  ∃ (L : List (Int × MV)) (a rr : Addr), H ld = some (.idict L) ∧ look L cu = some (.raw (.ref a)) ∧ LotAt H a rr l ∧
   ∀ (G : TM) (rr' : Addr) (l' : Lot), LotAt G a rr' l' → (rr' = rr ∨ H rr' = none) → (∀ b, b ≠ a → b ≠ rr → b ≠ rr' → G b = H b) → VmAt hd ld an G { v with lots := putL v.lots cu l' } := by
 obtain ⟨h1, h2, h3, es, g1, g2, g3, g4, g5, g6⟩ := h
 rw [← g2] at hl
 refine x1a4 (ent_look hl) fun e he ek el hlk => ?_
 subst el
 have hE := g3 e he
 refine i3a4 _ e.a e.rr g1 hlk hE (fun G rr' l' hG hrr hkeep => ?_)
 have ne1 : ∀ {b : Addr} {y : MObj}, H b = some y → (∀ l, y ≠ .sdict l) → b ≠ e.a := fun e' n q => by rw [q, hE.1] at e'; (injection e' with e'; subst e'); exact n _ rfl
 have ne2 : ∀ {b : Addr} {y : MObj}, H b = some y → b ≠ e.rr → b ≠ rr' := fun e' n q => by
  rcases hrr with q' | q'
  ·exact n (q.trans q')
  ·rw [q, q'] at e'; injection e'
 have hkeys : (es.map (·.k)).Nodup := by
  have : es.map (·.k) = v.lots.map (·.1) := by (refine rL g2 ?_; refine rG List.map_map ?_); rfl
  refine rG this ?_; exact hk
 have nerr : ∀ {b : Addr} {y : MObj}, H b = some y → (∀ l, y ≠ .plist l) → b ≠ e.rr := fun e' n q => by rw [q, hE.2] at e'; (injection e' with e'; subst e'); exact n _ rfl
 let up : Ent → Ent := fun x => if x.k = cu then { x with rr := rr', lot := l' } else x
 have upk : ∀ x, (up x).k = x.k := fun x => by simp only [up]; split <;> rfl
 have upa : ∀ x, (up x).a = x.a := fun x => by simp only [up]; split <;> rfl
 have only : ∀ x ∈ es, x.k = cu → x = e := fun x hx q => nodup_inj hkeys hx he (q.trans ek.symm)
 refine ⟨?_, ?_, h3, es.map up, ?_, ?_, ?_, ?_, ?_, ?_⟩
 ·refine rG (hkeep _ (ne1 h1 (fun l e => by injection e)) (nerr h1 (fun l e => by injection e)) (ne2 h1 (nerr h1 (fun l e => by injection e)))) ?_; exact h1
 ·have hne : an ≠ e.rr := fun q => g6 (by refine rG q ?_; exact List.mem_map.mpr ⟨e, he, rfl⟩)
  refine rG (hkeep _ (ne1 h2 (fun l e => by injection e)) hne (ne2 h2 hne)) ?_; exact h2
 ·(refine rG (hkeep _ (ne1 g1 (fun l e => by injection e)) (nerr g1 (fun l e => by injection e)) (ne2 g1 (nerr g1 (fun l e => by injection e)))) ?_; refine rG g1 ?_; refine rG List.map_map ?_)
  congr 2
  refine List.map_congr_left fun x _ => ?_
  show _ = ((up x).k, MV.raw (.ref (up x).a))
  (refine rG (upk ..) ?_; refine rG (upa ..) ?_; rfl)
 ·show (es.map up).map (fun e => (e.k, e.lot)) = putL v.lots cu l'
  (refine rL g2 ?_; rewrite [putL]; rewrite [if_pos]; refine rG List.map_map ?_; refine rG List.map_map ?_)
  ·refine List.map_congr_left fun x _ => ?_
   show ((up x).k, (up x).lot) = if (x.k, x.lot).1 = cu then ((x.k, x.lot).1, l') else (x.k, x.lot)
   simp only [up]
   split <;> rfl
  ·exact List.any_eq_true.mpr ⟨(e.k, e.lot), List.mem_map.mpr ⟨e, he, rfl⟩, decide_eq_true ek⟩
 ·intro y hy
  (refine x1a2 (List.mem_map.mp hy) fun x hx e92 => ?_; subst e92)
  by_cases q : x.k = cu
  ·have := only x hx q
   subst this
   simp only [up, if_pos q]
   exact hG
  ·simp only [up, if_neg q]
   have hxe : x ≠ e := fun z => q (by refine rG z ?_; exact ek)
   refine x0a2 (g3 x hx) fun q1 q2 => ?_
   have d1 : x.a ≠ e.a := fun z => hxe (nodup_inj g4 hx he z)
   have d2 : x.rr ≠ e.rr := fun z => hxe (nodup_inj g5 hx he z)
   exact ⟨by refine rG (hkeep _ d1 (nerr q1 (fun l e => by injection e)) (ne2 q1 (nerr q1 (fun l e => by injection e)))) ?_; exact q1,
    by refine rG (hkeep _ (ne1 q2 (fun l e => by injection e)) d2 (ne2 q2 d2)) ?_; exact q2⟩
 ·have : (es.map up).map (·.a) = es.map (·.a) := by refine rG List.map_map ?_; exact List.map_congr_left fun x _ => upa x
  refine rG this ?_; exact g4
 ·have hsub : ∀ x ∈ es, x ≠ e → (up x).rr = x.rr := fun x hx n => by
   simp only [up]; (refine rG (if_neg fun q => n (only x hx q)) ?_; rfl)
  have hup : (up e).rr = rr' := by simp only [up, if_pos ek]
  (refine rG List.map_map ?_; rewrite [List.Nodup]; rewrite [List.pairwise_map])
  have g5' := g5
  rw [List.Nodup, List.pairwise_map] at g5'
  have hes : es.Nodup := (List.pairwise_map.mp (show (es.map (·.a)).Pairwise (· ≠ ·) from g4)).imp fun h q => h (by (refine rG q ?_; rfl))
  refine (g5'.and hes).imp_of_mem fun {x y} hx hy hxy => ?_
  show (up x).rr ≠ (up y).rr
  by_cases q1 : x = e
  ·have q2 : y ≠ e := fun z => hxy.2 (q1.trans z.symm)
   (refine rG q1 ?_; refine rG hup ?_; refine rG (hsub y hy q2) ?_)
   have := ne2 (g3 y hy).2 (fun z => hxy.1 (by (refine rG q1 ?_; refine rG z ?_; rfl)))
   exact Ne.symm this
  ·refine rG (hsub x hx q1) ?_
   by_cases q2 : y = e
   ·(refine rG q2 ?_; refine rG hup ?_)
    exact ne2 (g3 x hx).2 (fun z => hxy.1 (by (refine rG q2 ?_; refine rG z ?_; rfl)))
   ·refine rG (hsub y hy q2) ?_; exact hxy.1
 ·refine rG List.map_map ?_
  intro hm
  refine x1a2 (List.mem_map.mp hm) fun x hx q => ?_
  have q : (up x).rr = an := q
  by_cases q1 : x.k = cu
  ·simp only [up, if_pos q1] at q
   have hne : an ≠ e.rr := fun q => g6 (by refine rG q ?_; exact List.mem_map.mpr ⟨e, he, rfl⟩)
   exact ne2 h2 hne q.symm
  ·simp only [up, if_neg q1] at q
   exact g6 (List.mem_map.mpr ⟨x, hx, q⟩)
theorem VmAt.opened (h : VmAt hd ld an H v) {cu : Int} {cols : List Str} {a rr : Addr} (hk : look v.lots cu = none) (ha : H a = none) (hr : H rr = none) (har : a ≠ rr) :
  ∃ L, H ld = some (.idict L) ∧ L.length = v.lots.length ∧ VmAt hd ld an (((H.upd rr (.plist [])).upd a (.sdict (lotD ⟨cols, [], 0⟩ rr))).upd ld (.idict (putL L cu (.raw (.ref a))))) { v with lots := v.lots ++ [(cu, ⟨cols, [], 0⟩)] } := by
 obtain ⟨h1, h2, h3, es, g1, g2, g3, g4, g5, g6⟩ := h
 refine i1a3 _ g1 (by (refine rL g2 ?_; refine rG (List.length_map ..) ?_; refine rG (List.length_map ..) ?_; rfl)) ?_
 have na : ∀ {b : Addr} {y : MObj}, H b = some y → b ≠ a := fun e q => by rw [q, ha] at e; injection e
 have nr : ∀ {b : Addr} {y : MObj}, H b = some y → b ≠ rr := fun e q => by rw [q, hr] at e; injection e
 have nl : ∀ {b : Addr} {y : MObj}, H b = some y → (∀ l, y ≠ .idict l) → b ≠ ld := fun e n q => by rw [q, g1] at e; (injection e with e; subst e); exact n _ rfl
 have keep : ∀ {b : Addr} {y z : MObj}, H b = some y → b ≠ ld → (((H.upd rr (.plist [])).upd a (.sdict (lotD ⟨cols, [], 0⟩ rr))).upd ld z) b = some y := fun e n => by (refine rG (TM.upd_ne n) ?_; refine rG (TM.upd_ne (na e)) ?_; refine rG (TM.upd_ne (nr e)) ?_); exact e
 have hnk : ∀ x ∈ es.map (fun e => (e.k, MV.raw (.ref e.a))), x.1 ≠ cu := fun x hx q => by
  (refine x1a2 (List.mem_map.mp hx) fun e he e92 => ?_; subst e92)
  have : ∀ {es : List Ent}, e ∈ es → look (es.map fun e => (e.k, e.lot)) cu = none → False := fun {es} => by
   induction es with
   | nil => intro h; contradiction
   | cons e' es ih =>
    intro h hh
    rw [List.map_cons, look] at hh
    split at hh
    ·injection hh
    ·rename_i n
     rcases List.mem_cons.mp h with rfl | h
     ·exact n q
     ·exact ih h hh
  exact this he (by refine rG g2 ?_; exact hk)
 refine ⟨keep h1 h3, keep h2 (nl h2 (fun l e => by injection e)), h3, es ++ [⟨cu, a, rr, ⟨cols, [], 0⟩⟩], ?_, ?_, ?_, ?_, ?_, ?_⟩
 ·(refine rG (TM.upd_self ..) ?_; refine rG (putL_new hnk) ?_; refine rG List.map_append ?_); rfl
 ·(refine rG List.map_append ?_; refine rG g2 ?_); rfl
 ·intro e he
  rcases List.mem_append.mp he with he | he
  ·refine x0a2 (g3 e he) fun q1 q2 => ?_
   exact ⟨keep q1 (nl q1 (fun l e => by injection e)), keep q2 (nl q2 (fun l e => by injection e))⟩
  ·rw [List.mem_singleton] at he
   subst he
   have hal : a ≠ ld := fun q => by rw [q, g1] at ha; injection ha
   have hrl : rr ≠ ld := fun q => by rw [q, g1] at hr; injection hr
   exact ⟨by (refine rG (TM.upd_ne hal) ?_; refine rG (TM.upd_self ..) ?_; rfl), by (refine rG (TM.upd_ne hrl) ?_; refine rG (TM.upd_ne (Ne.symm har)) ?_; refine rG (TM.upd_self ..) ?_); rfl⟩
 ·(refine rG List.map_append ?_; rewrite [List.nodup_append])
  refine ⟨g4, by simp, fun x hx y hy e => ?_⟩
  simp at hy
  refine x1a2 (List.mem_map.mp hx) fun e' he' q => ?_
  exact na (g3 e' he').1 (q.trans (e.trans hy))
 ·(refine rG List.map_append ?_; rewrite [List.nodup_append])
  refine ⟨g5, by simp, fun x hx y hy e => ?_⟩
  simp at hy
  refine x1a2 (List.mem_map.mp hx) fun e' he' q => ?_
  exact nr (g3 e' he').2 (q.trans (e.trans hy))
 ·refine rG List.map_append ?_
  intro hm
  rcases List.mem_append.mp hm with hm | hm
  ·exact g6 hm
  ·simp at hm
   exact nr h2 hm
end
end Mine
namespace Mine
open Builtin.Str
theorem getD_mv {n : Nat} {row : List Wt} (h : row.length = n) : (List.range n).map (fun k => (row.getD k .none).mv) = row.map Wt.mv := by
 subst h
 have := congrArg (List.map Wt.mv) (range_getD row Wt.none)
 rw [List.map_map] at this
 exact this
section
variable {c : Cx} {A : Around} {H : TM}
theorem own {held : List (Int × Hv)} {k : Int} {x : Hv} (e : look held k = some x) : ownSub (.idict (held.map fun x => (x.1, x.2.mv))) (.int k) = some (x.mv, []) := by
 simp only [ownSub, look_map, e]; rfl
noncomputable def DoC (c : Cx) (A : Around) (H : TM) (n : Nat) (hd ld an : Addr) (v : Vm) (i : Ins) : Prop := ∀ v' b, doIns n v i = some (v', b) →
 CallW c A (.raw (.ref 1333)) [.lst (insMV i), .raw (.ref hd), .raw (.ref ld), .raw (.ref an)] H (fun r G => r = .bool b ∧ VmAt hd ld an G v')
theorem do_value {n : Nat} {hd ld an : Addr} {v : Vm} {t : Int} {w : Wt} (hA : Room A 8) (h : VmAt hd ld an H v) (z1 : v.held.length < 900000) : DoC c A H n hd ld an v (.value t w) := fun v' b hs => by
  cases hs
  refine CallW.bd (names := ["order", "held", "lots", "answer"]) (fDo_at c) hA.depth fDo_ok (bind4 fun p S a b d e => by kernel_rfl) fun L => ?_
  have hA' := hA.deeper (callEnvM fDo L 1333)
  have hrm := hA'.rm
  refine W.cons (W.asgB hrm.1 (W.e0 (.lst (insMV (.value t w))) hrm ⟨by kernel_rfl, ?_⟩))
  refine W.cons (W.ifT [] hrm OnOk.none trivial ?_)
  refine W.cons (W.setSub rfl (W.e0 w.mv hrm (W.e0 (.raw (.ref hd)) hrm (W.e0 (.int t) hrm ⟨hd, _, _, _, rfl, h.held, rfl, ⟨by refine rG (List.length_map ..) ?_; lia, trivial⟩, ?_⟩))))
  exact W.nil (W.cons (W.re (.bool false) hrm OnOk.none ⟨rfl, h.hold t (.w w)⟩))
set_option tactic.hygienic true in
theorem do_record {n : Nat} (hn : n ≤ 100) {hd ld an : Addr} {v : Vm} {f m r : Int} (hA : Room A 8) (h : VmAt hd ld an H v) (z1 : v.held.length < 900000) : DoC c A H n hd ld an v (.record f m r) := fun v' b hs => by
  simp only [doIns] at hs
  split at hs
  ·rename_i hm
   subst hm
   split at hs
   ·rename_i row hrow
    cases hs
    obtain ⟨hl, hg⟩ := getN_len hrow
    refine CallW.bd (names := ["order", "held", "lots", "answer"]) (fDo_at c) hA.depth fDo_ok (bind4 fun p S a b d e => by kernel_rfl) fun L => ?_
    have hA' := hA.deeper (callEnvM fDo L 1333)
    have hrm := hA'.rm
    refine W.cons (W.asgB hrm.1 (W.e0 (.lst (insMV (.record f n r))) hrm ⟨by kernel_rfl, ?_⟩))
    refine W.cons (W.ifF [] hrm OnOk.none trivial (W.cons (W.ifT [] hrm OnOk.none trivial ?_)))
    refine W.cons (W.setSub rfl (W.compMap (List.range n) (fun k => .int (k : Int)) (fun k => (row.getD k .none).mv) hrm.1 (W.eC (.rng (n : Int).toNat) [(0 : Int) ≤ (n : Int)] hrm ⟨by lia, trivial⟩ ⟨rfl, by refine rG (Int.toNat_natCast ..) ?_; rfl, by refine rG List.length_range ?_; lia, fun C m0 k hk => ⟨m0.set "k" (.int (k : Int)), by kernel_rfl, W.subO rfl (W.e0 (.raw (.ref hd)) hrm (W.e0 (.int (f + (k : Int))) hrm ⟨hd, .idict (v.held.map fun x => (x.1, x.2.mv)), (row.getD k .none).mv, [], rfl, .inl h.held, own (hg k (List.mem_range.mp hk)), trivial, rfl, rfl, rfl⟩))⟩, ?_⟩)))
    refine rG (getD_mv hl) ?_
    refine W.e0 (.raw (.ref hd)) hrm (W.e0 (.int r) hrm ⟨hd, _, _, _, rfl, h.held, rfl, ⟨by refine rG (List.length_map ..) ?_; lia, trivial⟩, ?_⟩)
    exact W.nil (W.nil (W.cons (W.re (.bool false) hrm OnOk.none ⟨rfl, h.hold r (.rc row)⟩)))
   ·injection hs
  ·injection hs
set_option tactic.hygienic true in
theorem do_result {n : Nat} (hn : n ≤ 100) {hd ld an : Addr} {v : Vm} {f m : Int} (hA : Room A 8) (h : VmAt hd ld an H v) (z3 : v.ans.length < 900000) : DoC c A H n hd ld an v (.result f m) := fun v' b hs => by
  simp only [doIns] at hs
  split at hs
  ·rename_i hm
   subst hm
   split at hs
   ·rename_i row hrow
    cases hs
    obtain ⟨hl, hg⟩ := getN_len hrow
    refine CallW.bd (names := ["order", "held", "lots", "answer"]) (fDo_at c) hA.depth fDo_ok (bind4 fun p S a b d e => by kernel_rfl) fun L => ?_
    have hA' := hA.deeper (callEnvM fDo L 1333)
    have hrm := hA'.rm
    refine W.cons (W.asgB hrm.1 (W.e0 (.lst (insMV (.result f n))) hrm ⟨by kernel_rfl, ?_⟩))
    refine W.cons (W.ifF [] hrm OnOk.none trivial (W.cons (W.ifF [] hrm OnOk.none trivial (W.cons (W.ifT [] hrm OnOk.none trivial ?_)))))
    refine W.cons (W.ex (W.meth (.raw (.ref an)) (.builtin "list.append") (by kernel_rfl) (PuN.e (.raw (.ref an)) hrm OnOk.none) (MethG.append h.ans) (W.ec (W.compMap (List.range n) (fun k => .int (k : Int)) (fun k => (row.getD k .none).mv) hrm.1 (W.eC (.rng (n : Int).toNat) [(0 : Int) ≤ (n : Int)] hrm ⟨by lia, trivial⟩ ⟨rfl, by refine rG (Int.toNat_natCast ..) ?_; rfl, by refine rG List.length_range ?_; lia, fun C m0 k hk => ⟨m0.set "k" (.int (k : Int)), by kernel_rfl, W.subO rfl (W.e0 (.raw (.ref hd)) hrm (W.e0 (.int (f + (k : Int))) hrm ⟨hd, .idict (v.held.map fun x => (x.1, x.2.mv)), (row.getD k .none).mv, [], rfl, .inl h.held, own (hg k (List.mem_range.mp hk)), trivial, rfl, rfl, rfl⟩))⟩, ?_⟩)))))
    refine rG (getD_mv hl) ?_
    refine W.items_nil (CallP.append h.ans (by (rewrite [rowsMV]; refine rG (List.length_map ..) ?_); lia) ?_)
    exact W.nil (W.nil (W.nil (W.cons (W.re (.bool false) hrm OnOk.none ⟨rfl, h.answer row⟩))))
   ·injection hs
  ·injection hs
theorem do_open {n : Nat} {hd ld an : Addr} {v : Vm} {cu : Int} {cols : List Str} (hA : Room A 8) (h : VmAt hd ld an H v) (hn : n ≤ 100) (z2 : v.lots.length < 900000) : DoC c A H n hd ld an v (.openE cu cols) := fun v' b hs => by
  simp only [doIns] at hs
  split at hs
  ·injection hs
  ·rename_i hk
   split at hs
   ·rename_i hcols
    cases hs
    refine CallW.bd (names := ["order", "held", "lots", "answer"]) (fDo_at c) hA.depth fDo_ok (bind4 fun p S a b d e => by kernel_rfl) fun L => ?_
    have hA' := hA.deeper (callEnvM fDo L 1333)
    have hrm := hA'.rm
    refine W.cons (W.asgB hrm.1 (W.e0 (.lst (insMV (.openE cu cols))) hrm ⟨by kernel_rfl, ?_⟩))
    refine W.cons (W.ifF [] hrm OnOk.none trivial (W.cons (W.ifF [] hrm OnOk.none trivial (W.cons (W.ifF [] hrm OnOk.none trivial (W.cons (W.ifT [] hrm OnOk.none trivial ?_)))))))
    refine W.cons (W.setSub rfl (W.dict3 (by decide) (by decide) (by decide) fun a ha => W.eC (.lst (cols.map .str)) [(cols.map MV.str).length < 1000000] hrm ⟨by (refine rG (List.length_map ..) ?_; refine rG hcols.1 ?_); lia, trivial⟩ ?_))
    refine W.listO (W.es [] hrm OnOk.none ⟨by decide, fun rr hrr => W.e0 (.int 0) hrm ⟨?_, ?_⟩⟩)
    ·(refine rG (TM.upd_ne (fun e => by rw [e, TM.upd_self] at hrr; cases hrr)) ?_; refine rG (TM.upd_self ..) ?_; rfl)
    ·have hra : rr ≠ a := by rintro rfl; rw [TM.upd_self] at hrr; cases hrr
     have hrr' : H rr = none := by rw [TM.upd_ne hra] at hrr; exact hrr
     obtain ⟨L, hL, hLl, hop⟩ := h.opened (cols := cols) hk ha hrr' (Ne.symm hra)
     have hal : ld ≠ a := by first | exact TM.neS ha hL | exact (TM.neS ha hL).symm | (rintro rfl; rw [hL] at ha; cases ha)
     have hrl : ld ≠ rr := by first | exact TM.neS hrr' hL | exact (TM.neS hrr' hL).symm | (rintro rfl; rw [hL] at hrr'; cases hrr')
     have e : ((H.upd a (.sdict [])).upd rr (.plist [])).upd a (.sdict [(Str.ofString "by", .lst (cols.map .str)), (Str.ofString "rows", .raw (.ref rr)), (Str.ofString "at", .int 0)]) = (H.upd rr (.plist [])).upd a (.sdict (lotD ⟨cols, [], 0⟩ rr)) := by
      (refine rG (TM.upd_comm (Ne.symm hra)) ?_; refine rG TM.upd_upd ?_); rfl
     refine rG e ?_
     refine W.e0 (.raw (.ref ld)) hrm (W.e0 (.int cu) hrm ⟨ld, .idict L, .idict (putL L cu (.raw (.ref a))), _, rfl, by (refine rG (TM.upd_ne hal) ?_; refine rG (TM.upd_ne hrl) ?_); exact hL, rfl, ⟨by refine rG hLl ?_; lia, trivial⟩, ?_⟩)
     exact W.nil (W.nil (W.nil (W.nil (W.cons (W.re (.bool false) hrm OnOk.none ⟨rfl, hop⟩)))))
   ·injection hs
end
end Mine
namespace Mine
open Builtin.Str
noncomputable def wD : Wt → PyData
 | .none => .none
 | .int i => .int i
 | .str s => .str s
theorem wt_dat (w : Wt) : w.mv.dat = some (wD w) := by cases w <;> rfl
theorem row_dat : ∀ r : List Wt, datAll (r.map Wt.mv) = some (r.map wD)
 | [] => rfl
 | w :: r => by (refine rG List.map_cons ?_; rewrite [datAll]; refine rG (wt_dat ..) ?_; refine rG (row_dat r) ?_); rfl
noncomputable def rowD (r : List Wt) : PyData := .list (r.map wD)
theorem rows_dat : ∀ l : List (List Wt), datAll (rowsMV l) = some (l.map rowD)
 | [] => rfl
 | r :: l => by
  show datAll (MV.lst (r.map Wt.mv) :: rowsMV l) = _
  (rewrite [datAll]; refine rG (rows_dat l) ?_; rewrite [MV.dat]; refine rG (row_dat ..) ?_); rfl
theorem wts_shape : ∀ w ∈ wts, (wD w).canLay0 = true ∧ (wD w).depth ≤ 1 := by decide +kernel
theorem rows_shaped {n : Nat} {l : List (List Wt)} (h : ∀ r ∈ l, RowOk n r) : SeqAt.shaped (.list (l.map rowD)) = true := by
 have h1 : ∀ {r : List Wt}, (∀ w ∈ r, w ∈ wts) → PyData.canLayAll0 (r.map wD) = true ∧ PyData.depthAll (r.map wD) ≤ 1 := fun {r} hr => by
  induction r with
  | nil => exact ⟨rfl, by simp [PyData.depthAll]⟩
  | cons w r ih =>
   refine x0a2 (wts_shape w (hr w (.head _))) fun q1 q2 => ?_
   refine x0a2 (ih fun x hx => hr x (.tail _ hx)) fun q3 q4 => ?_
   refine ⟨by simp only [List.map_cons, PyData.canLayAll0, q1, q3, Bool.and_self], ?_⟩
   simp only [List.map_cons, PyData.depthAll]
   lia
 have h2 : ∀ {l : List (List Wt)}, (∀ r ∈ l, RowOk n r) → PyData.canLayAll0 (l.map rowD) = true ∧ PyData.depthAll (l.map rowD) ≤ 3 := fun {l} hl => by
  induction l with
  | nil => exact ⟨rfl, by simp [PyData.depthAll]⟩
  | cons r l ih =>
   refine x0a2 (h1 (hl r (.head _)).2) fun q1 q2 => ?_
   refine x0a2 (ih fun x hx => hl x (.tail _ hx)) fun q3 q4 => ?_
   refine ⟨by simp only [List.map_cons, rowD, PyData.canLayAll0, PyData.canLay0, q1, q3, Bool.and_self], ?_⟩
   simp only [List.map_cons, rowD, PyData.depthAll, PyData.depth]
   lia
 refine x0a2 (h2 h) fun q1 q2 => ?_
 show (PyData.canLayAll0 (l.map rowD) && decide ((PyData.list (l.map rowD)).depth ≤ 64)) = true
 (refine rG q1 ?_; refine rG (Bool.true_and ..) ?_)
 exact decide_eq_true (by simp only [PyData.depth]; lia)
theorem look_in {K α : Type} [DecidableEq K] {k : K} {v : α} : ∀ {l : List (K × α)}, look l k = some v → (k, v) ∈ l
 | [] => by intro e; injection e
 | (a, w) :: l => by
  intro e
  rw [look] at e
  split at e
  ·rename_i q; (injection e with e; subst e); subst q; exact .head _
  ·exact .tail _ (look_in e)
section
variable {c : Cx} {A : Around} {H : TM}
set_option tactic.hygienic true in
theorem do_rewind {n : Nat} {hd ld an : Addr} {v : Vm} {cu lb : Int} (hA : Room A 8) (h : VmAt hd ld an H v) (hv : VmOk n v) : DoC c A H n hd ld an v (.rewind cu lb) := fun v' b hs => by
 simp only [doIns] at hs
 split at hs
 ·rename_i l hk
  cases hs
  obtain ⟨L, a, rr, hL, hlk, hlot, hset⟩ := h.lot hv.nd hk
  have hok := (hv.lots _ (look_in hk)).1
  have hla : ld ≠ a := by rintro rfl; have q := hlot.1; rw [hL] at q; cases q
  have hra : rr ≠ a := by rintro rfl; have q := hlot.2; rw [hlot.1] at q; cases q
  ·refine CallW.bd (names := ["order", "held", "lots", "answer"]) (fDo_at c) hA.depth fDo_ok (bind4 fun p S a b d e => by kernel_rfl) fun Lo => ?_
   have hA' := hA.deeper (callEnvM fDo Lo 1333)
   have hrm := hA'.rm
   refine W.cons (W.asgB hrm.1 (W.e0 (.lst (insMV (.rewind cu lb))) hrm ⟨by kernel_rfl, ?_⟩))
   refine W.cons (W.ifF [] hrm OnOk.none trivial ?_)
   refine W.cons (W.ifF [] hrm OnOk.none trivial ?_)
   refine W.cons (W.ifF [] hrm OnOk.none trivial ?_)
   refine W.cons (W.ifF [] hrm OnOk.none trivial ?_)
   refine W.cons (W.ifF [] hrm OnOk.none trivial ?_)
   refine W.cons (W.ifT [] hrm OnOk.none trivial ?_)
   refine W.cons (W.setSub rfl (W.e0 (.int 0) hrm (W.subO rfl (W.e0 (.raw (.ref ld)) hrm (W.e0 (.int cu) hrm ⟨ld, .idict L, .raw (.ref a), [], rfl, .inl hL, by simp only [ownSub, hlk], trivial, ?_⟩)))))
   refine W.e0 (.str "at") hrm ⟨a, .sdict (lotD l rr), .sdict (lotD { l with at_ := 0 } rr), _, rfl, hlot.1, rfl, ⟨by show 3 < 1000000; decide, trivial⟩, ?_⟩
   have hL1 : (H.upd a (.sdict (lotD { l with at_ := 0 } rr))) ld = some (.idict L) := by refine rG (TM.upd_ne hla) ?_; exact hL
   refine W.cons (W.ret (W.eqO hrm rfl (W.subO rfl (W.subO rfl (W.e0 (.raw (.ref ld)) hrm (W.e0 (.int cu) hrm ⟨ld, .idict L, .raw (.ref a), [], rfl, .inl hL1, by simp only [ownSub, hlk], trivial, ?_⟩))))))
   refine W.e0 (.str "rows") hrm ⟨a, .sdict (lotD { l with at_ := 0 } rr), .raw (.ref rr), [], rfl, TM.upd_self _ _ _, rfl, trivial, ?_⟩
   refine W.e0 (.lst []) hrm ⟨rr, _, rowsMV l.rows, _, .list [], rfl, by refine rG (TM.upd_ne hra) ?_; exact hlot.2, .inr rfl, rows_dat l.rows, rfl, rows_shaped hok.2.1, rfl, ?_⟩
   refine ⟨?_, hset _ rr { l with at_ := 0 } ⟨TM.upd_self _ _ _, by refine rG (TM.upd_ne hra) ?_; exact hlot.2⟩ (.inl rfl) fun b b1 b2 b3 => TM.upd_ne b1⟩
   cases l.rows <;> rfl
 ·injection hs
set_option tactic.hygienic true in
theorem do_next {n : Nat} {hd ld an : Addr} {v : Vm} {cu lb : Int} (hA : Room A 8) (h : VmAt hd ld an H v) (hv : VmOk n v) : DoC c A H n hd ld an v (.next cu lb) := fun v' b hs => by
 simp only [doIns] at hs
 split at hs
 ·rename_i l hk
  cases hs
  obtain ⟨L, a, rr, hL, hlk, hlot, hset⟩ := h.lot hv.nd hk
  have hok := (hv.lots _ (look_in hk)).1
  have hla : ld ≠ a := by rintro rfl; have q := hlot.1; rw [hL] at q; cases q
  have hra : rr ≠ a := by rintro rfl; have q := hlot.2; rw [hlot.1] at q; cases q
  ·refine CallW.bd (names := ["order", "held", "lots", "answer"]) (fDo_at c) hA.depth fDo_ok (bind4 fun p S a b d e => by kernel_rfl) fun Lo => ?_
   have hA' := hA.deeper (callEnvM fDo Lo 1333)
   have hrm := hA'.rm
   refine W.cons (W.asgB hrm.1 (W.e0 (.lst (insMV (.next cu lb))) hrm ⟨by kernel_rfl, ?_⟩))
   refine W.cons (W.ifF [] hrm OnOk.none trivial ?_)
   refine W.cons (W.ifF [] hrm OnOk.none trivial ?_)
   refine W.cons (W.ifF [] hrm OnOk.none trivial ?_)
   refine W.cons (W.ifF [] hrm OnOk.none trivial ?_)
   refine W.cons (W.ifF [] hrm OnOk.none trivial ?_)
   refine W.cons (W.ifF [] hrm OnOk.none trivial ?_)
   refine W.cons (W.ifT [] hrm OnOk.none trivial ?_)
   refine W.cons (W.setSub rfl (W.bin (W.subO rfl (W.subO rfl (W.e0 (.raw (.ref ld)) hrm (W.e0 (.int cu) hrm ⟨ld, .idict L, .raw (.ref a), [], rfl, .inl hL, by simp only [ownSub, hlk], trivial, ?_⟩))))))
   refine W.e0 (.str "at") hrm ⟨a, .sdict (lotD l rr), .int l.at_, [], rfl, hlot.1, rfl, trivial, ?_⟩
   refine W.e0 (.int 1) hrm ⟨.int (l.at_ + 1), [], rfl, trivial, ?_⟩
   refine W.subO rfl (W.e0 (.raw (.ref ld)) hrm (W.e0 (.int cu) hrm ⟨ld, .idict L, .raw (.ref a), [], rfl, .inl hL, by simp only [ownSub, hlk], trivial, ?_⟩))
   refine W.e0 (.str "at") hrm ⟨a, .sdict (lotD l rr), .sdict (lotD { l with at_ := l.at_ + 1 } rr), _, rfl, hlot.1, rfl, ⟨by show 3 < 1000000; decide, trivial⟩, ?_⟩
   have hL1 : (H.upd a (.sdict (lotD { l with at_ := l.at_ + 1 } rr))) ld = some (.idict L) := by refine rG (TM.upd_ne hla) ?_; exact hL
   have hr1 : (H.upd a (.sdict (lotD { l with at_ := l.at_ + 1 } rr))) rr = some (.plist (rowsMV l.rows)) := by refine rG (TM.upd_ne hra) ?_; exact hlot.2
   refine W.cons (W.ret (W.cmp hrm rfl (W.subO rfl (W.subO rfl (W.e0 (.raw (.ref ld)) hrm (W.e0 (.int cu) hrm ⟨ld, .idict L, .raw (.ref a), [], rfl, .inl hL1, by simp only [ownSub, hlk], trivial, ?_⟩))))))
   refine W.e0 (.str "at") hrm ⟨a, .sdict (lotD { l with at_ := l.at_ + 1 } rr), .int (l.at_ + 1), [], rfl, TM.upd_self _ _ _, rfl, trivial, ?_⟩
   refine W.callNm (.raw (.builtin "len")) (by kernel_rfl) (by kernel_rfl) (W.ec (W.subO rfl (W.subO rfl (W.e0 (.raw (.ref ld)) hrm (W.e0 (.int cu) hrm ⟨ld, .idict L, .raw (.ref a), [], rfl, .inl hL1, by simp only [ownSub, hlk], trivial, ?_⟩)))))
   refine W.e0 (.str "rows") hrm ⟨a, .sdict (lotD { l with at_ := l.at_ + 1 } rr), .raw (.ref rr), [], rfl, TM.upd_self _ _ _, rfl, trivial, ?_⟩
   have hlr : (rowsMV l.rows).length = l.rows.length := List.length_map ..
   refine W.items_nil (CallP.lenO hr1 (.inr rfl) (by have h60 : l.rows.length < 60 := hok.2.2.1; lia) ⟨decide (l.at_ + 1 < ((rowsMV l.rows).length : Int)), [], rfl, trivial, ?_⟩)
   refine rG hlr ?_
   exact ⟨rfl, hset _ rr { l with at_ := l.at_ + 1 } ⟨TM.upd_self _ _ _, hr1⟩ (.inl rfl) fun b b1 b2 b3 => TM.upd_ne b1⟩
 ·injection hs
set_option tactic.hygienic true in
theorem do_column {n : Nat} {hd ld an : Addr} {v : Vm} {cu ai r : Int} (hA : Room A 8) (h : VmAt hd ld an H v) (hv : VmOk n v) (hn : n ≤ 100) (z1 : v.held.length < 900000) : DoC c A H n hd ld an v (.column cu ai r) := fun v' b hs => by
 simp only [doIns] at hs
 split at hs
 ·rename_i l hk
  split at hs
  ·rename_i row hrow
   split at hs
   ·rename_i hai
    split at hs
    ·rename_i w hw
     cases hs
     obtain ⟨L, a, rr, hL, hlk, hlot, hset⟩ := h.lot hv.nd hk
     have hok := (hv.lots _ (look_in hk)).1
     have hlr : (rowsMV l.rows).length = l.rows.length := List.length_map ..
     have hlt := (List.getElem?_eq_some_iff.mp hrow).1
     have hlw := (List.getElem?_eq_some_iff.mp hw).1
     have h60 : l.rows.length < 60 := hok.2.2.1
     have h0 : 0 ≤ l.at_ := hok.2.2.2.1
     have hrl := (hok.2.1 row (List.mem_of_getElem? hrow)).1
     have g1 : (rowsMV l.rows).getD l.at_.toNat .none = .lst (row.map Wt.mv) := by
      (refine rG List.getD_eq_getElem?_getD ?_; rewrite [rowsMV]; refine rG List.getElem?_map ?_; refine rG hrow ?_); rfl
     have g2 : (row.map Wt.mv).getD ai.toNat .none = w.mv := by
      (refine rG List.getD_eq_getElem?_getD ?_; refine rG List.getElem?_map ?_; refine rG hw ?_); rfl
     refine CallW.bd (names := ["order", "held", "lots", "answer"]) (fDo_at c) hA.depth fDo_ok (bind4 fun p S a b d e => by kernel_rfl) fun Lo => ?_
     have hA' := hA.deeper (callEnvM fDo Lo 1333)
     have hrm := hA'.rm
     refine W.cons (W.asgB hrm.1 (W.e0 (.lst (insMV (.column cu ai r))) hrm ⟨by kernel_rfl, ?_⟩))
     refine W.cons (W.ifF [] hrm OnOk.none trivial ?_)
     refine W.cons (W.ifF [] hrm OnOk.none trivial ?_)
     refine W.cons (W.ifF [] hrm OnOk.none trivial ?_)
     refine W.cons (W.ifF [] hrm OnOk.none trivial ?_)
     refine W.cons (W.ifT [] hrm OnOk.none trivial ?_)
     refine W.cons (W.setSub rfl (W.sub rfl (W.subO rfl (W.subO rfl (W.subO rfl (W.e0 (.raw (.ref ld)) hrm (W.e0 (.int cu) hrm ⟨ld, .idict L, .raw (.ref a), [], rfl, .inl hL, by simp only [ownSub, hlk], trivial, ?_⟩)))))))
     refine W.e0 (.str "rows") hrm ⟨a, .sdict (lotD l rr), .raw (.ref rr), [], rfl, hlot.1, rfl, trivial, ?_⟩
     refine W.subO rfl (W.subO rfl (W.e0 (.raw (.ref ld)) hrm (W.e0 (.int cu) hrm ⟨ld, .idict L, .raw (.ref a), [], rfl, .inl hL, by simp only [ownSub, hlk], trivial, ?_⟩)))
     refine W.e0 (.str "at") hrm ⟨a, .sdict (lotD l rr), .int l.at_, [], rfl, hlot.1, rfl, trivial, ?_⟩
     refine ⟨rr, .list (rowsMV l.rows), .lst (row.map Wt.mv), [0 ≤ l.at_, l.at_ < ((rowsMV l.rows).length : Int), (rowsMV l.rows).length < 1000000], rfl, ⟨_, hlot.2, .inr rfl⟩, by refine rL g1 ?_; rfl, ⟨h0, by lia, by lia, trivial⟩, ?_⟩
     refine W.e0 (.int ai) hrm ⟨w.mv, [0 ≤ ai, ai < ((row.map Wt.mv).length : Int), (row.map Wt.mv).length < 1000000], by refine rL g2 ?_; rfl, ⟨hai, by refine rG (List.length_map ..) ?_; lia, by refine rG (List.length_map ..) ?_; lia, trivial⟩, ?_⟩
     refine W.e0 (.raw (.ref hd)) hrm (W.e0 (.int r) hrm ⟨hd, _, _, _, rfl, h.held, rfl, ⟨by refine rG (List.length_map ..) ?_; lia, trivial⟩, ?_⟩)
     exact W.nil (W.nil (W.nil (W.nil (W.nil (W.cons (W.re (.bool false) hrm OnOk.none ⟨rfl, h.hold r (.w w)⟩))))))
    ·injection hs
   ·injection hs
  ·injection hs
 ·injection hs
end
end Mine
namespace Mine
open Builtin.Str
section
variable {c : Cx} {A : Around} {H : TM}
set_option tactic.hygienic true in
theorem do_foundtrue {n : Nat} {hd ld an : Addr} {v : Vm} {cu lb f m : Int} (hA : Room A 8) (h : VmAt hd ld an H v) (hv : VmOk n v) (hn : N12 n) : DoC c A H n hd ld an v (.found true cu lb f m) := fun v' b hs => by
 simp only [doIns] at hs
 split at hs
 ·rename_i hm
  subst hm
  split at hs
  ·rename_i l row hk hrow
   split at hs
   ·rename_i hrok
    cases hs
    have hn' : n ≤ 100 := by rcases hn with rfl | rfl <;> decide
    obtain ⟨hl, hg⟩ := getN_len hrow
    obtain ⟨L, a, rr, hL, hlk, hlot, hset⟩ := h.lot hv.nd hk
    have hok := (hv.lots _ (look_in hk)).1
    refine CallW.bd (names := ["order", "held", "lots", "answer"]) (fDo_at c) hA.depth fDo_ok (bind4 fun p S a b d e => by kernel_rfl) fun Lo => ?_
    have hA' := hA.deeper (callEnvM fDo Lo 1333)
    have hrm := hA'.rm
    refine W.cons (W.asgB hrm.1 (W.e0 (.lst (insMV (.found true cu lb f n))) hrm ⟨by kernel_rfl, ?_⟩))
    refine W.cons (W.ifF [] hrm OnOk.none trivial ?_)
    refine W.cons (W.ifF [] hrm OnOk.none trivial ?_)
    refine W.cons (W.ifF [] hrm OnOk.none trivial ?_)
    refine W.cons (W.ifF [] hrm OnOk.none trivial ?_)
    refine W.cons (W.ifF [] hrm OnOk.none trivial ?_)
    refine W.cons (W.ifF [] hrm OnOk.none trivial ?_)
    refine W.cons (W.ifF [] hrm OnOk.none trivial ?_)
    refine W.cons (W.ifT [SeqAt.shaped (.tuple [.str "Found", .str "NotFound"]) = true, SeqAt.shaped (.str "Found") = true] hrm OnOk.none ⟨by decide +kernel, by decide +kernel, trivial⟩ ?_)
    refine W.cons (W.asgV (W.callName (.raw (.ref 1328)) (by kernel_rfl) (by kernel_rfl) (W.ec (W.subO rfl (W.e0 (.raw (.ref ld)) hrm (W.e0 (.int cu) hrm ⟨ld, .idict L, .raw (.ref a), [], rfl, .inl hL, by simp only [ownSub, hlk], trivial, ?_⟩))))))
    refine W.ec (W.compMap (List.range n) (fun k => .int (k : Int)) (fun k => (row.getD k .none).mv) hrm.1 (W.eC (.rng (n : Int).toNat) [(0 : Int) ≤ (n : Int)] hrm ⟨by lia, trivial⟩ ⟨rfl, by refine rG (Int.toNat_natCast ..) ?_; rfl, by refine rG List.length_range ?_; lia, fun C m0 k hk => ⟨m0.set "k" (.int (k : Int)), by kernel_rfl, W.subO rfl (W.e0 (.raw (.ref hd)) hrm (W.e0 (.int (f + (k : Int))) hrm ⟨hd, .idict (v.held.map fun x => (x.1, x.2.mv)), (row.getD k .none).mv, [], rfl, .inl h.held, own (hg k (List.mem_range.mp hk)), trivial, rfl, rfl, rfl⟩))⟩, ?_⟩))
    refine rG (getD_mv hl) ?_
    refine W.items_nil ((spot_ok hn (hA'.less (by first | decide | lia)) hlot hok hrok).val2 ?_)
    refine ⟨by kernel_rfl, ?_⟩
    cases hsp : l.spot row with
    | some i =>
     refine W.cons (W.reC (.bool (PyData.eqv (.bool (decide ((i : Int) ≥ 0))) (.bool true))) [SeqAt.shaped (.bool (decide ((i : Int) ≥ 0))) = true, SeqAt.shaped (.bool true) = true] hrm OnOk.none ⟨rfl, rfl, trivial⟩ ⟨?_, h⟩)
     refine rG (decide_eq_true (by lia : (i : Int) ≥ 0)) ?_; rfl
    | none =>
     refine W.cons (W.reC (.bool (PyData.eqv (.bool false) (.bool true))) [SeqAt.shaped (.bool false) = true, SeqAt.shaped (.bool true) = true] hrm OnOk.none ⟨rfl, rfl, trivial⟩ ⟨rfl, h⟩)
   ·cases hs
  ·cases hs
 ·cases hs
set_option tactic.hygienic true in
theorem do_foundfalse {n : Nat} {hd ld an : Addr} {v : Vm} {cu lb f m : Int} (hA : Room A 8) (h : VmAt hd ld an H v) (hv : VmOk n v) (hn : N12 n) : DoC c A H n hd ld an v (.found false cu lb f m) := fun v' b hs => by
 simp only [doIns] at hs
 split at hs
 ·rename_i hm
  subst hm
  split at hs
  ·rename_i l row hk hrow
   split at hs
   ·rename_i hrok
    cases hs
    have hn' : n ≤ 100 := by rcases hn with rfl | rfl <;> decide
    obtain ⟨hl, hg⟩ := getN_len hrow
    obtain ⟨L, a, rr, hL, hlk, hlot, hset⟩ := h.lot hv.nd hk
    have hok := (hv.lots _ (look_in hk)).1
    refine CallW.bd (names := ["order", "held", "lots", "answer"]) (fDo_at c) hA.depth fDo_ok (bind4 fun p S a b d e => by kernel_rfl) fun Lo => ?_
    have hA' := hA.deeper (callEnvM fDo Lo 1333)
    have hrm := hA'.rm
    refine W.cons (W.asgB hrm.1 (W.e0 (.lst (insMV (.found false cu lb f n))) hrm ⟨by kernel_rfl, ?_⟩))
    refine W.cons (W.ifF [] hrm OnOk.none trivial ?_)
    refine W.cons (W.ifF [] hrm OnOk.none trivial ?_)
    refine W.cons (W.ifF [] hrm OnOk.none trivial ?_)
    refine W.cons (W.ifF [] hrm OnOk.none trivial ?_)
    refine W.cons (W.ifF [] hrm OnOk.none trivial ?_)
    refine W.cons (W.ifF [] hrm OnOk.none trivial ?_)
    refine W.cons (W.ifF [] hrm OnOk.none trivial ?_)
    refine W.cons (W.ifT [SeqAt.shaped (.tuple [.str "Found", .str "NotFound"]) = true, SeqAt.shaped (.str "NotFound") = true] hrm OnOk.none ⟨by decide +kernel, by decide +kernel, trivial⟩ ?_)
    refine W.cons (W.asgV (W.callName (.raw (.ref 1328)) (by kernel_rfl) (by kernel_rfl) (W.ec (W.subO rfl (W.e0 (.raw (.ref ld)) hrm (W.e0 (.int cu) hrm ⟨ld, .idict L, .raw (.ref a), [], rfl, .inl hL, by simp only [ownSub, hlk], trivial, ?_⟩))))))
    refine W.ec (W.compMap (List.range n) (fun k => .int (k : Int)) (fun k => (row.getD k .none).mv) hrm.1 (W.eC (.rng (n : Int).toNat) [(0 : Int) ≤ (n : Int)] hrm ⟨by lia, trivial⟩ ⟨rfl, by refine rG (Int.toNat_natCast ..) ?_; rfl, by refine rG List.length_range ?_; lia, fun C m0 k hk => ⟨m0.set "k" (.int (k : Int)), by kernel_rfl, W.subO rfl (W.e0 (.raw (.ref hd)) hrm (W.e0 (.int (f + (k : Int))) hrm ⟨hd, .idict (v.held.map fun x => (x.1, x.2.mv)), (row.getD k .none).mv, [], rfl, .inl h.held, own (hg k (List.mem_range.mp hk)), trivial, rfl, rfl, rfl⟩))⟩, ?_⟩))
    refine rG (getD_mv hl) ?_
    refine W.items_nil ((spot_ok hn (hA'.less (by first | decide | lia)) hlot hok hrok).val2 ?_)
    refine ⟨by kernel_rfl, ?_⟩
    cases hsp : l.spot row with
    | some i =>
     refine W.cons (W.reC (.bool (PyData.eqv (.bool (decide ((i : Int) ≥ 0))) (.bool false))) [SeqAt.shaped (.bool (decide ((i : Int) ≥ 0))) = true, SeqAt.shaped (.bool false) = true] hrm OnOk.none ⟨rfl, rfl, trivial⟩ ⟨?_, h⟩)
     refine rG (decide_eq_true (by lia : (i : Int) ≥ 0)) ?_; rfl
    | none =>
     refine W.cons (W.reC (.bool (PyData.eqv (.bool false) (.bool false))) [SeqAt.shaped (.bool false) = true, SeqAt.shaped (.bool false) = true] hrm OnOk.none ⟨rfl, rfl, trivial⟩ ⟨rfl, h⟩)
   ·cases hs
  ·cases hs
 ·cases hs
set_option tactic.hygienic true in
theorem do_insert {n : Nat} {hd ld an : Addr} {v : Vm} {cu r : Int} (hA : Room A 8) (h : VmAt hd ld an H v) (hv : VmOk n v) (hn : N12 n) : DoC c A H n hd ld an v (.insert cu r) := fun v' b hs => by
 simp only [doIns] at hs
 split at hs
 ·rename_i l row hk hrow
  split at hs
  ·rename_i hrok
   cases hs
   obtain ⟨L, a, rr, hL, hlk, hlot, hset⟩ := h.lot hv.nd hk
   obtain ⟨hok, hnd⟩ := hv.lots _ (look_in hk)
   refine CallW.bd (names := ["order", "held", "lots", "answer"]) (fDo_at c) hA.depth fDo_ok (bind4 fun p S a b d e => by kernel_rfl) fun Lo => ?_
   have hA' := hA.deeper (callEnvM fDo Lo 1333)
   have hrm := hA'.rm
   refine W.cons (W.asgB hrm.1 (W.e0 (.lst (insMV (.insert cu r))) hrm ⟨by kernel_rfl, ?_⟩))
   refine W.cons (W.ifF [] hrm OnOk.none trivial ?_)
   refine W.cons (W.ifF [] hrm OnOk.none trivial ?_)
   refine W.cons (W.ifF [] hrm OnOk.none trivial ?_)
   refine W.cons (W.ifF [] hrm OnOk.none trivial ?_)
   refine W.cons (W.ifF [] hrm OnOk.none trivial ?_)
   refine W.cons (W.ifF [] hrm OnOk.none trivial ?_)
   refine W.cons (W.ifF [] hrm OnOk.none trivial ?_)
   refine W.cons (W.ifF [SeqAt.shaped (.tuple [.str "Found", .str "NotFound"]) = true, SeqAt.shaped (.str "IdxInsert") = true] hrm OnOk.none ⟨by decide +kernel, by decide +kernel, trivial⟩ ?_)
   refine W.cons (W.ex (W.callName (.raw (.ref 1340)) (by kernel_rfl) (by kernel_rfl) (W.ec (W.e0 (.str "IdxInsert") hrm (W.ec ?_)))))
   refine W.subO rfl (W.e0 (.raw (.ref ld)) hrm (W.e0 (.int cu) hrm ⟨ld, .idict L, .raw (.ref a), [], rfl, .inl hL, by simp only [ownSub, hlk], trivial, ?_⟩))
   refine W.ec (W.ifExp (W.testCmp hrm rfl (W.e0 (.str "IdxInsert") hrm (W.e0 (.str "IdxInsert") hrm ⟨true, [], rfl, trivial, ?_⟩))))
   refine W.subO rfl (W.e0 (.raw (.ref hd)) hrm (W.e0 (.int r) hrm ⟨hd, .idict (v.held.map fun x => (x.1, x.2.mv)), .lst (row.map Wt.mv), [], rfl, .inl h.held, own hrow, trivial, ?_⟩))
   have h50 : l.rows.length < 50 := hrok.2
   refine W.items_nil ((change_ok hn (ins := true) (hA'.less (by first | decide | lia)) rfl hlot hok hnd (by lia) hrok.1).mono fun u G hpat => ?_)
   obtain ⟨rr', q1, q2, q3⟩ := hpat
   have := hset G rr' (l.put row) q1 q2 q3
   exact W.nil (W.nil (W.nil (W.nil (W.nil (W.nil (W.nil (W.nil (W.cons (W.re (.bool false) hrm OnOk.none ⟨rfl, this⟩)))))))))
  ·injection hs
 ·injection hs
set_option tactic.hygienic true in
theorem do_delete {n : Nat} {hd ld an : Addr} {v : Vm} {cu f m : Int} (hA : Room A 8) (h : VmAt hd ld an H v) (hv : VmOk n v) (hn : N12 n) : DoC c A H n hd ld an v (.delete cu f m) := fun v' b hs => by
 simp only [doIns] at hs
 split at hs
 ·rename_i hm
  subst hm
  split at hs
  ·rename_i l row hk hrow
   split at hs
   ·rename_i hrok
    cases hs
    have hn' : n ≤ 100 := by rcases hn with rfl | rfl <;> decide
    obtain ⟨hl, hg⟩ := getN_len hrow
    obtain ⟨L, a, rr, hL, hlk, hlot, hset⟩ := h.lot hv.nd hk
    obtain ⟨hok, hnd⟩ := hv.lots _ (look_in hk)
    refine CallW.bd (names := ["order", "held", "lots", "answer"]) (fDo_at c) hA.depth fDo_ok (bind4 fun p S a b d e => by kernel_rfl) fun Lo => ?_
    have hA' := hA.deeper (callEnvM fDo Lo 1333)
    have hrm := hA'.rm
    refine W.cons (W.asgB hrm.1 (W.e0 (.lst (insMV (.delete cu f n))) hrm ⟨by kernel_rfl, ?_⟩))
    refine W.cons (W.ifF [] hrm OnOk.none trivial ?_)
    refine W.cons (W.ifF [] hrm OnOk.none trivial ?_)
    refine W.cons (W.ifF [] hrm OnOk.none trivial ?_)
    refine W.cons (W.ifF [] hrm OnOk.none trivial ?_)
    refine W.cons (W.ifF [] hrm OnOk.none trivial ?_)
    refine W.cons (W.ifF [] hrm OnOk.none trivial ?_)
    refine W.cons (W.ifF [] hrm OnOk.none trivial ?_)
    refine W.cons (W.ifF [SeqAt.shaped (.tuple [.str "Found", .str "NotFound"]) = true, SeqAt.shaped (.str "IdxDelete") = true] hrm OnOk.none ⟨by decide +kernel, by decide +kernel, trivial⟩ ?_)
    refine W.cons (W.ex (W.callName (.raw (.ref 1340)) (by kernel_rfl) (by kernel_rfl) (W.ec (W.e0 (.str "IdxDelete") hrm (W.ec ?_)))))
    refine W.subO rfl (W.e0 (.raw (.ref ld)) hrm (W.e0 (.int cu) hrm ⟨ld, .idict L, .raw (.ref a), [], rfl, .inl hL, by simp only [ownSub, hlk], trivial, ?_⟩))
    refine W.ec (W.ifExp (W.testCmp hrm rfl (W.e0 (.str "IdxDelete") hrm (W.e0 (.str "IdxInsert") hrm ⟨false, [], rfl, trivial, ?_⟩))))
    refine W.compMap (List.range n) (fun k => .int (k : Int)) (fun k => (row.getD k .none).mv) hrm.1 (W.eC (.rng (n : Int).toNat) [(0 : Int) ≤ (n : Int)] hrm ⟨by lia, trivial⟩ ⟨rfl, by refine rG (Int.toNat_natCast ..) ?_; rfl, by refine rG List.length_range ?_; lia, fun C m0 k hk => ⟨m0.set "k" (.int (k : Int)), by kernel_rfl, W.subO rfl (W.e0 (.raw (.ref hd)) hrm (W.e0 (.int (f + (k : Int))) hrm ⟨hd, .idict (v.held.map fun x => (x.1, x.2.mv)), (row.getD k .none).mv, [], rfl, .inl h.held, own (hg k (List.mem_range.mp hk)), trivial, rfl, rfl, rfl⟩))⟩, ?_⟩)
    refine rG (getD_mv hl) ?_
    have h50 : l.rows.length < 50 := hrok.2
    refine W.items_nil ((change_ok hn (ins := false) (hA'.less (by first | decide | lia)) rfl hlot hok hnd (by lia) hrok.1).mono fun u G hpat => ?_)
    obtain ⟨rr', q1, q2, q3⟩ := hpat
    have := hset G rr' (l.del row) q1 q2 q3
    exact W.nil (W.nil (W.nil (W.nil (W.nil (W.nil (W.nil (W.nil (W.cons (W.re (.bool false) hrm OnOk.none ⟨rfl, this⟩)))))))))
   ·injection hs
  ·injection hs
 ·injection hs
theorem do_ok {n : Nat} (hn : N12 n) {hd ld an : Addr} {v : Vm} (i : Ins) (hA : Room A 8) (h : VmAt hd ld an H v) (hv : VmOk n v) (z1 : v.held.length < 900000) (z2 : v.lots.length < 900000) (z3 : v.ans.length < 900000) : DoC c A H n hd ld an v i := by
 have hn' : n ≤ 100 := by rcases hn with rfl | rfl <;> decide
 cases i with
 | value t w => exact do_value hA h z1
 | record f m r => exact do_record hn' hA h z1
 | result f m => exact do_result hn' hA h z3
 | openE cu cols => exact do_open hA h hn' z2
 | column cu a r => exact do_column hA h hv hn' z1
 | rewind cu l => exact do_rewind hA h hv
 | next cu l => exact do_next hA h hv
 | found b cu l f m => cases b with
  | true => exact do_foundtrue hA h hv hn
  | false => exact do_foundfalse hA h hv hn
 | insert cu r => exact do_insert hA h hv hn
 | delete cu f m => exact do_delete hA h hv hn
 | halt => exact fun v' b hs => by injection hs
end
end Mine
namespace Mine
noncomputable def Ins.tgt (i : Ins) : Int := i.target.getD 0
noncomputable def ranVm (n : Nat) (cd : List Ins) : Nat → Int → Vm → Option (List (List Wt))
 | 0, _, _ => none
 | k + 1, at_, v => if at_ < 0 then none else match cd[at_.toNat]? with
  | none => none
  | some .halt => some v.ans
  | some i => (match doIns n v i with
   | some (v', b) => ranVm n cd k (if b then i.tgt else at_ + 1) v'
   | none => none)
theorem LM.put_same {m : LM} {x : Str} {o : Option MV} (h : m x = o) : m.put x o = m := by
 subst h; exact LM.put_self m x
theorem LM.put2_set1 {m : LM} {x y : Str} {o1 o2 : Option MV} {v : MV} (h : x ≠ y) : ((m.put x o1).put y o2).set x v = (m.put x (some v)).put y o2 := by
 funext z
 simp only [LM.set, LM.put]
 by_cases h1 : z = x
 ·(refine rG (if_pos h1) ?_; refine rG (if_neg (by rw [h1]; exact h)) ?_; refine rG (if_pos h1) ?_; rfl)
 ·refine rG (if_neg h1) ?_
  by_cases h2 : z = y
  ·(refine rG (if_pos h2) ?_; refine rG (if_pos h2) ?_; rfl)
  ·(refine rG (if_neg h2) ?_; refine rG (if_neg h2) ?_; refine rG (if_neg h1) ?_; refine rG (if_neg h1) ?_; rfl)
inductive DoOk (n : Nat) (v : Vm) (i : Ins) (v' : Vm) (b : Bool) : Prop
 | mk (ok : VmOk n v') (h : v'.held.length ≤ v.held.length + 1) (l : v'.lots.length ≤ v.lots.length + 1) (a : v'.ans.length ≤ v.ans.length + 1) (t : b = true → ∃ l, i.target = some l) : DoOk n v i v' b
theorem some2 {α β : Type} {a a' : α} {b b' : β} (h : some (a, b) = some (a', b')) {G : α → β → Prop} (g : G a b) : G a' b' := by cases h; exact g
theorem ran_stp {n : Nat} {cd : List Ins} {k : Nat} {at_ : Int} {v : Vm} {i : Ins} {out : List (List Wt)} (h : (match doIns n v i with | some (v', b) => ranVm n cd k (if b then i.tgt else at_ + 1) v' | none => none) = some out) :
  ∃ v' b, doIns n v i = some (v', b) ∧ ranVm n cd k (if b then i.tgt else at_ + 1) v' = some out := by
 cases q : doIns n v i with
 | none => rw [q] at h; cases h
 | some p => rw [q] at h; exact i2a2 p.1 p.2 rfl h
set_option tactic.hygienic true in
theorem doIns_ok {n : Nat} {v v' : Vm} {i : Ins} {b : Bool} (hv : VmOk n v) (h : doIns n v i = some (v', b)) : DoOk n v i v' b := by
 have held : ∀ k x, VmOk n { v with held := putL v.held k x } := fun k x => ⟨hv.lots, hv.nd⟩
 have lots : ∀ {cu : Int} {l : Lot}, look v.lots cu = some l → ∀ l' : Lot, l'.ok n ∧ l'.nd → VmOk n { v with lots := putL v.lots cu l' } ∧ (putL v.lots cu l').length ≤ v.lots.length + 1 := fun {cu l} hk l' hl' => by
  refine ⟨⟨fun x hx => ?_, ?_⟩, putL_len _ _ _⟩
  ·have hx : x ∈ putL v.lots cu l' := hx
   unfold putL at hx
   split at hx
   ·(refine x1a2 (List.mem_map.mp hx) fun y hy e92 => ?_; subst e92)
    split
    ·exact hl'
    ·exact hv.lots y hy
   ·rcases List.mem_append.mp hx with q | q
    ·exact hv.lots x q
    ·rw [List.mem_singleton] at q; subst q; exact hl'
  ·have hany : (v.lots.any fun kv => decide (kv.1 = cu)) = true := List.any_eq_true.mpr ⟨_, look_in hk, decide_eq_true rfl⟩
   show ((putL v.lots cu l').map (·.1)).Nodup
   (rewrite [putL]; refine rG (if_pos hany) ?_; refine rG List.map_map ?_)
   have : v.lots.map ((fun x => x.1) ∘ fun kv => if kv.1 = cu then (kv.1, l') else kv) = v.lots.map (·.1) := List.map_congr_left fun x _ => by
    show (if x.1 = cu then (x.1, l') else x).1 = x.1
    split <;> rfl
   refine rG this ?_; exact hv.nd
 cases i with
 | value t w => simp only [doIns] at h; exact some2 h ⟨held _ _, putL_len _ _ _, by show v.lots.length ≤ _; lia, by show v.ans.length ≤ _; lia, fun e => by injection e⟩
 | record f m r =>
  simp only [doIns] at h
  split at h
  ·split at h
   ·exact some2 h ⟨held _ _, putL_len _ _ _, by show v.lots.length ≤ _; lia, by show v.ans.length ≤ _; lia, fun e => by injection e⟩
   ·injection h
  ·injection h
 | result f m =>
  simp only [doIns] at h
  split at h
  ·split at h
   ·exact some2 h ⟨⟨hv.lots, hv.nd⟩, by show v.held.length ≤ _; lia, by show v.lots.length ≤ _; lia, by simp, fun e => by injection e⟩
   ·injection h
  ·injection h
 | openE cu cols =>
  simp only [doIns] at h
  split at h
  ·injection h
  ·rename_i hk
   split at h
   ·rename_i hc
    refine some2 h ?_
    refine ⟨⟨fun x hx => ?_, ?_⟩, by show v.held.length ≤ _; lia, by simp, by show v.ans.length ≤ _; lia, fun e => by injection e⟩
    ·rcases List.mem_append.mp hx with q | q
     ·exact hv.lots x q
     ·rw [List.mem_singleton] at q; subst q
      exact ⟨⟨hc, fun r hr => (nomatch hr), by show 0 < 60; decide, Int.le_refl _, trivial⟩, List.nodup_nil⟩
    ·show ((v.lots ++ [(cu, (⟨cols, [], 0⟩ : Lot))]).map (·.1)).Nodup
     (refine rG List.map_append ?_; rewrite [List.nodup_append])
     refine ⟨hv.nd, by simp, fun x hx y hy e => ?_⟩
     simp at hy
     refine x1a2 (List.mem_map.mp hx) fun z hz q => ?_
     have : ∀ {l : List (Int × Lot)}, z ∈ l → look l cu = none → False := fun {l} => by
      induction l with
      | nil => intro h; contradiction
      | cons y l ih =>
       intro h hh
       obtain ⟨a, w⟩ := y
       rw [look] at hh
       split at hh
       ·injection hh
       ·rename_i n
        rcases List.mem_cons.mp h with rfl | h
        ·exact n (q.trans (e.trans hy))
        ·exact ih h hh
     exact this hz hk
   ·injection h
 | column cu a r =>
  simp only [doIns] at h
  split at h
  ·split at h
   ·split at h
    ·split at h
     ·exact some2 h ⟨held _ _, putL_len _ _ _, by show v.lots.length ≤ _; lia, by show v.ans.length ≤ _; lia, fun e => by injection e⟩
     ·injection h
    ·injection h
   ·injection h
  ·injection h
 | rewind cu l =>
  simp only [doIns] at h
  split at h
  ·rename_i lt hk
   refine some2 h ?_
   obtain ⟨⟨g1, g2, g3, g4, g5⟩, g6⟩ := hv.lots _ (look_in hk)
   refine x0a2 (lots hk { lt with at_ := 0 } ⟨⟨g1, g2, g3, Int.le_refl _, trivial⟩, g6⟩) fun q1 q2 => ?_
   exact ⟨q1, by show v.held.length ≤ _; lia, q2, by show v.ans.length ≤ _; lia, fun _ => ⟨_, rfl⟩⟩
  ·injection h
 | next cu l =>
  simp only [doIns] at h
  split at h
  ·rename_i lt hk
   refine some2 h ?_
   obtain ⟨⟨g1, g2, g3, g4, g5⟩, g6⟩ := hv.lots _ (look_in hk)
   (refine x0a2 (lots hk { lt with at_ := lt.at_ + 1 } ⟨⟨g1, g2, g3, by show 0 ≤ lt.at_ + 1; have : 0 ≤ lt.at_ := g4; lia, trivial⟩, g6⟩) fun q1 q2 => ?_)
   exact ⟨q1, by show v.held.length ≤ _; lia, q2, by show v.ans.length ≤ _; lia, fun _ => ⟨_, rfl⟩⟩
  ·injection h
 | found p cu l f m =>
  simp only [doIns] at h
  split at h
  ·split at h
   ·split at h
    ·exact some2 h ⟨hv, by lia, by lia, by lia, fun _ => ⟨_, rfl⟩⟩
    ·injection h
   ·injection h
  ·injection h
 | insert cu r =>
  simp only [doIns] at h
  split at h
  ·rename_i lt row hk hrow
   split at h
   ·rename_i hr
    refine some2 h ?_
    obtain ⟨⟨g1, g2, g3, g4, g5⟩, g6⟩ := hv.lots _ (look_in hk)
    have hp := (srt_ok lt.by_ (lt.less row ++ [row])).1
    have hlen := hp.length_eq
    have hle := lt.less_len row
    have k1 : ∀ r ∈ (lt.put row).rows, RowOk n r := fun r hr' => by
     rcases List.mem_append.mp (hp.mem_iff.mp hr') with q | q
     ·exact g2 r (lt.less_sub row r q)
     ·rw [List.mem_singleton] at q
      refine rG q ?_; exact hr.1
    have k2 : (lt.put row).rows.length < 60 := by
     show (srt lt.by_ (lt.less row ++ [row])).length < 60
     (refine rG hlen ?_; refine rG List.length_append ?_; refine rG List.length_singleton ?_)
     have := hr.2
     lia
    have k3 : (lt.put row).nd := by
     show ((srt lt.by_ (lt.less row ++ [row])).map fun r => rank r lt.by_).Nodup
     exact (hp.map fun r => rank r lt.by_).nodup_iff.mpr (Lot.add_nd g6 row)
    refine x0a2 (lots hk (lt.put row) ⟨⟨g1, k1, k2, g4, trivial⟩, k3⟩) fun q1 q2 => ?_
    exact ⟨q1, by show v.held.length ≤ _; lia, q2, by show v.ans.length ≤ _; lia, fun e => by injection e⟩
   ·injection h
  ·injection h
 | delete cu f m =>
  simp only [doIns] at h
  split at h
  ·split at h
   ·rename_i lt row hk hrow
    split at h
    ·rename_i hr
     refine some2 h ?_
     obtain ⟨⟨g1, g2, g3, g4, g5⟩, g6⟩ := hv.lots _ (look_in hk)
     have hle := lt.less_len row
     (refine x0a2 (lots hk (lt.del row) ⟨⟨g1, fun r hr' => g2 r (lt.less_sub row r hr'), by show (lt.less row).length < 60; have : lt.rows.length < 60 := g3; lia, g4, trivial⟩, Lot.less_nd g6 row⟩) fun q1 q2 => ?_)
     exact ⟨q1, by show v.held.length ≤ _; lia, q2, by show v.ans.length ≤ _; lia, fun e => by injection e⟩
    ·injection h
   ·injection h
  ·injection h
 | halt => injection h
end Mine
namespace Mine
noncomputable def codeMV (cd : List Ins) : MV := .lst (cd.map fun i => .lst (insMV i))
theorem ins_name (i : Ins) : ∃ nm p1 p2 p3 p4, insMV i = [.str nm, p1, p2, p3, p4] ∧ (nm = "Halt" ↔ i = .halt) ∧ ∀ l, i.target = some l → p2 = .int l := by
 cases i with
 | found b cu l f m => cases b <;> exact i5a3 _ _ _ _ _ rfl ⟨fun e => absurd e (by decide), fun e => by injection e⟩ (fun l e => by (injection e with e; subst e); rfl)
 | halt => exact i5a3 _ _ _ _ _ rfl ⟨fun _ => rfl, fun _ => rfl⟩ (fun l e => by injection e)
 | rewind cu l => exact i5a3 _ _ _ _ _ rfl ⟨fun e => absurd e (by decide), fun e => by injection e⟩ (fun l e => by (injection e with e; subst e); rfl)
 | next cu l => exact i5a3 _ _ _ _ _ rfl ⟨fun e => absurd e (by decide), fun e => by injection e⟩ (fun l e => by (injection e with e; subst e); rfl)
 | _ => exact i5a3 _ _ _ _ _ rfl ⟨fun e => absurd e (by decide), fun e => by injection e⟩ (fun l e => by injection e)
section
variable {c : Cx} {A : Around} {H : TM}
inductive RanI (n : Nat) (cd : List Ins) (out : List (List Wt)) (hd ld an : Addr) (M C : LM) (rest : List MV) (m' cm' : LM) (H' : TM) : Prop
 | mk (o : Option MV) (at_ : Int) (v : Vm) (hm : m' = (M.put "step" o).put "at" (some (.int at_))) (hc : cm' = C) (hv : VmAt hd ld an H' v) (ok : VmOk n v) (z1 : v.held.length + rest.length ≤ 4000) (z2 : v.lots.length + rest.length ≤ 4000) (z3 : v.ans.length + rest.length ≤ 4000) (hr : ranVm n cd rest.length at_ v = some out) : RanI n cd out hd ld an M C rest m' cm' H'
theorem ran_ok {n : Nat} (hn : N12 n) {cd : List Ins} {out : List (List Wt)} (hA : Room A 9) (hcd : cd.length < 900000) (hrun : ranVm n cd 4000 0 ⟨[], [], []⟩ = some out) :
  CallW c A (.raw (.ref 1347)) [codeMV cd] H (fun r G => r = .lst (rowsMV out)) := by
 refine CallW.bd (names := ["orders"]) (fRan_at c) hA.depth fRan_ok (bind1 fun p S a => by kernel_rfl) fun L => ?_
 have hA' : Room (A.deeper (callEnvM fRan L 1347)) 8 := hA.deeper (callEnvM fRan L 1347)
 have hrm := hA'.rm
 let M0 := fun hd ld an : Addr => ((((bM fRan L 1347 ["orders"] [codeMV cd]).set "held" (.raw (.ref hd))).set "lots" (.raw (.ref ld))).set "answer" (.raw (.ref an))).set "at" (.int 0)
 let C0 := bC fRan L 1347 ["orders"] [codeMV cd]
 refine W.cons (W.asgT hrm.1 (W.tuple (W.ec (W.dictE fun hd hhd => W.ec (W.dictE fun ld hld => W.ec (W.listO (W.es [] hrm OnOk.none ⟨by decide, fun an han => W.es [.int 0] hrm OnOk.none ⟨by show 4 < 1000000; decide, M0 hd ld an, C0, by kernel_rfl, ?_⟩⟩)))))))
 have n1 : hd ≠ ld := by rintro rfl; rw [TM.upd_self] at hld; injection hld
 have n2 : an ≠ ld := by rintro rfl; rw [TM.upd_self] at han; injection han
 have n3 : an ≠ hd := by rintro rfl; rw [TM.upd_ne n1, TM.upd_self] at han; injection han
 have hvm : VmAt hd ld an (((H.upd hd (.idict [])).upd ld (.idict [])).upd an (.plist [])) ⟨[], [], []⟩ :=
  ⟨by (refine rG (TM.upd_ne (Ne.symm n3)) ?_; refine rG (TM.upd_ne n1) ?_; refine rG (TM.upd_self ..) ?_); rfl, by refine rG (TM.upd_self ..) ?_; rfl, n1, [], by (refine rG (TM.upd_ne (Ne.symm n2)) ?_; refine rG (TM.upd_self ..) ?_); rfl, rfl, fun e he => (nomatch he), List.nodup_nil, List.nodup_nil, fun h => (nomatch h)⟩
 have hcl : (cd.map fun i => MV.lst (insMV i)).length = cd.length := List.length_map ..
 refine W.cons (W.forL (RanI n cd out hd ld an (M0 hd ld an) C0) hrm.1
  (W.eC (.rng (4000 : Int).toNat) [(0 : Int) ≤ 4000] hrm ⟨by decide, trivial⟩ ⟨_, rfl, by simp, M0 hd ld an "step", 0, ⟨[], [], []⟩, ?_, rfl, hvm, ⟨fun x hx => (nomatch hx), List.nodup_nil⟩, by simp, by simp, by simp, by simpa using hrun⟩) (fun w rest m' cm' H' hst => ?_) (fun m' cm' H' hst => ?_))
 ·(refine rG (LM.put_self ..) ?_; rewrite [LM.put_same]; rfl); rfl
 ·obtain ⟨o, at_, v, rfl, rfl, hv, hok, z1, z2, z3, hr⟩ := hst
  refine ⟨((M0 hd ld an).put "step" (some w)).put "at" (some (.int at_)), C0, ?_, ?_⟩
  ·unfold storeTo
   refine rG (show (callEnvM fRan L 1347).kindOf "step" = some .local by kernel_rfl) ?_
   dsimp only
   (refine rG (LM.put2_set1 (by decide)) ?_; rfl)
  rw [List.length_cons] at z1 z2 z3 hr
  unfold ranVm at hr
  split at hr
  ·injection hr
  ·rename_i h0
   have h0 : 0 ≤ at_ := by lia
   have main : ∀ i, cd[at_.toNat]? = some i → (i = .halt ∧ some v.ans = some out) ∨ (i ≠ .halt ∧ ∃ v' b, doIns n v i = some (v', b) ∧ ranVm n cd rest.length (if b then i.tgt else at_ + 1) v' = some out) := fun i hi => by
    rw [hi] at hr
    cases i with
    | halt => exact .inl ⟨rfl, hr⟩
    | _ => exact .inr ⟨fun e => (by injection e), ran_stp hr⟩
   cases hi : cd[at_.toNat]? with
   | none => rw [hi] at hr; cases hr
   | some i =>
    have hlt := (List.getElem?_eq_some_iff.mp hi).1
    have hget : (cd.map fun i => MV.lst (insMV i)).getD at_.toNat .none = .lst (insMV i) := by
     (refine rG List.getD_eq_getElem?_getD ?_; refine rG List.getElem?_map ?_; refine rG hi ?_); rfl
    have hord : ∀ {z : MV} {D : List Prop}, True := trivial
    obtain ⟨nm, p1, p2, p3, p4, e1, e2, e3⟩ := ins_name i
    have cond : AllP [0 ≤ at_, at_ < ((cd.map fun i => MV.lst (insMV i)).length : Int), (cd.map fun i => MV.lst (insMV i)).length < 1000000] := ⟨h0, by lia, by lia, trivial⟩
    refine W.cons (W.ite (W.testCmp hrm rfl (W.sub rfl (W.sub rfl (W.e0 (codeMV cd) hrm (W.e0 (.int at_) hrm ⟨.lst (insMV i), _, by refine rL hget ?_; rfl, cond, ?_⟩))))))
    refine W.e0 (.int 0) hrm ⟨.str nm, [(0 : Int) ≤ 0, (0 : Int) < ((insMV i).length : Int), (insMV i).length < 1000000], by refine rG e1 ?_; rfl, ⟨by decide, by refine rG e1 ?_; show (0 : Int) < ((5 : Nat) : Int); decide, by refine rG e1 ?_; show 5 < 1000000; decide, trivial⟩, ?_⟩
    refine W.e0 (.str "Halt") hrm ⟨decide (nm = "Halt"), [], rfl, trivial, ?_⟩
    rcases main i hi with ⟨rfl, hout⟩ | ⟨hne, v', b, hdo, hr'⟩
    ·refine rG (decide_eq_true (e2.mpr rfl)) ?_
     cases hout
     exact W.cons (W.ret (W.frozen (W.e0 (.raw (.ref an)) hrm ⟨an, _, _, rfl, hv.ans, .inr rfl, rfl⟩)))
    ·refine rG (decide_eq_false (fun e => hne (e2.mp e))) ?_
     refine W.nil ?_
     obtain ⟨k1, k2, k3, k4, k5⟩ := doIns_ok hok hdo
     refine W.cons (W.asgV (W.ifExp (W.test rfl (W.callName (.raw (.ref 1333)) (by kernel_rfl) (by kernel_rfl) (W.ec (W.sub rfl (W.e0 (codeMV cd) hrm (W.e0 (.int at_) hrm ⟨.lst (insMV i), _, by refine rL hget ?_; rfl, cond, ?_⟩))))))))
     refine W.es [.raw (.ref hd), .raw (.ref ld), .raw (.ref an)] hrm OnOk.none ((do_ok hn i hA' hv hok (by lia) (by lia) (by lia) v' b hdo).val fun G hv' => ?_)
     show if b then _ else _
     have fin : ∀ z : Int, z = (if b then i.tgt else at_ + 1) → LoopQ (RanI n cd out hd ld an (M0 hd ld an) C0 rest) (fun f m cm H' => True) .next ((((M0 hd ld an).put "step" (some w)).put "at" (some (.int at_))).set "at" (.int z)) C0 G := fun z hz => by
      refine ⟨some w, z, v', ?_, rfl, hv', k1, by lia, by lia, by lia, by refine rG hz ?_; exact hr'⟩
      (refine rG (LM.put_set ..) ?_; rfl)
     cases b with
     | true =>
      obtain ⟨tg, ht⟩ := k5 rfl
      have hp2 := e3 tg ht
      refine W.sub rfl (W.sub rfl (W.e0 (codeMV cd) hrm (W.e0 (.int at_) hrm ⟨.lst (insMV i), _, by refine rL hget ?_; rfl, cond, ?_⟩)))
      refine W.e0 (.int 2) hrm ⟨.int tg, [(0 : Int) ≤ 2, (2 : Int) < ((insMV i).length : Int), (insMV i).length < 1000000], by (refine rG e1 ?_; refine rG hp2 ?_); rfl, ⟨by decide, by refine rG e1 ?_; show (2 : Int) < ((5 : Nat) : Int); decide, by refine rG e1 ?_; show 5 < 1000000; decide, trivial⟩, ?_⟩
      exact ⟨by kernel_rfl, W.nil (fin tg (by (refine rG (if_pos rfl) ?_; rewrite [Ins.tgt]; refine rG ht ?_); rfl))⟩
     | false =>
      refine W.e0 (.int (at_ + 1)) hrm ?_
      exact ⟨by kernel_rfl, W.nil (fin (at_ + 1) rfl)⟩
 ·obtain ⟨o, at_, v, rfl, rfl, hv, hok, z1, z2, z3, hr⟩ := hst
  cases hr
end
end Mine
namespace Mine
section
variable {c : Cx} {A : Around} {env : Env} {m cm : LM} {H : TM}
noncomputable abbrev StP (env : Env) (x : Str) (Q : MFlow → LM → LM → TM → Prop) : List MV → LM → LM → TM → Prop := fun acc m cm H => Bnd (storeTo env m cm x (.lst acc)) fun m3 cm3 => Q .next m3 cm3 H
theorem W.asgComp {x : Str} {px apos : Pos} {elt target iter : Expr} {scope : Scope} {pos : Pos} {Q : MFlow → LM → LM → TM → Prop} (I : List MV → List MV → TM → Prop) (hA : A.handled = none)
  (hcl : (closC env scope.names []).isSome = true) (hst : (scope.names.all fun x => x.2 != .cell && (x.2 != .local || scope.names.lookup x.1 == some .local)) = true) (hkind : scope.kind = .function)
  (h : W c A env m cm H (eval iter env) V (CompS c A env scope target elt I (StP env x Q)))
  (hsw : swapsWith (.ListComp elt [⟨target, iter, [], 0⟩] scope pos) (some (.Name x px)) apos.line env = pure true := by rfl)
  (hs : ∀ x, foldedSetIterable iter env x = pure x := by intro _; rfl) :
  W c A env m cm H (exec (.Assign [.Name x px] (.ListComp elt [⟨target, iter, [], 0⟩] scope pos) apos) env) Fl Q := fun F K s r => by
 refine rG (exec_Assign_Name_used _ _ _ _ hsw) ?_
 refine wpAny_bind (wpAny_standAt (wpAny_bind (wpAny_bind (wpAny_mono (Q := fun _ s' => Post c env K F Fl Q .next s') ?_ (fun _ s' h => wpAny_pure (wpAny_pure h)) fun _ _ x => x))))
 exact comp_core (use := some (PySem.assign (.Name x px) env)) I hA hcl hst hkind h r (fun F' m1 cm1 H' acc C D m' s' k r' kC hv hz => by
  obtain ⟨m3, cm3, hst3, hq3⟩ := hz
  show wpAny (model P c.w) A (PySem.assign (.Name x px) env (.ref D)) _ NoE s'
  exact wpAny_assign_Name (store_ok hst3 r' hv fun s'' r'' => by
   refine x1a2 (comp_end r'' kC) fun mm h1 h2 => ?_
   exact i1a2 mm h1 (fun h' hs' => ⟨F', .next, m3, cm3, H', k, h2 h' hs', rfl, hq3⟩))) hs
end
end Mine
namespace Mine
open Builtin.Str
section
variable {c : Cx} {A : Around} {env : Env} {m cm : LM} {H : TM}
noncomputable abbrev StM (env : Env) (x : Str) (v : MV) (Q : MFlow → LM → LM → TM → Prop) : LM → LM → TM → Prop := fun m cm H => storeTo env m cm x v = some (m.set x v, cm) ∧ Q .next (m.set x v) cm H
theorem W.asgMap {α : Type} {x : Str} {px apos : Pos} {elt target iter : Expr} {scope : Scope} {pos : Pos} {Q : MFlow → LM → LM → TM → Prop} (l : List α) (fi fo : α → MV) (hA : A.handled = none)
  (h : W c A env m cm H (eval iter env) V (MapS c A env scope target elt H l fi fo (StM env x (.lst (l.map fo)) Q)))
  (hcl : (closC env scope.names []).isSome = true := by kernel_rfl) (hst : (scope.names.all fun x => x.2 != .cell && (x.2 != .local || scope.names.lookup x.1 == some .local)) = true := by kernel_rfl) (hkind : scope.kind = .function := by kernel_rfl)
  (hsw : swapsWith (.ListComp elt [⟨target, iter, [], 0⟩] scope pos) (some (.Name x px)) apos.line env = pure true := by rfl)
  (hs : ∀ x, foldedSetIterable iter env x = pure x := by intro _; rfl) :
  W c A env m cm H (exec (.Assign [.Name x px] (.ListComp elt [⟨target, iter, [], 0⟩] scope pos) apos) env) Fl Q :=
 W.asgComp (Q := Q) (MapI H l fi fo) hA hcl hst hkind (h.mono fun _ _ _ _ q => map_comp (fun p => ⟨_, _, p.1, p.2⟩) q) hsw hs
end
noncomputable def hasKey (cols : List Str) (l : List (List Wt)) (r : List Wt) : Bool := l.any fun x => decide (rank x cols = rank r cols)
noncomputable def skip (cols : List Str) (op : Str) (others acc : List (List Wt)) (r : List Wt) : Bool := hasKey cols acc r || (decide (op = "except") && hasKey cols others r) || (decide (op = "intersect") && !hasKey cols others r)
noncomputable def pick (cols : List Str) (op : Str) (others : List (List Wt)) : List (List Wt) → List (List Wt) → List (List Wt)
 | [], acc => acc
 | r :: rs, acc => pick cols op others rs (if skip cols op others acc r then acc else acc ++ [r])
noncomputable def srcOf (op : Str) (a b : List (List Wt)) : List (List Wt) := if op = "union" then a ++ b else a
noncomputable def rowsOf : Told → List (List Wt)
 | .rows l => l
 | .comp op l r cols => if op = "union all" then rowsOf l ++ rowsOf r else srt cols (pick cols op (rowsOf r) (srcOf op (rowsOf l) (rowsOf r)) [])
theorem pick_sub {cols : List Str} {op : Str} {others : List (List Wt)} : ∀ (rs acc : List (List Wt)), ∀ r ∈ pick cols op others rs acc, r ∈ acc ∨ r ∈ rs
 | [] => fun acc r h => .inl h
 | x :: rs => by
  intro acc r h
  rcases pick_sub rs _ r h with q | q
  ·split at q
   ·exact .inl q
   ·rcases List.mem_append.mp q with q | q
    ·exact .inl q
    ·rw [List.mem_singleton] at q; subst q; exact .inr (.head _)
  ·exact .inr (.tail _ q)
theorem pick_len {cols : List Str} {op : Str} {others : List (List Wt)} : ∀ (rs acc : List (List Wt)), (pick cols op others rs acc).length ≤ acc.length + rs.length
 | [] => fun acc => Nat.le_refl _
 | x :: rs => by
  intro acc
  have := pick_len (cols := cols) (op := op) (others := others) rs (if skip cols op others acc x then acc else acc ++ [x])
  (rewrite [pick]; refine rG List.length_cons ?_)
  have h2 : (if skip cols op others acc x then acc else acc ++ [x]).length ≤ acc.length + 1 := by split <;> simp
  lia
theorem pick_nd {cols : List Str} {op : Str} {others : List (List Wt)} : ∀ (rs acc : List (List Wt)), (acc.map fun r => rank r cols).Nodup → ((pick cols op others rs acc).map fun r => rank r cols).Nodup
 | [] => fun acc h => h
 | x :: rs => by
  intro acc h
  refine pick_nd rs _ ?_
  split
  ·exact h
  ·rename_i hs
   (refine rG List.map_append ?_; rewrite [List.nodup_append])
   refine ⟨h, by simp, fun a ha b hb e => ?_⟩
   simp at hb
   refine x1a2 (List.mem_map.mp ha) fun r hr q => ?_
   apply hs
   unfold skip hasKey
   (refine rG (Bool.or_assoc ..) ?_; refine rG (Bool.or_eq_true ..) ?_)
   exact .inl (List.any_eq_true.mpr ⟨r, hr, decide_eq_true (by lia)⟩)
theorem rowsOf_ok {n : Nat} : ∀ (t : Told), t.good n → (∀ r ∈ rowsOf t, RowOk n r) ∧ (rowsOf t).length ≤ 3 * 2 ^ t.deep
 | .rows l => fun h => ⟨h.2, by show l.length ≤ 3 * 1; exact h.1⟩
 | .comp op l r cols => by
  intro hz1
  obtain ⟨_, h2, h3, _⟩ := hz1
  refine x0a2 (rowsOf_ok l h2) fun a1 a2 => ?_
  refine x0a2 (rowsOf_ok r h3) fun b1 b2 => ?_
  have e1 : (2 : Nat) ^ l.deep ≤ 2 ^ (max l.deep r.deep) := Nat.pow_le_pow_right (by decide) (Nat.le_max_left _ _)
  have e2 : (2 : Nat) ^ r.deep ≤ 2 ^ (max l.deep r.deep) := Nat.pow_le_pow_right (by decide) (Nat.le_max_right _ _)
  have e3 : (2 : Nat) ^ (Told.comp op l r cols).deep = 2 * 2 ^ (max l.deep r.deep) := by (rewrite [Told.deep]; refine rG (Nat.pow_succ ..) ?_); lia
  refine rG e3 ?_
  have both : ∀ x ∈ rowsOf l ++ rowsOf r, RowOk n x := fun x hx => (List.mem_append.mp hx).elim (a1 x) (b1 x)
  have bl : (rowsOf l ++ rowsOf r).length ≤ 3 * (2 * 2 ^ (max l.deep r.deep)) := by refine rG List.length_append ?_; lia
  unfold rowsOf
  split
  ·exact ⟨both, bl⟩
  ·have hp := (srt_ok cols (pick cols op (rowsOf r) (srcOf op (rowsOf l) (rowsOf r)) [])).1
   have hsrc : (∀ x ∈ srcOf op (rowsOf l) (rowsOf r), RowOk n x) ∧ (srcOf op (rowsOf l) (rowsOf r)).length ≤ 3 * (2 * 2 ^ (max l.deep r.deep)) := by
    unfold srcOf
    split
    ·exact ⟨both, bl⟩
    ·exact ⟨a1, by lia⟩
   refine ⟨fun x hx => ?_, ?_⟩
   ·rcases pick_sub _ _ x (hp.mem_iff.mp hx) with q | q
    ·contradiction
    ·exact hsrc.1 x q
   ·refine rG hp.length_eq ?_
    have := pick_len (cols := cols) (op := op) (others := rowsOf r) (srcOf op (rowsOf l) (rowsOf r)) []
    rw [List.length_nil] at this
    lia
noncomputable def keysMV (cols : List Str) (l : List (List Wt)) : List MV := l.map fun r => .lst (keyL r cols)
theorem keys_dat (cols : List Str) : ∀ l : List (List Wt), datAll (keysMV cols l) = some (l.map fun r => .list (keyD r cols))
 | [] => rfl
 | r :: l => by
  show datAll (MV.lst (keyL r cols) :: keysMV cols l) = _
  (rewrite [datAll]; refine rG (keys_dat cols l) ?_; rewrite [MV.dat]; refine rG (keyL_dat ..) ?_); rfl
theorem fin7 : ∀ w ∈ wts, ∀ col ∈ colNames, (PyData.list [kD w col]).depth ≤ 5 := by decide +kernel
theorem fin8 : ∀ w ∈ wts, ∀ col ∈ colNames, ∀ w' ∈ wts, ∀ col' ∈ colNames, (PyData.list [kD w col, kD w' col']).depth ≤ 5 := by decide +kernel
theorem key_depth {n : Nat} {row : List Wt} {cols : List Str} (hn : N12 n) (hr : RowOk n row) (hc : ColsOk n cols) : (PyData.list (keyD row cols)).depth ≤ 5 := by
 rcases hn with rfl | rfl
 ·(refine x1a2 (shape1 hr) fun w e91 h1 => ?_; subst e91)
  (refine x1a2 (cshape1 hc) fun s e91 h2 => ?_; subst e91)
  exact fin7 w h1 s h2
 ·(refine x2a3 (shape2 hr) fun w w' e92 h1 h1' => ?_; subst e92)
  (refine x2a3 (cshape2 hc) fun s s' e92 h2 h2' => ?_; subst e92)
  exact fin8 w h1 s h2 w' h1' s' h2'
theorem keys_shaped {n : Nat} {l : List (List Wt)} {cols : List Str} (hn : N12 n) (hl : ∀ r ∈ l, RowOk n r) (hc : ColsOk n cols) : SeqAt.shaped (.list (l.map fun r => .list (keyD r cols))) = true := by
 have h2 : PyData.canLayAll0 (l.map fun r => .list (keyD r cols)) = true ∧ PyData.depthAll (l.map fun r => .list (keyD r cols)) ≤ 5 := by
  induction l with
  | nil => exact ⟨rfl, by simp [PyData.depthAll]⟩
  | cons r l ih =>
   refine x0a2 (ih fun x hx => hl x (.tail _ hx)) fun q3 q4 => ?_
   have q1 := SeqAt.canLay_of_shaped (key_shaped hn (hl r (.head _)) hc)
   have q2 := key_depth hn (hl r (.head _)) hc
   refine ⟨by (refine rG List.map_cons ?_; rewrite [PyData.canLayAll0]; refine rG q1 ?_; refine rG q3 ?_); rfl, ?_⟩
   (refine rG List.map_cons ?_; rewrite [PyData.depthAll])
   lia
 show (PyData.canLayAll0 (l.map fun r => .list (keyD r cols)) && decide ((PyData.list (l.map fun r => .list (keyD r cols))).depth ≤ 64)) = true
 (refine rG h2.1 ?_; refine rG (Bool.true_and ..) ?_)
 exact decide_eq_true (by simp only [PyData.depth]; lia)
theorem key_inV {n : Nat} {l : List (List Wt)} {row : List Wt} {cols : List Str} (hn : N12 n) (hl : ∀ r ∈ l, RowOk n r) (hr : RowOk n row) (hc : ColsOk n cols) :
  ∃ C, inV .list (.lst (keyL row cols)) (keysMV cols l) = some (hasKey cols l row, C) ∧ AllP C := by
 refine ⟨[SeqAt.shaped (.list (l.map fun r => .list (keyD r cols))) = true, SeqAt.shaped (.list (keyD row cols)) = true], ?_, keys_shaped hn hl hc, key_shaped hn hr hc, trivial⟩
 have e : ((l.map fun r => PyData.list (keyD r cols)).any fun y => PyData.eqv y (.list (keyD row cols))) = hasKey cols l row := by
  unfold hasKey
  induction l with
  | nil => rfl
  | cons r l ih =>
   (refine rG List.map_cons ?_; refine rG List.any_cons ?_; refine rG List.any_cons ?_; refine rG (ih fun x hx => hl x (.tail _ hx)) ?_; refine rG (key_eqv hn (hl r (.head _)) hr hc) ?_; rfl)
 (refine rL e ?_; rewrite [inV]; refine rG (dat_lst (keyL_dat _ _)) ?_; refine rG (keys_dat ..) ?_)
 rfl
end Mine
end
section
set_option backward.match.sparseCases false
open PySem PySem.W PySem.W.X PyProof.Rows PySem.Calls
open Builtin Builtin.ObjectAttr
namespace Mine
open Builtin.Str
noncomputable def lastOf : List Stmt → Stmt
 | [] => .Pass ⟨0, 0, 0, 0⟩
 | [s] => s
 | _ :: r => lastOf r
noncomputable def cRow : CloD := lamD "_law_rows.<locals>.<lambda>" (kwLam (lastOf (fdBody (st 102))))
section
variable {c : Cx} {A : Around} {H : TM}
theorem row_lam {n : Nat} {op : Str} {x y : Told} {cols : List Str} {row : List Wt} (hA : Room A 2) (hc : ColsOk n cols) (hr : RowOk n row) (hn : n ≤ 100) :
  CallW c A (.clo cRow ["told"] [toldMV (.comp op x y cols)]) [.lst (row.map Wt.mv)] H (fun r G => G = H ∧ r = .lst (keyL row cols)) := by
 refine CallW.ce (names := ["row"]) (bargs := [.lst (row.map Wt.mv)]) hA.depth (cbind1 fun cl doc pm code ct p S a => by kernel_rfl) fun L fa as doc pm code ct has => ?_
 (refine x1a1 (by match as, has with | [a], _ => exact ⟨a, rfl⟩ : ∃ a, as = [a]) fun a1 e91 => ?_; subst e91)
 have hA' := hA.deeper (eC cRow ["told"] [a1] doc pm code ct L fa)
 have hrm := hA'.rm
 exact W.callName (.raw (.ref 1316)) (by kernel_rfl) (by kernel_rfl) (W.es [.lst (row.map Wt.mv), .lst (cols.map .str)] hrm OnOk.none (lkey_ok hA' hr hc hn))
inductive RowsI (n : Nat) (cols : List Str) (op : Str) (oth src : List (List Wt)) (fa ka : Addr) (M C : LM) (rest : List MV) (m' cm' : LM) (H' : TM) : Prop
 | mk (o1 o2 : Option MV) (acc rs : List (List Wt)) (hm : m' = (M.put "row" o1).put "key" o2) (hc : cm' = C) (hr : rest = rowsMV rs) (hf : H' fa = some (.plist (rowsMV acc))) (hk : H' ka = some (.plist (keysMV cols acc))) (hl : acc.length + rs.length ≤ 24) (ha : ∀ r ∈ acc, RowOk n r) (hs : ∀ r ∈ rs, RowOk n r) (hn : (acc.map fun r => rank r cols).Nodup)
  (hp : pick cols op oth rs acc = pick cols op oth src []) : RowsI n cols op oth src fa ka M C rest m' cm' H'
theorem rows_ok {n : Nat} (hn : N12 n) : ∀ (t : Told), t.good n → t.deep ≤ 3 → ∀ (A : Around) (H : TM), Room A (t.deep + 7) →
  CallW c A (.raw (.ref 1321)) [toldMV t] H (fun r G => r = .lst (rowsMV (rowsOf t)))
 | .rows l => by
  intro hz1 hd A H hA
  obtain ⟨h1, h2⟩ := hz1
  have hn' : n ≤ 100 := by rcases hn with rfl | rfl <;> decide
  refine CallW.bd (names := ["told"]) (fRows_at c) hA.depth fRows_ok (bind1 fun p S a => by kernel_rfl) fun L => ?_
  have hA' := hA.deeper (callEnvM fRows L 1321)
  have hr := hA'.rm
  refine W.cons (W.ifT [] hr OnOk.none trivial ?_)
  refine W.cons (W.ret (W.compMap l (fun r => .lst (r.map Wt.mv)) (fun r => .lst (r.map Wt.mv)) hr.1 (W.e0 (.lst (l.map fun r => .lst (r.map Wt.mv))) hr ⟨rfl, rfl, by lia, fun C m0 r hm => ⟨m0.set "row" (.lst (r.map Wt.mv)), by kernel_rfl, ?_⟩, rfl⟩)))
  have := (h2 r hm).1
  exact W.eC (.lst (r.map Wt.mv)) [(r.map Wt.mv).length < 1000000] hr ⟨by refine rG (List.length_map ..) ?_; lia, trivial⟩ ⟨rfl, rfl, rfl⟩
 | .comp op x y cols => by
  intro hz1 hd A H hA
  obtain ⟨h1, h2, h3, h4⟩ := hz1
  have hn' : n ≤ 100 := by rcases hn with rfl | rfl <;> decide
  have hdx : x.deep ≤ 2 := by simp only [Told.deep] at hd; lia
  have hdy : y.deep ≤ 2 := by simp only [Told.deep] at hd; lia
  have hc : ColsOk n cols := h4
  refine x0a2 (rowsOf_ok x h2) fun a1 a2 => ?_
  refine x0a2 (rowsOf_ok y h3) fun b1 b2 => ?_
  have p1 : (2 : Nat) ^ x.deep ≤ 2 ^ 2 := Nat.pow_le_pow_right (by decide) hdx
  have p2 : (2 : Nat) ^ y.deep ≤ 2 ^ 2 := Nat.pow_le_pow_right (by decide) hdy
  have l1 : (rowsOf x).length ≤ 12 := by lia
  have l2 : (rowsOf y).length ≤ 12 := by lia
  have lm1 : (rowsMV (rowsOf x)).length ≤ 12 := by (rewrite [rowsMV]; refine rG (List.length_map ..) ?_); exact l1
  have lm2 : (rowsMV (rowsOf y)).length ≤ 12 := by (rewrite [rowsMV]; refine rG (List.length_map ..) ?_); exact l2
  refine CallW.bd (names := ["told"]) (fRows_at c) hA.depth fRows_ok (bind1 fun p S a => by kernel_rfl) fun L => ?_
  have hA0 : Room A (max x.deep y.deep + 7 + 1) := hA.less (by simp only [Told.deep]; lia)
  have hA' := hA0.deeper (callEnvM fRows L 1321)
  have hr := hA'.rm
  refine W.fz1 "told" (toldMV (.comp op x y cols)) ?_
  refine W.cons (W.if2 (decide (op = "rows")) [] hr OnOk.none trivial (fun e => ?_) fun _ => W.nil ?_)
  ·exfalso
   have e := of_decide_eq_true e
   subst e
   revert h1; decide
  let M0 := ((bM fRows L 1321 ["told"] [toldMV (.comp op x y cols)]).set "right" (.lst (rowsMV (rowsOf y)))).set "left" (.lst (rowsMV (rowsOf x)))
  let C0 := (bC fRows L 1321 ["told"] [toldMV (.comp op x y cols)]).set "told" (.fz (toldMV (.comp op x y cols)))
  refine W.cons (W.asgS ["left", "right"] hr.1 (W.tuple (W.ec (W.callName (.raw (.ref 1321)) (by kernel_rfl) (by kernel_rfl) (W.es [toldMV x] hr OnOk.none ((rows_ok hn x h2 (by lia) _ _ (hA'.less (by first | decide | lia))).vale fun G1 => ?_))))))
  refine W.ec (W.callName (.raw (.ref 1321)) (by kernel_rfl) (by kernel_rfl) (W.es [toldMV y] hr OnOk.none ((rows_ok hn y h3 (by lia) _ _ (hA'.less (by first | decide | lia))).vale fun G2 => ?_)))
  refine W.items_nil ⟨by show 2 < 1000000; decide, [.lst (rowsMV (rowsOf x)), .lst (rowsMV (rowsOf y))], M0, C0, rfl, by show 2 < 1000000; decide, rfl, by kernel_rfl, ?_⟩
  have e0 : rowsOf (.comp op x y cols) = if op = "union all" then rowsOf x ++ rowsOf y else srt cols (pick cols op (rowsOf y) (srcOf op (rowsOf x) (rowsOf y)) []) := rfl
  refine W.cons (W.if2 (decide (op = "union all")) [] hr OnOk.none trivial (fun e => ?_) fun e => W.nil ?_)
  ·have e := of_decide_eq_true e
   refine W.cons (W.reC (.lst (rowsMV (rowsOf x) ++ rowsMV (rowsOf y))) [(rowsMV (rowsOf x)).length + (rowsMV (rowsOf y)).length < 1000000] hr OnOk.none ⟨by lia, trivial⟩ ?_)
   show MV.lst _ = _
   (refine rG e0 ?_; refine rG (if_pos e) ?_; rewrite [rowsMV]; rewrite [rowsMV]; rewrite [rowsMV]; refine rG List.map_append ?_; rfl)
  have hop : op ≠ "union all" := of_decide_eq_false e
  rw [if_neg hop] at e0
  refine W.cons (W.asgMap (rowsOf y) (fun r => .lst (r.map Wt.mv)) (fun r => .lst (keyL r cols)) hr.1 (W.e0 (.lst (rowsMV (rowsOf y))) hr ⟨rfl, rfl, by lia, fun C m0 r hm => ⟨m0.set "row" (.lst (r.map Wt.mv)), by kernel_rfl, ?_⟩, by kernel_rfl, ?_⟩))
  ·exact W.callName (.raw (.ref 1316)) (by kernel_rfl) (by kernel_rfl) (W.es [.lst (r.map Wt.mv), .lst (cols.map .str)] hr OnOk.none ((lkey_ok (hA'.less (by first | decide | lia)) (b1 r hm) hc hn').mono fun u G hq => x0a2 hq fun e1 e2 => ⟨rfl, e1, e2⟩))
  let M1 := M0.set "others" (.lst (keysMV cols (rowsOf y)))
  let M2 := fun fa ka : Addr => (M1.set "keys" (.raw (.ref ka))).set "found" (.raw (.ref fa))
  refine W.cons (W.asgS ["found", "keys"] hr.1 (W.tuple (W.ec (W.listO (W.es [] hr OnOk.none ⟨by decide, fun fa hfa => W.ec (W.listO (W.es [] hr OnOk.none ⟨by decide, fun ka hka => W.items_nil ⟨by show 2 < 1000000; decide, [.raw (.ref fa), .raw (.ref ka)], M2 fa ka, C0, rfl, by show 2 < 1000000; decide, rfl, by kernel_rfl, ?_⟩⟩))⟩)))))
  have hfk : ka ≠ fa := by rintro rfl; rw [TM.upd_self] at hka; injection hka
  let src := srcOf op (rowsOf x) (rowsOf y)
  have hsrc : (∀ r ∈ src, RowOk n r) ∧ src.length ≤ 24 := by
   show (∀ r ∈ srcOf op (rowsOf x) (rowsOf y), RowOk n r) ∧ (srcOf op (rowsOf x) (rowsOf y)).length ≤ 24
   unfold srcOf
   split
   ·exact ⟨fun r hr => (List.mem_append.mp hr).elim (a1 r) (b1 r), by refine rG List.length_append ?_; lia⟩
   ·exact ⟨a1, by lia⟩
  have iterOk : ∀ {H' : TM}, iterV (.lst (rowsMV src)) = some (rowsMV src) := rfl
  refine W.cons (W.forL (RowsI n cols op (rowsOf y) src fa ka (M2 fa ka) C0) hr.1 ?_ (fun w rest m' cm' H' hst => ?_) (fun m' cm' H' hst => ?_))
  ·have f1 : ((G2.upd fa (.plist [])).upd ka (.plist [])) fa = some (.plist (rowsMV [])) := by (refine rG (TM.upd_ne (Ne.symm hfk)) ?_; refine rG (TM.upd_self ..) ?_); rfl
   have f2 : ((G2.upd fa (.plist [])).upd ka (.plist [])) ka = some (.plist (keysMV cols [])) := by refine rG (TM.upd_self ..) ?_; rfl
   have fin : ∀ l, l = rowsMV src → RowsI n cols op (rowsOf y) src fa ka (M2 fa ka) C0 l (M2 fa ka) C0 ((G2.upd fa (.plist [])).upd ka (.plist [])) := fun l hl => ⟨M2 fa ka "row", ((M2 fa ka).put "row" (M2 fa ka "row")) "key", [], src, by (refine rG (LM.put_self ..) ?_; refine rG (LM.put_self ..) ?_; rfl), rfl, hl, f1, f2, by (refine rG List.length_nil ?_; refine rG (Nat.zero_add ..) ?_); exact hsrc.2, fun r hr => (nomatch hr), hsrc.1, List.nodup_nil, rfl⟩
   refine W.ifExp (W.testCmp hr rfl (W.e0 (.str op) hr (W.e0 (.str "union") hr ⟨decide (op = "union"), [], rfl, trivial, ?_⟩)))
   by_cases hu : op = "union"
   ·refine rG (decide_eq_true hu) ?_
    refine W.eC (.lst (rowsMV (rowsOf x) ++ rowsMV (rowsOf y))) [(rowsMV (rowsOf x)).length + (rowsMV (rowsOf y)).length < 1000000] hr ⟨by lia, trivial⟩ ⟨_, rfl, by refine rG List.length_append ?_; lia, fin _ ?_⟩
    show _ = rowsMV (srcOf op (rowsOf x) (rowsOf y))
    (rewrite [srcOf]; refine rG (if_pos hu) ?_; rewrite [rowsMV]; rewrite [rowsMV]; rewrite [rowsMV]; refine rG List.map_append ?_; rfl)
   ·refine rG (decide_eq_false hu) ?_
    refine W.e0 (.lst (rowsMV (rowsOf x))) hr ⟨_, rfl, by lia, fin _ ?_⟩
    show _ = rowsMV (srcOf op (rowsOf x) (rowsOf y))
    (rewrite [srcOf]; refine rG (if_neg hu) ?_; rfl)
  ·obtain ⟨o1, o2, acc, rs, rfl, rfl, hrest, hfa, hka', hl, hacc, hrs, hnd, hp⟩ := hst
   cases rs with
   | nil => injection hrest
   | cons r rs =>
    rw [rowsMV, List.map_cons] at hrest
    injection hrest with hw hrest
    subst hw
    have hrr := hrs r (.head _)
    rw [List.length_cons] at hl
    refine ⟨((M2 fa ka).put "row" (some (.lst (r.map Wt.mv)))).put "key" o2, C0, ?_, ?_⟩
    ·unfold storeTo
     refine rG (show (callEnvM fRows L 1321).kindOf "row" = some .local by kernel_rfl) ?_
     dsimp only
     (refine rG (LM.put2_set1 (by decide)) ?_; rfl)
    refine W.cons (W.asgV (W.callName (.raw (.ref 1316)) (by kernel_rfl) (by kernel_rfl) (W.es [.lst (r.map Wt.mv), .lst (cols.map .str)] hr OnOk.none ((lkey_ok (hA'.less (by first | decide | lia)) hrr hc hn').mono fun u G hpat => ?_))))
    refine x0a2 hpat fun e1 e2 => ?_
    subst e1 e2
    refine ⟨by kernel_rfl, ?_⟩
    refine rG (LM.put_set ..) ?_
    refine x1a2 (key_inV hn hacc hrr hc) fun Ca ha1 ha2 => ?_
    refine x1a2 (key_inV hn b1 hrr hc) fun Cb hb1 hb2 => ?_
    have hs : seqIn (.lst (keyL r cols)) (.lst (keysMV cols (rowsOf y))) = some (hasKey cols (rowsOf y) r, Cb) := by
     show orO (inV .list _ _) _ = _
     refine rG hb1 ?_; rfl
    have hb3 : cmpV .In (.lst (keyL r cols)) (.lst (keysMV cols (rowsOf y))) = some (hasKey cols (rowsOf y) r, Cb) := hs
    have hb4 : cmpV .NotIn (.lst (keyL r cols)) (.lst (keysMV cols (rowsOf y))) = some (!hasKey cols (rowsOf y) r, Cb) := by
     show negO (seqIn _ _) = _
     refine rG hs ?_; rfl
    refine W.cons (W.ite (W.mono (Q := fun b m' cm' H' => b = skip cols op (rowsOf y) acc r ∧ m' = ((M2 fa ka).put "row" (some (.lst (r.map Wt.mv)))).put "key" (some (.lst (keyL r cols))) ∧ cm' = C0 ∧ H' = G) ?_ fun b m' cm' H' hq => x0a4 hq fun q1 q2 q3 q4 => ?_))
    ·refine W.testBool (W.allOr (W.testCmpO hr (W.e0 (.lst (keyL r cols)) hr (W.e0 (.raw (.ref ka)) hr ⟨ka, .list (keysMV cols acc), hasKey cols acc r, Ca, rfl, ⟨_, hka', .inr rfl⟩, ha1, ha2, ?_⟩))))
     cases hz : hasKey cols acc r with
     | true => exact ⟨by simp [skip, hz], rfl, rfl, rfl⟩
     | false =>
      refine W.allOr (W.testBool (W.allAnd (W.testCmp hr rfl (W.e0 (.str op) hr (W.e0 (.str "except") hr ⟨decide (op = "except"), [], rfl, trivial, ?_⟩)))))
      have third : op ≠ "intersect" → W c (A.deeper (callEnvM fRows L 1321)) (callEnvM fRows L 1321) (((M2 fa ka).put "row" (some (.lst (r.map Wt.mv)))).put "key" (some (.lst (keyL r cols)))) C0 G (allTrue .Or [] (callEnvM fRows L 1321)) Bo (fun b m' cm' H' => b = false ∧ m' = ((M2 fa ka).put "row" (some (.lst (r.map Wt.mv)))).put "key" (some (.lst (keyL r cols))) ∧ cm' = C0 ∧ H' = G) := fun _ => W.allNil ⟨rfl, rfl, rfl, rfl⟩
      by_cases he : op = "except"
      ·refine rG (decide_eq_true he) ?_
       have hni : op ≠ "intersect" := by refine rG he ?_; decide
       refine W.allAnd (W.testCmp hr rfl (W.e0 (.lst (keyL r cols)) hr (W.e0 (.lst (keysMV cols (rowsOf y))) hr ⟨hasKey cols (rowsOf y) r, Cb, hb3, hb2, ?_⟩)))
       cases hz2 : hasKey cols (rowsOf y) r with
       | true => exact W.allNil ⟨by simp [skip, hz, hz2, he], rfl, rfl, rfl⟩
       | false =>
        refine W.allOr (W.testBool (W.allAnd (W.testCmp hr rfl (W.e0 (.str op) hr (W.e0 (.str "intersect") hr ⟨decide (op = "intersect"), [], rfl, trivial, ?_⟩)))))
        refine rG (decide_eq_false hni) ?_
        exact W.allNil ⟨by simp [skip, hz, hz2, hni], rfl, rfl, rfl⟩
      ·refine rG (decide_eq_false he) ?_
       refine W.allOr (W.testBool (W.allAnd (W.testCmp hr rfl (W.e0 (.str op) hr (W.e0 (.str "intersect") hr ⟨decide (op = "intersect"), [], rfl, trivial, ?_⟩)))))
       by_cases hi : op = "intersect"
       ·refine rG (decide_eq_true hi) ?_
        refine W.allAnd (W.testCmp hr rfl (W.e0 (.lst (keyL r cols)) hr (W.e0 (.lst (keysMV cols (rowsOf y))) hr ⟨!hasKey cols (rowsOf y) r, Cb, hb4, hb2, ?_⟩)))
        cases hz2 : hasKey cols (rowsOf y) r with
        | true => exact W.allNil ⟨by unfold skip; (refine rG hz ?_; refine rG hz2 ?_; refine rG (decide_eq_false he) ?_; refine rG (decide_eq_true hi) ?_); rfl, rfl, rfl, rfl⟩
        | false => exact W.allNil ⟨by unfold skip; (refine rG hz ?_; refine rG hz2 ?_; refine rG (decide_eq_false he) ?_; refine rG (decide_eq_true hi) ?_); rfl, rfl, rfl, rfl⟩
       ·refine rG (decide_eq_false hi) ?_
        exact W.allNil ⟨by simp [skip, hz, he, hi], rfl, rfl, rfl⟩
    ·subst q2 q3 q4
     cases hs : skip cols op (rowsOf y) acc r with
     | true =>
      (refine rG q1 ?_; refine rG hs ?_)
      refine W.cons (W.cont ⟨_, _, acc, rs, rfl, rfl, hrest.symm ▸ rfl, hfa, hka', by lia, hacc, fun z hz => hrs z (.tail _ hz), hnd, ?_⟩)
      (refine rL hp ?_; rewrite [pick]; refine rG hs ?_); rfl
     | false =>
      (refine rG q1 ?_; refine rG hs ?_)
      have hlk : (keysMV cols acc).length < 1000000 := by (rewrite [keysMV]; refine rG (List.length_map ..) ?_); lia
      have hlf : (rowsMV acc).length < 1000000 := by (rewrite [rowsMV]; refine rG (List.length_map ..) ?_); lia
      have hfa2 : (H'.upd ka (.plist (keysMV cols acc ++ [.lst (keyL r cols)]))) fa = some (.plist (rowsMV acc)) := by refine rG (TM.upd_ne (Ne.symm hfk)) ?_; exact hfa
      refine W.nil (W.cons (W.ex (W.meth (.raw (.ref ka)) (.builtin "list.append") (by kernel_rfl) (PuN.e (.raw (.ref ka)) hr OnOk.none) (MethG.append hka') (W.es [.lst (keyL r cols)] hr OnOk.none (CallP.append hka' hlk ?_)))))
      refine W.cons (W.ex (W.meth (.raw (.ref fa)) (.builtin "list.append") (by kernel_rfl) (PuN.e (.raw (.ref fa)) hr OnOk.none) (MethG.append hfa2) (W.es [.lst (r.map Wt.mv)] hr OnOk.none (CallP.append hfa2 hlf ?_))))
      refine W.nil ⟨_, _, acc ++ [r], rs, rfl, rfl, hrest.symm ▸ rfl, ?_, ?_, by (refine rG List.length_append ?_; refine rG List.length_singleton ?_); lia, fun z hz => ?_, fun z hz => hrs z (.tail _ hz), ?_, ?_⟩
      ·(refine rG (TM.upd_self ..) ?_; rewrite [rowsMV]; rewrite [rowsMV]; refine rG List.map_append ?_); rfl
      ·(refine rG (TM.upd_ne hfk) ?_; refine rG (TM.upd_self ..) ?_; rewrite [keysMV]; rewrite [keysMV]; refine rG List.map_append ?_); rfl
      ·rcases List.mem_append.mp hz with q | q
       ·exact hacc z q
       ·rw [List.mem_singleton] at q; refine rG q ?_; exact hrr
      ·have := pick_nd (cols := cols) (op := op) (others := rowsOf y) [r] acc hnd
       rw [pick, pick, hs] at this
       exact this
      ·(refine rL hp ?_; rewrite [pick]; refine rG hs ?_); rfl
  ·obtain ⟨o1, o2, acc, rs, rfl, rfl, hrest, hfa, hka', hl, hacc, hrs, hnd, hp⟩ := hst
   have hrs0 : rs = [] := by cases rs with
    | nil => rfl
    | cons r rs => cases hrest
   subst hrs0
   rw [pick] at hp
   have hu : (A.deeper (callEnvM fRows L 1321)).units + 80 < cLine := by have := hA'.2.1; lia
   refine W.cons (W.ret (W.frozen (W.sortedK hr (W.ec (W.frozen (W.e0 (.raw (.ref fa)) hr ⟨fa, _, _, rfl, hfa, .inr rfl, W.items_nil (W.lamN 1318 cRow ["told"] [toldMV (.comp op x y cols)] ?_)⟩))) hu)))
   refine ⟨n, cols, acc, cRow, ["told"], [toldMV (.comp op x y cols)], rfl, rfl, hn, hacc, hc, by rw [List.length_nil, Nat.add_zero] at hl; lia, hnd, fun r hr' => row_lam (hA'.less (j := 3) (by lia)).in2 hc (hacc r hr') hn', fun D out hD so => ?_⟩
   refine ⟨D, _, _, rfl, TM.upd_self _ _ _, .inr rfl, ?_⟩
   show MV.lst _ = _
   (refine rG e0 ?_; refine rL hp ?_; refine rG (so.eq hnd) ?_; rfl)
end
end Mine
end
section
open PySem PySem.W PySem.W.X PyProof.Rows PySem.Calls
open Builtin Builtin.ObjectAttr
namespace Mine
noncomputable def delAll (H : TM) (os : List Addr) : TM := fun b => if b ∈ os then none else H b
section
variable {c : Cx} {A : Around} {env : Env} {m cm : LM} {H : TM}
theorem W.weak {α β : Type} {t : Sem α} {R : FM → β → α → Prop} {Z : β → LM → LM → TM → Prop} {a : Addr} {l : List MV} (ha : H a = some (.plist l)) (h : W c A env m cm (H.upd a (.list l)) t R Z) : W c A env m cm H t R Z := fun F K s r => h F K s (r.weak ha)
theorem ops_freeze {F : FM} {K : TM} {s : Shared} : ∀ (os : List Addr) (is : List Ins) (H : TM), RelE c env m cm F H K s → OpsAt H os is → os.Nodup →
  ∃ F', F.le F' ∧ RelE c env m cm F' (delAll H os) K s ∧ VRs F' (is.map fun i => .lst (insMV i)) (os.map fun a => .ref a)
 | [], [] => fun H r _ _ => ⟨F, FM.le.refl F, by
   have : delAll H [] = H := by funext b; simp [delAll]
   refine rG this ?_; exact r, VRs.nil⟩
 | a :: os, i :: is => by
  intro H r h hn
  rw [List.nodup_cons] at hn
  obtain ⟨vs, ⟨o, ho, hc, n, hd⟩, hv⟩ := IsLst.get (.inl rfl) (r.rep h.1)
  obtain ⟨T, R, y⟩ := r
  refine x0a2 (R.freeze (y.hT _ _ h.1) ho) fun k1 R1 => ?_
  have h2 : OpsAt (H.del a) os is := by
   have go : ∀ {os : List Addr} {is : List Ins}, OpsAt H os is → a ∉ os → OpsAt (H.del a) os is := fun {os is} => by
    induction os generalizing is with
    | nil => cases is with
     | nil => exact fun _ _ => trivial
     | cons _ _ => exact fun h _ => h.elim
    | cons b os ih => cases is with
     | nil => exact fun h _ => h.elim
     | cons j is => exact fun h hm => ⟨by simp only [TM.del, if_neg (show b ≠ a from fun e => hm (by refine rG e ?_; exact .head _))]; exact h.1, ih h.2 fun q => hm (.tail _ q)⟩
   exact go h.2 hn.1
  refine x1a3 (ops_freeze os is (H.del a) ⟨_, R1, (y.del h.1).up k1⟩ h2 hn.2) fun F' k2 r2 hvs => ?_
  refine i1a3 F' (k1.trans k2) ?_ (.cons ?_ hvs)
  ·have : delAll (H.del a) os = delAll H (a :: os) := by
    funext b
    simp only [delAll, TM.del, List.mem_cons]
    by_cases h1 : b ∈ os
    ·simp [h1]
    ·by_cases h2 : b = a <;> simp [h1, h2]
   rw [this] at r2; exact r2
  ·simp only [VR]
   exact ⟨a, o, vs, n, rfl, k2 _ _ (FM.upd_self _ _ _), hc, hd, (hv.mono k1).mono k2⟩
 | [], _ :: _ => fun _ _ h _ => h.elim
 | _ :: _, [] => fun _ _ h _ => h.elim
inductive DeepO (Q : MV → LM → LM → TM → Prop) (v : MV) (m cm : LM) (H : TM) : Prop
 | mk (g : Pg) (p : PS) (e : v = .raw (.ref g.oa)) (h : St g H p) (hq : ∀ G, Q (codeMV p.ops) m cm G) : DeepO Q v m cm H
theorem W.deepOps {t : Sem Value} {Q : MV → LM → LM → TM → Prop} (h : W c A env m cm H t V (DeepO Q)) : W c A env m cm H t V Q := fun F K s r =>
 W.wp h r fun F1 v m1 cm1 H1 u s1 k1 r1 v1 qq => by
  obtain ⟨g, q, ev, hst, hq⟩ := qq
  subst ev
  simp only [V, VR] at v1
  subst v1
  refine x1a3 hst.ops fun os o1 o2 o3 => ?_
  refine x1a3 (ops_freeze os q.ops H1 r1 o3 o2) fun F2 k2 r2 hvs => ?_
  have hoa : g.oa ∉ os := hst.notOp o1 (fun l e => by injection e) o3
  have h2 : (delAll H1 os) g.oa = some (.plist (os.map fun a => .raw (.ref a))) := by simp only [delAll, if_neg hoa]; exact o1
  obtain ⟨vs, ⟨n, hp⟩, hv⟩ := r2.rep h2
  obtain ⟨T, R, y⟩ := r2
  refine x0a2 (R.freeze (y.hT _ _ h2) hp) fun k3 R3 => ?_
  have hvv : vs.toList = os.map fun a => .ref a := by
   have go : ∀ {os : List Addr} {us : List Value}, VRs F2 (os.map fun a => MV.raw (.ref a)) us → us = os.map fun a => .ref a := fun {os} => by
    induction os with
    | nil => intro us h; simpa [VRs] using h
    | cons a os ih =>
     intro us h
     (refine x2a3 ((show VRs F2 (.raw (.ref a) :: os.map fun a => MV.raw (.ref a)) us from h).uncons) fun u r e92 h1 h2 => ?_; subst e92)
     simp only [VR] at h1
     (refine rG h1 ?_; refine rG (ih h2) ?_); rfl
   exact go hv
  refine ⟨_, codeMV q.ops, m1, cm1, _, k1.trans (k2.trans k3), ⟨_, R3, (y.del h2).up k3⟩, ?_, hq _⟩
  simp only [V, codeMV, VR]
  exact ⟨g.oa, _, vs, n, rfl, FM.upd_self _ _ _, rfl, rfl, by refine rG hvv ?_; exact hvs.mono k3⟩
end
section
variable {c : Cx} {A : Around} {H : TM}
theorem prog_new (hA : Room A 2) : CallW c A (.raw (.ref 1269)) [] H (fun r H' => ∃ a d oa la, r = .raw (.ref a) ∧ H' a = some (.exact (instObj 1269 d)) ∧ H' d = some (.attrs (progAttrs ⟨a, d, oa, la, 0, 0, 0⟩ .start)) ∧ H' oa = some (.plist []) ∧ H' la = some (.idict [])) := by
 refine CallW.make (f := 1193) (by kernel_rfl) (by kernel_rfl) (by kernel_rfl) fun A' a d e1 e2 e3 ha hd hne => ?_
 refine (initPrg_ok (hA.made e1 e2 e3) (TM.upd_self _ _ _) (by (refine rG (TM.upd_ne (Ne.symm hne)) ?_; refine rG (TM.upd_self ..) ?_; rfl))).mono fun u G ⟨h1, oa, la, h2, h3, h4, h5⟩ => ⟨h1, a, d, oa, la, rfl, ?_⟩
 subst h5
 have n1 : oa ≠ a := by rintro rfl; rw [TM.upd_self] at h2; injection h2
 have n2 : la ≠ a := by rintro rfl; rw [TM.upd_self] at h3; injection h3
 have n3 : oa ≠ d := by rintro rfl; rw [TM.upd_ne (Ne.symm hne), TM.upd_self] at h2; injection h2
 have n4 : la ≠ d := by rintro rfl; rw [TM.upd_ne (Ne.symm hne), TM.upd_self] at h3; injection h3
 exact ⟨by (refine rG (TM.upd_ne hne) ?_; refine rG (TM.upd_ne (Ne.symm n2)) ?_; refine rG (TM.upd_ne (Ne.symm n1)) ?_; refine rG (TM.upd_self ..) ?_; rfl), TM.upd_self _ _ _, by (refine rG (TM.upd_ne n3) ?_; refine rG (TM.upd_ne h4) ?_; refine rG (TM.upd_self ..) ?_; rfl), by (refine rG (TM.upd_ne n4) ?_; refine rG (TM.upd_self ..) ?_; rfl)⟩
theorem coder_new {v : MV} (hA : Room A 2) : CallW c A (.raw (.ref 1173)) [v] H (fun r H' => ∃ ca cd bv, r = .raw (.ref ca) ∧ H ca = none ∧ H cd = none ∧ H' ca = some (.exact (instObj 1173 cd)) ∧ H' cd = some (.attrs [("program", v), ("bindings", .raw (.ref bv))]) ∧ ∀ b x, H b = some x → H' b = some x) := by
 refine CallW.make (f := 1062) (by kernel_rfl) (by kernel_rfl) (by kernel_rfl) fun A' a d e1 e2 e3 ha hd hne => ?_
 have hA1 : Room A' 1 := hA.made e1 e2 e3
 refine CallW.bd (names := ["self", "program"]) (fInitCod_at c) hA1.depth fInitCod_ok (bind2 fun p S a b => by kernel_rfl) fun L => ?_
 have hr := (hA1.deeper (callEnvM fInitCod L 1062)).rm
 have ha1 : ((H.upd d (.attrs [])).upd a (.exact (instObj 1173 d))) a = some (.exact (instObj 1173 d)) := TM.upd_self _ _ _
 have hd1 : ((H.upd d (.attrs [])).upd a (.exact (instObj 1173 d))) d = some (.attrs []) := by (refine rG (TM.upd_ne (Ne.symm hne)) ?_; refine rG (TM.upd_self ..) ?_; rfl)
 refine W.cons (W.selfSet (a := a) (d := d) (C := 1173) v [] hr trivial ha1 hd1 (Nat.zero_le _) ?_)
 refine W.cons (W.setAttr (W.dictE fun bv hbv => W.e0 (.raw (.ref a)) hr ?_))
 have m1 : a ≠ bv := by rintro rfl; rw [TM.upd_ne hne, TM.upd_self] at hbv; injection hbv
 have m2 : d ≠ bv := by rintro rfl; rw [TM.upd_self] at hbv; injection hbv
 refine ⟨a, 1173, d, _, rfl, by (refine rG (TM.upd_ne m1) ?_; refine rG (TM.upd_ne hne) ?_); exact ha1, by (refine rG (TM.upd_ne m2) ?_; refine rG (TM.upd_self ..) ?_; rfl), by kernel_rfl, Nat.le_of_ble_eq_true rfl, ?_⟩
 refine W.nil ⟨rfl, a, d, bv, rfl, ha, hd, ?_, TM.upd_self _ _ _, fun b x e => ?_⟩
 ·(refine rG (TM.upd_ne hne) ?_; refine rG (TM.upd_ne m1) ?_; refine rG (TM.upd_ne hne) ?_); exact ha1
 ·have b1 : b ≠ a := by first | exact TM.neS e ha | exact (TM.neS e ha).symm | (rintro rfl; rw [ha] at e; cases e)
  have b2 : b ≠ d := by first | exact TM.neS e hd | exact (TM.neS e hd).symm | (rintro rfl; rw [hd] at e; cases e)
  have b3 : b ≠ bv := by
   rintro rfl
   rw [TM.upd_ne b2, TM.upd_ne b1, TM.upd_ne b2] at hbv
   rw [hbv] at e; injection e
  (refine rG (TM.upd_ne b2) ?_; refine rG (TM.upd_ne b3) ?_; refine rG (TM.upd_ne b2) ?_; refine rG (TM.upd_ne b1) ?_; refine rG (TM.upd_ne b2) ?_); exact e
noncomputable def cAns : CloD := cloOf (stIn (fdBody (st 107)) 5) "law.<locals>.answered"
noncomputable def ansTk (n : Nat) : Int → PS → PS := fun f q => q.add (.result f n)
theorem ans_tk {g : Pg} (n : Nat) : Taker c g n (.clo cAns ["program"] [.raw (.ref g.pa)]) (ansTk n) 1 3 where
 isClo := ⟨_, _, _, rfl⟩
 fn := rfl
 ok := fun f q => ⟨Ext.add _ _, by (rewrite [ansTk]; refine rG (size_add ..) ?_); lia⟩
 run := fun A H q first hA h hl hs => by
  refine CallW.cb (names := ["first", "many"]) (bargs := [.int first, .int n]) hA.depth (cbind2 fun cl doc pm code ct p S a b => by kernel_rfl) fun L fa as doc pm code ct has => ?_
  (refine x1a1 (by match as, has with | [a], _ => exact ⟨a, rfl⟩ : ∃ a, as = [a]) fun a1 e91 => ?_; subst e91)
  have hA' := hA.deeper (eC cAns ["program"] [a1] doc pm code ct L fa)
  have hr := hA'.rm
  exact W.cons (W.ex (W.prog h 1201 hr OnOk.none (W.es [.str "ResultRow", .int first, .int n] hr OnOk.none ((add_ok (hA'.less (by first | decide | lia)) h (.result first n) (by lia) bAdd3).mono fun r H2 h2 => W.nil h2))))
end
end Mine
namespace Mine
noncomputable def outPS (n : Nat) (t : Told) : PS := emitBody t (ansTk n) .start
noncomputable def PlainLaw : Prop := ∀ (n : Nat) (t : Told), N12 n → t.good n → t.deep ≤ 3 → (∃ op l r cols, t = .comp op l r cols) →
 (outPS n t).Ready ∧ (outPS n t).ops.length < 800000 ∧ ranVm n (outPS n t).finish.ops 4000 0 ⟨[], [], []⟩ = some (rowsOf t)
theorem rows_eqv (l : List (List Wt)) : PyData.eqv (.list (l.map rowD)) (.list (l.map rowD)) = true := by
 have h1 : ∀ r : List Wt, PyData.eqvAll (r.map wD) (r.map wD) = true := fun r => by
  induction r with
  | nil => rfl
  | cons w r ih =>
   (refine rG List.map_cons ?_; rewrite [PyData.eqvAll]; refine rG ih ?_; refine rG (Bool.and_true ..) ?_)
   cases w <;> simp [wD, PyData.eqv]
 have h2 : ∀ l : List (List Wt), PyData.eqvAll (l.map rowD) (l.map rowD) = true := fun l => by
  induction l with
  | nil => rfl
  | cons r l ih =>
   (refine rG List.map_cons ?_; rewrite [PyData.eqvAll]; refine rG ih ?_; refine rG (Bool.and_true ..) ?_; rewrite [rowD]; rewrite [PyData.eqv])
   exact h1 r
 rw [PyData.eqv]; exact h2 l
section
variable {c : Cx} {A : Around} {H : TM}
theorem law_ok (PL : PlainLaw) {ns : List Int} (hA : Room A 100) (hns : ns.length < 1000) :
  CallW c A (.raw (.ref 1354)) [.lst (ns.map .int)] H (fun r G => r = .bool true) := by
 refine CallW.bd (names := ["script"]) (fLaw_at c) hA.depth fLaw_ok (bind1 fun p S a => by kernel_rfl) fun L => ?_
 have hA' : Room (A.deeper (callEnvM fLaw L 1354)) 99 := hA.deeper (callEnvM fLaw L 1354)
 have hr := hA'.rm
 have hlen : (ns.map MV.int).length = ns.length := List.length_map ..
 refine W.cons (W.asgV (W.callName (.raw (.ref 1280)) (by kernel_rfl) (by kernel_rfl) (W.es [.lst (ns.map .int), .int 0] hr OnOk.none ((pool_ok (hA'.less (by first | decide | lia)) hns).mono fun u G hpat => ?_))))
 obtain ⟨s, x, y, e1, e2, e3, x0, y0, y1⟩ := hpat
 subst e1 e3
 refine ⟨by kernel_rfl, ?_⟩
 refine W.weak (TM.upd_self _ _ _) ?_
 refine rG TM.upd_upd ?_
 have hsrc : Src s (H.upd s (.list [.int x, .int y])) := ⟨x, y, x0, y0, y1, TM.upd_upd.symm⟩
 let M1 := (bM fLaw L 1354 ["script"] [.lst (ns.map .int)]).set "source" (.raw (.ref s))
 let C1 := bC fLaw L 1354 ["script"] [.lst (ns.map .int)]
 refine W.cons (W.asgV (W.callName (.raw (.ref 1304)) (by kernel_rfl) (by kernel_rfl) (W.ec (W.e0 (.raw (.ref s)) hr (W.ec (W.bin (W.e0 (.int 1) hr ?_)))))))
 refine W.callName (.raw (.ref 1287)) (by kernel_rfl) (by kernel_rfl) (W.es [.raw (.ref s), .int 2] hr OnOk.none ((take_ok (hA'.less (by first | decide | lia)) hsrc (by decide) (by decide)).mono fun u G hpat => ?_))
 refine x1a4 hpat fun d e d0 d1 hG => ?_
 subst e
 refine ⟨.int (1 + d), [], rfl, trivial, ?_⟩
 obtain ⟨n, hn, hnd⟩ : ∃ n : Nat, N12 n ∧ 1 + d = (n : Int) := by
  rcases (show d = 0 ∨ d = 1 by lia) with rfl | rfl
  ·exact ⟨1, .inl rfl, rfl⟩
  ·exact ⟨2, .inr rfl, rfl⟩
 refine rG hnd ?_
 have hn2 : n ≤ 2 := by rcases hn with rfl | rfl <;> decide
 refine x2a4 hG.src.at fun x1 y1' x10 y10 y11 hGs => ?_
 refine W.ec (W.mono (Q := fun v m' cm' H' => (∃ dd : Nat, dd ≤ 2 ∧ v = .int dd) ∧ m' = M1 ∧ cm' = C1 ∧ H' = G) ?_ fun v m' cm' H' ⟨⟨dd, hdd, q0⟩, q1, q2, q3⟩ => ?_)
 ·refine W.ifExp (W.testBool (W.allOr (W.testCmp hr rfl (W.eC (.int (ns.map MV.int).length) [(ns.map MV.int).length < 1000000] hr ⟨by lia, trivial⟩ (W.e0 (.int 1) hr ⟨decide (((ns.map MV.int).length : Int) > 1), [], rfl, trivial, ?_⟩)))))
  by_cases h1 : ((ns.map MV.int).length : Int) > 1
  ·refine rG (decide_eq_true h1) ?_
   exact W.e0 (.int 2) hr ⟨⟨2, by decide, rfl⟩, rfl, rfl, rfl⟩
  ·refine rG (decide_eq_false h1) ?_
   refine W.allOr (W.testCmp hr rfl (W.eO (.int x1) hr (OnOk.one "source" (.list [.int x1, .int y1']) s ⟨_, hGs, .inl rfl⟩) (W.e0 (.int 0) hr ⟨decide (x1 > 0), [], rfl, trivial, ?_⟩)))
   by_cases h2 : x1 > 0
   ·refine rG (decide_eq_true h2) ?_
    exact W.e0 (.int 2) hr ⟨⟨2, by decide, rfl⟩, rfl, rfl, rfl⟩
   ·refine rG (decide_eq_false h2) ?_
    exact W.allNil (W.e0 (.int 1) hr ⟨⟨1, by decide, rfl⟩, rfl, rfl, rfl⟩)
 subst q0 q1 q2 q3
 refine W.items_nil ((told_ok hn2 dd _ _ (hA'.less (by first | decide | lia)) hG.src).mono fun u G1 hpat => ?_)
 obtain ⟨op, a, b, cols, e, good, q1', q2', _⟩ := hpat
 subst e
 have q1' : a.deep ≤ 2 := Nat.le_trans q1' hdd
 have q2' : b.deep ≤ 2 := Nat.le_trans q2' hdd
 have hdeep : (Told.comp op a b cols).deep ≤ 3 := by simp only [Told.deep]; lia
 refine x0a3 (PL n (.comp op a b cols) hn good hdeep ⟨op, a, b, cols, rfl⟩) fun hready hops hrun => ?_
 refine ⟨by kernel_rfl, ?_⟩
 refine W.cons (W.asgVC (W.callName0 (.raw (.ref 1269)) (by kernel_rfl) (by kernel_rfl) ((prog_new (hA'.less (by first | decide | lia))).mono fun u G2 hpat => ?_)))
 obtain ⟨pa, pd, oa, la, e, p1, p2, p3, p4⟩ := hpat
 subst e
 refine ⟨by kernel_rfl, ?_⟩
 refine W.cons (W.asgV (W.callName (.raw (.ref 1173)) (by kernel_rfl) (by kernel_rfl) (W.es [.raw (.ref pa)] hr OnOk.none ((coder_new (hA'.less (by first | decide | lia))).mono fun u G3 hpat => ?_))))
 obtain ⟨ca, cd, bv, e, k1, k2, k3, k4, k5⟩ := hpat
 subst e
 refine ⟨by kernel_rfl, ?_⟩
 refine W.cons (W.setAttr (W.e0 .none hr (W.e0 (.raw (.ref ca)) hr ⟨ca, 1173, cd, _, rfl, k3, k4, by kernel_rfl, Nat.le_of_ble_eq_true rfl, ?_⟩)))
 have cpa : pa ≠ cd := by first | exact TM.neS p1 k2 | exact (TM.neS p1 k2).symm | (rintro rfl; rw [k2] at p1; cases p1)
 have cpd : pd ≠ cd := by first | exact TM.neS p2 k2 | exact (TM.neS p2 k2).symm | (rintro rfl; rw [k2] at p2; cases p2)
 have coa : oa ≠ cd := by first | exact TM.neS p3 k2 | exact (TM.neS p3 k2).symm | (rintro rfl; rw [k2] at p3; cases p3)
 have cla : la ≠ cd := by first | exact TM.neS p4 k2 | exact (TM.neS p4 k2).symm | (rintro rfl; rw [k2] at p4; cases p4)
 have cca : ca ≠ cd := by first | exact TM.neS k4 k3 | exact (TM.neS k4 k3).symm | (rintro rfl; rw [k3] at k4; (injection k4 with k4; injection k4))
 let g : Pg := ⟨pa, pd, oa, la, ca, cd, bv⟩
 have hst : St g (G3.upd cd (.attrs (setL [(Str.ofString "program", MV.raw (.ref pa)), (Str.ofString "bindings", MV.raw (.ref bv))] "hints" MV.none))) .start :=
  ⟨by refine rG (TM.upd_ne cpa) ?_; exact k5 _ _ p1, by refine rG (TM.upd_ne cpd) ?_; exact k5 _ _ p2, ⟨[], by refine rG (TM.upd_ne coa) ?_; exact k5 _ _ p3, List.nodup_nil, trivial⟩, by refine rG (TM.upd_ne cla) ?_; exact k5 _ _ p4, by refine rG (TM.upd_ne cca) ?_; exact k3, TM.upd_self _ _ _, Ne.symm cpd⟩
 refine W.fz1 "program" (.raw (.ref pa)) ?_
 refine W.cons (W.defN 1349 cAns ["program"] [.raw (.ref pa)] ?_)
 refine W.cons (W.ex (W.callName (.raw (.ref 1013)) (by kernel_rfl) (by kernel_rfl) (W.ec (W.e0 (.raw (.ref ca)) hr (W.ec ?_)))))
 refine W.callName (.raw (.ref 1309)) (by kernel_rfl) (by kernel_rfl) (W.es [toldMV (.comp op a b cols)] hr OnOk.none ((node_ok (.comp op a b cols) good hn2 _ _ (hA'.less (by first | decide | lia))).mono fun u G4 hpat => ?_))
 refine x0a2 hpat fun e1 e2 => ?_
 subst e1 e2
 refine W.es [.clo cAns ["program"] [.raw (.ref pa)]] hr OnOk.none ?_
 have hok := good.ok
 have hcost : (Told.comp op a b cols).cost n 1 < 800000 := by
  have c1 := cost_le hn2 a hok.2.1 5 (by decide) q1'
  have c2 := cost_le hn2 b hok.2.2.1 5 (by decide) q2'
  show Told.cost n a 5 + Told.cost n b 5 + n + 1 + 8 < 800000
  lia
 refine (comp_ok (g := g) (by lia) hok (body_ok (by lia) a hok.2.1) (body_ok (by lia) b hok.2.2.1) (ans_tk n) _ _ .start (hA'.less (by simp only [need]; lia)) hst ⟨by decide, fun x hx => (nomatch hx)⟩ (by show 0 + _ < 900000; lia)).mono fun u G5 h5 => ?_
 have h5 : St g G5 (outPS n (.comp op a b cols)) := h5
 refine W.cons (W.ret (W.cmp hr rfl ?_))
 refine W.callName (.raw (.ref 1347)) (by kernel_rfl) (by kernel_rfl) (W.ec (W.deepOps (W.attrW rfl (W.prog0 h5 1266 hr OnOk.none ((finish_ok (hA'.less (by first | decide | lia)) h5 hready).val fun G6 h6 => ?_)))))
 refine .inr ⟨pa, .obj 1269 (progAttrs g (outPS n (.comp op a b cols)).finish), .raw (.ref oa), rfl, ⟨pd, h6.hp, h6.hd⟩, by kernel_rfl, g, (outPS n (.comp op a b cols)).finish, rfl, h6, fun G7 => ?_⟩
 refine W.items_nil ((ran_ok hn (hA'.less (by first | decide | lia)) (by simp only [PS.finish, List.length_map, List.length_append, List.length_singleton]; lia) hrun).vale fun G8 => ?_)
 refine W.callName (.raw (.ref 1321)) (by kernel_rfl) (by kernel_rfl) (W.es [toldMV (.comp op a b cols)] hr OnOk.none ((rows_ok hn (.comp op a b cols) good hdeep _ _ (hA'.less (by first | decide | lia))).vale fun G9 => ?_))
 have hrk := (rowsOf_ok (.comp op a b cols) good).1
 refine ⟨true, [SeqAt.shaped (.list ((rowsOf (.comp op a b cols)).map rowD)) = true, SeqAt.shaped (.list ((rowsOf (.comp op a b cols)).map rowD)) = true], ?_, ⟨rows_shaped hrk, rows_shaped hrk, trivial⟩, rfl⟩
 exact (datEq_of (dat_lst (rows_dat _)) (dat_lst (rows_dat _))).trans (by (refine rG (rows_eqv ..) ?_; rfl))
end
end Mine
namespace Mine
theorem tab0 {h : Heap} {cd P : Addr} {vs : Array Value} {file : Str} {tf tg tt : Tok} {flags text : Int} {inF : Bool} (h1 : h.get? cd = some ⟨.type "code", none, .fields vs, #[]⟩) (h2 : h.get? P = some ⟨.none, none, .fields [].toArray, #[]⟩) (hv : vs[11]? = some (.ref P)) (a : vs.getD 11 .none = .ref P) (b : vs.getD 18 .none = .str file tf)
  (d : vs.getD 7 .none = .int flags tg) (e : vs.getD 9 .none = .bool inF) (f : vs.getD 10 .none = .int text tt) (g : cd ≠ P) : h.TableAt cd P #[] ∧ h.IsCode cd P #[] :=
 ⟨⟨⟨_, vs, h1, rfl, rfl, hv⟩, h2⟩, ⟨_, vs, file, tf, flags, tg, inF, text, tt, _, h1, rfl, a, b, d, e, f, h2, rfl, trivial, g⟩⟩
theorem tab_1008 {p : Params} {h : Heap} (k : (Kf p).In h) : h.TableAt 1012 1008 #[] ∧ h.IsCode 1012 1008 #[] :=
 tab0 (vs := [.str "write_compound" 1669, .str "write_compound" 1670, .str "/claim/cut.py" 1671, .int (782) 0, .int (3) 0, .int (0) 0, .int (0) 0, .int (3) 0, .ref 1007, .bool true, .int (181) 0, .ref 1008, .none, .ref 1009, .ref 1010, .ref 1011, .int (1684) 0, .int (782) 0, .str "/claim/cut.py" 1685].toArray) (k _ _ (by kernel_rfl)) (k _ _ (by kernel_rfl)) rfl rfl rfl rfl rfl rfl (by decide)
theorem tab_1015 {p : Params} {h : Heap} (k : (Kf p).In h) : h.TableAt 1019 1015 #[] ∧ h.IsCode 1019 1015 #[] :=
 tab0 (vs := [.str "write_other" 1687, .str "write_other" 1688, .str "/claim/cut.py" 1689, .int (819) 0, .int (3) 0, .int (0) 0, .int (0) 0, .int (3) 0, .ref 1014, .bool true, .int (181) 0, .ref 1015, .none, .ref 1016, .ref 1017, .ref 1018, .int (1696) 0, .int (819) 0, .str "/claim/cut.py" 1697].toArray) (k _ _ (by kernel_rfl)) (k _ _ (by kernel_rfl)) rfl rfl rfl rfl rfl rfl (by decide)
theorem tab_1318 {p : Params} {h : Heap} (k : (Kf p).In h) : h.TableAt 1320 1318 #[] ∧ h.IsCode 1320 1318 #[] :=
 tab0 (vs := [.str "_law_rows" 2237, .str "_law_rows" 2238, .str "/claim/cut.py" 2239, .int (1131) 0, .int (1) 0, .int (0) 0, .int (0) 0, .int (3) 0, .ref 1317, .bool true, .int (181) 0, .ref 1318, .none, .none, .none, .ref 1319, .int (2240) 0, .int (1131) 0, .str "/claim/cut.py" 2241].toArray) (k _ _ (by kernel_rfl)) (k _ _ (by kernel_rfl)) rfl rfl rfl rfl rfl rfl (by decide)
theorem tab_1335 {p : Params} {h : Heap} (k : (Kf p).In h) : h.TableAt 1339 1335 #[] ∧ h.IsCode 1339 1335 #[] :=
 tab0 (vs := [.str "_law_change" 2259, .str "_law_change" 2260, .str "/claim/cut.py" 2261, .int (1176) 0, .int (3) 0, .int (0) 0, .int (0) 0, .int (3) 0, .ref 1334, .bool true, .int (181) 0, .ref 1335, .none, .ref 1336, .ref 1337, .ref 1338, .int (2267) 0, .int (1176) 0, .str "/claim/cut.py" 2268].toArray) (k _ _ (by kernel_rfl)) (k _ _ (by kernel_rfl)) rfl rfl rfl rfl rfl rfl (by decide)
theorem tab_1349 {p : Params} {h : Heap} (k : (Kf p).In h) : h.TableAt 1353 1349 #[] ∧ h.IsCode 1353 1349 #[] :=
 tab0 (vs := [.str "law" 2282, .str "law" 2283, .str "/claim/cut.py" 2284, .int (1189) 0, .int (1) 0, .int (0) 0, .int (0) 0, .int (3) 0, .ref 1348, .bool true, .int (181) 0, .ref 1349, .none, .ref 1350, .ref 1351, .ref 1352, .int (2291) 0, .int (1189) 0, .str "/claim/cut.py" 2292].toArray) (k _ _ (by kernel_rfl)) (k _ _ (by kernel_rfl)) rfl rfl rfl rfl rfl rfl (by decide)
theorem tabs0 {p : Params} {h : Heap} (k : (Kf p).In h) : ∀ Pl ∈ growT, h.TableAt (growCd Pl) Pl #[] ∧ h.IsCode (growCd Pl) Pl #[] := fun Pl hP => by
 simp only [growT, List.mem_cons, List.not_mem_nil, or_false] at hP
 rcases hP with rfl | rfl | rfl | rfl | rfl
 ·exact tab_1008 k
 ·exact tab_1015 k
 ·exact tab_1318 k
 ·exact tab_1335 k
 ·exact tab_1349 k
theorem ints_vrs {F : FM} : ∀ {vs : List Value} {ns : List Int}, IntsAre vs ns → VRs F (ns.map MV.int) vs
 | _, _, .nil => VRs.nil
 | _, _, .cons n t h => .cons vr_int (ints_vrs h)
theorem callOk (PL : PlainLaw) : CallOk := fun w s vs ns mean mg mb Tp X hg hsz h1355 hI hlen hlay => by
 let c : Cx := ⟨w, s.heap, s.os, mg, mb, X, Tp.g, Tp.b, Tp.builtins, Tp.nolimit, hsz, ⟨_, h1355⟩, Tp.bmain⟩
 have hfz : ∀ a o, c.F0 a = some o → s.heap.get? a = some o ∧ a ∉ growT := fun a o e => by
  unfold Cx.F0 at e
  split at e
  ·injection e
  ·rename_i h; exact ⟨e, h⟩
 have R : Rel c c.F0 TM.nil s := ⟨hfz, FM.le.refl _, fun a x e => (nomatch e), fun Pl hP => by
  refine x0a2 (tabs0 X Pl hP) fun t1 t2 => ?_
  exact ⟨#[], t1, t2, t1, fun pos cv e => by
   have : codeAmong pos [] = none := rfl
   rw [show (#[] : Array Value).toList = [] from rfl, this] at e; injection e⟩, OldK.refl _, hg, rfl⟩
 have hv : VRs c.F0 (ns.map MV.int) vs := ints_vrs hI
 have ha : VR c.F0 (.lst (ns.map .int)) (.ref 1355) := by
  simp only [VR]
  exact ⟨1355, _, vs.toArray, 0, rfl, c.f0 h1355 (by decide), rfl, rfl, by simpa using hv⟩
 have L := law_ok (c := c) (A := callerA) (H := TM.nil) PL (ns := ns) ⟨rfl, by decide +kernel, by decide +kernel⟩ (by lia)
 have L2 := L c.F0 TM.nil TM.nil s (.ref 1354) [.ref 1355] R (fun a x e => (nomatch e)) (fun a x e => (nomatch e)) (fun a => .inl rfl) (by simp only [VR]) (.cons ha VRs.nil)
 refine wpAny_call (codeAny_mono L2 fun r s' z => ?_)
 unfold CallR at z
 split at z
 ·obtain ⟨F', T', H', r, b1, b2, b3, b4, b5, b6, e⟩ := z
  subst e
  simp only [VR] at b6
  subst b6
  exact ⟨rfl, b2.old, b2.os, b2.gens⟩
 ·exact z.elim
theorem holds_plain (PL : PlainLaw) : L.Holds := holds_of (callOk PL)
end Mine
namespace Mine
noncomputable def Run (n : Nat) (cd : List Ins) : Nat → Int → Vm → Int → Vm → Prop
 | 0, a, v, a', v' => a' = a ∧ v' = v
 | k + 1, a, v, a', v' => ∃ i v1 b, 0 ≤ a ∧ cd[a.toNat]? = some i ∧ doIns n v i = some (v1, b) ∧ Run n cd k (if b then i.tgt else a + 1) v1 a' v'
theorem Run.trans {n : Nat} {cd : List Ins} : ∀ {k j : Nat} {a b d : Int} {v w x : Vm}, Run n cd k a v b w → Run n cd j b w d x → Run n cd (k + j) a v d x
 | 0 => by rename_i j a b d v w x; intro hz8 h; obtain ⟨e1, e2⟩ := hz8; subst e1 e2; refine rG (Nat.zero_add ..) ?_; exact h
 | k + 1 => by
  rename_i j a b d v w x
  intro hz8 h
  obtain ⟨i, v1, bb, h0, h1, h2, h3⟩ := hz8
  refine rG (Nat.succ_add ..) ?_
  exact i3a4 i v1 bb h0 h1 h2 (h3.trans h)
theorem Run.ran {n : Nat} {cd : List Ins} : ∀ {k j : Nat} {a b : Int} {v w : Vm}, Run n cd k a v b w → ranVm n cd (k + j) a v = ranVm n cd j b w
 | 0 => by rename_i j a b v w; intro hz6; obtain ⟨e1, e2⟩ := hz6; subst e1 e2; (refine rG (Nat.zero_add ..) ?_; rfl)
 | k + 1 => by
  rename_i j a b v w
  intro hz6
  obtain ⟨i, v1, bb, h0, h1, h2, h3⟩ := hz6
  (refine rG (Nat.succ_add ..) ?_; rewrite [ranVm]; refine rG (if_neg (by lia)) ?_; refine rG h1 ?_)
  cases i <;> first
   | (cases h2; done)
   | (dsimp only; refine rG h2 ?_; exact h3.ran)
theorem Run.end_ {n : Nat} {cd : List Ins} {k : Nat} {b : Int} {v w : Vm} (h : Run n cd k 0 v b w) (hk : k < 4000) (h0 : 0 ≤ b) (hb : cd[b.toNat]? = some .halt) : ranVm n cd 4000 0 v = some w.ans := by
 have e : 4000 = k + ((3999 - k) + 1) := by lia
 (refine rG e ?_; refine rG h.ran ?_; rewrite [ranVm]; refine rG (if_neg (by lia)) ?_; refine rG hb ?_; rfl)
structure Pre (q q' : PS) : Prop where
 ops : ∃ o, q'.ops = q.ops ++ o
 labels : ∃ l, q'.labels = q.labels ++ l
theorem Ext.pre {q q' : PS} (h : Ext q q') : Pre q q' := ⟨h.ops, let ⟨l, e, _⟩ := h.lab; ⟨l, e⟩⟩
theorem Pre.trans {a b d : PS} (x : Pre a b) (y : Pre b d) : Pre a d := by
 obtain ⟨⟨o1, e1⟩, l1, e3⟩ := x
 obtain ⟨⟨o2, e2⟩, l2, e4⟩ := y
 exact ⟨⟨o1 ++ o2, by (refine rG e2 ?_; refine rG e1 ?_; refine rG (List.append_assoc ..) ?_; rfl)⟩, l1 ++ l2, by (refine rG e4 ?_; refine rG e3 ?_; refine rG (List.append_assoc ..) ?_; rfl)⟩
theorem Pre.place (q : PS) (l : Int) : Pre q (q.place l) := ⟨⟨[], by simp [PS.place]⟩, _, rfl⟩
theorem Pre.add (q : PS) (i : Ins) : Pre q (q.add i) := (Ext.add q i).pre
noncomputable def cdOf (Q : PS) : List Ins := (Q.ops ++ [Ins.halt]).map (Ins.fix Q.labels)
theorem cd_at {Q q : PS} {i : Ins} (h : Pre (q.add i) Q) : (cdOf Q)[q.ops.length]? = some (i.fix Q.labels) := by
 refine x1a1 h.ops fun o e => ?_
 have e : Q.ops = (q.ops ++ [i]) ++ o := e
 unfold cdOf
 (refine rG List.getElem?_map ?_; refine rG e ?_)
 have : ((q.ops ++ [i] ++ o) ++ [Ins.halt])[q.ops.length]? = some i := by simp
 refine rG this ?_; rfl
theorem look_first : ∀ {l : List (Int × Int)} {k v : Int} {r : List (Int × Int)}, (∀ x ∈ l, x.1 ≠ k) → look (l ++ (k, v) :: r) k = some v
 | [] => by rename_i k v r; intro _; (refine rG (List.nil_append ..) ?_; rewrite [look]; refine rG (if_pos rfl) ?_; rfl)
 | (a, w) :: l => by
  rename_i k v r
  intro h
  (refine rG List.cons_append ?_; rewrite [look]; refine rG (if_neg (h (a, w) (.head _))) ?_)
  exact look_first fun x hx => h x (.tail _ hx)
theorem lab_at {Q q : PS} {l : Int} (h : Pre (q.place l) Q) (hl : l < 0) (hn : ∀ x ∈ q.labels, x.1 ≠ l) : fixL Q.labels l = q.ops.length := by
 refine x1a1 h.labels fun ls e => ?_
 have e : Q.labels = q.labels ++ (l, (q.ops.length : Int)) :: ls := by refine rG e ?_; show (q.labels ++ [(l, (q.ops.length : Int))]) ++ ls = _; refine rG (List.append_assoc ..) ?_; rfl
 (rewrite [fixL]; refine rG (if_pos hl) ?_; refine rG e ?_; refine rG (look_first hn) ?_); rfl
theorem Run.one {n : Nat} {Q q : PS} {i : Ins} {v v' : Vm} {b : Bool} (h : Pre (q.add i) Q) (hd : doIns n v (i.fix Q.labels) = some (v', b)) (hb : b = false) : Run n (cdOf Q) 1 q.ops.length v (q.add i).ops.length v' := by
 subst hb
 refine ⟨_, v', false, (by lia), (by refine rG (Int.toNat_natCast ..) ?_; exact cd_at h), hd, ?_, rfl⟩
 show ((q.ops ++ [i]).length : Int) = if false = true then _ else (q.ops.length : Int) + 1
 refine rG List.length_append ?_; simp
theorem Run.jump {n : Nat} {Q q : PS} {i : Ins} {v v' : Vm} (h : Pre (q.add i) Q) (hd : doIns n v (i.fix Q.labels) = some (v', true)) : Run n (cdOf Q) 1 q.ops.length v (i.fix Q.labels).tgt v' :=
 ⟨_, v', true, by lia, by refine rG (Int.toNat_natCast ..) ?_; exact cd_at h, hd, rfl, rfl⟩
end Mine
end
section
set_option backward.match.sparseCases false
open PySem PySem.W PySem.W.X PyProof.Rows PySem.Calls
open Builtin Builtin.ObjectAttr
namespace Mine
inductive RunA (n : Nat) (Q : PS) (k o : Nat) (v : Vm) (e : Nat) (A : Vm → Prop) (R : Int) (L : Vm → Prop) : Prop
 | mk (j : Nat) (v' : Vm) (hj : j ≤ k) (r : Run n (cdOf Q) j o v e v') (a : A v') (f : ∀ r, r < R → look v'.held r = look v.held r) (l : L v') : RunA n Q k o v e A R L
inductive RunM (n : Nat) (Q : PS) (k o : Nat) (v : Vm) (e : Nat) (A : Vm → Prop) (M : Prop) (R : Int) (L : Vm → Prop) : Prop
 | mk (j : Nat) (v' : Vm) (hj : j ≤ k) (r : Run n (cdOf Q) j o v e v') (a : A v') (m : M) (f : ∀ r, r < R → look v'.held r = look v.held r) (l : L v') : RunM n Q k o v e A M R L
inductive RunB (n : Nat) (Q : PS) (k o : Nat) (v : Vm) (e : Nat) (A : Vm → Prop) (M : Prop) (R C C' E : Int) : Prop
 | mk (j : Nat) (v' : Vm) (hj : j ≤ k) (r : Run n (cdOf Q) j o v e v') (a : A v') (m : M) (f : ∀ r, r < R → look v'.held r = look v.held r) (l : ∀ c, C ≤ c → c < C' → look v'.lots c = look v.lots c) (z : ∀ c, E ≤ c → look v'.lots c = none) : RunB n Q k o v e A M R C C' E
inductive RunV (n : Nat) (Q : PS) (k o : Nat) (v : Vm) (e : Nat) (G : List (Int × Hv) → Prop) (R : Int) : Prop
 | mk (v' : Vm) (r : Run n (cdOf Q) k o v e v') (g : G v'.held) (f : ∀ x, x < R → look v'.held x = look v.held x) (l : v'.lots = v.lots) (a : v'.ans = v.ans) : RunV n Q k o v e G R
noncomputable def KeepL (C : Int) (v v' : Vm) : Prop := ∀ c, C ≤ c → look v'.lots c = look v.lots c
noncomputable def KeepC (C cur : Int) (v v' : Vm) : Prop := ∀ c, C ≤ c → c ≠ cur → look v'.lots c = look v.lots c
structure SemT (n : Nat) (Q : PS) {σ : Type} (tk : Int → PS → PS) (st : σ → List Wt → σ) (Abs : σ → Vm → Prop) (room : σ → Nat → Prop) (k : Nat) (R C : Int) : Prop where
 ext : ∀ f q, Ext q (tk f q) ∧ (tk f q).curs = q.curs
 stable : ∀ s v v', Abs s v → (∀ r, r < R → look v'.held r = look v.held r) → (∀ c, c < C → look v'.lots c = look v.lots c) → v'.ans = v.ans → Abs s v'
 more : ∀ s row m, RowOk n row → room s (m + 1) → room (st s row) m
 run : ∀ q first v s row m, R ≤ q.regs → C ≤ q.curs → LabOk q → Pre (tk first q) Q → first + n ≤ q.regs → getN v.held first n = some row → RowOk n row → Abs s v → room s (m + 1) →
  RunA n Q k q.ops.length v (tk first q).ops.length (Abs (st s row)) q.regs (KeepL C v)
theorem values_run {n : Nat} {Q : PS} : ∀ (r : List Wt) (first : Int) (q : PS) (v : Vm), Pre (valuesFrom first r q) Q →
  RunV n Q r.length q.ops.length v (valuesFrom first r q).ops.length (fun h => getN h first r.length = some r) first
 | [] => fun first q v h => ⟨v, ⟨rfl, rfl⟩, rfl, fun x _ => rfl, rfl, rfl⟩
 | w :: r => by
  intro first q v h
  have h1 : Pre (q.add (.value first w)) Q := ((values_ext r (first + 1) (q.add (.value first w))).1).pre.trans h
  have s1 := Run.one (n := n) (v := v) (v' := { v with held := putL v.held first (.w w) }) (b := false) h1 rfl rfl
  obtain ⟨v', r1, g1, f1, l1, a1⟩ := values_run (n := n) r (first + 1) (q.add (.value first w)) { v with held := putL v.held first (.w w) } h
  refine ⟨v', ?_, ?_, fun x hx => ?_, l1, a1⟩
  ·have := s1.trans r1
   rw [Nat.add_comm] at this
   exact this
  ·have e : get1 v'.held first = some w := by
    unfold get1
    refine rG (f1 first (by lia)) ?_
    show (match look (putL v.held first (.w w)) first with | some (.w x) => some x | _ => none) = some w
    (refine rG (look_put ..) ?_; refine rG (if_pos rfl) ?_; rfl)
   (refine rG List.length_cons ?_; rewrite [getN]; refine rG e ?_; refine rG g1 ?_; rfl)
  ·refine rG (f1 x (by lia)) ?_
   show look (putL v.held first (.w w)) x = _
   (refine rG (look_put ..) ?_; refine rG (if_neg (by lia)) ?_; rfl)
theorem row_run {n : Nat} {Q q : PS} {r : List Wt} (v : Vm) (hr : r.length = n) (h : Pre (emitRow r q) Q) :
  RunV n Q n q.ops.length v (emitRow r q).ops.length (fun h => getN h q.regs n = some r) q.regs := by
 subst hr
 exact values_run r q.regs (q.reg (max 1 r.length)) v h
theorem values_regs : ∀ (r : List Wt) (f : Int) (q : PS), (valuesFrom f r q).regs = q.regs ∧ (valuesFrom f r q).curs = q.curs
 | [] => fun f q => ⟨rfl, rfl⟩
 | w :: r => fun f q => values_regs r (f + 1) (q.add (.value f w))
theorem emitRow_regs (r : List Wt) (q : PS) : (emitRow r q).regs = q.regs + max 1 (r.length : Int) ∧ (emitRow r q).curs = q.curs := values_regs _ _ _
section
variable {n : Nat} {Q : PS} {σ : Type} {tk : Int → PS → PS} {st : σ → List Wt → σ} {Abs : σ → Vm → Prop} {room : σ → Nat → Prop} {k : Nat} {R C : Int}
theorem emitRows_ext (S : SemT n Q tk st Abs room k R C) : ∀ (l : List (List Wt)) (q : PS), Ext q (emitRows tk l q) ∧ (emitRows tk l q).curs = q.curs
 | [] => fun q => ⟨Ext.refl q, rfl⟩
 | r :: l => by
  intro q
  refine x0a2 (S.ext q.regs (emitRow r q)) fun h1 h2 => ?_
  refine x0a2 (emitRows_ext S l (tk q.regs (emitRow r q))) fun h3 h4 => ?_
  exact ⟨((row_ext r q).1.trans h1).trans h3, by (rewrite [emitRows]; refine rG h4 ?_; refine rG h2 ?_; refine rG ((emitRow_regs r q).2) ?_; rfl)⟩
theorem rows_run (S : SemT n Q tk st Abs room k R C) : ∀ (l : List (List Wt)) (q : PS) (v : Vm) (s : σ) (m : Nat), R ≤ q.regs → C ≤ q.curs → LabOk q → Pre (emitRows tk l q) Q → (∀ r ∈ l, RowOk n r) → Abs s v → room s (l.length + m) →
  RunM n Q (l.length * (n + k)) q.ops.length v (emitRows tk l q).ops.length (Abs (l.foldl st s)) (room (l.foldl st s) m) q.regs (KeepL C v)
 | [] => fun q v s m hR hC hL hE hr ha hm => ⟨0, v, Nat.zero_le _, ⟨rfl, rfl⟩, ha, by rw [List.length_nil, Nat.zero_add] at hm; exact hm, fun _ _ => rfl, fun _ _ => rfl⟩
 | r :: l => by
  intro q v s m hR hC hL hE hr ha hm
  have hrr := hr r (.head _)
  refine x0a2 (S.ext q.regs (emitRow r q)) fun t1 t2 => ?_
  refine x0a2 (emitRows_ext S l (tk q.regs (emitRow r q))) fun t3 t4 => ?_
  refine x0a2 (emitRow_regs r q) fun e1 e2 => ?_
  have x1 := (row_ext r q).1
  have hE2 : Pre (tk q.regs (emitRow r q)) Q := t3.pre.trans hE
  have hE1 : Pre (emitRow r q) Q := t1.pre.trans hE2
  obtain ⟨v1, r1, g1, f1, l1, a1⟩ := row_run (n := n) v hrr.1 hE1
  have ha1 : Abs s v1 := S.stable s v v1 ha (fun x hx => f1 x (by lia)) (fun c _ => by (refine rG l1 ?_; rfl)) a1
  have hL1 := hL.ext x1
  rw [List.length_cons, Nat.add_right_comm] at hm
  obtain ⟨j, v2, hj, r2, ha2, f2, l2⟩ := S.run (emitRow r q) q.regs v1 s r (l.length + m) (by refine rG e1 ?_; lia) (by refine rG e2 ?_; exact hC) hL1 hE2 (by (refine rG e1 ?_; refine rG hrr.1 ?_); lia) g1 hrr ha1 hm
  obtain ⟨j3, v3, hj3, r3, ha3, hm3, f3, l3⟩ := rows_run S l (tk q.regs (emitRow r q)) v2 (st s r) m (by have := t1.regs; rw [e1] at this; lia) (by (refine rG t2 ?_; refine rG e2 ?_); exact hC) (hL1.ext t1) hE (fun x hx => hr x (.tail _ hx)) ha2 (S.more s r _ hrr hm)
  refine ⟨n + j + j3, v3, ?_, (r1.trans r2).trans r3, ha3, hm3, fun x hx => ?_, fun c hc => ?_⟩
  ·(refine rG List.length_cons ?_; refine rG (Nat.succ_mul ..) ?_); lia
  ·have h1 := t1.regs
   (refine rG (f3 x (by rw [e1] at h1; lia)) ?_; refine rG (f2 x (by rw [e1]; lia)) ?_; refine rG (f1 x hx) ?_; rfl)
  ·(refine rG (l3 c hc) ?_; refine rG (l2 c hc) ?_; refine rG l1 ?_; rfl)
end
end Mine
end
section
open PySem PySem.W PySem.W.X PyProof.Rows PySem.Calls
open Builtin Builtin.ObjectAttr
namespace Mine
noncomputable def Base (B : Vm → Prop) (R C : Int) : Prop := ∀ v v', B v → (∀ r, r < R → look v'.held r = look v.held r) → (∀ c, c < C → look v'.lots c = look v.lots c) → v'.ans = v.ans → B v'
noncomputable def AbsL (B : Vm → Prop) (cur : Int) (l : Lot) (v : Vm) : Prop := B v ∧ look v.lots cur = some l
noncomputable def roomL (l : Lot) (m : Nat) : Prop := l.rows.length + m < 50
section
variable {n : Nat} {Q : PS} {B : Vm → Prop} {R C cur : Int}
theorem absL_stable (hB : Base B R C) (hC : C ≤ cur) : ∀ s v v', AbsL B cur s v → (∀ r, r < R → look v'.held r = look v.held r) → (∀ c, c < cur + 1 → look v'.lots c = look v.lots c) → v'.ans = v.ans → AbsL B cur s v' := fun s v v' hq hr hc ha => x0a2 hq fun h1 h2 =>
 ⟨hB v v' h1 hr (fun c h => hc c (by lia)) ha, by refine rG (hc cur (by lia)) ?_; exact h2⟩
theorem absL_set (hB : Base B R C) (hC : C ≤ cur) {l l' : Lot} {v v' : Vm} (h : AbsL B cur l v) (hr : ∀ r, r < R → look v'.held r = look v.held r) (hl : v'.lots = putL v.lots cur l') (ha : v'.ans = v.ans) : AbsL B cur l' v' :=
 ⟨hB v v' h.1 hr (fun c hc => by (refine rG hl ?_; refine rG (look_put ..) ?_; refine rG (if_neg (by lia)) ?_; rfl)) ha, by (refine rG hl ?_; refine rG (look_put ..) ?_; refine rG (if_pos rfl) ?_; rfl)⟩
theorem put_len (l : Lot) (row : List Wt) : (l.put row).rows.length ≤ l.rows.length + 1 := by
 show (srt l.by_ (l.less row ++ [row])).length ≤ _
 (refine rG ((srt_ok _ _).1.length_eq) ?_; refine rG List.length_append ?_; refine rG List.length_singleton ?_)
 have := l.less_len row
 lia
theorem putKey_run {q : PS} {first : Int} {row : List Wt} {l : Lot} {v : Vm} (h : Pre (putKey cur first n q) Q) (hg : getN v.held first n = some row) (hrow : RowOk n row) (hl : look v.lots cur = some l) (hz : l.rows.length < 50) :
  Run n (cdOf Q) 2 q.ops.length v (putKey cur first n q).ops.length { v with held := putL v.held q.regs (.rc row), lots := putL v.lots cur (l.put row) } := by
 have h1 : Pre ((q.reg 1).add (.record first n q.regs)) Q := (Pre.add _ _).trans h
 have s1 := Run.one (n := n) (v := v) (v' := { v with held := putL v.held q.regs (.rc row) }) (b := false) h1 (by simp only [Ins.fix, doIns, if_pos, hg]) rfl
 have s2 := Run.one (n := n) (v := { v with held := putL v.held q.regs (.rc row) }) (v' := { v with held := putL v.held q.regs (.rc row), lots := putL v.lots cur (l.put row) }) (b := false) (q := (q.reg 1).add (.record first n q.regs)) (i := .insert cur q.regs) h (by
  simp only [Ins.fix, doIns, hl, look_put, if_pos]
  (refine rG (if_pos ⟨hrow, hz⟩) ?_; rfl)) rfl
 exact s1.trans s2
theorem putKey_sem (hB : Base B R C) (hC : C ≤ cur) : SemT n Q (putKey cur · n) (fun l row => l.put row) (AbsL B cur) roomL 3 R (cur + 1) where
 ext := fun f q => ⟨(putKey_ext cur f n q).1, rfl⟩
 stable := absL_stable hB hC
 more := fun l row m _ h => by have := put_len l row; unfold roomL at *; lia
 run := fun q first v l row m hR hCq hL hE hf hg hrow ha hm => by
  have hz : l.rows.length < 50 := by unfold roomL at hm; lia
  refine ⟨2, _, by decide, putKey_run hE hg hrow ha.2 hz, absL_set hB hC ha (fun r hr => ?_) rfl rfl, fun r hr => ?_, fun c hc => ?_⟩
  ·show look (putL v.held q.regs _) r = _
   (refine rG (look_put ..) ?_; refine rG (if_neg (by lia)) ?_; rfl)
  ·show look (putL v.held q.regs _) r = _
   (refine rG (look_put ..) ?_; refine rG (if_neg (by lia)) ?_; rfl)
  ·show look (putL v.lots cur _) c = _
   (refine rG (look_put ..) ?_; refine rG (if_neg (by lia)) ?_; rfl)
theorem takeOut_sem (hB : Base B R C) (hC : C ≤ cur) : SemT n Q (takeOut cur n) (fun l row => l.del row) (AbsL B cur) roomL 3 R (cur + 1) where
 ext := fun f q => ⟨Ext.add _ _, rfl⟩
 stable := absL_stable hB hC
 more := fun l row m _ h => by have := l.less_len row; unfold roomL at *; show (l.less row).length + m < 50; lia
 run := fun q first v l row m hR hCq hL hE hf hg hrow ha hm => by
  have hz : l.rows.length < 50 := by unfold roomL at hm; lia
  refine ⟨1, { v with lots := putL v.lots cur (l.del row) }, by decide, Run.one (b := false) hE (by
   simp only [Ins.fix, doIns, if_pos, ha.2, hg]
   (refine rG (if_pos ⟨hrow, hz⟩) ?_; rfl)) rfl, absL_set hB hC ha (fun r hr => rfl) rfl rfl, fun r hr => rfl, fun c hc => ?_⟩
  show look (putL v.lots cur _) c = _
  (refine rG (look_put ..) ?_; refine rG (if_neg (by lia)) ?_; rfl)
noncomputable def Lot.new (l : Lot) (row : List Wt) : Lot := if (l.spot row).isSome then l else l.put row
theorem putNew_sem (hB : Base B R C) (hC : C ≤ cur) : SemT n Q (putNew cur n) Lot.new (AbsL B cur) roomL 3 R (cur + 1) where
 ext := fun f q => ⟨(putNew_ok cur n f q).1, rfl⟩
 stable := absL_stable hB hC
 more := fun l row m _ h => by
  have := put_len l row
  unfold roomL at *
  unfold Lot.new
  split <;> lia
 run := fun q first v l row m hR hCq hL hE hf hg hrow ha hm => by
  have hz : l.rows.length < 50 := by unfold roomL at hm; lia
  have hx := putKey_ext cur first n (q.label.add (.found true cur q.lab first n))
  have hEp : Pre (putKey cur first n (q.label.add (.found true cur q.lab first n))) Q := (Pre.place _ _).trans hE
  have hEf : Pre (q.label.add (.found true cur q.lab first n)) Q := hx.1.pre.trans hEp
  have hlab : fixL Q.labels q.lab = (putKey cur first n (q.label.add (.found true cur q.lab first n))).ops.length := lab_at hE hL.1 fun x hx' e => by
   have h1 : x ∈ q.labels := by simpa [putKey, PS.add, PS.reg, PS.label] using hx'
   have := hL.2 x h1
   lia
  cases hsp : (l.spot row).isSome with
  | true =>
   have s1 := Run.jump (n := n) (v := v) (v' := v) hEf (by
    simp only [Ins.fix, doIns, if_pos, ha.2, hg]
    (refine rG (if_pos hrow) ?_; refine rG hsp ?_); rfl)
   refine ⟨1, v, by decide, ?_, ?_, fun _ _ => rfl, fun _ _ => rfl⟩
   ·have e : (Ins.fix Q.labels (.found true cur q.lab first n)).tgt = ((putNew cur n first q).ops.length : Int) := hlab
    refine rL e ?_; exact s1
   ·unfold Lot.new; refine rG (if_pos hsp) ?_; exact ha
  | false =>
   have s1 := Run.one (n := n) (v := v) (v' := v) (b := false) hEf (by
    simp only [Ins.fix, doIns, if_pos, ha.2, hg]
    (refine rG (if_pos hrow) ?_; refine rG hsp ?_); rfl) rfl
   have s2 := putKey_run (n := n) (q := q.label.add (.found true cur q.lab first n)) hEp hg hrow ha.2 hz
   refine ⟨1 + 2, _, by decide, s1.trans s2, ?_, fun r hr => ?_, fun c hc => ?_⟩
   ·unfold Lot.new
    refine rG (if_neg (by rw [hsp]; decide)) ?_
    refine absL_set hB hC ha (fun r hr => ?_) rfl rfl
    show look (putL v.held q.regs _) r = _
    (refine rG (look_put ..) ?_; refine rG (if_neg (by lia)) ?_; rfl)
   ·show look (putL v.held q.regs _) r = _
    (refine rG (look_put ..) ?_; refine rG (if_neg (by lia)) ?_; rfl)
   ·show look (putL v.lots cur _) c = _
    (refine rG (look_put ..) ?_; refine rG (if_neg (by lia)) ?_; rfl)
end
end Mine
end
section
set_option backward.match.sparseCases false
open PySem PySem.W PySem.W.X PyProof.Rows PySem.Calls
open Builtin Builtin.ObjectAttr
namespace Mine
theorem columns_run {n : Nat} {Q : PS} {cur first : Int} {l : Lot} {row : List Wt} : ∀ (m i : Nat) (q : PS) (v : Vm), Pre (columnsFrom cur first m i q) Q → look v.lots cur = some l → l.rows[l.at_.toNat]? = some row → i + m = row.length →
  RunV n Q m q.ops.length v (columnsFrom cur first m i q).ops.length (fun h => getN h (first + i) m = some (row.drop i)) (first + i)
 | 0 => fun i q v h hl hr hm => ⟨v, ⟨rfl, rfl⟩, by (rewrite [getN]; refine rG (List.drop_of_length_le (by lia)) ?_; rfl), fun _ _ => rfl, rfl, rfl⟩
 | m + 1 => by
  intro i q v h hl hr hm
  have hi : i < row.length := by lia
  have ei : ((i : Int) + 1) = ((i + 1 : Nat) : Int) := by lia
  have h0 : columnsFrom cur first (m + 1) i q = columnsFrom cur first m ((i + 1 : Nat) : Int) (q.add (.column cur i (first + i))) := by (rewrite [columnsFrom]; refine rG ei ?_; rfl)
  rw [h0] at h ⊢
  have h1 : Pre (q.add (.column cur i (first + i))) Q := ((columns_ext cur first m ((i + 1 : Nat) : Int) (q.add (.column cur i (first + i)))).1).pre.trans h
  have s1 := Run.one (n := n) (v := v) (v' := { v with held := putL v.held (first + i) (.w row[i]) }) (b := false) h1 (by
   simp only [Ins.fix, doIns, hl, hr]
   (refine rG (if_pos (by lia : (0 : Int) ≤ i)) ?_; refine rG (Int.toNat_natCast ..) ?_; refine rG (List.getElem?_eq_getElem hi) ?_; rfl)) rfl
  obtain ⟨v', r1, g1, f1, l1, a1⟩ := columns_run (n := n) m (i + 1) (q.add (.column cur i (first + i))) { v with held := putL v.held (first + i) (.w row[i]) } h hl hr (by lia)
  refine ⟨v', ?_, ?_, fun x hx => ?_, l1, a1⟩
  ·have := s1.trans r1
   rw [Nat.add_comm] at this
   exact this
  ·have e : get1 v'.held (first + i) = some row[i] := by
    unfold get1
    refine rG (f1 _ (by lia)) ?_
    show (match look (putL v.held (first + i) (.w row[i])) (first + i) with | some (.w x) => some x | _ => none) = some _
    (refine rG (look_put ..) ?_; refine rG (if_pos rfl) ?_; rfl)
   have e2 : first + (i : Int) + 1 = first + ((i + 1 : Nat) : Int) := by lia
   (rewrite [getN]; refine rG e ?_; refine rG e2 ?_; refine rG g1 ?_; refine rG (List.drop_eq_getElem_cons hi) ?_; rfl)
  ·refine rG (f1 x (by lia)) ?_
   show look (putL v.held (first + i) _) x = _
   (refine rG (look_put ..) ?_; refine rG (if_neg (by lia)) ?_; rfl)
theorem columns_regs (cur first : Int) : ∀ (m : Nat) (i : Int) (q : PS), (columnsFrom cur first m i q).regs = q.regs ∧ (columnsFrom cur first m i q).curs = q.curs
 | 0 => fun i q => ⟨rfl, rfl⟩
 | m + 1 => fun i q => columns_regs cur first m (i + 1) (q.add (.column cur i (first + i)))
noncomputable def pass (lo : Option Lot) (r : List Wt) : Bool := match lo with
 | none => true
 | some l => (l.spot r).isSome
noncomputable def OtherAt (C : Int) (other : Option Int) (lo : Option Lot) (v : Vm) : Prop := match other, lo with
 | none, none => True
 | some o, some l => C ≤ o ∧ look v.lots o = some l
 | _, _ => False
section
variable {n : Nat} {Q : PS} {σ : Type} {tk : Int → PS → PS} {st : σ → List Wt → σ} {Abs : σ → Vm → Prop} {room : σ → Nat → Prop} {k : Nat} {R C : Int}
theorem tell_ext (S : SemT n Q tk st Abs room k R C) (cur : Int) (other : Option Int) (F : Int) (q : PS) : Ext q (tell cur n other tk F q) ∧ (tell cur n other tk F q).curs = q.curs := by
 have h1 := (columns_ext cur q.regs n 0 (q.reg n)).1
 have h0 : Ext q (q.reg (n : Int)) := Ext.reg q (by lia)
 obtain ⟨e1, e2⟩ := columns_regs cur q.regs n 0 (q.reg n)
 unfold tell
 cases other with
 | none =>
  obtain ⟨t1, t2⟩ := S.ext q.regs (columnsFrom cur q.regs n 0 (q.reg n))
  exact ⟨(h0.trans h1).trans t1, by (refine rG t2 ?_; refine rG e2 ?_); rfl⟩
 | some o =>
  obtain ⟨t1, t2⟩ := S.ext q.regs ((columnsFrom cur q.regs n 0 (q.reg n)).add (.found false o F q.regs n))
  exact ⟨((h0.trans h1).trans (Ext.add _ _)).trans t1, by refine rG t2 ?_; exact e2⟩
theorem tell_run (S : SemT n Q tk st Abs room k R C) {cur F : Int} {other : Option Int} {lo : Option Lot} {q : PS} {v : Vm} {s : σ} {m : Nat} {l : Lot} {row : List Wt} (hR : R ≤ q.regs) (hC : C ≤ q.curs) (hL : LabOk q) (hE : Pre (tell cur n other tk F q) Q)
  (ha : Abs s v) (hm : pass lo row = true → room s (m + 1)) (hl : look v.lots cur = some l) (hr : l.rows[l.at_.toNat]? = some row) (hrow : RowOk n row) (ho : OtherAt C other lo v) (hF : fixL Q.labels F = (tell cur n other tk F q).ops.length) :
  RunA n Q (n + 1 + k) q.ops.length v (tell cur n other tk F q).ops.length (Abs (if pass lo row then st s row else s)) q.regs (KeepL C v) := by
 have x1 := (columns_ext cur q.regs n 0 (q.reg n)).1
 have x0 : Ext q (q.reg (n : Int)) := Ext.reg q (by lia)
 obtain ⟨e1, e2⟩ := columns_regs cur q.regs n 0 (q.reg n)
 have e1 : (columnsFrom cur q.regs n 0 (q.reg n)).regs = q.regs + n := e1
 have e2 : (columnsFrom cur q.regs n 0 (q.reg n)).curs = q.curs := e2
 have hL1 : LabOk (columnsFrom cur q.regs n 0 (q.reg n)) := hL.ext (x0.trans x1)
 have colsRun : Pre (columnsFrom cur q.regs n 0 (q.reg n)) Q → RunV n Q n q.ops.length v (columnsFrom cur q.regs n 0 (q.reg n)).ops.length (fun h => getN h q.regs n = some row) q.regs := fun h => by
  obtain ⟨v', r1, g1, f1, l1, a1⟩ := columns_run (n := n) (cur := cur) (first := q.regs) n 0 (q.reg n) v h hl hr (by (refine rG hrow.1 ?_; refine rG (Nat.zero_add ..) ?_; rfl))
  exact ⟨v', r1, by simpa using g1, fun x hx => f1 x (by simpa using hx), l1, a1⟩
 unfold tell at hE hF ⊢
 cases other with
 | none =>
  cases lo with
  | some _ => exact ho.elim
  | none =>
   obtain ⟨t1, t2⟩ := S.ext q.regs (columnsFrom cur q.regs n 0 (q.reg n))
   obtain ⟨v1, r1, g1, f1, l1, a1⟩ := colsRun (t1.pre.trans hE)
   have ha1 : Abs s v1 := S.stable s v v1 ha (fun x hx => f1 x (by lia)) (fun c _ => by (refine rG l1 ?_; rfl)) a1
   obtain ⟨j, v2, hj, r2, ha2, f2, l2⟩ := S.run _ q.regs v1 s row m (by refine rG e1 ?_; lia) (by refine rG e2 ?_; exact hC) hL1 hE (by refine rG e1 ?_; lia) g1 hrow ha1 (hm rfl)
   exact ⟨n + j, v2, by lia, r1.trans r2, ha2, fun r hr => by (refine rG (f2 r (by rw [e1]; lia)) ?_; refine rG (f1 r hr) ?_; rfl), fun c hc => by (refine rG (l2 c hc) ?_; refine rG l1 ?_; rfl)⟩
 | some o =>
  cases lo with
  | none => exact ho.elim
  | some lo =>
   obtain ⟨ho1, ho2⟩ := ho
   obtain ⟨t1, t2⟩ := S.ext q.regs ((columnsFrom cur q.regs n 0 (q.reg n)).add (.found false o F q.regs n))
   have hEf : Pre ((columnsFrom cur q.regs n 0 (q.reg n)).add (.found false o F q.regs n)) Q := t1.pre.trans hE
   obtain ⟨v1, r1, g1, f1, l1, a1⟩ := colsRun ((Pre.add _ _).trans hEf)
   have ha1 : Abs s v1 := S.stable s v v1 ha (fun x hx => f1 x (by lia)) (fun c _ => by (refine rG l1 ?_; rfl)) a1
   have ho3 : look v1.lots o = some lo := by refine rG l1 ?_; exact ho2
   cases hsp : (lo.spot row).isSome with
   | true =>
    have s1 := Run.one (n := n) (v := v1) (v' := v1) (b := false) hEf (by
     simp only [Ins.fix, doIns, if_pos, ho3, g1]
     (refine rG (if_pos hrow) ?_; refine rG hsp ?_); rfl) rfl
    obtain ⟨j, v2, hj, r2, ha2, f2, l2⟩ := S.run _ q.regs v1 s row m (by show R ≤ (columnsFrom cur q.regs n 0 (q.reg n)).regs; refine rG e1 ?_; lia) (by show C ≤ (columnsFrom cur q.regs n 0 (q.reg n)).curs; refine rG e2 ?_; exact hC) (hL1.ext (Ext.add _ _)) hE (by show q.regs + n ≤ (columnsFrom cur q.regs n 0 (q.reg n)).regs; refine rG e1 ?_; lia) g1 hrow ha1 (hm hsp)
    refine ⟨n + 1 + j, v2, by lia, (r1.trans s1).trans r2, ?_, fun r hr => ?_, fun c hc => by (refine rG (l2 c hc) ?_; refine rG l1 ?_; rfl)⟩
    ·refine rG (if_pos (show pass (some lo) row = true from hsp)) ?_; exact ha2
    ·(refine rG (f2 r (by show r < (columnsFrom cur q.regs n 0 (q.reg n)).regs; rw [e1]; lia)) ?_; refine rG (f1 r hr) ?_; rfl)
   | false =>
    have s1 := Run.jump (n := n) (v := v1) (v' := v1) hEf (by
     simp only [Ins.fix, doIns, if_pos, ho3, g1]
     (refine rG (if_pos hrow) ?_; refine rG hsp ?_); rfl)
    refine ⟨n + 1, v1, by lia, ?_, ?_, f1, fun c hc => by (refine rG l1 ?_; rfl)⟩
    ·have e : (Ins.fix Q.labels (.found false o F q.regs n)).tgt = ((tk q.regs ((columnsFrom cur q.regs n 0 (q.reg n)).add (.found false o F q.regs n))).ops.length : Int) := hF
     have := r1.trans s1
     rw [e] at this; exact this
    ·refine rG (if_neg (by show ¬ (lo.spot row).isSome = true; rw [hsp]; decide)) ?_; exact ha1
end
end Mine
end
section
open PySem PySem.W PySem.W.X PyProof.Rows PySem.Calls
open Builtin Builtin.ObjectAttr
namespace Mine
section
variable {n : Nat} {Q : PS} {σ : Type} {tk : Int → PS → PS} {st : σ → List Wt → σ} {Abs : σ → Vm → Prop} {room : σ → Nat → Prop} {k : Nat} {R C : Int}
theorem look_setAt {v : Vm} {cur c : Int} {l : Lot} (h : c ≠ cur) : look (putL v.lots cur l) c = look v.lots c := by (refine rG (look_put ..) ?_; refine rG (if_neg (Ne.symm h)) ?_; rfl)
theorem room_less (S : SemT n Q tk st Abs room k R C) {lo : Option Lot} {s : σ} {row : List Wt} {rest : List (List Wt)} {m : Nat} (hrow : RowOk n row) (h : room s (((row :: rest).filter (pass lo)).length + m)) :
  (pass lo row = true → room s ((rest.filter (pass lo)).length + m + 1)) ∧ room (if pass lo row then st s row else s) ((rest.filter (pass lo)).length + m) := by
 rw [List.filter_cons] at h
 cases hp : pass lo row with
 | true =>
  rw [if_pos hp, List.length_cons, Nat.add_right_comm] at h
  exact ⟨fun _ => h, S.more s row _ hrow h⟩
 | false =>
  rw [if_neg (by refine rG hp ?_; decide)] at h
  exact ⟨fun e => (by cases e), h⟩
theorem loop_run (S : SemT n Q tk st Abs room k R C) {cur F : Int} {other : Option Int} {lo : Option Lot} {q qn : PS} {l : Lot} (hR : R ≤ q.regs) (hC : C ≤ q.curs) (hL : LabOk q) (hcur : C ≤ cur)
  (hE : Pre (tell cur n other tk F q) Q) (hF : fixL Q.labels F = (tell cur n other tk F q).ops.length) {B : Int} (hB : fixL Q.labels B = q.ops.length) (hqn : qn.ops = (tell cur n other tk F q).ops) (hEn : Pre (qn.add (.next cur B)) Q) (hoc : ∀ o, other = some o → o ≠ cur)
  (hrows : ∀ r ∈ l.rows, RowOk n r) : ∀ (rest : List (List Wt)) (i : Nat) (v : Vm) (s : σ) (m : Nat), rest ≠ [] → l.rows.drop i = rest → look v.lots cur = some { l with at_ := i } → OtherAt C other lo v → Abs s v → room s ((rest.filter (pass lo)).length + m) →
   RunM n Q (rest.length * (n + k + 2)) q.ops.length v (qn.add (.next cur B)).ops.length (Abs ((rest.filter (pass lo)).foldl st s)) (room ((rest.filter (pass lo)).foldl st s) m) q.regs (KeepC C cur v)
 | [], i, v, s, m, hne, _, _, _, _, _ => absurd rfl hne
 | row :: rest, i, v, s, m, _, hdrop, hl, ho, ha, hm => by
  have hi : i < l.rows.length := by
   rcases Nat.lt_or_ge i l.rows.length with h | h
   ·exact h
   ·rw [List.drop_of_length_le h] at hdrop; injection hdrop
  rw [List.drop_eq_getElem_cons hi] at hdrop
  injection hdrop with hrow0 hdrop'
  have hget : l.rows[i]? = some row := by (refine rG (List.getElem?_eq_getElem hi) ?_; refine rG hrow0 ?_; rfl)
  have hrow : RowOk n row := hrows row (List.mem_of_getElem? hget)
  refine x0a2 (room_less S hrow hm) fun hm1 hm2 => ?_
  obtain ⟨j1, v1, hj1, r1, ha1, f1, l1⟩ := tell_run S (l := { l with at_ := i }) hR hC hL hE ha hm1 hl (by show l.rows[(i : Int).toNat]? = some row; refine rG (Int.toNat_natCast ..) ?_; exact hget) hrow ho hF
  have hl1 : look v1.lots cur = some { l with at_ := i } := by refine rG (l1 cur hcur) ?_; exact hl
  let v2 : Vm := { v1 with lots := putL v1.lots cur { l with at_ := (i : Int) + 1 } }
  have hdo : doIns n v1 (Ins.fix Q.labels (.next cur B)) = some (v2, decide ((i : Int) + 1 < (l.rows.length : Int))) := by
   simp only [Ins.fix, doIns, hl1]; rfl
  have ha2 : Abs (if pass lo row then st s row else s) v2 := S.stable _ v1 v2 ha1 (fun _ _ => rfl) (fun c hc => look_setAt (by lia)) rfl
  have efold : ((row :: rest).filter (pass lo)).foldl st s = (rest.filter (pass lo)).foldl st (if pass lo row then st s row else s) := by
   refine rG List.filter_cons ?_
   split <;> rfl
  rw [← hqn] at r1
  (refine rG efold ?_; refine rG List.length_cons ?_; refine rG (Nat.succ_mul ..) ?_)
  have hdl : rest.length = l.rows.length - (i + 1) := by (refine rL hdrop' ?_; refine rG List.length_drop ?_; rfl)
  cases hrest : rest with
  | nil =>
   rw [hrest] at hdl
   have hb : decide ((i : Int) + 1 < (l.rows.length : Int)) = false := decide_eq_false (by simp at hdl; lia)
   rw [hb] at hdo
   have s2 := Run.one (b := false) hEn hdo rfl
   refine ⟨j1 + 1, v2, by simp; lia, r1.trans s2, ?_, ?_, f1, fun c hc hn => ?_⟩
   ·exact ha2
   ·rw [hrest] at hm2; simpa using hm2
   ·show look (putL v1.lots cur _) c = _
    (refine rG (look_setAt hn) ?_; refine rG (l1 c hc) ?_; rfl)
  | cons r2 rest2 =>
   rw [hrest] at hdl
   have hb : decide ((i : Int) + 1 < (l.rows.length : Int)) = true := decide_eq_true (by simp at hdl; lia)
   rw [hb] at hdo
   have s2 := Run.jump hEn hdo
   have et : (Ins.fix Q.labels (.next cur B)).tgt = (q.ops.length : Int) := hB
   rw [et] at s2
   have hl2 : look v2.lots cur = some { l with at_ := ((i + 1 : Nat) : Int) } := by
    show look (putL v1.lots cur _) cur = _
    (refine rG (look_put ..) ?_; refine rG (if_pos rfl) ?_)
    have : (i : Int) + 1 = ((i + 1 : Nat) : Int) := by lia
    (refine rG this ?_; rfl)
   have ho2 : OtherAt C other lo v2 := by
    cases other with
    | none => cases lo with
     | none => trivial
     | some _ => exact ho
    | some o => cases lo with
     | none => exact ho
     | some lo' =>
      obtain ⟨q1, q2⟩ := ho
      refine ⟨q1, ?_⟩
      show look (putL v1.lots cur _) o = _
      (refine rG (look_setAt (hoc o rfl)) ?_; refine rG (l1 o q1) ?_); exact q2
   rw [hrest] at hm2 hdrop'
   obtain ⟨j3, v3, hj3, r3, ha3, hm3, f3, l3⟩ := loop_run S hR hC hL hcur hE hF hB hqn hEn hoc hrows (r2 :: rest2) (i + 1) v2 _ m (by simp) hdrop' hl2 ho2 ha2 hm2
   refine ⟨j1 + 1 + j3, v3, by lia, (r1.trans s2).trans r3, ha3, hm3, fun r hr => by refine rG (f3 r hr) ?_; exact f1 r hr, fun c hc hn => ?_⟩
   refine rG (l3 c hc hn) ?_
   show look (putL v1.lots cur _) c = _
   (refine rG (look_setAt hn) ?_; refine rG (l1 c hc) ?_; rfl)
theorem walk_run (S : SemT n Q tk st Abs room k R C) {cur : Int} {other : Option Int} {lo : Option Lot} {q : PS} {v : Vm} {s : σ} {m : Nat} {l : Lot} (hR : R ≤ q.regs) (hC : C ≤ q.curs) (hL : LabOk q) (hcur : C ≤ cur)
  (hE : Pre (walkAll cur (tell cur n other tk) q) Q) (hoc : ∀ o, other = some o → o ≠ cur) (hrows : ∀ r ∈ l.rows, RowOk n r) (hl : look v.lots cur = some l) (ho : OtherAt C other lo v) (ha : Abs s v) (hm : room s ((l.rows.filter (pass lo)).length + m)) :
  RunM n Q (1 + l.rows.length * (n + k + 2)) q.ops.length v (walkAll cur (tell cur n other tk) q).ops.length (Abs ((l.rows.filter (pass lo)).foldl st s)) (room ((l.rows.filter (pass lo)).foldl st s) m) q.regs (KeepC C cur v) := by
 let qr := q.label.label.label.add (.rewind cur (q.lab - 2))
 let q1 := qr.place q.lab
 let qb := tell cur n other tk (q.lab - 1) q1
 let qf := qb.place (q.lab - 1)
 let qe := qf.add (.next cur q.lab)
 have hE : Pre (qe.place (q.lab - 2)) Q := hE
 refine x0a2 (tell_ext S cur other (q.lab - 1) q1) fun tx tc => ?_
 have p5 : Pre qe Q := (Pre.place _ _).trans hE
 have p4 : Pre qf Q := (Pre.add _ _).trans p5
 have p3 : Pre qb Q := (Pre.place _ _).trans p4
 have p2 : Pre q1 Q := tx.pre.trans p3
 have p1 : Pre qr Q := (Pre.place _ _).trans p2
 have hlab0 := hL.1
 have el1 : q1.labels = q.labels ++ [(q.lab, (qr.ops.length : Int))] := rfl
 have n1 : ∀ x ∈ qr.labels, x.1 ≠ q.lab := fun x hx e => by have := hL.2 x hx; lia
 have hq1lab : q1.lab = q.lab - 1 - 1 - 1 := rfl
 have hL1 : LabOk q1 := by
  refine ⟨by refine rG hq1lab ?_; lia, fun x hx => ?_⟩
  rw [el1] at hx
  rcases List.mem_append.mp hx with h | h
  ·have := hL.2 x h; refine rG hq1lab ?_; lia
  ·simp at h; subst h; refine rG hq1lab ?_; show q.lab - 1 - 1 - 1 < q.lab; lia
 refine x1a2 tx.lab fun lb elb hlb => ?_
 have n2 : ∀ x ∈ qb.labels, x.1 ≠ q.lab - 1 := fun x hx e => by
  have hx : x ∈ q1.labels ++ lb := by refine rL elb ?_; exact hx
  rcases List.mem_append.mp hx with h | h
  ·rw [el1] at h
   rcases List.mem_append.mp h with h | h
   ·have := hL.2 x h; lia
   ·simp at h; subst h; dsimp only at e; lia
  ·have := (hlb x h).2; rw [hq1lab] at this; lia
 have n3 : ∀ x ∈ qe.labels, x.1 ≠ q.lab - 2 := fun x hx e => by
  have hx : x ∈ qb.labels ++ [(q.lab - 1, (qb.ops.length : Int))] := hx
  rcases List.mem_append.mp hx with h | h
  ·have h : x ∈ q1.labels ++ lb := by refine rL elb ?_; exact h
   rcases List.mem_append.mp h with h | h
   ·rw [el1] at h
    rcases List.mem_append.mp h with h | h
    ·have := hL.2 x h; lia
    ·simp at h; subst h; dsimp only at e; lia
   ·have := (hlb x h).2; rw [hq1lab] at this; lia
  ·simp at h; subst h; dsimp only at e; lia
 have fB : fixL Q.labels q.lab = (q1.ops.length : Int) := lab_at (q := qr) p2 hlab0 n1
 have fF : fixL Q.labels (q.lab - 1) = (qb.ops.length : Int) := lab_at (q := qb) p4 (by lia) n2
 have fE : fixL Q.labels (q.lab - 2) = (qe.ops.length : Int) := lab_at (q := qe) hE (by lia) n3
 let v1 : Vm := { v with lots := putL v.lots cur { l with at_ := 0 } }
 have hdo : doIns n v (Ins.fix Q.labels (.rewind cur (q.lab - 2))) = some (v1, l.rows.isEmpty) := by
  simp only [Ins.fix, doIns, hl]; rfl
 have ha1 : Abs s v1 := S.stable s v v1 ha (fun _ _ => rfl) (fun c hc => look_setAt (by lia)) rfl
 have fin : (walkAll cur (tell cur n other tk) q).ops.length = qe.ops.length := rfl
 have fr : ∀ c, c ≠ cur → look v1.lots c = look v.lots c := fun c hn => look_setAt hn
 cases hrw : l.rows with
 | nil =>
  rw [hrw] at hdo hm
  have s1 := Run.jump (q := q.label.label.label) p1 hdo
  have et : (Ins.fix Q.labels (.rewind cur (q.lab - 2))).tgt = (qe.ops.length : Int) := fE
  rw [et] at s1
  exact ⟨1, v1, by simp, s1, ha1, by simpa using hm, fun _ _ => rfl, fun c _ hn => fr c hn⟩
 | cons r0 rs =>
  have hdo' : doIns n v (Ins.fix Q.labels (.rewind cur (q.lab - 2))) = some (v1, false) := by (refine rG hdo ?_; refine rG hrw ?_); rfl
  have s1 := Run.one (q := q.label.label.label) (b := false) p1 hdo' rfl
  have ho1 : OtherAt C other lo v1 := by
   cases other with
   | none => cases lo with
    | none => trivial
    | some _ => exact ho
   | some o => cases lo with
    | none => exact ho
    | some lo' =>
     obtain ⟨q1, q2⟩ := ho
     exact ⟨q1, by refine rG (fr o (hoc o rfl)) ?_; exact q2⟩
  have hl1 : look v1.lots cur = some { l with at_ := ((0 : Nat) : Int) } := by
   show look (putL v.lots cur _) cur = _
   (refine rG (look_put ..) ?_; refine rG (if_pos rfl) ?_); rfl
  obtain ⟨j, v2, hj, r2, ha2, hm2, f2, l2⟩ := loop_run S (q := q1) (qn := qf) (l := l) hR hC hL1 hcur p3 fF fB rfl p5 hoc hrows (r0 :: rs) 0 v1 s m (by simp) (by refine rG List.drop_zero ?_; exact hrw) hl1 ho1 ha1 (by rw [hrw] at hm; exact hm)
  exact ⟨1 + j, v2, by lia, s1.trans r2, ha2, hm2, f2, fun c hc hn => by (refine rG (l2 c hc hn) ?_; refine rG (fr c hn) ?_; rfl)⟩
end
end Mine
namespace Mine
theorem spot_has (l : Lot) (r : List Wt) : (l.spot r).isSome = hasKey l.by_ l.rows r := by
 unfold Lot.spot hasKey
 (rewrite [Bool.eq_iff_iff]; rewrite [List.any_eq_true]; rewrite [Option.isSome_iff_ne_none]; refine rG (ne_eq ..) ?_; rewrite [List.findIdx?_eq_none_iff])
 constructor
 ·intro h
  rcases Classical.em (∃ x, x ∈ l.rows ∧ decide (rank x l.by_ = rank r l.by_) = true) with q | q
  ·exact q
  ·exact absurd (fun x hx => by cases hd : decide (rank x l.by_ = rank r l.by_) with
    | false => rfl
    | true => exact absurd ⟨x, hx, hd⟩ q) h
 ·intro ⟨x, hx, e⟩ h
  rw [h x hx] at e; cases e
theorem has_perm {cols : List Str} {a b : List (List Wt)} (h : a.Perm b) (r : List Wt) : hasKey cols a r = hasKey cols b r := by
 unfold hasKey
 rw [Bool.eq_iff_iff, List.any_eq_true, List.any_eq_true]
 exact ⟨fun ⟨x, hx, e⟩ => ⟨x, h.mem_iff.mp hx, e⟩, fun hq => x1a2 hq fun x hx e => ⟨x, h.mem_iff.mpr hx, e⟩⟩
theorem has_rank {cols : List Str} (l : List (List Wt)) {x y : List Wt} (h : rank x cols = rank y cols) : hasKey cols l x = hasKey cols l y := by
 unfold hasKey; (refine rG h ?_; rfl)
theorem less_none {l : Lot} {r : List Wt} (h : hasKey l.by_ l.rows r = false) : l.less r = l.rows := by
 unfold Lot.less
 have : l.spot r = none := by
  cases e : l.spot r with
  | none => rfl
  | some i => have := spot_has l r; rw [e, h] at this; cases this
 (refine rG this ?_; rfl)
theorem srt_nd {cols : List Str} {a : List (List Wt)} (h : (a.map fun r => rank r cols).Nodup) : ((srt cols a).map fun r => rank r cols).Nodup :=
 ((srt_ok cols a).1.map fun r => rank r cols).nodup_iff.mpr h
theorem add_key {cols : List Str} {a : List (List Wt)} {r : List Wt} (h : (a.map fun r => rank r cols).Nodup) (hk : hasKey cols a r = false) : ((a ++ [r]).map fun r => rank r cols).Nodup := by
 (refine rG List.map_append ?_; rewrite [List.nodup_append])
 refine ⟨h, by simp, fun x hx y hy e => ?_⟩
 simp at hy
 refine x1a2 (List.mem_map.mp hx) fun z hz q => ?_
 have : hasKey cols a r = true := List.any_eq_true.mpr ⟨z, hz, decide_eq_true (by lia)⟩
 rw [hk] at this; injection this
theorem new_fold {cols : List Str} {at0 : Int} {others : List (List Wt)} : ∀ (rs acc : List (List Wt)), (acc.map fun r => rank r cols).Nodup → rs.foldl Lot.new ⟨cols, srt cols acc, at0⟩ = ⟨cols, srt cols (pick cols "union" others rs acc), at0⟩
 | [] => fun acc h => rfl
 | r :: rs => by
  intro acc h
  (refine rG List.foldl_cons ?_; rewrite [pick])
  have hs : skip cols "union" others acc r = hasKey cols acc r := by
   unfold skip
   (refine rG (show decide (("union" : Str) = "except") = false from rfl) ?_; refine rG (show decide (("union" : Str) = "intersect") = false from rfl) ?_)
   simp
  have hp := has_perm (cols := cols) (srt_ok cols acc).1 r
  have hsp := spot_has ⟨cols, srt cols acc, at0⟩ r
  refine rG hs ?_
  cases hk : hasKey cols acc r with
  | true =>
   refine rG (if_pos rfl) ?_
   have e : Lot.new ⟨cols, srt cols acc, at0⟩ r = ⟨cols, srt cols acc, at0⟩ := by
    unfold Lot.new; rw [if_pos]; refine rG hsp ?_; exact hp.trans hk
   refine rG e ?_
   exact new_fold rs acc h
  | false =>
   refine rG (if_neg (by decide)) ?_
   have hn := add_key h hk
   have e : Lot.new ⟨cols, srt cols acc, at0⟩ r = ⟨cols, srt cols (acc ++ [r]), at0⟩ := by
    unfold Lot.new
    refine rG (if_neg (by rw [hsp]; rw [show hasKey cols (srt cols acc) r = false from hp.trans hk]; decide)) ?_
    unfold Lot.put
    refine rG (less_none (by exact hp.trans hk)) ?_
    have : srt cols (srt cols acc ++ [r]) = srt cols (acc ++ [r]) :=
     SortedOf.eq ⟨(srt_ok cols _).1.trans ((srt_ok cols acc).1.append_right [r]), (srt_ok cols _).2⟩ hn
    show (⟨cols, srt cols (srt cols acc ++ [r]), at0⟩ : Lot) = _
    (refine rG this ?_; rfl)
   refine rG e ?_
   exact new_fold rs (acc ++ [r]) hn
theorem has_filter {cols : List Str} {p : List Wt → Bool} (hp : ∀ x y, rank x cols = rank y cols → p x = p y) (acc : List (List Wt)) {r : List Wt} (h : p r = true) : hasKey cols (acc.filter p) r = hasKey cols acc r := by
 unfold hasKey
 rw [Bool.eq_iff_iff, List.any_eq_true, List.any_eq_true]
 refine ⟨fun ⟨x, hx, e⟩ => ⟨x, (List.mem_filter.mp hx).1, e⟩, fun hq => x1a2 hq fun x hx e => ⟨x, List.mem_filter.mpr ⟨hx, ?_⟩, e⟩⟩
 refine rG (hp x r (of_decide_eq_true e)) ?_; exact h
theorem pick_filter {cols : List Str} {op : Str} {others o2 : List (List Wt)} {p : List Wt → Bool} (hp : ∀ x y, rank x cols = rank y cols → p x = p y) (hs : ∀ acc r, skip cols op others acc r = (hasKey cols acc r || !p r)) :
  ∀ (rs acc : List (List Wt)), pick cols op others rs (acc.filter p) = (pick cols "union" o2 rs acc).filter p
 | [] => fun acc => rfl
 | r :: rs => by
  intro acc
  have hu : skip cols "union" o2 acc r = hasKey cols acc r := by
   unfold skip
   (refine rG (show decide (("union" : Str) = "except") = false from rfl) ?_; refine rG (show decide (("union" : Str) = "intersect") = false from rfl) ?_)
   simp
  (rewrite [pick]; rewrite [pick]; refine rG hu ?_; refine rG (hs ..) ?_)
  cases hpr : p r with
  | true =>
   refine rG (has_filter hp acc hpr) ?_
   cases hk : hasKey cols acc r with
   | true => exact pick_filter hp hs rs acc
   | false =>
    have := pick_filter hp hs (o2 := o2) rs (acc ++ [r])
    rw [List.filter_append, List.filter_cons, List.filter_nil, hpr] at this
    exact this
  | false =>
   (refine rG Bool.not_false ?_; refine rG (Bool.or_true ..) ?_; refine rG (if_pos rfl) ?_)
   cases hk : hasKey cols acc r with
   | true => exact pick_filter hp hs rs acc
   | false =>
    have := pick_filter hp hs (o2 := o2) rs (acc ++ [r])
    rw [List.filter_append, List.filter_cons, List.filter_nil, hpr] at this
    simpa using this
theorem erase_filter {cols : List Str} {t : List Wt} : ∀ (rows : List (List Wt)), (rows.map fun r => rank r cols).Nodup →
  (match rows.findIdx? fun r => decide (rank r cols = rank t cols) with | some i => rows.eraseIdx i | none => rows) = rows.filter fun r => !decide (rank r cols = rank t cols)
 | [] => fun _ => rfl
 | x :: xs => by
  intro h
  rw [List.map_cons, List.nodup_cons] at h
  have ih := erase_filter (t := t) xs h.2
  (refine rG List.findIdx?_cons ?_; refine rG List.filter_cons ?_)
  by_cases e : rank x cols = rank t cols
  ·have : decide (rank x cols = rank t cols) = true := decide_eq_true e
   simp only [this, if_true, Bool.not_true]
   (refine rG List.eraseIdx_zero ?_; refine rG List.tail_cons ?_; refine rG (if_neg (by decide)) ?_)
   refine (List.filter_eq_self.mpr fun y hy => ?_).symm
   have : rank y cols ≠ rank t cols := fun e2 => h.1 (List.mem_map.mpr ⟨y, hy, by lia⟩)
   simp [this]
  ·have : decide (rank x cols = rank t cols) = false := decide_eq_false e
   simp only [this, Bool.not_false, if_true]
   (refine rG (if_neg (by decide)) ?_; refine rL ih ?_)
   cases xs.findIdx? fun r => decide (rank r cols = rank t cols) with
   | none => rfl
   | some i => rfl
theorem less_filter {l : Lot} (h : l.nd) (r : List Wt) : l.less r = l.rows.filter fun x => !decide (rank x l.by_ = rank r l.by_) := erase_filter l.rows h
theorem del_fold {cols : List Str} {at0 : Int} : ∀ (rr rows : List (List Wt)), (rows.map fun r => rank r cols).Nodup → rr.foldl Lot.del ⟨cols, rows, at0⟩ = ⟨cols, rows.filter (fun x => !hasKey cols rr x), at0⟩
 | [] => by
  intro rows h
  show (⟨cols, rows, at0⟩ : Lot) = _
  congr 1
  exact (List.filter_eq_self.mpr fun y hy => rfl).symm
 | r :: rr => by
  intro rows h
  refine rG List.foldl_cons ?_
  have e : Lot.del ⟨cols, rows, at0⟩ r = ⟨cols, rows.filter (fun x => !decide (rank x cols = rank r cols)), at0⟩ := by
   unfold Lot.del
   rw [less_filter (l := ⟨cols, rows, at0⟩) h]
  (refine rG e ?_; refine rG (del_fold rr _ (h.sublist (List.filter_sublist.map _))) ?_; refine rG List.filter_filter ?_)
  congr 1
  refine List.filter_congr fun x _ => ?_
  show (!hasKey cols rr x && !decide (rank x cols = rank r cols)) = !(decide (rank r cols = rank x cols) || hasKey cols rr x)
  (refine rG (Bool.not_or ..) ?_; refine rG (Bool.and_comm ..) ?_)
  congr 2
  exact decide_eq_decide.mpr ⟨Eq.symm, Eq.symm⟩
theorem put_fold : ∀ (rr : List (List Wt)) (l : Lot), l.nd → (rr.foldl Lot.put l).by_ = l.by_ ∧ ∀ x, hasKey l.by_ (rr.foldl Lot.put l).rows x = (hasKey l.by_ l.rows x || hasKey l.by_ rr x)
 | [] => fun l h => ⟨rfl, fun x => by show _ = (hasKey l.by_ l.rows x || false); refine rG (Bool.or_false ..) ?_; rfl⟩
 | r :: rr => by
  intro l h
  have hnd : (l.put r).nd := srt_nd (Lot.add_nd h r)
  refine x0a2 (put_fold rr (l.put r) hnd) fun a b => ?_
  refine ⟨a, fun x => ?_⟩
  refine rG List.foldl_cons ?_
  have b := b x
  have hby : (l.put r).by_ = l.by_ := rfl
  rw [hby] at b
  refine rG b ?_
  have e : hasKey l.by_ (l.put r).rows x = (hasKey l.by_ l.rows x || decide (rank r l.by_ = rank x l.by_)) := by
   show hasKey l.by_ (srt l.by_ (l.less r ++ [r])) x = _
   rw [has_perm (srt_ok _ _).1]
   unfold hasKey
   (refine rG List.any_append ?_; rewrite [less_filter h])
   simp only [List.any_cons, List.any_nil, Bool.or_false]
   by_cases e : rank r l.by_ = rank x l.by_
   ·(refine rG (decide_eq_true e) ?_; refine rG (Bool.or_true ..) ?_; refine rG (Bool.or_true ..) ?_; rfl)
   ·(refine rG (decide_eq_false e) ?_; refine rG (Bool.or_false ..) ?_; refine rG (Bool.or_false ..) ?_)
    rw [Bool.eq_iff_iff, List.any_eq_true, List.any_eq_true]
    refine ⟨fun ⟨y, hy, q⟩ => ⟨y, (List.mem_filter.mp hy).1, q⟩, fun hq => x1a2 hq fun y hy q => ⟨y, List.mem_filter.mpr ⟨hy, ?_⟩, q⟩⟩
    have q := of_decide_eq_true q
    have : rank y l.by_ ≠ rank r l.by_ := fun e2 => e (by lia)
    refine rG (decide_eq_false this) ?_; rfl
  (refine rG e ?_; refine rG (Bool.or_assoc ..) ?_); rfl
theorem srt_filter {cols : List Str} {p : List Wt → Bool} {a : List (List Wt)} (h : (a.map fun r => rank r cols).Nodup) : (srt cols a).filter p = srt cols (a.filter p) :=
 SortedOf.eq ⟨(srt_ok cols a).1.filter p, (srt_ok cols a).2.sublist List.filter_sublist⟩ (h.sublist (List.filter_sublist.map _))
theorem srt_nil (cols : List Str) : srt cols [] = [] := List.mergeSort_nil
theorem ans_union {cols : List Str} {a b : List (List Wt)} : b.foldl Lot.new (a.foldl Lot.new ⟨cols, [], 0⟩) = ⟨cols, srt cols (pick cols "union" b (srcOf "union" a b) []), 0⟩ := by
 refine rL List.foldl_append ?_
 have := new_fold (cols := cols) (at0 := 0) (others := b) (a ++ b) [] (by simp)
 rw [srt_nil] at this
 exact this
theorem left_lot {cols : List Str} {a : List (List Wt)} : a.foldl Lot.new ⟨cols, [], 0⟩ = ⟨cols, srt cols (pick cols "union" [] a []), 0⟩ := by
 have := new_fold (cols := cols) (at0 := 0) (others := []) a [] (by simp)
 rw [srt_nil] at this
 exact this
theorem uniq_pick {cols : List Str} {a : List (List Wt)} : ((pick cols "union" [] a []).map fun r => rank r cols).Nodup := pick_nd a [] (by simp)
theorem ans_except {cols : List Str} {a b : List (List Wt)} : b.foldl Lot.del ⟨cols, srt cols (pick cols "union" [] a []), 0⟩ = ⟨cols, srt cols (pick cols "except" b (srcOf "except" a b) []), 0⟩ := by
 (refine rG (del_fold _ _ (srt_nd uniq_pick)) ?_; refine rG (srt_filter uniq_pick) ?_)
 have := pick_filter (cols := cols) (op := "except") (others := b) (o2 := []) (p := fun x => !hasKey cols b x) (fun x y e => by (refine rG (has_rank b e) ?_; rfl)) (fun acc r => by
  unfold skip
  (refine rG (show decide (("except" : Str) = "except") = true from rfl) ?_; refine rG (show decide (("except" : Str) = "intersect") = false from rfl) ?_)
  simp) a []
 refine rL this ?_; rfl
theorem ans_intersect {cols : List Str} {a b : List (List Wt)} {lo : Lot} (h : lo = b.foldl Lot.put ⟨cols, [], 0⟩) : (srt cols (pick cols "union" [] a [])).filter (pass (some lo)) = srt cols (pick cols "intersect" b (srcOf "intersect" a b) []) := by
 refine x0a2 (put_fold b ⟨cols, [], 0⟩ (by simp [Lot.nd])) fun q1 q2 => ?_
 rw [← h] at q1 q2
 have ep : pass (some lo) = fun x => hasKey cols b x := by
  funext x
  show (lo.spot x).isSome = _
  (refine rG (spot_has ..) ?_; refine rG q1 ?_)
  have := q2 x
  refine rG (show hasKey cols b x = (hasKey cols [] x || hasKey cols b x) from rfl) ?_
  exact this
 (refine rG ep ?_; refine rG (srt_filter uniq_pick) ?_)
 have := pick_filter (cols := cols) (op := "intersect") (others := b) (o2 := []) (p := fun x => hasKey cols b x) (fun x y e => has_rank b e) (fun acc r => by
  unfold skip
  (refine rG (show decide (("intersect" : Str) = "except") = false from rfl) ?_; refine rG (show decide (("intersect" : Str) = "intersect") = true from rfl) ?_)
  simp) a []
 refine rL this ?_; rfl
end Mine
namespace Mine
theorem look_snoc {α : Type} {k c : Int} {v : α} : ∀ {l : List (Int × α)}, look l k = none → look (l ++ [(k, v)]) c = if k = c then some v else look l c
 | [] => fun _ => rfl
 | (a, w) :: l => by
  intro h
  rw [look] at h
  have hak : a ≠ k := fun e => by rw [if_pos e] at h; injection h
  rw [if_neg hak] at h
  (refine rG List.cons_append ?_; rewrite [look]; rewrite [look]; refine rG (look_snoc h) ?_)
  by_cases e : a = c
  ·(refine rG (if_pos e) ?_; refine rG (if_pos e) ?_; refine rG (if_neg (fun e2 => hak (by lia))) ?_; rfl)
  ·(refine rG (if_neg e) ?_; refine rG (if_neg e) ?_; rfl)
theorem open_run {n : Nat} {Q q : PS} {v : Vm} {cols : List Str} (h : Pre (openKeys cols q) Q) (hf : look v.lots q.curs = none) (hc : ColsOk n cols) :
  Run n (cdOf Q) 1 q.ops.length v (openKeys cols q).ops.length { v with lots := v.lots ++ [(q.curs, ⟨cols, [], 0⟩)] } :=
 Run.one (b := false) (q := q.cursor) h (by
  simp only [Ins.fix, doIns, PS.cursor]
  refine rG hf ?_
  dsimp only
  (refine rG (if_pos hc) ?_; rfl)) rfl
noncomputable def Bd : Nat → Nat
 | 0 => 15
 | d + 1 => 2 * Bd d + 175
theorem Bd_le : ∀ {a b : Nat}, a ≤ b → Bd a ≤ Bd b
 | a, 0 => by intro h; refine rG (Nat.le_zero.mp h) ?_; exact Nat.le_refl _
 | a, b + 1 => by
  intro h
  rcases Nat.lt_or_ge b a with h1 | h1
  ·refine rG (show a = b + 1 by lia) ?_; exact Nat.le_refl _
  ·have := Bd_le h1
   rw [Bd]; lia
theorem pass_none (l : List (List Wt)) : l.filter (pass none) = l := List.filter_eq_self.mpr fun _ _ => rfl
theorem few {d e : Nat} (h : d ≤ e) (he : e ≤ 3) : 3 * 2 ^ d ≤ 24 := by
 have : (2 : Nat) ^ d ≤ 2 ^ 3 := Nat.pow_le_pow_right (by decide) (by lia)
 lia
theorem few2 {d : Nat} (h : d ≤ 2) : 3 * 2 ^ d ≤ 12 := by
 have : (2 : Nat) ^ d ≤ 2 ^ 2 := Nat.pow_le_pow_right (by decide) h
 lia
theorem body_run {n : Nat} {Q : PS} (hn : n ≤ 2) : ∀ (t : Told) {σ : Type} {tk : Int → PS → PS} {st : σ → List Wt → σ} {Abs : σ → Vm → Prop} {room : σ → Nat → Prop} {k kk : Nat} {R C : Int} (_ : SemT n Q tk st Abs room k R C) (_ : k ≤ 3) (_ : TkOk tk kk) (_ : t.good n) (_ : t.deep ≤ 3)
  (q : PS) (v : Vm) (s : σ) (m : Nat), R ≤ q.regs → C ≤ q.curs → LabOk q → Pre (emitBody t tk q) Q → (∀ c, q.curs ≤ c → look v.lots c = none) → Abs s v → room s ((rowsOf t).length + m) →
  RunB n Q (Bd t.deep) q.ops.length v (emitBody t tk q).ops.length (Abs ((rowsOf t).foldl st s)) (room ((rowsOf t).foldl st s) m) q.regs C q.curs (emitBody t tk q).curs
 | .rows l => by
  rename_i σ tk st Abs room k kk R C
  intro S hk hT hg hd q v s m hR hC hL hE hf ha hm
  obtain ⟨j, v', hj, r1, a1, m1, f1, c1⟩ := rows_run S l q v s m hR hC hL hE hg.2 ha hm
  refine ⟨j, v', ?_, r1, a1, m1, f1, fun c h1 _ => c1 c h1, fun c h => ?_⟩
  ·have h1 : l.length * (n + k) ≤ 3 * (n + k) := Nat.mul_le_mul_right _ hg.1
   show j ≤ 15
   lia
  ·have h : (emitRows tk l q).curs ≤ c := h
   have h2 := (emitRows_ext S l q).2
   refine rG (c1 c (by lia)) ?_; exact hf c (by lia)
 | .comp op l r cols => by
  rename_i σ tk st Abs room k kk R C
  intro S hk hT hg0 hd q v s m hR hC hL hE hf ha hm
  have hg := hg0
  refine x0a5 hg fun hop gl gr hc1 hc2 => ?_
  have hd' : max l.deep r.deep + 1 ≤ 3 := hd
  have dl : l.deep ≤ max l.deep r.deep := Nat.le_max_left _ _
  have dr : r.deep ≤ max l.deep r.deep := Nat.le_max_right _ _
  refine x0a2 (rowsOf_ok _ hg0) fun okT lenT => ?_
  refine x0a2 (rowsOf_ok l gl) fun okL lenL => ?_
  refine x0a2 (rowsOf_ok r gr) fun okR lenR => ?_
  have lT := few (Nat.le_refl _) hd
  have lL := few2 (d := l.deep) (by lia)
  have lR := few2 (d := r.deep) (by lia)
  have bl := Bd_le dl
  have br := Bd_le dr
  have bt : Bd (Told.comp op l r cols).deep = 2 * Bd (max l.deep r.deep) + 175 := rfl
  refine rG bt ?_
  by_cases hu : op = "union all"
  ·have eE : emitBody (.comp op l r cols) tk q = emitBody r tk (emitBody l tk q) := by (rewrite [emitBody]; refine rG (if_pos hu) ?_; rfl)
   have eR : rowsOf (.comp op l r cols) = rowsOf l ++ rowsOf r := by (rewrite [rowsOf]; refine rG (if_pos hu) ?_; rfl)
   rw [eE] at hE ⊢
   rw [eR] at hm ⊢
   have x1 := (body_ext n l gl.ok tk kk hT q).1
   have x2 := (body_ext n r gr.ok tk kk hT (emitBody l tk q)).1
   have g1 := x1.regs
   have g2 := x1.curs
   obtain ⟨j1, v1, hj1, r1, a1, m1, f1, c1, n1⟩ := body_run hn l S hk hT gl (by lia) q v s ((rowsOf r).length + m) hR hC hL (x2.pre.trans hE) hf ha (by rw [List.length_append, Nat.add_assoc] at hm; exact hm)
   obtain ⟨j2, v2, hj2, r2, a2, m2, f2, c2, n2⟩ := body_run hn r S hk hT gr (by lia) (emitBody l tk q) v1 _ m (by lia) (by lia) (hL.ext x1) hE n1 a1 m1
   refine rG List.foldl_append ?_
   exact ⟨j1 + j2, v2, by lia, r1.trans r2, a2, m2, fun x hx => by (refine rG (f2 x (by lia)) ?_; refine rG (f1 x hx) ?_; rfl), fun c h1 h2 => by (refine rG (c2 c h1 (by lia)) ?_; refine rG (c1 c h1 h2) ?_; rfl), n2⟩
  ·have hcols : ColsOk n cols := ⟨hc1, hc2⟩
   have eE0 := show emitBody (.comp op l r cols) tk q = _ by (rewrite [emitBody]; refine rG (if_neg hu) ?_; rfl)
   rw [hc1] at eE0
   dsimp only at eE0
   have x1 := (openKeys_ext cols q).1
   have x2 := (body_ext n l gl.ok (putNew q.curs n) 4 (putNew_ok _ _) (openKeys cols q)).1
   generalize hq1 : openKeys cols q = q1 at *
   generalize hq2 : emitBody l (putNew q.curs n) q1 = q2 at *
   have k1 : q1.curs = q.curs + 1 := by refine rL hq1 ?_; rfl
   have g1 := x1.regs
   have g2 := x2.regs
   have g3 := x2.curs
   have hL1 := hL.ext x1
   have hL2 := hL1.ext x2
   let B : Vm → Prop := fun w => Abs s w ∧ (∀ c, c < q.curs → look w.lots c = look v.lots c) ∧ w.ans = v.ans
   have hB : Base B R q.curs := fun w w' hq e1 e2 e3 => x0a3 hq fun b1 b2 b3 => ⟨S.stable s w w' b1 e1 (fun c hc => e2 c (by lia)) e3, fun c hc => by (refine rG (e2 c hc) ?_; refine rG (b2 c hc) ?_; rfl), by (refine rG e3 ?_; refine rG b3 ?_; rfl)⟩
   have hf0 := hf q.curs (Int.le_refl _)
   have left : Pre q2 Q → ∃ j v2, j ≤ 1 + Bd l.deep ∧ Run n (cdOf Q) j q.ops.length v q2.ops.length v2 ∧ AbsL B q.curs ⟨cols, srt cols (pick cols "union" [] (rowsOf l) []), 0⟩ v2 ∧ roomL ⟨cols, srt cols (pick cols "union" [] (rowsOf l) []), 0⟩ (rowsOf r).length ∧ (∀ x, x < q.regs → look v2.held x = look v.held x) ∧ (∀ c, q2.curs ≤ c → look v2.lots c = none) := fun hE2 => by
    have s1 := open_run (n := n) (q := q) (v := v) (cols := cols) (by refine rG hq1 ?_; exact x2.pre.trans hE2) hf0 hcols
    rw [hq1] at s1
    have hl0 : AbsL B q.curs ⟨cols, [], 0⟩ { v with lots := v.lots ++ [(q.curs, ⟨cols, [], 0⟩)] } := by
     have fr : ∀ c, c < q.curs → look (v.lots ++ [(q.curs, (⟨cols, [], 0⟩ : Lot))]) c = look v.lots c := fun c hc => by (refine rG (look_snoc hf0) ?_; refine rG (if_neg (by lia)) ?_; rfl)
     exact ⟨⟨S.stable s v _ ha (fun _ _ => rfl) (fun c hc => fr c (by lia)) rfl, fr, rfl⟩, by
      show look (v.lots ++ [(q.curs, (⟨cols, [], 0⟩ : Lot))]) q.curs = _
      (refine rG (look_snoc hf0) ?_; refine rG (if_pos rfl) ?_; rfl)⟩
    obtain ⟨j, v2, hj, r1, a1, m1, f1, _, n1⟩ := body_run hn l (putNew_sem (n := n) (Q := Q) hB (Int.le_refl _)) (by decide) (putNew_ok q.curs n) gl (by lia) q1 _ ⟨cols, [], 0⟩ (rowsOf r).length (by lia) (by lia) hL1 (by refine rG hq2 ?_; exact hE2) (fun c hc => by
     show look (v.lots ++ [(q.curs, (⟨cols, [], 0⟩ : Lot))]) c = none
     (refine rG (look_snoc hf0) ?_; refine rG (if_neg (by lia)) ?_); exact hf c (by lia)) hl0 (by show 0 + _ < 50; lia)
    rw [left_lot] at a1 m1
    rw [hq2] at r1 n1
    exact ⟨(1 + j), v2, (by lia), (s1.trans r1), a1, m1, (fun x hx => by (refine rG (f1 x (by lia)) ?_; rfl)), n1⟩
   have tail : ∀ (other : Option Int) (lo : Option Lot) (q3 : PS) (v3 : Vm) (L : Lot) (j3 : Nat), emitBody (.comp op l r cols) tk q = walkAll q.curs (tell q.curs n other tk) q3 → Ext q1 q3 → j3 ≤ 2 * Bd (max l.deep r.deep) + 2 → Run n (cdOf Q) j3 q.ops.length v q3.ops.length v3 → AbsL B q.curs L v3 → OtherAt C other lo v3 → (∀ o, other = some o → o ≠ q.curs) → L.rows.filter (pass lo) = rowsOf (.comp op l r cols) → (∀ x ∈ L.rows, RowOk n x) → L.rows.length ≤ 24 → (∀ x, x < q.regs → look v3.held x = look v.held x) → (∀ c, q3.curs ≤ c → look v3.lots c = none) →
     RunB n Q (2 * Bd (max l.deep r.deep) + 175) q.ops.length v (emitBody (.comp op l r cols) tk q).ops.length (Abs ((rowsOf (.comp op l r cols)).foldl st s)) (room ((rowsOf (.comp op l r cols)).foldl st s) m) q.regs C q.curs (emitBody (.comp op l r cols) tk q).curs :=
    fun other lo q3 v3 L j3 eE x3 hj3 r3 a3 o3 hoc eF okF lenF f3 n3 => by
    rw [eE] at hE ⊢
    have g4 := x3.regs
    have g5 := x3.curs
    have x4 := (walkAll_ok (tell_ok hT q.curs n other) q.curs q3).1
    have g6 := x4.curs
    rw [← eF] at hm ⊢
    obtain ⟨j, v', hj, r4, a4, m4, f4, c4⟩ := walk_run S (q := q3) (v := v3) (s := s) (m := m) (lo := lo) (l := L) (by lia) (by lia) (hL1.ext x3) hC hE hoc okF a3.2 o3 a3.1.1 hm
    have hb : L.rows.length * (n + k + 2) ≤ 24 * 7 := Nat.mul_le_mul lenF (by lia)
    exact ⟨j3 + j, v', by lia, r3.trans r4, a4, m4, fun x hx => by (refine rG (f4 x (by lia)) ?_; refine rG (f3 x hx) ?_; rfl), fun c h1 h2 => by (refine rG (c4 c h1 (by lia)) ?_; refine rG (a3.1.2.1 c h2) ?_; rfl), fun c hc => by refine rG (c4 c (by lia) (by lia)) ?_; exact n3 c (by lia)⟩
   by_cases h1 : op = "union"
   ·rw [if_pos h1] at eE0
    have x3 := (body_ext n r gr.ok (putNew q.curs n) 4 (putNew_ok _ _) q2).1
    have x4 := (walkAll_ok (tell_ok hT q.curs n none) q.curs (emitBody r (putNew q.curs n) q2)).1
    have hE3 : Pre (emitBody r (putNew q.curs n) q2) Q := by rw [eE0] at hE; exact x4.pre.trans hE
    refine x2a6 (left (x3.pre.trans hE3)) fun j2 v2 hj2 r2 a2 m2 f2 n2 => ?_
    obtain ⟨j3, v3, hj3, r3, a3, m3, f3, _, n3⟩ := body_run hn r (putNew_sem (n := n) (Q := Q) hB (Int.le_refl _)) (by decide) (putNew_ok q.curs n) gr (by lia) q2 v2 _ 0 (by lia) (by lia) hL2 hE3 n2 a2 m2
    have eL : (rowsOf r).foldl Lot.new ⟨cols, srt cols (pick cols "union" [] (rowsOf l) []), 0⟩ = ⟨cols, rowsOf (.comp op l r cols), 0⟩ := by
     (refine rL left_lot ?_; refine rG ans_union ?_; rewrite [rowsOf]; refine rG (if_neg hu) ?_; refine rG h1 ?_; rfl)
    rw [eL] at a3
    exact tail none none _ v3 _ (j2 + j3) eE0 (x2.trans x3) (by lia) (r2.trans r3) a3 trivial (fun o e => by injection e) (pass_none _) okT (by show (rowsOf _).length ≤ 24; lia) (fun x hx => by (refine rG (f3 x (by lia)) ?_; refine rG (f2 x hx) ?_; rfl)) n3
   ·rw [if_neg h1] at eE0
    by_cases h2 : op = "except"
    ·rw [if_pos h2] at eE0
     have x3 := (body_ext n r gr.ok (takeOut q.curs n) 1 (takeOut_ok _ _) q2).1
     have x4 := (walkAll_ok (tell_ok hT q.curs n none) q.curs (emitBody r (takeOut q.curs n) q2)).1
     have hE3 : Pre (emitBody r (takeOut q.curs n) q2) Q := by rw [eE0] at hE; exact x4.pre.trans hE
     refine x2a6 (left (x3.pre.trans hE3)) fun j2 v2 hj2 r2 a2 m2 f2 n2 => ?_
     obtain ⟨j3, v3, hj3, r3, a3, m3, f3, _, n3⟩ := body_run hn r (takeOut_sem (n := n) (Q := Q) hB (Int.le_refl _)) (by decide) (takeOut_ok q.curs n) gr (by lia) q2 v2 _ 0 (by lia) (by lia) hL2 hE3 n2 a2 m2
     have eL : (rowsOf r).foldl (fun l row => Lot.del l row) ⟨cols, srt cols (pick cols "union" [] (rowsOf l) []), 0⟩ = ⟨cols, rowsOf (.comp op l r cols), 0⟩ := by
      (rewrite [rowsOf]; refine rG (if_neg hu) ?_; refine rG h2 ?_); exact ans_except
     rw [eL] at a3
     exact tail none none _ v3 _ (j2 + j3) eE0 (x2.trans x3) (by lia) (r2.trans r3) a3 trivial (fun o e => by injection e) (pass_none _) okT (by show (rowsOf _).length ≤ 24; lia) (fun x hx => by (refine rG (f3 x (by lia)) ?_; refine rG (f2 x hx) ?_; rfl)) n3
    ·rw [if_neg h2] at eE0
     have h3 : op = "intersect" := by
      rcases hop with h | h | h | h
      ·exact absurd h h1
      ·exact absurd h h2
      ·exact h
      ·exact absurd h hu
     have y1 := (openKeys_ext cols q2).1
     have x3 := (body_ext n r gr.ok (putKey q2.curs · n) 2 (putKey_ok' _ _) (openKeys cols q2)).1
     have x4 := (walkAll_ok (tell_ok hT q.curs n (some q2.curs)) q.curs (emitBody r (putKey q2.curs · n) (openKeys cols q2))).1
     have hE3 : Pre (emitBody r (putKey q2.curs · n) (openKeys cols q2)) Q := by rw [eE0] at hE; exact x4.pre.trans hE
     refine x2a6 (left ((y1.trans x3).pre.trans hE3)) fun j2 v2 hj2 r2 a2 m2 f2 n2 => ?_
     have hf2 := n2 q2.curs (Int.le_refl _)
     have s2 := open_run (n := n) (q := q2) (v := v2) (cols := cols) (x3.pre.trans hE3) hf2 hcols
     generalize hL0 : (⟨cols, srt cols (pick cols "union" [] (rowsOf l) []), 0⟩ : Lot) = L0 at a2
     have hB2 : Base (AbsL B q.curs L0) R q2.curs := fun w w' b e1 e2 e3 => absL_stable hB (Int.le_refl _) L0 w w' b e1 (fun c hc => e2 c (by lia)) e3
     have fr : ∀ c, c < q2.curs → look (v2.lots ++ [(q2.curs, (⟨cols, [], 0⟩ : Lot))]) c = look v2.lots c := fun c hc => by (refine rG (look_snoc hf2) ?_; refine rG (if_neg (by lia)) ?_; rfl)
     have hl2 : AbsL (AbsL B q.curs L0) q2.curs ⟨cols, [], 0⟩ { v2 with lots := v2.lots ++ [(q2.curs, ⟨cols, [], 0⟩)] } := ⟨hB2 v2 _ a2 (fun _ _ => rfl) fr rfl, by
      show look (v2.lots ++ [(q2.curs, (⟨cols, [], 0⟩ : Lot))]) q2.curs = _
      (refine rG (look_snoc hf2) ?_; refine rG (if_pos rfl) ?_; rfl)⟩
     have k2 : (openKeys cols q2).curs = q2.curs + 1 := rfl
     have g7 := y1.regs
     obtain ⟨j3, v3, hj3, r3, a3, m3, f3, _, n3⟩ := body_run hn r (putKey_sem (n := n) (Q := Q) hB2 (Int.le_refl _)) (by decide) (putKey_ok' q2.curs n) gr (by lia) (openKeys cols q2) _ ⟨cols, [], 0⟩ 0 (by lia) (by lia) (hL2.ext y1) hE3 (fun c hc => by
      show look (v2.lots ++ [(q2.curs, (⟨cols, [], 0⟩ : Lot))]) c = none
      (refine rG (look_snoc hf2) ?_; refine rG (if_neg (by lia)) ?_); exact n2 c (by lia)) hl2 (by show 0 + _ < 50; lia)
     have eF : L0.rows.filter (pass (some ((rowsOf r).foldl (fun l row => Lot.put l row) ⟨cols, [], 0⟩))) = rowsOf (.comp op l r cols) := by
      (refine rL hL0 ?_; rewrite [rowsOf]; refine rG (if_neg hu) ?_; refine rG h3 ?_); exact ans_intersect rfl
     have hp := (srt_ok cols (pick cols "union" [] (rowsOf l) [])).1
     refine tail (some q2.curs) (some _) _ v3 L0 (j2 + 1 + j3) eE0 ((x2.trans y1).trans x3) (by lia) ((r2.trans s2).trans r3) a3.1 ⟨by lia, a3.2⟩ (fun o e => by injection e with e; lia) eF ?_ ?_ (fun x hx => by refine rG (f3 x (by lia)) ?_; exact f2 x hx) n3
     ·intro x hx
      rw [← hL0] at hx
      rcases pick_sub _ _ x (hp.mem_iff.mp hx) with q | q
      ·contradiction
      ·exact okL x q
     ·refine rL hL0 ?_
      show (srt cols _).length ≤ 24
      refine rG hp.length_eq ?_
      have := pick_len (cols := cols) (op := "union") (others := []) (rowsOf l) []
      rw [List.length_nil] at this
      lia
end Mine
namespace Mine
noncomputable def Good (P : Int → Prop) (q : PS) : Prop := (∀ i ∈ q.ops, i ≠ Ins.halt) ∧ (∀ x ∈ q.labels, x.2 ≤ (q.ops.length : Int)) ∧ (∀ i ∈ q.ops, ∀ l, i.target = some l → P l ∨ ∃ x ∈ q.labels, x.1 = l)
section
variable {P P' : Int → Prop} {q : PS}
theorem Good.add {i : Ins} (h : Good P q) (h1 : i ≠ .halt) (h2 : ∀ l, i.target = some l → P l ∨ ∃ x ∈ q.labels, x.1 = l) : Good P (q.add i) := by
 refine x0a3 h fun a b d => ?_
 refine ⟨fun x hx => ?_, fun x hx => ?_, fun x hx l e => ?_⟩
 ·rcases List.mem_append.mp hx with h | h
  ·exact a x h
  ·rw [List.mem_singleton] at h; subst h; exact h1
 ·have := b x hx
  show x.2 ≤ ((q.ops ++ [i]).length : Int)
  (refine rG List.length_append ?_; refine rG List.length_singleton ?_); lia
 ·rcases List.mem_append.mp hx with h | h
  ·exact d x h l e
  ·rw [List.mem_singleton] at h; subst h; exact h2 l e
theorem Good.add0 {i : Ins} (h : Good P q) (h1 : i ≠ .halt) (h2 : i.target = none) : Good P (q.add i) := h.add h1 fun l e => by rw [h2] at e; injection e
theorem Good.place {l0 : Int} (h : Good P q) (hp : ∀ l, P l → P' l ∨ l = l0) : Good P' (q.place l0) := by
 refine x0a3 h fun a b d => ?_
 refine ⟨a, fun x hx => ?_, fun x hx l e => ?_⟩
 ·rcases List.mem_append.mp hx with h | h
  ·exact b x h
  ·rw [List.mem_singleton] at h; subst h; exact Int.le_refl _
 ·rcases d x hx l e with h | ⟨y, hy, e2⟩
  ·rcases hp l h with h | h
   ·exact .inl h
   ·exact .inr ⟨(l0, _), List.mem_append_right _ (.head _), h.symm⟩
  ·exact .inr ⟨y, List.mem_append_left _ hy, e2⟩
theorem Good.mono (h : Good P q) (hp : ∀ l, P l → P' l) : Good P' q := ⟨h.1, h.2.1, fun i hi l e => (h.2.2 i hi l e).imp (hp l) id⟩
noncomputable def TkG (tk : Int → PS → PS) : Prop := ∀ (P : Int → Prop) f q, Good P q → Good P (tk f q)
theorem values_good : ∀ (r : List Wt) (f : Int) (q : PS), Good P q → Good P (valuesFrom f r q)
 | [] => fun f q h => h
 | w :: r => fun f q h => values_good r (f + 1) _ (h.add0 (fun e => by injection e) rfl)
theorem row_good (r : List Wt) (q : PS) (h : Good P q) : Good P (emitRow r q) := values_good r _ (q.reg (max 1 r.length)) h
theorem columns_good (cur first : Int) : ∀ (n : Nat) (i : Int) (q : PS), Good P q → Good P (columnsFrom cur first n i q)
 | 0 => fun i q h => h
 | n + 1 => fun i q h => columns_good cur first n (i + 1) _ (h.add0 (fun e => by injection e) rfl)
theorem putKey_good (cur many : Int) : TkG (putKey cur · many) := fun P f q h =>
 Good.add0 (q := (q.reg 1).add (.record f many q.regs)) (Good.add0 (q := q.reg 1) h (fun e => by injection e) rfl) (fun e => by injection e) rfl
theorem takeOut_good (cur many : Int) : TkG (takeOut cur many) := fun P f q h => Good.add0 h (fun e => by injection e) rfl
theorem putNew_good (cur many : Int) : TkG (putNew cur many) := fun P f q h =>
 Good.place (P := fun l => P l ∨ l = q.lab) (putKey_good cur many _ f _ (Good.add (q := q.label) (h.mono fun l => .inl) (fun e => by injection e) fun l e => by injection e with e; exact .inl (.inr e.symm))) fun l h => h
theorem openKeys_good (cols : List Str) (h : Good P q) : Good P (openKeys cols q) := Good.add0 (q := q.cursor) h (fun e => by injection e) rfl
theorem tell_good {tk : Int → PS → PS} (ht : TkG tk) (cur : Int) (many : Nat) (other : Option Int) {F : Int} (hF : P F) (h : Good P q) : Good P (tell cur many other tk F q) := by
 have h1 : Good P (columnsFrom cur q.regs many 0 (q.reg many)) := columns_good cur q.regs many 0 (q.reg many) h
 unfold tell
 refine ht P _ _ ?_
 cases other with
 | none => exact h1
 | some o => exact h1.add (fun e => by injection e) fun l e => by injection e with e; exact .inl (e ▸ hF)
theorem walkAll_good {tk : Int → PS → PS} {kk : Nat} (hT : TkOk tk kk) (ht : TkG tk) (cur cu : Int) (many : Nat) (other : Option Int) (h : Good P q) : Good P (walkAll cur (tell cu many other tk) q) := by
 let P2 : Int → Prop := fun l => P l ∨ l = q.lab - 2
 let P3 : Int → Prop := fun l => P2 l ∨ l = q.lab - 1
 have h1 : Good P3 (q.label.label.label.add (.rewind cur (q.lab - 2))) := Good.add (q := q.label.label.label) (h.mono fun l h => .inl (.inl h)) (fun e => by injection e) fun l e => by injection e with e; exact .inl (.inl (.inr e.symm))
 have h2 : Good P3 ((q.label.label.label.add (.rewind cur (q.lab - 2))).place q.lab) := h1.place fun l h => .inl h
 have h3 := tell_good ht cu many other (F := q.lab - 1) (.inr rfl) h2
 have h4 : Good P2 ((tell cu many other tk (q.lab - 1) ((q.label.label.label.add (.rewind cur (q.lab - 2))).place q.lab)).place (q.lab - 1)) := h3.place fun l h => h
 unfold walkAll
 refine Good.place (P := P2) (h4.add (fun e => by injection e) fun l e => ?_) fun l h => h
 injection e with e
 subst e
 refine x1a2 ((tell_ok hT cu many other (q.lab - 1) ((q.label.label.label.add (.rewind cur (q.lab - 2))).place q.lab)).1.lab) fun ls el _ => ?_
 refine .inr ⟨(q.lab, ((q.label.label.label.add (.rewind cur (q.lab - 2))).ops.length : Int)), List.mem_append_left _ ?_, rfl⟩
 refine rG el ?_
 exact List.mem_append_left _ (List.mem_append_right _ (.head _))
end
theorem rows_good {P : Int → Prop} {tk : Int → PS → PS} (ht : TkG tk) : ∀ (l : List (List Wt)) (q : PS), Good P q → Good P (emitRows tk l q)
 | [] => fun q h => h
 | r :: l => fun q h => rows_good ht l _ (ht P _ _ (row_good r q h))
theorem body_good : ∀ (t : Told) {P : Int → Prop} {tk : Int → PS → PS} {kk : Nat} (_ : TkOk tk kk) (_ : TkG tk) (q : PS), Good P q → Good P (emitBody t tk q)
 | .rows l => by rename_i P tk kk; intro hT ht q h; exact rows_good ht l q h
 | .comp op l r cols => by
  rename_i P tk kk
  intro hT ht q h
  unfold emitBody
  split
  ·exact body_good r hT ht _ (body_good l hT ht q h)
  ·have h2 := body_good l (putNew_ok q.curs cols.length) (putNew_good q.curs cols.length) _ (openKeys_good cols h)
   dsimp only
   split
   ·exact walkAll_good hT ht _ _ _ _ (body_good r (putNew_ok _ _) (putNew_good _ _) _ h2)
   ·split
    ·exact walkAll_good hT ht _ _ _ _ (body_good r (takeOut_ok _ _) (takeOut_good _ _) _ h2)
    ·exact walkAll_good hT ht _ _ _ _ (body_good r (putKey_ok' _ _) (putKey_good _ _) _ (openKeys_good cols h2))
theorem ans_good (n : Nat) : TkG (ansTk n) := fun P f q h => Good.add0 h (fun e => by injection e) rfl
theorem ans_sem {n : Nat} {Q : PS} : SemT n Q (ansTk n) (fun (s : List (List Wt)) row => s ++ [row]) (fun s v => v.ans = s) (fun _ _ => True) 1 0 0 where
 ext := fun f q => ⟨Ext.add _ _, rfl⟩
 stable := fun s v v' h _ _ e => by refine rG e ?_; exact h
 more := fun _ _ _ _ _ => trivial
 run := fun q first v s row m hR hC hL hE hf hg hrow ha hm => by
  refine ⟨1, { v with ans := v.ans ++ [row] }, Nat.le_refl _, Run.one (b := false) hE (by simp only [Ins.fix, doIns, if_pos, hg]) rfl, by (refine rL ha ?_; rfl), fun _ _ => rfl, fun _ _ => rfl⟩
theorem snoc_fold : ∀ (rs acc : List (List Wt)), rs.foldl (fun s row => s ++ [row]) acc = acc ++ rs
 | [] => fun acc => (List.append_nil _).symm
 | r :: rs => by intro acc; (refine rG List.foldl_cons ?_; rewrite [snoc_fold rs]; refine rG (List.append_assoc ..) ?_); rfl
theorem ans_tkok (n : Nat) : TkOk (ansTk n) 1 := fun f q => ⟨Ext.add _ _, by (rewrite [ansTk]; refine rG (size_add ..) ?_); exact Nat.le_refl _⟩
theorem plainLaw : PlainLaw := fun n t hN hg hd hr => by
 have hn : n ≤ 2 := by rcases hN with h | h <;> lia
 have hsz : (outPS n t).size ≤ 7000 := by
  have h1 := (body_ext n t hg.ok (ansTk n) 1 (ans_tkok n) .start).2
  obtain ⟨op, l, r, cols, e⟩ := hr
  subst e
  refine x0a4 hg fun _ gl gr _ => ?_
  have hd' : max l.deep r.deep + 1 ≤ 3 := hd
  have c1 := cost_le hn l gl.ok 5 (by lia) (by have := Nat.le_max_left l.deep r.deep; lia)
  have c2 := cost_le hn r gr.ok 5 (by lia) (by have := Nat.le_max_right l.deep r.deep; lia)
  have e1 : (Told.comp op l r cols).cost n 1 = l.cost n 5 + r.cost n 5 + n + 1 + 8 := rfl
  have e2 : PS.start.size = 0 := rfl
  unfold outPS
  lia
 have hgood : Good (fun _ => False) (outPS n t) := body_good t (kk := 1) (ans_tkok n) (ans_good n) .start ⟨fun i h => (by contradiction), fun x h => (by contradiction), fun i h => (by contradiction)⟩
 have hops : (outPS n t).ops.length ≤ (outPS n t).size := Nat.le_add_right _ _
 refine ⟨⟨hgood.1, hgood.2.1, fun i hi l e _ => ?_, by lia⟩, by lia, ?_⟩
 ·rcases hgood.2.2 i hi l e with h | ⟨⟨a, v⟩, hx, e2⟩
  ·exact h.elim
  ·refine x1a2 (look_mem hx) fun v' h1 _ => ?_
   exact ⟨v', by refine rL e2 ?_; exact h1⟩
 ·obtain ⟨j, v', hj, r1, a1, _⟩ := body_run (Q := outPS n t) hn t (ans_sem (n := n)) (by decide) (kk := 1) (ans_tkok n) hg hd .start ⟨[], [], []⟩ [] 0 (by decide) (Int.le_refl _) ⟨by decide, fun x h => by cases h⟩ ⟨⟨[], (List.append_nil _).symm⟩, [], (List.append_nil _).symm⟩ (fun _ _ => rfl) rfl trivial
  have hb : Bd t.deep ≤ 1345 := Nat.le_trans (Bd_le hd) (by decide)
  have := Run.end_ (n := n) (cd := cdOf (outPS n t)) r1 (by lia) (Int.natCast_nonneg _) (by
   refine rG (Int.toNat_natCast ..) ?_
   show (cdOf (outPS n t))[(outPS n t).ops.length]? = _
   unfold cdOf
   refine rG List.getElem?_map ?_
   have : ((outPS n t).ops ++ [Ins.halt])[(outPS n t).ops.length]? = some .halt := by simp
   refine rG this ?_; rfl)
  show ranVm n (cdOf (outPS n t)) 4000 0 ⟨[], [], []⟩ = _
  refine rG (show (0 : Int) = ((PS.start.ops.length : Nat) : Int) from rfl) ?_
  refine this.trans ?_
  (refine rG a1 ?_; refine rG (snoc_fold ..) ?_); rfl
end Mine
end
set_option maxHeartbeats 0 in
theorem PySem.Challenge.cw_pb0469_01_holds : PySem.Challenge.rw_pb0469_01.Holds :=
  Mine.holds_plain Mine.plainLaw
