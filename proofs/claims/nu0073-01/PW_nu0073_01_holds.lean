import PyProof.Rows.All
import Wide.All
import OpenK.AllK
import Wide.FinOn
import Lean
import PySem.Challenge.RW_nu0073_01
open PySem PySem.W PyProof.Rows
set_option Elab.async false
set_option compiler.extract_closed false
set_option maxRecDepth 100000
set_option maxHeartbeats 8000000
namespace Mine
section
local macro_rules | `(tactic| o_head $_) => `(tactic| assumption)
theorem hd (h : PySem.Challenge.rw_nu0073_01.row.Holds) : True := by
  have h2 : PySem.Challenge.rw_nu0073_01.row.Holds := by k_head
  trivial
end
noncomputable def hd.view_1 : Program := { PySem.Challenge.rw_nu0073_01.row.toRowW.prog with main := { PySem.Challenge.rw_nu0073_01.row.toRowW.prog.main with body := ([0, 2, 3, 4, 6, 7, 8, 9, 11, 12, 13, 14, 15, 16, 17, 18, 19, 20, 21, 23, 24, 25, 27, 28, 29, 30, 31, 32, 33, 35, 36, 37, 38, 39, 41, 42, 43, 44, 45, 47, 48, 49, 51, 52, 53, 55, 56, 57, 58, 59, 60, 61, 62, 63] : List Nat).filterMap fun i => PySem.Challenge.rw_nu0073_01.row.toRowW.prog.main.body[i]? } }
noncomputable abbrev hk1 : Hook := kmHook hd.heap_1 [2, 3, 15, 17, 18, 20, 21, 22, 29, 31, 32, 34, 35, 36, 37, 38, 39, 42, 49, 50, 51, 54, 61, 62, 63, 66, 68, 69, 71, 72, 73, 75, 76, 78, 79, 80, 82, 83, 85, 86, 87, 89, 90, 92, 93, 94, 96, 97, 99, 100, 101, 103, 104, 106, 107, 108, 110, 111, 113, 114, 115, 117, 118, 120, 121, 122, 124, 125, 127, 128, 129, 131, 132, 134, 135, 136, 138, 139, 141, 142, 143, 145, 146, 148, 149, 150, 153, 154, 155, 157, 158, 160, 161, 162, 164, 165, 167, 168, 169, 171, 172, 174, 175, 176, 178, 179, 181, 182, 183, 186, 187, 195, 197, 198, 200, 201, 202, 203, 204, 205, 206, 216, 218, 219, 221, 222, 223, 224, 225, 226, 227, 237, 239, 240, 242, 243, 244, 245, 246, 247, 248, 251, 253, 254, 256, 257, 258, 260, 261, 263, 264, 265, 267, 268, 270, 271, 272, 274, 275, 277, 278, 286, 288, 289, 291, 292, 293, 294, 295, 296, 297, 300, 302, 303, 305, 306, 307, 309, 310, 312, 313, 314, 316, 317, 319, 320, 321, 323, 324, 326, 327, 328, 329, 330, 331, 332, 334, 335, 337, 338, 339, 347, 349, 350, 352, 353, 354, 355, 356, 357, 358, 368, 370, 371, 373, 374, 375, 377, 378, 380, 381, 382, 384, 385, 387, 388, 389, 391, 392, 394, 395, 396, 398, 399, 401, 402, 403, 405, 406, 408, 409, 410, 412, 413, 415, 416, 417, 419, 420, 422, 423, 424, 426, 427, 429, 430, 431, 433, 434, 436, 437, 438, 440, 441, 443, 444, 445, 447, 448, 450, 451, 452, 454, 455, 457, 458, 459, 461, 462, 464, 465, 466, 468, 469, 471, 472, 473, 475, 476, 478, 479, 480, 482, 483, 485, 486, 487, 489, 490, 492, 493, 494, 496, 497, 499, 500, 501, 503, 504, 506, 507, 508, 510, 511, 513, 514, 515, 517, 518, 520, 521, 522, 524, 525, 527, 528, 529, 531, 532, 534, 535, 536, 538, 539, 541, 542, 543, 544, 545, 546, 547, 550, 553, 554, 562, 564, 565, 567, 568, 569, 571, 572, 574, 575, 576, 577, 578, 579, 580, 590, 592, 593, 595, 596, 597, 599, 600, 602, 603, 604, 605, 606, 607, 608, 611, 613, 614, 616, 617, 618, 620, 621, 623, 624, 625, 627, 628, 630, 631, 632, 634, 635, 637, 638, 639, 641, 642, 644, 645, 646, 648, 649, 651, 652, 653, 655, 656, 658, 659, 660, 662, 663, 665, 666, 667, 670, 671] (fun _ => by kernel_rfl) [668]
theorem exq {α : Type} {G : Prop} (a : α) (H : ∀ x, x = a → G) : G := H a rfl
abbrev Led := List (Addr × Obj)
theorem kx3_rn {α1 α2 α3 : Type} {β γ : Type} {fr : α1 → α2 → α3 → β} {fn : α1 → α2 → α3 → γ} {k : β → γ → Prop} (H : ∀ x1 x2 x3, k (fr x1 x2 x3) (fn x1 x2 x3)) : ∀ r n', (∃ x1 x2 x3, r = fr x1 x2 x3 ∧ n' = fn x1 x2 x3) → k r n' := by
  rintro r n' ⟨x1, x2, x3, e1, e2⟩; subst e1; subst e2; exact H x1 x2 x3
theorem kx2_rnp {α1 α2 : Type} {β γ : Type} {fr : α1 → α2 → β} {fn : α1 → α2 → γ} {p3 : α1 → α2 → Prop} {k : β → γ → Prop} (H : ∀ x1 x2, p3 x1 x2 → k (fr x1 x2) (fn x1 x2)) : ∀ r n', (∃ x1 x2, r = fr x1 x2 ∧ n' = fn x1 x2 ∧ p3 x1 x2) → k r n' := by
  rintro r n' ⟨x1, x2, e1, e2, h3⟩; subst e1; subst e2; exact H x1 x2 h3
theorem kx5_rqpppp {α1 α2 α3 α4 α5 : Type} {β γ : Type} {fr : α1 → α2 → α3 → α4 → α5 → β} {p2 : α1 → α2 → α3 → α4 → α5 → β → γ → Prop} {p3 : α1 → α2 → α3 → α4 → α5 → Prop} {p4 : α1 → α2 → α3 → α4 → α5 → Prop} {p5 : α1 → α2 → α3 → α4 → α5 → Prop} {p6 : α1 → α2 → α3 → α4 → α5 → Prop} {k : β → γ → Prop} (H : ∀ n' : γ, ∀ x1 x2 x3 x4 x5, p2 x1 x2 x3 x4 x5 (fr x1 x2 x3 x4 x5) n' → p3 x1 x2 x3 x4 x5 → p4 x1 x2 x3 x4 x5 → p5 x1 x2 x3 x4 x5 → p6 x1 x2 x3 x4 x5 → k (fr x1 x2 x3 x4 x5) n') : ∀ r n', (∃ x1 x2 x3 x4 x5, r = fr x1 x2 x3 x4 x5 ∧ p2 x1 x2 x3 x4 x5 r n' ∧ p3 x1 x2 x3 x4 x5 ∧ p4 x1 x2 x3 x4 x5 ∧ p5 x1 x2 x3 x4 x5 ∧ p6 x1 x2 x3 x4 x5) → k r n' := by
  rintro r n' ⟨x1, x2, x3, x4, x5, e1, h2, h3, h4, h5, h6⟩; subst e1; exact H n' x1 x2 x3 x4 x5 h2 h3 h4 h5 h6
theorem kx0_nr {β γ : Type} {fn : γ} {fr : β} {k : β → γ → Prop} (H : k fr fn) : ∀ r n', (n' = fn ∧ r = fr) → k r n' := by
  rintro r n' ⟨e1, e2⟩; subst e1; subst e2; exact H 
theorem kx0_nq {β γ : Type} {fn : γ} {p2 : β → γ → Prop} {k : β → γ → Prop} (H : ∀ r : β, p2 r fn → k r fn) : ∀ r n', (n' = fn ∧ p2 r n') → k r n' := by
  rintro r n' ⟨e1, h2⟩; subst e1; exact H r h2
theorem kx1_rqq {α1 : Type} {β γ : Type} {fr : α1 → β} {p2 : α1 → β → γ → Prop} {p3 : α1 → β → γ → Prop} {k : β → γ → Prop} (H : ∀ n' : γ, ∀ x1, p2 x1 (fr x1) n' → p3 x1 (fr x1) n' → k (fr x1) n') : ∀ r n', (∃ x1, r = fr x1 ∧ p2 x1 r n' ∧ p3 x1 r n') → k r n' := by
  rintro r n' ⟨x1, e1, h2, h3⟩; subst e1; exact H n' x1 h2 h3
theorem kx3_rnppp {α1 α2 α3 : Type} {β γ : Type} {fr : α1 → α2 → α3 → β} {fn : α1 → α2 → α3 → γ} {p3 : α1 → α2 → α3 → Prop} {p4 : α1 → α2 → α3 → Prop} {p5 : α1 → α2 → α3 → Prop} {k : β → γ → Prop} (H : ∀ x1 x2 x3, p3 x1 x2 x3 → p4 x1 x2 x3 → p5 x1 x2 x3 → k (fr x1 x2 x3) (fn x1 x2 x3)) : ∀ r n', (∃ x1 x2 x3, r = fr x1 x2 x3 ∧ n' = fn x1 x2 x3 ∧ p3 x1 x2 x3 ∧ p4 x1 x2 x3 ∧ p5 x1 x2 x3) → k r n' := by
  rintro r n' ⟨x1, x2, x3, e1, e2, h3, h4, h5⟩; subst e1; subst e2; exact H x1 x2 x3 h3 h4 h5
theorem kx4_rnpppp {α1 α2 α3 α4 : Type} {β γ : Type} {fr : α1 → α2 → α3 → α4 → β} {fn : α1 → α2 → α3 → α4 → γ} {p3 : α1 → α2 → α3 → α4 → Prop} {p4 : α1 → α2 → α3 → α4 → Prop} {p5 : α1 → α2 → α3 → α4 → Prop} {p6 : α1 → α2 → α3 → α4 → Prop} {k : β → γ → Prop} (H : ∀ x1 x2 x3 x4, p3 x1 x2 x3 x4 → p4 x1 x2 x3 x4 → p5 x1 x2 x3 x4 → p6 x1 x2 x3 x4 → k (fr x1 x2 x3 x4) (fn x1 x2 x3 x4)) : ∀ r n', (∃ x1 x2 x3 x4, r = fr x1 x2 x3 x4 ∧ n' = fn x1 x2 x3 x4 ∧ p3 x1 x2 x3 x4 ∧ p4 x1 x2 x3 x4 ∧ p5 x1 x2 x3 x4 ∧ p6 x1 x2 x3 x4) → k r n' := by
  rintro r n' ⟨x1, x2, x3, x4, e1, e2, h3, h4, h5, h6⟩; subst e1; subst e2; exact H x1 x2 x3 x4 h3 h4 h5 h6
theorem kx6_qnppp {α1 α2 α3 α4 α5 α6 : Type} {β γ : Type} {p1 : α1 → α2 → α3 → α4 → α5 → α6 → β → γ → Prop} {fn : α1 → α2 → α3 → α4 → α5 → α6 → γ} {p3 : α1 → α2 → α3 → α4 → α5 → α6 → Prop} {p4 : α1 → α2 → α3 → α4 → α5 → α6 → Prop} {p5 : α1 → α2 → α3 → α4 → α5 → α6 → Prop} {k : β → γ → Prop} (H : ∀ r : β, ∀ x1 x2 x3 x4 x5 x6, p1 x1 x2 x3 x4 x5 x6 r (fn x1 x2 x3 x4 x5 x6) → p3 x1 x2 x3 x4 x5 x6 → p4 x1 x2 x3 x4 x5 x6 → p5 x1 x2 x3 x4 x5 x6 → k r (fn x1 x2 x3 x4 x5 x6)) : ∀ r n', (∃ x1 x2 x3 x4 x5 x6, p1 x1 x2 x3 x4 x5 x6 r n' ∧ n' = fn x1 x2 x3 x4 x5 x6 ∧ p3 x1 x2 x3 x4 x5 x6 ∧ p4 x1 x2 x3 x4 x5 x6 ∧ p5 x1 x2 x3 x4 x5 x6) → k r n' := by
  rintro r n' ⟨x1, x2, x3, x4, x5, x6, h1, e2, h3, h4, h5⟩; subst e2; exact H r x1 x2 x3 x4 x5 x6 h1 h3 h4 h5
theorem kx7_rppnppp {α1 α2 α3 α4 α5 α6 α7 : Type} {β γ : Type} {fr : α1 → α2 → α3 → α4 → α5 → α6 → α7 → β} {p2 : α1 → α2 → α3 → α4 → α5 → α6 → α7 → Prop} {p3 : α1 → α2 → α3 → α4 → α5 → α6 → α7 → Prop} {fn : α1 → α2 → α3 → α4 → α5 → α6 → α7 → γ} {p5 : α1 → α2 → α3 → α4 → α5 → α6 → α7 → Prop} {p6 : α1 → α2 → α3 → α4 → α5 → α6 → α7 → Prop} {p7 : α1 → α2 → α3 → α4 → α5 → α6 → α7 → Prop} {k : β → γ → Prop} (H : ∀ x1 x2 x3 x4 x5 x6 x7, p2 x1 x2 x3 x4 x5 x6 x7 → p3 x1 x2 x3 x4 x5 x6 x7 → p5 x1 x2 x3 x4 x5 x6 x7 → p6 x1 x2 x3 x4 x5 x6 x7 → p7 x1 x2 x3 x4 x5 x6 x7 → k (fr x1 x2 x3 x4 x5 x6 x7) (fn x1 x2 x3 x4 x5 x6 x7)) : ∀ r n', (∃ x1 x2 x3 x4 x5 x6 x7, r = fr x1 x2 x3 x4 x5 x6 x7 ∧ p2 x1 x2 x3 x4 x5 x6 x7 ∧ p3 x1 x2 x3 x4 x5 x6 x7 ∧ n' = fn x1 x2 x3 x4 x5 x6 x7 ∧ p5 x1 x2 x3 x4 x5 x6 x7 ∧ p6 x1 x2 x3 x4 x5 x6 x7 ∧ p7 x1 x2 x3 x4 x5 x6 x7) → k r n' := by
  rintro r n' ⟨x1, x2, x3, x4, x5, x6, x7, e1, h2, h3, e4, h5, h6, h7⟩; subst e1; subst e4; exact H x1 x2 x3 x4 x5 x6 x7 h2 h3 h5 h6 h7
theorem kx7_rnppppppp {α1 α2 α3 α4 α5 α6 α7 : Type} {β γ : Type} {fr : α1 → α2 → α3 → α4 → α5 → α6 → α7 → β} {fn : α1 → α2 → α3 → α4 → α5 → α6 → α7 → γ} {p3 : α1 → α2 → α3 → α4 → α5 → α6 → α7 → Prop} {p4 : α1 → α2 → α3 → α4 → α5 → α6 → α7 → Prop} {p5 : α1 → α2 → α3 → α4 → α5 → α6 → α7 → Prop} {p6 : α1 → α2 → α3 → α4 → α5 → α6 → α7 → Prop} {p7 : α1 → α2 → α3 → α4 → α5 → α6 → α7 → Prop} {p8 : α1 → α2 → α3 → α4 → α5 → α6 → α7 → Prop} {p9 : α1 → α2 → α3 → α4 → α5 → α6 → α7 → Prop} {k : β → γ → Prop} (H : ∀ x1 x2 x3 x4 x5 x6 x7, p3 x1 x2 x3 x4 x5 x6 x7 → p4 x1 x2 x3 x4 x5 x6 x7 → p5 x1 x2 x3 x4 x5 x6 x7 → p6 x1 x2 x3 x4 x5 x6 x7 → p7 x1 x2 x3 x4 x5 x6 x7 → p8 x1 x2 x3 x4 x5 x6 x7 → p9 x1 x2 x3 x4 x5 x6 x7 → k (fr x1 x2 x3 x4 x5 x6 x7) (fn x1 x2 x3 x4 x5 x6 x7)) : ∀ r n', (∃ x1 x2 x3 x4 x5 x6 x7, r = fr x1 x2 x3 x4 x5 x6 x7 ∧ n' = fn x1 x2 x3 x4 x5 x6 x7 ∧ p3 x1 x2 x3 x4 x5 x6 x7 ∧ p4 x1 x2 x3 x4 x5 x6 x7 ∧ p5 x1 x2 x3 x4 x5 x6 x7 ∧ p6 x1 x2 x3 x4 x5 x6 x7 ∧ p7 x1 x2 x3 x4 x5 x6 x7 ∧ p8 x1 x2 x3 x4 x5 x6 x7 ∧ p9 x1 x2 x3 x4 x5 x6 x7) → k r n' := by
  rintro r n' ⟨x1, x2, x3, x4, x5, x6, x7, e1, e2, h3, h4, h5, h6, h7, h8, h9⟩; subst e1; subst e2; exact H x1 x2 x3 x4 x5 x6 x7 h3 h4 h5 h6 h7 h8 h9
theorem kx8_rnppppppp {α1 α2 α3 α4 α5 α6 α7 α8 : Type} {β γ : Type} {fr : α1 → α2 → α3 → α4 → α5 → α6 → α7 → α8 → β} {fn : α1 → α2 → α3 → α4 → α5 → α6 → α7 → α8 → γ} {p3 : α1 → α2 → α3 → α4 → α5 → α6 → α7 → α8 → Prop} {p4 : α1 → α2 → α3 → α4 → α5 → α6 → α7 → α8 → Prop} {p5 : α1 → α2 → α3 → α4 → α5 → α6 → α7 → α8 → Prop} {p6 : α1 → α2 → α3 → α4 → α5 → α6 → α7 → α8 → Prop} {p7 : α1 → α2 → α3 → α4 → α5 → α6 → α7 → α8 → Prop} {p8 : α1 → α2 → α3 → α4 → α5 → α6 → α7 → α8 → Prop} {p9 : α1 → α2 → α3 → α4 → α5 → α6 → α7 → α8 → Prop} {k : β → γ → Prop} (H : ∀ x1 x2 x3 x4 x5 x6 x7 x8, p3 x1 x2 x3 x4 x5 x6 x7 x8 → p4 x1 x2 x3 x4 x5 x6 x7 x8 → p5 x1 x2 x3 x4 x5 x6 x7 x8 → p6 x1 x2 x3 x4 x5 x6 x7 x8 → p7 x1 x2 x3 x4 x5 x6 x7 x8 → p8 x1 x2 x3 x4 x5 x6 x7 x8 → p9 x1 x2 x3 x4 x5 x6 x7 x8 → k (fr x1 x2 x3 x4 x5 x6 x7 x8) (fn x1 x2 x3 x4 x5 x6 x7 x8)) : ∀ r n', (∃ x1 x2 x3 x4 x5 x6 x7 x8, r = fr x1 x2 x3 x4 x5 x6 x7 x8 ∧ n' = fn x1 x2 x3 x4 x5 x6 x7 x8 ∧ p3 x1 x2 x3 x4 x5 x6 x7 x8 ∧ p4 x1 x2 x3 x4 x5 x6 x7 x8 ∧ p5 x1 x2 x3 x4 x5 x6 x7 x8 ∧ p6 x1 x2 x3 x4 x5 x6 x7 x8 ∧ p7 x1 x2 x3 x4 x5 x6 x7 x8 ∧ p8 x1 x2 x3 x4 x5 x6 x7 x8 ∧ p9 x1 x2 x3 x4 x5 x6 x7 x8) → k r n' := by
  rintro r n' ⟨x1, x2, x3, x4, x5, x6, x7, x8, e1, e2, h3, h4, h5, h6, h7, h8, h9⟩; subst e1; subst e2; exact H x1 x2 x3 x4 x5 x6 x7 x8 h3 h4 h5 h6 h7 h8 h9
theorem kx9_rqqqqpp {α1 α2 α3 α4 α5 α6 α7 α8 α9 : Type} {β γ : Type} {fr : α1 → α2 → α3 → α4 → α5 → α6 → α7 → α8 → α9 → β} {p2 : α1 → α2 → α3 → α4 → α5 → α6 → α7 → α8 → α9 → β → γ → Prop} {p3 : α1 → α2 → α3 → α4 → α5 → α6 → α7 → α8 → α9 → β → γ → Prop} {p4 : α1 → α2 → α3 → α4 → α5 → α6 → α7 → α8 → α9 → β → γ → Prop} {p5 : α1 → α2 → α3 → α4 → α5 → α6 → α7 → α8 → α9 → β → γ → Prop} {p6 : α1 → α2 → α3 → α4 → α5 → α6 → α7 → α8 → α9 → Prop} {p7 : α1 → α2 → α3 → α4 → α5 → α6 → α7 → α8 → α9 → Prop} {k : β → γ → Prop} (H : ∀ n' : γ, ∀ x1 x2 x3 x4 x5 x6 x7 x8 x9, p2 x1 x2 x3 x4 x5 x6 x7 x8 x9 (fr x1 x2 x3 x4 x5 x6 x7 x8 x9) n' → p3 x1 x2 x3 x4 x5 x6 x7 x8 x9 (fr x1 x2 x3 x4 x5 x6 x7 x8 x9) n' → p4 x1 x2 x3 x4 x5 x6 x7 x8 x9 (fr x1 x2 x3 x4 x5 x6 x7 x8 x9) n' → p5 x1 x2 x3 x4 x5 x6 x7 x8 x9 (fr x1 x2 x3 x4 x5 x6 x7 x8 x9) n' → p6 x1 x2 x3 x4 x5 x6 x7 x8 x9 → p7 x1 x2 x3 x4 x5 x6 x7 x8 x9 → k (fr x1 x2 x3 x4 x5 x6 x7 x8 x9) n') : ∀ r n', (∃ x1 x2 x3 x4 x5 x6 x7 x8 x9, r = fr x1 x2 x3 x4 x5 x6 x7 x8 x9 ∧ p2 x1 x2 x3 x4 x5 x6 x7 x8 x9 r n' ∧ p3 x1 x2 x3 x4 x5 x6 x7 x8 x9 r n' ∧ p4 x1 x2 x3 x4 x5 x6 x7 x8 x9 r n' ∧ p5 x1 x2 x3 x4 x5 x6 x7 x8 x9 r n' ∧ p6 x1 x2 x3 x4 x5 x6 x7 x8 x9 ∧ p7 x1 x2 x3 x4 x5 x6 x7 x8 x9) → k r n' := by
  rintro r n' ⟨x1, x2, x3, x4, x5, x6, x7, x8, x9, e1, h2, h3, h4, h5, h6, h7⟩; subst e1; exact H n' x1 x2 x3 x4 x5 x6 x7 x8 x9 h2 h3 h4 h5 h6 h7
theorem kx2_rn {α1 α2 : Type} {β γ : Type} {fr : α1 → α2 → β} {fn : α1 → α2 → γ} {k : β → γ → Prop} (H : ∀ x1 x2, k (fr x1 x2) (fn x1 x2)) : ∀ r n', (∃ x1 x2, r = fr x1 x2 ∧ n' = fn x1 x2) → k r n' := by
  rintro r n' ⟨x1, x2, e1, e2⟩; subst e1; subst e2; exact H x1 x2
theorem kx6_rqqq {α1 α2 α3 α4 α5 α6 : Type} {β γ : Type} {fr : α1 → α2 → α3 → α4 → α5 → α6 → β} {p2 : α1 → α2 → α3 → α4 → α5 → α6 → β → γ → Prop} {p3 : α1 → α2 → α3 → α4 → α5 → α6 → β → γ → Prop} {p4 : α1 → α2 → α3 → α4 → α5 → α6 → β → γ → Prop} {k : β → γ → Prop} (H : ∀ n' : γ, ∀ x1 x2 x3 x4 x5 x6, p2 x1 x2 x3 x4 x5 x6 (fr x1 x2 x3 x4 x5 x6) n' → p3 x1 x2 x3 x4 x5 x6 (fr x1 x2 x3 x4 x5 x6) n' → p4 x1 x2 x3 x4 x5 x6 (fr x1 x2 x3 x4 x5 x6) n' → k (fr x1 x2 x3 x4 x5 x6) n') : ∀ r n', (∃ x1 x2 x3 x4 x5 x6, r = fr x1 x2 x3 x4 x5 x6 ∧ p2 x1 x2 x3 x4 x5 x6 r n' ∧ p3 x1 x2 x3 x4 x5 x6 r n' ∧ p4 x1 x2 x3 x4 x5 x6 r n') → k r n' := by
  rintro r n' ⟨x1, x2, x3, x4, x5, x6, e1, h2, h3, h4⟩; subst e1; exact H n' x1 x2 x3 x4 x5 x6 h2 h3 h4
theorem kx6_rnpppp {α1 α2 α3 α4 α5 α6 : Type} {β γ : Type} {fr : α1 → α2 → α3 → α4 → α5 → α6 → β} {fn : α1 → α2 → α3 → α4 → α5 → α6 → γ} {p3 : α1 → α2 → α3 → α4 → α5 → α6 → Prop} {p4 : α1 → α2 → α3 → α4 → α5 → α6 → Prop} {p5 : α1 → α2 → α3 → α4 → α5 → α6 → Prop} {p6 : α1 → α2 → α3 → α4 → α5 → α6 → Prop} {k : β → γ → Prop} (H : ∀ x1 x2 x3 x4 x5 x6, p3 x1 x2 x3 x4 x5 x6 → p4 x1 x2 x3 x4 x5 x6 → p5 x1 x2 x3 x4 x5 x6 → p6 x1 x2 x3 x4 x5 x6 → k (fr x1 x2 x3 x4 x5 x6) (fn x1 x2 x3 x4 x5 x6)) : ∀ r n', (∃ x1 x2 x3 x4 x5 x6, r = fr x1 x2 x3 x4 x5 x6 ∧ n' = fn x1 x2 x3 x4 x5 x6 ∧ p3 x1 x2 x3 x4 x5 x6 ∧ p4 x1 x2 x3 x4 x5 x6 ∧ p5 x1 x2 x3 x4 x5 x6 ∧ p6 x1 x2 x3 x4 x5 x6) → k r n' := by
  rintro r n' ⟨x1, x2, x3, x4, x5, x6, e1, e2, h3, h4, h5, h6⟩; subst e1; subst e2; exact H x1 x2 x3 x4 x5 x6 h3 h4 h5 h6
theorem kxn1_r {α1 : Type} {β γ : Type} {fn : γ} {fr : α1 → β} {k : β → γ → Prop} (H : ∀ x1, k (fr x1) fn) : ∀ r n', (n' = fn ∧ ∃ x1, r = fr x1) → k r n' := by
  rintro r n' ⟨ea1, x1, e1⟩; subst ea1; subst e1; exact H x1
theorem kxn1_r_p {α1 : Type} {β γ : Type} {fn : γ} {fr : α1 → β} {pz1 : Prop} {k : β → γ → Prop} (H : ∀ x1, pz1 → k (fr x1) fn) : ∀ r n', (n' = fn ∧ (∃ x1, r = fr x1) ∧ pz1) → k r n' := by
  rintro r n' ⟨ea1, ⟨x1, e1⟩, hz1⟩; subst ea1; subst e1; exact H x1 hz1
theorem kx1_r_q {α1 : Type} {β γ : Type} {fr : α1 → β} {pz1 : β → γ → Prop} {k : β → γ → Prop} (H : ∀ n' : γ, ∀ x1, pz1 (fr x1) n' → k (fr x1) n') : ∀ r n', ((∃ x1, r = fr x1) ∧ pz1 r n') → k r n' := by
  rintro r n' ⟨⟨x1, e1⟩, hz1⟩; subst e1; exact H n' x1 hz1
theorem kxn2_rp {α1 α2 : Type} {β γ : Type} {fn : γ} {fr : α1 → α2 → β} {p2 : α1 → α2 → Prop} {k : β → γ → Prop} (H : ∀ x1 x2, p2 x1 x2 → k (fr x1 x2) fn) : ∀ r n', (n' = fn ∧ ∃ x1 x2, r = fr x1 x2 ∧ p2 x1 x2) → k r n' := by
  rintro r n' ⟨ea1, x1, x2, e1, h2⟩; subst ea1; subst e1; exact H x1 x2 h2
theorem ob8_1 {α1 α2 α3 α4 α5 α6 α7 α8 : Type} {p1 : α1 → α2 → α3 → α4 → α5 → α6 → α7 → α8 → Prop} {G : Prop} (h : ∃ x1 x2 x3 x4 x5 x6 x7 x8, p1 x1 x2 x3 x4 x5 x6 x7 x8) (H : ∀ x1 x2 x3 x4 x5 x6 x7 x8, p1 x1 x2 x3 x4 x5 x6 x7 x8 → G) : G := by
  obtain ⟨x1, x2, x3, x4, x5, x6, x7, x8, h1⟩ := h; exact H x1 x2 x3 x4 x5 x6 x7 x8 h1
theorem ob1_6 {α1 : Type} {p1 : α1 → Prop} {p2 : α1 → Prop} {p3 : α1 → Prop} {p4 : α1 → Prop} {p5 : α1 → Prop} {p6 : α1 → Prop} {G : Prop} (h : ∃ x1, p1 x1 ∧ p2 x1 ∧ p3 x1 ∧ p4 x1 ∧ p5 x1 ∧ p6 x1) (H : ∀ x1, p1 x1 → p2 x1 → p3 x1 → p4 x1 → p5 x1 → p6 x1 → G) : G := by
  obtain ⟨x1, h1, h2, h3, h4, h5, h6⟩ := h; exact H x1 h1 h2 h3 h4 h5 h6
theorem ob1_1 {α1 : Type} {p1 : α1 → Prop} {G : Prop} (h : ∃ x1, p1 x1) (H : ∀ x1, p1 x1 → G) : G := by
  obtain ⟨x1, h1⟩ := h; exact H x1 h1
theorem ob3_1 {α1 α2 α3 : Type} {p1 : α1 → α2 → α3 → Prop} {G : Prop} (h : ∃ x1 x2 x3, p1 x1 x2 x3) (H : ∀ x1 x2 x3, p1 x1 x2 x3 → G) : G := by
  obtain ⟨x1, x2, x3, h1⟩ := h; exact H x1 x2 x3 h1
theorem ob5_1 {α1 α2 α3 α4 α5 : Type} {p1 : α1 → α2 → α3 → α4 → α5 → Prop} {G : Prop} (h : ∃ x1 x2 x3 x4 x5, p1 x1 x2 x3 x4 x5) (H : ∀ x1 x2 x3 x4 x5, p1 x1 x2 x3 x4 x5 → G) : G := by
  obtain ⟨x1, x2, x3, x4, x5, h1⟩ := h; exact H x1 x2 x3 x4 x5 h1
theorem ob1_2 {α1 : Type} {p1 : α1 → Prop} {p2 : α1 → Prop} {G : Prop} (h : ∃ x1, p1 x1 ∧ p2 x1) (H : ∀ x1, p1 x1 → p2 x1 → G) : G := by
  obtain ⟨x1, h1, h2⟩ := h; exact H x1 h1 h2
theorem ob1_3 {α1 : Type} {p1 : α1 → Prop} {p2 : α1 → Prop} {p3 : α1 → Prop} {G : Prop} (h : ∃ x1, p1 x1 ∧ p2 x1 ∧ p3 x1) (H : ∀ x1, p1 x1 → p2 x1 → p3 x1 → G) : G := by
  obtain ⟨x1, h1, h2, h3⟩ := h; exact H x1 h1 h2 h3
theorem ob1_4 {α1 : Type} {p1 : α1 → Prop} {p2 : α1 → Prop} {p3 : α1 → Prop} {p4 : α1 → Prop} {G : Prop} (h : ∃ x1, p1 x1 ∧ p2 x1 ∧ p3 x1 ∧ p4 x1) (H : ∀ x1, p1 x1 → p2 x1 → p3 x1 → p4 x1 → G) : G := by
  obtain ⟨x1, h1, h2, h3, h4⟩ := h; exact H x1 h1 h2 h3 h4
theorem ob2_1 {α1 α2 : Type} {p1 : α1 → α2 → Prop} {G : Prop} (h : ∃ x1 x2, p1 x1 x2) (H : ∀ x1 x2, p1 x1 x2 → G) : G := by
  obtain ⟨x1, x2, h1⟩ := h; exact H x1 x2 h1
theorem ob2_3 {α1 α2 : Type} {p1 : α1 → α2 → Prop} {p2 : α1 → α2 → Prop} {p3 : α1 → α2 → Prop} {G : Prop} (h : ∃ x1 x2, p1 x1 x2 ∧ p2 x1 x2 ∧ p3 x1 x2) (H : ∀ x1 x2, p1 x1 x2 → p2 x1 x2 → p3 x1 x2 → G) : G := by
  obtain ⟨x1, x2, h1, h2, h3⟩ := h; exact H x1 x2 h1 h2 h3
theorem ob1_5 {α1 : Type} {p1 : α1 → Prop} {p2 : α1 → Prop} {p3 : α1 → Prop} {p4 : α1 → Prop} {p5 : α1 → Prop} {G : Prop} (h : ∃ x1, p1 x1 ∧ p2 x1 ∧ p3 x1 ∧ p4 x1 ∧ p5 x1) (H : ∀ x1, p1 x1 → p2 x1 → p3 x1 → p4 x1 → p5 x1 → G) : G := by
  obtain ⟨x1, h1, h2, h3, h4, h5⟩ := h; exact H x1 h1 h2 h3 h4 h5
theorem obv2_v {α1 α2 : Type} {β : Type} {fv : α1 → α2 → β} {G : β → Prop} (H : ∀ x1 x2, G (fv x1 x2)) : ∀ v, (∃ x1 x2, v = fv x1 x2) → G v := by
  rintro v ⟨x1, x2, e1⟩; subst e1; exact H x1 x2
theorem obv5_vpp {α1 α2 α3 α4 α5 : Type} {β : Type} {fv : α1 → α2 → α3 → α4 → α5 → β} {p2 : α1 → α2 → α3 → α4 → α5 → Prop} {p3 : α1 → α2 → α3 → α4 → α5 → Prop} {G : β → Prop} (H : ∀ x1 x2 x3 x4 x5, p2 x1 x2 x3 x4 x5 → p3 x1 x2 x3 x4 x5 → G (fv x1 x2 x3 x4 x5)) : ∀ v, (∃ x1 x2 x3 x4 x5, v = fv x1 x2 x3 x4 x5 ∧ p2 x1 x2 x3 x4 x5 ∧ p3 x1 x2 x3 x4 x5) → G v := by
  rintro v ⟨x1, x2, x3, x4, x5, e1, h2, h3⟩; subst e1; exact H x1 x2 x3 x4 x5 h2 h3
theorem obv6_vpppp {α1 α2 α3 α4 α5 α6 : Type} {β : Type} {fv : α1 → α2 → α3 → α4 → α5 → α6 → β} {p2 : α1 → α2 → α3 → α4 → α5 → α6 → Prop} {p3 : α1 → α2 → α3 → α4 → α5 → α6 → Prop} {p4 : α1 → α2 → α3 → α4 → α5 → α6 → Prop} {p5 : α1 → α2 → α3 → α4 → α5 → α6 → Prop} {G : β → Prop} (H : ∀ x1 x2 x3 x4 x5 x6, p2 x1 x2 x3 x4 x5 x6 → p3 x1 x2 x3 x4 x5 x6 → p4 x1 x2 x3 x4 x5 x6 → p5 x1 x2 x3 x4 x5 x6 → G (fv x1 x2 x3 x4 x5 x6)) : ∀ v, (∃ x1 x2 x3 x4 x5 x6, v = fv x1 x2 x3 x4 x5 x6 ∧ p2 x1 x2 x3 x4 x5 x6 ∧ p3 x1 x2 x3 x4 x5 x6 ∧ p4 x1 x2 x3 x4 x5 x6 ∧ p5 x1 x2 x3 x4 x5 x6) → G v := by
  rintro v ⟨x1, x2, x3, x4, x5, x6, e1, h2, h3, h4, h5⟩; subst e1; exact H x1 x2 x3 x4 x5 x6 h2 h3 h4 h5
/-- a result with the rest of the ledger behind it -/
theorem kx_read {R : Value → Led → Prop} {led : Led} {k : Value → Led → Prop} (H : ∀ r n1, R r n1 → k r (n1 ++ led)) : ∀ r n', (∃ n1, R r n1 ∧ n' = n1 ++ led) → k r n' := fun r _ ⟨n1, h, e⟩ => e ▸ H r n1 h
theorem kx_frame {R : Value → Led → Prop} {rest : Led} {P : Led → Led → Prop} {k : Value → Led → Prop} (H : ∀ r n1, R r n1 → P n1 (n1 ++ rest) → k r (n1 ++ rest)) : ∀ r n', (∃ n1, R r n1 ∧ n' = n1 ++ rest ∧ P n1 n') → k r n' := by
  rintro r n' ⟨n1, h, e, hp⟩; subst e; exact H r n1 h hp
theorem kx_frameE {R : Value → Led → Prop} {rest : Led} {P : Led → Prop} {k : Value → Led → Prop} (H : ∀ n', ∀ r n1, R r n1 → n' = n1 ++ rest → P n' → k r n') : ∀ r n', (∃ n1, R r n1 ∧ n' = n1 ++ rest ∧ P n') → k r n' := fun r n' ⟨n1, h, e, hp⟩ => H n' r n1 h e hp
theorem kx_n1 {α β γ : Type} {news : γ} {f : α → β} {k : β → γ → Prop} (H : ∀ t, k (f t) news) : ∀ r n', (n' = news ∧ ∃ t, r = f t) → k r n' := by
  rintro r n' ⟨e, t, e2⟩; subst e; subst e2; exact H t
theorem jx_uX {α δ β γ : Type} {f : α → β} {fn : δ → γ} {P : δ → Prop} {k : β → γ → Prop} (H : ∀ u X, P X → k (f u) (fn X)) : ∀ m nw, ((∃ u, m = f u) ∧ ∃ X, nw = fn X ∧ P X) → k m nw := by
  rintro m nw ⟨⟨u, e⟩, X, e2, h⟩; subst e; subst e2; exact H u X h

/-- what is read only: it stands in the heap, and off the ledger -/
def ROk (ro : Led) (h : Heap) (news : Led) : Prop := ∀ p ∈ ro, h.get? p.1 = some p.2 ∧ ∀ q ∈ news, q.1 ≠ p.1
def ROn (ro : Led) (h : Heap) : Prop := ∀ p ∈ ro, h.get? p.1 = some p.2
abbrev TopH (mean : ExcName → Option Value) (mg mb : Str → Option Value) (h : Heap) : Prop := Top topProg (looseW hd.view_1 [] ++ (recsOf hd.view_1).map (·.name) ++ (litsOf hd.view_1).map (·.1) ++ (clssOf hd.view_1 (looseW hd.view_1 [])).map (·.name)) mean mg mb h

/-- all that stands off the ledger stays -/
def KeepB (h : Heap) (news : Led) (h' : Heap) : Prop := ∀ b o, h.get? b = some o → (∀ p ∈ news, p.1 ≠ b) → h'.get? b = some o
def Con (w : World) (f : Addr) (vs : List Value) (ro news : Led) (D U : Nat) (R : Value → Led → Prop) : Prop :=
  ∀ (prog : Program) (mean : ExcName → Option Value) (mg mb : Str → Option Value) (dp un : Nat) (gd : Option (List Code)) (cn : Str) (cs : Scope) (a : Addr) (ccd : Value) (cl : List (Str × Addr)) (outer : List Env) (A₀ : Around) (base h₀ : Heap) (L : Addr) (m : Str → Option Value) (s : Shared) (RR : Result → Shared → Prop),
    Below A₀ base outer h₀ → Fr h₀ L s.heap m → (hd.heap_1 w.params).In h₀ → News h₀ L s.heap news → TopH mean mg mb h₀ → cs.kind = .function → ROk ro s.heap news → dp + D < recursionLimit → un + U < cLine →
    (∀ r news' h' tk', R r news' → Fr h₀ L h' m → News h₀ L h' news' → KeepB s.heap news h' → RR (.ok (.ret r)) { s with heap := h', toks := tk' }) →
    codeAny (model prog w) (ktrTop dp un gd cn cs L a ccd cl outer) (.call (.ref f) ⟨vs, []⟩) RR s

theorem ROk.of_kept {ro news : Led} {h₀ h : Heap} {L : Addr} {m : Str → Option Value} (hr : ROn ro h₀) (F : Fr h₀ L h m) (N : News h₀ L h news) : ROk ro h news :=
  fun p hp => ⟨F.keep _ _ (hr p hp), fun q hq e => by have h1 := (N q hq).2.2; rw [e, hr p hp] at h1; cases h1⟩

theorem con_of {w : World} {f : Addr} {vs : List Value} {ro news : Led} {D U : Nat} {R : Value → Led → Prop}
    {name qual : Str} {params : Arguments} {body : List Stmt} {scope : Scope} {dV kV doc pm cdv ct oc : Value} {an od : Option Addr} {osl : Array (Option Value)} (binds lb : List (Str × Value))
    (ho : (hd.heap_1 w.params).lookup f = some ⟨oc, od, .func (fnOf name qual params body scope dV kV doc pm an cdv ct), osl⟩) (hcd : codeIn (hd.heap_1 w.params) cdv qual = true)
    (hbind : bindArgs (fnOf name qual params body scope dV kV doc pm an cdv ct) ⟨vs, []⟩ = pure binds) (hlb : binds.reverse = lb) (hloc : ∀ y ∈ binds, scope.names.lookup y.1 = some .local)
    (hcell : ∀ x ∈ scope.names, x.2 ≠ .cell) (hco : scope.isCoroutine = false) (hgen : scope.isGenerator = false) (hk : scope.kind = .function)
    (h : ∀ (prog : Program) (mean : ExcName → Option Value) (mg mb : Str → Option Value) (dp un : Nat) (gd : Option (List Code)) (outer : List Env) (A₀ : Around) (base g : Heap) (L : Addr) (s : Shared) (Q : Value → Shared → Prop),
      Below A₀ base outer g → Fr g L s.heap (fun y => lb.lookup y) → (hd.heap_1 w.params).In g → News g L s.heap news → TopH mean mg mb g → ROn ro g → (∀ p ∈ news, p.1 < L) → dp + D < recursionLimit → un + U < cLine →
      (∀ r news' h' tk' m', R r news' → Fr g L h' m' → News g L h' news' → Q r { s with heap := h', toks := tk' }) →
      wpAny (model prog w) (ktrTop dp un gd qual scope L f cdv [] outer) (execs body (envX qual scope L f cdv [])) (fun fl s' => Q (match fl with | .ret v => v | _ => .none) s') (fun _ _ => False) s) :
    Con w f vs ro news (D + 1) (U + 3) R := by
  intro prog mean mg mb dp un gd cn cs a ccd cl outer A₀ base h₀ L m s RR B F X N T hke hro hd hu hret
  have X' := X.keeps F.keep
  obtain ⟨FG, BG, st, lv⟩ := groundX (R := RR) (A := ktrTop dp un gd cn cs L a ccd cl outer) (env := envX cn cs L a ccd cl) B F N rfl rfl hke
  refine codeAny_call_def (fd := fnX name qual params body scope [] dV kV doc pm an cdv ct) (body := body) (binds := binds) (by show dp < _; omega) (X' _ _ ho) rfl (T.nolimit.keeps F.keep) (codeRec_of X' hcd) rfl (BindsTo.of_eq hbind) hcell hloc (fun h₁ hns hk₁ => ?_) hco hgen hk
  have rog : ROn ro (hideAll s.heap (news.map (·.1))) := fun p hp => hideAll_get _ (hro p hp).1 fun hm => by
    obtain ⟨q, hq, e⟩ := List.mem_map.mp hm
    exact (hro p hp).2 q hq e
  subst hlb
  refine wpAny_mono (h prog mean mg mb (dp + 1) (un + 3) gd (envX cn cs L a ccd cl :: outer) _ base (hideAll s.heap (news.map (·.1))) s.heap.objs.size { s with heap := h₁, toks := s.toks + binds.length } (fun r s' => RR (.ok (.ret r)) s')
    BG ⟨hns, fun b o e => hk₁ b o (of_hideAll _ e), Nat.le_of_eq (hideAll_size _ _)⟩ (X.keeps fun b o e => st b o e)
    (fun p hp => ⟨hk₁ _ _ (N p hp).1, Nat.ne_of_lt (Heap.lt_size (N p hp).1), hideAll_none _ (List.mem_map_of_mem hp)⟩) (T.keeps fun b o e => st b o e) rog (fun p hp => Heap.lt_size (N p hp).1) (by omega) (by omega) ?_) (fun _ _ z => z) (fun _ _ z => z.elim)
  intro r news' h' tk' m' hR F' N'
  refine lv r _ ⟨_, m', news', F', N', fun F2 N2 => hret r news' h' tk' hR F2 N2 fun b o e hb => F'.keep _ _ (hideAll_get _ e fun hm => by
    obtain ⟨q, hq, eq⟩ := List.mem_map.mp hm
    exact hb q hq eq)⟩
/-- an object of class C at x whose own attributes are fs -/
def Inst (ro : Led) (x C : Addr) (fs : List (Str × Value)) : Prop := ∃ dx es n, (x, instObj C dx) ∈ ro ∧ (dx, dictOf es n) ∈ ro ∧ ∀ nm, getL nm es = some (fs.lookup nm)
def IsLst (ro : Led) (a : Addr) (vs : List Value) : Prop := ∃ n, (a, listOf vs.toArray n) ∈ ro
def IsTp (ro : Led) (a : Addr) (vs : List Value) : Prop := ∃ n, (a, ({ cls := .type "tuple", data := .seq vs.toArray n } : Obj)) ∈ ro

section
variable {ro : Led} {g h : Heap} {L a x C : Addr} {m : Str → Option Value} {vs : List Value} {fs : List (Str × Value)}
theorem IsLst.at (i : IsLst ro a vs) (hro : ROn ro g) (F : Fr g L h m) : h.IsList a vs.toArray := let ⟨_, hm⟩ := i; ⟨_, F.keep _ _ (hro _ hm), rfl, _, rfl⟩
theorem IsLst.at0 (i : IsLst ro a vs) (hro : ROn ro g) : g.IsList a vs.toArray := let ⟨_, hm⟩ := i; ⟨_, hro _ hm, rfl, _, rfl⟩
theorem IsTp.at (i : IsTp ro a vs) (hro : ROn ro g) (F : Fr g L h m) : IsTup h a vs.toArray := let ⟨_, hm⟩ := i; ⟨_, F.keep _ _ (hro _ hm), rfl, _, rfl⟩
theorem Inst.at (i : Inst ro x C fs) (hro : ROn ro g) (F : Fr g L h m) : ∃ ox es n, InstAt h x ox C (some (dictOf es n)) ∧ ∀ nm, getL nm es = some (fs.lookup nm) :=
  let ⟨_, es, n, h1, h2, h3⟩ := i; ⟨_, es, n, ⟨F.keep _ _ (hro _ h1), rfl, rfl, F.keep _ _ (hro _ h2)⟩, h3⟩
end

section
variable {prog : Program} {w : World} {A : Around} {E : Value → Shared → Prop} {s : Shared} {K : Frag} {ro : Led} {g : Heap} {L a x C : Addr} {m : Str → Option Value} {vs : List Value} {fs : List (Str × Value)} {name : Str} {v : Value}
theorem get_ro {expr : Bool} {Q : Value → Shared → Prop} {attr : Option Value} (F : Fr g L s.heap m) (X : K.In g) (hro : ROn ro g) (I : Inst ro x C fs) (hg : plainGet K C name = true) (hh : hasDictIn K C = true)
    (ha : findIn K (.ref C) name = some attr) (hn : noGet K attr = true) (hl : fs.lookup name = some v) (hv : handedIn v = true) (h : Q v { s with toks := s.toks + 1 }) :
    wpAny (model prog w) A (getAttr (.ref x) name expr) Q E s := by
  obtain ⟨ox, es, n, I', hes⟩ := I.at hro F
  exact get_own F X I' hg hh ha hn (by rw [hes, hl]) hv h
theorem meth_ro {pl : Sem Bool} {Q : Value × List Value → Shared → Prop} {f : Addr} (F : Fr g L s.heap m) (X : K.In g) (hro : ROn ro g) (I : Inst ro x C fs) (hg : plainGet K C name = true)
    (hf : findIn K (.ref C) name = some (some (.ref f))) (ht : isFn K (.ref f) = true) (hl : fs.lookup name = none) (h : Q (.ref f, [.ref x]) s) : wpAny (model prog w) A (getMethod (.ref x) name pl) Q E s := by
  obtain ⟨ox, es, n, I', hes⟩ := I.at hro F
  exact method_inst F X I' hg hf ht (by rw [hes, hl]) h
theorem item_lst {value slice : PySem.Expr} {k : Int} {u : Tok} {Q : Value → Shared → Prop} (F : Fr g L s.heap m) (hro : ROn ro g) (I : IsLst ro a vs) (h0 : 0 ≤ k) (hhi : k < 2 ^ 63) (hx : vs[k.toNat]? = some v) (h : Q v s)
    (hs : subscripted slice false (.ref a) (.int k u) = operate [.ref a, .int k u] (getItem (.ref a) (.int k u)) := by with_unfolding_all rfl) :
    wpAny (model prog w) A (subscriptTail value slice (.ref a) (.int k u)) Q E s := item_litK (I.at hro F) h0 hhi hx h hs
theorem item_tp {value slice : PySem.Expr} {k : Int} {u : Tok} {j : Nat} {Q : Value → Shared → Prop} (F : Fr g L s.heap m) (hro : ROn ro g) (I : IsTp ro a vs) (hlo : -(2 ^ 63) ≤ k) (hhi : k < 2 ^ 63) (hj : seqIndex? k vs.length = some j) (hx : vs[j]? = some v) (h : Q v s)
    (hs : subscripted slice false (.ref a) (.int k u) = operate [.ref a, .int k u] (getItem (.ref a) (.int k u)) := by with_unfolding_all rfl) :
    wpAny (model prog w) A (subscriptTail value slice (.ref a) (.int k u)) Q E s := item_tupleT (I.at hro F) hlo hhi (by simpa using hj) (by simpa using hx) h hs
theorem len_lst {Q : Value → Shared → Prop} (F : Fr g L s.heap m) (hro : ROn ro g) (I : IsLst ro a vs) (hfit : (vs.length : Int) < 2 ^ 63) (h : Q (.int (vs.length : Int) (s.toks + 1)) { s with toks := s.toks + 1 + 1 }) :
    wpAny (model prog w) A (call (.builtin "len") [.ref a]) Q E s := len_list (I.at hro F) (by simpa using hfit) (by simpa using h)
theorem len_tp {Q : Value → Shared → Prop} (F : Fr g L s.heap m) (hro : ROn ro g) (I : IsTp ro a vs) (hfit : (vs.length : Int) < 2 ^ 63) (h : Q (.int (vs.length : Int) (s.toks + 1)) { s with toks := s.toks + 1 + 1 }) :
    wpAny (model prog w) A (call (.builtin "len") [.ref a]) Q E s := len_tuple (I.at hro F) (by simpa using hfit) (by simpa using h)
end
theorem con_call {w : World} {f : Addr} {vs : List Value} {ro news : Led} {D U : Nat} {R : Value → Led → Prop} (c : Con w f vs ro news D U R)
    {prog : Program} {mean : ExcName → Option Value} {mg mb : Str → Option Value} {dp un : Nat} {gd : Option (List Code)} {cn : Str} {cs : Scope} {a : Addr} {ccd : Value} {cl : List (Str × Addr)} {outer : List Env} {A₀ : Around} {base h₀ : Heap} {L : Addr} {m : Str → Option Value} {s : Shared} {Q E : Value → Shared → Prop}
    (B : Below A₀ base outer h₀) (F : Fr h₀ L s.heap m) (X : (hd.heap_1 w.params).In h₀) (N : News h₀ L s.heap news) (T : TopH mean mg mb h₀) (hro : ROn ro h₀) (hk : cs.kind = .function) (hd : dp + D < recursionLimit) (hu : un + U < cLine)
    (h : ∀ r news' h' tk', R r news' → Fr h₀ L h' m → News h₀ L h' news' → KeepB s.heap news h' → Q r { s with heap := h', toks := tk' }) :
    wpAny (model prog w) (ktrTop dp un gd cn cs L a ccd cl outer) (call (.ref f) vs) Q E s :=
  wpAny_call (c prog mean mg mb dp un gd cn cs a ccd cl outer A₀ base h₀ L m s _ B F X N T hk (ROk.of_kept hro F N) hd hu fun r news' h' tk' hR F' N' KB => h r news' h' tk' hR F' N' KB)

theorem con_callX {w : World} {f : Addr} {vs : List Value} {ro news : Led} {D U : Nat} {R : Value → Led → Prop} (c : Con w f vs ro news D U R)
    {prog : Program} {mean : ExcName → Option Value} {mg mb : Str → Option Value} {dp un : Nat} {gd : Option (List Code)} {cn : Str} {cs : Scope} {a : Addr} {ccd : Value} {cl : List (Str × Addr)} {outer : List Env} {A₀ : Around} {base h₀ : Heap} {L : Addr} {m : Str → Option Value} {s : Shared} {Q E : Value → Shared → Prop}
    (B : Below A₀ base outer h₀) (F : Fr h₀ L s.heap m) (X : (hd.heap_1 w.params).In h₀) (N : News h₀ L s.heap news) (T : TopH mean mg mb h₀) (hro : ROn ro h₀) (hk : cs.kind = .function) (hd : dp + D < recursionLimit) (hu : un + U < cLine)
    (h : ∀ h' tk', ∀ r news', R r news' → Fr h₀ L h' m → News h₀ L h' news' → KeepB s.heap news h' → Q r { s with heap := h', toks := tk' }) :
    wpAny (model prog w) (ktrTop dp un gd cn cs L a ccd cl outer) (call (.ref f) vs) Q E s :=
  con_call c B F X N T hro hk hd hu fun r n' h' tk' hR => h h' tk' r n' hR
theorem con_callZ {w : World} {f : Addr} {vs : List Value} {ro news : Led} {D U : Nat} {R : Value → Led → Prop} (c : Con w f vs ro news D U R)
    {prog : Program} {mean : ExcName → Option Value} {mg mb : Str → Option Value} {dp un : Nat} {gd : Option (List Code)} {cn : Str} {cs : Scope} {a : Addr} {ccd : Value} {cl : List (Str × Addr)} {outer : List Env} {A₀ : Around} {base h₀ : Heap} {L : Addr} {m : Str → Option Value} {s : Shared} {Q E : Value → Shared → Prop}
    (B : Below A₀ base outer h₀) (F : Fr h₀ L s.heap m) (X : (hd.heap_1 w.params).In h₀) (N : News h₀ L s.heap news) (T : TopH mean mg mb h₀) (hro : ROn ro h₀) (hk : cs.kind = .function) (hd : dp + D < recursionLimit) (hu : un + U < cLine)
    (h : ∀ h' tk', ∀ r news', R r news' → Fr h₀ L h' m → News h₀ L h' news' → Q r { s with heap := h', toks := tk' }) :
    wpAny (model prog w) (ktrTop dp un gd cn cs L a ccd cl outer) (call (.ref f) vs) Q E s :=
  con_call c B F X N T hro hk hd hu fun r n' h' tk' hR F' N' _ => h h' tk' r n' hR F' N'
theorem room {a b d n : Nat} (h : d + a < n) (e : Nat.ble b a = true) : d + b < n := Nat.lt_of_le_of_lt (Nat.add_le_add_left (Nat.le_of_ble_eq_true e) d) h
theorem at_call (n : Addr) {M : Model} {A : Around} {E : Value → Shared → Prop} {s : Shared} {vs : List Value} {Q : Value → Shared → Prop} (h : wpAny M A (PySem.call (.ref n) vs) Q E s) : wpAny M A (PySem.call (.ref n) vs) Q E s := h
theorem at_item {M : Model} {A : Around} {E : Value → Shared → Prop} {s : Shared} {x y : PySem.Expr} {a : Addr} {i : Int} {t : Tok} {Q : Value → Shared → Prop} (h : wpAny M A (subscriptTail x y (.ref a) (.int i t)) Q E s) : wpAny M A (subscriptTail x y (.ref a) (.int i t)) Q E s := h
theorem at_len {M : Model} {A : Around} {E : Value → Shared → Prop} {s : Shared} {a : Addr} {Q : Value → Shared → Prop} (h : wpAny M A (PySem.call (.builtin "len") [.ref a]) Q E s) : wpAny M A (PySem.call (.builtin "len") [.ref a]) Q E s := h
theorem at_list {M : Model} {A : Around} {E : Value → Shared → Prop} {s : Shared} {a : Addr} {Q : Value → Shared → Prop} (h : wpAny M A (PySem.call (.type "list") [.ref a]) Q E s) : wpAny M A (PySem.call (.type "list") [.ref a]) Q E s := h
/-- a place where the walk waits -/
def Stop (P : Prop) : Prop := P
theorem Stop.mk {P : Prop} (h : Stop P) : P := h
theorem Stop.out {P : Prop} (h : P) : Stop P := h
/-- the functions at whose calls the walk waits -/
def stopAt (a : Addr) : Bool := [204, 225, 246, 295, 313, 320, 327, 338, 381, 395, 402, 409, 416, 423, 430, 437, 444, 545, 578, 606, 617, 624, 631, 638, 645, 659, 666].contains a
theorem stop_call {M : Model} {A : Around} {E : Value → Shared → Prop} {s : Shared} {a : Addr} {vs : List Value} {Q : Value → Shared → Prop} (ha : stopAt a = true) (h : Stop (wpAny M A (PySem.call (.ref a) vs) Q E s)) : wpAny M A (PySem.call (.ref a) vs) Q E s := h
local macro_rules | `(tactic| walk_at "call ref") => `(tactic| (k_here; with_reducible refine stop_call (by decide) ?_))
local macro_rules | `(tactic| walk_at "own stop") => `(tactic| (k_here; refine Stop.mk ?_))
local macro_rules | `(tactic| walk_at "own i") => `(tactic| ((case k5 => k_is); (case k6 => k_is); (case k7 => k_is); (case k8 => k_is)))
local macro_rules | `(tactic| walk_at "own a") => `(tactic| ((case k1 => k_asm); (case k2 => assumption); (case k3 => assumption)))
local macro_rules | `(tactic| walk_at "own b") => `(tactic| ((case k1 => k_asm); (case k2 => k_asm); (case k3 => assumption); (case k4 => assumption)))
local macro_rules | `(tactic| walk_at "own d") => `(tactic| ((case k1 => k_asm); (case k2 => assumption); (case k3 => k_asm); (case k4 => assumption)))
local macro_rules | `(tactic| walk_at "own m") => `(tactic| ((case k1 => k_asm); (case k2 => k_mem)))
local macro_rules | `(tactic| walk_at "own u") => `(tactic| (dsimp only [ktrTop]; omega))
local macro_rules | `(tactic| walk_at "own r") => `(tactic| first | exact room (by assumption) (by rfl) | omega)
local macro_rules | `(tactic| walk_at "own f") => `(tactic| try k_fold)
local macro_rules | `(tactic| walk_at "own n1") => `(tactic| (intro _ _; refine kx_n1 ?_; intros))
local macro_rules | `(tactic| walk_at "own nr") => `(tactic| (intro _ _; refine kx0_nr ?_; intros))
local macro_rules | `(tactic| walk_at "own l3") => `(tactic| (intro _ _; refine kx3_rnppp ?_; intros))
local macro_rules | `(tactic| walk_at "own c") => `(tactic| ((try (case kt => assumption)); (try (case kd => assumption)); (try (case kn => assumption)); (try (case km => assumption)); (try (case ko => assumption)); (try (case kp => assumption)); (try (case kq => assumption)); (try (case kr => assumption)); (case k1 => k_asm); (case k2 => k_asm); (case k3 => k_asm); (case k4 => k_asm); (case k5 => assumption); (case k6 => assumption); (case k8 => rfl); (case k9 => walk_at "own r"); (case kA => walk_at "own r"); k_whole))

theorem fin_bool {g h' : Heap} {L : Addr} {s : Shared} {Q : Value → Shared → Prop} {news nw : Led} {x y : Bool} {tk' : Nat} {m' : Str → Option Value}
    (hret : ∀ (r : Value) (news' : Led) (h' : Heap) (tk' : Nat) (m' : Str → Option Value), news' = news ∧ r = Value.bool x → Fr g L h' m' → News g L h' news' → Q r { s with heap := h', toks := tk' })
    (e : y = x) (F : Fr g L h' m') (N : News g L h' nw) (hs : ∀ p ∈ news, p ∈ nw) : Q (.bool y) { s with heap := h', toks := tk' } := hret _ _ _ _ _ ⟨rfl, by rw [e]⟩ F (cb_drop N hs)

theorem sub0 {l : Led} : ∀ p ∈ l, p ∈ l := fun _ h => h
theorem sub1 {a : Addr × Obj} {l : Led} : ∀ p ∈ l, p ∈ a :: l := fun _ h => .tail _ h
theorem sub12 {a b : Addr × Obj} {l : Led} : ∀ p ∈ a :: l, p ∈ a :: b :: l := fun p h => by
  cases h with
  | head => exact .head _
  | tail _ h => exact .tail _ (.tail _ h)
theorem subc {a : Addr × Obj} {l l' : Led} (h : ∀ p ∈ l, p ∈ l') : ∀ p ∈ a :: l, p ∈ a :: l' := fun p hp => by
  cases hp with
  | head => exact .head _
  | tail _ hp => exact .tail _ (h p hp)
theorem sub_swap {a b : Addr × Obj} {l : Led} : ∀ p ∈ a :: b :: l, p ∈ b :: a :: l := fun p hp => by
  cases hp with
  | head => exact .tail _ (.head _)
  | tail _ hp => cases hp with
    | head => exact .head _
    | tail _ hp => exact .tail _ (.tail _ hp)

theorem Con.mono {w : World} {f : Addr} {vs : List Value} {ro news : Led} {D U : Nat} {R R' : Value → Led → Prop} (c : Con w f vs ro news D U R) (h : ∀ r n, R r n → R' r n) : Con w f vs ro news D U R' :=
  fun prog mean mg mb dp un gd cn cs a ccd cl outer A₀ base h₀ L m s RR B F X N T hk hro hd hu hret => c prog mean mg mb dp un gd cn cs a ccd cl outer A₀ base h₀ L m s RR B F X N T hk hro hd hu fun r n' h' tk' hR => hret r n' h' tk' (h r n' hR)

structure NodeD where
  kind : Str
  name : Str
  uri : Str
  loc : Str
  value : Str
  parent : Option Int
  children : List Int
  attrs : List Int
def IsPar (v : Value) : Option Int → Prop
  | none => v = .none
  | some k => ∃ t, v = .int k t
def RowIn (ro : Led) (a : Addr) (d : NodeD) : Prop := ∃ (t1 t2 t3 t4 t5 : Tok) (pv : Value) (c at' ns : Addr) (cs as : List Value),
  Inst ro a 356 [(Str.ofString "kind", .str d.kind t1), (Str.ofString "name", .str d.name t2), (Str.ofString "uri", .str d.uri t3), (Str.ofString "local", .str d.loc t4), (Str.ofString "value", .str d.value t5), (Str.ofString "parent", pv), (Str.ofString "children", .ref c), (Str.ofString "attributes", .ref at'), (Str.ofString "namespaces", .ref ns)] ∧
  IsPar pv d.parent ∧ handedIn pv = true ∧ IsLst ro c cs ∧ IntsAre cs d.children ∧ IsLst ro at' as ∧ IntsAre as d.attrs ∧ cs.length ≤ 100 ∧ as.length ≤ 100
def TreeIn (ro : Led) (T : Addr) (dl : List NodeD) : Prop := ∃ (R : Addr) (refs : List Value),
  Inst ro T 545 [(Str.ofString "rows", .ref R)] ∧ IsLst ro R refs ∧ refs.length = dl.length ∧ dl.length < 2 ^ 20 ∧ ∀ (i : Nat) (d : NodeD), dl[i]? = some d → ∃ a : Addr, refs[i]? = some (Value.ref a) ∧ RowIn ro a d

local macro_rules | `(tactic| walk_at "ite") => `(tactic| (k_closed; k_dflt (first | refine ite_pos (by decide) ?_ | refine ite_neg (by decide) ?_)))
local macro_rules | `(tactic| walk_at "eval Name") => `(tactic| (k_here; k_dflt (first | (refine' nameX_L ?F ?v ?_ ?a ?b; (case F => k_asm); (case a => rfl); (case b => rfl); (case v => rfl); k_whole) | (refine' nameX_K ?F ?X ?T ?e ?_ ?a ?b; (case F => k_asm); (case X => k_asm); (case T => k_asm); (case a => rfl); (case b => rfl); (case e => k_is); k_whole) | (refine' nameX_B ?F ?X ?T ?e ?v ?n ?_ ?a ?b; (case F => k_asm); (case X => k_asm); (case T => k_asm); (case a => rfl); (case b => rfl); (case e => k_is); (case v => boot_fast); (case n => decide); k_whole))))
local macro_rules | `(tactic| walk_at "getAttr ref") => `(tactic| (k_here; k_dflt (refine' get_ro ?k1 ?k2 ?k3 ?k4 ?k5 ?k6 ?k7 ?k8 ?k9 ?k10 ?_; walk_at "own b"; walk_at "own i"; (case k9 => rfl); (case k10 => first | k_handed | assumption); k_whole)))
local macro_rules | `(tactic| walk_at "getMethod ref") => `(tactic| (k_here; k_dflt (refine' meth_ro ?k1 ?k2 ?k3 ?k4 ?k5 ?k6 ?k7 ?k8 ?_; walk_at "own b"; (case k5 => k_is); (case k6 => k_is); (case k7 => k_is); (case k8 => rfl); k_whole)))

local macro_rules | `(tactic| walk_at "call builtin:len") => `(tactic| (k_here; with_reducible refine at_len ?_; k_dflt ((first | refine' len_lst ?k1 ?k2 ?k3 ?k4 ?_ | refine' len_tp ?k1 ?k2 ?k3 ?k4 ?_); walk_at "own a"; (case k4 => first | omega | (simp only [List.length_cons, List.length_nil]; omega)); k_whole)))
local macro_rules | `(tactic| walk_at "subscriptTail") => `(tactic| (k_here; with_reducible refine at_item ?_; k_dflt ((with_unfolding_all refine' item_lst ?k1 ?k2 ?k3 ?k4 ?k5 ?k6 ?_ ?k7); walk_at "own a"; (case k4 => omega); (case k5 => omega); (case k6 => first | assumption | rfl); (case k7 => with_unfolding_all rfl); k_whole)))
local macro_rules | `(tactic| walk_at "subscriptTail") => `(tactic| (k_here; with_reducible refine at_item ?_; k_dflt ((with_unfolding_all refine' item_tp ?k1 ?k2 ?k3 ?k4 ?k5 ?k6 ?k7 ?_ ?k8); walk_at "own a"; (case k4 => decide); (case k5 => decide); (case k6 => rfl); (case k7 => rfl); (case k8 => with_unfolding_all rfl); k_whole)))

local macro_rules | `(tactic| walk_at "subscriptTail Name Constant ref int") => `(tactic| (k_here; with_reducible refine at_item ?_; k_dflt ((with_unfolding_all refine' item_tp ?k1 ?k2 ?k3 ?k4 ?k5 ?k6 ?k7 ?_ ?k8); walk_at "own a"; (case k4 => decide); (case k5 => decide); (case k6 => rfl); (case k7 => rfl); (case k8 => with_unfolding_all rfl); k_whole)))
def pvK : Option NameKind → Bool → Option Value → Nat → Option (Value × Nat)
  | some .local, false, some v, tk => some (v, tk)
  | _, _, _, _ => none
def pvC : Const → Nat → Option (Value × Nat)
  | .int i, tk => some (.int i tk, tk + 1)
  | .str x, tk => some (.str x tk, tk + 1)
  | .bool b, tk => some (.bool b, tk)
  | .none, tk => some (.none, tk)
  | _, _ => none
/-- the value of a plain expression: a local name or a written constant; and the count of tokens behind it -/
def pv (env : Env) (m : Str → Option Value) : PySem.Expr → Nat → Option (Value × Nat)
  | .Name x _, tk => pvK (env.kindOf x) (x == ("__debug__" : Str)) (m x) tk
  | .Constant c _ _, tk => pvC c tk
  | _, _ => none
noncomputable def pvs (env : Env) (m : Str → Option Value) : List PySem.Expr → Nat → Option (List Value × Nat)
  | [], tk => some ([], tk)
  | e :: r, tk => match pv env m e tk with
    | some (v, t1) => match pvs env m r t1 with
      | some (vs, t2) => some (v :: vs, t2)
      | none => none
    | none => none
theorem pvK_some {k : Option NameKind} {b : Bool} {o : Option Value} {tk : Nat} {p : Value × Nat} (h : pvK k b o tk = some p) : k = some .local ∧ b = false ∧ o = some p.1 ∧ tk = p.2 := by
  cases b with
  | true => cases k with
    | none => cases h
    | some k => cases k <;> cases h
  | false => cases o with
    | none => cases k with
      | none => cases h
      | some k => cases k <;> cases h
    | some v => cases k with
      | none => cases h
      | some k => cases k <;> first | (cases h; exact ⟨rfl, rfl, rfl, rfl⟩) | cases h
theorem pv_some {env : Env} {m : Str → Option Value} {e : PySem.Expr} {tk : Nat} {p : Value × Nat} (h : pv env m e tk = some p) : (∃ x pos, e = .Name x pos ∧ pvK (env.kindOf x) (x == ("__debug__" : Str)) (m x) tk = some p) ∨ ∃ c k pos, e = .Constant c k pos ∧ pvC c tk = some p := by
  cases e with
  | Name x pos => exact .inl ⟨x, pos, rfl, h⟩
  | Constant c k pos => exact .inr ⟨c, k, pos, rfl, h⟩
  | _ => cases h
theorem pvC_eval {M : Model} {A : Around} {E : Value → Shared → Prop} {env : Env} {h : Heap} {gs : Array GenState} {dr : Drawn} {os : OsState} {tk k : Nat} {pos : Pos} {c : Const} {p : Value × Nat} {Q : Value → Shared → Prop} (hv : pvC c tk = some p) (hq : Q p.1 ⟨h, gs, dr, p.2, os⟩) : wpAny M A (eval (.Constant c k pos) env) Q E ⟨h, gs, dr, tk, os⟩ := by
  cases c with
  | int i => cases hv; exact wpAny_Constant_int hq
  | str x => cases hv; exact PySem.Calls.Constant_str hq
  | bool b => cases hv; exact Constant_bool hq
  | none => cases hv; exact Constant_none hq
  | _ => cases hv
section
variable {M : Model} {A : Around} {E : Value → Shared → Prop} {g h : Heap} {L a : Addr} {m : Str → Option Value} {cn : Str} {cs : Scope} {ccd : Value} {cl : List (Str × Addr)} {gs : Array GenState} {dr : Drawn} {os : OsState} {tk t1 t2 : Nat}
theorem pv_eval {e : PySem.Expr} {v : Value} {Q : Value → Shared → Prop} (F : Fr g L h m) (hk : cs.kind = .function) (hv : pv (envX cn cs L a ccd cl) m e tk = some (v, t1)) (hq : Q v ⟨h, gs, dr, t1, os⟩) :
    wpAny M A (eval e (envX cn cs L a ccd cl)) Q E ⟨h, gs, dr, tk, os⟩ := by
  rcases pv_some hv with ⟨x, pos, e, h2⟩ | ⟨c, k, pos, e, h2⟩
  · subst e
    obtain ⟨hx, hd, hm, e⟩ := pvK_some h2
    cases e
    exact nameX_L F hm hq hk hx hd
  · subst e
    exact pvC_eval h2 hq
theorem starEach_pv {e : PySem.Expr} {r : List PySem.Expr} {env : Env} {v : Value × Nat} (hv : pv env m e tk = some v) : starEach (e :: r) env = (false, eval e env) :: starEach r env := by
  rcases pv_some hv with ⟨x, pos, e, _⟩ | ⟨c, k, pos, e, _⟩ <;> (subst e; rfl)
theorem args_pure {pos : Pos} : ∀ {es : List PySem.Expr} {tk : Nat} {vs : List Value} {Q : List Value → Shared → Prop} (_F : Fr g L h m) (_hk : cs.kind = .function) (_hv : pvs (envX cn cs L a ccd cl) m es tk = some (vs, t2)) (_hq : Q vs ⟨h, gs, dr, t2, os⟩),
    wpAny M A (spliced (backTo pos (starEach es (envX cn cs L a ccd cl)))) Q E ⟨h, gs, dr, tk, os⟩
  | [], _, _, _, _, _, hv, hq => by cases hv; exact args_nil hq
  | e :: r, tk, vs, Q, F, hk, hv, hq => by
    have hv' : (match pv (envX cn cs L a ccd cl) m e tk with
      | some (v, t1) => match pvs (envX cn cs L a ccd cl) m r t1 with
        | some (vs, t2) => some (v :: vs, t2)
        | none => none
      | none => none) = some (vs, t2) := hv
    cases h1 : pv (envX cn cs L a ccd cl) m e tk with
    | none => rw [h1] at hv'; cases hv'
    | some p =>
      obtain ⟨v, t1⟩ := p
      rw [h1] at hv'
      dsimp only at hv'
      cases h2 : pvs (envX cn cs L a ccd cl) m r t1 with
      | none => rw [h2] at hv'; cases hv'
      | some q =>
        obtain ⟨ws, t3⟩ := q
        rw [h2] at hv'
        cases hv'
        exact args_cons (pv_eval F hk h1 (args_pure F hk h2 hq)) (starEach_pv h1)
theorem cmp_pure {l r : PySem.Expr} {op : CmpOp} {pos : Pos} {whole : Sem Value} {v1 v2 : Value} {Q : Bool → Shared → Prop} (F : Fr g L h m) (hk : cs.kind = .function) (h1 : pv (envX cn cs L a ccd cl) m l tk = some (v1, t1)) (h2 : pv (envX cn cs L a ccd cl) m r t1 = some (v2, t2)) (hm : behindInMarks op r = false)
    (hq : wpAny M A (compareOp op v1 v2) (fun c s₃ => wpAny M A (truthy c) Q E s₃) E ⟨h, gs, dr, t2, os⟩) : wpAny M A (isTrue (.Compare l [op] [r] pos) (envX cn cs L a ccd cl) whole) Q E ⟨h, gs, dr, tk, os⟩ :=
  wpAny_isTrue_Compare1 (pv_eval F hk h1 (pv_eval F hk h2 hq)) hm
theorem cmpv_pure {l r : PySem.Expr} {op : CmpOp} {pos : Pos} {v1 v2 : Value} {Q : Value → Shared → Prop} (F : Fr g L h m) (hk : cs.kind = .function) (h1 : pv (envX cn cs L a ccd cl) m l tk = some (v1, t1)) (h2 : pv (envX cn cs L a ccd cl) m r t1 = some (v2, t2)) (hm : behindInMarks op r = false)
    (hq : wpAny M A (compareOp op v1 v2) Q E ⟨h, gs, dr, t2, os⟩) : wpAny M A (eval (.Compare l [op] [r] pos) (envX cn cs L a ccd cl)) Q E ⟨h, gs, dr, tk, os⟩ :=
  wpAny_Compare1 (pv_eval F hk h1 (pv_eval F hk h2 hq)) hm
theorem bin_pure {l r : PySem.Expr} {op : Operator} {pos : Pos} {v1 v2 : Value} {Q : Value → Shared → Prop} (F : Fr g L h m) (hk : cs.kind = .function) (h1 : pv (envX cn cs L a ccd cl) m l tk = some (v1, t1)) (h2 : pv (envX cn cs L a ccd cl) m r t1 = some (v2, t2))
    (hq : wpAny M A (binaryOp op v1 v2) Q E ⟨h, gs, dr, t2, os⟩) : wpAny M A (eval (.BinOp l op r pos) (envX cn cs L a ccd cl)) Q E ⟨h, gs, dr, tk, os⟩ :=
  wpAny_BinOp (pv_eval F hk h1 (pv_eval F hk h2 hq))
theorem sub_pure {l r : PySem.Expr} {pos : Pos} {v1 v2 : Value} {Q : Value → Shared → Prop} (F : Fr g L h m) (hk : cs.kind = .function) (h1 : pv (envX cn cs L a ccd cl) m l tk = some (v1, t1)) (h2 : pv (envX cn cs L a ccd cl) m r t1 = some (v2, t2))
    (hq : wpAny M A (subscriptTail l r v1 v2) Q E ⟨h, gs, dr, t2, os⟩) : wpAny M A (eval (.Subscript l r pos) (envX cn cs L a ccd cl)) Q E ⟨h, gs, dr, tk, os⟩ :=
  Subscript_ (pv_eval F hk h1 (pv_eval F hk h2 hq))
theorem ret_pure {e : PySem.Expr} {pos : Pos} {v : Value} {Q : Flow → Shared → Prop} (F : Fr g L h m) (hk : cs.kind = .function) (h1 : pv (envX cn cs L a ccd cl) m e tk = some (v, t1)) (hq : Q (.ret v) ⟨h, gs, dr, t1, os⟩) : wpAny M A (exec (.Return (some e) pos) (envX cn cs L a ccd cl)) Q E ⟨h, gs, dr, tk, os⟩ :=
  wpAny_Return_some (pv_eval F hk h1 hq)
end
local macro_rules | `(tactic| walk_at "own p") => `(tactic| ((case F => k_asm); (case k => rfl); (case v => rfl)))
local macro_rules | `(tactic| walk_at "own q") => `(tactic| ((case F => k_asm); (case k => rfl); (case v => rfl); (case w => rfl)))
local macro_rules | `(tactic| walk_at "spliced") => `(tactic| (k_here; k_dflt (refine' args_pure ?F ?k ?v ?_; walk_at "own p"; k_whole); (try dsimp only [List.cons_append, List.nil_append])))
local macro_rules | `(tactic| walk_at "isTrue Compare") => `(tactic| (k_here; k_dflt (refine' cmp_pure ?F ?k ?v ?w (by rfl) ?_; walk_at "own q"; k_whole)))
local macro_rules | `(tactic| walk_at "eval Compare") => `(tactic| (k_here; k_dflt (refine' cmpv_pure ?F ?k ?v ?w (by rfl) ?_; walk_at "own q"; k_whole)))
local macro_rules | `(tactic| walk_at "eval BinOp") => `(tactic| (k_here; k_dflt (refine' bin_pure ?F ?k ?v ?w ?_; walk_at "own q"; k_whole)))
local macro_rules | `(tactic| walk_at "eval Subscript") => `(tactic| (k_here; k_dflt (refine' sub_pure ?F ?k ?v ?w ?_; walk_at "own q"; k_whole)))
local macro_rules | `(tactic| walk_at "exec Return some") => `(tactic| (k_here; k_dflt (refine' ret_pure ?F ?k ?v ?_; walk_at "own p"; k_whole)))
theorem row_con (w : World) (T : Addr) (dl : List NodeD) (k : Nat) (d : NodeD) (tk : Tok) (ro news : Led) (hT : TreeIn ro T dl) (hd : dl[k]? = some d) :
    Con w 388 [.ref T, .int (k : Int) tk] ro news 1 16 (fun r n' => n' = news ∧ ∃ a : Addr, r = .ref a ∧ RowIn ro a d) := by
  obtain ⟨R, refs, iT, iR, hlen, hsm, hrows⟩ := hT
  obtain ⟨a, ha, hrow⟩ := hrows k d hd
  have hkl : k < refs.length := by rw [hlen]; exact (List.getElem?_eq_some_iff.mp hd).1
  have ha' : refs[((k : Int)).toNat]? = some (Value.ref a) := by simpa using ha
  refine con_of [(Str.ofString "self", .ref T), (Str.ofString "node", .int (k : Int) tk)] [(Str.ofString "node", .int (k : Int) tk), (Str.ofString "self", .ref T)] (by k_is) (by k_is) rfl rfl (locs rfl) (by decide) rfl rfl rfl ?_
  intro prog mean mg mb dp un gd outer A₀ base g L s Q B F X N T hro hlt hd hu hret
  k_steps
  all_goals ((try dsimp only); exact hret _ _ _ _ _ ⟨rfl, a, rfl, hrow⟩ (by k_asm) (by k_asm))

theorem rowIn_k {ro : Led} {a : Addr} {d : NodeD} {G : Prop} (h : RowIn ro a d) (H : ∀ (t1 t2 t3 t4 t5 : Tok) (pv : Value) (c at' ns : Addr) (cs as : List Value),
    Inst ro a 356 [(Str.ofString "kind", .str d.kind t1), (Str.ofString "name", .str d.name t2), (Str.ofString "uri", .str d.uri t3), (Str.ofString "local", .str d.loc t4), (Str.ofString "value", .str d.value t5), (Str.ofString "parent", pv), (Str.ofString "children", .ref c), (Str.ofString "attributes", .ref at'), (Str.ofString "namespaces", .ref ns)] →
    IsPar pv d.parent → handedIn pv = true → IsLst ro c cs → IntsAre cs d.children → IsLst ro at' as → IntsAre as d.attrs → cs.length ≤ 100 → as.length ≤ 100 → G) : G := by
  obtain ⟨t1, t2, t3, t4, t5, pv, c, at', ns, cs, as, h1, h2, h3, h4, h5, h6, h7, h8, h9⟩ := h
  exact H t1 t2 t3 t4 t5 pv c at' ns cs as h1 h2 h3 h4 h5 h6 h7 h8 h9
theorem kx_row {news ro : Led} {d : NodeD} {k : Value → Led → Prop} (H : ∀ (a : Addr) (t1 t2 t3 t4 t5 : Tok) (pv : Value) (c at' ns : Addr) (cs as : List Value),
    Inst ro a 356 [(Str.ofString "kind", .str d.kind t1), (Str.ofString "name", .str d.name t2), (Str.ofString "uri", .str d.uri t3), (Str.ofString "local", .str d.loc t4), (Str.ofString "value", .str d.value t5), (Str.ofString "parent", pv), (Str.ofString "children", .ref c), (Str.ofString "attributes", .ref at'), (Str.ofString "namespaces", .ref ns)] →
    IsPar pv d.parent → handedIn pv = true → IsLst ro c cs → IntsAre cs d.children → IsLst ro at' as → IntsAre as d.attrs → cs.length ≤ 100 → as.length ≤ 100 → k (.ref a) news) : ∀ r n', (n' = news ∧ ∃ a : Addr, r = .ref a ∧ RowIn ro a d) → k r n' := by
  rintro r n' ⟨e1, a, e2, h⟩; subst e1; subst e2; exact rowIn_k h (H a)
local macro_rules | `(tactic| walk_at "call ref") => `(tactic| (with_reducible refine at_call 388 ?_; walk_at "own f"; k_dflt ((refine' con_callZ (row_con _ _ _ _ _ _ _ _ ?kt ?kd) ?k1 ?k2 ?k3 ?k4 ?k5 ?k6 ?k8 ?k9 ?kA ?_); walk_at "own c"); intro _ _; refine kx_row ?_; intros))

theorem kind_con (w : World) (T : Addr) (dl : List NodeD) (k : Nat) (d : NodeD) (tk : Tok) (ro news : Led) (hT : TreeIn ro T dl) (hd : dl[k]? = some d) :
    Con w 465 [.ref T, .int (k : Int) tk] ro news 2 24 (fun r n' => n' = news ∧ ∃ t, r = .str d.kind t) := by
  have hT' := hT
  obtain ⟨R, refs, iT, iR, -, -, -⟩ := hT'
  refine con_of [(Str.ofString "self", .ref T), (Str.ofString "node", .int (k : Int) tk)] [(Str.ofString "node", .int (k : Int) tk), (Str.ofString "self", .ref T)] (by k_is) (by k_is) rfl rfl (locs rfl) (by decide) rfl rfl rfl ?_
  intro prog mean mg mb dp un gd outer A₀ base g L s Q B F X N T hro hlt hd hu hret
  k_steps
  all_goals ((try dsimp only); exact hret _ _ _ _ _ ⟨rfl, _, rfl⟩ (by k_asm) (by k_asm))

theorem name_con (w : World) (T : Addr) (dl : List NodeD) (k : Nat) (d : NodeD) (tk : Tok) (ro news : Led) (hT : TreeIn ro T dl) (hd : dl[k]? = some d) :
    Con w 472 [.ref T, .int (k : Int) tk] ro news 2 24 (fun r n' => n' = news ∧ ∃ t, r = .str d.name t) := by
  have hT' := hT
  obtain ⟨R, refs, iT, iR, -, -, -⟩ := hT'
  refine con_of [(Str.ofString "self", .ref T), (Str.ofString "node", .int (k : Int) tk)] [(Str.ofString "node", .int (k : Int) tk), (Str.ofString "self", .ref T)] (by k_is) (by k_is) rfl rfl (locs rfl) (by decide) rfl rfl rfl ?_
  intro prog mean mg mb dp un gd outer A₀ base g L s Q B F X N T hro hlt hd hu hret
  k_steps
  all_goals ((try dsimp only); exact hret _ _ _ _ _ ⟨rfl, _, rfl⟩ (by k_asm) (by k_asm))

theorem uri_con (w : World) (T : Addr) (dl : List NodeD) (k : Nat) (d : NodeD) (tk : Tok) (ro news : Led) (hT : TreeIn ro T dl) (hd : dl[k]? = some d) :
    Con w 479 [.ref T, .int (k : Int) tk] ro news 2 24 (fun r n' => n' = news ∧ ∃ t, r = .str d.uri t) := by
  have hT' := hT
  obtain ⟨R, refs, iT, iR, -, -, -⟩ := hT'
  refine con_of [(Str.ofString "self", .ref T), (Str.ofString "node", .int (k : Int) tk)] [(Str.ofString "node", .int (k : Int) tk), (Str.ofString "self", .ref T)] (by k_is) (by k_is) rfl rfl (locs rfl) (by decide) rfl rfl rfl ?_
  intro prog mean mg mb dp un gd outer A₀ base g L s Q B F X N T hro hlt hd hu hret
  k_steps
  all_goals ((try dsimp only); exact hret _ _ _ _ _ ⟨rfl, _, rfl⟩ (by k_asm) (by k_asm))

theorem local_con (w : World) (T : Addr) (dl : List NodeD) (k : Nat) (d : NodeD) (tk : Tok) (ro news : Led) (hT : TreeIn ro T dl) (hd : dl[k]? = some d) :
    Con w 486 [.ref T, .int (k : Int) tk] ro news 2 24 (fun r n' => n' = news ∧ ∃ t, r = .str d.loc t) := by
  have hT' := hT
  obtain ⟨R, refs, iT, iR, -, -, -⟩ := hT'
  refine con_of [(Str.ofString "self", .ref T), (Str.ofString "node", .int (k : Int) tk)] [(Str.ofString "node", .int (k : Int) tk), (Str.ofString "self", .ref T)] (by k_is) (by k_is) rfl rfl (locs rfl) (by decide) rfl rfl rfl ?_
  intro prog mean mg mb dp un gd outer A₀ base g L s Q B F X N T hro hlt hd hu hret
  k_steps
  all_goals ((try dsimp only); exact hret _ _ _ _ _ ⟨rfl, _, rfl⟩ (by k_asm) (by k_asm))

local macro_rules | `(tactic| walk_at "call type:list") => `(tactic| (k_here; with_reducible refine at_list ?_; k_dflt ((refine' list_copyK ?k1 ?k2 (IsLst.at ?k3 ?k4 ?k5) ?_ ?z; walk_at "own b"; (case k5 => k_asm); (case z => (have hsl := sizeLine_eq; simp only [List.size_toArray]; omega)); k_whole)); intro D' c' h' F' N' l1))

theorem parent_con (w : World) (T : Addr) (dl : List NodeD) (k : Nat) (d : NodeD) (tk : Tok) (ro news : Led) (hT : TreeIn ro T dl) (hd : dl[k]? = some d) :
    Con w 500 [.ref T, .int (k : Int) tk] ro news 2 24 (fun r n' => n' = news ∧ IsPar r d.parent) := by
  have hT' := hT
  obtain ⟨R, refs, iT, iR, -, -, -⟩ := hT'
  refine con_of [(Str.ofString "self", .ref T), (Str.ofString "node", .int (k : Int) tk)] [(Str.ofString "node", .int (k : Int) tk), (Str.ofString "self", .ref T)] (by k_is) (by k_is) rfl rfl (locs rfl) (by decide) rfl rfl rfl ?_
  intro prog mean mg mb dp un gd outer A₀ base g L s Q B F X N T hro hlt hd hu hret
  k_steps
  all_goals ((try dsimp only); exact hret _ _ _ _ _ ⟨rfl, by assumption⟩ (by k_asm) (by k_asm))

theorem children_con (w : World) (T : Addr) (dl : List NodeD) (k : Nat) (d : NodeD) (tk : Tok) (ro news : Led) (hT : TreeIn ro T dl) (hd : dl[k]? = some d) :
    Con w 507 [.ref T, .int (k : Int) tk] ro news 2 24 (fun r n' => ∃ (l : Addr) (cs : List Value) (n : Nat), r = .ref l ∧ n' = (l, listOf cs.toArray n) :: news ∧ (∀ p ∈ news, p.1 < l) ∧ IntsAre cs d.children ∧ cs.length ≤ 100) := by
  have hT' := hT
  obtain ⟨R, refs, iT, iR, -, -, -⟩ := hT'
  refine con_of [(Str.ofString "self", .ref T), (Str.ofString "node", .int (k : Int) tk)] [(Str.ofString "node", .int (k : Int) tk), (Str.ofString "self", .ref T)] (by k_is) (by k_is) rfl rfl (locs rfl) (by decide) rfl rfl rfl ?_
  intro prog mean mg mb dp un gd outer A₀ base g L s Q B F X N T hro hlt hd hu hret
  k_steps
  all_goals ((try dsimp only); exact hret _ _ _ _ _ ⟨_, _, _, rfl, rfl, by assumption, by assumption, by assumption⟩ (by k_asm) (by k_asm))

theorem attributes_con (w : World) (T : Addr) (dl : List NodeD) (k : Nat) (d : NodeD) (tk : Tok) (ro news : Led) (hT : TreeIn ro T dl) (hd : dl[k]? = some d) :
    Con w 514 [.ref T, .int (k : Int) tk] ro news 2 24 (fun r n' => ∃ (l : Addr) (cs : List Value) (n : Nat), r = .ref l ∧ n' = (l, listOf cs.toArray n) :: news ∧ (∀ p ∈ news, p.1 < l) ∧ IntsAre cs d.attrs ∧ cs.length ≤ 100) := by
  have hT' := hT
  obtain ⟨R, refs, iT, iR, -, -, -⟩ := hT'
  refine con_of [(Str.ofString "self", .ref T), (Str.ofString "node", .int (k : Int) tk)] [(Str.ofString "node", .int (k : Int) tk), (Str.ofString "self", .ref T)] (by k_is) (by k_is) rfl rfl (locs rfl) (by decide) rfl rfl rfl ?_
  intro prog mean mg mb dp un gd outer A₀ base g L s Q B F X N T hro hlt hd hu hret
  k_steps
  all_goals ((try dsimp only); exact hret _ _ _ _ _ ⟨_, _, _, rfl, rfl, by assumption, by assumption, by assumption⟩ (by k_asm) (by k_asm))

def NamesIn (w : World) (ro : Led) (nd : Addr) : Prop :=
  (nd == sysModules) = false ∧ ∃ (t t' : Tok) (n : Nat), (nd, dictOf [⟨PyData.keyHash w.params (Str.ofString "p"), .str (Str.ofString "p") t, .str (Str.ofString "u") t'⟩] n) ∈ ro
section
variable {prog : Program} {w : World} {A : Around} {E : Value → Shared → Prop} {s : Shared} {ro : Led} {g : Heap} {L nd : Addr} {m : Str → Option Value}
theorem names_map (F : Fr g L s.heap m) (hro : ROn ro g) (h : NamesIn w ro nd) : ∃ t' f, s.heap.MapOf (strKind prog w) nd f ∧ f (Str.ofString "p") = some (.str (Str.ofString "u") t') := by
  obtain ⟨-, t, t', n, hm⟩ := h
  refine ⟨t', _, ⟨_, _, _, F.keep _ _ (hro _ hm), ⟨rfl, rfl, rfl⟩, rfl, fun e he => ?_, fun _ => rfl⟩, ?_⟩
  · have he' : e = ⟨PyData.keyHash w.params (Str.ofString "p"), .str (Str.ofString "p") t, .str (Str.ofString "u") t'⟩ := by simpa using he
    exact ⟨Str.ofString "p", by rw [he']; exact strKind_is prog w _ t, by rw [he']; rfl⟩
  · rfl
theorem names_notin {tk : Tok} {Q : Value → Shared → Prop} (F : Fr g L s.heap m) (hro : ROn ro g) (h : NamesIn w ro nd) (hq : Q (.bool false) { s with toks := s.toks + 1 }) :
    wpAny (model prog w) A (compareOp .NotIn (.str (Str.ofString "p") tk) (.ref nd)) Q E s := by
  obtain ⟨t', f, hm, e⟩ := names_map (prog := prog) F hro h
  exact wpAny_notIn_of (strKind_is prog w _ tk) h.1 hm (by rw [e]; exact hq)
theorem names_item {value slice : PySem.Expr} {tk : Tok} {Q : Value → Shared → Prop} (F : Fr g L s.heap m) (hro : ROn ro g) (h : NamesIn w ro nd) (hq : ∀ t', Q (.str (Str.ofString "u") t') { s with toks := s.toks + 1 })
    (hs : subscripted slice false (.ref nd) (.str (Str.ofString "p") tk) = operate [.ref nd, .str (Str.ofString "p") tk] (getItem (.ref nd) (.str (Str.ofString "p") tk)) := by with_unfolding_all rfl) :
    wpAny (model prog w) A (subscriptTail value slice (.ref nd) (.str (Str.ofString "p") tk)) Q E s := by
  obtain ⟨t', f, hm, e⟩ := names_map (prog := prog) F hro h
  exact tail_any hm.typeIs slot_dict_getitem.lookup (wpAny_getItem_of (strKind_is prog w _ tk) hm e (hq t')) hs
end
local macro_rules | `(tactic| walk_at "compareOp NotIn str ref") => `(tactic| (k_here; k_dflt (refine' names_notin ?k1 ?k2 ?k3 ?_; walk_at "own a"; k_whole)))
local macro_rules | `(tactic| walk_at "subscriptTail") => `(tactic| (k_here; (with_reducible show wpAny _ _ (subscriptTail _ _ (Value.ref _) (Value.str _ _)) _ _ _); k_dflt ((with_unfolding_all refine' names_item ?k1 ?k2 ?k3 ?_ ?k4); walk_at "own a"; (case k4 => with_unfolding_all rfl); k_whole); intro _))

def princ (x : Str) : Str := if (x == "attribute") || (x == "namespace") then x else "element"
def uriOf (p : Str) : Str := if p = "" then "" else "u"
theorem uriOf_e : uriOf (Str.ofString "") = Str.ofString "" := by decide
theorem uriOf_p : uriOf (Str.ofString "p") = Str.ofString "u" := by decide
inductive TestD where
  | name (p l : Str)
  | any
  | anyOf
  | node
  | text
  | comment
  | instr (o : Option Str)
def TestIn (ro : Led) (t : Addr) : TestD → Prop
  | .name p l => (p = Str.ofString "" ∨ p = Str.ofString "p") ∧ ∃ t1 t2 t3 : Tok, IsTp ro t [.str (Str.ofString "name") t1, .str p t2, .str l t3]
  | .any => ∃ t1 : Tok, IsTp ro t [.str (Str.ofString "any") t1]
  | .anyOf => ∃ t1 t2 : Tok, IsTp ro t [.str (Str.ofString "any of") t1, .str (Str.ofString "p") t2]
  | .node => ∃ t1 : Tok, IsTp ro t [.str (Str.ofString "node") t1]
  | .text => ∃ t1 : Tok, IsTp ro t [.str (Str.ofString "text") t1]
  | .comment => ∃ t1 : Tok, IsTp ro t [.str (Str.ofString "comment") t1]
  | .instr none => ∃ t1 : Tok, IsTp ro t [.str (Str.ofString "instruction") t1, .none]
  | .instr (some x) => ∃ t1 t2 : Tok, IsTp ro t [.str (Str.ofString "instruction") t1, .str x t2]

theorem principal_kind_con (w : World) (x : Str) (tk : Tok) (ro news : Led) : Con w 72 [.str x tk] ro news 1 8 (fun r n' => n' = news ∧ ∃ tk, r = .str (princ x) tk) := by
  refine con_of [(Str.ofString "axis", .str x tk)] [(Str.ofString "axis", .str x tk)] (by k_is) (by k_is) rfl rfl (locs rfl) (by decide) rfl rfl rfl ?_
  intro prog mean mg mb dp un gd outer A₀ base g L s Q B F X N T hro hlt hd hu hret
  k_steps
  · have h : ([Str.ofString "attribute", Str.ofString "namespace"].any fun y => y == x) = true := by assumption
    simp only [List.any_cons, List.any_nil, Bool.or_false, Bool.or_eq_true, beq_iff_eq] at h
    have e : x = princ x := by rw [princ, if_pos (by simp only [Bool.or_eq_true, beq_iff_eq]; exact h.imp Eq.symm Eq.symm)]
    exact hret _ _ _ _ _ ⟨rfl, _, congrArg (fun z => Value.str z _) e⟩ (by k_asm) (cb_drop (by k_asm) fun p hp => .tail _ hp)
  · have h : ([Str.ofString "attribute", Str.ofString "namespace"].any fun y => y == x) = false := by assumption
    simp only [List.any_cons, List.any_nil, Bool.or_false, Bool.or_eq_false_iff, beq_eq_false_iff_ne] at h
    have e : Str.ofString "element" = princ x := by rw [princ, if_neg (by simp only [Bool.or_eq_true, beq_iff_eq]; exact fun q => q.elim (fun q => h.1 q.symm) (fun q => h.2 q.symm))]
    exact hret _ _ _ _ _ ⟨rfl, _, congrArg (fun z => Value.str z _) e⟩ (by k_asm) (cb_drop (by k_asm) fun p hp => .tail _ hp)

theorem bound_uri_con0 (w : World) (nd : Addr) (tk : Tok) (ro news : Led) : Con w 79 [.str (Str.ofString "") tk, .ref nd] ro news 1 8 (fun r n' => n' = news ∧ ∃ tk, r = .str (Str.ofString "") tk) := by
  refine con_of [(Str.ofString "prefix", .str (Str.ofString "") tk), (Str.ofString "names", .ref nd)] [(Str.ofString "names", .ref nd), (Str.ofString "prefix", .str (Str.ofString "") tk)] (by k_is) (by k_is) rfl rfl (locs rfl) (by decide) rfl rfl rfl ?_
  intro prog mean mg mb dp un gd outer A₀ base g L s Q B F X N T hro hlt hd hu hret
  k_steps
  exact hret _ _ _ _ _ ⟨rfl, _, rfl⟩ (by k_asm) (by k_asm)
theorem bound_uri_con1 (w : World) (nd : Addr) (tk : Tok) (ro news : Led) (hn : NamesIn w ro nd) : Con w 79 [.str (Str.ofString "p") tk, .ref nd] ro news 1 8 (fun r n' => n' = news ∧ ∃ tk, r = .str (Str.ofString "u") tk) := by
  refine con_of [(Str.ofString "prefix", .str (Str.ofString "p") tk), (Str.ofString "names", .ref nd)] [(Str.ofString "names", .ref nd), (Str.ofString "prefix", .str (Str.ofString "p") tk)] (by k_is) (by k_is) rfl rfl (locs rfl) (by decide) rfl rfl rfl ?_
  intro prog mean mg mb dp un gd outer A₀ base g L s Q B F X N T hro hlt hd hu hret
  k_steps
  exact hret _ _ _ _ _ ⟨rfl, _, rfl⟩ (by k_asm) (by k_asm)

local macro_rules | `(tactic| walk_at "call ref") => `(tactic| (with_reducible refine at_call 72 ?_; walk_at "own f"; k_dflt ((refine' con_callZ (principal_kind_con _ _ _ _ _) ?k1 ?k2 ?k3 ?k4 ?k5 ?k6 ?k8 ?k9 ?kA ?_); walk_at "own c"); walk_at "own n1"))
local macro_rules | `(tactic| walk_at "call ref") => `(tactic| (with_reducible refine at_call 79 ?_; walk_at "own f"; k_dflt ((refine' con_callZ (bound_uri_con0 _ _ _ _ _) ?k1 ?k2 ?k3 ?k4 ?k5 ?k6 ?k8 ?k9 ?kA ?_); walk_at "own c"); walk_at "own n1"))
local macro_rules | `(tactic| walk_at "call ref") => `(tactic| (with_reducible refine at_call 79 ?_; walk_at "own f"; k_dflt ((refine' con_callZ (bound_uri_con1 _ _ _ _ _ ?kt) ?k1 ?k2 ?k3 ?k4 ?k5 ?k6 ?k8 ?k9 ?kA ?_); walk_at "own c"); walk_at "own n1"))
local macro_rules | `(tactic| walk_at "call ref") => `(tactic| (with_reducible refine at_call 465 ?_; walk_at "own f"; k_dflt ((refine' con_callZ (kind_con _ _ _ _ _ _ _ _ ?kt ?kd) ?k1 ?k2 ?k3 ?k4 ?k5 ?k6 ?k8 ?k9 ?kA ?_); walk_at "own c"); walk_at "own n1"))
local macro_rules | `(tactic| walk_at "call ref") => `(tactic| (with_reducible refine at_call 472 ?_; walk_at "own f"; k_dflt ((refine' con_callZ (name_con _ _ _ _ _ _ _ _ ?kt ?kd) ?k1 ?k2 ?k3 ?k4 ?k5 ?k6 ?k8 ?k9 ?kA ?_); walk_at "own c"); walk_at "own n1"))
local macro_rules | `(tactic| walk_at "call ref") => `(tactic| (with_reducible refine at_call 479 ?_; walk_at "own f"; k_dflt ((refine' con_callZ (uri_con _ _ _ _ _ _ _ _ ?kt ?kd) ?k1 ?k2 ?k3 ?k4 ?k5 ?k6 ?k8 ?k9 ?kA ?_); walk_at "own c"); walk_at "own n1"))
local macro_rules | `(tactic| walk_at "call ref") => `(tactic| (with_reducible refine at_call 486 ?_; walk_at "own f"; k_dflt ((refine' con_callZ (local_con _ _ _ _ _ _ _ _ ?kt ?kd) ?k1 ?k2 ?k3 ?k4 ?k5 ?k6 ?k8 ?k9 ?kA ?_); walk_at "own c"); walk_at "own n1"))
local macro_rules | `(tactic| walk_at "call ref") => `(tactic| (with_reducible refine at_call 500 ?_; walk_at "own f"; k_dflt ((refine' con_callZ (parent_con _ _ _ _ _ _ _ _ ?kt ?kd) ?k1 ?k2 ?k3 ?k4 ?k5 ?k6 ?k8 ?k9 ?kA ?_); walk_at "own c"); intro _ _; refine kx0_nq ?_; intros))

def namedF (d : NodeD) (p l : Str) : Bool := ([Str.ofString "element", Str.ofString "attribute"].any fun x => x == d.kind) && d.loc == l && d.uri == uriOf p
theorem is_named_con (w : World) (T nd t : Addr) (dl : List NodeD) (k : Nat) (d : NodeD) (tk : Tok) (p l : Str) (ro news : Led) (hT : TreeIn ro T dl) (hd : dl[k]? = some d) (hns : (d.kind == Str.ofString "namespace") = false) (hn : NamesIn w ro nd) (ht : TestIn ro t (.name p l)) :
    Con w 86 [.ref T, .int (k : Int) tk, .ref t, .ref nd] ro news 3 32 (fun r n' => n' = news ∧ r = .bool (namedF d p l)) := by
  obtain ⟨R, refs, iT, -, -, -, -⟩ := id hT
  obtain ⟨hp, t1, t2, t3, it⟩ := ht
  refine con_of [(Str.ofString "tree", .ref T), (Str.ofString "node", .int (k : Int) tk), (Str.ofString "test", .ref t), (Str.ofString "names", .ref nd)] [(Str.ofString "names", .ref nd), (Str.ofString "test", .ref t), (Str.ofString "node", .int (k : Int) tk), (Str.ofString "tree", .ref T)] (by k_is) (by k_is) rfl rfl (locs rfl) (by decide) rfl rfl rfl ?_
  intro prog mean mg mb dp un gd outer A₀ base g L s Q B F X N T hro hlt hd hu hret
  rcases hp with rfl | rfl
  all_goals k_steps
  all_goals (first | (exfalso; exact Bool.false_ne_true (hns.symm.trans (by assumption))) | (refine fin_bool hret ?_ (by k_asm) (by k_asm) (by k_sub); simp [namedF, uriOf_e, uriOf_p, *]))

local macro_rules | `(tactic| walk_at "call ref") => `(tactic| (with_reducible refine at_call 86 ?_; walk_at "own f"; k_dflt ((refine' con_callZ (is_named_con _ _ _ _ _ _ _ _ _ _ _ _ ?kt ?kd ?kn ?km ?ko) ?k1 ?k2 ?k3 ?k4 ?k5 ?k6 ?k8 ?k9 ?kA ?_); walk_at "own c"); walk_at "own nr"))

def passF (d : NodeD) (ax : Str) : TestD → Bool
  | .node => true
  | .text => d.kind == Str.ofString "text"
  | .comment => d.kind == Str.ofString "comment"
  | .instr none => d.kind == Str.ofString "instruction"
  | .instr (some x) => d.kind == Str.ofString "instruction" && d.name == x
  | .any => d.kind == princ ax
  | .anyOf => d.kind == princ ax && d.uri == Str.ofString "u"
  | .name p l => namedF d p l && d.kind == princ ax
theorem passes_con (w : World) (T nd t : Addr) (dl : List NodeD) (k : Nat) (d : NodeD) (tk ta : Tok) (ax : Str) (td : TestD) (ro news : Led) (hT : TreeIn ro T dl) (hd : dl[k]? = some d) (hns : (d.kind == Str.ofString "namespace") = false) (hn : NamesIn w ro nd) (ht : TestIn ro t td) :
    Con w 93 [.ref T, .int (k : Int) tk, .str ax ta, .ref t, .ref nd] ro news 4 40 (fun r n' => n' = news ∧ r = .bool (passF d ax td)) := by
  obtain ⟨R, refs, iT, -, -, -, -⟩ := id hT
  refine con_of [(Str.ofString "tree", .ref T), (Str.ofString "node", .int (k : Int) tk), (Str.ofString "axis", .str ax ta), (Str.ofString "test", .ref t), (Str.ofString "names", .ref nd)] [(Str.ofString "names", .ref nd), (Str.ofString "test", .ref t), (Str.ofString "axis", .str ax ta), (Str.ofString "node", .int (k : Int) tk), (Str.ofString "tree", .ref T)] (by k_is) (by k_is) rfl rfl (locs rfl) (by decide) rfl rfl rfl ?_
  have ht' := ht
  have hns' : (d.kind != Str.ofString "namespace") = true := by simp [bne, hns]
  intro prog mean mg mb dp un gd outer A₀ base g L s Q B F X N T hro hlt hd hu hret
  cases td with
  | name p l =>
    obtain ⟨hp, t1, t2, t3, it⟩ := ht
    k_steps
    all_goals (refine fin_bool hret ?_ (by k_asm) (by k_asm) (by k_sub); simp [passF, *])
  | any => obtain ⟨t1, it⟩ := ht; k_steps; all_goals (refine fin_bool hret ?_ (by k_asm) (by k_asm) (by k_sub); simp [passF, *])
  | anyOf => obtain ⟨t1, t2, it⟩ := ht; k_steps; all_goals first | (exfalso; exact Bool.false_ne_true (Eq.symm (hns'.symm.trans (by assumption)))) | (refine fin_bool hret ?_ (by k_asm) (by k_asm) (by k_sub); simp [passF, *])
  | node => obtain ⟨t1, it⟩ := ht; k_steps; all_goals (refine fin_bool hret ?_ (by k_asm) (by k_asm) (by k_sub); simp [passF, *])
  | text => obtain ⟨t1, it⟩ := ht; k_steps; all_goals (refine fin_bool hret ?_ (by k_asm) (by k_asm) (by k_sub); simp [passF, *])
  | comment => obtain ⟨t1, it⟩ := ht; k_steps; all_goals (refine fin_bool hret ?_ (by k_asm) (by k_asm) (by k_sub); simp [passF, *])
  | instr o =>
    cases o with
    | none => obtain ⟨t1, it⟩ := ht; k_steps; all_goals (refine fin_bool hret ?_ (by k_asm) (by k_asm) (by k_sub); simp [passF, *])
    | some x => obtain ⟨t1, t2, it⟩ := ht; k_steps; all_goals (refine fin_bool hret ?_ (by k_asm) (by k_asm) (by k_sub); simp [passF, *])

local macro_rules | `(tactic| walk_at "call ref") => `(tactic| (with_reducible refine at_call 507 ?_; walk_at "own f"; k_dflt ((refine' con_callZ (children_con _ _ _ _ _ _ _ _ ?kt ?kd) ?k1 ?k2 ?k3 ?k4 ?k5 ?k6 ?k8 ?k9 ?kA ?_); walk_at "own c"); walk_at "own l3"))
local macro_rules | `(tactic| walk_at "call ref") => `(tactic| (with_reducible refine at_call 514 ?_; walk_at "own f"; k_dflt ((refine' con_callZ (attributes_con _ _ _ _ _ _ _ _ ?kt ?kd) ?k1 ?k2 ?k3 ?k4 ?k5 ?k6 ?k8 ?k9 ?kA ?_); walk_at "own c"); walk_at "own l3"))
local macro_rules | `(tactic| walk_at "call type:list") => `(tactic| (k_here; with_reducible refine at_list ?_; k_dflt ((refine' list_copyK ?k1 ?k2 (News.isList ?k3 ?k4) ?_ ?z; (case k1 => k_asm); (case k2 => k_asm); (case k3 => k_asm); (case k4 => k_mem); (case z => (have hsl := sizeLine_eq; simp only [List.size_toArray]; omega)); k_whole)); intro D' c' h' F' N' l1))
def axF (d : NodeD) (at' : Bool) : List Int := if at' then (if d.kind == Str.ofString "element" then d.attrs else []) else d.children
def axS (at' : Bool) : Str := if at' then Str.ofString "attribute" else Str.ofString "child"
theorem short_axis_con (w : World) (T : Addr) (dl : List NodeD) (k : Nat) (d : NodeD) (tk ta : Tok) (at' : Bool) (ro news : Led) (hT : TreeIn ro T dl) (hd : dl[k]? = some d) :
    Con w 161 [.ref T, .int (k : Int) tk, .str (axS at') ta] ro news 3 32 (fun r n' => ∃ (l : Addr) (cs : List Value) (n : Nat), r = .ref l ∧ n' = (l, listOf cs.toArray n) :: news ∧ (∀ p ∈ news, p.1 < l) ∧ IntsAre cs (axF d at') ∧ cs.length ≤ 100) := by
  obtain ⟨R, refs, iT, -, -, -, -⟩ := id hT
  refine con_of [(Str.ofString "tree", .ref T), (Str.ofString "node", .int (k : Int) tk), (Str.ofString "name", .str (axS at') ta)] [(Str.ofString "name", .str (axS at') ta), (Str.ofString "node", .int (k : Int) tk), (Str.ofString "tree", .ref T)] (by k_is) (by k_is) rfl rfl (locs rfl) (by decide) rfl rfl rfl ?_
  intro prog mean mg mb dp un gd outer A₀ base g L s Q B F X N T hro hlt hd hu hret
  cases at' with
  | false =>
    simp only [axS, Bool.false_eq_true, if_false] at *
    k_steps
    rename_i F9 N9 l9
    exact hret _ _ _ _ _ ⟨_, _, _, rfl, rfl, fun p hp => l9 p (.tail _ hp), by assumption, by assumption⟩ F9 (cb_drop N9 sub12)
  | true =>
    simp only [axS, if_true] at *
    k_steps
    · rename_i F9 N9 l9
      exact hret _ _ _ _ _ ⟨_, _, _, rfl, rfl, fun p hp => l9 p (.tail _ hp), by simpa only [axF, (by assumption : (d.kind == Str.ofString "element") = true), if_true] using (by assumption : IntsAre _ d.attrs), by assumption⟩ F9 (cb_drop N9 sub12)
    · rename_i F9 N9 l9
      exact hret _ _ _ _ _ ⟨_, [], _, rfl, rfl, l9, by simpa only [axF, (by assumption : (d.kind == Str.ofString "element") = false), if_true, Bool.false_eq_true, if_false] using IntsAre.nil, Nat.zero_le _⟩ F9 N9

local macro_rules | `(tactic| walk_at "call ref") => `(tactic| (with_reducible refine at_call 161 ?_; walk_at "own f"; k_dflt ((refine' con_callZ (short_axis_con _ _ _ _ _ _ _ _ _ _ ?kt ?kd) ?k1 ?k2 ?k3 ?k4 ?k5 ?k6 ?k8 ?k9 ?kA ?_); walk_at "own c"); walk_at "own l3"))
theorem axis_con (w : World) (T : Addr) (dl : List NodeD) (k : Nat) (d : NodeD) (tk ta : Tok) (at' : Bool) (ro news : Led) (hT : TreeIn ro T dl) (hd : dl[k]? = some d) :
    Con w 168 [.ref T, .int (k : Int) tk, .str (axS at') ta] ro news 4 40 (fun r n' => ∃ (l : Addr) (cs : List Value) (n : Nat), r = .ref l ∧ n' = (l, listOf cs.toArray n) :: news ∧ (∀ p ∈ news, p.1 < l) ∧ IntsAre cs (axF d at') ∧ cs.length ≤ 100) := by
  obtain ⟨R, refs, iT, -, -, -, -⟩ := id hT
  refine con_of [(Str.ofString "tree", .ref T), (Str.ofString "node", .int (k : Int) tk), (Str.ofString "name", .str (axS at') ta)] [(Str.ofString "name", .str (axS at') ta), (Str.ofString "node", .int (k : Int) tk), (Str.ofString "tree", .ref T)] (by k_is) (by k_is) rfl rfl (locs rfl) (by decide) rfl rfl rfl ?_
  intro prog mean mg mb dp un gd outer A₀ base g L s Q B F X N T hro hlt hd hu hret
  k_steps
  exact hret _ _ _ _ _ ⟨_, _, _, rfl, rfl, by assumption, by assumption, by assumption⟩ (by k_asm) (by k_asm)

theorem reads_tp {ro : Led} {g h : Heap} {L a : Addr} {m : Str → Option Value} {vs : List Value} {ds : List PyData} {as : List Addr} (F : Fr g L h m) (hro : ROn ro g) (I : IsTp ro a vs) (r : ReadsAll h vs ds as) : Reads h (.ref a) (.tuple ds) as :=
  let ⟨_, hm⟩ := I; reads_tuple_at (F.keep _ _ (hro _ hm)) rfl rfl r
theorem isi_tp {prog : Program} {w : World} {A : Around} {E : Value → Shared → Prop} {s : Shared} {ro : Led} {g : Heap} {L a : Addr} {m : Str → Option Value} {vs : List Value} {Q : Value → Shared → Prop} (F : Fr g L s.heap m) (hro : ROn ro g) (I : IsTp ro a vs) (h : Q (.bool true) s) :
    wpAny (model prog w) A (call (.builtin "isinstance") [.ref a, .type "tuple"]) Q E s :=
  let ⟨_, hm⟩ := I; call_isinstance (isinstance_true (Tx := "tuple") PySem.F.isi_meta_tuple PySem.F.sub_tuple_tuple) ⟨⟨_, F.keep _ _ (hro _ hm), rfl⟩, h⟩
local macro_rules | `(tactic| walk_at "call builtin:isinstance") => `(tactic| (k_here; (with_reducible show wpAny _ _ (call (Value.builtin "isinstance") [Value.ref _, Value.type "tuple"]) _ _ _); k_dflt (refine' isi_tp ?k1 ?k2 ?k3 ?_; walk_at "own a"; k_whole)))
theorem eq_tp2 {prog : Program} {w : World} {A : Around} {E : Value → Shared → Prop} {s : Shared} {ro news : Led} {g : Heap} {L a b : Addr} {m : Str → Option Value} {x1 x2 y1 y2 : Int} {t1 t2 u1 u2 : Tok} {n : Nat} {Q : Value → Shared → Prop} (F : Fr g L s.heap m) (hro : ROn ro g) (N : News g L s.heap news)
    (I : IsTp ro a [.int x1 t1, .int x2 t2]) (hm : (b, ({ cls := .type "tuple", data := .seq #[.int y1 u1, .int y2 u2] n } : Obj)) ∈ news) (hu : A.units + 64 < cLine) (h : Q (.bool (x1 == y1 && x2 == y2)) s) :
    wpAny (model prog w) A (compareOp .Eq (.ref a) (.ref b)) Q E s := by
  refine cmp_ofEq ?_
  refine eq_dataH (reads_tp F hro I (.cons (.int _ _) (.cons (.int _ _) .nil))) (reads_tuple_at (News.get N hm) rfl rfl (.cons (.int _ _) (.cons (.int _ _) .nil))) rfl rfl hu ?_
  simpa only [PyData.eqv, PyData.eqvAll, Bool.and_true] using h
local macro_rules | `(tactic| walk_at "compareOp Eq ref ref") => `(tactic| (k_here; k_dflt (refine' eq_tp2 ?k1 ?k2 ?k3 ?k4 ?k5 ?k6 ?_; walk_at "own d"; (case k5 => k_mem); (case k6 => walk_at "own u"); k_whole)))
theorem one_beq (p : Int) : ((1 : Int) == p && (1 : Int) == 1) = (p == 1) := by
  by_cases h : p = 1
  · subst h; rfl
  · have h' : ¬ (1 : Int) = p := fun e => h e.symm
    rw [beq_eq_false_iff_ne.mpr h', beq_eq_false_iff_ne.mpr h]; rfl
theorem holds_con (w : World) (vt : Addr) (p : Int) (tk t1 t2 : Tok) (ro news : Led) (hv : IsTp ro vt [.int 1 t1, .int 1 t2]) : Con w 175 [.ref vt, .int p tk] ro news 2 100 (fun r n' => n' = news ∧ r = .bool (p == 1)) := by
  refine con_of [(Str.ofString "value", .ref vt), (Str.ofString "position", .int p tk)] [(Str.ofString "position", .int p tk), (Str.ofString "value", .ref vt)] (by k_is) (by k_is) rfl rfl (locs rfl) (by decide) rfl rfl rfl ?_
  intro prog mean mg mb dp un gd outer A₀ base g L s Q B F X N T hro hlt hd hu hret
  k_steps
  exact fin_bool hret (one_beq p) (by k_asm) (by k_asm) sub1
local macro_rules | `(tactic| walk_at "call ref") => `(tactic| (with_reducible refine at_call 175 ?_; walk_at "own f"; k_dflt ((refine' con_callZ (holds_con _ _ _ _ _ _ _ _ ?kt) ?k1 ?k2 ?k3 ?k4 ?k5 ?k6 ?k8 ?k9 ?kA ?_); walk_at "own c"); walk_at "own nr"))

section
variable {prog : Program} {w : World} {A : Around} {E : Value → Shared → Prop} {s : Shared} {env : Env} {g : Heap} {x : Str} {body : List Stmt} {Q : Flow → Shared → Prop}
/-- a turn's end of a loop over a list: I is the loop's iterator -/
def TurnV (g : Heap) (L I : Addr) (oI : Obj) (J : (Str → Option Value) → Led → Prop) (s : Shared) (Q : Flow → Shared → Prop) (f : Flow) (s' : Shared) : Prop :=
  match f with
  | .ret v => Q (.ret v) s'
  | .brk => Q .next s'
  | _ => ∃ h' tk' m' news', s' = { s with heap := h', toks := tk' } ∧ Fr g L h' m' ∧ News g L h' ((I, oI) :: news') ∧ (∀ p ∈ news', p.1 ≠ I) ∧ J m' news'
theorem TurnV.intro {L I : Addr} {oI : Obj} {J : (Str → Option Value) → Led → Prop} {h' : Heap} {tk' : Nat} {m' : Str → Option Value} {news' nw : Led} (F : Fr g L h' m') (N : News g L h' nw) (hs : ∀ p ∈ (I, oI) :: news', p ∈ nw) (hn : ∀ p ∈ news', p.1 ≠ I) (hj : J m' news') :
    TurnV g L I oI J s Q .next { s with heap := h', toks := tk' } := ⟨h', tk', m', news', rfl, F, cb_drop N hs, hn, hj⟩
theorem iter_ro {l : Addr} {vs : List Value} {m₀ : Str → Option Value} {news : Led} (J : Nat → (Str → Option Value) → Led → Prop) (hh : A.handled = none) (hl : g.IsList l vs.toArray)
    (F : Fr g env.locals s.heap m₀) (N : News g env.locals s.heap news) (hj : J 0 m₀ news)
    (turn : ∀ i v m₁ news₁ h tk I oI, vs[i]? = some v → J i m₁ news₁ → Fr g env.locals h (fun y => if y = x then some v else m₁ y) → News g env.locals h ((I, oI) :: news₁) → (∀ p ∈ news₁, p.1 ≠ I) →
      wpAny (model prog w) A (execs body env) (TurnV g env.locals I oI (J (i + 1)) s Q) E { s with heap := h, toks := tk })
    (done : ∀ m₁ news₁ h tk, J vs.length m₁ news₁ → Fr g env.locals h m₁ → News g env.locals h news₁ → Q .next { s with heap := h, toks := tk }) :
    wpAny (model prog w) A (pyIter (.ref l)) (fun it s₂ => LoopAtV prog w A g env x body Q E it s₂) E s := by
  have hls : s.heap.IsList l vs.toArray := hl.at fun o e => F.keep l o e
  obtain ⟨ol, hol, _⟩ := id hl
  have hlt : l < g.objs.size := Heap.lt_size hol
  have hne : l ≠ s.heap.objs.size := Nat.ne_of_lt (Nat.lt_trans (Nat.lt_of_lt_of_le hlt F.above) F.ns.lt)
  refine wpAny_pyIter_list hls ?_
  have W := Walks.list (prog := prog) (w := w) hh s.heap.objs.size l hne vs.toArray
  have hlen : vs.toArray.size = vs.length := by simp
  rw [hlen] at W
  have hLI : env.locals ≠ s.heap.objs.size := Nat.ne_of_lt F.ns.lt
  have hLl : env.locals ≠ l := fun e => absurd (Nat.lt_of_lt_of_le hlt F.above) (e ▸ Nat.lt_irrefl _)
  have hI0 := next_is_new F
  refine ⟨_, _, _, vs.length, _, _, m₀, news, fun i m₁ news₁ => (∀ p ∈ news₁, p.1 ≠ s.heap.objs.size) ∧ J i m₁ news₁, rfl, W, ?_, ?_, ?_, ⟨⟨_, Heap.get?_push_size _ rfl, rfl, rfl⟩, hls.at fun o e => Heap.get?_push_of_some _ e⟩, F.push _, (fun p hp => ⟨Heap.get?_push_of_some _ (N p hp).1, (N p hp).2⟩),
    ⟨fun p hp => Nat.ne_of_lt (Heap.lt_size (N p hp).1), hj⟩, ?_, ?_⟩
  · intro hm
    rcases List.mem_cons.mp hm with e | hm
    · exact hLI e
    · exact hLl (List.mem_singleton.mp hm)
  · intro b hb
    rw [List.mem_singleton.mp hb]
    exact hI0
  · intro p hp hI
    exact absurd (Heap.lt_size (N p hp).1) ((List.mem_singleton.mp hI) ▸ Nat.lt_irrefl _)
  · intro i v m₁ news₁ s₁ own
    revert s₁
    refine obv2_v ?_
    intro hh' tk' hin hP hJ0 hoff hown _ hall hst F₁ N₁
    have hoffJ := hJ0.1
    have hJ := hJ0.2
    obtain ⟨⟨oI, heI, -⟩, -⟩ := hst
    have hio : (s.heap.objs.size, oI) ∈ own := hall _ (List.mem_cons.mpr (.inl rfl)) hI0 oI heI
    have N₂ : News g env.locals hh' ((s.heap.objs.size, oI) :: news₁) := fun p hp => by
      rcases List.mem_cons.mp hp with rfl | hp
      · exact N₁ _ (List.mem_append_left _ hio)
      · exact N₁ _ (List.mem_append_right _ hp)
    have hall' : ∀ p ∈ own, p = (s.heap.objs.size, oI) := own_one hown (fun b hb => by
      rcases List.mem_cons.mp hb with e | hb
      · exact .inl e
      · exact .inr ⟨ol, (List.mem_singleton.mp hb) ▸ hol⟩) heI N₁
    have hv : vs[i]? = some v := by simpa using hP
    refine wpAny_mono (turn i v m₁ news₁ hh' tk' _ oI hv hJ F₁ N₂ hoffJ) (fun f s₂ p => ?_) fun _ _ e => e
    have fin : (∃ h' tk' m' news', s₂ = { s with heap := h', toks := tk' } ∧ Fr g env.locals h' m' ∧ News g env.locals h' ((s.heap.objs.size, oI) :: news') ∧ (∀ p ∈ news', p.1 ≠ s.heap.objs.size) ∧ J (i + 1) m' news') →
        LoopStepU g env.locals [s.heap.objs.size] own (fun m₁ news₁ => (∀ p ∈ news₁, p.1 ≠ s.heap.objs.size) ∧ J (i + 1) m₁ news₁) { s with heap := hh', toks := tk' } .next s₂ := by
      rintro ⟨h', tk, m', news', e, F', N', hn, hm⟩
      refine ⟨rfl, h', tk, m', news', e, F', fun p hp => ?_, fun p hp hq => hn p hp (List.mem_singleton.mp hq), hn, hm⟩
      rcases List.mem_append.mp hp with hp | hp
      · rw [hall' p hp]; exact N' _ (List.mem_cons.mpr (.inl rfl))
      · exact N' _ (List.mem_cons.mpr (.inr hp))
    cases f with
    | ret v => exact .ret p
    | brk => exact .brk p
    | next => exact .next (fin p)
    | cont => exact .cont (fin p)
  · rintro h' tk m' news' F' N' _ ⟨_, hJ⟩
    exact done m' news' h' tk hJ F' N'
theorem for_ro {l : Addr} {vs : List Value} {m₀ : Str → Option Value} {news : Led} {px pos : Pos} {iter : PySem.Expr} (J : Nat → (Str → Option Value) → Led → Prop) (hh : A.handled = none) (hl : g.IsList l vs.toArray)
    (F : Fr g env.locals s.heap m₀) (N : News g env.locals s.heap news) (hit : ∀ (Q' : Value → Shared → Prop), Q' (.ref l) s → wpAny (model prog w) A (eval iter env) Q' (fun _ _ => False) s) (hj : J 0 m₀ news) (hx : env.kindOf x = some .local)
    (hp : (env.scope.kind == .class || (env.scope.kind == .module && env.locals != env.globals)) = false)
    (turn : ∀ i v m₁ news₁ h tk I oI, vs[i]? = some v → J i m₁ news₁ → Fr g env.locals h (fun y => if y = x then some v else m₁ y) → News g env.locals h ((I, oI) :: news₁) → (∀ p ∈ news₁, p.1 ≠ I) →
      wpAny (model prog w) A (execs body env) (TurnV g env.locals I oI (J (i + 1)) s Q) (fun _ _ => False) { s with heap := h, toks := tk })
    (done : ∀ m₁ news₁ h tk, J vs.length m₁ news₁ → Fr g env.locals h m₁ → News g env.locals h news₁ → Q .next { s with heap := h, toks := tk })
    (hs : ∀ x, foldedSetIterable iter env x = pure x) :
    wpAny (model prog w) A (exec (.For (.Name x px) iter body [] pos) env) Q (fun _ _ => False) s :=
  For_invV g hx hp (hit _ (iter_ro J hh hl F N hj turn done)) hs PassesOwn.never
end

theorem kx6_npppppppr {α1 α2 α3 α4 α5 α6 : Type} {β γ : Type} {fn : α1 → α2 → α3 → α4 → α5 → α6 → γ} {p2 : α1 → α2 → α3 → α4 → α5 → α6 → Prop} {p3 : α1 → α2 → α3 → α4 → α5 → α6 → Prop} {p4 : α1 → α2 → α3 → α4 → α5 → α6 → Prop} {p5 : α1 → α2 → α3 → α4 → α5 → α6 → Prop} {p6 : α1 → α2 → α3 → α4 → α5 → α6 → Prop} {p7 : α1 → α2 → α3 → α4 → α5 → α6 → Prop} {p8 : α1 → α2 → α3 → α4 → α5 → α6 → Prop} {fr : α1 → α2 → α3 → α4 → α5 → α6 → β} {k : β → γ → Prop} (H : ∀ x1 x2 x3 x4 x5 x6, p2 x1 x2 x3 x4 x5 x6 → p3 x1 x2 x3 x4 x5 x6 → p4 x1 x2 x3 x4 x5 x6 → p5 x1 x2 x3 x4 x5 x6 → p6 x1 x2 x3 x4 x5 x6 → p7 x1 x2 x3 x4 x5 x6 → p8 x1 x2 x3 x4 x5 x6 → k (fr x1 x2 x3 x4 x5 x6) (fn x1 x2 x3 x4 x5 x6)) : ∀ r n', (∃ x1 x2 x3 x4 x5 x6, n' = fn x1 x2 x3 x4 x5 x6 ∧ p2 x1 x2 x3 x4 x5 x6 ∧ p3 x1 x2 x3 x4 x5 x6 ∧ p4 x1 x2 x3 x4 x5 x6 ∧ p5 x1 x2 x3 x4 x5 x6 ∧ p6 x1 x2 x3 x4 x5 x6 ∧ p7 x1 x2 x3 x4 x5 x6 ∧ p8 x1 x2 x3 x4 x5 x6 ∧ r = fr x1 x2 x3 x4 x5 x6) → k r n' := by
  rintro r n' ⟨x1, x2, x3, x4, x5, x6, e1, h2, h3, h4, h5, h6, h7, h8, e9⟩; subst e1; subst e9; exact H x1 x2 x3 x4 x5 x6 h2 h3 h4 h5 h6 h7 h8
section
variable {prog : Program} {w : World} {A : Around} {s : Shared} {env : Env} {g : Heap} {body : List Stmt} {Q : Flow → Shared → Prop}
def TurnW (g : Heap) (L : Addr) (own : Led) (J : (Str → Option Value) → Led → Prop) (s : Shared) (Q : Flow → Shared → Prop) (f : Flow) (s' : Shared) : Prop :=
  match f with
  | .ret v => Q (.ret v) s'
  | .brk => Q .next s'
  | _ => ∃ h' tk' m' news', s' = { s with heap := h', toks := tk' } ∧ Fr g L h' m' ∧ News g L h' (own ++ news') ∧ (∀ p ∈ news', ∀ q ∈ own, q.1 ≠ p.1) ∧ J m' news'
theorem TurnW.intro {L : Addr} {own : Led} {J : (Str → Option Value) → Led → Prop} {h' : Heap} {tk' : Nat} {m' : Str → Option Value} {news' nw : Led} (F : Fr g L h' m') (N : News g L h' nw) (hs : ∀ p ∈ own ++ news', p ∈ nw) (hn : ∀ p ∈ news', ∀ q ∈ own, q.1 ≠ p.1) (hj : J m' news') :
    TurnW g L own J s Q .next { s with heap := h', toks := tk' } := ⟨h', tk', m', news', rfl, F, cb_drop N hs, hn, hj⟩
theorem for_enum {xi xv : Str} {pi pv pt pos : Pos} {x1 : Nat} {iter : PySem.Expr} {l : Addr} {vs : List Value} {n : Nat} {m₀ : Str → Option Value} {news : Led} (J : Nat → (Str → Option Value) → Led → Prop)
    (hh : A.handled = none) (hxi : env.kindOf xi = some .local) (hxv : env.kindOf xv = some .local) (hp : (env.scope.kind == .class || (env.scope.kind == .module && env.locals != env.globals)) = false)
    (F : Fr g env.locals s.heap m₀) (N : News g env.locals s.heap news)
    (hit : ∀ Q' : Value → Shared → Prop, (∀ tk, wpAny (model prog w) A (call (.type "enumerate") [.ref l]) Q' (fun _ _ => False) { s with toks := tk }) → wpAny (model prog w) A (eval iter env) Q' (fun _ _ => False) s)
    (hj : J 0 m₀ news) (hJl : ∀ i m₁ news₁, J i m₁ news₁ → (l, listOf vs.toArray n) ∈ news₁)
    (turn : ∀ i v tk m₁ news₁ h tk' e it oe oi, vs[i]? = some v → J i m₁ news₁ → Fr g env.locals h (fun y => if y = xv then some v else if y = xi then some (.int (i : Int) tk) else m₁ y) → News g env.locals h ((e, oe) :: (it, oi) :: news₁) → (∀ p ∈ news₁, e ≠ p.1 ∧ it ≠ p.1) →
      wpAny (model prog w) A (execs body env) (TurnW g env.locals [(e, oe), (it, oi)] (J (i + 1)) s Q) (fun _ _ => False) { s with heap := h, toks := tk' })
    (done : ∀ m₁ news₁ h tk, J vs.length m₁ news₁ → Fr g env.locals h m₁ → News g env.locals h news₁ → Q .next { s with heap := h, toks := tk })
    (hs : ∀ x, foldedSetIterable iter env x = pure x) :
    wpAny (model prog w) A (exec (.For (.Tuple [.Name xi pi, .Name xv pv] x1 pt) iter body [] pos) env) Q (fun _ _ => False) s := by
  refine wpAny_For (hit _ fun tk0 => ?_) hs
  have hl0 := (N _ (hJl _ _ _ hj)).1
  refine call_enumerate_1 hl0 fun h₀ he0 hit0 hz0 hk0 => ?_
  refine wpAny_pyIter_enum he0 ?_
  have hLI : env.locals < s.heap.objs.size := F.ns.lt
  have fresh : ∀ a, s.heap.objs.size ≤ a → g.get? a = none := fun a ha => by
    cases e : g.get? a with
    | none => rfl
    | some o => exact absurd (Heap.lt_size (F.keep _ _ e)) (Nat.not_lt.mpr ha)
  have hgi := fresh s.heap.objs.size (Nat.le_refl _)
  have hge := fresh (s.heap.objs.size + 1) (Nat.le_succ _)
  have hei : s.heap.objs.size + 1 ≠ s.heap.objs.size := Nat.succ_ne_self _
  have hLe : env.locals ≠ s.heap.objs.size + 1 := Nat.ne_of_lt (Nat.lt_succ_of_lt hLI)
  have hLi : env.locals ≠ s.heap.objs.size := Nat.ne_of_lt hLI
  refine codeAny_forLoop_any
    (fun k s' => ∃ h' tk m' news' i old, s' = { s with heap := h', toks := tk } ∧ IsEnum h' (s.heap.objs.size + 1) s.heap.objs.size ((i : Nat) : Int) old ∧ h'.IsListIter s.heap.objs.size l i ∧ Fr g env.locals h' m' ∧ News g env.locals h' news' ∧
      (∀ p ∈ news', s.heap.objs.size + 1 ≠ p.1 ∧ s.heap.objs.size ≠ p.1) ∧ J i m' news' ∧ i ≤ vs.length ∧ k = vs.length + 1 - i) ?_ (vs.length + 1)
    ⟨h₀, tk0, m₀, news, 0, .none, rfl, he0, hit0, F.keeps hk0, (fun p hp => ⟨hk0 _ _ (N p hp).1, (N p hp).2⟩), fun p hp => ?_, hj, Nat.zero_le _, rfl⟩
  · refine kx6_npppppppr ?_
    intro H tk m' news' i old he' hit' F' N' hoff hJ hi
    have hl' : H.IsList l vs.toArray := ⟨_, (N' _ (hJl _ _ _ hJ)).1, rfl, _, rfl⟩
    have hle := hoff _ (hJl _ _ _ hJ)
    cases hv : vs[i]? with
    | none =>
      have hsz : i = vs.length := Nat.le_antisymm hi (by simpa using hv)
      refine wpAny_pyNext_enum_end hh he' hit' hl' (by simpa using hv) fun h₁ he₁ => wpAny_execs_nil ?_
      subst hsz
      refine done m' news' h₁ tk hJ ⟨F'.ns.extBut he₁ hLi, fun b o e => he₁ b o (fun q => by rw [q, hgi] at e; cases e) (F'.keep b o e), F'.above⟩ fun p hp => ⟨he₁ _ _ (Ne.symm (hoff p hp).2) (N' p hp).1, (N' p hp).2⟩
    | some v =>
      have hlt : i < vs.length := (List.getElem?_eq_some_iff.mp hv).1
      refine wpAny_pyNext_enum_item he' hit' hl' (by simpa using hv) hei fun h₁ heo hit₁ ht₁ hz₁ hk₁ => ?_
      refine wpAny_letOwnedTupleGo_enum heo fun h₂ he₂ hs₂ => ?_
      have hs2 : Heap.SameBut (s.heap.objs.size + 1) h₁ h₂ := hs₂
      have heH : s.heap.objs.size + 1 < H.objs.size := Heap.lt_size he'
      have ht₂ : h₂.IsTuple H.objs.size #[.int i tk, v] := ⟨_, (hs2.2 _ (Nat.ne_of_gt heH)).trans ht₁, rfl, _, rfl⟩
      have hz₂ : h₂.objs.size = H.objs.size + 1 := hs2.1.trans hz₁
      refine wpAny_assign_Tuple hh ht₂ rfl rfl fun h₃ hx₃ => ?_
      have hx3 : Heap.ExtBut h₂.objs.size h₂ h₃ := hx₃
      have up3 : ∀ b o, b ≠ s.heap.objs.size + 1 → b ≠ s.heap.objs.size → H.get? b = some o → h₃.get? b = some o := fun b o q1 q2 e =>
        hx3 b o (by rw [hz₂]; exact Nat.ne_of_lt (Nat.lt_succ_of_lt (Heap.lt_size e))) (hs2.extBut b o q1 (hk₁ b o q1 q2 e))
      have F3 : Fr g env.locals h₃ m' := ⟨F'.ns.at fun o e => up3 _ o hLe hLi e, fun b o e => up3 b o (fun q => by rw [q, hge] at e; cases e) (fun q => by rw [q, hgi] at e; cases e) (F'.keep b o e), F'.above⟩
      have N3 : News g env.locals h₃ news' := fun p hp => ⟨up3 _ _ (Ne.symm (hoff p hp).1) (Ne.symm (hoff p hp).2) (N' p hp).1, (N' p hp).2⟩
      have he3 : IsEnum h₃ (s.heap.objs.size + 1) s.heap.objs.size ((i : Int) + 1) v := hx3 _ _ (by rw [hz₂]; exact Nat.ne_of_lt (Nat.lt_succ_of_lt heH)) he₂
      obtain ⟨oi, hoi, hoi2⟩ := hit₁
      have hi3 : h₃.get? s.heap.objs.size = some oi := hx3 _ _ (by rw [hz₂]; exact Nat.ne_of_lt (Nat.lt_succ_of_lt (Nat.lt_of_succ_lt heH))) (hs2.extBut _ _ (Ne.symm hei) hoi)
      show wpAny _ A (do holding [v] (assign (.Name xi pi) env (.int i tk)); do holding [] (assign (.Name xv pv) env v); pure ()) _ _ _
      refine wpAny_bind (wpAny_holding (wpAny_assign_Name (wpAny_storeName_local hxi F3.ns (fun h₄ hn₄ hs₄ => ?_) hp)))
      have F4 := F3.set hn₄ hs₄
      refine wpAny_bind (wpAny_holding (wpAny_assign_Name (wpAny_storeName_local hxv F4.ns (fun h₅ hn₅ hs₅ => wpAny_pure ?_) hp)))
      have F5 := F4.set hn₅ hs₅
      have N5 : News g env.locals h₅ ((s.heap.objs.size + 1, ({ cls := .type "enumerate", data := .fields #[.none, .bool false, .ref s.heap.objs.size, rawInt ((i : Int) + 1), .none, v] } : Obj)) :: (s.heap.objs.size, oi) :: news') := by
        intro p hp
        rcases List.mem_cons.mp hp with rfl | hp
        · exact ⟨hs₅.extBut _ _ (Ne.symm hLe) (hs₄.extBut _ _ (Ne.symm hLe) he3), Ne.symm hLe, hge⟩
        · rcases List.mem_cons.mp hp with rfl | hp
          · exact ⟨hs₅.extBut _ _ (Ne.symm hLi) (hs₄.extBut _ _ (Ne.symm hLi) hi3), Ne.symm hLi, hgi⟩
          · exact (N3.set hs₄).set hs₅ p hp
      refine wpAny_mono (turn i v tk m' news' h₅ _ _ _ _ oi hv hJ F5 N5 hoff) (fun f s₃ h₆ => ?_) fun _ _ x => x.elim
      have fin : (∃ h' tk' m' news', s₃ = { s with heap := h', toks := tk' } ∧ Fr g env.locals h' m' ∧ News g env.locals h' ([((s.heap.objs.size + 1 : Addr), ({ cls := .type "enumerate", data := .fields #[.none, .bool false, .ref s.heap.objs.size, rawInt ((i : Int) + 1), .none, v] } : Obj)), (s.heap.objs.size, oi)] ++ news') ∧
          (∀ p ∈ news', ∀ q ∈ [((s.heap.objs.size + 1 : Addr), ({ cls := .type "enumerate", data := .fields #[.none, .bool false, .ref s.heap.objs.size, rawInt ((i : Int) + 1), .none, v] } : Obj)), (s.heap.objs.size, oi)], q.1 ≠ p.1) ∧ J (i + 1) m' news') →
          ∃ k, k < vs.length + 1 - i ∧ ∃ h' tk m' news' j old, s₃ = { s with heap := h', toks := tk } ∧ IsEnum h' (s.heap.objs.size + 1) s.heap.objs.size ((j : Nat) : Int) old ∧ h'.IsListIter s.heap.objs.size l j ∧ Fr g env.locals h' m' ∧ News g env.locals h' news' ∧
            (∀ p ∈ news', s.heap.objs.size + 1 ≠ p.1 ∧ s.heap.objs.size ≠ p.1) ∧ J j m' news' ∧ j ≤ vs.length ∧ k = vs.length + 1 - j := by
        rintro ⟨h', tk', m6, news6, rfl, F6, N6, hn6, hJ6⟩
        refine ⟨vs.length + 1 - (i + 1), by omega, h', tk', m6, news6, i + 1, v, rfl, ?_, ⟨oi, (N6 _ (.tail _ (.head _))).1, hoi2⟩, F6, fun p hp => N6 p (.tail _ (.tail _ hp)), fun p hp => ⟨hn6 p hp _ (.head _), hn6 p hp _ (.tail _ (.head _))⟩, hJ6, hlt, rfl⟩
        have : ((i + 1 : Nat) : Int) = (i : Int) + 1 := by push_cast; rfl
        rw [this]
        exact (N6 _ (.head _)).1
      cases f with
      | ret v => exact h₆
      | brk => exact h₆
      | next => exact fin h₆
      | cont => exact fin h₆
  · exact ⟨Nat.ne_of_gt (Nat.lt_succ_of_lt (Heap.lt_size (N p hp).1)), Nat.ne_of_gt (Heap.lt_size (N p hp).1)⟩
end

def withL (bs : List (Str × Value)) (u : Str → Option Value) : Str → Option Value := fun y => match bs.lookup y with
  | some v => some v
  | none => u y
theorem lookup_mem' {y : Str} {v : Value} : ∀ {bs : List (Str × Value)}, bs.lookup y = some v → (y, v) ∈ bs
  | [], h => by cases h
  | (a, b) :: r, h => by
    rw [List.lookup_cons] at h
    cases e : (y == a) with
    | true => rw [e] at h; cases h; rw [eq_of_beq e]; exact .head _
    | false => rw [e] at h; exact .tail _ (lookup_mem' h)
theorem withL_self {bs : List (Str × Value)} {m : Str → Option Value} (h : ∀ p ∈ bs, m p.1 = some p.2) : m = withL bs m := by
  funext y
  unfold withL
  cases e : bs.lookup y with
  | none => rfl
  | some v => exact h _ (lookup_mem' e)
theorem withL_selfR {bs : List (Str × Value)} {m : Str → Option Value} (h : (bs.map fun p => m p.1) = bs.map fun p => some p.2) : m = withL bs m := withL_self (List.map_inj_left.mp h)
def FnAt (f : Addr) (h : Heap) : Prop := ∃ oc od fd sl, h.get? f = some ⟨oc, od, .func fd, sl⟩
def FnIn (ro : Led) (f : Addr) : Prop := ∃ oc od fd sl, (f, (⟨oc, od, .func fd, sl⟩ : Obj)) ∈ ro
theorem FnIn.at {ro : Led} {f : Addr} {g h : Heap} {L : Addr} {m : Str → Option Value} (i : FnIn ro f) (hro : ROn ro g) (F : Fr g L h m) : FnAt f h := let ⟨oc, od, fd, sl, hm⟩ := i; ⟨oc, od, fd, sl, F.keep _ _ (hro _ hm)⟩
theorem keeps_fn {M : Model} {f : Addr} (h : Heap) (X : FnAt f h) : ∃ k, (k = Keeper.frame ∨ k = Keeper.machine ∨ k = Keeper.boundFrame) ∧ Looks M h (keeperOf (.ref f)) k :=
  let ⟨_, _, _, _, e⟩ := X; ⟨.frame, .inl rfl, (Looks.ld (part := none) e).andThen .now⟩
theorem callWith_ro {M : Model} {A : Around} {E : Value → Shared → Prop} {s : Shared} {ro : Led} {g : Heap} {L f : Addr} {m : Str → Option Value} {first : List Value} {env : Env} {pos : Pos} {Q : Value → Shared → Prop} {e : PySem.Expr} {rest : List PySem.Expr} (hf : FnIn ro f) (_hro : ROn ro g) (_F : Fr g L s.heap m)
    (h : wpAny M A (spliced (backTo pos (starEach (e :: rest) env))) (fun vs s₁ => FnAt f s₁.heap ∧ wpAny M A (call (.ref f) (first ++ vs)) Q E s₁) E s)
    (he : starEach (e :: rest) env = (false, eval e env) :: starEach rest env := by rfl) (hplain : (backTo pos (starEach rest env)).any (·.1) = false := by rfl) :
    wpAny M A (callWith pos (.ref f) first (backTo pos (starEach (e :: rest) env)) []) Q E s := by
  let _ := hf
  rw [he] at h ⊢
  exact callWith_of (by show ((false || (backTo pos (starEach rest env)).any (·.1)) || false) = false; rw [hplain]; rfl) keeps_fn (PySem.Calls.evalArgs_plain h)
local macro_rules | `(tactic| walk_at "callWith ref") => `(tactic| (k_here; k_dflt (refine' callWith_ro ?k1 ?k2 ?k3 ?_; (case k1 => assumption); (case k2 => assumption); (case k3 => k_asm); k_whole)))
local macro_rules | `(tactic| walk_at "And") => `(tactic| ((with_reducible show FnAt _ _ ∧ _); refine ⟨FnIn.at (by assumption) (by assumption) (by k_asm), ?_⟩; try dsimp only [List.nil_append, List.cons_append]))

local macro_rules | `(tactic| walk_at "exec For Name Name cons nil") => `(tactic| walk_at "own stop")
local macro_rules | `(tactic| walk_at "exec For Tuple Call cons nil") => `(tactic| walk_at "own stop")
local macro_rules | `(tactic| walk_at "exec For Name Call cons nil") => `(tactic| walk_at "own stop")
local macro_rules | `(tactic| walk_at "call builtin:len") => `(tactic| (k_here; with_reducible refine at_len ?_; k_dflt (refine' len_list (News.isList ?k1 ?k2) ?k3 ?_; walk_at "own m"; (case k3 => (simp only [List.size_toArray]; omega)); k_whole)))
theorem kept1_con (w : World) (l pl vo nn vt : Addr) (cs : List Value) (ns : List Int) (n : Nat) (t1 t2 : Tok) (ro news : Led) (hp : IsLst ro pl [.ref nn]) (hvt : IsTp ro vt [.int 1 t1, .int 1 t2]) (hf : FnIn ro vo) (hcs : IntsAre cs ns) (hsz : cs.length ≤ 100)
    (hvo : ∀ (nw : Led) (v : Value) (a b : Int) (u1 u2 : Tok), Con w vo [.ref nn, v, .int a u1, .int b u2] ro nw 1 20 (fun r n' => n' = nw ∧ r = .ref vt)) :
    Con w 182 [.ref l, .ref pl, .ref vo] ro ((l, listOf cs.toArray n) :: news) 3 140 (fun r n' => ∃ (l' : Addr) (k : Nat), r = .ref l' ∧ n' = (l', listOf (cs.take 1).toArray k) :: (l, listOf cs.toArray n) :: news ∧ l < l') := by
  refine con_of [(Str.ofString "nodes", .ref l), (Str.ofString "predicates", .ref pl), (Str.ofString "value_of", .ref vo)] [(Str.ofString "value_of", .ref vo), (Str.ofString "predicates", .ref pl), (Str.ofString "nodes", .ref l)] (by k_is) (by k_is) rfl rfl (locs rfl) (by decide) rfl rfl rfl ?_
  intro prog mean mg mb dp un gd outer A₀ base g L s Q B F X N T hro hlt hd hu hret
  refine wpAny_execs_cons ?_
  refine for_ro (fun i m₁ nw => ∃ u, (i = 0 ∧ m₁ = withL [(Str.ofString "nodes", .ref l), (Str.ofString "value_of", .ref vo)] u ∧ nw = (l, listOf cs.toArray n) :: news) ∨ (∃ (l' : Addr) (k : Nat), i = 1 ∧ m₁ = withL [(Str.ofString "nodes", .ref l')] u ∧ nw = (l', listOf (cs.take 1).toArray k) :: (l, listOf cs.toArray n) :: news ∧ l < l')) rfl (hp.at0 hro) F N ?_
    ⟨_, .inl ⟨rfl, withL_selfR rfl, rfl⟩⟩ rfl rfl ?_ ?_ (by intro _; rfl)
  · intro Q' h; k_steps; exact h
  · intro i v m₁ news₁ h tk I oI hv hJ F₁ N₁ hI
    try k_fold
    obtain ⟨u, ⟨rfl, rfl, rfl⟩ | ⟨l', k, rfl, -⟩⟩ := hJ
    · obtain rfl : v = .ref nn := (Option.some.inj hv).symm
      dsimp only at F₁ N₁
      k_steps
      rename_i fl _ l1 _ F4 N4
      refine Stop.out ?_
      refine for_enum (n := n) (l := l) (vs := cs) (fun i m₁ nw => ∃ (u : Str → Option Value) (k : Nat) (tz : Tok), m₁ = withL [(Str.ofString "nodes", .ref l), (Str.ofString "value_of", .ref vo), (Str.ofString "found", .ref fl), (Str.ofString "predicate", .ref nn), (Str.ofString "size", .int cs.toArray.size tz)] u ∧ nw = (fl, listOf (cs.take (min i 1)).toArray k) :: (I, oI) :: (l, listOf cs.toArray n) :: news) rfl rfl rfl rfl F4 N4 ?_
        ⟨_, 0, _, withL_selfR rfl, rfl⟩ ?_ ?_ ?_ (by intro _; rfl)
      · intro Q' hq
        iterate 4 walk1
        exact hq _
      · rintro i m₁ news₁ ⟨u, k, tz, rfl, rfl⟩
        exact .tail _ (.tail _ (.head _))
      · intro i v tk m₁ news₁ h tk' e it oe oi hv
        revert m₁ news₁
        refine kx3_rn ?_
        intro u k tz F₂ N₂ hoff
        try k_fold
        dsimp only at F₂ N₂
        k_steps
        (try k_fold); refine con_callZ (hvo _ _ _ _ _ _) (by k_asm) (by k_asm) (by k_asm) (by k_asm) (by assumption) (by assumption) rfl (by walk_at "own r") (by walk_at "own r") ?_
        intro h5 tk5
        refine kx0_nr ?_
        intro F5 N5
        have hoff1 : @Ne Nat e fl ∧ @Ne Nat it fl := hoff _ (.head _)
        k_steps
        · have hi0 : i = 0 := by omega
          subst hi0
          rename Fr _ _ _ _ => F6
          rename News _ _ _ _ => N6
          have e6 : ((cs.take (min 0 1)).toArray.push v) = (cs.take (min (0 + 1) 1)).toArray := by
            cases cs with
            | nil => cases hv
            | cons c r => cases hv; rfl
          rw [e6] at N6
          exact TurnW.intro F6 N6 (fun _ hp => hp) (fun p hp q hq => by
            have hp2 : e ≠ p.1 ∧ it ≠ p.1 := by
              cases hp with
              | head => exact hoff1
              | tail _ hp => exact hoff p (.tail _ hp)
            cases hq with
            | head => exact hp2.1
            | tail _ hq => cases hq with
              | head => exact hp2.2
              | tail _ hq => cases hq) ⟨_, _, tz, withL_selfR rfl, rfl⟩
        · have hi0 : i ≠ 0 := by omega
          rename Fr _ _ _ _ => F6
          rename News _ _ _ _ => N6
          have e6 : min i 1 = min (i + 1) 1 := by omega
          rw [e6] at N6
          exact TurnW.intro F6 N6 (fun _ hp => hp) (fun p hp q hq => by
            have hp2 : e ≠ p.1 ∧ it ≠ p.1 := by
              cases hp with
              | head => exact hoff1
              | tail _ hp => exact hoff p (.tail _ hp)
            cases hq with
            | head => exact hp2.1
            | tail _ hq => cases hq with
              | head => exact hp2.2
              | tail _ hq => cases hq) ⟨_, _, tz, withL_selfR rfl, rfl⟩
      · intro m₁ news₁ h tk
        revert m₁ news₁
        refine kx3_rn ?_
        intro u k tz F₂ N₂
        try k_fold
        dsimp only at F₂ N₂
        k_steps
        rename_i F6 N6
        have e6 : cs.take (min cs.length 1) = cs.take 1 := by cases cs <;> simp
        rw [e6] at N6
        exact TurnV.intro F6 N6 sub_swap (List.forall_mem_cons.mpr ⟨Nat.ne_of_gt l1.1, hI⟩) ⟨_, .inr ⟨fl, k, (by first | rfl | trivial), withL_selfR rfl, rfl, l1.2.1⟩⟩
    · cases hv
  · intro m₁ news₁ h tk hJ F₁ N₁
    try k_fold
    obtain ⟨u, ⟨h0, -⟩ | ⟨l', k, -, rfl, rfl, hll⟩⟩ := hJ
    · cases h0
    · k_steps
      exact hret _ _ _ _ _ ⟨_, _, rfl, rfl, hll⟩ (by k_asm) (by k_asm)

local macro_rules | `(tactic| walk_at "call ref") => `(tactic| (with_reducible refine at_call 168 ?_; walk_at "own f"; k_dflt ((refine' con_callZ (axis_con _ _ _ _ _ _ _ _ _ _ ?kt ?kd) ?k1 ?k2 ?k3 ?k4 ?k5 ?k6 ?k8 ?k9 ?kA ?_); walk_at "own c"); walk_at "own l3"))
/-- as Con, what is read only standing among the kept -/
def ConK (w : World) (f : Addr) (vs : List Value) (ro news : Led) (D U : Nat) (R : Value → Led → Prop) : Prop :=
  ∀ (prog : Program) (mean : ExcName → Option Value) (mg mb : Str → Option Value) (dp un : Nat) (gd : Option (List Code)) (cn : Str) (cs : Scope) (a : Addr) (ccd : Value) (cl : List (Str × Addr)) (outer : List Env) (A₀ : Around) (base h₀ : Heap) (L : Addr) (m : Str → Option Value) (s : Shared) (RR : Result → Shared → Prop),
    Below A₀ base outer h₀ → Fr h₀ L s.heap m → (hd.heap_1 w.params).In h₀ → News h₀ L s.heap news → TopH mean mg mb h₀ → cs.kind = .function → ROn ro h₀ → dp + D < recursionLimit → un + U < cLine →
    (∀ r news' h' tk', R r news' → Fr h₀ L h' m → News h₀ L h' news' → RR (.ok (.ret r)) { s with heap := h', toks := tk' }) →
    codeAny (model prog w) (ktrTop dp un gd cn cs L a ccd cl outer) (.call (.ref f) ⟨vs, []⟩) RR s
theorem con_callK {w : World} {f : Addr} {vs : List Value} {ro news : Led} {D U : Nat} {R : Value → Led → Prop} (c : ConK w f vs ro news D U R)
    {prog : Program} {mean : ExcName → Option Value} {mg mb : Str → Option Value} {dp un : Nat} {gd : Option (List Code)} {cn : Str} {cs : Scope} {a : Addr} {ccd : Value} {cl : List (Str × Addr)} {outer : List Env} {A₀ : Around} {base h₀ : Heap} {L : Addr} {m : Str → Option Value} {s : Shared} {Q E : Value → Shared → Prop}
    (B : Below A₀ base outer h₀) (F : Fr h₀ L s.heap m) (X : (hd.heap_1 w.params).In h₀) (N : News h₀ L s.heap news) (T : TopH mean mg mb h₀) (hro : ROn ro h₀) (hk : cs.kind = .function) (hd : dp + D < recursionLimit) (hu : un + U < cLine)
    (h : ∀ r news' h' tk', R r news' → Fr h₀ L h' m → News h₀ L h' news' → Q r { s with heap := h', toks := tk' }) :
    wpAny (model prog w) (ktrTop dp un gd cn cs L a ccd cl outer) (call (.ref f) vs) Q E s :=
  wpAny_call (c prog mean mg mb dp un gd cn cs a ccd cl outer A₀ base h₀ L m s _ B F X N T hk hro hd hu fun r news' h' tk' hR F' N' => h r news' h' tk' hR F' N')
theorem con_of3 {w : World} {f : Addr} {vs : List Value} {ro news : Led} {D U : Nat} {R : Value → Led → Prop}
    {name qual : Str} {params : Arguments} {body : List Stmt} {scope : Scope} {dV kV doc pm cdv ct oc : Value} {an od : Option Addr} {osl : Array (Option Value)} (binds : List (Str × Value)) (m0 : Str → Option Value) (n1 n2 n3 : Str) (v1 v2 v3 : Value)
    (ho : (hd.heap_1 w.params).lookup f = some ⟨oc, od, .func (fnOf name qual params body scope dV kV doc pm an cdv ct), osl⟩) (hcd : codeIn (hd.heap_1 w.params) cdv qual = true)
    (hbind : bindArgs (fnOf name qual params body scope dV kV doc pm an cdv ct) ⟨vs, []⟩ = pure binds) (hkind : (binds.all fun y => scope.names.lookup y.1 == some .local || scope.names.lookup y.1 == some .cell) = true)
    (hnd : ((cellsFrom 0 scope.names []).map (·.1)).Nodup) (hcs : ∀ n, cellsFrom n scope.names [] = [(n3, n + 1 + 1), (n2, n + 1), (n1, n)])
    (hm : ∀ L, bindL (envOfC qual scope L f cdv).kindOf binds (fun _ => none) = m0) (h1 : ∀ L, bindC (envOfC qual scope L f cdv).kindOf binds (fun _ => none) n1 = some v1) (h2 : ∀ L, bindC (envOfC qual scope L f cdv).kindOf binds (fun _ => none) n2 = some v2) (h3 : ∀ L, bindC (envOfC qual scope L f cdv).kindOf binds (fun _ => none) n3 = some v3)
    (hco : scope.isCoroutine = false) (hgen : scope.isGenerator = false) (hk : scope.kind = .function)
    (h : ∀ (prog : Program) (mean : ExcName → Option Value) (mg mb : Str → Option Value) (dp un : Nat) (gd : Option (List Code)) (outer : List Env) (A₀ : Around) (base g : Heap) (L : Addr) (s : Shared) (o1 o2 o3 : Obj) (Q : Value → Shared → Prop),
      Below A₀ base outer g → Fr g L s.heap m0 → (hd.heap_1 w.params).In g → News g L s.heap ((L + 1 + 1 + 1, o3) :: (L + 1 + 1, o2) :: (L + 1, o1) :: news) → o1.data = .cell (some v1) → o2.data = .cell (some v2) → o3.data = .cell (some v3) → TopH mean mg mb g → ROn ro g → (∀ p ∈ news, p.1 < L) → dp + D < recursionLimit → un + U < cLine →
      (∀ r news' h' tk' m', R r news' → Fr g L h' m' → News g L h' news' → Q r { s with heap := h', toks := tk' }) →
      wpAny (model prog w) (ktrTop dp un gd qual scope L f cdv [(n3, L + 1 + 1 + 1), (n2, L + 1 + 1), (n1, L + 1)] outer) (execs body (envX qual scope L f cdv [(n3, L + 1 + 1 + 1), (n2, L + 1 + 1), (n1, L + 1)])) (fun fl s' => Q (match fl with | .ret v => v | _ => .none) s') (fun _ _ => False) s) :
    ConK w f vs ro news (D + 1) (U + 3) R := by
  intro prog mean mg mb dp un gd cn cs a ccd cl outer A₀ base h₀ L m s RR B F X N T hke hro hd hu hret
  have X' := X.keeps F.keep
  refine callX_cells (env := envX cn cs L a ccd cl) (R := RR) B F N T.nolimit rfl rfl hke (X' _ _ ho) rfl (codeRec_of X' hcd) (by show dp < _; omega) (BindsTo.of_eq hbind) (kindsX hkind) hnd (fun g L' h₁ tk cells FG F' N' Y B' st l => ?_) hco hgen hk
  rw [hcs] at Y
  obtain ⟨o3, o2, o1, rfl, e3, e2, e1⟩ := Y.three
  rw [hm] at F'
  rw [h1] at e1
  rw [h2] at e2
  rw [h3] at e3
  have e : envOfC qual scope L' f cdv = envX qual scope L' f cdv [(n3, L' + 1 + 1 + 1), (n2, L' + 1 + 1), (n1, L' + 1)] := by
    show envX qual scope L' f cdv (cellsFrom (L' + 1) scope.names []) = _
    rw [hcs]
  rw [e]
  refine wpAny_mono (h prog mean mg mb (dp + 1) (un + 3) gd (envX cn cs L a ccd cl :: outer) _ base g L' { s with heap := h₁, toks := tk } o1 o2 o3 (fun r s' => LeaveK h₀ L m g RR r s')
    B' F' (X.keeps fun b o e => st b o e) N' e1 e2 e3 (T.keeps fun b o e => st b o e) (fun p hp => st _ _ (hro p hp)) l (by omega) (by omega) ?_) (fun fl s' z => z) fun _ _ z => z.elim
  intro r news' h' tk' m' hR F2 N2
  exact leaveK_ F2 N2 fun F3 N3 => hret r news' h' tk' hR F3 N3


section
variable {M : Model} {A : Around} {E : Value → Shared → Prop} {s : Shared} {env : Env} {x : Str} {pos : Pos} {v : Value} {Q : Value → Shared → Prop} {m : Str → Option Value}
theorem nameB_L (hn : s.heap.Ns env.locals m) (hv : m x = some v) (hk : env.scope.kind = .function) (hx : env.kindOf x = some .local) (hd : (x == ("__debug__" : Str)) = false) (h : Q v s) : wpAny M A (eval (.Name x pos) env) Q E s := wpAny_Name (wpAny_loadName_local hk hx hn hv h) hd
theorem nameB_C {c : Addr} {o : Obj} (ho : s.heap.get? c = some o) (hd : o.data = .cell (some v)) (hc : env.cells.lookup x = some c) (hk : env.scope.kind = .function) (hx : env.kindOf x = some .cell) (hb : (x == ("__debug__" : Str)) = false) (h : Q v s) : wpAny M A (eval (.Name x pos) env) Q E s := wpAny_Name (wpAny_loadName_cell hk hx hc ⟨o, ho, hd⟩ h) hb
end
local macro_rules | `(tactic| walk_at "call ref") => `(tactic| (with_reducible refine at_call 93 ?_; walk_at "own f"; k_dflt ((refine' con_callX (passes_con _ _ _ _ _ _ _ _ _ _ _ _ _ ?kt ?kd ?kn ?km ?ko) ?k1 ?k2 ?k3 ?k4 ?k5 ?k6 ?k8 ?k9 ?kA ?_); walk_at "own c"); walk_at "own nr"))

local macro_rules | `(tactic| walk_at "eval Name") => `(tactic| (k_here; (with_reducible show wpAny _ _ (eval (Expr.Name _ _) (compEnvC _ _ _ _)) _ _ _); k_dflt (first | (refine' nameB_L ?n ?v ?k ?x ?d ?_; (case n => assumption); (case v => assumption); (case k => rfl); (case x => rfl); (case d => decide); k_whole) | (refine' lcf_cell ?N ?c ?m ?d ?_ ?a ?b; (case a => rfl); (case b => rfl); (case N => k_asm); (case c => rfl); (case m => k_mem); (case d => k_asm); k_whole) | (refine' nameG_K ?k1 ?k2 ?k3 ?k4 ?_ ?k5 ?k6 ?k7 ?k8; (case k5 => rfl); (case k6 => rfl); (case k7 => rfl); (case k8 => decide); (case k1 => k_asm); (case k2 => k_asm); (case k3 => k_asm); (case k4 => k_is); k_whole))))
theorem keep_all {g h h' : Heap} {L : Addr} {news nw : Led} (N : News g L h news) (N' : News g L h' nw) (hs : ∀ p ∈ news, p ∈ nw) (KB : KeepB h news h') : ∀ b o, h.get? b = some o → h'.get? b = some o := fun b o e => by
  by_cases hb : ∃ p ∈ news, p.1 = b
  · obtain ⟨p, hp, rfl⟩ := hb
    have h1 := (N p hp).1
    rw [e] at h1
    cases h1
    exact (N' p (hs p hp)).1
  · exact KB b o e fun p hp q => hb ⟨p, hp, q⟩
theorem news_butI {g h h' : Heap} {L I : Addr} {news : Led} (N : News g L h news) (hI : ∀ p ∈ news, p.1 ≠ I) (hk : ∀ b o, b ∉ [I] → h.get? b = some o → h'.get? b = some o) : News g L h' news := fun p hp => ⟨hk _ _ (fun hm => hI p hp (List.mem_singleton.mp hm)) (N p hp).1, (N p hp).2⟩
theorem fr_butI {g h h' : Heap} {L I : Addr} {m : Str → Option Value} (F : Fr g L h m) (hLI : L ≠ I) (hgI : g.get? I = none) (hk : ∀ b o, b ∉ [I] → h.get? b = some o → h'.get? b = some o) : Fr g L h' m :=
  ⟨F.ns.at fun o e => hk _ _ (fun hm => hLI (List.mem_singleton.mp hm)) e, fun b o e => hk b o (fun hm => by rw [List.mem_singleton.mp hm, hgI] at e; cases e) (F.keep b o e), F.above⟩
theorem fr_put {g h2 h' : Heap} {L I : Addr} {m m' : Str → Option Value} {oI : Obj} (F2 : Fr g L h2 m) (hn4 : h'.Ns L m') (hgI : g.get? I = none) (hk4 : ∀ b o, b ≠ L → b ∉ [I] → (h2.push oI).get? b = some o → h'.get? b = some o) : Fr g L h' m' :=
  ⟨hn4, fun b o e => hk4 b o (Nat.ne_of_lt (Nat.lt_of_lt_of_le (Heap.lt_size e) F2.above)) (fun hm => by rw [List.mem_singleton.mp hm, hgI] at e; cases e) (Heap.get?_push_of_some _ (F2.keep b o e)), F2.above⟩
theorem news_put {g h2 h' : Heap} {L I D : Addr} {m : Str → Option Value} {oI oD : Obj} {news : Led} (F2 : Fr g L h2 m) (N2 : News g L h2 news) (hI : ∀ p ∈ news, p.1 ≠ I) (hk4 : ∀ b o, b ≠ L → b ∉ [I] → (h2.push oI).get? b = some o → h'.get? b = some o) (hDo : h'.get? D = some oD) (hD : (h2.push oI).get? D = none) :
    News g L h' ((D, oD) :: news) := fun p hp => by
  rcases List.mem_cons.mp hp with rfl | hp
  · refine ⟨hDo, fun e => ?_, ?_⟩
    · obtain ⟨o, _, _, ho, _⟩ := F2.ns
      have e' : D = L := e
      rw [e', Heap.get?_push_of_some _ ho] at hD; cases hD
    · cases e : g.get? D with
      | none => rfl
      | some o => rw [Heap.get?_push_of_some _ (F2.keep _ _ e)] at hD; cases hD
  · exact ⟨hk4 _ _ (N2 p hp).2.1 (fun hm => hI p hp (List.mem_singleton.mp hm)) (Heap.get?_push_of_some _ (N2 p hp).1), (N2 p hp).2⟩
theorem paired_same {l : List Value} : ∀ {ys : List Value}, Paired (fun v y => y = v) l ys → ys = l := by
  induction l with
  | nil => intro ys h; cases h; rfl
  | cons a r ih => intro ys h; cases h with | cons e h => rw [e, ih h]
theorem ints_filter (q : Int → Bool) (p : Value → Bool) (hp : ∀ x t, p (.int x t) = q x) : ∀ {vs : List Value} {ns : List Int}, IntsAre vs ns → IntsAre (vs.filter p) (ns.filter q)
  | _, _, .nil => .nil
  | _, _, .cons n t r => by
    rw [List.filter_cons, List.filter_cons, hp]
    cases q n with
    | true => exact .cons n t (ints_filter q p hp r)
    | false => exact ints_filter q p hp r
theorem ints_take (k : Nat) : ∀ {vs : List Value} {ns : List Int}, IntsAre vs ns → IntsAre (vs.take k) (ns.take k) := by
  induction k with
  | zero => intro vs ns _; exact .nil
  | succ k ih => intro vs ns h; cases h with
    | nil => exact .nil
    | cons n t r => exact .cons n t (ih r)
def passN (dl : List NodeD) (ax : Str) (td : TestD) (x : Int) : Bool := match dl[x.toNat]? with
  | some d => passF d ax td
  | none => false
def passV (dl : List NodeD) (ax : Str) (td : TestD) : Value → Bool
  | .int x _ => passN dl ax td x
  | _ => false
theorem step_from_con (w : World) (T nd t st pl vo nn vt : Addr) (dl : List NodeD) (k : Nat) (d : NodeD) (tk ta t1 t2 : Tok) (at' : Bool) (td : TestD) (ro news : Led) (hT : TreeIn ro T dl) (hd : dl[k]? = some d) (hn : NamesIn w ro nd) (ht : TestIn ro t td)
    (hax : ∀ x ∈ axF d at', ∃ (j : Nat) (d' : NodeD), x = (j : Int) ∧ dl[j]? = some d' ∧ (d'.kind == Str.ofString "namespace") = false)
    (hst : Inst ro st 606 [(Str.ofString "axis", .str (axS at') ta), (Str.ofString "test", .ref t), (Str.ofString "predicates", .ref pl)]) (hp : IsLst ro pl [.ref nn]) (hvt : IsTp ro vt [.int 1 t1, .int 1 t2]) (hf : FnIn ro vo)
    (hvo : ∀ (nw : Led) (v : Value) (a b : Int) (u1 u2 : Tok), Con w vo [.ref nn, v, .int a u1, .int b u2] ro nw 1 20 (fun r n' => n' = nw ∧ r = .ref vt)) :
    ConK w 187 [.ref T, .int (k : Int) tk, .ref st, .ref nd, .ref vo] ro news 6 200 (fun r n' => ∃ (l : Addr) (cs : List Value) (n : Nat), r = .ref l ∧ n' = (l, listOf cs.toArray n) :: news ∧ IntsAre cs (((axF d at').filter (passN dl (axS at') td)).take 1) ∧ cs.length ≤ 100) := by
  refine con_of3 [(Str.ofString "tree", .ref T), (Str.ofString "node", .int (k : Int) tk), (Str.ofString "step", .ref st), (Str.ofString "names", .ref nd), (Str.ofString "value_of", .ref vo)] (fun y => if y = Str.ofString "value_of" then some (.ref vo) else if y = Str.ofString "node" then some (.int (k : Int) tk) else none)
    (Str.ofString "tree") (Str.ofString "step") (Str.ofString "names") (.ref T) (.ref st) (.ref nd) (by k_is) (by k_is) rfl rfl (by decide +kernel) (fun _ => rfl) (fun _ => rfl) (fun _ => rfl) (fun _ => rfl) (fun _ => rfl) rfl rfl rfl ?_
  obtain ⟨R, refs, iT, -, -, -, -⟩ := id hT
  intro prog mean mg mb dp un gd outer A₀ base g L s o1 o2 o3 Q B F X N hc1 hc2 hc3 T hro hlt hd hu hret
  refine wpAny_execs_cons ?_
  refine wpAny_Assign_ListComp_free (passV dl (axS at') td) (fun v y => y = v) (by rfl) (by rfl) (by decide) (by rfl) (by decide) (by rfl) (by rfl) (by rfl) ?_
  k_steps
  rename_i h2 tk2 l cs n hl hi hz F2 N2
  have hIL : h2.IsList l cs.toArray := ⟨_, (N2 _ (.head _)).1, rfl, _, rfl⟩
  have hlI : l ≠ h2.objs.size := Nat.ne_of_lt (Heap.lt_size (N2 _ (.head _)).1)
  have hLI : L ≠ h2.objs.size := Nat.ne_of_lt F2.ns.lt
  have hLl : L ≠ l := fun e => (N2 _ (.head _)).2.1 e.symm
  have hgI := next_is_new F2
  have hI2 : ∀ p ∈ (l, listOf cs.toArray n) :: (L + 1 + 1 + 1, o3) :: (L + 1 + 1, o2) :: (L + 1, o1) :: news, p.1 ≠ h2.objs.size := fun p hp => Nat.ne_of_lt (Heap.lt_size (N2 p hp).1)
  refine wpAny_pyIter_list hIL ?_
  refine ⟨h2.objs.size, _, _, _, _, _, _, rfl, Walks.list rfl h2.objs.size l hlI cs.toArray, ?_, ⟨⟨_, Heap.get?_push_size _ rfl, rfl, rfl⟩, hIL.at fun o e => Heap.get?_push_of_some _ e⟩, ?_, ?_, (F2.push _).ns, ⟨?_, ?_⟩, ?_⟩
  · have hsl := sizeLine_eq; simp only [List.size_toArray]; omega
  · intro b hb
    rw [Heap.size_push]
    rcases List.mem_cons.mp hb with rfl | hb
    · exact Nat.lt_succ_self _
    · rw [List.mem_singleton.mp hb]; exact Nat.lt_succ_of_lt (Heap.lt_size (N2 _ (.head _)).1)
  · intro hm; exact hLI (List.mem_singleton.mp hm)
  · intro C i v s₃ m₃ E' hC hP hn3 hm3 hk3 ht3
    have F3 := fr_butI (F2.push _) hLI hgI hk3
    have N3 := news_butI (fun p hp => ⟨Heap.get?_push_of_some _ (N2 p hp).1, (N2 p hp).2⟩) hI2 hk3
    have hv : cs[i]? = some v := by simpa using hP
    have hx : ∃ x t, v = .int x t ∧ x ∈ axF d at' := by
      obtain ⟨hlt', hg⟩ := List.getElem?_eq_some_iff.mp hv
      have hlen := hi.length
      obtain ⟨t, hx⟩ := hi.get i (axF d at')[i] (by simp [← hlen, hlt'])
      rw [hv] at hx
      exact ⟨_, t, Option.some.inj hx, List.getElem_mem _⟩
    obtain ⟨x, tx, rfl, hxm⟩ := hx
    obtain ⟨j, d', rfl, hdj, hns'⟩ := hax x hxm
    refine wpAny_tests_one ?_
    k_steps
    · simp only [passV, passN, Int.toNat_natCast, hdj]
    · exact ⟨_, _, rfl, keep_all N3 (by k_asm) sub0 (by k_asm)⟩
  · intro C i v s₃ m₃ E' hC hP hpv hn3 hm3 hk3 ht3
    k_steps
    exact ⟨_, _, rfl, fun _ _ e => e⟩
  · intro D h' tk ys vs hD hl2 hpl hlen hP hF hn4 hk4
    obtain ⟨nD, hDo⟩ := hpl
    obtain rfl : vs = cs := by
      apply List.ext_getElem?
      intro j
      cases e : vs[j]? with
      | none =>
        have h1 : vs.length ≤ j := by simpa using e
        have h2 : cs.length ≤ j := by have : vs.length = cs.length := by simpa using hlen
                                      omega
        simp [h2]
      | some v => have := hP j v e; simpa using this.symm
    have hys : ys = (vs.filter (passV dl (axS at') td)).toArray := by
      have := paired_same hF
      rw [← this]
    subst hys
    have F4 := fr_put F2 hn4 hgI hk4
    have N4 := news_put F2 N2 hI2 hk4 hDo hD
    have hIF : IntsAre (vs.filter (passV dl (axS at') td)) ((axF d at').filter (passN dl (axS at') td)) := ints_filter _ _ (fun _ _ => rfl) hi
    have hszF : (vs.filter (passV dl (axS at') td)).length ≤ 100 := Nat.le_trans (List.length_filter_le _ _) hz
    clear hk4 hP hF hl2 hDo hn4
    k_steps
    (try k_fold); refine con_callZ (kept1_con w D pl vo nn vt _ _ _ t1 t2 ro _ hp hvt hf hIF hszF hvo) (by k_asm) (by k_asm) (by k_asm) (by k_asm) (by assumption) (by assumption) rfl (by walk_at "own r") (by walk_at "own r") ?_
    intro h9 tk9
    refine kx2_rnp ?_
    intro l9 k9 hll F9 N9
    exact hret _ _ _ _ _ ⟨l9, _, k9, rfl, rfl, ints_take 1 hIF, Nat.le_trans (List.length_take_le _ _) (by omega)⟩ F9 (cb_drop N9 (subc fun p hp => .tail _ (.tail _ (.tail _ (.tail _ (.tail _ hp))))))

theorem parent_conN (w : World) (T : Addr) (dl : List NodeD) (k : Nat) (d : NodeD) (tk : Tok) (ro news : Led) (hT : TreeIn ro T dl) (hd : dl[k]? = some d) (hp : d.parent = none) :
    Con w 500 [.ref T, .int (k : Int) tk] ro news 2 24 (fun r n' => n' = news ∧ r = .none) := (parent_con w T dl k d tk ro news hT hd).mono fun r n h => ⟨h.1, by have := h.2; rw [hp] at this; exact this⟩
theorem parent_conS (w : World) (T : Addr) (dl : List NodeD) (k : Nat) (d : NodeD) (j : Int) (tk : Tok) (ro news : Led) (hT : TreeIn ro T dl) (hd : dl[k]? = some d) (hp : d.parent = some j) :
    Con w 500 [.ref T, .int (k : Int) tk] ro news 2 24 (fun r n' => n' = news ∧ ∃ t, r = .int j t) := (parent_con w T dl k d tk ro news hT hd).mono fun r n h => ⟨h.1, by have := h.2; rw [hp] at this; exact this⟩
def LookIn (w : World) (ro : Led) (lk T : Addr) (vo : Addr) : Prop := ∃ nd : Addr, Inst ro lk 246 [(Str.ofString "tree", .ref T), (Str.ofString "names", .ref nd), (Str.ofString "value_of", .ref vo)] ∧ NamesIn w ro nd
def StepIn (ro : Led) (st : Addr) (at' : Bool) (td : TestD) (pos : Bool) : Prop := ∃ (ta : Tok) (t pl : Addr), Inst ro st 606 [(Str.ofString "axis", .str (axS at') ta), (Str.ofString "test", .ref t), (Str.ofString "predicates", .ref pl)] ∧ TestIn ro t td ∧
  (if pos = true then ∃ (nn vt : Addr) (t1 t2 : Tok), IsLst ro pl [.ref nn] ∧ Inst ro nn 578 [(Str.ofString "value", .ref vt)] ∧ IsTp ro vt [.int 1 t1, .int 1 t2] else IsLst ro pl [])
def fitsF (dl : List NodeD) (k : Nat) (d : NodeD) (at' : Bool) (td : TestD) (pos : Bool) : Bool :=
  !((axS at' == Str.ofString "attribute") != (d.kind == Str.ofString "attribute")) && !([Str.ofString "root", Str.ofString "namespace"].any fun x => x == d.kind) && (match d.parent with
  | none => false
  | some p => passF d (axS at') td && (!pos || (match dl[p.toNat]? with | none => false | some dp => (((axF dp at').filter (passN dl (axS at') td)).take 1).any (fun x => x == (k : Int)))))
/-- what the lambda value_of does -/
def ValueOf (w : World) (ro : Led) (vo : Addr) : Prop := FnIn ro vo ∧ ∀ (nn vt : Addr), Inst ro nn 578 [(Str.ofString "value", .ref vt)] → ∀ (nw : Led) (v : Value) (a b : Int) (u1 u2 : Tok), Con w vo [.ref nn, v, .int a u1, .int b u2] ro nw 1 20 (fun r n' => n' = nw ∧ r = .ref vt)
/-- the document's own sense -/
structure DocOk (dl : List NodeD) : Prop where
  kinds : ∀ (k : Nat) (d : NodeD), dl[k]? = some d → (d.kind == Str.ofString "namespace") = false
  par : ∀ (k : Nat) (d : NodeD) (p : Int), dl[k]? = some d → d.parent = some p → ∃ (j : Nat) (dp : NodeD), p = (j : Int) ∧ dl[j]? = some dp ∧ ∀ at', ∀ x ∈ axF dp at', ∃ (i : Nat) (d' : NodeD), x = (i : Int) ∧ dl[i]? = some d' ∧ (d'.kind == Str.ofString "namespace") = false
local macro_rules | `(tactic| walk_at "call ref") => `(tactic| (with_reducible refine at_call 500 ?_; walk_at "own f"; k_dflt ((refine' con_callZ (parent_conN _ _ _ _ _ _ _ _ ?kt ?kd ?kn) ?k1 ?k2 ?k3 ?k4 ?k5 ?k6 ?k8 ?k9 ?kA ?_); walk_at "own c"); walk_at "own nr"))
local macro_rules | `(tactic| walk_at "call ref") => `(tactic| (with_reducible refine at_call 500 ?_; walk_at "own f"; k_dflt ((refine' con_callZ (parent_conS _ _ _ _ _ _ _ _ _ ?kt ?kd ?kn) ?k1 ?k2 ?k3 ?k4 ?k5 ?k6 ?k8 ?k9 ?kA ?_); walk_at "own c"); walk_at "own n1"))

theorem fits_step_con (w : World) (T st lk vo : Addr) (dl : List NodeD) (k : Nat) (d : NodeD) (tk : Tok) (at' : Bool) (td : TestD) (pos : Bool) (ro news : Led) (hT : TreeIn ro T dl) (hD : DocOk dl) (hdk : dl[k]? = some d) (hl : LookIn w ro lk T vo) (hvo : ValueOf w ro vo) (hs : StepIn ro st at' td pos) :
    Con w 278 [.ref st, .int (k : Int) tk, .ref lk] ro news 7 240 (fun r n' => n' = news ∧ r = .bool (fitsF dl k d at' td pos)) := by
  obtain ⟨R, refs, iT, -, -, -, -⟩ := id hT
  obtain ⟨nd, il, hn⟩ := hl
  obtain ⟨ta, t, pl, ist, ht, hpl⟩ := hs
  refine con_of [(Str.ofString "step", .ref st), (Str.ofString "node", .int (k : Int) tk), (Str.ofString "look", .ref lk)] [(Str.ofString "look", .ref lk), (Str.ofString "node", .int (k : Int) tk), (Str.ofString "step", .ref st)] (by k_is) (by k_is) rfl rfl (locs rfl) (by decide) rfl rfl rfl ?_
  have hns := hD.kinds k d hdk
  intro prog mean mg mb dp un gd outer A₀ base g L s Q B F X N T hro hlt hd hu hret
  cases hpar : d.parent with
  | none =>
    k_steps
    all_goals ((try dsimp only); refine fin_bool hret ?_ (by k_asm) (by k_asm) (by k_sub); simp [fitsF, *])
  | some p =>
    obtain ⟨j, dp, rfl, hdj, hax⟩ := hD.par k d p hdk hpar
    cases pos with
    | false =>
      rw [if_neg Bool.false_ne_true] at hpl
      k_steps
      all_goals ((try dsimp only); refine fin_bool hret ?_ (by k_asm) (by k_asm) (by k_sub); simp [fitsF, *])
    | true =>
      rw [if_pos rfl] at hpl
      obtain ⟨nn, vt, t1, t2, ipl, inn, ivt⟩ := hpl
      k_steps
      rotate_left 3
      · refine con_callK (step_from_con w _ nd t st pl vo nn vt dl j dp _ ta t1 t2 at' td ro _ hT hdj hn ht (hax at') ist ipl ivt hvo.1 (hvo.2 nn vt inn)) (by k_asm) (by k_asm) (by k_asm) (by k_asm) (by assumption) (by assumption) rfl (by walk_at "own r") (by walk_at "own r") ?_
        rintro _ _ h9 tk9 ⟨l9, cs9, n9, rfl, rfl, hi9, hz9⟩ F9 N9
        k_steps
        refine fin_bool hret ?_ (by k_asm) (by k_asm) (fun p hp => .tail _ (.tail _ hp))
        simp [fitsF, *]
      rotate_left 3
      · rename_i a9
        exact absurd a9 (by simp)
      all_goals ((try dsimp only); refine fin_bool hret ?_ (by k_asm) (by k_asm) (by k_sub); simp [fitsF, *])

local macro_rules | `(tactic| walk_at "call ref") => `(tactic| (with_reducible refine at_call 278 ?_; walk_at "own f"; k_dflt ((refine' con_callZ (fits_step_con _ _ _ _ _ _ _ _ _ _ _ _ _ _ ?kt ?kd ?kn ?km ?ko ?kp) ?k1 ?k2 ?k3 ?k4 ?k5 ?k6 ?k8 ?k9 ?kA ?_); walk_at "own c"); walk_at "own nr"))

def PatIn (ro : Led) (pt : Addr) (at' : Bool) (td : TestD) (pos : Bool) : Prop := ∃ (pts pr part st : Addr), Inst ro pt 225 [(Str.ofString "start", .none), (Str.ofString "parts", .ref pts), (Str.ofString "priority", .ref pr)] ∧ IsLst ro pts [.ref part] ∧
  Inst ro part 204 [(Str.ofString "step", .ref st), (Str.ofString "is_deep", .bool false)] ∧ StepIn ro st at' td pos
theorem eq_nil_ro {prog : Program} {w : World} {A : Around} {E : Value → Shared → Prop} {s : Shared} {ro news : Led} {g : Heap} {L a b : Addr} {m : Str → Option Value} {v : Value} {vs : List Value} {n : Nat} {Q : Value → Shared → Prop} (F : Fr g L s.heap m) (hro : ROn ro g) (N : News g L s.heap news)
    (I : IsLst ro a (v :: vs)) (hm : (b, listOf #[] n) ∈ news) (hu : A.units < cLine) (h : Q (.bool false) s) : wpAny (model prog w) A (compareOp .Eq (.ref a) (.ref b)) Q E s :=
  cmp_ofEq (PySem.SeqAt.RcAt.lists_lengths (I.at hro F) (News.isList N hm) rfl hu prog w E Q h)
local macro_rules | `(tactic| walk_at "compareOp Eq ref ref") => `(tactic| (k_here; k_dflt (refine' eq_nil_ro ?k1 ?k2 ?k3 ?k4 ?k5 ?k6 ?_; walk_at "own d"; (case k5 => k_mem); (case k6 => walk_at "own u"); k_whole)))
theorem fits_from_con (w : World) (T pt lk vo : Addr) (dl : List NodeD) (k : Nat) (d : NodeD) (tk t0 : Tok) (at' : Bool) (td : TestD) (pos : Bool) (ro news : Led) (hT : TreeIn ro T dl) (hD : DocOk dl) (hdk : dl[k]? = some d) (hl : LookIn w ro lk T vo) (hvo : ValueOf w ro vo) (hp : PatIn ro pt at' td pos) :
    Con w 271 [.ref pt, .int 0 t0, .int (k : Int) tk, .ref lk] ro news 8 250 (fun r n' => n' = news ∧ r = .bool (fitsF dl k d at' td pos)) := by
  obtain ⟨pts, pr, part, st, ip, ipts, ipart, ist⟩ := hp
  refine con_of [(Str.ofString "pattern", .ref pt), (Str.ofString "at", .int 0 t0), (Str.ofString "node", .int (k : Int) tk), (Str.ofString "look", .ref lk)] [(Str.ofString "look", .ref lk), (Str.ofString "node", .int (k : Int) tk), (Str.ofString "at", .int 0 t0), (Str.ofString "pattern", .ref pt)] (by k_is) (by k_is) rfl rfl (locs rfl) (by decide) rfl rfl rfl ?_
  intro prog mean mg mb dp un gd outer A₀ base g L s Q B F X N T hro hlt hd hu hret
  k_steps
  all_goals ((try dsimp only); refine fin_bool hret ?_ (by k_asm) (by k_asm) (by k_sub); simp [*])
local macro_rules | `(tactic| walk_at "call ref") => `(tactic| (with_reducible refine at_call 271 ?_; walk_at "own f"; k_dflt ((refine' con_callZ (fits_from_con _ _ _ _ _ _ _ _ _ _ _ _ _ _ _ ?kt ?kd ?kn ?km ?ko ?kp) ?k1 ?k2 ?k3 ?k4 ?k5 ?k6 ?k8 ?k9 ?kA ?_); walk_at "own c"); walk_at "own nr"))

theorem matches_con (w : World) (T pt lk vo : Addr) (dl : List NodeD) (k : Nat) (d : NodeD) (tk : Tok) (at' : Bool) (td : TestD) (pos : Bool) (ro news : Led) (hT : TreeIn ro T dl) (hD : DocOk dl) (hdk : dl[k]? = some d) (hl : LookIn w ro lk T vo) (hvo : ValueOf w ro vo) (hp : PatIn ro pt at' td pos) :
    Con w 257 [.ref pt, .int (k : Int) tk, .ref lk] ro news 9 260 (fun r n' => n' = news ∧ r = .bool (fitsF dl k d at' td pos)) := by
  obtain ⟨pts, pr, part, st, ip, ipts, ipart, ist⟩ := id hp
  refine con_of [(Str.ofString "pattern", .ref pt), (Str.ofString "node", .int (k : Int) tk), (Str.ofString "look", .ref lk)] [(Str.ofString "look", .ref lk), (Str.ofString "node", .int (k : Int) tk), (Str.ofString "pattern", .ref pt)] (by k_is) (by k_is) rfl rfl (locs rfl) (by decide) rfl rfl rfl ?_
  intro prog mean mg mb dp un gd outer A₀ base g L s Q B F X N T hro hlt hd hu hret
  k_steps
  exact fin_bool hret rfl (by k_asm) (by k_asm) sub1
local macro_rules | `(tactic| walk_at "call ref") => `(tactic| (with_reducible refine at_call 257 ?_; walk_at "own f"; k_dflt ((refine' con_callZ (matches_con _ _ _ _ _ _ _ _ _ _ _ _ _ _ ?kt ?kd ?kn ?km ?ko ?kp) ?k1 ?k2 ?k3 ?k4 ?k5 ?k6 ?k8 ?k9 ?kA ?_); walk_at "own c"); walk_at "own nr"))

def ModeIs (ro : Led) (v : Value) : Bool → Prop
  | false => v = .none
  | true => ∃ (a : Addr) (t1 t2 : Tok), v = .ref a ∧ IsTp ro a [.str (Str.ofString "") t1, .str (Str.ofString "m") t2]
structure RuleD where
  at' : Bool
  td : TestD
  pos : Bool
  mode : Bool
  p0 : Int
  p1 : Int
  place : Int
def RuleIn (ro : Led) (a : Addr) (rd : RuleD) : Prop := ∃ (pt pr bd : Addr) (mv : Value) (t1 t2 t3 t4 : Tok), Inst ro a 295 [(Str.ofString "pattern", .ref pt), (Str.ofString "mode", mv), (Str.ofString "priority", .ref pr), (Str.ofString "place", .int rd.place t1), (Str.ofString "element", .int rd.place t2), (Str.ofString "body", .ref bd)] ∧
  PatIn ro pt rd.at' rd.td rd.pos ∧ ModeIs ro mv rd.mode ∧ handedIn mv = true ∧ IsTp ro pr [.int rd.p0 t3, .int rd.p1 t4]
def RulesIn (ro : Led) (vs : List Value) (ds : List RuleD) : Prop := vs.length = ds.length ∧ ∀ (i : Nat) (rd : RuleD), ds[i]? = some rd → ∃ a : Addr, vs[i]? = some (Value.ref a) ∧ RuleIn ro a rd
theorem mode_eq {prog : Program} {w : World} {A : Around} {E : Value → Shared → Prop} {s : Shared} {ro : Led} {g : Heap} {L : Addr} {m : Str → Option Value} {v1 v2 : Value} {m1 m2 : Bool} {Q : Value → Shared → Prop} (F : Fr g L s.heap m) (hro : ROn ro g) (h1 : ModeIs ro v1 m1) (h2 : ModeIs ro v2 m2) (hu : A.units + 64 < cLine)
    (h : Q (.bool (m1 == m2)) s) : wpAny (model prog w) A (compareOp .Eq v1 v2) Q E s := by
  have rd : ∀ (v : Value) (md : Bool), ModeIs ro v md → ∃ as, Reads s.heap v (if md = true then PyData.tuple [.str (Str.ofString ""), .str (Str.ofString "m")] else PyData.none) as := by
    intro v md hm
    cases md with
    | false => rw [if_neg Bool.false_ne_true]; have e : v = .none := hm; exact ⟨_, e ▸ Reads.none⟩
    | true =>
      rw [if_pos rfl]
      obtain ⟨a, t1, t2, rfl, i⟩ := hm
      exact ⟨_, reads_tp F hro i (.cons (.str _ _) (.cons (.str _ _) .nil))⟩
  obtain ⟨as1, r1⟩ := rd v1 m1 h1
  obtain ⟨as2, r2⟩ := rd v2 m2 h2
  refine cmp_ofEq (eq_dataH r1 r2 ?_ ?_ hu ?_)
  · cases m1 <;> decide +kernel
  · cases m2 <;> decide +kernel
  · cases m1 <;> cases m2 <;> exact h
local macro_rules | `(tactic| walk_at "compareOp Eq") => `(tactic| (k_here; k_dflt (refine' mode_eq ?k1 ?k2 ?k3 ?k4 ?k5 ?_; walk_at "own a"; (case k4 => assumption); (case k5 => walk_at "own u"); k_whole)))

theorem ob8_5 {α1 α2 α3 α4 α5 α6 α7 α8 : Type} {p1 : α1 → α2 → α3 → α4 → α5 → α6 → α7 → α8 → Prop} {p2 : α1 → α2 → α3 → α4 → α5 → α6 → α7 → α8 → Prop} {p3 : α1 → α2 → α3 → α4 → α5 → α6 → α7 → α8 → Prop} {p4 : α1 → α2 → α3 → α4 → α5 → α6 → α7 → α8 → Prop} {p5 : α1 → α2 → α3 → α4 → α5 → α6 → α7 → α8 → Prop} {G : Prop} (h : ∃ x1 x2 x3 x4 x5 x6 x7 x8, p1 x1 x2 x3 x4 x5 x6 x7 x8 ∧ p2 x1 x2 x3 x4 x5 x6 x7 x8 ∧ p3 x1 x2 x3 x4 x5 x6 x7 x8 ∧ p4 x1 x2 x3 x4 x5 x6 x7 x8 ∧ p5 x1 x2 x3 x4 x5 x6 x7 x8) (H : ∀ x1 x2 x3 x4 x5 x6 x7 x8, p1 x1 x2 x3 x4 x5 x6 x7 x8 → p2 x1 x2 x3 x4 x5 x6 x7 x8 → p3 x1 x2 x3 x4 x5 x6 x7 x8 → p4 x1 x2 x3 x4 x5 x6 x7 x8 → p5 x1 x2 x3 x4 x5 x6 x7 x8 → G) : G := by
  obtain ⟨x1, x2, x3, x4, x5, x6, x7, x8, h1, h2, h3, h4, h5⟩ := h; exact H x1 x2 x3 x4 x5 x6 x7 x8 h1 h2 h3 h4 h5
def ruleHit (dl : List NodeD) (k : Nat) (d : NodeD) (md : Bool) (rd : RuleD) : Bool := rd.mode == md && fitsF dl k d rd.at' rd.td rd.pos
theorem find_first {α : Type} {p : α → Bool} : ∀ {ds : List α} {i : Nat} {rd : α}, ds[i]? = some rd → p rd = true → (∀ (j : Nat) (r : α), j < i → ds[j]? = some r → p r = false) → ds.find? p = some rd
  | [], i, rd, h, _, _ => by simp at h
  | x :: r, 0, rd, h, hp, _ => by
    obtain rfl : x = rd := by simpa using h
    rw [List.find?_cons, hp]
  | x :: r, i + 1, rd, h, hp, hno => by
    rw [List.find?_cons, hno 0 x (Nat.succ_pos _) rfl]
    exact find_first (by simpa using h) hp fun j y hj hy => hno (j + 1) y (Nat.succ_lt_succ hj) (by simpa using hy)
theorem best_rule_con (w : World) (T lk vo la rl : Addr) (dl : List NodeD) (k : Nat) (d : NodeD) (tk : Tok) (md : Bool) (mv : Value) (vs : List Value) (ds : List RuleD) (ro news : Led) (hT : TreeIn ro T dl) (hD : DocOk dl) (hdk : dl[k]? = some d) (hl : LookIn w ro lk T vo) (hvo : ValueOf w ro vo)
    (hm : ModeIs ro mv md) (hrl : IsLst ro rl vs) (hR : RulesIn ro vs ds) (hfa : FnIn ro la) (hla : ∀ (nw : Led) (v : Value), Con w la [v] ro nw 1 20 (fun r n' => n' = nw ∧ r = .ref lk)) :
    Con w 320 [.ref rl, .int (k : Int) tk, mv, .ref la] ro news 10 300 (fun r n' => n' = news ∧ match ds.find? (ruleHit dl k d md) with | none => r = .none | some rd => ∃ a : Addr, r = .ref a ∧ RuleIn ro a rd) := by
  refine con_of [(Str.ofString "rules", .ref rl), (Str.ofString "node", .int (k : Int) tk), (Str.ofString "mode", mv), (Str.ofString "look_at", .ref la)] [(Str.ofString "look_at", .ref la), (Str.ofString "mode", mv), (Str.ofString "node", .int (k : Int) tk), (Str.ofString "rules", .ref rl)] (by k_is) (by k_is) rfl rfl (locs rfl) (by decide) rfl rfl rfl ?_
  intro prog mean mg mb dp un gd outer A₀ base g L s Q B F X N T hro hlt hd hu hret
  refine wpAny_execs_cons ?_
  refine for_ro (fun i m₁ nw => nw = news ∧ (∃ u, m₁ = withL [(Str.ofString "node", .int (k : Int) tk), (Str.ofString "mode", mv), (Str.ofString "look_at", .ref la)] u) ∧ ∀ (j : Nat) (rd : RuleD), j < i → ds[j]? = some rd → ruleHit dl k d md rd = false) rfl (hrl.at0 hro) F N ?_
    ⟨rfl, ⟨_, withL_selfR rfl⟩, fun j rd hj => absurd hj (Nat.not_lt_zero _)⟩ rfl rfl ?_ ?_ (by intro _; rfl)
  · intro Q' h; k_steps; exact h
  · intro i v m₁ news₁ h tk I oI hv
    revert m₁ news₁
    refine kxn1_r_p ?_
    intro u hno F₁ N₁ hI
    try k_fold
    have hi : i < ds.length := hR.1 ▸ (List.getElem?_eq_some_iff.mp hv).1
    refine ob1_2 (hR.2 i ds[i] (by simp [hi])) ?_
    intro a hva hrin0
    refine ob8_5 hrin0 ?_
    clear hrin0
    intro pt pr bd mvr u1 u2 u3 u4 ia hpt hmr hmh ipr
    obtain rfl : v = .ref a := by rw [hv] at hva; exact Option.some.inj hva
    have hdi : ds[i]? = some ds[i] := by simp [hi]
    dsimp only at F₁ N₁
    k_steps
    · (try k_fold); refine con_callZ (hla _ _) (by k_asm) (by k_asm) (by k_asm) (by k_asm) (by assumption) (by assumption) rfl (by walk_at "own r") (by walk_at "own r") ?_
      intro h5 tk5
      refine kx0_nr ?_
      intro F5 N5
      k_steps
      · refine hret _ _ _ _ _ ⟨rfl, ?_⟩ (by k_asm) (cb_drop (by k_asm) sub1)
        rw [find_first hdi (by simp only [ruleHit, Bool.and_eq_true]; exact ⟨by assumption, by assumption⟩) hno]
        exact ⟨a, rfl, pt, pr, bd, mvr, u1, u2, u3, u4, ia, hpt, hmr, hmh, ipr⟩
      · refine TurnV.intro (by k_asm) (by k_asm) sub0 hI ⟨rfl, ⟨_, withL_selfR rfl⟩, fun j rd hj hjd => ?_⟩
        rcases Nat.lt_succ_iff_lt_or_eq.mp hj with hj | rfl
        · exact hno j rd hj hjd
        · rw [hdi] at hjd; cases hjd; simp [ruleHit, *]
    · refine TurnV.intro (by k_asm) (by k_asm) sub0 hI ⟨rfl, ⟨_, withL_selfR rfl⟩, fun j rd hj hjd => ?_⟩
      rcases Nat.lt_succ_iff_lt_or_eq.mp hj with hj | rfl
      · exact hno j rd hj hjd
      · rw [hdi] at hjd; cases hjd; simp [ruleHit, *]
  · intro m₁ news₁ h tk
    revert m₁ news₁
    refine kxn1_r_p ?_
    intro u hno F₁ N₁
    try k_fold
    dsimp only at F₁ N₁
    k_steps
    refine hret _ _ _ _ _ ⟨rfl, ?_⟩ (by k_asm) (by k_asm)
    rw [List.find?_eq_none.mpr fun rd hrd => ?_]
    obtain ⟨j, hj, e⟩ := List.getElem_of_mem hrd
    rw [hno j rd (hR.1 ▸ hj) (by rw [← e]; simp)]
    exact Bool.false_ne_true

theorem assign_tp {prog : Program} {w : World} {A : Around} {E : Value → Shared → Prop} {s : Shared} {ro news : Led} {g : Heap} {L a : Addr} {m : Str → Option Value} {vs : List Value} {env : Env} {elts : List PySem.Expr} {x1 : Nat} {pos : Pos} {Q : Unit → Shared → Prop} (F : Fr g L s.heap m) (hro : ROn ro g) (N : News g L s.heap news) (I : IsTp ro a vs) (hh : A.handled = none)
    (hn : (assignEach elts env).length = vs.length) (hstar : (assignEach elts env).findIdx? (·.1) = none)
    (h : ∀ h', Fr g L h' m → News g L h' news → wpAny (model prog w) A (assignInOrder ((assignEach elts env).map (·.2)) vs) Q E { s with heap := h' }) : wpAny (model prog w) A (assign (.Tuple elts x1 pos) env (.ref a)) Q E s := by
  obtain ⟨n, hm⟩ := I
  refine wpAny_assign_Tuple hh ⟨_, F.keep _ _ (hro _ hm), rfl, _, rfl⟩ (by simpa using hn) hstar fun h' hx => ?_
  have hk : ∀ b o, s.heap.get? b = some o → h'.get? b = some o := fun b o e => hx b o (Nat.ne_of_lt (Heap.lt_size e)) e
  simpa using h h' (F.keeps hk) fun p hp => ⟨hk _ _ (N p hp).1, (N p hp).2⟩
local macro_rules | `(tactic| walk_at "assign Tuple") => `(tactic| (k_here; k_dflt (refine' assign_tp ?k1 ?k2 ?k3 ?k4 ?k5 ?k6 ?k7 ?_; walk_at "own d"; (case k5 => rfl); (case k6 => rfl); (case k7 => rfl); k_whole); intro h' F' N'))
def RowTp (ro : Led) (a : Addr) (i : Int) (d : NodeD) : Prop := ∃ t0 t1 t2 t3 : Tok, IsTp ro a [.int i t0, .str d.kind t1, .str d.uri t2, .str d.loc t3]
def lawFits (d : NodeD) (at' : Bool) (td : TestD) : Bool :=
  !(d.kind == Str.ofString "root") && !((d.kind == Str.ofString "attribute") != (axS at' == Str.ofString "attribute")) && (match td with
  | .node => true
  | .text => d.kind == Str.ofString "text"
  | .comment => d.kind == Str.ofString "comment"
  | .instr none => d.kind == Str.ofString "instruction"
  | .instr (some x) => d.kind == Str.ofString "instruction" && d.loc == x
  | .any => [Str.ofString "element", Str.ofString "attribute"].any fun x => x == d.kind
  | .anyOf => ([Str.ofString "element", Str.ofString "attribute"].any fun x => x == d.kind) && d.uri == Str.ofString "u"
  | .name p l => ([Str.ofString "element", Str.ofString "attribute"].any fun x => x == d.kind) && (d.uri == uriOf p && d.loc == l))
theorem shaped2 {x y : Str} (h1 : PyData.strOk x = true) (h2 : PyData.strOk y = true) : SeqAt.shaped (.tuple [.str x, .str y]) = true := by simp [SeqAt.shaped, PyData.canLay0, PyData.canLayAll0, PyData.depth, PyData.depthAll, h1, h2]
theorem eq_tpS {prog : Program} {w : World} {A : Around} {E : Value → Shared → Prop} {s : Shared} {news : Led} {g : Heap} {L a b : Addr} {x1 x2 y1 y2 : Str} {t1 t2 u1 u2 : Tok} {n n' : Nat} {Q : Value → Shared → Prop} (N : News g L s.heap news)
    (hl : (a, ({ cls := .type "tuple", data := .seq #[.str x1 t1, .str x2 t2] n } : Obj)) ∈ news) (hm : (b, ({ cls := .type "tuple", data := .seq #[.str y1 u1, .str y2 u2] n' } : Obj)) ∈ news) (o1 : PyData.strOk x1 = true) (o2 : PyData.strOk x2 = true) (o3 : PyData.strOk y1 = true) (o4 : PyData.strOk y2 = true) (hu : A.units + 64 < cLine) (h : Q (.bool (x1 == y1 && x2 == y2)) s) :
    wpAny (model prog w) A (compareOp .Eq (.ref a) (.ref b)) Q E s := by
  refine cmp_ofEq ?_
  refine eq_dataH (reads_tuple_at (News.get N hl) rfl rfl (.cons (.str _ _) (.cons (.str _ _) .nil))) (reads_tuple_at (News.get N hm) rfl rfl (.cons (.str _ _) (.cons (.str _ _) .nil))) (shaped2 o1 o2) (shaped2 o3 o4) hu ?_
  simpa only [PyData.eqv, PyData.eqvAll, Bool.and_true] using h
local macro_rules | `(tactic| walk_at "compareOp Eq ref ref") => `(tactic| (k_here; k_dflt (refine' eq_tpS ?k1 ?k4 ?k5 ?o1 ?o2 ?o3 ?o4 ?k6 ?_; (case k1 => k_asm); (case k4 => k_mem); (case k5 => k_mem); (case o1 => first | assumption | decide +kernel); (case o2 => first | assumption | decide +kernel); (case o3 => first | assumption | decide +kernel); (case o4 => first | assumption | decide +kernel); (case k6 => walk_at "own u"); k_whole)))
theorem in2 {prog : Program} {w : World} {A : Around} {E : Value → Shared → Prop} {s : Shared} {news : Led} {g : Heap} {L a : Addr} {x y1 y2 : Str} {t u1 u2 : Tok} {n : Nat} {Q : Value → Shared → Prop} (N : News g L s.heap news)
    (hl : (a, listOf #[.str y1 u1, .str y2 u2] n) ∈ news) (h : Q (.bool ([y1, y2].any (· == x))) s) : wpAny (model prog w) A (compareOp .In (.str x t) (.ref a)) Q E s :=
  in_list_strs (vs := [.str y1 u1, .str y2 u2]) (News.isList N hl) (.cons _ _ (.cons _ _ .nil)) h
theorem notin2 {prog : Program} {w : World} {A : Around} {E : Value → Shared → Prop} {s : Shared} {news : Led} {g : Heap} {L a : Addr} {x y1 y2 : Str} {t u1 u2 : Tok} {n : Nat} {Q : Value → Shared → Prop} (N : News g L s.heap news)
    (hl : (a, listOf #[.str y1 u1, .str y2 u2] n) ∈ news) (h : Q (.bool (!([y1, y2].any (· == x)))) s) : wpAny (model prog w) A (compareOp .NotIn (.str x t) (.ref a)) Q E s :=
  notin_list_strs (vs := [.str y1 u1, .str y2 u2]) (News.isList N hl) (.cons _ _ (.cons _ _ .nil)) h
local macro_rules | `(tactic| walk_at "compareOp In str ref") => `(tactic| (k_here; k_dflt (refine' in2 ?k1 ?k2 ?_; walk_at "own m"; k_whole)))
local macro_rules | `(tactic| walk_at "compareOp NotIn str ref") => `(tactic| (k_here; k_dflt (refine' notin2 ?k1 ?k2 ?_; walk_at "own m"; k_whole)))
theorem in_opt {prog : Program} {w : World} {A : Around} {E : Value → Shared → Prop} {s : Shared} {news : Led} {g : Heap} {L a : Addr} {v : Value} {d : PyData} {y : Str} {u : Tok} {n : Nat} {as : List Addr} {Q : Value → Shared → Prop} (N : News g L s.heap news)
    (hl : (a, listOf #[.none, .str y u] n) ∈ news) (r : Reads s.heap v d as) (hd : d.canLay0 = true) (o : PyData.strOk y = true) (hu : A.units + 65 < cLine) (hdd : d.depth = 0) (h : Q (.bool (PyData.eqv .none d || PyData.eqv (.str y) d)) s) : wpAny (model prog w) A (compareOp .In v (.ref a)) Q E s := by
  refine SeqAt.in_list_reads (reads_list_at (News.get N hl) rfl rfl (.cons .none (.cons (.str _ _) .nil))) r (by simp [PyData.canLay0, PyData.canLayAll0, o]) hd ?_ (by simpa only [List.any_cons, List.any_nil, Bool.or_false] using h)
  rw [hdd, Nat.min_zero]; omega
theorem in_opt_none {prog : Program} {w : World} {A : Around} {E : Value → Shared → Prop} {s : Shared} {news : Led} {g : Heap} {L a : Addr} {y : Str} {u : Tok} {n : Nat} {Q : Value → Shared → Prop} (N : News g L s.heap news)
    (hl : (a, listOf #[.none, .str y u] n) ∈ news) (o : PyData.strOk y = true) (hu : A.units + 65 < cLine) (h : Q (.bool true) s) : wpAny (model prog w) A (compareOp .In .none (.ref a)) Q E s :=
  in_opt N hl Reads.none (by simp [PyData.canLay0]) o hu (by simp [PyData.depth]) (by simpa only [PyData.eqv, Bool.true_or] using h)
theorem in_opt_str {prog : Program} {w : World} {A : Around} {E : Value → Shared → Prop} {s : Shared} {news : Led} {g : Heap} {L a : Addr} {x y : Str} {t u : Tok} {n : Nat} {Q : Value → Shared → Prop} (N : News g L s.heap news)
    (hl : (a, listOf #[.none, .str y u] n) ∈ news) (o : PyData.strOk y = true) (o' : PyData.strOk x = true) (hu : A.units + 65 < cLine) (h : Q (.bool (y == x)) s) : wpAny (model prog w) A (compareOp .In (.str x t) (.ref a)) Q E s :=
  in_opt N hl (Reads.str _ _) (by simp [PyData.canLay0, o']) o hu (by simp [PyData.depth]) (by simpa only [PyData.eqv, Bool.false_or] using h)
local macro_rules | `(tactic| walk_at "compareOp In none ref") => `(tactic| (k_here; k_dflt (refine' in_opt_none ?k1 ?k2 ?k3 ?k4 ?_; walk_at "own m"; (case k3 => assumption); (case k4 => walk_at "own u"); k_whole)))
local macro_rules | `(tactic| walk_at "compareOp In str ref") => `(tactic| (k_here; k_dflt (refine' in_opt_str ?k1 ?k2 ?k3 ?k5 ?k4 ?_; walk_at "own m"; (case k3 => assumption); (case k5 => assumption); (case k4 => walk_at "own u"); k_whole)))
def TestOk : TestD → Prop
  | .name _ l => PyData.strOk l = true
  | .instr (some x) => PyData.strOk x = true
  | _ => True
/-- where it stands among the facts, the walk waits ahead of the test's parts -/
def TestWait : Prop := True
theorem wait_test {P : Prop} (_hm : TestWait) (h : Stop P) : P := h
local macro_rules | `(tactic| walk_at "subscriptTail Name Constant ref int") => `(tactic| ((with_reducible show wpAny _ _ (subscriptTail (PySem.Expr.Name (Str.ofString "test") _) _ _ _) _ _ _); refine' wait_test ?hm ?_; (case hm => assumption)))
theorem law_fits_con (w : World) (a t : Addr) (i : Int) (d : NodeD) (at' : Bool) (ta : Tok) (td : TestD) (ro news : Led) (hr : RowTp ro a i d) (ht : TestIn ro t td) (o1 : PyData.strOk d.uri = true) (o2 : PyData.strOk d.loc = true) (o3 : TestOk td) :
    Con w 652 [.ref a, .str (axS at') ta, .ref t] ro news 2 100 (fun r n' => n' = news ∧ r = .bool (lawFits d at' td)) := by
  obtain ⟨t0, u1, u2, u3, ir⟩ := hr
  refine con_of [(Str.ofString "row", .ref a), (Str.ofString "axis_here", .str (axS at') ta), (Str.ofString "test", .ref t)] [(Str.ofString "test", .ref t), (Str.ofString "axis_here", .str (axS at') ta), (Str.ofString "row", .ref a)] (by k_is) (by k_is) rfl rfl (locs rfl) (by decide) rfl rfl rfl ?_
  intro prog mean mg mb dp un gd outer A₀ base g L s Q B F X N T hro hlt hd hu hret
  have hw : TestWait := trivial
  k_steps
  all_goals first
    | (refine Stop.out ?_
       clear hw
       cases td with
       | name p l =>
         obtain ⟨hp, t1, t2, t3, it⟩ := ht
         (try dsimp only [TestOk] at o3)
         rcases hp with rfl | rfl
         all_goals k_steps
         all_goals ((try dsimp only); refine fin_bool hret ?_ (by k_asm) (by k_asm) (by k_sub); simp [lawFits, uriOf_e, uriOf_p, *])
       | any =>
         obtain ⟨t1, it⟩ := ht
         k_steps
         all_goals ((try dsimp only); refine fin_bool hret ?_ (by k_asm) (by k_asm) (by k_sub); simp [lawFits, *])
       | anyOf =>
         obtain ⟨t1, t2, it⟩ := ht
         k_steps
         all_goals ((try dsimp only); refine fin_bool hret ?_ (by k_asm) (by k_asm) (by k_sub); simp [lawFits, *])
       | node =>
         obtain ⟨t1, it⟩ := ht
         k_steps
         all_goals ((try dsimp only); refine fin_bool hret ?_ (by k_asm) (by k_asm) (by k_sub); simp [lawFits, *])
       | text =>
         obtain ⟨t1, it⟩ := ht
         k_steps
         all_goals ((try dsimp only); refine fin_bool hret ?_ (by k_asm) (by k_asm) (by k_sub); simp [lawFits, *])
       | comment =>
         obtain ⟨t1, it⟩ := ht
         k_steps
         all_goals ((try dsimp only); refine fin_bool hret ?_ (by k_asm) (by k_asm) (by k_sub); simp [lawFits, *])
       | instr o =>
         (try dsimp only [TestOk] at o3)
         cases o with
         | none =>
           obtain ⟨t1, it⟩ := ht
           k_steps
           all_goals ((try dsimp only); refine fin_bool hret ?_ (by k_asm) (by k_asm) (by k_sub); simp [lawFits, *])
         | some x =>
           obtain ⟨t1, t2, it⟩ := ht
           k_steps
           all_goals ((try dsimp only); refine fin_bool hret ?_ (by k_asm) (by k_asm) (by k_sub); simp [lawFits, *]))
    | ((try dsimp only); refine fin_bool hret ?_ (by k_asm) (by k_asm) (by k_sub); simp [lawFits, *])

def aboveF (a b : RuleD) : Bool := decide (b.p0 * a.p1 < a.p0 * b.p1) || (a.p0 * b.p1 == b.p0 * a.p1 && decide (b.place < a.place))
def PrOk (rd : RuleD) : Prop := -9 ≤ rd.p0 ∧ rd.p0 ≤ 9 ∧ 1 ≤ rd.p1 ∧ rd.p1 ≤ 9
theorem mul_pr {a b : Int} (h1 : -9 ≤ a) (h2 : a ≤ 9) : IntMulOk a b := IntMulOk.of_left (intBits_le_64 (by omega) (by omega))
local macro_rules | `(tactic| walk_at "binaryOp Mult int int") => `(tactic| (k_dflt refine mul_int ?_ (by assumption)))
theorem is_above_con (w : World) (a b : Addr) (ra rb : RuleD) (ro news : Led) (ha : RuleIn ro a ra) (hb : RuleIn ro b rb) (hpa : PrOk ra) (hpb : PrOk rb) :
    Con w 306 [.ref a, .ref b] ro news 2 100 (fun r n' => n' = news ∧ r = .bool (aboveF ra rb)) := by
  refine con_of [(Str.ofString "one", .ref a), (Str.ofString "other", .ref b)] [(Str.ofString "other", .ref b), (Str.ofString "one", .ref a)] (by k_is) (by k_is) rfl rfl (locs rfl) (by decide) rfl rfl rfl ?_
  refine ob8_5 ha ?_
  intro pt pr bd mv t1 t2 t3 t4 ia _ _ _ ipa
  refine ob8_5 hb ?_
  intro pt' pr' bd' mv' t1' t2' t3' t4' ib _ _ _ ipb
  have m1 : IntMulOk ra.p0 rb.p1 := mul_pr hpa.1 hpa.2.1
  have m2 : IntMulOk rb.p0 ra.p1 := mul_pr hpb.1 hpb.2.1
  intro prog mean mg mb dp un gd outer A₀ base g L s Q B F X N T hro hlt hd hu hret
  k_steps
  all_goals ((try dsimp only); refine fin_bool hret ?_ (by k_asm) (by k_asm) (by k_sub); simp [aboveF, *])
def builtInF (k : Str) : Str := if ([Str.ofString "root", Str.ofString "element"].any fun x => x == k) = true then Str.ofString "go on" else if ([Str.ofString "text", Str.ofString "attribute"].any fun x => x == k) = true then Str.ofString "text" else Str.ofString "nothing"
theorem built_in_con (w : World) (k : Str) (tk : Tok) (ro news : Led) : Con w 327 [.str k tk] ro news 2 100 (fun r n' => n' = news ∧ ∃ t, r = .str (builtInF k) t) := by
  refine con_of [(Str.ofString "kind", .str k tk)] [(Str.ofString "kind", .str k tk)] (by k_is) (by k_is) rfl rfl (locs rfl) (by decide) rfl rfl rfl ?_
  intro prog mean mg mb dp un gd outer A₀ base g L s Q B F X N T hro hlt hd hu hret
  k_steps
  all_goals ((try dsimp only); refine hret _ _ _ _ _ ⟨rfl, _, congrArg (fun z => Value.str z _) ?_⟩ (by k_asm) (cb_drop (by k_asm) (by k_sub)))
  · rw [builtInF, if_pos (by assumption)]
  · rw [builtInF, if_neg (Bool.eq_false_iff.mp (by assumption)), if_pos (by assumption)]
  · rw [builtInF, if_neg (Bool.eq_false_iff.mp (by assumption)), if_neg (Bool.eq_false_iff.mp (by assumption))]

def priAddr (td : TestD) (pos : Bool) : Addr := if pos = true then 331 else match td with
  | .name _ _ => 328
  | .instr (some _) => 328
  | .anyOf => 329
  | _ => 330
theorem priority_conR (w : World) (pts part st : Addr) (at' pos : Bool) (td : TestD) (tk : Tok) (ro news : Led) (_hp : IsLst ro pts [.ref part]) (_hq : Inst ro part 204 [(Str.ofString "step", .ref st), (Str.ofString "is_deep", .bool false)]) (_hs : StepIn ro st at' td pos) :
    Con w 338 [.str (Str.ofString "root") tk, .ref pts] ro news 2 100 (fun r n' => n' = news ∧ r = .ref 331) := by
  refine con_of [(Str.ofString "start", .str (Str.ofString "root") tk), (Str.ofString "parts", .ref pts)] [(Str.ofString "parts", .ref pts), (Str.ofString "start", .str (Str.ofString "root") tk)] (by k_is) (by k_is) rfl rfl (locs rfl) (by decide) rfl rfl rfl ?_
  intro prog mean mg mb dp un gd outer A₀ base g L s Q B F X N T hro hlt hd hu hret
  k_steps
  exact hret _ _ _ _ _ ⟨rfl, rfl⟩ (by k_asm) (by k_asm)
theorem priority_conN (w : World) (pts part st : Addr) (at' pos : Bool) (td : TestD) (ro news : Led) (hp : IsLst ro pts [.ref part]) (hq : Inst ro part 204 [(Str.ofString "step", .ref st), (Str.ofString "is_deep", .bool false)]) (hs : StepIn ro st at' td pos) :
    Con w 338 [.none, .ref pts] ro news 2 100 (fun r n' => n' = news ∧ r = .ref (priAddr td pos)) := by
  obtain ⟨ta, t, pl, ist, ht, hpl⟩ := hs
  refine con_of [(Str.ofString "start", .none), (Str.ofString "parts", .ref pts)] [(Str.ofString "parts", .ref pts), (Str.ofString "start", .none)] (by k_is) (by k_is) rfl rfl (locs rfl) (by decide) rfl rfl rfl ?_
  intro prog mean mg mb dp un gd outer A₀ base g L s Q B F X N T hro hlt hd hu hret
  cases pos with
  | true =>
    rw [if_pos rfl] at hpl
    obtain ⟨nn, vt, t1, t2, ipl, -, -⟩ := hpl
    k_steps
    all_goals ((try dsimp only); first | exact hret _ _ _ _ _ ⟨rfl, rfl⟩ (by k_asm) (by k_asm) | exact absurd (show (0 : Int) < (([Value.ref nn] : List Value).length : Int) by simp) (by assumption))
  | false =>
    rw [if_neg Bool.false_ne_true] at hpl
    have hw : TestWait := trivial
    k_steps
    all_goals first
      | (refine Stop.out ?_
         clear hw
         cases td with
         | name p l =>
           obtain ⟨hp', t1, t2, t3, it⟩ := ht
           k_steps
           all_goals ((try dsimp only); first | exact hret _ _ _ _ _ ⟨rfl, rfl⟩ (by k_asm) (by k_asm) | (exfalso; rename_i a9; exact absurd a9 (by simp)))
         | any =>
           obtain ⟨t1, it⟩ := ht
           k_steps
           all_goals ((try dsimp only); first | exact hret _ _ _ _ _ ⟨rfl, rfl⟩ (by k_asm) (by k_asm) | (exfalso; rename_i a9; exact absurd a9 (by simp)))
         | anyOf =>
           obtain ⟨t1, t2, it⟩ := ht
           k_steps
           all_goals ((try dsimp only); first | exact hret _ _ _ _ _ ⟨rfl, rfl⟩ (by k_asm) (by k_asm) | (exfalso; rename_i a9; exact absurd a9 (by simp)))
         | node =>
           obtain ⟨t1, it⟩ := ht
           k_steps
           all_goals ((try dsimp only); first | exact hret _ _ _ _ _ ⟨rfl, rfl⟩ (by k_asm) (by k_asm) | (exfalso; rename_i a9; exact absurd a9 (by simp)))
         | text =>
           obtain ⟨t1, it⟩ := ht
           k_steps
           all_goals ((try dsimp only); first | exact hret _ _ _ _ _ ⟨rfl, rfl⟩ (by k_asm) (by k_asm) | (exfalso; rename_i a9; exact absurd a9 (by simp)))
         | comment =>
           obtain ⟨t1, it⟩ := ht
           k_steps
           all_goals ((try dsimp only); first | exact hret _ _ _ _ _ ⟨rfl, rfl⟩ (by k_asm) (by k_asm) | (exfalso; rename_i a9; exact absurd a9 (by simp)))
         | instr o =>
           cases o with
           | none =>
             obtain ⟨t1, it⟩ := ht
             k_steps
             all_goals ((try dsimp only); first | exact hret _ _ _ _ _ ⟨rfl, rfl⟩ (by k_asm) (by k_asm) | (exfalso; rename_i a9; exact absurd a9 (by simp)))
           | some x =>
             obtain ⟨t1, t2, it⟩ := ht
             k_steps
             all_goals ((try dsimp only); first | exact hret _ _ _ _ _ ⟨rfl, rfl⟩ (by k_asm) (by k_asm) | (exfalso; rename_i a9; exact absurd a9 (by simp))))
      | (exfalso; rename_i a9; exact absurd a9 (by simp))

abbrev VR := Value × RuleD
def insR (x : VR) (l : List VR) : List VR := l.takeWhile (fun y => aboveF y.2 x.2) ++ x :: l.dropWhile (fun y => aboveF y.2 x.2)
def rankR (ps : List VR) : List VR := ps.foldl (fun acc x => insR x acc) []
theorem insR_perm (x : VR) (l : List VR) : (insR x l).Perm (x :: l) := by
  unfold insR
  refine List.perm_middle.trans (List.Perm.cons _ ?_)
  rw [List.takeWhile_append_dropWhile]
theorem foldR_perm : ∀ (ps acc : List VR), (ps.foldl (fun acc x => insR x acc) acc).Perm (ps ++ acc)
  | [], _ => .refl _
  | x :: ps, acc => (foldR_perm ps (insR x acc)).trans (((insR_perm x acc).append_left ps).trans List.perm_middle)
theorem rankR_perm (ps : List VR) : (rankR ps).Perm ps := by simpa [rankR] using foldR_perm ps []
theorem rankR_succ {ps : List VR} {i : Nat} {x : VR} (h : ps[i]? = some x) : rankR (ps.take (i + 1)) = insR x (rankR (ps.take i)) := by
  rw [List.take_add_one, h, rankR, List.foldl_append]; rfl
theorem while_at {α : Type} {p : α → Bool} : ∀ {l : List α} {j : Nat}, j ≤ l.length → (∀ i x, i < j → l[i]? = some x → p x = true) → (∀ x, l[j]? = some x → p x = false) → l.takeWhile p = l.take j ∧ l.dropWhile p = l.drop j
  | [], j, _, _, _ => by simp
  | x :: r, 0, _, _, h => by
    have := h x rfl
    simp [this]
  | x :: r, j + 1, hj, ha, hn => by
    have h0 := ha 0 x (Nat.succ_pos _) rfl
    obtain ⟨e1, e2⟩ := while_at (l := r) (j := j) (Nat.le_of_succ_le_succ hj) (fun i y hi hy => ha (i + 1) y (Nat.succ_lt_succ hi) hy) (fun y hy => hn y hy)
    simp [h0, e1, e2]
theorem insR_at {x : VR} {l : List VR} {j : Nat} (hj : j ≤ l.length) (ha : ∀ i y, i < j → l[i]? = some y → aboveF y.2 x.2 = true) (hn : ∀ y, l[j]? = some y → aboveF y.2 x.2 = false) : kl_ins (l.map (·.1)) (j : Int) x.1 = (insR x l).map (·.1) := by
  obtain ⟨e1, e2⟩ := while_at (p := fun y => aboveF y.2 x.2) hj ha hn
  rw [insR, e1, e2, kl_ins, if_neg (by omega), List.length_map, Int.toNat_natCast, Nat.min_eq_left hj, List.map_append, List.map_cons, List.map_take, List.map_drop]
def PsIn (ro : Led) (ps : List VR) : Prop := ∀ p ∈ ps, ∃ a : Addr, p.1 = .ref a ∧ RuleIn ro a p.2 ∧ PrOk p.2
theorem item_led {prog : Program} {w : World} {A : Around} {E : Value → Shared → Prop} {s : Shared} {news : Led} {g : Heap} {L a : Addr} {vs : List Value} {n : Nat} {v : Value} {value slice : PySem.Expr} {k : Int} {u : Tok} {Q : Value → Shared → Prop} (N : News g L s.heap news) (hm : (a, listOf vs.toArray n) ∈ news) (h0 : 0 ≤ k) (hhi : k < 2 ^ 63) (hx : vs[k.toNat]? = some v) (h : Q v s)
    (hs : subscripted slice false (.ref a) (.int k u) = operate [.ref a, .int k u] (getItem (.ref a) (.int k u)) := by with_unfolding_all rfl) :
    wpAny (model prog w) A (subscriptTail value slice (.ref a) (.int k u)) Q E s := item_litK (News.isList N hm) h0 hhi hx h hs
local macro_rules | `(tactic| walk_at "exec While") => `(tactic| walk_at "own stop")
def RankExit (g : Heap) (L : Addr) (s : Shared) (fl a I : Addr) (oI : Obj) (l : List VR) (pd : RuleD) (k : Nat) (news : Led) (f : Flow) (s₂ : Shared) : Prop :=
  f = .next ∧ ∃ (h' : Heap) (tk' j : Nat) (u : Str → Option Value) (tj : Tok), s₂ = { s with heap := h', toks := tk' } ∧ Fr g L h' (withL [(Str.ofString "at", .int (j : Int) tj), (Str.ofString "rule", .ref a), (Str.ofString "found", .ref fl)] u) ∧ News g L h' ((I, oI) :: (fl, listOf (l.map (·.1)).toArray k) :: news) ∧
      j ≤ l.length ∧ (∀ i y, i < j → l[i]? = some y → aboveF y.2 pd = true) ∧ (∀ y, l[j]? = some y → aboveF y.2 pd = false)
theorem in_rank_con (w : World) (rl : Addr) (ps : List VR) (ro news : Led) (hl : IsLst ro rl (ps.map (·.1))) (hp : PsIn ro ps) (hsz : ps.length ≤ 50) :
    Con w 313 [.ref rl] ro news 4 300 (fun r n' => ∃ (l : Addr) (k : Nat), r = .ref l ∧ n' = (l, listOf ((rankR ps).map (·.1)).toArray k) :: news ∧ ∀ p ∈ news, p.1 < l) := by
  refine con_of [(Str.ofString "rules", .ref rl)] [(Str.ofString "rules", .ref rl)] (by k_is) (by k_is) rfl rfl (locs rfl) (by decide) rfl rfl rfl ?_
  intro prog mean mg mb dp un gd outer A₀ base g L s Q B F X N T hro hlt hd hu hret
  k_steps
  rename_i fl _ l1 _ F4 N4
  refine Stop.out ?_
  refine for_ro (fun i m₁ nw => ∃ (u : Str → Option Value) (k : Nat), m₁ = withL [(Str.ofString "found", .ref fl)] u ∧ nw = (fl, listOf ((rankR (ps.take i)).map (·.1)).toArray k) :: news) rfl (hl.at0 hro) F4 N4 ?_
    ⟨_, 0, withL_selfR rfl, rfl⟩ rfl rfl ?_ ?_ (by intro _; rfl)
  · intro Q' h; k_steps; exact h
  · intro i v m₁ news₁ h tk I oI hv
    revert m₁ news₁
    refine kx2_rn ?_
    intro u k F₁ N₁ hI
    try k_fold
    dsimp only at F₁ N₁
    obtain ⟨pi, hpi, rfl⟩ : ∃ pi : VR, ps[i]? = some pi ∧ v = pi.1 := by
      rw [List.getElem?_map] at hv
      cases e : ps[i]? with
      | none => rw [e] at hv; cases hv
      | some x => rw [e] at hv; exact ⟨x, rfl, (Option.some.inj hv).symm⟩
    obtain ⟨a, hva, hra, hpr⟩ := hp pi (List.mem_of_getElem? hpi)
    obtain ⟨l, hl'⟩ : ∃ l, l = rankR (ps.take i) := ⟨_, rfl⟩
    have hperm : l.Perm (ps.take i) := hl' ▸ rankR_perm _
    have hlen : (l.map (·.1)).length ≤ 100 := by rw [List.length_map, hperm.length_eq, List.length_take]; omega
    have hlp : PsIn ro l := fun q hq => hp q (List.mem_of_mem_take (hperm.mem_iff.mp hq))
    have hsucc : rankR (ps.take (i + 1)) = insR pi l := by rw [rankR_succ hpi, hl']
    rw [← hl'] at N₁ hI
    rw [hva] at F₁
    k_steps
    rename_i h6 F6 N6
    refine Stop.out ?_
    refine wpAny_mono (Q := RankExit g L s fl a I oI l pi.2 k news) ?_ ?_ (fun _ _ z => z)
    · refine While_inv2 (n₀ := l.length) (fun n m₁ nw => ∃ (j : Nat) (u : Str → Option Value) (tj : Tok), n = l.length - j ∧ m₁ = withL [(Str.ofString "at", .int (j : Int) tj), (Str.ofString "rule", .ref a), (Str.ofString "found", .ref fl)] u ∧ nw = (I, oI) :: (fl, listOf (l.map (·.1)).toArray k) :: news ∧ j ≤ l.length ∧ (∀ i y, i < j → l[i]? = some y → aboveF y.2 pi.2 = true)) F6 N6
        ⟨0, _, _, rfl, withL_selfR rfl, rfl, Nat.zero_le _, fun i y hi => absurd hi (Nat.not_lt_zero _)⟩ ?_ PassesOwn.never
      intro n m₁ nw h tk F₂ N₂ hJ
      try k_fold
      obtain ⟨j, u, tj, rfl, rfl, rfl, hj, hab⟩ := hJ
      k_steps
      · have hjl : j < l.length := by
          have h1 : (j : Int) < (((l.map (·.1)).toArray.size : Nat) : Int) := by assumption
          rw [List.size_toArray, List.length_map] at h1; omega
        have hlen2 : l.length ≤ 100 := by rw [List.length_map] at hlen; exact hlen
        obtain ⟨y, hy⟩ : ∃ y, l[j]? = some y := ⟨l[j], by simp [hjl]⟩
        obtain ⟨b, hyb, hrb, hpb⟩ := hlp y (List.mem_of_getElem? hy)
        refine item_led (v := .ref b) (by k_asm) (by k_mem) (by omega) (by omega) (by rw [Int.toNat_natCast, List.getElem?_map, hy, ← hyb]; rfl) ?_
        k_steps
        (try k_fold); refine con_callZ (is_above_con w b a y.2 pi.2 ro _ hrb hra hpb hpr) (by k_asm) (by k_asm) (by k_asm) (by k_asm) (by assumption) (by assumption) rfl (by walk_at "own r") (by walk_at "own r") ?_
        intro h5 tk5
        refine kx0_nr ?_
        intro F5 N5
        k_steps
        · refine ⟨_, _, _, _, l.length - (j + 1), rfl, by k_asm, by k_asm, by omega, j + 1, _, _, rfl, withL_selfR rfl, rfl, hjl, fun i y' hi hy' => ?_⟩
          rcases Nat.lt_succ_iff_lt_or_eq.mp hi with hi | rfl
          · exact hab i y' hi hy'
          · rw [hy] at hy'; cases hy'; assumption
        · refine ⟨rfl, _, _, j, u, tj, rfl, by k_asm, by k_asm, hj, hab, fun y' hy' => ?_⟩
          rw [hy] at hy'; cases hy'; assumption
      · refine ⟨rfl, _, _, j, u, tj, rfl, by k_asm, by k_asm, hj, hab, fun y hy => ?_⟩
        exfalso
        have h2 := (List.getElem?_eq_some_iff.mp hy).1
        have h1 : ¬ (j : Int) < (((l.map (·.1)).toArray.size : Nat) : Int) := by assumption
        rw [List.size_toArray, List.length_map] at h1
        omega
    · rintro f s₂ ⟨rfl, h7, tk7, j, u7, tj, rfl, F7, N7, hj, hab, hno⟩
      k_steps
      have hlen2 : l.length ≤ 100 := by rw [List.length_map] at hlen; exact hlen
      have hIfl : @Ne Nat I fl := fun e => hI _ (.head _) e.symm
      refine kl_insert (l := (insR pi l).map (·.1)) (by k_asm) (by k_asm) (by simp only [Builtin.List.listFitsIndex]; simp; omega) (by rw [← hva]; exact insR_at hj hab hno) (by k_upd) (by rw [List.toList_toArray]; have hsl := sizeLine_eq; omega) ?_
      intro h8 F8 N8
      k_steps
      rw [← hsucc] at N8
      exact TurnV.intro (by k_asm) N8 sub0 (List.forall_mem_cons.mpr ⟨fun e => hIfl e.symm, fun p hp => hI p (.tail _ hp)⟩) ⟨_, _, withL_selfR rfl, rfl⟩
  · intro m₁ news₁ h tk
    revert m₁ news₁
    refine kx2_rn ?_
    intro u k F₁ N₁
    try k_fold
    dsimp only at F₁ N₁
    k_steps
    rw [List.length_map, List.take_length] at N₁
    exact hret _ _ _ _ _ ⟨fl, k, rfl, rfl, l1⟩ (by k_asm) (by k_asm)

theorem under_make' (dp un : Nat) (gd : Option (List Code)) (cn : Str) (cs : Scope) (L a : Addr) (ccd : Value) (cl : List (Str × Addr)) (outer : List Env) (C : Addr) (vs : List Value) :
    (ktrTop dp un gd cn cs L a ccd cl outer).under (.builtin "type.__call__" ⟨.ref C :: vs, []⟩) = ktrTop (dp + 1) (un + 1) gd cn cs L a ccd cl outer := by
  cases gd <;> rfl
theorem con_cls {w : World} {C fI : Addr} {vs : List Value} {ro news : Led} {D U : Nat} {R : Value → Led → Prop} (hm : makesIn (hd.heap_1 w.params) C = true) (hi : findIn (hd.heap_1 w.params) (.ref C) "__init__" = some (some (.ref fI))) (hf : isFn (hd.heap_1 w.params) (.ref fI) = true)
    (c : ∀ x dx : Addr, (∀ p ∈ news, p.1 < dx) → @LT.lt Nat _ dx x → (∀ p ∈ ro, p.1 < dx) → Con w fI (.ref x :: vs) ro ((x, instObj C dx) :: (dx, dictOf [] 0) :: news) D U (fun r n' => r = .none ∧ R (.ref x) n')) : Con w C vs ro news (D + 1) (U + 1) R := by
  intro prog mean mg mb dp un gd cn cs a ccd cl outer A₀ base h₀ L m s RR B F X N T hke hro hd hu hret
  obtain ⟨hh, g, d, t, os⟩ := s
  have X' := X.keeps F.keep
  refine make_core (makes_of X' hm) (looks_findIn X' hi) (fun self => bind_fn X' self (beq_iff_eq.mp hf)) (.inl rfl) ?_
  rw [under_make']
  have N' := (N.push F emptyDict).push (F.push _) (instObj C hh.objs.size)
  rw [Heap.size_push] at N'
  have hk : ∀ b o, hh.get? b = some o → ((hh.push emptyDict).push (instObj C hh.objs.size)).get? b = some o := fun b o e => Heap.get?_push_of_some _ (Heap.get?_push_of_some _ e)
  refine c (hh.objs.size + 1) hh.objs.size (fun p hp => Heap.lt_size (N p hp).1) (Nat.lt_succ_self _) (fun p hp => Heap.lt_size (hro p hp).1) prog mean mg mb (dp + 1) (un + 1) gd cn cs a ccd cl outer A₀ base h₀ L m ⟨(hh.push emptyDict).push (instObj C hh.objs.size), g, d, t, os⟩ _ B ((F.push _).push _) X N' T hke ?_ (by omega) (by omega) ?_
  · intro p hp
    obtain ⟨e1, e2⟩ := hro p hp
    have hl := Heap.lt_size e1
    refine ⟨hk _ _ e1, fun q hq => ?_⟩
    cases hq with
    | head => exact fun e => absurd hl (by rw [← e]; exact Nat.not_lt.mpr (Nat.le_succ _))
    | tail _ hq => cases hq with
      | head => exact fun e => absurd hl (by rw [← e]; exact Nat.lt_irrefl _)
      | tail _ hq => exact e2 q hq
  · rintro r n' h' tk' ⟨rfl, hR⟩ F' N2 KB
    refine ⟨rfl, hret _ _ _ _ hR F' N2 fun b o e hb => KB b o (hk b o e) fun p hp => ?_⟩
    have hl := Heap.lt_size e
    cases hp with
    | head => exact fun e => absurd hl (by rw [← e]; exact Nat.not_lt.mpr (Nat.le_succ _))
    | tail _ hp => cases hp with
      | head => exact fun e => absurd hl (by rw [← e]; exact Nat.lt_irrefl _)
      | tail _ hp => exact hb p hp
inductive DE : List DictEntry → List (Str × Value) → Prop
  | nil : DE [] []
  | cons (h : Int) (k : Str) (t : Tok) (v : Value) {es fs} : DE es fs → DE (⟨h, .str k t, v⟩ :: es) ((k, v) :: fs)
theorem DE.get {es : List DictEntry} {fs : List (Str × Value)} (d : DE es fs) : ∀ nm, getL nm es = some (fs.lookup nm) := by
  intro nm
  have hr : es.any (·.refKey) = false := by
    induction d with
    | nil => rfl
    | cons h k t v d ih => rw [List.any_cons, ih]; rfl
  have hg : ∀ x, getL nm es = x ↔ (match es.find? (·.key.isStr nm) with | some e => some (some e.val) | none => some none) = x := by
    intro x; unfold getL; rw [hr]; rfl
  rw [hg]
  clear hg hr
  induction d with
  | nil => rfl
  | cons h k t v d ih =>
    rw [List.find?_cons, List.lookup_cons]
    by_cases e : nm = k
    · subst e
      rw [show (Value.str nm t).isStr nm = true by simp [Value.isStr]]; simp
    · rw [show (Value.str k t).isStr nm = false by simp [Value.isStr]; exact fun e' => e e'.symm, show (nm == k) = false from beq_eq_false_iff_ne.mpr e]
      exact ih
theorem mk_row_con (w : World) (k n u l v : Str) (t1 t2 t3 t4 t5 : Tok) (pv : Value) (ro news : Led) :
    Con w 356 [.str k t1, .str n t2, .str u t3, .str l t4, .str v t5, pv] ro news 3 100 (fun r n' => ∃ (x dx c at' ns : Addr) (es : List DictEntry) (z : Nat), r = .ref x ∧ n' = (ns, listOf #[] 0) :: (at', listOf #[] 0) :: (c, listOf #[] 0) :: (x, instObj 356 dx) :: (dx, dictOf es z) :: news ∧
      (∀ p ∈ news, p.1 < dx) ∧ (∀ p ∈ ro, p.1 < dx) ∧ @LT.lt Nat _ dx x ∧ @LT.lt Nat _ x c ∧ @LT.lt Nat _ c at' ∧ @LT.lt Nat _ at' ns ∧ DE es [(Str.ofString "kind", .str k t1), (Str.ofString "name", .str n t2), (Str.ofString "uri", .str u t3), (Str.ofString "local", .str l t4), (Str.ofString "value", .str v t5), (Str.ofString "parent", pv), (Str.ofString "children", .ref c), (Str.ofString "attributes", .ref at'), (Str.ofString "namespaces", .ref ns)]) := by
  refine con_cls (fI := 353) (D := 2) (U := 99) (by k_is) (by k_is) (by k_is) fun x dx hnx hxx hrx => ?_
  refine con_of [(Str.ofString "self", .ref x), (Str.ofString "kind", .str k t1), (Str.ofString "name", .str n t2), (Str.ofString "uri", .str u t3), (Str.ofString "local", .str l t4), (Str.ofString "value", .str v t5), (Str.ofString "parent", pv)] [(Str.ofString "parent", pv), (Str.ofString "value", .str v t5), (Str.ofString "local", .str l t4), (Str.ofString "uri", .str u t3), (Str.ofString "name", .str n t2), (Str.ofString "kind", .str k t1), (Str.ofString "self", .ref x)] (by k_is) (by k_is) rfl rfl (locs rfl) (by decide) rfl rfl rfl ?_
  intro prog mean mg mb dp un gd outer A₀ base g L s Q B F X N T hro hlt hd hu hret
  k_steps
  rename_i c _ lc _ _ a _ la _ _ b _ lb h7 F7 N7
  refine hret _ _ _ _ _ ⟨rfl, x, dx, c, a, b, _, _, rfl, rfl, hnx, hrx, hxx, lc.1, la.1, lb.1, ?de⟩ F7 N7
  case de => repeat constructor
theorem mk_number_con (w : World) (v0 : Value) (ro news : Led) :
    Con w 578 [v0] ro news 3 100 (fun r n' => ∃ (x dx : Addr) (es : List DictEntry) (z : Nat), r = .ref x ∧ n' = (x, instObj 578 dx) :: (dx, dictOf es z) :: news ∧ (∀ p ∈ news, p.1 < dx) ∧ (∀ p ∈ ro, p.1 < dx) ∧ @LT.lt Nat _ dx x ∧ DE es [(Str.ofString "value", v0)]) := by
  refine con_cls (fI := 568) (D := 2) (U := 99) (by k_is) (by k_is) (by k_is) fun x dx hnx hxx hrx => ?_
  refine con_of [(Str.ofString "self", .ref x), (Str.ofString "value", v0)] [(Str.ofString "value", v0), (Str.ofString "self", .ref x)] (by k_is) (by k_is) rfl rfl (locs rfl) (by decide) rfl rfl rfl ?_
  intro prog mean mg mb dp un gd outer A₀ base g L s Q B F X N T hro hlt hd hu hret
  k_steps
  rename_i h7 F7 N7
  refine hret _ _ _ _ _ ⟨rfl, x, dx, _, _, rfl, rfl, hnx, hrx, hxx, ?de⟩ F7 N7
  case de => repeat constructor
theorem mk_step_con (w : World) (v0 v1 v2 : Value) (ro news : Led) :
    Con w 606 [v0, v1, v2] ro news 3 100 (fun r n' => ∃ (x dx : Addr) (es : List DictEntry) (z : Nat), r = .ref x ∧ n' = (x, instObj 606 dx) :: (dx, dictOf es z) :: news ∧ (∀ p ∈ news, p.1 < dx) ∧ (∀ p ∈ ro, p.1 < dx) ∧ @LT.lt Nat _ dx x ∧ DE es [(Str.ofString "axis", v0), (Str.ofString "test", v1), (Str.ofString "predicates", v2)]) := by
  refine con_cls (fI := 596) (D := 2) (U := 99) (by k_is) (by k_is) (by k_is) fun x dx hnx hxx hrx => ?_
  refine con_of [(Str.ofString "self", .ref x), (Str.ofString "axis", v0), (Str.ofString "test", v1), (Str.ofString "predicates", v2)] [(Str.ofString "predicates", v2), (Str.ofString "test", v1), (Str.ofString "axis", v0), (Str.ofString "self", .ref x)] (by k_is) (by k_is) rfl rfl (locs rfl) (by decide) rfl rfl rfl ?_
  intro prog mean mg mb dp un gd outer A₀ base g L s Q B F X N T hro hlt hd hu hret
  k_steps
  rename_i h7 F7 N7
  refine hret _ _ _ _ _ ⟨rfl, x, dx, _, _, rfl, rfl, hnx, hrx, hxx, ?de⟩ F7 N7
  case de => repeat constructor
theorem mk_part_con (w : World) (v0 v1 : Value) (ro news : Led) :
    Con w 204 [v0, v1] ro news 3 100 (fun r n' => ∃ (x dx : Addr) (es : List DictEntry) (z : Nat), r = .ref x ∧ n' = (x, instObj 204 dx) :: (dx, dictOf es z) :: news ∧ (∀ p ∈ news, p.1 < dx) ∧ (∀ p ∈ ro, p.1 < dx) ∧ @LT.lt Nat _ dx x ∧ DE es [(Str.ofString "step", v0), (Str.ofString "is_deep", v1)]) := by
  refine con_cls (fI := 201) (D := 2) (U := 99) (by k_is) (by k_is) (by k_is) fun x dx hnx hxx hrx => ?_
  refine con_of [(Str.ofString "self", .ref x), (Str.ofString "step", v0), (Str.ofString "is_deep", v1)] [(Str.ofString "is_deep", v1), (Str.ofString "step", v0), (Str.ofString "self", .ref x)] (by k_is) (by k_is) rfl rfl (locs rfl) (by decide) rfl rfl rfl ?_
  intro prog mean mg mb dp un gd outer A₀ base g L s Q B F X N T hro hlt hd hu hret
  k_steps
  rename_i h7 F7 N7
  refine hret _ _ _ _ _ ⟨rfl, x, dx, _, _, rfl, rfl, hnx, hrx, hxx, ?de⟩ F7 N7
  case de => repeat constructor
theorem mk_pattern_con (w : World) (v0 v1 v2 : Value) (ro news : Led) :
    Con w 225 [v0, v1, v2] ro news 3 100 (fun r n' => ∃ (x dx : Addr) (es : List DictEntry) (z : Nat), r = .ref x ∧ n' = (x, instObj 225 dx) :: (dx, dictOf es z) :: news ∧ (∀ p ∈ news, p.1 < dx) ∧ (∀ p ∈ ro, p.1 < dx) ∧ @LT.lt Nat _ dx x ∧ DE es [(Str.ofString "start", v0), (Str.ofString "parts", v1), (Str.ofString "priority", v2)]) := by
  refine con_cls (fI := 222) (D := 2) (U := 99) (by k_is) (by k_is) (by k_is) fun x dx hnx hxx hrx => ?_
  refine con_of [(Str.ofString "self", .ref x), (Str.ofString "start", v0), (Str.ofString "parts", v1), (Str.ofString "priority", v2)] [(Str.ofString "priority", v2), (Str.ofString "parts", v1), (Str.ofString "start", v0), (Str.ofString "self", .ref x)] (by k_is) (by k_is) rfl rfl (locs rfl) (by decide) rfl rfl rfl ?_
  intro prog mean mg mb dp un gd outer A₀ base g L s Q B F X N T hro hlt hd hu hret
  k_steps
  rename_i h7 F7 N7
  refine hret _ _ _ _ _ ⟨rfl, x, dx, _, _, rfl, rfl, hnx, hrx, hxx, ?de⟩ F7 N7
  case de => repeat constructor
theorem mk_look_con (w : World) (v0 v1 v2 : Value) (ro news : Led) :
    Con w 246 [v0, v1, v2] ro news 3 100 (fun r n' => ∃ (x dx : Addr) (es : List DictEntry) (z : Nat), r = .ref x ∧ n' = (x, instObj 246 dx) :: (dx, dictOf es z) :: news ∧ (∀ p ∈ news, p.1 < dx) ∧ (∀ p ∈ ro, p.1 < dx) ∧ @LT.lt Nat _ dx x ∧ DE es [(Str.ofString "tree", v0), (Str.ofString "names", v1), (Str.ofString "value_of", v2)]) := by
  refine con_cls (fI := 243) (D := 2) (U := 99) (by k_is) (by k_is) (by k_is) fun x dx hnx hxx hrx => ?_
  refine con_of [(Str.ofString "self", .ref x), (Str.ofString "tree", v0), (Str.ofString "names", v1), (Str.ofString "value_of", v2)] [(Str.ofString "value_of", v2), (Str.ofString "names", v1), (Str.ofString "tree", v0), (Str.ofString "self", .ref x)] (by k_is) (by k_is) rfl rfl (locs rfl) (by decide) rfl rfl rfl ?_
  intro prog mean mg mb dp un gd outer A₀ base g L s Q B F X N T hro hlt hd hu hret
  k_steps
  rename_i h7 F7 N7
  refine hret _ _ _ _ _ ⟨rfl, x, dx, _, _, rfl, rfl, hnx, hrx, hxx, ?de⟩ F7 N7
  case de => repeat constructor
theorem mk_rule_con (w : World) (v0 v1 v2 v3 v4 v5 : Value) (ro news : Led) :
    Con w 295 [v0, v1, v2, v3, v4, v5] ro news 3 100 (fun r n' => ∃ (x dx : Addr) (es : List DictEntry) (z : Nat), r = .ref x ∧ n' = (x, instObj 295 dx) :: (dx, dictOf es z) :: news ∧ (∀ p ∈ news, p.1 < dx) ∧ (∀ p ∈ ro, p.1 < dx) ∧ @LT.lt Nat _ dx x ∧ DE es [(Str.ofString "pattern", v0), (Str.ofString "mode", v1), (Str.ofString "priority", v2), (Str.ofString "place", v3), (Str.ofString "element", v4), (Str.ofString "body", v5)]) := by
  refine con_cls (fI := 292) (D := 2) (U := 99) (by k_is) (by k_is) (by k_is) fun x dx hnx hxx hrx => ?_
  refine con_of [(Str.ofString "self", .ref x), (Str.ofString "pattern", v0), (Str.ofString "mode", v1), (Str.ofString "priority", v2), (Str.ofString "place", v3), (Str.ofString "element", v4), (Str.ofString "body", v5)] [(Str.ofString "body", v5), (Str.ofString "element", v4), (Str.ofString "place", v3), (Str.ofString "priority", v2), (Str.ofString "mode", v1), (Str.ofString "pattern", v0), (Str.ofString "self", .ref x)] (by k_is) (by k_is) rfl rfl (locs rfl) (by decide) rfl rfl rfl ?_
  intro prog mean mg mb dp un gd outer A₀ base g L s Q B F X N T hro hlt hd hu hret
  k_steps
  rename_i h7 F7 N7
  refine hret _ _ _ _ _ ⟨rfl, x, dx, _, _, rfl, rfl, hnx, hrx, hxx, ?de⟩ F7 N7
  case de => repeat constructor


/-- what of the ledger stands off sub -/
def restL (led sub : Led) : Led := led.filter fun p => !(sub.any fun q => q.1 == p.1)
theorem restL_sub {led sub : Led} {p : Addr × Obj} (h : p ∈ restL led sub) : p ∈ led := (List.mem_filter.mp h).1
theorem restL_off {led sub : Led} {p q : Addr × Obj} (h : p ∈ restL led sub) (hq : q ∈ sub) : q.1 ≠ p.1 := by
  have h2 := (List.mem_filter.mp h).2
  intro e
  rw [Bool.not_eq_true', List.any_eq_false] at h2
  exact h2 q hq (by rw [e]; exact beq_self_eq_true _)
theorem restL_mem {led sub : Led} {p : Addr × Obj} (h : p ∈ led) (ho : ∀ q ∈ sub, q.1 ≠ p.1) : p ∈ restL led sub := by
  refine List.mem_filter.mpr ⟨h, ?_⟩
  rw [Bool.not_eq_true', List.any_eq_false]
  intro q hq e
  exact ho q hq (eq_of_beq e)
theorem con_frame {w : World} {f : Addr} {vs : List Value} {ro led sub : Led} {D U : Nat} {R : Value → Led → Prop} (hsub : ∀ p ∈ sub, p ∈ led) (c : Con w f vs (restL led sub) sub D U R) :
    Con w f vs ro led D U (fun r n' => ∃ n1, R r n1 ∧ n' = n1 ++ restL led sub ∧ ∀ p ∈ led, p ∈ n' ∨ p ∈ sub) := by
  intro prog mean mg mb dp un gd cn cs a ccd cl outer A₀ base h₀ L m s RR B F X N T hke hro hd hu hret
  refine c prog mean mg mb dp un gd cn cs a ccd cl outer A₀ base h₀ L m s RR B F X (cb_drop N hsub) T hke (fun p hp => ⟨(N p (restL_sub hp)).1, fun q hq => restL_off hp hq⟩) hd hu ?_
  intro r n1 h' tk' hR F' N' KB
  refine hret r (n1 ++ restL led sub) h' tk' ⟨n1, hR, rfl, fun p hp => ?_⟩ F' ?_ ?_
  · by_cases h : ∃ q ∈ sub, q.1 = p.1
    · obtain ⟨q, hq, e⟩ := h
      have h1 := (N p hp).1
      have h2 := (N q (hsub q hq)).1
      rw [e, h1] at h2
      have : p = q := Prod.ext e.symm (Option.some.inj h2)
      exact .inr (this ▸ hq)
    · exact .inl (List.mem_append_right _ (restL_mem hp fun q hq e => h ⟨q, hq, e⟩))
  · intro p hp
    rcases List.mem_append.mp hp with hp | hp
    · exact N' p hp
    · have z := N p (restL_sub hp)
      exact ⟨KB _ _ z.1 fun q hq => restL_off hp hq, z.2⟩
  · exact fun b o e hb => KB b o e fun p hp => hb p (hsub p hp)
/-- a call at which the ledger is read alone -/
theorem con_read {w : World} {f : Addr} {vs : List Value} {ro led : Led} {D U : Nat} {R : Value → Led → Prop} (c : Con w f vs led [] D U R) : Con w f vs ro led D U (fun r n' => ∃ n1, R r n1 ∧ n' = n1 ++ led) := by
  intro prog mean mg mb dp un gd cn cs a ccd cl outer A₀ base h₀ L m s RR B F X N T hke hro hd hu hret
  refine c prog mean mg mb dp un gd cn cs a ccd cl outer A₀ base h₀ L m s RR B F X (fun p hp => by cases hp) T hke (fun p hp => ⟨(N p hp).1, fun q hq => by cases hq⟩) hd hu ?_
  intro r n1 h' tk' hR F' N' KB
  refine hret r (n1 ++ led) h' tk' ⟨n1, hR, rfl⟩ F' ?_ (fun b o e hb => KB b o e fun p hp => by cases hp)
  intro p hp
  rcases List.mem_append.mp hp with hp | hp
  · exact N' p hp
  · exact ⟨KB _ _ (N p hp).1 (fun q hq => by cases hq), (N p hp).2⟩
local macro_rules | `(tactic| k_all) => `(tactic| assumption)
local macro_rules | `(tactic| walk_at "subscriptTail") => `(tactic| (k_here; with_reducible refine at_item ?_; k_dflt ((with_unfolding_all refine' item_led ?k1 ?k2 ?k3 ?k4 ?k5 ?_ ?k6); walk_at "own m"; (case k3 => omega); (case k4 => omega); (case k5 => first | assumption | rfl); (case k6 => with_unfolding_all rfl); k_whole)))
local macro_rules | `(tactic| walk_at "call builtin:len") => `(tactic| (k_here; with_reducible refine at_len ?_; k_dflt (refine' len_list (News.isList ?k1 ?k2) ?k3 ?_; walk_at "own m"; (case k3 => (simp only [List.size_toArray, List.length_append, List.length_cons, List.length_nil]; omega)); k_whole)))
/-- the row at k, when the list of rows stands in the ledger -/
theorem row_led_con {w : World} {T R a : Addr} {refs : List Value} {nR k : Nat} {tk : Tok} {ro news : Led} (hT : Inst ro T 545 [(Str.ofString "rows", .ref R)]) (hR : (R, listOf refs.toArray nR) ∈ news) (hk : refs[k]? = some (.ref a)) (hz : refs.length ≤ 100) :
    Con w 388 [.ref T, .int (k : Int) tk] ro news 1 16 (fun r n' => n' = news ∧ r = .ref a) := by
  have hkl : k < refs.length := (List.getElem?_eq_some_iff.mp hk).1
  refine con_of [(Str.ofString "self", .ref T), (Str.ofString "node", .int (k : Int) tk)] [(Str.ofString "node", .int (k : Int) tk), (Str.ofString "self", .ref T)] (by k_is) (by k_is) rfl rfl (locs rfl) (by decide) rfl rfl rfl ?_
  intro prog mean mg mb dp un gd outer A₀ base g L s Q B F X N T hro hlt hd hu hret
  k_steps
  all_goals ((try dsimp only); exact hret _ _ _ _ _ ⟨rfl, rfl⟩ (by k_asm) (by k_asm))
local macro_rules | `(tactic| walk_at "call ref") => `(tactic| (with_reducible refine at_call 356 ?_; walk_at "own f"; k_dflt ((refine' con_callZ (mk_row_con _ _ _ _ _ _ _ _ _ _ _ _ _ _) ?k1 ?k2 ?k3 ?k4 ?k5 ?k6 ?k8 ?k9 ?kA ?_); walk_at "own c"); intro _ _; refine kx7_rnppppppp ?_; intro x' dx' c' a' ns' es' z' l1' l2' l3' l4' l5' l6' hde' F' N'; (have lk' := l1'); (try k_lt lk')))
theorem new_row_con (w : World) (T R : Addr) (refs : List Value) (nR : Nat) (k n u l v : Str) (t1 t2 t3 t4 t5 : Tok) (pv : Value) (ro news : Led) (hT : Inst ro T 545 [(Str.ofString "rows", .ref R)]) (hne : ∀ p ∈ news, p.1 ≠ R) (hz : refs.length ≤ 100) :
    Con w 381 [.ref T, .str k t1, .str n t2, .str u t3, .str l t4, .str v t5, pv] ro ((R, listOf refs.toArray nR) :: news) 6 120 (fun r n' => ∃ (x dx c at' ns : Addr) (es : List DictEntry) (z : Nat) (t : Tok), r = .int (refs.length : Int) t ∧ n' = (ns, listOf #[] 0) :: (at', listOf #[] 0) :: (c, listOf #[] 0) :: (x, instObj 356 dx) :: (dx, dictOf es z) :: (R, listOf (refs ++ [Value.ref x]).toArray (nR + 1)) :: news ∧
      (∀ p ∈ (R, listOf refs.toArray nR) :: news, p.1 < dx) ∧ (∀ p ∈ ro, p.1 < dx) ∧ @LT.lt Nat _ dx x ∧ @LT.lt Nat _ x c ∧ @LT.lt Nat _ c at' ∧ @LT.lt Nat _ at' ns ∧ DE es [(Str.ofString "kind", .str k t1), (Str.ofString "name", .str n t2), (Str.ofString "uri", .str u t3), (Str.ofString "local", .str l t4), (Str.ofString "value", .str v t5), (Str.ofString "parent", pv), (Str.ofString "children", .ref c), (Str.ofString "attributes", .ref at'), (Str.ofString "namespaces", .ref ns)]) := by
  refine con_of [(Str.ofString "self", .ref T), (Str.ofString "kind", .str k t1), (Str.ofString "name", .str n t2), (Str.ofString "uri", .str u t3), (Str.ofString "local", .str l t4), (Str.ofString "value", .str v t5), (Str.ofString "parent", pv)] [(Str.ofString "parent", pv), (Str.ofString "value", .str v t5), (Str.ofString "local", .str l t4), (Str.ofString "uri", .str u t3), (Str.ofString "name", .str n t2), (Str.ofString "kind", .str k t1), (Str.ofString "self", .ref T)] (by k_is) (by k_is) rfl rfl (locs rfl) (by decide) rfl rfl rfl ?_
  intro prog mean mg mb dp un gd outer A₀ base g L s Q B F X N T hro hlt hd hu hret
  k_steps
  rename_i x dx c a ns es z l1 l2 l3 l4 l5 l6 de lk h7 F7 N7
  dsimp only
  refine hret _ _ _ _ _ ⟨x, dx, c, a, ns, es, z, _, congrArg (fun q => Value.int q _) ?_, rfl, l1, l2, l3, l4, l5, l6, de⟩ F7 N7
  simp

section
variable {prog : Program} {w : World} {A : Around} {E : Value → Shared → Prop} {s : Shared} {env : Env} {g : Heap} {x : Str} {body : List Stmt} {Q : Flow → Shared → Prop}
theorem iter_led {l : Addr} {vs : List Value} {n : Nat} {m₀ : Str → Option Value} {news : Led} (J : Nat → (Str → Option Value) → Led → Prop) (hh : A.handled = none)
    (hJl : ∀ i m₁ news₁, J i m₁ news₁ → (l, listOf vs.toArray n) ∈ news₁)
    (F : Fr g env.locals s.heap m₀) (N : News g env.locals s.heap news) (hj : J 0 m₀ news)
    (turn : ∀ i v m₁ news₁ h tk I oI, vs[i]? = some v → J i m₁ news₁ → Fr g env.locals h (fun y => if y = x then some v else m₁ y) → News g env.locals h ((I, oI) :: news₁) → (∀ p ∈ news₁, p.1 ≠ I) →
      wpAny (model prog w) A (execs body env) (TurnV g env.locals I oI (J (i + 1)) s Q) E { s with heap := h, toks := tk })
    (done : ∀ m₁ news₁ h tk, J vs.length m₁ news₁ → Fr g env.locals h m₁ → News g env.locals h news₁ → Q .next { s with heap := h, toks := tk }) :
    wpAny (model prog w) A (pyIter (.ref l)) (fun it s₂ => LoopAtV prog w A g env x body Q E it s₂) E s := by
  have hl0 := N _ (hJl _ _ _ hj)
  have hls : s.heap.IsList l vs.toArray := ⟨_, hl0.1, rfl, _, rfl⟩
  have hlt : l < s.heap.objs.size := Heap.lt_size hl0.1
  have hne : l ≠ s.heap.objs.size := Nat.ne_of_lt hlt
  refine wpAny_pyIter_list hls ?_
  have W := Walks.list (prog := prog) (w := w) hh s.heap.objs.size l hne vs.toArray
  have hlen : vs.toArray.size = vs.length := by simp
  rw [hlen] at W
  have hLI : env.locals ≠ s.heap.objs.size := Nat.ne_of_lt F.ns.lt
  have hLl : env.locals ≠ l := fun e => hl0.2.1 e.symm
  have hI0 := next_is_new F
  refine ⟨_, _, _, vs.length, _, _, m₀, news, fun i m₁ news₁ => (∀ p ∈ news₁, p.1 ≠ s.heap.objs.size) ∧ J i m₁ news₁, rfl, W, ?_, ?_, ?_, ⟨⟨_, Heap.get?_push_size _ rfl, rfl, rfl⟩, hls.at fun o e => Heap.get?_push_of_some _ e⟩, F.push _, (fun p hp => ⟨Heap.get?_push_of_some _ (N p hp).1, (N p hp).2⟩),
    ⟨fun p hp => Nat.ne_of_lt (Heap.lt_size (N p hp).1), hj⟩, ?_, ?_⟩
  · intro hm
    rcases List.mem_cons.mp hm with e | hm
    · exact hLI e
    · exact hLl (List.mem_singleton.mp hm)
  · intro b hb
    rw [List.mem_singleton.mp hb]
    exact hI0
  · intro p hp hI
    exact absurd (Heap.lt_size (N p hp).1) ((List.mem_singleton.mp hI) ▸ Nat.lt_irrefl _)
  · intro i v m₁ news₁ s₁ own
    revert s₁
    refine obv2_v ?_
    intro hh' tk' hin hP hJ0 hoff hown hown2 hall hst F₁ N₁
    have hoffJ := hJ0.1
    have hJ := hJ0.2
    obtain ⟨⟨oI, heI, -⟩, -⟩ := hst
    have hio : (s.heap.objs.size, oI) ∈ own := hall _ (List.mem_cons.mpr (.inl rfl)) hI0 oI heI
    have hl1 := N₁ _ (List.mem_append_right _ (hJl _ _ _ hJ))
    have N₂ : News g env.locals hh' ((s.heap.objs.size, oI) :: news₁) := fun p hp => by
      rcases List.mem_cons.mp hp with rfl | hp
      · exact N₁ _ (List.mem_append_left _ hio)
      · exact N₁ _ (List.mem_append_right _ hp)
    have hall' : ∀ p ∈ own, p = (s.heap.objs.size, oI) ∨ p = (l, listOf vs.toArray n) := fun p hp => by
      have e := hown2 p hp
      rcases List.mem_cons.mp (hown p hp) with e1 | e1
      · rw [e1] at e
        exact .inl (Prod.ext e1 (Option.some.inj (e.symm.trans heI)))
      · have e1 := List.mem_singleton.mp e1
        rw [e1] at e
        exact .inr (Prod.ext e1 (Option.some.inj (e.symm.trans hl1.1)))
    have hv : vs[i]? = some v := by simpa using hP
    refine wpAny_mono (turn i v m₁ news₁ hh' tk' _ oI hv hJ F₁ N₂ hoffJ) (fun f s₂ p => ?_) fun _ _ e => e
    have fin : (∃ h' tk' m' news', s₂ = { s with heap := h', toks := tk' } ∧ Fr g env.locals h' m' ∧ News g env.locals h' ((s.heap.objs.size, oI) :: news') ∧ (∀ p ∈ news', p.1 ≠ s.heap.objs.size) ∧ J (i + 1) m' news') →
        LoopStepU g env.locals [s.heap.objs.size] own (fun m₁ news₁ => (∀ p ∈ news₁, p.1 ≠ s.heap.objs.size) ∧ J (i + 1) m₁ news₁) { s with heap := hh', toks := tk' } .next s₂ := by
      rintro ⟨h', tk, m', news', e, F', N', hn, hm⟩
      refine ⟨rfl, h', tk, m', news', e, F', fun p hp => ?_, fun p hp hq => hn p hp (List.mem_singleton.mp hq), hn, hm⟩
      rcases List.mem_append.mp hp with hp | hp
      · rcases hall' p hp with e | e
        · rw [e]; exact N' _ (List.mem_cons.mpr (.inl rfl))
        · rw [e]; exact N' _ (List.mem_cons.mpr (.inr (hJl _ _ _ hm)))
      · exact N' _ (List.mem_cons.mpr (.inr hp))
    cases f with
    | ret v => exact .ret p
    | brk => exact .brk p
    | next => exact .next (fin p)
    | cont => exact .cont (fin p)
  · rintro h' tk m' news' F' N' _ ⟨_, hJ⟩
    exact done m' news' h' tk hJ F' N'
theorem for_led {l : Addr} {vs : List Value} {n : Nat} {m₀ : Str → Option Value} {news : Led} {px pos : Pos} {iter : PySem.Expr} (J : Nat → (Str → Option Value) → Led → Prop) (hh : A.handled = none)
    (hJl : ∀ i m₁ news₁, J i m₁ news₁ → (l, listOf vs.toArray n) ∈ news₁)
    (F : Fr g env.locals s.heap m₀) (N : News g env.locals s.heap news) (hit : ∀ (Q' : Value → Shared → Prop), (∀ tk, Q' (.ref l) { s with toks := tk }) → wpAny (model prog w) A (eval iter env) Q' (fun _ _ => False) s) (hj : J 0 m₀ news) (hx : env.kindOf x = some .local)
    (hp : (env.scope.kind == .class || (env.scope.kind == .module && env.locals != env.globals)) = false)
    (turn : ∀ i v m₁ news₁ h tk I oI, vs[i]? = some v → J i m₁ news₁ → Fr g env.locals h (fun y => if y = x then some v else m₁ y) → News g env.locals h ((I, oI) :: news₁) → (∀ p ∈ news₁, p.1 ≠ I) →
      wpAny (model prog w) A (execs body env) (TurnV g env.locals I oI (J (i + 1)) s Q) (fun _ _ => False) { s with heap := h, toks := tk })
    (done : ∀ m₁ news₁ h tk, J vs.length m₁ news₁ → Fr g env.locals h m₁ → News g env.locals h news₁ → Q .next { s with heap := h, toks := tk })
    (hs : ∀ x, foldedSetIterable iter env x = pure x) :
    wpAny (model prog w) A (exec (.For (.Name x px) iter body [] pos) env) Q (fun _ _ => False) s :=
  For_invV g hx hp (hit _ fun tk => iter_led (s := { s with toks := tk }) J hh hJl F N hj turn done) hs PassesOwn.never
end

abbrev rowFs (k n u l v : Str) (t1 t2 t3 t4 t5 : Tok) (pv : Value) (c at' ns : Addr) : List (Str × Value) := [(Str.ofString "kind", .str k t1), (Str.ofString "name", .str n t2), (Str.ofString "uri", .str u t3), (Str.ofString "local", .str l t4), (Str.ofString "value", .str v t5), (Str.ofString "parent", pv), (Str.ofString "children", .ref c), (Str.ofString "attributes", .ref at'), (Str.ofString "namespaces", .ref ns)]
/-- what a call that adds a row leaves: five new objects, the rows' list grown, then `tl` -/
def AddR (ro : Led) (R : Addr) (refs : List Value) (nR : Nat) (old : Led) (k n u l v : Str) (pv : Value) (tl : Tok → Led) (r : Value) (n' : Led) : Prop :=
  ∃ (x dx c at' ns : Addr) (es : List DictEntry) (z : Nat) (t t1 t2 t3 t4 t5 : Tok), r = .int (refs.length : Int) t ∧ n' = (ns, listOf #[] 0) :: (at', listOf #[] 0) :: (c, listOf #[] 0) :: (x, instObj 356 dx) :: (dx, dictOf es z) :: (R, listOf (refs ++ [Value.ref x]).toArray (nR + 1)) :: tl t ∧
    (∀ p ∈ old, p.1 < dx) ∧ (∀ p ∈ ro, p.1 < dx) ∧ @LT.lt Nat _ dx x ∧ @LT.lt Nat _ x c ∧ @LT.lt Nat _ c at' ∧ @LT.lt Nat _ at' ns ∧ DE es (rowFs k n u l v t1 t2 t3 t4 t5 pv c at' ns)
theorem kx_addR {ro old : Led} {R : Addr} {refs : List Value} {nR : Nat} {c n u l v : Str} {pv : Value} {tl : Tok → Led} {k : Value → Led → Prop} (H : ∀ t n', AddR ro R refs nR old c n u l v pv tl (.int (refs.length : Int) t) n' → k (.int (refs.length : Int) t) n') : ∀ r n', AddR ro R refs nR old c n u l v pv tl r n' → k r n' := by
  intro r n' h
  have ht : ∃ t, r = .int (refs.length : Int) t := by
    obtain ⟨_, _, _, _, _, _, _, t, _, _, _, _, _, e, _⟩ := h
    exact ⟨t, e⟩
  obtain ⟨t, rfl⟩ := ht
  exact H t n' h
theorem app_get {α : Type} {l : List α} {x v : α} {k : Nat} (h : l[k]? = some v) : (l ++ [x])[k]? = some v := by
  rw [List.getElem?_append_left (List.getElem?_eq_some_iff.mp h).1, h]
theorem notin_ktup {w : World} {prog : Program} {A : Around} {E : Value → Shared → Prop} {s : Shared} {g : Heap} {L a : Addr} {m : Str → Option Value} {its : List Value} {n : Nat} {sl : Array (Option Value)} {od : Option Addr} {ys : List Str} {k : Str} {t : Tok} {Q : Value → Shared → Prop} (F : Fr g L s.heap m) (X : (hd.heap_1 w.params).In g) (ho : (hd.heap_1 w.params).lookup a = some ⟨.type "tuple", od, .seq its.toArray n, sl⟩) (hi : StrsAre its ys)
    (h : Q (.bool (!(ys.any (· == k)))) s) : wpAny (model prog w) A (compareOp .NotIn (.str k t) (.ref a)) Q E s :=
  notin_tuple_strs ⟨_, F.keep _ _ (X _ _ ho), rfl, _, rfl⟩ hi h
local macro_rules | `(tactic| walk_at "compareOp NotIn str ref") => `(tactic| (k_here; k_dflt (refine' notin_ktup ?k1 ?k2 ?k3 ?k4 ?_; (case k1 => k_asm); (case k2 => k_asm); (case k3 => k_is); (case k4 => exact StrsAre.cons _ _ (StrsAre.cons _ _ StrsAre.nil)); k_whole)))
theorem new_root_con (w : World) (T R : Addr) (nR : Nat) (ro : Led) (hT : Inst ro T 545 [(Str.ofString "rows", .ref R)]) :
    Con w 395 [.ref T] ro [(R, listOf #[] nR)] 7 130 (AddR ro R [] nR [(R, listOf #[] nR)] (Str.ofString "root") (Str.ofString "") (Str.ofString "") (Str.ofString "") (Str.ofString "") .none (fun _ => [])) := by
  refine con_of [(Str.ofString "self", .ref T)] [(Str.ofString "self", .ref T)] (by k_is) (by k_is) rfl rfl (locs rfl) (by decide) rfl rfl rfl ?_
  intro prog mean mg mb dp un gd outer A₀ base g L s Q B F X N T hro hlt hd hu hret
  k_steps
  refine Stop.out ?_
  (try k_fold); refine con_callZ (new_row_con w _ R [] nR _ _ _ _ _ _ _ _ _ _ _ ro [] hT (List.forall_mem_nil _) (by simp)) (by k_asm) (by k_asm) (by k_asm) (by k_asm) (by assumption) (by assumption) rfl (by walk_at "own r") (by walk_at "own r") ?_
  intro h5 tk5
  refine kx8_rnppppppp ?_
  intro x dx c a ns es z t l1 l2 l3 l4 l5 l6 de F5 N5
  k_steps
  exact hret _ _ _ _ _ ⟨x, dx, c, a, ns, es, z, t, _, _, _, _, _, rfl, rfl, l1, l2, l3, l4, l5, l6, de⟩ (by k_asm) (by k_asm)
local macro_rules | `(tactic| walk_at "call ref") => `(tactic| (with_reducible refine at_call 388 ?_; walk_at "own f"; k_dflt ((refine' con_callZ (row_led_con ?kt ?kr ?kd ?kz) ?k1 ?k2 ?k3 ?k4 ?k5 ?k6 ?k8 ?k9 ?kA ?_); (case kr => first | assumption | k_mem); (case kz => assumption); walk_at "own c"); walk_at "own nr"))
theorem add_child_con (w : World) (T R a c : Addr) (refs cs : List Value) (nR nc k : Nat) (kd0 n0 u0 l0 v0 : Str) (s1 s2 s3 s4 s5 : Tok) (pv0 : Value) (at0 ns0 : Addr) (tk : Tok) (kd nm ur lo va : Str) (t1 t2 t3 t4 t5 : Tok) (ro : Led) (hT : Inst ro T 545 [(Str.ofString "rows", .ref R)]) (hk : refs[k]? = some (.ref a)) (hz : refs.length ≤ 100) (hzc : cs.length ≤ 100) (hA : Inst ro a 356 (rowFs kd0 n0 u0 l0 v0 s1 s2 s3 s4 s5 pv0 c at0 ns0)) (hkd : kd0 = Str.ofString "root" ∨ kd0 = Str.ofString "element") (hRc : @Ne Nat R c) :
    Con w 402 [.ref T, .int (k : Int) tk, .str kd t1, .str nm t2, .str ur t3, .str lo t4, .str va t5] ro [(R, listOf refs.toArray nR), (c, listOf cs.toArray nc)] 8 140 (AddR ro R refs nR [(R, listOf refs.toArray nR), (c, listOf cs.toArray nc)] kd nm ur lo va (.int (k : Int) tk) (fun t => [(c, listOf (cs ++ [Value.int (refs.length : Int) t]).toArray (nc + 1))])) := by
  refine con_of [(Str.ofString "self", .ref T), (Str.ofString "parent", .int (k : Int) tk), (Str.ofString "kind", .str kd t1), (Str.ofString "name", .str nm t2), (Str.ofString "uri", .str ur t3), (Str.ofString "local", .str lo t4), (Str.ofString "value", .str va t5)] [(Str.ofString "value", .str va t5), (Str.ofString "local", .str lo t4), (Str.ofString "uri", .str ur t3), (Str.ofString "name", .str nm t2), (Str.ofString "kind", .str kd t1), (Str.ofString "parent", .int (k : Int) tk), (Str.ofString "self", .ref T)] (by k_is) (by k_is) rfl rfl (locs rfl) (by decide) rfl rfl rfl ?_
  have hcR : ∀ p ∈ [(c, listOf cs.toArray nc)], p.1 ≠ R := List.forall_mem_cons.mpr ⟨fun e => hRc e.symm, List.forall_mem_nil _⟩
  have hk2 : ∀ x : Addr, (refs ++ [Value.ref x])[k]? = some (.ref a) := fun x => app_get hk
  have hRm : (R, listOf refs.toArray nR) ∈ [(R, listOf refs.toArray nR), (c, listOf cs.toArray nc)] := .head _
  have hkl : k < refs.length := (List.getElem?_eq_some_iff.mp hk).1
  intro prog mean mg mb dp un gd outer A₀ base g L s Q B F X N T hro hlt hd hu hret
  rcases hkd with rfl | rfl
  all_goals
    k_steps
    refine Stop.out ?_
    (try k_fold); refine con_callZ (new_row_con w _ R refs nR _ _ _ _ _ _ _ _ _ _ _ ro _ hT hcR hz) (by k_asm) (by k_asm) (by k_asm) (by k_asm) (by assumption) (by assumption) rfl (by walk_at "own r") (by walk_at "own r") ?_
    intro h5 tk5
    refine kx8_rnppppppp ?_
    intro x dx c' a' ns es z t l1 l2 l3 l4 l5 l6 de F5 N5
    have lk := l1
    k_lt lk
    have hk3 := hk2 x
    k_steps
    rename News _ _ _ _ => N7
    rw [List.push_toArray] at N7
    exact hret _ _ _ _ _ ⟨x, dx, c', a', ns, es, z, t, _, _, _, _, _, rfl, rfl, l1, l2, l3, l4, l5, l6, de⟩ (by k_asm) N7
theorem add_element_con (w : World) (T R a c : Addr) (refs cs : List Value) (nR nc k : Nat) (kd0 n0 u0 l0 v0 : Str) (s1 s2 s3 s4 s5 : Tok) (pv0 : Value) (at0 ns0 : Addr) (tk : Tok) (nm ur lo : Str) (t2 t3 t4 : Tok) (ro : Led) (hT : Inst ro T 545 [(Str.ofString "rows", .ref R)]) (hk : refs[k]? = some (.ref a)) (hz : refs.length ≤ 100) (hzc : cs.length ≤ 100) (hA : Inst ro a 356 (rowFs kd0 n0 u0 l0 v0 s1 s2 s3 s4 s5 pv0 c at0 ns0)) (hkd : kd0 = Str.ofString "root" ∨ kd0 = Str.ofString "element") (hRc : @Ne Nat R c) :
    Con w 409 [.ref T, .int (k : Int) tk, .str nm t2, .str ur t3, .str lo t4] ro [(R, listOf refs.toArray nR), (c, listOf cs.toArray nc)] 9 150 (AddR ro R refs nR [(R, listOf refs.toArray nR), (c, listOf cs.toArray nc)] (Str.ofString "element") nm ur lo (Str.ofString "") (.int (k : Int) tk) (fun t => [(c, listOf (cs ++ [Value.int (refs.length : Int) t]).toArray (nc + 1))])) := by
  refine con_of [(Str.ofString "self", .ref T), (Str.ofString "parent", .int (k : Int) tk), (Str.ofString "name", .str nm t2), (Str.ofString "uri", .str ur t3), (Str.ofString "local", .str lo t4)] [(Str.ofString "local", .str lo t4), (Str.ofString "uri", .str ur t3), (Str.ofString "name", .str nm t2), (Str.ofString "parent", .int (k : Int) tk), (Str.ofString "self", .ref T)] (by k_is) (by k_is) rfl rfl (locs rfl) (by decide) rfl rfl rfl ?_
  intro prog mean mg mb dp un gd outer A₀ base g L s Q B F X N T hro hlt hd hu hret
  k_steps
  refine Stop.out ?_
  refine con_callZ (add_child_con w _ R a c refs cs nR nc k kd0 n0 u0 l0 v0 s1 s2 s3 s4 s5 pv0 at0 ns0 _ _ _ _ _ _ _ _ _ _ _ ro hT hk hz hzc hA hkd hRc) (by k_asm) (by k_asm) (by k_asm) (by k_asm) (by assumption) (by assumption) rfl (by walk_at "own r") (by walk_at "own r") ?_
  intro h5 tk5
  refine kx_addR ?_
  intro t n' hR F5 N5
  k_steps
  exact hret _ _ _ _ _ hR (by k_asm) (by k_asm)
theorem add_text_con (w : World) (T R a c : Addr) (refs cs : List Value) (nR nc k : Nat) (kd0 n0 u0 l0 v0 : Str) (s1 s2 s3 s4 s5 : Tok) (pv0 : Value) (at0 ns0 : Addr) (tk : Tok) (va : Str) (t2 : Tok) (ro : Led) (hT : Inst ro T 545 [(Str.ofString "rows", .ref R)]) (hk : refs[k]? = some (.ref a)) (hz : refs.length ≤ 100) (hzc : cs.length ≤ 100) (hA : Inst ro a 356 (rowFs kd0 n0 u0 l0 v0 s1 s2 s3 s4 s5 pv0 c at0 ns0)) (hkd : kd0 = Str.ofString "root" ∨ kd0 = Str.ofString "element") (hRc : @Ne Nat R c) :
    Con w 416 [.ref T, .int (k : Int) tk, .str va t2] ro [(R, listOf refs.toArray nR), (c, listOf cs.toArray nc)] 9 150 (AddR ro R refs nR [(R, listOf refs.toArray nR), (c, listOf cs.toArray nc)] (Str.ofString "text") (Str.ofString "") (Str.ofString "") (Str.ofString "") va (.int (k : Int) tk) (fun t => [(c, listOf (cs ++ [Value.int (refs.length : Int) t]).toArray (nc + 1))])) := by
  refine con_of [(Str.ofString "self", .ref T), (Str.ofString "parent", .int (k : Int) tk), (Str.ofString "value", .str va t2)] [(Str.ofString "value", .str va t2), (Str.ofString "parent", .int (k : Int) tk), (Str.ofString "self", .ref T)] (by k_is) (by k_is) rfl rfl (locs rfl) (by decide) rfl rfl rfl ?_
  intro prog mean mg mb dp un gd outer A₀ base g L s Q B F X N T hro hlt hd hu hret
  k_steps
  refine Stop.out ?_
  refine con_callZ (add_child_con w _ R a c refs cs nR nc k kd0 n0 u0 l0 v0 s1 s2 s3 s4 s5 pv0 at0 ns0 _ _ _ _ _ _ _ _ _ _ _ ro hT hk hz hzc hA hkd hRc) (by k_asm) (by k_asm) (by k_asm) (by k_asm) (by assumption) (by assumption) rfl (by walk_at "own r") (by walk_at "own r") ?_
  intro h5 tk5
  refine kx_addR ?_
  intro t n' hR F5 N5
  k_steps
  exact hret _ _ _ _ _ hR (by k_asm) (by k_asm)
theorem add_comment_con (w : World) (T R a c : Addr) (refs cs : List Value) (nR nc k : Nat) (kd0 n0 u0 l0 v0 : Str) (s1 s2 s3 s4 s5 : Tok) (pv0 : Value) (at0 ns0 : Addr) (tk : Tok) (va : Str) (t2 : Tok) (ro : Led) (hT : Inst ro T 545 [(Str.ofString "rows", .ref R)]) (hk : refs[k]? = some (.ref a)) (hz : refs.length ≤ 100) (hzc : cs.length ≤ 100) (hA : Inst ro a 356 (rowFs kd0 n0 u0 l0 v0 s1 s2 s3 s4 s5 pv0 c at0 ns0)) (hkd : kd0 = Str.ofString "root" ∨ kd0 = Str.ofString "element") (hRc : @Ne Nat R c) :
    Con w 423 [.ref T, .int (k : Int) tk, .str va t2] ro [(R, listOf refs.toArray nR), (c, listOf cs.toArray nc)] 9 150 (AddR ro R refs nR [(R, listOf refs.toArray nR), (c, listOf cs.toArray nc)] (Str.ofString "comment") (Str.ofString "") (Str.ofString "") (Str.ofString "") va (.int (k : Int) tk) (fun t => [(c, listOf (cs ++ [Value.int (refs.length : Int) t]).toArray (nc + 1))])) := by
  refine con_of [(Str.ofString "self", .ref T), (Str.ofString "parent", .int (k : Int) tk), (Str.ofString "value", .str va t2)] [(Str.ofString "value", .str va t2), (Str.ofString "parent", .int (k : Int) tk), (Str.ofString "self", .ref T)] (by k_is) (by k_is) rfl rfl (locs rfl) (by decide) rfl rfl rfl ?_
  intro prog mean mg mb dp un gd outer A₀ base g L s Q B F X N T hro hlt hd hu hret
  k_steps
  refine Stop.out ?_
  refine con_callZ (add_child_con w _ R a c refs cs nR nc k kd0 n0 u0 l0 v0 s1 s2 s3 s4 s5 pv0 at0 ns0 _ _ _ _ _ _ _ _ _ _ _ ro hT hk hz hzc hA hkd hRc) (by k_asm) (by k_asm) (by k_asm) (by k_asm) (by assumption) (by assumption) rfl (by walk_at "own r") (by walk_at "own r") ?_
  intro h5 tk5
  refine kx_addR ?_
  intro t n' hR F5 N5
  k_steps
  exact hret _ _ _ _ _ hR (by k_asm) (by k_asm)
theorem add_instruction_con (w : World) (T R a c : Addr) (refs cs : List Value) (nR nc k : Nat) (kd0 n0 u0 l0 v0 : Str) (s1 s2 s3 s4 s5 : Tok) (pv0 : Value) (at0 ns0 : Addr) (tk : Tok) (ta da : Str) (t2 t3 : Tok) (ro : Led) (hT : Inst ro T 545 [(Str.ofString "rows", .ref R)]) (hk : refs[k]? = some (.ref a)) (hz : refs.length ≤ 100) (hzc : cs.length ≤ 100) (hA : Inst ro a 356 (rowFs kd0 n0 u0 l0 v0 s1 s2 s3 s4 s5 pv0 c at0 ns0)) (hkd : kd0 = Str.ofString "root" ∨ kd0 = Str.ofString "element") (hRc : @Ne Nat R c) :
    Con w 430 [.ref T, .int (k : Int) tk, .str ta t2, .str da t3] ro [(R, listOf refs.toArray nR), (c, listOf cs.toArray nc)] 9 150 (AddR ro R refs nR [(R, listOf refs.toArray nR), (c, listOf cs.toArray nc)] (Str.ofString "instruction") ta (Str.ofString "") ta da (.int (k : Int) tk) (fun t => [(c, listOf (cs ++ [Value.int (refs.length : Int) t]).toArray (nc + 1))])) := by
  refine con_of [(Str.ofString "self", .ref T), (Str.ofString "parent", .int (k : Int) tk), (Str.ofString "target", .str ta t2), (Str.ofString "data", .str da t3)] [(Str.ofString "data", .str da t3), (Str.ofString "target", .str ta t2), (Str.ofString "parent", .int (k : Int) tk), (Str.ofString "self", .ref T)] (by k_is) (by k_is) rfl rfl (locs rfl) (by decide) rfl rfl rfl ?_
  intro prog mean mg mb dp un gd outer A₀ base g L s Q B F X N T hro hlt hd hu hret
  k_steps
  refine Stop.out ?_
  refine con_callZ (add_child_con w _ R a c refs cs nR nc k kd0 n0 u0 l0 v0 s1 s2 s3 s4 s5 pv0 at0 ns0 _ _ _ _ _ _ _ _ _ _ _ ro hT hk hz hzc hA hkd hRc) (by k_asm) (by k_asm) (by k_asm) (by k_asm) (by assumption) (by assumption) rfl (by walk_at "own r") (by walk_at "own r") ?_
  intro h5 tk5
  refine kx_addR ?_
  intro t n' hR F5 N5
  k_steps
  exact hret _ _ _ _ _ hR (by k_asm) (by k_asm)

theorem element_row_con (w : World) (T R a c : Addr) (refs : List Value) (nR k : Nat) (n0 u0 l0 v0 : Str) (s1 s2 s3 s4 s5 : Tok) (pv0 : Value) (at0 ns0 : Addr) (tk : Tok) (ro news : Led) (hT : Inst ro T 545 [(Str.ofString "rows", .ref R)]) (hR : (R, listOf refs.toArray nR) ∈ news) (hk : refs[k]? = some (.ref a)) (hz : refs.length ≤ 100)
    (hA : Inst ro a 356 (rowFs (Str.ofString "element") n0 u0 l0 v0 s1 s2 s3 s4 s5 pv0 c at0 ns0)) : Con w 437 [.ref T, .int (k : Int) tk] ro news 3 40 (fun r n' => n' = news ∧ r = .ref a) := by
  refine con_of [(Str.ofString "self", .ref T), (Str.ofString "element", .int (k : Int) tk)] [(Str.ofString "element", .int (k : Int) tk), (Str.ofString "self", .ref T)] (by k_is) (by k_is) rfl rfl (locs rfl) (by decide) rfl rfl rfl ?_
  intro prog mean mg mb dp un gd outer A₀ base g L s Q B F X N T hro hlt hd hu hret
  k_steps
  exact hret _ _ _ _ _ ⟨rfl, rfl⟩ (by k_asm) (by k_asm)
local macro_rules | `(tactic| walk_at "exec For Name Attribute cons nil") => `(tactic| walk_at "own stop")
theorem set_attribute_con (w : World) (T R a c : Addr) (refs as : List Value) (nR na k : Nat) (n0 u0 l0 v0 : Str) (s1 s2 s3 s4 s5 : Tok) (pv0 : Value) (at0 ns0 : Addr) (ktk : Tok) (nm ur lo va : Str) (t1 t2 t3 t4 : Tok) (ro : Led) (hT : Inst ro T 545 [(Str.ofString "rows", .ref R)]) (hk : refs[k]? = some (.ref a)) (hz : refs.length ≤ 100) (hza : as.length ≤ 100)
    (hA : Inst ro a 356 (rowFs (Str.ofString "element") n0 u0 l0 v0 s1 s2 s3 s4 s5 pv0 c at0 ns0)) (hRa : @Ne Nat R at0)
    (hat : ∀ (i : Nat) (v : Value), as[i]? = some v → ∃ (j : Nat) (tj : Tok) (aj : Addr) (kj nj uj lj vj : Str) (q1 q2 q3 q4 q5 : Tok) (pj : Value) (cj atj nsj : Addr), v = .int (j : Int) tj ∧ refs[j]? = some (.ref aj) ∧ Inst ro aj 356 (rowFs kj nj uj lj vj q1 q2 q3 q4 q5 pj cj atj nsj) ∧ ¬ (uj = ur ∧ lj = lo)) :
    Con w 444 [.ref T, .int (k : Int) ktk, .str nm t1, .str ur t2, .str lo t3, .str va t4] ro [(R, listOf refs.toArray nR), (at0, listOf as.toArray na)] 8 200 (AddR ro R refs nR [(R, listOf refs.toArray nR), (at0, listOf as.toArray na)] (Str.ofString "attribute") nm ur lo va (.int (k : Int) ktk) (fun t => [(at0, listOf (as ++ [Value.int (refs.length : Int) t]).toArray (na + 1))])) := by
  refine con_of [(Str.ofString "self", .ref T), (Str.ofString "element", .int (k : Int) ktk), (Str.ofString "name", .str nm t1), (Str.ofString "uri", .str ur t2), (Str.ofString "local", .str lo t3), (Str.ofString "value", .str va t4)] [(Str.ofString "value", .str va t4), (Str.ofString "local", .str lo t3), (Str.ofString "uri", .str ur t2), (Str.ofString "name", .str nm t1), (Str.ofString "element", .int (k : Int) ktk), (Str.ofString "self", .ref T)] (by k_is) (by k_is) rfl rfl (locs rfl) (by decide) rfl rfl rfl ?_
  have hcR : ∀ p ∈ [(at0, listOf as.toArray na)], p.1 ≠ R := List.forall_mem_cons.mpr ⟨fun e => hRa e.symm, List.forall_mem_nil _⟩
  intro prog mean mg mb dp un gd outer A₀ base g L s Q B F X N TT hro hlt hd hu hret
  k_steps
  refine Stop.out ?_
  (try k_fold); refine con_callZ (element_row_con w _ R a c refs nR k n0 u0 l0 v0 s1 s2 s3 s4 s5 pv0 at0 ns0 _ ro _ hT (.head _) hk hz hA) (by k_asm) (by k_asm) (by k_asm) (by k_asm) (by assumption) (by assumption) rfl (by walk_at "own r") (by walk_at "own r") ?_
  intro h5 tk5
  refine kx0_nr ?_
  intro F5 N5
  k_steps
  rename_i F6 N6
  refine Stop.out ?_
  refine for_led (l := at0) (vs := as) (n := na) (fun i m₁ nw => nw = [(R, listOf refs.toArray nR), (at0, listOf as.toArray na)] ∧ ∃ u, m₁ = withL [(Str.ofString "self", .ref T), (Str.ofString "element", .int (k : Int) ktk), (Str.ofString "name", .str nm t1), (Str.ofString "uri", .str ur t2), (Str.ofString "local", .str lo t3), (Str.ofString "value", .str va t4), (Str.ofString "row", .ref a)] u) rfl ?_ F6 N6 ?_
    ⟨rfl, _, withL_selfR rfl⟩ rfl rfl ?_ ?_ (by intro _; rfl)
  · rintro i m₁ nw ⟨rfl, -⟩
    exact .tail _ (.head _)
  · intro Q' h; k_steps; exact h _
  · intro i v m₁ news₁ h tk0 I oI hv
    revert m₁ news₁
    refine kxn1_r ?_
    intro u F₁ N₁ hI
    try k_fold
    obtain ⟨j, tj, aj, kj, nj, uj, lj, vj, q1, q2, q3, q4, q5, pj, cj, atj, nsj, rfl, hj, iaj, hno⟩ := hat i v hv
    have hjl : j < refs.length := (List.getElem?_eq_some_iff.mp hj).1
    dsimp only at F₁ N₁
    k_steps
    · exact absurd ⟨eq_of_beq (by assumption), eq_of_beq (by assumption)⟩ hno
    all_goals exact TurnV.intro (by k_asm) (by k_asm) sub0 hI ⟨rfl, _, withL_selfR rfl⟩
  · intro m₁ news₁ h tk0
    revert m₁ news₁
    refine kxn1_r ?_
    intro u F₁ N₁
    try k_fold
    dsimp only at F₁ N₁
    k_steps
    refine Stop.out ?_
    (try k_fold); refine con_callZ (new_row_con w _ R refs nR _ _ _ _ _ _ _ _ _ _ _ ro _ hT hcR hz) (by k_asm) (by k_asm) (by k_asm) (by k_asm) (by assumption) (by assumption) rfl (by walk_at "own r") (by walk_at "own r") ?_
    intro h5 tk5
    refine kx8_rnppppppp ?_
    intro x dx c' a' ns es z t l1 l2 l3 l4 l5 l6 de F5 N5
    have lk := l1
    k_lt lk
    k_steps
    rename News _ _ _ _ => N7
    rw [List.push_toArray] at N7
    exact hret _ _ _ _ _ ⟨x, dx, c', a', ns, es, z, t, _, _, _, _, _, rfl, rfl, l1, l2, l3, l4, l5, l6, de⟩ (by k_asm) N7

theorem allLt_to {d : Addr} : ∀ {l : Led}, AllLt d l → ∀ p ∈ l, p.1 < d
  | [], _ => List.forall_mem_nil _
  | _ :: _, h => List.forall_mem_cons.mpr ⟨h.1, allLt_to h.2⟩
/-- a row of the document in the ledger: its objects lie between lo (the dict) and hi (the last list) -/
def RowAt (led : Led) (lo hi ρ a : Addr) (d : NodeD) : Prop := ∃ (c at' : Addr) (es : List DictEntry) (z : Nat) (cs as : List Value) (nc na nn : Nat) (pv : Value) (t1 t2 t3 t4 t5 : Tok),
  (@LT.lt Nat _ lo a ∧ @LT.lt Nat _ a c ∧ @LT.lt Nat _ c at' ∧ @LT.lt Nat _ at' hi) ∧ (@Ne Nat ρ c ∧ @Ne Nat ρ at' ∧ @Ne Nat ρ hi) ∧ (a, instObj 356 lo) ∈ led ∧ (lo, dictOf es z) ∈ led ∧ (c, listOf cs.toArray nc) ∈ led ∧ (at', listOf as.toArray na) ∈ led ∧ (hi, listOf #[] nn) ∈ led ∧
  DE es (rowFs d.kind d.name d.uri d.loc d.value t1 t2 t3 t4 t5 pv c at' hi) ∧ IsPar pv d.parent ∧ handedIn pv = true ∧ IntsAre cs d.children ∧ IntsAre as d.attrs
/-- a row opened at one stroke -/
theorem rowAt_k {led : Led} {lo hi ρ a : Addr} {d : NodeD} {G : Prop} (r : RowAt led lo hi ρ a d) (H : ∀ (c at' : Addr) (es : List DictEntry) (z : Nat) (cs as : List Value) (nc na nn : Nat) (pv : Value) (t1 t2 t3 t4 t5 : Tok),
  @LT.lt Nat _ lo a → @LT.lt Nat _ a c → @LT.lt Nat _ c at' → @LT.lt Nat _ at' hi → @Ne Nat ρ c → @Ne Nat ρ at' → @Ne Nat ρ hi → (a, instObj 356 lo) ∈ led → (lo, dictOf es z) ∈ led → (c, listOf cs.toArray nc) ∈ led → (at', listOf as.toArray na) ∈ led → (hi, listOf #[] nn) ∈ led →
  DE es (rowFs d.kind d.name d.uri d.loc d.value t1 t2 t3 t4 t5 pv c at' hi) → IsPar pv d.parent → handedIn pv = true → IntsAre cs d.children → IntsAre as d.attrs → G) : G := by
  obtain ⟨c, at', es, z, cs, as, nc, na, nn, pv, t1, t2, t3, t4, t5, ⟨o1, o2, o3, o4⟩, ⟨r1, r2, r3⟩, m1, m2, m3, m4, m5, de, h1, h2, h3, h4⟩ := r
  exact H c at' es z cs as nc na nn pv t1 t2 t3 t4 t5 o1 o2 o3 o4 r1 r2 r3 m1 m2 m3 m4 m5 de h1 h2 h3 h4
theorem rowAt_of {led : Led} {lo hi ρ a : Addr} {d : NodeD} (c at' : Addr) (es : List DictEntry) (z : Nat) (cs as : List Value) (nc na nn : Nat) (pv : Value) (t1 t2 t3 t4 t5 : Tok)
  (o1 : @LT.lt Nat _ lo a) (o2 : @LT.lt Nat _ a c) (o3 : @LT.lt Nat _ c at') (o4 : @LT.lt Nat _ at' hi) (r1 : @Ne Nat ρ c) (r2 : @Ne Nat ρ at') (r3 : @Ne Nat ρ hi) (m1 : (a, instObj 356 lo) ∈ led) (m2 : (lo, dictOf es z) ∈ led) (m3 : (c, listOf cs.toArray nc) ∈ led) (m4 : (at', listOf as.toArray na) ∈ led) (m5 : (hi, listOf #[] nn) ∈ led)
  (de : DE es (rowFs d.kind d.name d.uri d.loc d.value t1 t2 t3 t4 t5 pv c at' hi)) (h1 : IsPar pv d.parent) (h2 : handedIn pv = true) (h3 : IntsAre cs d.children) (h4 : IntsAre as d.attrs) : RowAt led lo hi ρ a d :=
  ⟨c, at', es, z, cs, as, nc, na, nn, pv, t1, t2, t3, t4, t5, ⟨o1, o2, o3, o4⟩, ⟨r1, r2, r3⟩, m1, m2, m3, m4, m5, de, h1, h2, h3, h4⟩
theorem addR_k {ro old : Led} {R : Addr} {refs : List Value} {nR : Nat} {kd nm ur lc va : Str} {pv : Value} {tl : Tok → Led} {P : Value → Led → Prop} (H : ∀ (x dx c at' ns : Addr) (es : List DictEntry) (z : Nat) (t t1 t2 t3 t4 t5 : Tok) (n1 : Led), n1 = (ns, listOf #[] 0) :: (at', listOf #[] 0) :: (c, listOf #[] 0) :: (x, instObj 356 dx) :: (dx, dictOf es z) :: (R, listOf (refs ++ [Value.ref x]).toArray (nR + 1)) :: tl t →
    (∀ p ∈ old, p.1 < dx) → (∀ p ∈ ro, p.1 < dx) → @LT.lt Nat _ dx x → @LT.lt Nat _ x c → @LT.lt Nat _ c at' → @LT.lt Nat _ at' ns → DE es (rowFs kd nm ur lc va t1 t2 t3 t4 t5 pv c at' ns) → P (.int (refs.length : Int) t) n1) : ∀ r n1, AddR ro R refs nR old kd nm ur lc va pv tl r n1 → P r n1 := by
  rintro r n1 ⟨x, dx, c, at', ns, es, z, t, t1, t2, t3, t4, t5, e, hn, l1, l2, l3, l4, l5, l6, de⟩
  subst e
  exact H x dx c at' ns es z t t1 t2 t3 t4 t5 n1 hn l1 l2 l3 l4 l5 l6 de
structure DocC (ρ : Addr) (led : Led) (T : Addr) (dl : List NodeD) (R dT : Addr) (esT : List DictEntry) (zT nR : Nat) (refs : List Value) (lo hi : Nat → Addr) : Prop where
  t1 : (T, instObj 545 dT) ∈ led
  t2 : (dT, dictOf esT zT) ∈ led
  t3 : DE esT [(Str.ofString "rows", .ref R)]
  r : (R, listOf refs.toArray nR) ∈ led
  tR : @LT.lt Nat _ T R
  dR : @LT.lt Nat _ dT R
  ρR : @Ne Nat ρ R
  ρm : ∃ o, (ρ, o) ∈ led
  len : refs.length = dl.length
  rows : ∀ (i : Nat) (d : NodeD), dl[i]? = some d → ∃ a : Addr, refs[i]? = some (Value.ref a) ∧ RowAt led (lo i) (hi i) ρ a d
  low : ∀ i, i < dl.length → @LT.lt Nat _ R (lo i)
  ord : ∀ i j, i < j → j < dl.length → @LT.lt Nat _ (hi i) (lo j)
def DocL (ρ : Addr) (led : Led) (T : Addr) (dl : List NodeD) : Prop := ∃ R dT esT zT nR refs lo hi, DocC ρ led T dl R dT esT zT nR refs lo hi
theorem row_keep {led n' : Led} {lo hi ρ a : Addr} {d : NodeD} (r : RowAt led lo hi ρ a d) (h : ∀ p ∈ led, @LE.le Nat _ lo p.1 → @LE.le Nat _ p.1 hi → p ∈ n') : RowAt n' lo hi ρ a d := by
  refine rowAt_k r ?_
  intro c at' es z cs as nc na nn pv t1 t2 t3 t4 t5 o1 o2 o3 o4 r1 r2 r3 m1 m2 m3 m4 m5 de hpv hpvh hcs has
  have q1 := Nat.lt_trans o1 o2
  have q2 := Nat.lt_trans q1 o3
  have q3 := Nat.lt_trans q2 o4
  have s3 := Nat.lt_trans o3 o4
  have s2 := Nat.lt_trans o2 s3
  exact rowAt_of c at' es z cs as nc na nn pv t1 t2 t3 t4 t5 o1 o2 o3 o4 r1 r2 r3 (h _ m1 (Nat.le_of_lt o1) (Nat.le_of_lt s2)) (h _ m2 (Nat.le_refl _) (Nat.le_of_lt q3)) (h _ m3 (Nat.le_of_lt q1) (Nat.le_of_lt s3)) (h _ m4 (Nat.le_of_lt q2) (Nat.le_of_lt o4)) (h _ m5 (Nat.le_of_lt q3) (Nat.le_refl _)) de hpv hpvh hcs has
theorem row_in {led : Led} {lo hi ρ a : Addr} {d : NodeD} (r : RowAt led lo hi ρ a d) : @LT.lt Nat _ lo hi ∧ ∃ o, (hi, o) ∈ led := by
  refine rowAt_k r ?_
  intro c at' es z cs as nc na nn pv t1 t2 t3 t4 t5 o1 o2 o3 o4 r1 r2 r3 m1 m2 m3 m4 m5 de hpv hpvh hcs has
  exact ⟨by omega, _, m5⟩
def Keeps (ρ : Addr) (led n' : Led) : Prop := ∀ p ∈ led, (p.1 = ρ ∨ p.2.cls = .type "tuple") → p ∈ n'
/-- the document's new state, from the old one's rows (dm) and one row more -/
theorem docl_mk {ρ : Addr} {led n' : Led} {T : Addr} {dl dm : List NodeD} {nd : NodeD} {R dT : Addr} {esT : List DictEntry} {zT nR : Nat} {refs : List Value} {lo hi : Nat → Addr} (C : DocC ρ led T dl R dT esT zT nR refs lo hi) {x dx ns : Addr} {nR' : Nat}
    (hlen : dm.length = dl.length) (h1 : (T, instObj 545 dT) ∈ n') (h2 : (dT, dictOf esT zT) ∈ n') (h3 : (R, listOf (refs ++ [Value.ref x]).toArray nR') ∈ n') (h4 : ∃ o, (ρ, o) ∈ n')
    (hold : ∀ (i : Nat) (d : NodeD), dm[i]? = some d → ∃ a : Addr, refs[i]? = some (Value.ref a) ∧ RowAt n' (lo i) (hi i) ρ a d) (hnew : RowAt n' dx ns ρ x nd) (hR : @LT.lt Nat _ R dx) (hhi : ∀ i, i < dl.length → @LT.lt Nat _ (hi i) dx) : DocL ρ n' T (dm ++ [nd]) := by
  refine ⟨R, dT, esT, zT, nR', refs ++ [.ref x], fun i => if i = dl.length then dx else lo i, fun i => if i = dl.length then ns else hi i, h1, h2, C.t3, h3, C.tR, C.dR, C.ρR, h4, by simp [C.len, hlen], ?_, ?_, ?_⟩
  · intro i d hd
    by_cases hi' : i < dl.length
    · rw [List.getElem?_append_left (by omega)] at hd
      obtain ⟨a, ha, hr⟩ := hold i d hd
      rw [if_neg (by omega), if_neg (by omega)]
      exact ⟨a, app_get ha, hr⟩
    · have hlt := (List.getElem?_eq_some_iff.mp hd).1
      rw [List.length_append, hlen] at hlt
      have hie : i = dl.length := by simp at hlt; omega
      subst hie
      rw [if_pos rfl, if_pos rfl]
      rw [← hlen, List.getElem?_append_right (Nat.le_refl _)] at hd
      simp at hd
      subst hd
      exact ⟨x, by rw [← C.len, List.getElem?_append_right (Nat.le_refl _)]; simp, hnew⟩
  · intro i hi'
    rw [List.length_append, hlen] at hi'
    by_cases he : i = dl.length
    · rw [if_pos he]; exact hR
    · rw [if_neg he]; exact C.low i (by simp at hi'; omega)
  · intro i j hij hj
    rw [List.length_append, hlen] at hj
    simp at hj
    rw [if_neg (by omega)]
    by_cases he : j = dl.length
    · rw [if_pos he]; exact hhi i (by omega)
    · rw [if_neg he]; exact C.ord i j hij (by omega)
theorem ints_len {vs : List Value} {ns : List Int} (h : IntsAre vs ns) : vs.length = ns.length := by
  induction h with
  | nil => rfl
  | cons n t h ih => simp [ih]
def SmallAdd (w : World) (f T : Addr) (vs : List Value) (k : Nat) (ktk : Tok) (kd nm ur lo va : Str) (D U : Nat) : Prop :=
  ∀ (R a c : Addr) (refs cs : List Value) (nR nc : Nat) (kd0 n0 u0 l0 v0 : Str) (s1 s2 s3 s4 s5 : Tok) (pv0 : Value) (at0 ns0 : Addr) (ro : Led), Inst ro T 545 [(Str.ofString "rows", .ref R)] → refs[k]? = some (.ref a) → refs.length ≤ 100 → cs.length ≤ 100 → Inst ro a 356 (rowFs kd0 n0 u0 l0 v0 s1 s2 s3 s4 s5 pv0 c at0 ns0) → (kd0 = Str.ofString "root" ∨ kd0 = Str.ofString "element") → @Ne Nat R c →
    Con w f vs ro [(R, listOf refs.toArray nR), (c, listOf cs.toArray nc)] D U (AddR ro R refs nR [(R, listOf refs.toArray nR), (c, listOf cs.toArray nc)] kd nm ur lo va (.int (k : Int) ktk) (fun t => [(c, listOf (cs ++ [Value.int (refs.length : Int) t]).toArray (nc + 1))]))
theorem doc_child {w : World} {f T ρ : Addr} {vs : List Value} {k : Nat} {ktk : Tok} {kd nm ur lc va : Str} {D U : Nat} {led ro : Led} {dl : List NodeD} {d : NodeD} (hS : SmallAdd w f T vs k ktk kd nm ur lc va D U) (hD : DocL ρ led T dl) (hk : dl[k]? = some d) (hkd : d.kind = Str.ofString "root" ∨ d.kind = Str.ofString "element") (hz : dl.length ≤ 90) (hzc : d.children.length ≤ 90) :
    Con w f vs ro led D U (fun r n' => ∃ t, r = .int (dl.length : Int) t ∧ DocL ρ n' T (dl.set k { d with children := d.children ++ [(dl.length : Int)] } ++ [⟨kd, nm, ur, lc, va, some (k : Int), [], []⟩]) ∧ Keeps ρ led n') := by
  refine ob8_1 hD ?_
  intro R dT esT zT nR refs lo hi C
  refine ob1_2 (C.rows k d hk) ?_
  intro a ha hrow
  refine rowAt_k hrow ?_
  clear hrow
  intro c at' es z cs as nc na nn pv t1 t2 t3 t4 t5 o1 o2 o3 o4 r1 r2 r3 m1 m2 m3 m4 m5 de hpv hpvh hcs has
  have hkl : k < dl.length := (List.getElem?_eq_some_iff.mp hk).1
  have hRlo := C.low k hkl
  have tR := C.tR
  have dR := C.dR
  have ρR := C.ρR
  have x2 : @LT.lt Nat _ R a := Nat.lt_trans hRlo o1
  have x3 : @LT.lt Nat _ R c := Nat.lt_trans x2 o2
  have x4 : @LT.lt Nat _ R at' := Nat.lt_trans x3 o3
  have x5 : @LT.lt Nat _ R (hi k) := Nat.lt_trans x4 o4
  have y1 : @LT.lt Nat _ (lo k) c := Nat.lt_trans o1 o2
  have y5 : @LT.lt Nat _ c (hi k) := Nat.lt_trans o3 o4
  have z1 : @LT.lt Nat _ T c := Nat.lt_trans tR x3
  have z2 : @LT.lt Nat _ dT c := Nat.lt_trans dR x3
  have hRc : @Ne Nat R c := Nat.ne_of_lt x3
  have hsub : ∀ p ∈ [(R, listOf refs.toArray nR), (c, listOf cs.toArray nc)], p ∈ led := List.forall_mem_cons.mpr ⟨C.r, List.forall_mem_cons.mpr ⟨m3, List.forall_mem_nil _⟩⟩
  have off : ∀ p ∈ led, @Ne Nat p.1 R → @Ne Nat p.1 c → p ∈ restL led [(R, listOf refs.toArray nR), (c, listOf cs.toArray nc)] := fun p hp h1 h2 => restL_mem hp (List.forall_mem_cons.mpr ⟨fun e => h1 e.symm, List.forall_mem_cons.mpr ⟨fun e => h2 e.symm, List.forall_mem_nil _⟩⟩)
  have iT : Inst (restL led [(R, listOf refs.toArray nR), (c, listOf cs.toArray nc)]) T 545 [(Str.ofString "rows", .ref R)] := ⟨dT, esT, zT, off _ C.t1 (Nat.ne_of_lt tR) (Nat.ne_of_lt z1), off _ C.t2 (Nat.ne_of_lt dR) (Nat.ne_of_lt z2), C.t3.get⟩
  have iA : Inst (restL led [(R, listOf refs.toArray nR), (c, listOf cs.toArray nc)]) a 356 (rowFs d.kind d.name d.uri d.loc d.value t1 t2 t3 t4 t5 pv c at' (hi k)) := ⟨lo k, es, z, off _ m1 (Nat.ne_of_gt x2) (Nat.ne_of_lt o2), off _ m2 (Nat.ne_of_gt hRlo) (Nat.ne_of_lt y1), de.get⟩
  refine (con_frame hsub (hS R a c refs cs nR nc _ _ _ _ _ _ _ _ _ _ pv at' (hi k) _ iT ha (by rw [C.len]; omega) (by rw [ints_len hcs]; omega) iA hkd hRc)).mono ?_
  refine kx_frameE ?_
  intro n'
  refine addR_k ?_
  intro x dx c' a' ns es' z' t u1 u2 u3 u4 u5 n1 hn1 l1 l2 l3 l4 l5 l6 de' hn hall
  have keep : ∀ p ∈ led, @Ne Nat p.1 R → @Ne Nat p.1 c → p ∈ n' := fun p hp h1 h2 => hn ▸ List.mem_append_right _ (off p hp h1 h2)
  have front : ∀ p ∈ n1, p ∈ n' := fun p hp => hn ▸ List.mem_append_left _ hp
  have fresh : ∀ p ∈ led, @LT.lt Nat _ p.1 dx := fun p hp => by
    by_cases h1 : p.1 = R
    · rw [h1]; exact l1 _ (.head _)
    by_cases h2 : p.1 = c
    · rw [h2]; exact l1 _ (.tail _ (.head _))
    exact l2 p (off p hp h1 h2)
  have hcdx := fresh _ m3
  obtain ⟨oρ, hρm⟩ := C.ρm
  have hρdx := fresh _ hρm
  dsimp only at hcdx hρdx
  have p2 := Nat.lt_trans (Nat.lt_trans hρdx l3) l4
  have p3 := Nat.lt_trans p2 l5
  have p4 := Nat.lt_trans p3 l6
  refine ⟨t, by rw [C.len], docl_mk C (nR' := nR + 1) (x := x) (dx := dx) (ns := ns) (by simp) (keep _ C.t1 (Nat.ne_of_lt tR) (Nat.ne_of_lt z1)) (keep _ C.t2 (Nat.ne_of_lt dR) (Nat.ne_of_lt z2)) (front _ (by rw [hn1]; k_mem)) ⟨oρ, keep _ hρm ρR r1⟩ ?_ ?_ (fresh _ C.r) ?_, ?_⟩
  · intro i di hdi
    by_cases hik : i = k
    · subst hik
      rw [List.getElem?_set_self hkl] at hdi
      cases hdi
      refine ⟨a, ha, rowAt_of c at' es z (cs ++ [Value.int (refs.length : Int) t]) as (nc + 1) na nn pv t1 t2 t3 t4 t5 o1 o2 o3 o4 r1 r2 r3 (keep _ m1 (Nat.ne_of_gt x2) (Nat.ne_of_lt o2)) (keep _ m2 (Nat.ne_of_gt hRlo) (Nat.ne_of_lt y1)) (front _ (by rw [hn1]; k_mem)) (keep _ m4 (Nat.ne_of_gt x4) (Nat.ne_of_gt o3)) (keep _ m5 (Nat.ne_of_gt x5) (Nat.ne_of_gt y5)) de hpv hpvh ?_ has⟩
      rw [← C.len]
      exact IntsAre.append hcs (.cons _ _ .nil)
    · rw [List.getElem?_set_ne (fun e => hik e.symm)] at hdi
      obtain ⟨b, hb, hr⟩ := C.rows i di hdi
      have hil : i < dl.length := (List.getElem?_eq_some_iff.mp hdi).1
      have hRi := C.low i hil
      refine ⟨b, hb, row_keep hr fun p hp h1 h2 => keep p hp (Nat.ne_of_gt (Nat.lt_of_lt_of_le hRi h1)) ?_⟩
      rcases Nat.lt_or_gt_of_ne hik with h | h
      · exact Nat.ne_of_lt (Nat.lt_of_le_of_lt h2 (Nat.lt_trans (C.ord i k h hkl) y1))
      · exact Nat.ne_of_gt (Nat.lt_of_lt_of_le (Nat.lt_trans y5 (C.ord k i h hil)) h1)
  · exact rowAt_of c' a' es' z' [] [] 0 0 0 _ u1 u2 u3 u4 u5 l3 l4 l5 l6 (Nat.ne_of_lt p2) (Nat.ne_of_lt p3) (Nat.ne_of_lt p4) (front _ (by rw [hn1]; k_mem)) (front _ (by rw [hn1]; k_mem)) (front _ (by rw [hn1]; k_mem)) (front _ (by rw [hn1]; k_mem)) (front _ (by rw [hn1]; k_mem)) de' ⟨_, rfl⟩ rfl .nil .nil
  · intro i hil
    obtain ⟨b, hb, hr⟩ := C.rows i dl[i] (by simp [hil])
    obtain ⟨_, o, ho⟩ := row_in hr
    exact fresh _ ho
  · intro p hp h
    refine (hall p hp).resolve_right fun h2 => ?_
    cases h2 with
    | head => exact h.elim (fun e => ρR e.symm) (fun e => absurd (Value.type.inj e) (by decide))
    | tail _ h2 => cases h2 with
      | head => exact h.elim (fun e => r1 e.symm) (fun e => absurd (Value.type.inj e) (by decide))
      | tail _ h2 => cases h2
theorem ints_get {vs : List Value} {ns : List Int} (h : IntsAre vs ns) : ∀ {i : Nat} {v : Value}, vs[i]? = some v → ∃ (j : Int) (t : Tok), v = .int j t ∧ j ∈ ns := by
  induction h with
  | nil => intro i v hv; simp at hv
  | cons n t h ih =>
    intro i v hv
    cases i with
    | zero => exact ⟨n, t, by simpa using hv.symm, .head _⟩
    | succ i =>
      obtain ⟨j, tj, e, hj⟩ := ih (by simpa using hv)
      exact ⟨j, tj, e, .tail _ hj⟩
theorem doc_attr {w : World} {T ρ : Addr} {k : Nat} {ktk : Tok} {nm ur lc va : Str} {q1 q2 q3 q4 : Tok} {led ro : Led} {dl : List NodeD} {d : NodeD} (hD : DocL ρ led T dl) (hk : dl[k]? = some d) (hkd : d.kind = Str.ofString "element") (hz : dl.length ≤ 90) (hzc : d.attrs.length ≤ 90)
    (hno : ∀ j ∈ d.attrs, ∃ (jn : Nat) (dj : NodeD), j = (jn : Int) ∧ dl[jn]? = some dj ∧ jn ≠ k ∧ ¬ (dj.uri = ur ∧ dj.loc = lc)) :
    Con w 444 [.ref T, .int (k : Int) ktk, .str nm q1, .str ur q2, .str lc q3, .str va q4] ro led 8 200 (fun r n' => ∃ t, r = .int (dl.length : Int) t ∧ DocL ρ n' T (dl.set k { d with attrs := d.attrs ++ [(dl.length : Int)] } ++ [⟨Str.ofString "attribute", nm, ur, lc, va, some (k : Int), [], []⟩]) ∧ Keeps ρ led n') := by
  refine ob8_1 hD ?_
  intro R dT esT zT nR refs lo hi C
  refine ob1_2 (C.rows k d hk) ?_
  intro a ha hrow
  refine rowAt_k hrow ?_
  clear hrow
  intro c at' es z cs as nc na nn pv t1 t2 t3 t4 t5 o1 o2 o3 o4 r1 r2 r3 m1 m2 m3 m4 m5 de hpv hpvh hcs has
  have hkl : k < dl.length := (List.getElem?_eq_some_iff.mp hk).1
  have hRlo := C.low k hkl
  have tR := C.tR
  have dR := C.dR
  have ρR := C.ρR
  have x2 : @LT.lt Nat _ R a := Nat.lt_trans hRlo o1
  have x3 : @LT.lt Nat _ R c := Nat.lt_trans x2 o2
  have x4 : @LT.lt Nat _ R at' := Nat.lt_trans x3 o3
  have x5 : @LT.lt Nat _ R (hi k) := Nat.lt_trans x4 o4
  have ya : @LT.lt Nat _ a at' := Nat.lt_trans o2 o3
  have y1 : @LT.lt Nat _ (lo k) at' := Nat.lt_trans o1 ya
  have y5 : @LT.lt Nat _ at' (hi k) := o4
  have z1 : @LT.lt Nat _ T at' := Nat.lt_trans tR x4
  have z2 : @LT.lt Nat _ dT at' := Nat.lt_trans dR x4
  have hRc : @Ne Nat R at' := Nat.ne_of_lt x4
  rw [hkd] at de
  have hsub : ∀ p ∈ [(R, listOf refs.toArray nR), (at', listOf as.toArray na)], p ∈ led := List.forall_mem_cons.mpr ⟨C.r, List.forall_mem_cons.mpr ⟨m4, List.forall_mem_nil _⟩⟩
  have off : ∀ p ∈ led, @Ne Nat p.1 R → @Ne Nat p.1 at' → p ∈ restL led [(R, listOf refs.toArray nR), (at', listOf as.toArray na)] := fun p hp h1 h2 => restL_mem hp (List.forall_mem_cons.mpr ⟨fun e => h1 e.symm, List.forall_mem_cons.mpr ⟨fun e => h2 e.symm, List.forall_mem_nil _⟩⟩)
  have iT : Inst (restL led [(R, listOf refs.toArray nR), (at', listOf as.toArray na)]) T 545 [(Str.ofString "rows", .ref R)] := ⟨dT, esT, zT, off _ C.t1 (Nat.ne_of_lt tR) (Nat.ne_of_lt z1), off _ C.t2 (Nat.ne_of_lt dR) (Nat.ne_of_lt z2), C.t3.get⟩
  have iA : Inst (restL led [(R, listOf refs.toArray nR), (at', listOf as.toArray na)]) a 356 (rowFs (Str.ofString "element") d.name d.uri d.loc d.value t1 t2 t3 t4 t5 pv c at' (hi k)) := ⟨lo k, es, z, off _ m1 (Nat.ne_of_gt x2) (Nat.ne_of_lt ya), off _ m2 (Nat.ne_of_gt hRlo) (Nat.ne_of_lt y1), de.get⟩
  refine (con_frame hsub (set_attribute_con w T R a c refs as nR na k _ _ _ _ _ _ _ _ _ pv at' (hi k) ktk nm ur lc va _ _ _ _ _ iT ha (by rw [C.len]; omega) (by rw [ints_len has]; omega) iA hRc ?_)).mono ?_
  · intro i v hv
    obtain ⟨j, tj, rfl, hj⟩ := ints_get has hv
    obtain ⟨jn, dj, rfl, hdj, hjk, hne⟩ := hno j hj
    refine ob1_2 (C.rows jn dj hdj) ?_
    intro b hb hrowj
    refine rowAt_k hrowj ?_
    clear hrowj
    intro cj atj esj zj csj asj ncj naj nnj pvj w1 w2 w3 w4 w5 e1 e2 e3 e4 _ _ _ f1 f2 f3 f4 f5 dej _ _ _ _
    have hjl : jn < dl.length := (List.getElem?_eq_some_iff.mp hdj).1
    have hRj := C.low jn hjl
    have hoffj : ∀ q : Nat, @LE.le Nat _ (lo jn) q → @LT.lt Nat _ q cj → @Ne Nat q at' := fun q h1 h2 => by
      rcases Nat.lt_or_gt_of_ne hjk with h | h
      · have := C.ord jn k h hkl; omega
      · have := C.ord k jn h hjl; omega
    exact ⟨jn, tj, b, dj.kind, dj.name, dj.uri, dj.loc, dj.value, w1, w2, w3, w4, w5, pvj, cj, atj, hi jn, rfl, hb, ⟨lo jn, esj, zj, off _ f1 (by dsimp only; omega) (hoffj _ (by dsimp only; omega) (by dsimp only; omega)), off _ f2 (by dsimp only; omega) (hoffj _ (Nat.le_refl _) (by dsimp only; omega)), dej.get⟩, hne⟩
  refine kx_frameE ?_
  intro n'
  refine addR_k ?_
  intro x dx c' a' ns es' z' t u1 u2 u3 u4 u5 n1 hn1 l1 l2 l3 l4 l5 l6 de' hn hall
  have keep : ∀ p ∈ led, @Ne Nat p.1 R → @Ne Nat p.1 at' → p ∈ n' := fun p hp h1 h2 => hn ▸ List.mem_append_right _ (off p hp h1 h2)
  have front : ∀ p ∈ n1, p ∈ n' := fun p hp => hn ▸ List.mem_append_left _ hp
  have fresh : ∀ p ∈ led, @LT.lt Nat _ p.1 dx := fun p hp => by
    by_cases h1 : p.1 = R
    · rw [h1]; exact l1 _ (.head _)
    by_cases h2 : p.1 = at'
    · rw [h2]; exact l1 _ (.tail _ (.head _))
    exact l2 p (off p hp h1 h2)
  have hcdx := fresh _ m4
  obtain ⟨oρ, hρm⟩ := C.ρm
  have hρdx := fresh _ hρm
  dsimp only at hcdx hρdx
  have p2 := Nat.lt_trans (Nat.lt_trans hρdx l3) l4
  have p3 := Nat.lt_trans p2 l5
  have p4 := Nat.lt_trans p3 l6
  refine ⟨t, by rw [C.len], docl_mk C (nR' := nR + 1) (x := x) (dx := dx) (ns := ns) (by simp) (keep _ C.t1 (Nat.ne_of_lt tR) (Nat.ne_of_lt z1)) (keep _ C.t2 (Nat.ne_of_lt dR) (Nat.ne_of_lt z2)) (front _ (by rw [hn1]; k_mem)) ⟨oρ, keep _ hρm ρR r2⟩ ?_ ?_ (fresh _ C.r) ?_, ?_⟩
  · intro i di hdi
    by_cases hik : i = k
    · subst hik
      rw [List.getElem?_set_self hkl] at hdi
      cases hdi
      refine ⟨a, ha, rowAt_of c at' es z cs (as ++ [Value.int (refs.length : Int) t]) nc (na + 1) nn pv t1 t2 t3 t4 t5 o1 o2 o3 o4 r1 r2 r3 (keep _ m1 (Nat.ne_of_gt x2) (Nat.ne_of_lt ya)) (keep _ m2 (Nat.ne_of_gt hRlo) (Nat.ne_of_lt y1)) (keep _ m3 (Nat.ne_of_gt x3) (Nat.ne_of_lt o3)) (front _ (by rw [hn1]; k_mem)) (keep _ m5 (Nat.ne_of_gt x5) (Nat.ne_of_gt y5)) (by rw [hkd]; exact de) hpv hpvh hcs ?_⟩
      rw [← C.len]
      exact IntsAre.append has (.cons _ _ .nil)
    · rw [List.getElem?_set_ne (fun e => hik e.symm)] at hdi
      obtain ⟨b, hb, hr⟩ := C.rows i di hdi
      have hil : i < dl.length := (List.getElem?_eq_some_iff.mp hdi).1
      have hRi := C.low i hil
      refine ⟨b, hb, row_keep hr fun p hp h1 h2 => keep p hp (Nat.ne_of_gt (Nat.lt_of_lt_of_le hRi h1)) ?_⟩
      rcases Nat.lt_or_gt_of_ne hik with h | h
      · exact Nat.ne_of_lt (Nat.lt_of_le_of_lt h2 (Nat.lt_trans (C.ord i k h hkl) y1))
      · exact Nat.ne_of_gt (Nat.lt_of_lt_of_le (Nat.lt_trans y5 (C.ord k i h hil)) h1)
  · exact rowAt_of c' a' es' z' [] [] 0 0 0 _ u1 u2 u3 u4 u5 l3 l4 l5 l6 (Nat.ne_of_lt p2) (Nat.ne_of_lt p3) (Nat.ne_of_lt p4) (front _ (by rw [hn1]; k_mem)) (front _ (by rw [hn1]; k_mem)) (front _ (by rw [hn1]; k_mem)) (front _ (by rw [hn1]; k_mem)) (front _ (by rw [hn1]; k_mem)) de' ⟨_, rfl⟩ rfl .nil .nil
  · intro i hil
    obtain ⟨b, hb, hr⟩ := C.rows i dl[i] (by simp [hil])
    obtain ⟨_, o, ho⟩ := row_in hr
    exact fresh _ ho
  · intro p hp h
    refine (hall p hp).resolve_right fun h2 => ?_
    cases h2 with
    | head => exact h.elim (fun e => ρR e.symm) (fun e => absurd (Value.type.inj e) (by decide))
    | tail _ h2 => cases h2 with
      | head => exact h.elim (fun e => r2 e.symm) (fun e => absurd (Value.type.inj e) (by decide))
      | tail _ h2 => cases h2

theorem mk_tree_con (w : World) (ro news : Led) : Con w 545 [] ro news 3 60 (fun r n' => ∃ (R T dT : Addr) (es : List DictEntry) (z : Nat), r = .ref T ∧ n' = (R, listOf #[] 0) :: (T, instObj 545 dT) :: (dT, dictOf es z) :: news ∧ (∀ p ∈ news, p.1 < dT) ∧ @LT.lt Nat _ dT T ∧ @LT.lt Nat _ T R ∧ DE es [(Str.ofString "rows", .ref R)]) := by
  refine con_cls (fI := 374) (D := 2) (U := 59) (by k_is) (by k_is) (by k_is) fun x dx hnx hxx hrx => ?_
  refine con_of [(Str.ofString "self", .ref x)] [(Str.ofString "self", .ref x)] (by k_is) (by k_is) rfl rfl (locs rfl) (by decide) rfl rfl rfl ?_
  intro prog mean mg mb dp un gd outer A₀ base g L s Q B F X N T hro hlt hd hu hret
  k_steps
  rename_i R _ lR h7 F7 N7
  refine hret _ _ _ _ _ ⟨rfl, R, x, dx, _, _, rfl, rfl, hnx, hxx, lR.1, ?de⟩ F7 N7
  case de => repeat constructor
theorem docl_nil {led : Led} {R T dT : Addr} {es : List DictEntry} {z n : Nat} (h1 : (T, instObj 545 dT) ∈ led) (h2 : (dT, dictOf es z) ∈ led) (h3 : (R, listOf #[] n) ∈ led) (o1 : @LT.lt Nat _ dT T) (o2 : @LT.lt Nat _ T R) (d : DE es [(Str.ofString "rows", .ref R)]) : DocL T led T [] :=
  ⟨R, dT, es, z, n, [], fun _ => 0, fun _ => 0, h1, h2, d, h3, o2, Nat.lt_trans o1 o2, Nat.ne_of_lt o2, ⟨_, h1⟩, rfl, fun i d h => by simp at h, fun i h => absurd h (Nat.not_lt_zero _), fun i j _ h => absurd h (Nat.not_lt_zero _)⟩
theorem docl_mono {ρ : Addr} {led led' : Led} {T : Addr} {dl : List NodeD} (hD : DocL ρ led T dl) (h : ∀ p ∈ led, p ∈ led') : DocL ρ led' T dl := by
  refine ob8_1 hD ?_
  intro R dT esT zT nR refs lo hi C
  obtain ⟨o, ho⟩ := C.ρm
  exact ⟨R, dT, esT, zT, nR, refs, lo, hi, h _ C.t1, h _ C.t2, C.t3, h _ C.r, C.tR, C.dR, C.ρR, ⟨o, h _ ho⟩, C.len, fun i d hd => let ⟨a, ha, hr⟩ := C.rows i d hd; ⟨a, ha, row_keep hr fun p hp _ _ => h p hp⟩, C.low, C.ord⟩
theorem docl_set {ρ : Addr} {led led' : Led} {T : Addr} {dl : List NodeD} {its : Array Value} {n : Nat} {o' : Obj} (hD : DocL ρ led T dl) (hm : (ρ, o') ∈ led') (h : ∀ p ∈ led, p.1 ≠ ρ ∨ p.2 ≠ listOf its n → p ∈ led') : DocL ρ led' T dl := by
  refine ob8_1 hD ?_
  intro R dT esT zT nR refs lo hi C
  have nd : ∀ (es : List DictEntry) (z : Nat), dictOf es z ≠ listOf its n := fun es z e => by have := congrArg Obj.cls e; exact absurd (Value.type.inj this) (by decide)
  have ni : ∀ (x y : Addr), instObj x y ≠ listOf its n := fun x y e => by have := congrArg Obj.cls e; cases this
  refine ⟨R, dT, esT, zT, nR, refs, lo, hi, h _ C.t1 (.inr (ni _ _)), h _ C.t2 (.inr (nd _ _)), C.t3, h _ C.r (.inl fun e => C.ρR e.symm), C.tR, C.dR, C.ρR, ⟨_, hm⟩, C.len, fun i d hd => ?_, C.low, C.ord⟩
  refine ob1_2 (C.rows i d hd) ?_
  intro a ha hrow
  refine rowAt_k hrow ?_
  clear hrow
  intro c at' es z cs as nc na nn pv t1 t2 t3 t4 t5 o1 o2 o3 o4 r1 r2 r3 m1 m2 m3 m4 m5 de hpv hpvh hcs has
  exact ⟨a, ha, rowAt_of c at' es z cs as nc na nn pv t1 t2 t3 t4 t5 o1 o2 o3 o4 r1 r2 r3 (h _ m1 (.inr (ni _ _))) (h _ m2 (.inr (nd _ _))) (h _ m3 (.inl fun e => r1 e.symm)) (h _ m4 (.inl fun e => r2 e.symm)) (h _ m5 (.inl fun e => r3 e.symm)) de hpv hpvh hcs has⟩
/-- another address to stay clear of: a fresh one -/
theorem docl_rho {ρ q : Addr} {led : Led} {T : Addr} {dl : List NodeD} {o : Obj} (hD : DocL ρ led T dl) (hq : ∀ p ∈ led, p.1 < q) : DocL q ((q, o) :: led) T dl := by
  refine ob8_1 hD ?_
  intro R dT esT zT nR refs lo hi C
  refine ⟨R, dT, esT, zT, nR, refs, lo, hi, .tail _ C.t1, .tail _ C.t2, C.t3, .tail _ C.r, C.tR, C.dR, Nat.ne_of_gt (hq _ C.r), ⟨_, .head _⟩, C.len, fun i d hd => ?_, C.low, C.ord⟩
  refine ob1_2 (C.rows i d hd) ?_
  intro a ha hrow
  refine rowAt_k hrow ?_
  clear hrow
  intro c at' es z cs as nc na nn pv t1 t2 t3 t4 t5 o1 o2 o3 o4 r1 r2 r3 m1 m2 m3 m4 m5 de hpv hpvh hcs has
  exact ⟨a, ha, rowAt_of c at' es z cs as nc na nn pv t1 t2 t3 t4 t5 o1 o2 o3 o4 (Nat.ne_of_gt (hq _ m3)) (Nat.ne_of_gt (hq _ m4)) (Nat.ne_of_gt (hq _ m5)) (.tail _ m1) (.tail _ m2) (.tail _ m3) (.tail _ m4) (.tail _ m5) de hpv hpvh hcs has⟩
theorem docl_inst {ρ : Addr} {led : Led} {T : Addr} {dl : List NodeD} (hD : DocL ρ led T dl) : ∃ R : Addr, Inst led T 545 [(Str.ofString "rows", .ref R)] := by
  refine ob8_1 hD ?_
  intro R dT esT zT nR refs lo hi C
  exact ⟨R, dT, esT, zT, C.t1, C.t2, C.t3.get⟩
theorem docl_tree {ρ : Addr} {led : Led} {T : Addr} {dl : List NodeD} (hD : DocL ρ led T dl) (hz : dl.length < 2 ^ 20) (hc : ∀ d ∈ dl, d.children.length ≤ 100 ∧ d.attrs.length ≤ 100) : TreeIn led T dl := by
  refine ob8_1 hD ?_
  intro R dT esT zT nR refs lo hi C
  refine ⟨R, refs, ⟨dT, esT, zT, C.t1, C.t2, C.t3.get⟩, ⟨nR, C.r⟩, C.len, hz, fun i d hd => ?_⟩
  refine ob1_2 (C.rows i d hd) ?_
  intro a ha hrow
  refine rowAt_k hrow ?_
  clear hrow
  intro c at' es z cs as nc na nn pv t1 t2 t3 t4 t5 o1 o2 o3 o4 r1 r2 r3 m1 m2 m3 m4 m5 de hpv hpvh hcs has
  have hl := hc d (List.mem_of_getElem? hd)
  exact ⟨a, ha, t1, t2, t3, t4, t5, pv, c, at', hi i, cs, as, ⟨lo i, es, z, m1, m2, de.get⟩, hpv, hpvh, ⟨nc, m3⟩, hcs, ⟨na, m4⟩, has, by rw [ints_len hcs]; exact hl.1, by rw [ints_len has]; exact hl.2⟩
theorem doc_root {w : World} {T ρ : Addr} {led ro : Led} (hD : DocL ρ led T []) : Con w 395 [.ref T] ro led 7 130 (fun r n' => ∃ t, r = .int 0 t ∧ DocL ρ n' T [⟨Str.ofString "root", Str.ofString "", Str.ofString "", Str.ofString "", Str.ofString "", none, [], []⟩] ∧ Keeps ρ led n') := by
  refine ob8_1 hD ?_
  intro R dT esT zT nR refs lo hi C
  have tR := C.tR
  have dR := C.dR
  have ρR := C.ρR
  obtain rfl : refs = [] := List.length_eq_zero_iff.mp (by rw [C.len]; rfl)
  have hsub : ∀ p ∈ [(R, listOf #[] nR)], p ∈ led := List.forall_mem_cons.mpr ⟨C.r, List.forall_mem_nil _⟩
  have off : ∀ p ∈ led, @Ne Nat p.1 R → p ∈ restL led [(R, listOf #[] nR)] := fun p hp h1 => restL_mem hp (List.forall_mem_cons.mpr ⟨fun e => h1 e.symm, List.forall_mem_nil _⟩)
  have iT : Inst (restL led [(R, listOf #[] nR)]) T 545 [(Str.ofString "rows", .ref R)] := ⟨dT, esT, zT, off _ C.t1 (Nat.ne_of_lt tR), off _ C.t2 (Nat.ne_of_lt dR), C.t3.get⟩
  refine (con_frame hsub (new_root_con w T R nR _ iT)).mono ?_
  refine kx_frameE ?_
  intro n'
  refine addR_k ?_
  intro x dx c' a' ns es' z' t u1 u2 u3 u4 u5 n1 hn1 l1 l2 l3 l4 l5 l6 de' hn hall
  have keep : ∀ p ∈ led, @Ne Nat p.1 R → p ∈ n' := fun p hp h1 => hn ▸ List.mem_append_right _ (off p hp h1)
  have front : ∀ p ∈ n1, p ∈ n' := fun p hp => hn ▸ List.mem_append_left _ hp
  have fresh : ∀ p ∈ led, @LT.lt Nat _ p.1 dx := fun p hp => by
    by_cases h1 : p.1 = R
    · rw [h1]; exact l1 _ (.head _)
    exact l2 p (off p hp h1)
  obtain ⟨oρ, hρm⟩ := C.ρm
  have hρdx := fresh _ hρm
  dsimp only at hρdx
  have p2 := Nat.lt_trans (Nat.lt_trans hρdx l3) l4
  have p3 := Nat.lt_trans p2 l5
  have p4 := Nat.lt_trans p3 l6
  refine ⟨t, rfl, docl_mk (dm := []) C (nR' := nR + 1) (x := x) (dx := dx) (ns := ns) rfl (keep _ C.t1 (Nat.ne_of_lt tR)) (keep _ C.t2 (Nat.ne_of_lt dR)) (front _ (by rw [hn1]; k_mem)) ⟨oρ, keep _ hρm ρR⟩ (fun i d h => by simp at h) ?_ (fresh _ C.r) (fun i h => absurd h (Nat.not_lt_zero _)), ?_⟩
  · exact rowAt_of c' a' es' z' [] [] 0 0 0 _ u1 u2 u3 u4 u5 l3 l4 l5 l6 (Nat.ne_of_lt p2) (Nat.ne_of_lt p3) (Nat.ne_of_lt p4) (front _ (by rw [hn1]; k_mem)) (front _ (by rw [hn1]; k_mem)) (front _ (by rw [hn1]; k_mem)) (front _ (by rw [hn1]; k_mem)) (front _ (by rw [hn1]; k_mem)) de' rfl rfl .nil .nil
  · intro p hp h
    refine (hall p hp).resolve_right fun h2 => ?_
    cases h2 with
    | head => exact h.elim (fun e => ρR e.symm) (fun e => absurd (Value.type.inj e) (by decide))
    | tail _ h2 => cases h2
theorem append_M {prog : Program} {w : World} {A : Around} {E : Value → Shared → Prop} {s : Shared} {led : Led} {g : Heap} {L D : Addr} {m : Str → Option Value} {its : List Value} {n : Nat} {x : Value} {Q : Value → Shared → Prop} (F : Fr g L s.heap m) (N : News g L s.heap led) (hm : (D, listOf its.toArray n) ∈ led) (hz : its.length ≤ 1000)
    (h : ∀ h' led', Fr g L h' m → News g L h' led' → (D, listOf (its ++ [x]).toArray (n + 1)) ∈ led' → (∀ p ∈ led, p.1 ≠ D ∨ p.2 ≠ listOf its.toArray n → p ∈ led') → Q .none { s with heap := h' }) : wpAny (model prog w) A (call (.builtin "list.append") [.ref D, x]) Q E s := by
  have z := N _ hm
  refine append_at (hsz := by rw [List.size_toArray, sizeLine_eq]; omega) z.1 fun h' hs ho' => ?_
  have ho2 : h'.get? D = some (listOf (its ++ [x]).toArray (n + 1)) := by rw [ho']; simp
  refine h h' ((D, listOf (its ++ [x]).toArray (n + 1)) :: restL led [(D, listOf its.toArray n)]) (F.change hs z.2.1 z.2.2) ?_ (.head _) ?_
  · intro p hp
    rcases List.mem_cons.mp hp with rfl | hp
    · exact ⟨ho2, z.2⟩
    · have q := N p (restL_sub hp)
      exact ⟨(hs.2 _ (Ne.symm (restL_off hp (.head _)))).trans q.1, q.2⟩
  · intro p hp h1
    have hne : p.1 ≠ D := h1.elim id fun h2 e => by
      have q := (N p hp).1
      rw [e, z.1] at q
      exact h2 (Option.some.inj q).symm
    exact .tail _ (restL_mem hp (List.forall_mem_cons.mpr ⟨fun e => hne e.symm, List.forall_mem_nil _⟩))
theorem small_element (w : World) (T : Addr) (k : Nat) (ktk : Tok) (nm ur lc : Str) (t2 t3 t4 : Tok) : SmallAdd w 409 T [.ref T, .int (k : Int) ktk, .str nm t2, .str ur t3, .str lc t4] k ktk (Str.ofString "element") nm ur lc (Str.ofString "") 9 150 :=
  fun R a c refs cs nR nc kd0 n0 u0 l0 v0 s1 s2 s3 s4 s5 pv0 at0 ns0 ro hT hk hz hzc hA hkd hRc => add_element_con w T R a c refs cs nR nc k kd0 n0 u0 l0 v0 s1 s2 s3 s4 s5 pv0 at0 ns0 ktk _ _ _ _ _ _ ro hT hk hz hzc hA hkd hRc
theorem small_text (w : World) (T : Addr) (k : Nat) (ktk : Tok) (va : Str) (t2 : Tok) : SmallAdd w 416 T [.ref T, .int (k : Int) ktk, .str va t2] k ktk (Str.ofString "text") (Str.ofString "") (Str.ofString "") (Str.ofString "") va 9 150 :=
  fun R a c refs cs nR nc kd0 n0 u0 l0 v0 s1 s2 s3 s4 s5 pv0 at0 ns0 ro hT hk hz hzc hA hkd hRc => add_text_con w T R a c refs cs nR nc k kd0 n0 u0 l0 v0 s1 s2 s3 s4 s5 pv0 at0 ns0 ktk _ _ ro hT hk hz hzc hA hkd hRc
theorem small_comment (w : World) (T : Addr) (k : Nat) (ktk : Tok) (va : Str) (t2 : Tok) : SmallAdd w 423 T [.ref T, .int (k : Int) ktk, .str va t2] k ktk (Str.ofString "comment") (Str.ofString "") (Str.ofString "") (Str.ofString "") va 9 150 :=
  fun R a c refs cs nR nc kd0 n0 u0 l0 v0 s1 s2 s3 s4 s5 pv0 at0 ns0 ro hT hk hz hzc hA hkd hRc => add_comment_con w T R a c refs cs nR nc k kd0 n0 u0 l0 v0 s1 s2 s3 s4 s5 pv0 at0 ns0 ktk _ _ ro hT hk hz hzc hA hkd hRc
theorem small_instruction (w : World) (T : Addr) (k : Nat) (ktk : Tok) (ta da : Str) (t2 t3 : Tok) : SmallAdd w 430 T [.ref T, .int (k : Int) ktk, .str ta t2, .str da t3] k ktk (Str.ofString "instruction") ta (Str.ofString "") ta da 9 150 :=
  fun R a c refs cs nR nc kd0 n0 u0 l0 v0 s1 s2 s3 s4 s5 pv0 at0 ns0 ro hT hk hz hzc hA hkd hRc => add_instruction_con w T R a c refs cs nR nc k kd0 n0 u0 l0 v0 s1 s2 s3 s4 s5 pv0 at0 ns0 ktk _ _ _ _ ro hT hk hz hzc hA hkd hRc
/-- as Con, with the news' freshness told -/
def ConF (w : World) (f : Addr) (vs : List Value) (ro news : Led) (D U : Nat) (R : Value → Led → Prop) : Prop :=
  ∀ (prog : Program) (mean : ExcName → Option Value) (mg mb : Str → Option Value) (dp un : Nat) (gd : Option (List Code)) (cn : Str) (cs : Scope) (a : Addr) (ccd : Value) (cl : List (Str × Addr)) (outer : List Env) (A₀ : Around) (base h₀ : Heap) (L : Addr) (m : Str → Option Value) (s : Shared) (RR : Result → Shared → Prop),
    Below A₀ base outer h₀ → Fr h₀ L s.heap m → (hd.heap_1 w.params).In h₀ → News h₀ L s.heap news → TopH mean mg mb h₀ → cs.kind = .function → ROk ro s.heap news → dp + D < recursionLimit → un + U < cLine →
    (∀ r news' h' tk', R r news' → Fr h₀ L h' m → News h₀ L h' news' → KeepB s.heap news h' → (∀ p ∈ news', s.heap.get? p.1 = none ∨ ∃ q ∈ news, q.1 = p.1) → RR (.ok (.ret r)) { s with heap := h', toks := tk' }) →
    codeAny (model prog w) (ktrTop dp un gd cn cs L a ccd cl outer) (.call (.ref f) ⟨vs, []⟩) RR s
theorem con_ofF {w : World} {f : Addr} {vs : List Value} {ro news : Led} {D U : Nat} {R : Value → Led → Prop}
    {name qual : Str} {params : Arguments} {body : List Stmt} {scope : Scope} {dV kV doc pm cdv ct oc : Value} {an od : Option Addr} {osl : Array (Option Value)} (binds lb : List (Str × Value))
    (ho : (hd.heap_1 w.params).lookup f = some ⟨oc, od, .func (fnOf name qual params body scope dV kV doc pm an cdv ct), osl⟩) (hcd : codeIn (hd.heap_1 w.params) cdv qual = true)
    (hbind : bindArgs (fnOf name qual params body scope dV kV doc pm an cdv ct) ⟨vs, []⟩ = pure binds) (hlb : binds.reverse = lb) (hloc : ∀ y ∈ binds, scope.names.lookup y.1 = some .local)
    (hcell : ∀ x ∈ scope.names, x.2 ≠ .cell) (hco : scope.isCoroutine = false) (hgen : scope.isGenerator = false) (hk : scope.kind = .function)
    (h : ∀ (prog : Program) (mean : ExcName → Option Value) (mg mb : Str → Option Value) (dp un : Nat) (gd : Option (List Code)) (outer : List Env) (A₀ : Around) (base g : Heap) (L : Addr) (s : Shared) (Q : Value → Shared → Prop),
      Below A₀ base outer g → Fr g L s.heap (fun y => lb.lookup y) → (hd.heap_1 w.params).In g → News g L s.heap news → TopH mean mg mb g → ROn ro g → (∀ p ∈ news, p.1 < L) → dp + D < recursionLimit → un + U < cLine →
      (∀ r news' h' tk' m', R r news' → Fr g L h' m' → News g L h' news' → Q r { s with heap := h', toks := tk' }) →
      wpAny (model prog w) (ktrTop dp un gd qual scope L f cdv [] outer) (execs body (envX qual scope L f cdv [])) (fun fl s' => Q (match fl with | .ret v => v | _ => .none) s') (fun _ _ => False) s) :
    ConF w f vs ro news (D + 1) (U + 3) R := by
  intro prog mean mg mb dp un gd cn cs a ccd cl outer A₀ base h₀ L m s RR B F X N T hke hro hd hu hret
  have X' := X.keeps F.keep
  obtain ⟨FG, BG, st, lv⟩ := groundX (R := RR) (A := ktrTop dp un gd cn cs L a ccd cl outer) (env := envX cn cs L a ccd cl) B F N rfl rfl hke
  refine codeAny_call_def (fd := fnX name qual params body scope [] dV kV doc pm an cdv ct) (body := body) (binds := binds) (by show dp < _; omega) (X' _ _ ho) rfl (T.nolimit.keeps F.keep) (codeRec_of X' hcd) rfl (BindsTo.of_eq hbind) hcell hloc (fun h₁ hns hk₁ => ?_) hco hgen hk
  have rog : ROn ro (hideAll s.heap (news.map (·.1))) := fun p hp => hideAll_get _ (hro p hp).1 fun hm => by
    obtain ⟨q, hq, e⟩ := List.mem_map.mp hm
    exact (hro p hp).2 q hq e
  subst hlb
  refine wpAny_mono (h prog mean mg mb (dp + 1) (un + 3) gd (envX cn cs L a ccd cl :: outer) _ base (hideAll s.heap (news.map (·.1))) s.heap.objs.size { s with heap := h₁, toks := s.toks + binds.length } (fun r s' => RR (.ok (.ret r)) s')
    BG ⟨hns, fun b o e => hk₁ b o (of_hideAll _ e), Nat.le_of_eq (hideAll_size _ _)⟩ (X.keeps fun b o e => st b o e)
    (fun p hp => ⟨hk₁ _ _ (N p hp).1, Nat.ne_of_lt (Heap.lt_size (N p hp).1), hideAll_none _ (List.mem_map_of_mem hp)⟩) (T.keeps fun b o e => st b o e) rog (fun p hp => Heap.lt_size (N p hp).1) (by omega) (by omega) ?_) (fun _ _ z => z) (fun _ _ z => z.elim)
  intro r news' h' tk' m' hR F' N'
  refine lv r _ ⟨_, m', news', F', N', fun F2 N2 => hret r news' h' tk' hR F2 N2 (fun b o e hb => F'.keep _ _ (hideAll_get _ e fun hm => by
    obtain ⟨q, hq, eq⟩ := List.mem_map.mp hm
    exact hb q hq eq)) fun p hp => ?_⟩
  by_cases hm : p.1 ∈ news.map (·.1)
  · obtain ⟨q, hq, e⟩ := List.mem_map.mp hm
    exact .inr ⟨q, hq, e⟩
  · refine .inl ?_
    cases e : s.heap.get? p.1 with
    | none => rfl
    | some o =>
      have h1 := hideAll_get _ e hm
      rw [(N' p hp).2.2] at h1; cases h1
theorem con_frameF {w : World} {f : Addr} {vs : List Value} {ro led sub : Led} {D U : Nat} {R : Value → Led → Prop} (hsub : ∀ p ∈ sub, p ∈ led) (c : ConF w f vs (restL led sub) sub D U R) :
    Con w f vs ro led D U (fun r n' => ∃ n1, R r n1 ∧ n' = n1 ++ restL led sub ∧ (∀ p ∈ led, p ∈ n' ∨ p ∈ sub) ∧ ∀ p ∈ n1, (∀ q ∈ led, @Ne Nat q.1 p.1) ∨ ∃ q ∈ sub, q.1 = p.1) := by
  intro prog mean mg mb dp un gd cn cs a ccd cl outer A₀ base h₀ L m s RR B F X N T hke hro hd hu hret
  refine c prog mean mg mb dp un gd cn cs a ccd cl outer A₀ base h₀ L m s RR B F X (cb_drop N hsub) T hke (fun p hp => ⟨(N p (restL_sub hp)).1, fun q hq => restL_off hp hq⟩) hd hu ?_
  intro r n1 h' tk' hR F' N' KB hf
  refine hret r (n1 ++ restL led sub) h' tk' ⟨n1, hR, rfl, fun p hp => ?_, fun p hp => ?_⟩ F' ?_ ?_
  · by_cases h : ∃ q ∈ sub, q.1 = p.1
    · obtain ⟨q, hq, e⟩ := h
      have h1 := (N p hp).1
      have h2 := (N q (hsub q hq)).1
      rw [e, h1] at h2
      have : p = q := Prod.ext e.symm (Option.some.inj h2)
      exact .inr (this ▸ hq)
    · exact .inl (List.mem_append_right _ (restL_mem hp fun q hq e => h ⟨q, hq, e⟩))
  · rcases hf p hp with h | h
    · exact .inl fun q hq e => by have h1 := (N q hq).1; rw [show q.1 = p.1 from e, h] at h1; cases h1
    · exact .inr h
  · intro p hp
    rcases List.mem_append.mp hp with hp | hp
    · exact N' p hp
    · have z := N p (restL_sub hp)
      exact ⟨KB _ _ z.1 fun q hq => restL_off hp hq, z.2⟩
  · exact fun b o e hb => KB b o e fun p hp => hb p (hsub p hp)

section
variable {prog : Program} {w : World} {A : Around} {E : Value → Shared → Prop} {s : Shared} {K : Frag} {led : Led} {g : Heap} {L x C : Addr} {m : Str → Option Value} {fs : List (Str × Value)} {name : Str}
theorem meth_led {pl : Sem Bool} {Q : Value × List Value → Shared → Prop} {f : Addr} (F : Fr g L s.heap m) (X : K.In g) (N : News g L s.heap led) (I : Inst led x C fs) (hg : plainGet K C name = true)
    (hf : findIn K (.ref C) name = some (some (.ref f))) (ht : isFn K (.ref f) = true) (hl : fs.lookup name = none) (h : Q (.ref f, [.ref x]) s) : wpAny (model prog w) A (getMethod (.ref x) name pl) Q E s := by
  obtain ⟨dx, es, n, h1, h2, h3⟩ := I
  exact method_inst F X ⟨(N _ h1).1, rfl, rfl, (N _ h2).1⟩ hg hf ht (by rw [h3, hl]) h
end
local macro_rules | `(tactic| walk_at "getMethod ref") => `(tactic| (k_here; (with_reducible show wpAny _ _ (getMethod (Value.ref _) (Str.ofString "add_text") _) _ _ _); refine Stop.mk ?_))
local macro_rules | `(tactic| walk_at "getMethod ref") => `(tactic| (k_here; k_dflt (refine' meth_led ?k1 ?k2 ?k3 ?k4 ?k5 ?k6 ?k7 ?k8 ?_; (case k1 => k_asm); (case k2 => k_asm); (case k3 => k_asm); (case k4 => assumption); (case k5 => k_is); (case k6 => k_is); (case k7 => k_is); (case k8 => rfl); k_whole)))
def RowT (led : Led) (tu : Addr) (i : Int) (k : Str × Str × Str) : Prop := ∃ t0 t1 t2 t3 : Tok, IsTp led tu [.int i t0, .str k.1 t1, .str k.2.1 t2, .str k.2.2 t3]
def RowsL (led : Led) (rl : Addr) (ks : List (Str × Str × Str)) (vs : List Value) (n : Nat) : Prop := (rl, listOf vs.toArray n) ∈ led ∧ vs.length = ks.length ∧ ∀ (i : Nat) (k : Str × Str × Str), ks[i]? = some k → ∃ tu : Addr, vs[i]? = some (.ref tu) ∧ RowT led tu (i : Int) k
theorem rowT_keep {led led' : Led} {tu : Addr} {i : Int} {k : Str × Str × Str} (h : RowT led tu i k) (hk : ∀ p ∈ led, p.2.cls = .type "tuple" → p ∈ led') : RowT led' tu i k :=
  let ⟨t0, t1, t2, t3, n, hm⟩ := h; ⟨t0, t1, t2, t3, n, hk _ hm rfl⟩
theorem rowsL_keep {led led' : Led} {rl : Addr} {ks : List (Str × Str × Str)} {vs : List Value} {n : Nat} (h : RowsL led rl ks vs n) (hk : Keeps rl led led') : RowsL led' rl ks vs n :=
  ⟨hk _ h.1 (.inl rfl), h.2.1, fun i k e => let ⟨tu, a, b⟩ := h.2.2 i k e; ⟨tu, a, rowT_keep b fun p hp e => hk p hp (.inr e)⟩⟩
theorem rowsL_push {led led' : Led} {rl tu : Addr} {ks : List (Str × Str × Str)} {k : Str × Str × Str} {vs : List Value} {n : Nat} (h : RowsL led rl ks vs n) (ht : RowT led tu (ks.length : Int) k) (hm : (rl, listOf (vs ++ [Value.ref tu]).toArray (n + 1)) ∈ led') (hk : ∀ p ∈ led, p.1 ≠ rl ∨ p.2 ≠ listOf vs.toArray n → p ∈ led') :
    RowsL led' rl (ks ++ [k]) (vs ++ [Value.ref tu]) (n + 1) := by
  have hk' : ∀ p ∈ led, p.2.cls = .type "tuple" → p ∈ led' := fun p hp e => hk p hp (.inr fun e' => by rw [e'] at e; exact absurd (Value.type.inj e) (by decide))
  refine ⟨hm, by simp [h.2.1], fun i q hq => ?_⟩
  by_cases hi : i < ks.length
  · rw [List.getElem?_append_left hi] at hq
    obtain ⟨tv, a, b⟩ := h.2.2 i q hq
    exact ⟨tv, app_get a, rowT_keep b hk'⟩
  · have hlt := (List.getElem?_eq_some_iff.mp hq).1
    simp at hlt
    have hie : i = ks.length := by omega
    subst hie
    simp at hq
    subst hq
    refine ⟨tu, ?_, rowT_keep ht hk'⟩
    rw [← h.2.1]; simp
theorem keeps_cons {ρ : Addr} {led : Led} {p : Addr × Obj} : Keeps ρ led (p :: led) := fun _ hq _ => .tail _ hq
def addC (dl : List NodeD) (k : Nat) (n : NodeD) : List NodeD := match dl[k]? with
  | some d => dl.set k { d with children := d.children ++ [(dl.length : Int)] } ++ [n]
  | none => dl
def addA (dl : List NodeD) (k : Nat) (n : NodeD) : List NodeD := match dl[k]? with
  | some d => dl.set k { d with attrs := d.attrs ++ [(dl.length : Int)] } ++ [n]
  | none => dl
local macro_rules | `(tactic| walk_at "call builtin:list.append") => `(tactic| walk_at "own stop")
def doc1 : List NodeD := [⟨Str.ofString "root", Str.ofString "", Str.ofString "", Str.ofString "", Str.ofString "", none, [], []⟩]
def doc2 : List NodeD := addC doc1 0 ⟨(Str.ofString "element"), (Str.ofString "a"), (Str.ofString ""), (Str.ofString "a"), (Str.ofString ""), some 0, [], []⟩
def doc3 : List NodeD := addC doc2 1 ⟨(Str.ofString "element"), (Str.ofString "p:b"), (Str.ofString "u"), (Str.ofString "b"), (Str.ofString ""), some 1, [], []⟩
def doc4 : List NodeD := addC doc3 1 ⟨(Str.ofString "text"), (Str.ofString ""), (Str.ofString ""), (Str.ofString ""), (Str.ofString "t"), some 1, [], []⟩
def doc5 : List NodeD := addC doc4 2 ⟨(Str.ofString "comment"), (Str.ofString ""), (Str.ofString ""), (Str.ofString ""), (Str.ofString "c"), some 2, [], []⟩
def doc6 : List NodeD := addC doc5 1 ⟨(Str.ofString "instruction"), (Str.ofString "i"), (Str.ofString ""), (Str.ofString "i"), (Str.ofString "d"), some 1, [], []⟩
def doc7 : List NodeD := addC doc6 1 ⟨(Str.ofString "element"), (Str.ofString "a"), (Str.ofString ""), (Str.ofString "a"), (Str.ofString ""), some 1, [], []⟩
def doc8 : List NodeD := addC doc7 1 ⟨(Str.ofString "element"), (Str.ofString "a"), (Str.ofString ""), (Str.ofString "a"), (Str.ofString ""), some 1, [], []⟩
def doc9 : List NodeD := addA doc8 2 ⟨(Str.ofString "attribute"), (Str.ofString "b"), (Str.ofString ""), (Str.ofString "b"), (Str.ofString "w"), some 2, [], []⟩
def doc10 : List NodeD := addA doc9 2 ⟨(Str.ofString "attribute"), (Str.ofString "a"), (Str.ofString ""), (Str.ofString "a"), (Str.ofString "v"), some 2, [], []⟩
def doc11 : List NodeD := addA doc10 2 ⟨(Str.ofString "attribute"), (Str.ofString "p:b"), (Str.ofString "u"), (Str.ofString "b"), (Str.ofString "w"), some 2, [], []⟩
def doc12 : List NodeD := addC doc11 1 ⟨(Str.ofString "text"), (Str.ofString ""), (Str.ofString ""), (Str.ofString ""), (Str.ofString "t"), some 1, [], []⟩
def keys3 : List (Str × Str × Str) := [((Str.ofString "root"), (Str.ofString ""), (Str.ofString "")), ((Str.ofString "element"), (Str.ofString ""), (Str.ofString "a")), ((Str.ofString "element"), (Str.ofString "u"), (Str.ofString "b"))]
def keys4 : List (Str × Str × Str) := keys3 ++ [((Str.ofString "text"), (Str.ofString ""), (Str.ofString ""))]
def keys5 : List (Str × Str × Str) := keys4 ++ [((Str.ofString "comment"), (Str.ofString ""), (Str.ofString ""))]
def keys6 : List (Str × Str × Str) := keys5 ++ [((Str.ofString "instruction"), (Str.ofString ""), (Str.ofString "i"))]
def keys7 : List (Str × Str × Str) := keys6 ++ [((Str.ofString "element"), (Str.ofString ""), (Str.ofString "a"))]
def keys8 : List (Str × Str × Str) := keys7 ++ [((Str.ofString "element"), (Str.ofString ""), (Str.ofString "a"))]
def keys9 : List (Str × Str × Str) := keys8 ++ [((Str.ofString "attribute"), (Str.ofString ""), (Str.ofString "b"))]
def keys10 : List (Str × Str × Str) := keys9 ++ [((Str.ofString "attribute"), (Str.ofString ""), (Str.ofString "a"))]
def keys11 : List (Str × Str × Str) := keys10 ++ [((Str.ofString "attribute"), (Str.ofString "u"), (Str.ofString "b"))]
def keys12 : List (Str × Str × Str) := keys11 ++ [((Str.ofString "text"), (Str.ofString ""), (Str.ofString ""))]
theorem rows_start {g h : Heap} {L T ρ D1 D2 D3 rl : Addr} {dl : List NodeD} {led : Led} {n0 m1 m2 m3 : Nat} {i1 i2 i3 : Int} {k1 k2 k3 u1 u2 u3 c1 c2 c3 : Str} {a1 a2 a3 a4 b1 b2 b3 b4 d1 d2 d3 d4 : Tok}
    (N : News g L h ((rl, listOf #[.ref D1, .ref D2, .ref D3] n0) :: (D3, ({ cls := .type "tuple", data := .seq #[.int i3 d1, .str k3 d2, .str u3 d3, .str c3 d4] m3 } : Obj)) :: (D2, ({ cls := .type "tuple", data := .seq #[.int i2 b1, .str k2 b2, .str u2 b3, .str c2 b4] m2 } : Obj)) :: (D1, ({ cls := .type "tuple", data := .seq #[.int i1 a1, .str k1 a2, .str u1 a3, .str c1 a4] m1 } : Obj)) :: led))
    (hD : DocL ρ led T dl) (l : D3 < rl ∧ D2 < rl ∧ D1 < rl ∧ AllLt rl led) (e1 : i1 = 0) (e2 : i2 = 1) (e3 : i3 = 2) : ∃ led', News g L h led' ∧ DocL rl led' T dl ∧ RowsL led' rl [(k1, u1, c1), (k2, u2, c2), (k3, u3, c3)] [.ref D1, .ref D2, .ref D3] n0 := by
  refine ⟨_, N, docl_rho (docl_mono hD fun p hp => .tail _ (.tail _ (.tail _ hp))) (List.forall_mem_cons.mpr ⟨l.1, List.forall_mem_cons.mpr ⟨l.2.1, List.forall_mem_cons.mpr ⟨l.2.2.1, allLt_to l.2.2.2⟩⟩⟩), .head _, rfl, ?_⟩
  subst e1 e2 e3
  intro i k hk
  match i, hk with
  | 0, hk => cases hk; exact ⟨D1, rfl, a1, a2, a3, a4, m1, by k_mem⟩
  | 1, hk => cases hk; exact ⟨D2, rfl, b1, b2, b3, b4, m2, by k_mem⟩
  | 2, hk => cases hk; exact ⟨D3, rfl, d1, d2, d3, d4, m3, by k_mem⟩
  | i + 3, hk => simp at hk
theorem law_document_con (w : World) (ro : Led) : ConF w 638 [] ro [] 20 400 (fun r n' => ∃ (tp T rl : Addr) (vs : List Value) (n k : Nat), r = .ref tp ∧ (tp, ({ cls := .type "tuple", data := .seq #[.ref T, .ref rl] k } : Obj)) ∈ n' ∧ DocL rl n' T doc12 ∧ RowsL n' rl keys12 vs n) := by
  refine con_ofF [] [] (by k_is) (by k_is) rfl rfl (locs rfl) (by decide) rfl rfl rfl ?_
  intro prog mean mg mb dp un gd outer A₀ base g L s Q B F X N TT hro hlt hd hu hret
  k_steps
  refine Stop.out ?_
  (try k_fold); refine con_callZ (mk_tree_con w ro _) (by k_asm) (by k_asm) (by k_asm) (by k_asm) (by assumption) (by assumption) rfl (by walk_at "own r") (by walk_at "own r") ?_
  intro h0 tk0
  refine kx5_rqpppp ?_
  intro led0 R T dT es z hl0 l1 l2 l3 de F0 N0
  have hD0 : DocL T led0 T [] := docl_nil (z := z) (n := 0) (by rw [hl0]; k_mem) (by rw [hl0]; k_mem) (by rw [hl0]; k_mem) l2 l3 de
  obtain ⟨R0, I0⟩ := docl_inst hD0
  clear hl0 l1 l2 l3 de
  k_steps
  refine Stop.out ?_
  (try k_fold); refine con_callZ (doc_root hD0) (by k_asm) (by k_asm) (by k_asm) (by k_asm) (by assumption) (by assumption) rfl (by walk_at "own r") (by walk_at "own r") ?_
  intro h1 tk1
  refine kx1_rqq ?_
  intro led1 t1 hD1' hK1 F1 N1
  have hD1 : DocL T led1 T doc1 := hD1'
  clear hD1' hD0 I0 hK1
  obtain ⟨R1, I1⟩ := docl_inst hD1
  k_steps
  refine Stop.out ?_
  (try k_fold); refine con_callZ (doc_child (k := 0) (small_element w _ _ _ _ _ _ _ _ _) hD1 rfl (.inl rfl) (by decide) (by decide)) (by k_asm) (by k_asm) (by k_asm) (by k_asm) (by assumption) (by assumption) rfl (by walk_at "own r") (by walk_at "own r") ?_
  intro h2 tk2
  refine kx1_rqq ?_
  intro led2 t2 hD2' hK2 F2 N2
  have hD2 : DocL T led2 T doc2 := hD2'
  clear hD2' hD1 I1 hK2
  obtain ⟨R2, I2⟩ := docl_inst hD2
  k_steps
  refine Stop.out ?_
  (try k_fold); refine con_callZ (doc_child (k := 1) (small_element w _ _ _ _ _ _ _ _ _) hD2 rfl (.inr rfl) (by decide) (by decide)) (by k_asm) (by k_asm) (by k_asm) (by k_asm) (by assumption) (by assumption) rfl (by walk_at "own r") (by walk_at "own r") ?_
  intro h3 tk3
  refine kx1_rqq ?_
  intro led3 t3 hD3' hK3 F3 N3
  have hD3 : DocL T led3 T doc3 := hD3'
  clear hD3' hD2 I2 hK3
  obtain ⟨R3, I3⟩ := docl_inst hD3
  k_steps
  rename_i D1 _ lD1 D2 _ lD2 D3 _ lD3 rl _ lrl h3b F3b N3b
  obtain ⟨led3b, N3c, hD3c, hR3b⟩ := rows_start N3b hD3 lrl rfl rfl rfl
  clear N3b hD3 I3 lD1 lD2 lD3 lrl
  have hD3 := hD3c
  clear hD3c
  have hm3b := hR3b.1
  obtain ⟨vs3b, hvs3⟩ : ∃ vs : List Value, vs = [.ref D1, .ref D2, .ref D3] := ⟨_, rfl⟩
  rw [← hvs3] at hR3b
  have hm3b := hR3b.1
  obtain ⟨nn3b, hnn⟩ : ∃ q : Nat, q = 0 := ⟨_, rfl⟩
  rw [← hnn] at hR3b hm3b
  obtain ⟨R3, I3⟩ := docl_inst hD3
  refine Stop.out ?_
  k_steps
  refine Stop.out ?_
  (try k_fold); refine con_callZ (doc_child (k := 1) (small_text w _ _ _ _ _) hD3 rfl (.inr rfl) (by decide) (by decide)) (by k_asm) (by k_asm) (by k_asm) (by k_asm) (by assumption) (by assumption) rfl (by walk_at "own r") (by walk_at "own r") ?_
  intro h4 tk4
  refine kx1_rqq ?_
  intro led4 t4 hD4' hK4 F4 N4
  have hD4 : DocL rl led4 T doc4 := hD4'
  have hR4 := rowsL_keep hR3b hK4
  have hm4 := hR4.1
  clear hR3b hm3b
  clear hD4' hD3 I3 hK4
  obtain ⟨R4, I4⟩ := docl_inst hD4
  k_steps
  rename News _ _ _ _ => Nq
  refine Stop.out ?_
  refine append_M (its := vs3b) (n := nn3b) (by k_asm) Nq (.tail _ hm4) (by rw [hR4.2.1]; decide) ?_
  intro hx4 led4b Fx4 Nx4 hmx4 hkx4
  have hD4b : DocL rl led4b T doc4 := docl_set (docl_mono hD4 fun p hp => .tail _ hp) hmx4 hkx4
  obtain ⟨vs4b, nn4b, hR4b⟩ : ∃ vs nn, RowsL led4b rl keys4 vs nn := ⟨_, _, rowsL_push (rowsL_keep hR4 keeps_cons) ⟨_, _, _, _, _, .head _⟩ hmx4 hkx4⟩
  have hm4b := hR4b.1
  clear hD4 I4 hR4 hm4 hmx4 hkx4
  have hD4 := hD4b
  clear hD4b
  obtain ⟨R4, I4⟩ := docl_inst hD4
  k_steps
  refine Stop.out ?_
  (try k_fold); refine con_callZ (doc_child (k := 2) (small_comment w _ _ _ _ _) hD4 rfl (.inr rfl) (by decide) (by decide)) (by k_asm) (by k_asm) (by k_asm) (by k_asm) (by assumption) (by assumption) rfl (by walk_at "own r") (by walk_at "own r") ?_
  intro h5 tk5
  refine kx1_rqq ?_
  intro led5 t5 hD5' hK5 F5 N5
  have hD5 : DocL rl led5 T doc5 := hD5'
  have hR5 := rowsL_keep hR4b hK5
  have hm5 := hR5.1
  clear hR4b hm4b
  clear hD5' hD4 I4 hK5
  obtain ⟨R5, I5⟩ := docl_inst hD5
  k_steps
  rename News _ _ _ _ => Nq
  refine Stop.out ?_
  refine append_M (its := vs4b) (n := nn4b) (by k_asm) Nq (.tail _ hm5) (by rw [hR5.2.1]; decide) ?_
  intro hx5 led5b Fx5 Nx5 hmx5 hkx5
  have hD5b : DocL rl led5b T doc5 := docl_set (docl_mono hD5 fun p hp => .tail _ hp) hmx5 hkx5
  obtain ⟨vs5b, nn5b, hR5b⟩ : ∃ vs nn, RowsL led5b rl keys5 vs nn := ⟨_, _, rowsL_push (rowsL_keep hR5 keeps_cons) ⟨_, _, _, _, _, .head _⟩ hmx5 hkx5⟩
  have hm5b := hR5b.1
  clear hD5 I5 hR5 hm5 hmx5 hkx5
  have hD5 := hD5b
  clear hD5b
  obtain ⟨R5, I5⟩ := docl_inst hD5
  k_steps
  refine Stop.out ?_
  (try k_fold); refine con_callZ (doc_child (k := 1) (small_instruction w _ _ _ _ _ _ _) hD5 rfl (.inr rfl) (by decide) (by decide)) (by k_asm) (by k_asm) (by k_asm) (by k_asm) (by assumption) (by assumption) rfl (by walk_at "own r") (by walk_at "own r") ?_
  intro h6 tk6
  refine kx1_rqq ?_
  intro led6 t6 hD6' hK6 F6 N6
  have hD6 : DocL rl led6 T doc6 := hD6'
  have hR6 := rowsL_keep hR5b hK6
  have hm6 := hR6.1
  clear hR5b hm5b
  clear hD6' hD5 I5 hK6
  obtain ⟨R6, I6⟩ := docl_inst hD6
  k_steps
  rename News _ _ _ _ => Nq
  refine Stop.out ?_
  refine append_M (its := vs5b) (n := nn5b) (by k_asm) Nq (.tail _ hm6) (by rw [hR6.2.1]; decide) ?_
  intro hx6 led6b Fx6 Nx6 hmx6 hkx6
  have hD6b : DocL rl led6b T doc6 := docl_set (docl_mono hD6 fun p hp => .tail _ hp) hmx6 hkx6
  obtain ⟨vs6b, nn6b, hR6b⟩ : ∃ vs nn, RowsL led6b rl keys6 vs nn := ⟨_, _, rowsL_push (rowsL_keep hR6 keeps_cons) ⟨_, _, _, _, _, .head _⟩ hmx6 hkx6⟩
  have hm6b := hR6b.1
  clear hD6 I6 hR6 hm6 hmx6 hkx6
  have hD6 := hD6b
  clear hD6b
  obtain ⟨R6, I6⟩ := docl_inst hD6
  k_steps
  refine Stop.out ?_
  (try k_fold); refine con_callZ (doc_child (k := 1) (small_element w _ _ _ _ _ _ _ _ _) hD6 rfl (.inr rfl) (by decide) (by decide)) (by k_asm) (by k_asm) (by k_asm) (by k_asm) (by assumption) (by assumption) rfl (by walk_at "own r") (by walk_at "own r") ?_
  intro h7 tk7
  refine kx1_rqq ?_
  intro led7 t7 hD7' hK7 F7 N7
  have hD7 : DocL rl led7 T doc7 := hD7'
  have hR7 := rowsL_keep hR6b hK7
  have hm7 := hR7.1
  clear hR6b hm6b
  clear hD7' hD6 I6 hK7
  obtain ⟨R7, I7⟩ := docl_inst hD7
  k_steps
  rename News _ _ _ _ => Nq
  refine Stop.out ?_
  refine append_M (its := vs6b) (n := nn6b) (by k_asm) Nq (.tail _ hm7) (by rw [hR7.2.1]; decide) ?_
  intro hx7 led7b Fx7 Nx7 hmx7 hkx7
  have hD7b : DocL rl led7b T doc7 := docl_set (docl_mono hD7 fun p hp => .tail _ hp) hmx7 hkx7
  obtain ⟨vs7b, nn7b, hR7b⟩ : ∃ vs nn, RowsL led7b rl keys7 vs nn := ⟨_, _, rowsL_push (rowsL_keep hR7 keeps_cons) ⟨_, _, _, _, _, .head _⟩ hmx7 hkx7⟩
  have hm7b := hR7b.1
  clear hD7 I7 hR7 hm7 hmx7 hkx7
  have hD7 := hD7b
  clear hD7b
  obtain ⟨R7, I7⟩ := docl_inst hD7
  k_steps
  refine Stop.out ?_
  (try k_fold); refine con_callZ (doc_child (k := 1) (small_element w _ _ _ _ _ _ _ _ _) hD7 rfl (.inr rfl) (by decide) (by decide)) (by k_asm) (by k_asm) (by k_asm) (by k_asm) (by assumption) (by assumption) rfl (by walk_at "own r") (by walk_at "own r") ?_
  intro h8 tk8
  refine kx1_rqq ?_
  intro led8 t8 hD8' hK8 F8 N8
  have hD8 : DocL rl led8 T doc8 := hD8'
  have hR8 := rowsL_keep hR7b hK8
  have hm8 := hR8.1
  clear hR7b hm7b
  clear hD8' hD7 I7 hK8
  obtain ⟨R8, I8⟩ := docl_inst hD8
  k_steps
  rename News _ _ _ _ => Nq
  refine Stop.out ?_
  refine append_M (its := vs7b) (n := nn7b) (by k_asm) Nq (.tail _ hm8) (by rw [hR8.2.1]; decide) ?_
  intro hx8 led8b Fx8 Nx8 hmx8 hkx8
  have hD8b : DocL rl led8b T doc8 := docl_set (docl_mono hD8 fun p hp => .tail _ hp) hmx8 hkx8
  obtain ⟨vs8b, nn8b, hR8b⟩ : ∃ vs nn, RowsL led8b rl keys8 vs nn := ⟨_, _, rowsL_push (rowsL_keep hR8 keeps_cons) ⟨_, _, _, _, _, .head _⟩ hmx8 hkx8⟩
  have hm8b := hR8b.1
  clear hD8 I8 hR8 hm8 hmx8 hkx8
  have hD8 := hD8b
  clear hD8b
  obtain ⟨R8, I8⟩ := docl_inst hD8
  k_steps
  have hat9 : ∀ j ∈ ([] : List Int), ∃ (jn : Nat) (dj : NodeD), j = (jn : Int) ∧ doc8[jn]? = some dj ∧ jn ≠ 2 ∧ ¬ (dj.uri = (Str.ofString "") ∧ dj.loc = (Str.ofString "b")) := List.forall_mem_nil _
  refine Stop.out ?_
  (try k_fold); refine con_callZ (doc_attr (k := 2) hD8 rfl rfl (by decide) (by decide) hat9) (by k_asm) (by k_asm) (by k_asm) (by k_asm) (by assumption) (by assumption) rfl (by walk_at "own r") (by walk_at "own r") ?_
  intro h9 tk9
  refine kx1_rqq ?_
  intro led9 t9 hD9' hK9 F9 N9
  have hD9 : DocL rl led9 T doc9 := hD9'
  have hR9 := rowsL_keep hR8b hK9
  have hm9 := hR9.1
  clear hR8b hm8b
  clear hD9' hD8 I8 hK9
  obtain ⟨R9, I9⟩ := docl_inst hD9
  k_steps
  rename News _ _ _ _ => Nq
  refine Stop.out ?_
  refine append_M (its := vs8b) (n := nn8b) (by k_asm) Nq (.tail _ hm9) (by rw [hR9.2.1]; decide) ?_
  intro hx9 led9b Fx9 Nx9 hmx9 hkx9
  have hD9b : DocL rl led9b T doc9 := docl_set (docl_mono hD9 fun p hp => .tail _ hp) hmx9 hkx9
  obtain ⟨vs9b, nn9b, hR9b⟩ : ∃ vs nn, RowsL led9b rl keys9 vs nn := ⟨_, _, rowsL_push (rowsL_keep hR9 keeps_cons) ⟨_, _, _, _, _, .head _⟩ hmx9 hkx9⟩
  have hm9b := hR9b.1
  clear hD9 I9 hR9 hm9 hmx9 hkx9
  have hD9 := hD9b
  clear hD9b
  obtain ⟨R9, I9⟩ := docl_inst hD9
  k_steps
  have hat10 : ∀ j ∈ ([8] : List Int), ∃ (jn : Nat) (dj : NodeD), j = (jn : Int) ∧ doc9[jn]? = some dj ∧ jn ≠ 2 ∧ ¬ (dj.uri = (Str.ofString "") ∧ dj.loc = (Str.ofString "a")) := List.forall_mem_cons.mpr ⟨⟨8, _, rfl, rfl, by decide, by decide⟩, List.forall_mem_nil _⟩
  refine Stop.out ?_
  (try k_fold); refine con_callZ (doc_attr (k := 2) hD9 rfl rfl (by decide) (by decide) hat10) (by k_asm) (by k_asm) (by k_asm) (by k_asm) (by assumption) (by assumption) rfl (by walk_at "own r") (by walk_at "own r") ?_
  intro h10 tk10
  refine kx1_rqq ?_
  intro led10 t10 hD10' hK10 F10 N10
  have hD10 : DocL rl led10 T doc10 := hD10'
  have hR10 := rowsL_keep hR9b hK10
  have hm10 := hR10.1
  clear hR9b hm9b
  clear hD10' hD9 I9 hK10
  obtain ⟨R10, I10⟩ := docl_inst hD10
  k_steps
  rename News _ _ _ _ => Nq
  refine Stop.out ?_
  refine append_M (its := vs9b) (n := nn9b) (by k_asm) Nq (.tail _ hm10) (by rw [hR10.2.1]; decide) ?_
  intro hx10 led10b Fx10 Nx10 hmx10 hkx10
  have hD10b : DocL rl led10b T doc10 := docl_set (docl_mono hD10 fun p hp => .tail _ hp) hmx10 hkx10
  obtain ⟨vs10b, nn10b, hR10b⟩ : ∃ vs nn, RowsL led10b rl keys10 vs nn := ⟨_, _, rowsL_push (rowsL_keep hR10 keeps_cons) ⟨_, _, _, _, _, .head _⟩ hmx10 hkx10⟩
  have hm10b := hR10b.1
  clear hD10 I10 hR10 hm10 hmx10 hkx10
  have hD10 := hD10b
  clear hD10b
  obtain ⟨R10, I10⟩ := docl_inst hD10
  k_steps
  have hat11 : ∀ j ∈ ([8, 9] : List Int), ∃ (jn : Nat) (dj : NodeD), j = (jn : Int) ∧ doc10[jn]? = some dj ∧ jn ≠ 2 ∧ ¬ (dj.uri = (Str.ofString "u") ∧ dj.loc = (Str.ofString "b")) := List.forall_mem_cons.mpr ⟨⟨8, _, rfl, rfl, by decide, by decide⟩, List.forall_mem_cons.mpr ⟨⟨9, _, rfl, rfl, by decide, by decide⟩, List.forall_mem_nil _⟩⟩
  refine Stop.out ?_
  (try k_fold); refine con_callZ (doc_attr (k := 2) hD10 rfl rfl (by decide) (by decide) hat11) (by k_asm) (by k_asm) (by k_asm) (by k_asm) (by assumption) (by assumption) rfl (by walk_at "own r") (by walk_at "own r") ?_
  intro h11 tk11
  refine kx1_rqq ?_
  intro led11 t11 hD11' hK11 F11 N11
  have hD11 : DocL rl led11 T doc11 := hD11'
  have hR11 := rowsL_keep hR10b hK11
  have hm11 := hR11.1
  clear hR10b hm10b
  clear hD11' hD10 I10 hK11
  obtain ⟨R11, I11⟩ := docl_inst hD11
  k_steps
  rename News _ _ _ _ => Nq
  refine Stop.out ?_
  refine append_M (its := vs10b) (n := nn10b) (by k_asm) Nq (.tail _ hm11) (by rw [hR11.2.1]; decide) ?_
  intro hx11 led11b Fx11 Nx11 hmx11 hkx11
  have hD11b : DocL rl led11b T doc11 := docl_set (docl_mono hD11 fun p hp => .tail _ hp) hmx11 hkx11
  obtain ⟨vs11b, nn11b, hR11b⟩ : ∃ vs nn, RowsL led11b rl keys11 vs nn := ⟨_, _, rowsL_push (rowsL_keep hR11 keeps_cons) ⟨_, _, _, _, _, .head _⟩ hmx11 hkx11⟩
  have hm11b := hR11b.1
  clear hD11 I11 hR11 hm11 hmx11 hkx11
  have hD11 := hD11b
  clear hD11b
  obtain ⟨R11, I11⟩ := docl_inst hD11
  k_steps
  refine Stop.out ?_
  (try k_fold); refine con_callZ (doc_child (k := 1) (small_text w _ _ _ _ _) hD11 rfl (.inr rfl) (by decide) (by decide)) (by k_asm) (by k_asm) (by k_asm) (by k_asm) (by assumption) (by assumption) rfl (by walk_at "own r") (by walk_at "own r") ?_
  intro h12 tk12
  refine kx1_rqq ?_
  intro led12 t12 hD12' hK12 F12 N12
  have hD12 : DocL rl led12 T doc12 := hD12'
  have hR12 := rowsL_keep hR11b hK12
  have hm12 := hR12.1
  clear hR11b hm11b
  clear hD12' hD11 I11 hK12
  obtain ⟨R12, I12⟩ := docl_inst hD12
  k_steps
  rename News _ _ _ _ => Nq
  refine Stop.out ?_
  refine append_M (its := vs11b) (n := nn11b) (by k_asm) Nq (.tail _ hm12) (by rw [hR12.2.1]; decide) ?_
  intro hx12 led12b Fx12 Nx12 hmx12 hkx12
  have hD12b : DocL rl led12b T doc12 := docl_set (docl_mono hD12 fun p hp => .tail _ hp) hmx12 hkx12
  obtain ⟨vs12b, nn12b, hR12b⟩ : ∃ vs nn, RowsL led12b rl keys12 vs nn := ⟨_, _, rowsL_push (rowsL_keep hR12 keeps_cons) ⟨_, _, _, _, _, .head _⟩ hmx12 hkx12⟩
  have hm12b := hR12b.1
  clear hD12 I12 hR12 hm12 hmx12 hkx12
  have hD12 := hD12b
  clear hD12b
  obtain ⟨R12, I12⟩ := docl_inst hD12
  k_steps
  rename News _ _ _ _ => Nq
  exact hret _ _ _ _ _ ⟨_, T, rl, vs12b, nn12b, _, rfl, .head _, docl_mono hD12 (fun p hp => .tail _ hp), rowsL_keep hR12b keeps_cons⟩ (by k_asm) Nq

theorem fmod_lo {a b : Int} (h : 0 < b) : 0 ≤ a.fmod b := by rw [Int.fmod_eq_emod_of_nonneg a (Int.le_of_lt h)]; exact Int.emod_nonneg a (by omega)
theorem fmod_hi {a b : Int} (h : 0 < b) : a.fmod b < b := by rw [Int.fmod_eq_emod_of_nonneg a (Int.le_of_lt h)]; exact Int.emod_lt_of_pos a h
theorem fdiv_lo {a b : Int} (ha : 0 ≤ a) (h : 0 < b) : 0 ≤ a.fdiv b := by rw [Int.fdiv_eq_ediv_of_nonneg a (Int.le_of_lt h)]; exact Int.ediv_nonneg ha (Int.le_of_lt h)
theorem law_take_con (w : World) (sl : Addr) (a b : Int) (ta tb tt : Tok) (n top : Nat) (ro news : Led) (h1 : 1 ≤ top) (h2 : top ≤ 9) (ha : 0 ≤ a) (hb : 0 ≤ b) (hb2 : b < 2147483647) (hn : ∀ p ∈ news, p.1 ≠ sl) :
    Con w 624 [.ref sl, .int (top : Int) tt] ro ((sl, listOf #[.int a ta, .int b tb] n) :: news) 3 100 (fun r n' => ∃ (d : Int) (td : Tok) (a' b' : Int) (ta' tb' : Tok) (n2 : Nat), r = .int d td ∧ 0 ≤ d ∧ d < (top : Int) ∧ n' = (sl, listOf #[.int a' ta', .int b' tb'] n2) :: news ∧ 0 ≤ a' ∧ 0 ≤ b' ∧ b' < 2147483647) := by
  refine con_of [(Str.ofString "source", .ref sl), (Str.ofString "top", .int (top : Int) tt)] [(Str.ofString "top", .int (top : Int) tt), (Str.ofString "source", .ref sl)] (by k_is) (by k_is) rfl rfl (locs rfl) (by decide) rfl rfl rfl ?_
  have hb1 : 0 ≤ (b * 39373 + 7).fmod 2147483647 := fmod_lo (by decide)
  have hb2' : (b * 39373 + 7).fmod 2147483647 < 2147483647 := fmod_hi (by decide)
  have hmul : IntMulOk ((b * 39373 + 7).fmod 2147483647) ((b * 39373 + 7).fmod 2147483647) := IntMulOk.of_left (intBits_le_64 (by omega) (by omega))
  have htop : (0 : Int) < (top : Int) := by omega
  intro prog mean mg mb dp un gd outer A₀ base g L s Q B F X N T hro hlt hd hu hret
  k_steps
  · exact hret _ _ _ _ _ ⟨_, _, _, _, _, _, _, rfl, fmod_lo htop, fmod_hi htop, rfl, fdiv_lo ha htop, hb, hb2⟩ (by k_asm) (by k_asm)
  · exact hret _ _ _ _ _ ⟨_, _, _, _, _, _, _, rfl, fmod_lo htop, fmod_hi htop, rfl, ha, hb1, hb2'⟩ (by k_asm) (by k_asm)

theorem big_lo (c : Int) (p : Bool) : 0 ≤ (if -1 - c > c then -1 - c else c) * (if p = true then (1 : Int) else 0) := by
  cases p <;> split <;> simp <;> omega
/-- where it stands among the facts, the walk waits at an if -/
def IfWait : Prop := True
theorem wait_if {P : Prop} (_hm : IfWait) (h : Stop P) : P := h
def IfQ (g : Heap) (L : Addr) (m : Str → Option Value) (news : Led) (x : Str) (P : Value → Prop) (s : Shared) (fl : Flow) (s' : Shared) : Prop := ∃ (v : Value) (h' : Heap) (tk' : Nat), fl = .next ∧ s' = { s with heap := h', toks := tk' } ∧ P v ∧ Fr g L h' (fun y => if y = x then some v else m y) ∧ News g L h' news
section
variable {g : Heap} {L : Addr} {m : Str → Option Value} {news : Led} {x : Str} {P : Value → Prop} {s : Shared} {v : Value} {h' : Heap} {tk' : Nat}
theorem IfQ.intro (F : Fr g L h' (fun y => if y = x then some v else m y)) (N : News g L h' news) (hp : P v) : IfQ g L m news x P s .next { s with heap := h', toks := tk' } := ⟨v, h', tk', rfl, rfl, hp, F, N⟩
theorem upd_same (hm : m x = some v) : (fun y => if y = x then some v else m y) = m := by
  funext y
  by_cases e : y = x
  · rw [if_pos e, e, hm]
  · rw [if_neg e]
theorem IfQ.same (F : Fr g L h' m) (N : News g L h' news) (hm : m x = some v) (hp : P v) : IfQ g L m news x P s .next { s with heap := h', toks := tk' } := ⟨v, h', tk', rfl, rfl, hp, by rw [upd_same hm]; exact F, N⟩
theorem if_join {prog : Program} {w : World} {A : Around} {E : Value → Shared → Prop} {t : Sem Flow} {Q : Flow → Shared → Prop} (_F : Fr g L s.heap m) (_N : News g L s.heap news) (x : Str) (P : Value → Prop) (h1 : wpAny (model prog w) A t (IfQ g L m news x P s) E s)
    (h2 : ∀ v h' tk', P v → Fr g L h' (fun y => if y = x then some v else m y) → News g L h' news → Q .next { s with heap := h', toks := tk' }) : wpAny (model prog w) A t Q E s := by
  refine wpAny_mono h1 (fun fl s' h => ?_) fun _ _ z => z
  obtain ⟨v, h', tk', e1, e2, hp, F, N⟩ := h
  subst e1 e2
  exact h2 v h' tk' hp F N
end
local macro_rules | `(tactic| walk_at "exec If") => `(tactic| (refine' wait_if ?hm ?_; (case hm => assumption)))
theorem law_pool_con (w : World) (sc : Addr) (o : Obj) (vs : List Value) (ns : List Int) (tz : Tok) (q : Nat) (ro news : Led) (hs : (sc, o) ∈ ro) (hc : o.cls = .type "list") (hd' : o.data = .seq vs.toArray q) (hi : IntsAre vs ns) (hz : vs.length ≤ 63) :
    Con w 617 [.ref sc, .int 0 tz] ro news 3 100 (fun r n' => ∃ (sl : Addr) (a b : Int) (ta tb : Tok) (n : Nat), r = .ref sl ∧ n' = (sl, listOf #[.int a ta, .int b tb] n) :: news ∧ (∀ p ∈ news, p.1 < sl) ∧ 0 ≤ a ∧ 0 ≤ b ∧ b < 2147483647) := by
  refine con_of [(Str.ofString "script", .ref sc), (Str.ofString "k", .int 0 tz)] [(Str.ofString "k", .int 0 tz), (Str.ofString "script", .ref sc)] (by k_is) (by k_is) rfl rfl (locs rfl) (by decide) rfl rfl rfl ?_
  intro prog mean mg mb dp un gd outer A₀ base g L s Q B F X N T hro hlt hd hu hret
  have hsl : g.IsList sc vs.toArray := ⟨o, hro _ hs, hc, q, hd'⟩
  have hw : IfWait := trivial
  k_steps
  refine Stop.out ?_
  clear hw
  rename Fr _ _ _ _ => F1
  rename News _ _ _ _ => N1
  try k_fold
  refine if_join F1 N1 (Str.ofString "cell") (fun v => ∃ (c : Int) (t : Tok), v = .int c t) ?_ ?_
  · cases hi with
    | nil =>
      k_steps
      exact IfQ.same (by k_asm) (by k_asm) rfl ⟨_, _, rfl⟩
    | cons c t hi =>
      k_steps
      rename Fr _ _ _ _ => Fq
      refine len_list (hsl.at fun o e => Fq.keep sc o e) (by rw [List.size_toArray]; omega) ?_
      k_steps
      all_goals first
        | exact IfQ.intro (by k_asm) (by k_asm) ⟨_, _, rfl⟩
        | exact IfQ.same (by k_asm) (by k_asm) rfl ⟨_, _, rfl⟩
  intro v h2 tk2 hv F2 N2
  obtain ⟨c, tc, rfl⟩ := hv
  clear F1 N1
  k_steps
  all_goals
    rename News _ _ _ _ => Nq
    exact hret _ _ _ _ _ ⟨_, _, _, _, _, _, rfl, rfl, by assumption, big_lo _ _, fmod_lo (by decide), fmod_hi (by decide)⟩ (by k_asm) Nq

theorem law_one_con (w : World) (sl tl : Addr) (a b : Int) (ta tb : Tok) (n nt : Nat) (vs : List Value) (ro news : Led) (h1 : 1 ≤ vs.length) (h2 : vs.length ≤ 9) (ha : 0 ≤ a) (hb : 0 ≤ b) (hb2 : b < 2147483647) (hn : ∀ p ∈ news, p.1 ≠ sl) (ht : (tl, listOf vs.toArray nt) ∈ news) :
    Con w 631 [.ref sl, .ref tl] ro ((sl, listOf #[.int a ta, .int b tb] n) :: news) 5 130 (fun r n' => ∃ (i : Nat) (a' b' : Int) (ta' tb' : Tok) (n2 : Nat), vs[i]? = some r ∧ n' = (sl, listOf #[.int a' ta', .int b' tb'] n2) :: news ∧ 0 ≤ a' ∧ 0 ≤ b' ∧ b' < 2147483647) := by
  refine con_of [(Str.ofString "source", .ref sl), (Str.ofString "things", .ref tl)] [(Str.ofString "things", .ref tl), (Str.ofString "source", .ref sl)] (by k_is) (by k_is) rfl rfl (locs rfl) (by decide) rfl rfl rfl ?_
  intro prog mean mg mb dp un gd outer A₀ base g L s Q B F X N T hro hlt hd hu hret
  have ht' : (tl, listOf vs.toArray nt) ∈ ((sl, listOf #[.int a ta, .int b tb] n) :: news) := .tail _ ht
  k_steps
  refine Stop.out ?_
  rw [List.size_toArray]
  (try k_fold); refine con_callZ (law_take_con w sl a b ta tb _ n vs.length ro news h1 h2 ha hb hb2 hn) (by k_asm) (by k_asm) (by k_asm) (by k_asm) (by assumption) (by assumption) rfl (by walk_at "own r") (by walk_at "own r") ?_
  intro h5 tk5
  refine kx7_rppnppp ?_
  intro d td a' b' ta' tb' n2 hd0 hd1 ha' hb' hb2' F5 N5
  have hdl : d.toNat < vs.length := by omega
  refine item_led (v := vs[d.toNat]) N5 (.tail _ ht) hd0 (by omega) (by simp [hdl]) ?_
  k_steps
  (try dsimp only)
  exact hret _ _ _ _ _ ⟨d.toNat, a', b', ta', tb', n2, by simp [hdl], rfl, ha', hb', hb2'⟩ F5 N5

def priOf : TestD → Int × Int
  | .name _ _ => (0, 1)
  | .instr (some _) => (0, 1)
  | .anyOf => (-1, 4)
  | _ => (-1, 2)
def tests9 : List TestD := [.name (Str.ofString "") (Str.ofString "a"), .name (Str.ofString "p") (Str.ofString "b"), .any, .anyOf, .node, .text, .comment, .instr none, .instr (some (Str.ofString "i"))]
theorem testOk_of {td : TestD} (h : td ∈ tests9) : TestOk td := by
  unfold tests9 at h
  simp only [List.mem_cons, List.not_mem_nil, or_false] at h
  rcases h with e | e | e | e | e | e | e | e | e <;> subst e <;> first | exact trivial | (show PyData.strOk _ = true; decide +kernel)
/-- a drawn pair: the test and its form's priority -/
def TestP (led : Led) (v : Value) : Prop := ∃ (pa ta ra : Addr) (td : TestD) (u1 u2 : Tok), v = .ref pa ∧ IsTp led pa [.ref ta, .ref ra] ∧ TestIn led ta td ∧ td ∈ tests9 ∧ IsTp led ra [.int (priOf td).1 u1, .int (priOf td).2 u2]
section
variable {X X' : Led} (h : ∀ p ∈ X, p ∈ X')
include h
theorem inst_mono {x C : Addr} {fs : List (Str × Value)} (i : Inst X x C fs) : Inst X' x C fs := by
  obtain ⟨dx, es, n, h1, h2, h3⟩ := i
  exact ⟨dx, es, n, h _ h1, h _ h2, h3⟩
theorem lst_mono {a : Addr} {vs : List Value} (i : IsLst X a vs) : IsLst X' a vs := by
  obtain ⟨n, h1⟩ := i
  exact ⟨n, h _ h1⟩
theorem tp_mono {a : Addr} {vs : List Value} (i : IsTp X a vs) : IsTp X' a vs := by
  obtain ⟨n, h1⟩ := i
  exact ⟨n, h _ h1⟩
theorem test_mono {t : Addr} {td : TestD} (i : TestIn X t td) : TestIn X' t td := by
  cases td with
  | name p l => exact let ⟨hp, t1, t2, t3, it⟩ := i; ⟨hp, t1, t2, t3, tp_mono h it⟩
  | any => exact let ⟨t1, it⟩ := i; ⟨t1, tp_mono h it⟩
  | anyOf => exact let ⟨t1, t2, it⟩ := i; ⟨t1, t2, tp_mono h it⟩
  | node => exact let ⟨t1, it⟩ := i; ⟨t1, tp_mono h it⟩
  | text => exact let ⟨t1, it⟩ := i; ⟨t1, tp_mono h it⟩
  | comment => exact let ⟨t1, it⟩ := i; ⟨t1, tp_mono h it⟩
  | instr o => cases o with
    | none => exact let ⟨t1, it⟩ := i; ⟨t1, tp_mono h it⟩
    | some x => exact let ⟨t1, t2, it⟩ := i; ⟨t1, t2, tp_mono h it⟩
theorem testP_mono {v : Value} (i : TestP X v) : TestP X' v := by
  obtain ⟨pa, ta, ra, td, u1, u2, e, h1, h2, h3, h4⟩ := i
  exact ⟨pa, ta, ra, td, u1, u2, e, tp_mono h h1, test_mono h h2, h3, tp_mono h h4⟩
end
/-- the pairs made so far, the last one first -/
def Acc (n1 news : Led) (vs : List Value) : Prop := (∀ v ∈ vs, TestP n1 v) ∧ ∀ p ∈ news, ∀ q ∈ n1, @LT.lt Nat _ p.1 q.1
/-- where it stands among the facts, the walk waits at a pair -/
def PairsWait : Prop := True
theorem wait_pair {P : Prop} (_hm : PairsWait) (h : Stop P) : P := h
local macro_rules | `(tactic| walk_at "newTuple") => `(tactic| (k_here; (with_reducible show wpAny _ _ (newTuple [Value.ref _, Value.ref _]) _ _ _); refine' wait_pair ?hm ?_; (case hm => assumption)))
theorem pair_new {M : Model} {A : Around} {E : Value → Shared → Prop} {s : Shared} {g : Heap} {L tt rt : Addr} {m : Str → Option Value} {news n1 : Led} {vs : List Value} {ot : Obj} {zt : Nat} {td : TestD} {u1 u2 : Tok} {Q : Value → Shared → Prop} (F : Fr g L s.heap m)
    (N : News g L s.heap ((rt, ({ cls := .type "tuple", data := .seq #[.int (priOf td).1 u1, .int (priOf td).2 u2] zt } : Obj)) :: (tt, ot) :: (n1 ++ news))) (hA : Acc n1 news vs) (l1 : ∀ p ∈ n1 ++ news, p.1 < tt) (l2 : tt < rt ∧ AllLt rt (n1 ++ news)) (hT : TestIn [(tt, ot)] tt td) (h9 : td ∈ tests9)
    (h : ∀ D h' n1', Fr g L h' m → News g L h' (n1' ++ news) → Acc n1' news (.ref D :: vs) → Q (.ref D) { s with heap := h' }) : wpAny M A (newTuple [.ref tt, .ref rt]) Q E s := by
  refine kup_newTuple F N (fun D h' F' N' l => ?_) (by have := sizeLine_eq; simp; omega)
  refine h D h' ((D, _) :: (rt, _) :: (tt, ot) :: n1) F' N' ⟨List.forall_mem_cons.mpr ⟨?_, fun v hv => testP_mono (fun p hp => .tail _ (.tail _ (.tail _ hp))) (hA.1 v hv)⟩, fun p hp => List.forall_mem_cons.mpr ⟨?_, List.forall_mem_cons.mpr ⟨?_, List.forall_mem_cons.mpr ⟨?_, hA.2 p hp⟩⟩⟩⟩
  · exact ⟨D, tt, rt, td, u1, u2, rfl, ⟨_, .head _⟩, test_mono (fun p hp => by rw [List.mem_singleton.mp hp]; exact .tail _ (.tail _ (.head _))) hT, h9, ⟨_, .tail _ (.head _)⟩⟩
  · exact l p (.tail _ (.tail _ (List.mem_append_right _ hp)))
  · exact allLt_to l2.2 p (List.mem_append_right _ hp)
  · exact l1 p (List.mem_append_right _ hp)
theorem law_tests_con (w : World) (ro news : Led) : Con w 645 [] ro news 3 60 (fun r n' => ∃ (n1 : Led) (l : Addr) (vs : List Value) (n : Nat), r = .ref l ∧ n' = n1 ++ news ∧ (l, listOf vs.toArray n) ∈ n1 ∧ vs.length = 9 ∧ (∀ v ∈ vs, TestP n1 v) ∧ ∀ p ∈ news, ∀ q ∈ n1, p.1 < q.1) := by
  refine con_of [] [] (by k_is) (by k_is) rfl rfl (locs rfl) (by decide) rfl rfl rfl ?_
  intro prog mean mg mb dp un gd outer A₀ base g L s Q B F X N T hro hlt hd hu hret
  have hm : PairsWait := trivial
  have hacc : Acc [] news [] := ⟨List.forall_mem_nil _, fun _ _ => List.forall_mem_nil _⟩
  k_steps
  refine Stop.out ?_
  with_reducible refine' pair_new (n1 := []) (td := (.name (Str.ofString "") (Str.ofString "a"))) ?F_1 ?N_1 hacc ?l1_1 ?l2_1 ?hT_1 ?h9_1 ?_
  case F_1 => k_asm
  case N_1 => k_asm
  case hT_1 => exact ⟨.inl rfl, _, _, _, _, .head _⟩
  case h9_1 => exact List.mem_of_getElem? (i := 0) rfl
  case l1_1 => assumption
  case l2_1 => assumption
  clear hacc
  intro D1 h1 n1 F1 N1 hacc
  k_steps
  refine Stop.out ?_
  with_reducible refine' pair_new (n1 := n1) (td := (.name (Str.ofString "p") (Str.ofString "b"))) ?F_2 ?N_2 hacc ?l1_2 ?l2_2 ?hT_2 ?h9_2 ?_
  case F_2 => k_asm
  case N_2 => k_asm
  case hT_2 => exact ⟨.inr rfl, _, _, _, _, .head _⟩
  case h9_2 => exact List.mem_of_getElem? (i := 1) rfl
  case l1_2 => assumption
  case l2_2 => assumption
  clear hacc
  intro D2 h2 n2 F2 N2 hacc
  k_steps
  refine Stop.out ?_
  with_reducible refine' pair_new (n1 := n2) (td := .any) ?F_3 ?N_3 hacc ?l1_3 ?l2_3 ?hT_3 ?h9_3 ?_
  case F_3 => k_asm
  case N_3 => k_asm
  case hT_3 => exact ⟨_, _, .head _⟩
  case h9_3 => exact List.mem_of_getElem? (i := 2) rfl
  case l1_3 => assumption
  case l2_3 => assumption
  clear hacc
  intro D3 h3 n3 F3 N3 hacc
  k_steps
  refine Stop.out ?_
  with_reducible refine' pair_new (n1 := n3) (td := .anyOf) ?F_4 ?N_4 hacc ?l1_4 ?l2_4 ?hT_4 ?h9_4 ?_
  case F_4 => k_asm
  case N_4 => k_asm
  case hT_4 => exact ⟨_, _, _, .head _⟩
  case h9_4 => exact List.mem_of_getElem? (i := 3) rfl
  case l1_4 => assumption
  case l2_4 => assumption
  clear hacc
  intro D4 h4 n4 F4 N4 hacc
  k_steps
  refine Stop.out ?_
  with_reducible refine' pair_new (n1 := n4) (td := .node) ?F_5 ?N_5 hacc ?l1_5 ?l2_5 ?hT_5 ?h9_5 ?_
  case F_5 => k_asm
  case N_5 => k_asm
  case hT_5 => exact ⟨_, _, .head _⟩
  case h9_5 => exact List.mem_of_getElem? (i := 4) rfl
  case l1_5 => assumption
  case l2_5 => assumption
  clear hacc
  intro D5 h5 n5 F5 N5 hacc
  k_steps
  refine Stop.out ?_
  with_reducible refine' pair_new (n1 := n5) (td := .text) ?F_6 ?N_6 hacc ?l1_6 ?l2_6 ?hT_6 ?h9_6 ?_
  case F_6 => k_asm
  case N_6 => k_asm
  case hT_6 => exact ⟨_, _, .head _⟩
  case h9_6 => exact List.mem_of_getElem? (i := 5) rfl
  case l1_6 => assumption
  case l2_6 => assumption
  clear hacc
  intro D6 h6 n6 F6 N6 hacc
  k_steps
  refine Stop.out ?_
  with_reducible refine' pair_new (n1 := n6) (td := .comment) ?F_7 ?N_7 hacc ?l1_7 ?l2_7 ?hT_7 ?h9_7 ?_
  case F_7 => k_asm
  case N_7 => k_asm
  case hT_7 => exact ⟨_, _, .head _⟩
  case h9_7 => exact List.mem_of_getElem? (i := 6) rfl
  case l1_7 => assumption
  case l2_7 => assumption
  clear hacc
  intro D7 h7 n7 F7 N7 hacc
  k_steps
  refine Stop.out ?_
  with_reducible refine' pair_new (n1 := n7) (td := (.instr none)) ?F_8 ?N_8 hacc ?l1_8 ?l2_8 ?hT_8 ?h9_8 ?_
  case F_8 => k_asm
  case N_8 => k_asm
  case hT_8 => exact ⟨_, _, .head _⟩
  case h9_8 => exact List.mem_of_getElem? (i := 7) rfl
  case l1_8 => assumption
  case l2_8 => assumption
  clear hacc
  intro D8 h8 n8 F8 N8 hacc
  k_steps
  refine Stop.out ?_
  with_reducible refine' pair_new (n1 := n8) (td := (.instr (some (Str.ofString "i")))) ?F_9 ?N_9 hacc ?l1_9 ?l2_9 ?hT_9 ?h9_9 ?_
  case F_9 => k_asm
  case N_9 => k_asm
  case hT_9 => exact ⟨_, _, _, .head _⟩
  case h9_9 => exact List.mem_of_getElem? (i := 8) rfl
  case l1_9 => assumption
  case l2_9 => assumption
  clear hacc
  intro D9 h9 n9 F9 N9 hacc
  k_steps
  rename News _ _ _ _ => Nq
  rename_i l _ _ ll
  have hl : ∀ p ∈ n9 ++ news, @LT.lt Nat _ p.1 l := ll
  refine hret _ _ _ _ _ ⟨(l, _) :: n9, _, _, _, rfl, rfl, .head _, rfl, fun v hv => ?_, fun p hp => List.forall_mem_cons.mpr ⟨hl p (List.mem_append_right _ hp), hacc.2 p hp⟩⟩ (by k_asm) Nq
  exact testP_mono (fun p hp => .tail _ hp) (hacc.1 v (List.mem_reverse.mp hv))

section
variable {prog : Program} {w : World} {A : Around} {E : Value → Shared → Prop} {s : Shared} {env : Env} {g : Heap} {x : Str} {body : List Stmt} {Q : Flow → Shared → Prop}
/-- a loop over range(nn), from the call of range on -/
theorem range_loop {nn : Nat} {t : Tok} {m₀ : Str → Option Value} {news : Led} (J : Nat → (Str → Option Value) → Led → Prop) (hh : A.handled = none) (hnn : nn < 1000)
    (F : Fr g env.locals s.heap m₀) (N : News g env.locals s.heap news) (hj : J 0 m₀ news)
    (turn : ∀ i ti m₁ news₁ h tk I oI, i < nn → J i m₁ news₁ → Fr g env.locals h (fun y => if y = x then some (.int (i : Int) ti) else m₁ y) → News g env.locals h ((I, oI) :: news₁) → (∀ p ∈ news₁, p.1 ≠ I) →
      wpAny (model prog w) A (execs body env) (TurnV g env.locals I oI (J (i + 1)) s Q) E { s with heap := h, toks := tk })
    (done : ∀ m₁ news₁ h tk, J nn m₁ news₁ → Fr g env.locals h m₁ → News g env.locals h news₁ → Q .next { s with heap := h, toks := tk }) :
    wpAny (model prog w) A (call (.type "range") [.int (nn : Int) t]) (fun xv s₁ => wpAny (model prog w) A (pyIter xv) (fun it s₂ => LoopAtV prog w A g env x body Q E it s₂) E s₁) E s := by
  refine call_range_1 ?_
  have hsz : Builtin.Range.rangeSize 0 (nn : Int) 1 = (nn : Int) := by rw [rangeSize_one]; split <;> omega
  refine wpAny_pyIter_range (IsRange.new ..) (by unfold Builtin.Range.small; rw [hsz]; simp [Builtin.Range.rangeFitsLong]; omega) ?_
  rw [hsz]
  let o1 : Obj := { cls := .type "range", data := .fields #[.int 0 s.toks, .int (nn : Int) t, .int 1 (s.toks + 1)] }
  let o2 : Obj := { cls := .type "range_iterator", data := .fields #[rawInt 0, rawInt (nn : Int), rawInt 1] }
  have F1 : Fr g env.locals (s.heap.push o1) m₀ := F.push _
  have N1 : News g env.locals (s.heap.push o1) news := fun p hp => ⟨Heap.get?_push_of_some _ (N p hp).1, (N p hp).2⟩
  have W := Walks.range (prog := prog) (w := w) hh (s.heap.push o1).objs.size 0 1 nn
  have hLI : env.locals ≠ (s.heap.push o1).objs.size := Nat.ne_of_lt F1.ns.lt
  have hI0 := next_is_new F1
  refine ⟨_, _, _, nn, _, _, m₀, news, fun i m₁ news₁ => (∀ p ∈ news₁, p.1 ≠ (s.heap.push o1).objs.size) ∧ J i m₁ news₁, rfl, W, ?_, ?_, ?_, ?_, F1.push _, (fun p hp => ⟨Heap.get?_push_of_some _ (N1 p hp).1, (N1 p hp).2⟩),
    ⟨fun p hp => Nat.ne_of_lt (Heap.lt_size (N1 p hp).1), hj⟩, ?_, ?_⟩
  · intro hm
    exact hLI (List.mem_singleton.mp hm)
  · intro b hb
    rw [List.mem_singleton.mp hb]
    exact hI0
  · intro p hp hI
    exact absurd (Heap.lt_size (N1 p hp).1) ((List.mem_singleton.mp hI) ▸ Nat.lt_irrefl _)
  · have := Heap.get?_push_size (s.heap.push o1) (o := o2) rfl
    simpa [IsRangeIter] using this
  · intro i v m₁ news₁ s₁ own
    revert s₁
    refine obv2_v ?_
    intro hh' tk' hin hP hJ0 hoff hown hown2 hall hst F₁ N₁
    have hoffJ := hJ0.1
    have hJ := hJ0.2
    obtain ⟨oI, hst⟩ : ∃ o, hh'.get? (s.heap.push o1).objs.size = some o := ⟨_, hst⟩
    have hio := hall _ (List.mem_cons.mpr (.inl rfl)) hI0 _ hst
    have N₂ : News g env.locals hh' (((s.heap.push o1).objs.size, oI) :: news₁) := fun p hp => by
      rcases List.mem_cons.mp hp with rfl | hp
      · exact N₁ _ (List.mem_append_left _ hio)
      · exact N₁ _ (List.mem_append_right _ hp)
    have hall' : ∀ p ∈ own, p = ((s.heap.push o1).objs.size, oI) := fun p hp => by
      have e := hown2 p hp
      have e1 := List.mem_singleton.mp (hown p hp)
      rw [e1] at e
      exact Prod.ext e1 (Option.some.inj (e.symm.trans hst))
    obtain ⟨ti, rfl⟩ := hP
    rw [show (0 : Int) + (i : Int) * 1 = (i : Int) by omega] at F₁
    refine wpAny_mono (turn i ti m₁ news₁ hh' tk' _ _ hin hJ F₁ N₂ hoffJ) (fun f s₂ p => ?_) fun _ _ e => e
    have fin : (∃ h' tk' m' news', s₂ = { s with heap := h', toks := tk' } ∧ Fr g env.locals h' m' ∧ News g env.locals h' (((s.heap.push o1).objs.size, oI) :: news') ∧ (∀ p ∈ news', p.1 ≠ (s.heap.push o1).objs.size) ∧ J (i + 1) m' news') →
        LoopStepU g env.locals [(s.heap.push o1).objs.size] own (fun m₁ news₁ => (∀ p ∈ news₁, p.1 ≠ (s.heap.push o1).objs.size) ∧ J (i + 1) m₁ news₁) { s with heap := hh', toks := tk' } .next s₂ := by
      rintro ⟨h', tk, m', news', e, F', N', hn, hm⟩
      refine ⟨rfl, h', tk, m', news', e, F', fun p hp => ?_, fun p hp hq => hn p hp (List.mem_singleton.mp hq), hn, hm⟩
      rcases List.mem_append.mp hp with hp | hp
      · rw [hall' p hp]; exact N' _ (List.mem_cons.mpr (.inl rfl))
      · exact N' _ (List.mem_cons.mpr (.inr hp))
    cases f with
    | ret v => exact .ret p
    | brk => exact .brk p
    | next => exact .next (fin p)
    | cont => exact .cont (fin p)
  · rintro h' tk m' news' F' N' _ ⟨_, hJ⟩
    exact done m' news' h' tk hJ F' N'
end

def cross (a b : RuleD) : Int := a.p0 * b.p1 - b.p0 * a.p1
theorem above_iff (a b : RuleD) : aboveF a b = true ↔ 0 < cross a b ∨ (cross a b = 0 ∧ b.place < a.place) := by
  unfold aboveF cross
  simp only [Bool.or_eq_true, Bool.and_eq_true, decide_eq_true_eq, beq_iff_eq]
  omega
theorem cross_mul (a b c : RuleD) : cross a c * b.p1 = cross a b * c.p1 + cross b c * a.p1 := by
  unfold cross
  simp only [Int.sub_mul]
  have e1 : b.p0 * a.p1 * c.p1 = b.p0 * c.p1 * a.p1 := by rw [Int.mul_assoc, Int.mul_assoc, Int.mul_comm a.p1]
  have e2 : a.p0 * c.p1 * b.p1 = a.p0 * b.p1 * c.p1 := by rw [Int.mul_assoc, Int.mul_assoc, Int.mul_comm c.p1]
  have e3 : c.p0 * a.p1 * b.p1 = c.p0 * b.p1 * a.p1 := by rw [Int.mul_assoc, Int.mul_assoc, Int.mul_comm a.p1]
  omega
theorem above_trans {a b c : RuleD} (pa : PrOk a) (pb : PrOk b) (pc : PrOk c) (h1 : aboveF a b = true) (h2 : aboveF b c = true) : aboveF a c = true := by
  rw [above_iff] at h1 h2 ⊢
  have e := cross_mul a b c
  have ha : 0 < a.p1 := by have := pa.2.2.1; omega
  have hb : 0 < b.p1 := by have := pb.2.2.1; omega
  have hc : 0 < c.p1 := by have := pc.2.2.1; omega
  have key : ∀ x y : Int, 0 < y → (0 < x * y → 0 < x) ∧ (x * y = 0 → x = 0) := fun x y hy => by
    refine ⟨fun h => ?_, fun h => ?_⟩
    · by_cases hx : 0 < x
      · exact hx
      · have := Int.mul_nonpos_of_nonpos_of_nonneg (show x ≤ 0 by omega) (show 0 ≤ y by omega)
        omega
    · rcases Int.mul_eq_zero.mp h with h | h
      · exact h
      · omega
  have pos : ∀ x y : Int, 0 < x → 0 < y → 0 < x * y := fun x y hx hy => Int.mul_pos hx hy
  rcases h1 with h1 | ⟨h1, q1⟩ <;> rcases h2 with h2 | ⟨h2, q2⟩
  · exact .inl ((key _ _ hb).1 (by rw [e]; have := pos _ _ h1 hc; have := pos _ _ h2 ha; omega))
  · exact .inl ((key _ _ hb).1 (by rw [e, h2]; have := pos _ _ h1 hc; omega))
  · exact .inl ((key _ _ hb).1 (by rw [e, h1]; have := pos _ _ h2 ha; omega))
  · exact .inr ⟨(key _ _ hb).2 (by rw [e, h1, h2]; omega), by omega⟩
theorem above_total {a b : RuleD} (h : aboveF a b = false) (hn : a.place ≠ b.place) : aboveF b a = true := by
  unfold aboveF at h ⊢
  simp only [Bool.or_eq_false_iff, Bool.and_eq_false_imp, decide_eq_false_iff_not, beq_iff_eq, Bool.or_eq_true, Bool.and_eq_true, decide_eq_true_eq] at h ⊢
  omega
theorem insR_nil (x : VR) : insR x [] = [x] := rfl
theorem insR_cons (x y : VR) (r : List VR) : insR x (y :: r) = if aboveF y.2 x.2 = true then y :: insR x r else x :: y :: r := by
  unfold insR
  rw [List.takeWhile_cons, List.dropWhile_cons]
  split <;> rfl
theorem insR_mem {x z : VR} {l : List VR} (h : z ∈ insR x l) : z = x ∨ z ∈ l := List.mem_cons.mp ((insR_perm x l).mem_iff.mp h)
def SortedR (l : List VR) : Prop := l.Pairwise fun a b => aboveF a.2 b.2 = true
theorem insR_sorted {x : VR} (px : PrOk x.2) : ∀ {l : List VR}, SortedR l → (∀ y ∈ l, PrOk y.2 ∧ y.2.place ≠ x.2.place) → SortedR (insR x l)
  | [], _, _ => by rw [insR_nil]; exact List.pairwise_singleton _ _
  | y :: r, hs, ho => by
    obtain ⟨h1, h2⟩ := List.pairwise_cons.mp hs
    rw [insR_cons]
    split
    · rename_i hy
      refine List.pairwise_cons.mpr ⟨fun z hz => ?_, insR_sorted px h2 fun z hz => ho z (.tail _ hz)⟩
      rcases insR_mem hz with e | hz
      · rw [e]; exact hy
      · exact h1 z hz
    · rename_i hy
      have hxy : aboveF x.2 y.2 = true := above_total (by simpa using hy) (ho y (.head _)).2
      refine List.pairwise_cons.mpr ⟨fun z hz => ?_, hs⟩
      rcases List.mem_cons.mp hz with e | hz
      · rw [e]; exact hxy
      · exact above_trans px (ho y (.head _)).1 (ho z (.tail _ hz)).1 hxy (h1 z hz)
theorem insR_find {x : VR} {hit : RuleD → Bool} (px : PrOk x.2) : ∀ {l : List VR}, SortedR l → (∀ y ∈ l, PrOk y.2) → (insR x l).find? (fun y => hit y.2) = if hit x.2 = true then (match l.find? (fun y => hit y.2) with | none => some x | some b => if aboveF b.2 x.2 = true then some b else some x) else l.find? (fun y => hit y.2)
  | [], _, _ => by rw [insR_nil, List.find?_cons, List.find?_nil]; cases hit x.2 <;> rfl
  | y :: r, hs, ho => by
    obtain ⟨h1, h2⟩ := List.pairwise_cons.mp hs
    rw [insR_cons]
    split
    · rename_i hy
      rw [List.find?_cons, List.find?_cons]
      cases hit y.2 with
      | true => simp only [hy, if_true]; split <;> rfl
      | false => exact insR_find px h2 fun z hz => ho z (.tail _ hz)
    · rename_i hy
      rw [List.find?_cons]
      cases hx : hit x.2 with
      | false => rfl
      | true =>
        simp only [if_true]
        cases hf : (y :: r).find? (fun y => hit y.2) with
        | none => rfl
        | some b =>
          have hb := List.mem_of_find?_eq_some hf
          have hn : ¬ aboveF b.2 x.2 = true := by
            rcases List.mem_cons.mp hb with e | hb
            · rw [e]; exact hy
            · exact fun q => hy (above_trans (ho y (.head _)) (ho b (.tail _ hb)) px (h1 b hb) q)
          simp only [hn, if_false, Bool.false_eq_true]
def bestStep (hit : RuleD → Bool) (best : Option RuleD) (rd : RuleD) : Option RuleD := if hit rd = true then (match best with | none => some rd | some b => if 0 ≤ rd.p0 * b.p1 - b.p0 * rd.p1 then some rd else some b) else best
def bestR (hit : RuleD → Bool) (ds : List RuleD) : Option RuleD := ds.foldl (bestStep hit) none
theorem fold_best (hit : RuleD → Bool) : ∀ (ps acc : List VR), SortedR acc → (∀ p ∈ ps, PrOk p.2) → (∀ p ∈ acc, PrOk p.2 ∧ ∀ q ∈ ps, p.2.place < q.2.place) → ps.Pairwise (fun a b => a.2.place < b.2.place) →
    SortedR (ps.foldl (fun acc x => insR x acc) acc) ∧ ((ps.foldl (fun acc x => insR x acc) acc).find? (fun y => hit y.2)).map (·.2) = (ps.map (·.2)).foldl (bestStep hit) ((acc.find? (fun y => hit y.2)).map (·.2))
  | [], acc, hs, _, _, _ => ⟨hs, rfl⟩
  | x :: ps, acc, hs, hp, ha, hw => by
    obtain ⟨w1, w2⟩ := List.pairwise_cons.mp hw
    have px := hp x (.head _)
    have ih := fold_best hit ps (insR x acc) (insR_sorted px hs fun y hy => ⟨(ha y hy).1, Int.ne_of_lt ((ha y hy).2 x (.head _))⟩) (fun p h => hp p (.tail _ h)) (fun p h => by
      rcases insR_mem h with e | h
      · rw [e]; exact ⟨px, w1⟩
      · exact ⟨(ha p h).1, fun q hq => (ha p h).2 q (.tail _ hq)⟩) w2
    refine ⟨ih.1, ih.2.trans ?_⟩
    rw [List.map_cons, List.foldl_cons]
    congr 1
    rw [insR_find px hs fun y hy => (ha y hy).1]
    unfold bestStep
    cases hit x.2 with
    | false => simp only [Bool.false_eq_true, if_false]
    | true =>
      simp only [if_true]
      cases hf : acc.find? (fun y => hit y.2) with
      | none => rfl
      | some b =>
        have hb := List.mem_of_find?_eq_some hf
        have hlt := (ha b hb).2 x (.head _)
        have hiff := above_iff b.2 x.2
        unfold cross at hiff
        simp only [Option.map_some]
        by_cases h : aboveF b.2 x.2 = true
        · rw [if_pos h, if_neg (by have := hiff.mp h; omega)]; rfl
        · rw [if_neg h, if_pos (by have := mt hiff.mpr h; omega)]; rfl
theorem rank_best (hit : RuleD → Bool) (ps : List VR) (hp : ∀ p ∈ ps, PrOk p.2) (hw : ps.Pairwise (fun a b => a.2.place < b.2.place)) : SortedR (rankR ps) ∧ ((rankR ps).map (·.2)).find? hit = bestR hit (ps.map (·.2)) := by
  obtain ⟨h1, h2⟩ := fold_best hit ps [] List.Pairwise.nil hp (fun p h => by cases h) hw
  refine ⟨h1, ?_⟩
  rw [List.find?_map]
  exact h2
/-- the law's own helper: no row ahead of row k stands beside it and fits -/
def isFirstF (dl : List NodeD) (k : Nat) (d : NodeD) (at' : Bool) (td : TestD) : Bool := match (List.range dl.length).find? (fun i => i == k || (match dl[i]? with | none => false | some o => o.parent == d.parent && lawFits o at' td)) with
  | none => true
  | some i => i == k
def lawHit (dl : List NodeD) (k : Nat) (d : NodeD) (md : Bool) (rd : RuleD) : Bool := rd.mode == md && lawFits d rd.at' rd.td && (!rd.pos || isFirstF dl k d rd.at' rd.td)
def agreeAt (k : Nat) (td : TestD) (at' pos : Bool) : Bool := match doc12[k]? with
  | none => true
  | some d => fitsF doc12 k d at' td pos == (lawFits d at' td && (!pos || isFirstF doc12 k d at' td))
theorem agree_all : ((List.range 12).all fun k => tests9.all fun td => [true, false].all fun at' => [true, false].all fun pos => agreeAt k td at' pos) = true := by decide +kernel
theorem agree {k : Nat} {d : NodeD} (hd : doc12[k]? = some d) {td : TestD} (ht : td ∈ tests9) (at' pos : Bool) : fitsF doc12 k d at' td pos = (lawFits d at' td && (!pos || isFirstF doc12 k d at' td)) := by
  have hk : k < 12 := (List.getElem?_eq_some_iff.mp hd).1
  have h := List.all_eq_true.mp (List.all_eq_true.mp (List.all_eq_true.mp (List.all_eq_true.mp agree_all k (List.mem_range.mpr hk)) td ht) at' (by cases at' <;> simp)) pos (by cases pos <;> simp)
  unfold agreeAt at h
  rw [hd] at h
  exact eq_of_beq h
theorem hits_same {k : Nat} {d : NodeD} (hd : doc12[k]? = some d) {rd : RuleD} (ht : rd.td ∈ tests9) (md : Bool) : ruleHit doc12 k d md rd = lawHit doc12 k d md rd := by
  unfold ruleHit lawHit
  rw [agree hd ht, Bool.and_assoc]
theorem best_congr {h1 h2 : RuleD → Bool} {ds : List RuleD} (h : ∀ rd ∈ ds, h1 rd = h2 rd) : bestR h1 ds = bestR h2 ds := by
  unfold bestR
  generalize (none : Option RuleD) = b
  induction ds generalizing b with
  | nil => rfl
  | cons x r ih =>
    rw [List.foldl_cons, List.foldl_cons, show bestStep h1 b x = bestStep h2 b x by unfold bestStep; rw [h x (.head _)]]
    exact ih (fun rd hr => h rd (.tail _ hr)) _

local macro_rules | `(tactic| walk_at "call type:range") => `(tactic| walk_at "own stop")
theorem eq_b {prog : Program} {w : World} {A : Around} {E : Value → Shared → Prop} {s : Shared} {d e : Int} {t1 t2 : Tok} {b : Bool} {Q : Value → Shared → Prop} (hb : (d == e) = b) (h : Q (.bool b) s) : wpAny (model prog w) A (compareOp .Eq (.int d t1) (.int e t2)) Q E s := by
  subst hb
  exact PyProof.Rows.eq_int h
local macro_rules | `(tactic| walk_at "compareOp Eq int int") => `(tactic| (k_here; k_dflt (refine' eq_b ?h ?_; (case h => assumption); k_whole)))
theorem assign_led {prog : Program} {w : World} {A : Around} {E : Value → Shared → Prop} {s : Shared} {led : Led} {g : Heap} {L a : Addr} {m : Str → Option Value} {vs : List Value} {env : Env} {elts : List PySem.Expr} {x1 n : Nat} {pos : Pos} {Q : Unit → Shared → Prop} (F : Fr g L s.heap m) (N : News g L s.heap led) (hm : (a, ({ cls := .type "tuple", data := .seq vs.toArray n } : Obj)) ∈ led) (hh : A.handled = none)
    (hn : (assignEach elts env).length = vs.length) (hstar : (assignEach elts env).findIdx? (·.1) = none)
    (h : ∀ h', Fr g L h' m → News g L h' led → wpAny (model prog w) A (assignInOrder ((assignEach elts env).map (·.2)) vs) Q E { s with heap := h' }) : wpAny (model prog w) A (assign (.Tuple elts x1 pos) env (.ref a)) Q E s := by
  refine wpAny_assign_Tuple hh ⟨_, (N _ hm).1, rfl, _, rfl⟩ (by simpa using hn) hstar fun h' hx => ?_
  have hk : ∀ b o, s.heap.get? b = some o → h'.get? b = some o := fun b o e => hx b o (Nat.ne_of_lt (Heap.lt_size e)) e
  simpa using h h' (F.keeps hk) fun p hp => ⟨hk _ _ (N p hp).1, (N p hp).2⟩
theorem ne_ktup {w : World} {prog : Program} {A : Around} {E : Value → Shared → Prop} {s : Shared} {g : Heap} {L a b : Addr} {m : Str → Option Value} {led : Led} {p1 q1 p2 q2 : Int} {u1 u2 u3 u4 : Tok} {n n' : Nat} {sl : Array (Option Value)} {od : Option Addr} {Q : Value → Shared → Prop} (F : Fr g L s.heap m) (X : (hd.heap_1 w.params).In g) (N : News g L s.heap led)
    (ho : (hd.heap_1 w.params).lookup a = some ⟨.type "tuple", od, .seq #[.int p1 u1, .int q1 u2] n, sl⟩) (hm : (b, ({ cls := .type "tuple", data := .seq #[.int p2 u3, .int q2 u4] n' } : Obj)) ∈ led) (hu : A.units + 64 < cLine)
    (h : Q (.bool (!(p1 == p2 && q1 == q2))) s) : wpAny (model prog w) A (compareOp .NotEq (.ref a) (.ref b)) Q E s := by
  refine cmp_ofNotEq (ne_dataH (reads_tuple_at (F.keep _ _ (X _ _ ho)) rfl rfl (.cons (.int _ _) (.cons (.int _ _) .nil))) (reads_tuple_at (News.get N hm) rfl rfl (.cons (.int _ _) (.cons (.int _ _) .nil))) rfl rfl hu ?_)
  simpa only [PyData.eqv, PyData.eqvAll, Bool.and_true] using h
theorem ne_same {w : World} {prog : Program} {A : Around} {E : Value → Shared → Prop} {s : Shared} {g : Heap} {L a b : Addr} {m : Str → Option Value} {led : Led} {p q : Int} {u1 u2 u3 u4 : Tok} {n n' : Nat} {sl : Array (Option Value)} {od : Option Addr} {Q : Value → Shared → Prop} (F : Fr g L s.heap m) (X : (hd.heap_1 w.params).In g) (N : News g L s.heap led)
    (ho : (hd.heap_1 w.params).lookup a = some ⟨.type "tuple", od, .seq #[.int p u1, .int q u2] n, sl⟩) (hm : (b, ({ cls := .type "tuple", data := .seq #[.int p u3, .int q u4] n' } : Obj)) ∈ led) (hu : A.units + 64 < cLine)
    (h : Q (.bool false) s) : wpAny (model prog w) A (compareOp .NotEq (.ref a) (.ref b)) Q E s := ne_ktup F X N ho hm hu (by simpa using h)
def priP (td : TestD) (pos : Bool) : Int × Int := if pos = true then (1, 2) else priOf td
theorem priP_ok (td : TestD) (pos : Bool) : -9 ≤ (priP td pos).1 ∧ (priP td pos).1 ≤ 9 ∧ 1 ≤ (priP td pos).2 ∧ (priP td pos).2 ≤ 9 := by
  cases pos with
  | true => simp [priP]
  | false =>
    cases td with
    | instr o => cases o <;> simp [priP, priOf]
    | _ => simp [priP, priOf]
def PriK (w : World) (a : Addr) (p q : Int) : Prop := ∃ (od : Option Addr) (n : Nat) (sl : Array (Option Value)) (u1 u2 : Tok), (hd.heap_1 w.params).lookup a = some ⟨.type "tuple", od, .seq #[.int p u1, .int q u2] n, sl⟩
theorem pri_K (w : World) : PriK w 331 1 2 ∧ PriK w 328 0 1 ∧ PriK w 329 (-1) 4 ∧ PriK w 330 (-1) 2 :=
  ⟨⟨_, _, _, _, _, by k_is⟩, ⟨_, _, _, _, _, by k_is⟩, ⟨_, _, _, _, _, by k_is⟩, ⟨_, _, _, _, _, by k_is⟩⟩
theorem pri_at (w : World) (td : TestD) (pos : Bool) : PriK w (priAddr td pos) (priP td pos).1 (priP td pos).2 := by
  obtain ⟨h1, h2, h3, h4⟩ := pri_K w
  cases pos with
  | true => exact h1
  | false =>
    cases td with
    | name p l => exact h2
    | any => exact h4
    | anyOf => exact h3
    | node => exact h4
    | text => exact h4
    | comment => exact h4
    | instr o => cases o with
      | none => exact h4
      | some x => exact h2
local macro_rules | `(tactic| walk_at "compareOp NotEq ref ref") => `(tactic| (k_here; k_dflt (refine' ne_same ?F ?X ?N ?ho ?hm ?hu ?_; (case F => k_asm); (case X => k_asm); (case N => k_asm); (case ho => assumption); (case hm => first | assumption | k_mem); (case hu => walk_at "own u"); k_whole)))
def OffS (sl rl tl : Addr) (X : Led) : Prop := ∀ p ∈ X, @Ne Nat p.1 sl ∧ @Ne Nat p.1 rl ∧ @Ne Nat p.1 tl
def ToldIn (X : Led) (ts : List Value) (ds : List RuleD) : Prop := ts.length = ds.length ∧ ∀ (i : Nat) (rd : RuleD), ds[i]? = some rd → ∃ (tu t : Addr) (ta : Tok), ts[i]? = some (.ref tu) ∧ IsTp X tu [.str (axS rd.at') ta, .ref t, .bool rd.pos] ∧ TestIn X t rd.td ∧ rd.td ∈ tests9
structure RulesSt (X : Led) (vs ts : List Value) (ds : List RuleD) : Prop where
  rules : RulesIn X vs ds
  told : ToldIn X ts ds
  place : ∀ (i : Nat) (rd : RuleD), ds[i]? = some rd → rd.place = (i : Int)
  pr : ∀ rd ∈ ds, PrOk rd
def SrcOk (a b : Int) : Prop := 0 ≤ a ∧ 0 ≤ b ∧ b < 2147483647
section
variable {X X' : Led} (h : ∀ p ∈ X, p ∈ X')
include h
theorem step_mono {st : Addr} {at' pos : Bool} {td : TestD} (i : StepIn X st at' td pos) : StepIn X' st at' td pos := by
  obtain ⟨ta, t, pl, ist, ht, hpl⟩ := i
  refine ⟨ta, t, pl, inst_mono h ist, test_mono h ht, ?_⟩
  cases pos with
  | true =>
    rw [if_pos rfl] at hpl ⊢
    obtain ⟨nn, vt, t1, t2, a, b, c⟩ := hpl
    exact ⟨nn, vt, t1, t2, lst_mono h a, inst_mono h b, tp_mono h c⟩
  | false =>
    rw [if_neg Bool.false_ne_true] at hpl ⊢
    exact lst_mono h hpl
theorem pat_mono {pt : Addr} {at' pos : Bool} {td : TestD} (i : PatIn X pt at' td pos) : PatIn X' pt at' td pos := by
  obtain ⟨pts, pr, part, st, a, b, c, d⟩ := i
  exact ⟨pts, pr, part, st, inst_mono h a, lst_mono h b, inst_mono h c, step_mono h d⟩
theorem mode_mono {v : Value} {b : Bool} (i : ModeIs X v b) : ModeIs X' v b := by
  cases b with
  | false => exact i
  | true => exact let ⟨a, t1, t2, e, it⟩ := i; ⟨a, t1, t2, e, tp_mono h it⟩
theorem pl_mono {pl : Addr} {pos : Bool} (hpl : if pos = true then ∃ (nn vt : Addr) (t1 t2 : Tok), IsLst X pl [.ref nn] ∧ Inst X nn 578 [(Str.ofString "value", .ref vt)] ∧ IsTp X vt [.int 1 t1, .int 1 t2] else IsLst X pl []) : if pos = true then ∃ (nn vt : Addr) (t1 t2 : Tok), IsLst X' pl [.ref nn] ∧ Inst X' nn 578 [(Str.ofString "value", .ref vt)] ∧ IsTp X' vt [.int 1 t1, .int 1 t2] else IsLst X' pl [] := by
  cases pos with
  | true =>
    rw [if_pos rfl] at hpl ⊢
    obtain ⟨nn, vt, t1, t2, a, b, c⟩ := hpl
    exact ⟨nn, vt, t1, t2, lst_mono h a, inst_mono h b, tp_mono h c⟩
  | false =>
    rw [if_neg Bool.false_ne_true] at hpl ⊢
    exact lst_mono h hpl
theorem rule_mono {a : Addr} {rd : RuleD} (i : RuleIn X a rd) : RuleIn X' a rd := by
  obtain ⟨pt, pr, bd, mv, t1, t2, t3, t4, a1, a2, a3, a4, a5⟩ := i
  exact ⟨pt, pr, bd, mv, t1, t2, t3, t4, inst_mono h a1, pat_mono h a2, mode_mono h a3, a4, tp_mono h a5⟩
theorem rules_mono {vs ts : List Value} {ds : List RuleD} (r : RulesSt X vs ts ds) : RulesSt X' vs ts ds :=
  ⟨⟨r.rules.1, fun i rd e => let ⟨a, p, q⟩ := r.rules.2 i rd e; ⟨a, p, rule_mono h q⟩⟩, ⟨r.told.1, fun i rd e => let ⟨tu, t, ta, p, q, q2, q3⟩ := r.told.2 i rd e; ⟨tu, t, ta, p, tp_mono h q, test_mono h q2, q3⟩⟩, r.place, r.pr⟩
end
def RulesJ (sl rl tl : Addr) (i : Nat) (m : Str → Option Value) (nw : Led) : Prop := ∃ (u : Str → Option Value) (a b : Int) (ta tb : Tok) (n : Nat) (vs ts : List Value) (nv nt : Nat) (ds : List RuleD) (X : Led), m = withL [(Str.ofString "source", .ref sl), (Str.ofString "rules", .ref rl), (Str.ofString "told", .ref tl)] u ∧
  nw = (sl, listOf #[.int a ta, .int b tb] n) :: (rl, listOf vs.toArray nv) :: (tl, listOf ts.toArray nt) :: X ∧ SrcOk a b ∧ OffS sl rl tl X ∧ RulesSt X vs ts ds ∧ ds.length = i
def OffI (sl rl tl I : Addr) (X : Led) : Prop := ∀ p ∈ X, @Ne Nat p.1 sl ∧ @Ne Nat p.1 rl ∧ @Ne Nat p.1 tl ∧ @Ne Nat p.1 I
def Fr4 (sl rl tl I a : Addr) : Prop := @LT.lt Nat _ sl a ∧ @LT.lt Nat _ rl a ∧ @LT.lt Nat _ tl a ∧ @LT.lt Nat _ I a
theorem fr4 {sl rl tl I a : Addr} {P : Prop} (h : sl < a ∧ rl < a ∧ tl < a ∧ I < a ∧ P) : Fr4 sl rl tl I a := ⟨h.1, h.2.1, h.2.2.1, h.2.2.2.1⟩
theorem fa4 {sl rl tl I a : Addr} {os ol ot oI : Obj} {X : Led} (h : ∀ p ∈ (sl, os) :: (rl, ol) :: (tl, ot) :: (I, oI) :: X, p.1 < a) : Fr4 sl rl tl I a := ⟨h _ (.head _), h _ (.tail _ (.head _)), h _ (.tail _ (.tail _ (.head _))), h _ (.tail _ (.tail _ (.tail _ (.head _))))⟩
theorem fx4 {sl rl tl I a b : Addr} (h : Fr4 sl rl tl I a) (l : @LT.lt Nat _ a b) : Fr4 sl rl tl I b := ⟨Nat.lt_trans h.1 l, Nat.lt_trans h.2.1 l, Nat.lt_trans h.2.2.1 l, Nat.lt_trans h.2.2.2 l⟩
theorem absorb {g : Heap} {L : Addr} {h : Heap} {sl rl tl I : Addr} {os ol ot oI : Obj} {A X : Led} (N : News g L h (A ++ (sl, os) :: (rl, ol) :: (tl, ot) :: (I, oI) :: X)) (hoff : OffI sl rl tl I X) (hA : ∀ p ∈ A, Fr4 sl rl tl I p.1) :
    ∃ X', (∀ p ∈ X, p ∈ X') ∧ (∀ p ∈ A, p ∈ X') ∧ OffI sl rl tl I X' ∧ News g L h ((sl, os) :: (rl, ol) :: (tl, ot) :: (I, oI) :: X') := by
  refine ⟨A ++ X, fun p hp => List.mem_append_right _ hp, fun p hp => List.mem_append_left _ hp, fun p hp => ?_, cb_drop N ?_⟩
  · rcases List.mem_append.mp hp with hp | hp
    · have := hA p hp; exact ⟨Nat.ne_of_gt this.1, Nat.ne_of_gt this.2.1, Nat.ne_of_gt this.2.2.1, Nat.ne_of_gt this.2.2.2⟩
    · exact hoff p hp
  · refine List.forall_mem_cons.mpr ⟨List.mem_append_right _ (.head _), List.forall_mem_cons.mpr ⟨List.mem_append_right _ (.tail _ (.head _)), List.forall_mem_cons.mpr ⟨List.mem_append_right _ (.tail _ (.tail _ (.head _))), List.forall_mem_cons.mpr ⟨List.mem_append_right _ (.tail _ (.tail _ (.tail _ (.head _)))), fun p hp => ?_⟩⟩⟩⟩
    rcases List.mem_append.mp hp with hp | hp
    · exact List.mem_append_left _ hp
    · exact List.mem_append_right _ (.tail _ (.tail _ (.tail _ (.tail _ hp))))
theorem offsl {sl rl tl I : Addr} {ol ot oI : Obj} {X : Led} (l1 : @LT.lt Nat _ sl rl) (l2 : @LT.lt Nat _ sl tl) (l3 : @Ne Nat I sl) (hoff : OffI sl rl tl I X) : ∀ p ∈ (rl, ol) :: (tl, ot) :: (I, oI) :: X, p.1 ≠ sl := List.forall_mem_cons.mpr ⟨Nat.ne_of_gt l1, List.forall_mem_cons.mpr ⟨Nat.ne_of_gt l2, List.forall_mem_cons.mpr ⟨l3, fun p hp => (hoff p hp).1⟩⟩⟩
theorem append_mid {prog : Program} {w : World} {A₁ : Around} {E : Value → Shared → Prop} {s : Shared} {A R : Led} {g : Heap} {L D : Addr} {m : Str → Option Value} {its : List Value} {n : Nat} {x : Value} {Q : Value → Shared → Prop} (F : Fr g L s.heap m) (N : News g L s.heap (A ++ (D, listOf its.toArray n) :: R)) (hz : its.length ≤ 1000) (offA : ∀ p ∈ A, @Ne Nat p.1 D) (offR : ∀ p ∈ R, @Ne Nat p.1 D)
    (h : ∀ h', Fr g L h' m → News g L h' (A ++ (D, listOf (its ++ [x]).toArray (n + 1)) :: R) → Q .none { s with heap := h' }) : wpAny (model prog w) A₁ (call (.builtin "list.append") [.ref D, x]) Q E s := by
  refine append_M F N (List.mem_append_right _ (.head _)) hz fun h' led' F' N' hm hk => h h' F' (cb_drop N' fun p hp => ?_)
  rcases List.mem_append.mp hp with hp | hp
  · exact hk p (List.mem_append_left _ hp) (.inl (offA p hp))
  · cases hp with
    | head => exact hm
    | tail _ hp => exact hk p (List.mem_append_right _ (.tail _ hp)) (.inl (offR p hp))
theorem perm4 {n1 X : Led} {I s1 s2 s3 : Addr × Obj} : ∀ p ∈ s1 :: s2 :: s3 :: I :: (n1 ++ X), p ∈ n1 ++ I :: s1 :: s2 :: s3 :: X := by
  refine List.forall_mem_cons.mpr ⟨List.mem_append_right _ (.tail _ (.head _)), List.forall_mem_cons.mpr ⟨List.mem_append_right _ (.tail _ (.tail _ (.head _))), List.forall_mem_cons.mpr ⟨List.mem_append_right _ (.tail _ (.tail _ (.tail _ (.head _)))), List.forall_mem_cons.mpr ⟨List.mem_append_right _ (.head _), fun p hp => ?_⟩⟩⟩⟩
  rcases List.mem_append.mp hp with hp | hp
  · exact List.mem_append_left _ hp
  · exact List.mem_append_right _ (.tail _ (.tail _ (.tail _ (.tail _ hp))))
theorem offI_new {sl rl tl I : Addr} {oI o1 o2 o3 : Obj} {n1 X : Led} (h : OffS sl rl tl X) (hI : ∀ p ∈ (sl, o1) :: (rl, o2) :: (tl, o3) :: X, p.1 ≠ I) (hf : ∀ p ∈ (I, oI) :: (sl, o1) :: (rl, o2) :: (tl, o3) :: X, ∀ q ∈ n1, p.1 < q.1) : OffI sl rl tl I (n1 ++ X) := by
  intro p hp
  rcases List.mem_append.mp hp with hp | hp
  · exact ⟨Nat.ne_of_gt (hf _ (.tail _ (.head _)) p hp), Nat.ne_of_gt (hf _ (.tail _ (.tail _ (.head _))) p hp), Nat.ne_of_gt (hf _ (.tail _ (.tail _ (.tail _ (.head _)))) p hp), Nat.ne_of_gt (hf _ (.head _) p hp)⟩
  · exact ⟨(h p hp).1, (h p hp).2.1, (h p hp).2.2, hI p (.tail _ (.tail _ (.tail _ hp)))⟩
theorem perm_end {X : Led} {I s1 s2 s3 : Addr × Obj} : ∀ p ∈ I :: s1 :: s2 :: s3 :: X, p ∈ s1 :: s2 :: s3 :: I :: X :=
  List.forall_mem_cons.mpr ⟨.tail _ (.tail _ (.tail _ (.head _))), List.forall_mem_cons.mpr ⟨.head _, List.forall_mem_cons.mpr ⟨.tail _ (.head _), List.forall_mem_cons.mpr ⟨.tail _ (.tail _ (.head _)), fun _ hp => .tail _ (.tail _ (.tail _ (.tail _ hp)))⟩⟩⟩⟩
theorem snoc_get {α : Type} {l : List α} {x y : α} {i : Nat} (h : (l ++ [x])[i]? = some y) : l[i]? = some y ∨ (i = l.length ∧ y = x) := by
  rcases Nat.lt_trichotomy i l.length with hi | hi | hi
  · rw [List.getElem?_append_left hi] at h; exact .inl h
  · subst hi; rw [List.getElem?_append_right (Nat.le_refl _)] at h; simp at h; exact .inr ⟨rfl, h.symm⟩
  · rw [List.getElem?_eq_none (by simp; omega)] at h; cases h
theorem rules_snoc {X : Led} {vs ts : List Value} {ds : List RuleD} (r : RulesSt X vs ts ds) {rr : Addr} {rd : RuleD} (hr : RuleIn X rr rd) {tu t : Addr} {ta : Tok} (htp : IsTp X tu [.str (axS rd.at') ta, .ref t, .bool rd.pos]) (ht : TestIn X t rd.td) (ht9 : rd.td ∈ tests9) (hpl : rd.place = (ds.length : Int)) (hpr : PrOk rd) :
    RulesSt X (vs ++ [.ref rr]) (ts ++ [.ref tu]) (ds ++ [rd]) := by
  obtain ⟨⟨r1, r2⟩, ⟨t1, t2⟩, r3, r4⟩ := r
  refine ⟨⟨by simp [r1], fun i d h => ?_⟩, ⟨by simp [t1], fun i d h => ?_⟩, fun i d h => ?_, fun d h => ?_⟩
  · rcases snoc_get h with h | ⟨rfl, rfl⟩
    · obtain ⟨a, p, q⟩ := r2 i d h
      exact ⟨a, by rw [List.getElem?_append_left (List.getElem?_eq_some_iff.mp p).1]; exact p, q⟩
    · exact ⟨rr, by rw [← r1]; simp, hr⟩
  · rcases snoc_get h with h | ⟨rfl, rfl⟩
    · obtain ⟨tu', t', ta', p, q⟩ := t2 i d h
      exact ⟨tu', t', ta', by rw [List.getElem?_append_left (List.getElem?_eq_some_iff.mp p).1]; exact p, q⟩
    · exact ⟨tu, t, ta, by rw [← t1]; simp, htp, ht, ht9⟩
  · rcases snoc_get h with h | ⟨rfl, rfl⟩
    · exact r3 i d h
    · exact hpl
  · rcases List.mem_append.mp h with h | h
    · exact r4 d h
    · rw [List.mem_singleton.mp h]; exact hpr
def JoinQ (g : Heap) (L : Addr) (m : Str → Option Value) (s1 s2 s3 I : Addr × Obj) (X : Led) (P : Addr → Led → Prop) (s : Shared) (v : Value) (s' : Shared) : Prop := ∃ (a : Addr) (h' : Heap) (tk' : Nat) (X' : Led), v = .ref a ∧ s' = { s with heap := h', toks := tk' } ∧ Fr g L h' m ∧ News g L h' (s1 :: s2 :: s3 :: I :: X') ∧ (∀ p ∈ X, p ∈ X') ∧ OffI s1.1 s2.1 s3.1 I.1 X' ∧ P a X'
theorem JoinQ.intro {g h' : Heap} {L a : Addr} {m : Str → Option Value} {s1 s2 s3 I : Addr × Obj} {X X' : Led} {P : Addr → Led → Prop} {s : Shared} {tk' : Nat} (F : Fr g L h' m) (N : News g L h' (s1 :: s2 :: s3 :: I :: X')) (hs : ∀ p ∈ X, p ∈ X') (ho : OffI s1.1 s2.1 s3.1 I.1 X') (hP : P a X') : JoinQ g L m s1 s2 s3 I X P s (.ref a) { s with heap := h', toks := tk' } := ⟨a, h', tk', X', rfl, rfl, F, N, hs, ho, hP⟩
theorem join_at {prog : Program} {w : World} {A : Around} {E : Value → Shared → Prop} {s : Shared} {g : Heap} {L : Addr} {m : Str → Option Value} {s1 s2 s3 I : Addr × Obj} {X : Led} {t : Sem Value} {Q : Value → Shared → Prop} (_F : Fr g L s.heap m) (_N : News g L s.heap (s1 :: s2 :: s3 :: I :: X)) (_ho : OffI s1.1 s2.1 s3.1 I.1 X) (P : Addr → Led → Prop) (h1 : wpAny (model prog w) A t (JoinQ g L m s1 s2 s3 I X P s) E s)
    (h2 : ∀ a h' tk' X', Fr g L h' m → News g L h' (s1 :: s2 :: s3 :: I :: X') → (∀ p ∈ X, p ∈ X') → OffI s1.1 s2.1 s3.1 I.1 X' → P a X' → Q (.ref a) { s with heap := h', toks := tk' }) : wpAny (model prog w) A t Q E s := by
  refine wpAny_mono h1 (fun v s' hj => ?_) fun _ _ z => z
  obtain ⟨a, h', tk', X', e1, e2, F, N, hs, ho, hP⟩ := hj
  subst e1 e2
  exact h2 a h' tk' X' F N hs ho hP
def PlIs (pos : Bool) (pl : Addr) (X : Led) : Prop := if pos = true then ∃ (nn vt : Addr) (t1 t2 : Tok), IsLst X pl [.ref nn] ∧ Inst X nn 578 [(Str.ofString "value", .ref vt)] ∧ IsTp X vt [.int 1 t1, .int 1 t2] else IsLst X pl []
def DueIs (td : TestD) (pos : Bool) (du : Addr) (X : Led) : Prop := ∃ t t', IsTp X du [.int (priP td pos).1 t, .int (priP td pos).2 t']
theorem rulesJ_k {sl rl tl : Addr} {i : Nat} {G : (Str → Option Value) → Led → Prop} (H : ∀ (u : Str → Option Value) (a b : Int) (ta tb : Tok) (n : Nat) (vs ts : List Value) (nv nt : Nat) (ds : List RuleD) (X : Led), SrcOk a b → OffS sl rl tl X → RulesSt X vs ts ds → ds.length = i →
    G (withL [(Str.ofString "source", .ref sl), (Str.ofString "rules", .ref rl), (Str.ofString "told", .ref tl)] u) ((sl, listOf #[.int a ta, .int b tb] n) :: (rl, listOf vs.toArray nv) :: (tl, listOf ts.toArray nt) :: X)) : ∀ m nw, RulesJ sl rl tl i m nw → G m nw := by
  rintro m nw ⟨u, a, b, ta, tb, n, vs, ts, nv, nt, ds, X, rfl, rfl, h1, h2, h3, h4⟩
  exact H u a b ta tb n vs ts nv nt ds X h1 h2 h3 h4
local macro_rules | `(tactic| walk_at "eval IfExp") => `(tactic| (k_here; (with_reducible show wpAny _ _ (eval (PySem.Expr.IfExp (PySem.Expr.Name _ _) _ _ _) _) _ _ _); refine Stop.mk ?_))
theorem law_rules_con (w : World) (sl : Addr) (a b : Int) (ta tb : Tok) (n : Nat) (ro : Led) (ha : 0 ≤ a) (hb : 0 ≤ b) (hb2 : b < 2147483647) :
    ConF w 659 [.ref sl] ro [(sl, listOf #[.int a ta, .int b tb] n)] 20 400 (fun r n' => ∃ (tp rl tl : Addr) (k : Nat) (vs ts : List Value) (nv nt : Nat) (ds : List RuleD), r = .ref tp ∧ (tp, ({ cls := .type "tuple", data := .seq #[.ref rl, .ref tl] k } : Obj)) ∈ n' ∧ (rl, listOf vs.toArray nv) ∈ n' ∧ (tl, listOf ts.toArray nt) ∈ n' ∧ RulesSt n' vs ts ds ∧ 1 ≤ ds.length ∧ ds.length ≤ 7) := by
  refine con_ofF [(Str.ofString "source", .ref sl)] [(Str.ofString "source", .ref sl)] (by k_is) (by k_is) rfl rfl (locs rfl) (by decide) rfl rfl rfl ?_
  intro prog mean mg mb dp un gd outer A₀ base g L s Q B F X N T hro hlt hd hu hret
  k_steps
  rename_i rl _ lr tl _ lt D _ lD _ _ h1 F1 N1
  refine Stop.out ?_
  refine For_invV g rfl rfl ?_ (by intro _; rfl) PassesOwn.never
  k_steps
  refine Stop.out ?_
  have N2 := cb_drop (news := (sl, listOf #[.int a ta, .int b tb] n) :: (rl, listOf #[] 0) :: (tl, listOf #[] 0) :: []) N1 (by k_allIn)
  (try k_fold); refine con_callZ (law_take_con w sl a b ta tb _ n 7 ro _ (by decide) (by decide) ha hb hb2 (List.forall_mem_cons.mpr ⟨Nat.ne_of_gt lr, List.forall_mem_cons.mpr ⟨Nat.ne_of_gt lt.2, List.forall_mem_nil _⟩⟩)) (by k_asm) (by k_asm) (by k_asm) N2 (by assumption) (by assumption) rfl (by walk_at "own r") (by walk_at "own r") ?_
  intro h5 tk5
  refine kx7_rppnppp ?_
  intro d td a' b' ta' tb' n2 hd0 hd1 ha' hb' hb2' F5 N5
  k_steps
  refine Stop.out ?_
  rename Fr _ _ _ _ => F6
  refine ob1_1 (show ∃ nn : Nat, (1 : Int) + d = (nn : Int) from ⟨(1 + d).toNat, by omega⟩) ?_
  intro nn hnn
  have hn1 : 1 ≤ nn ∧ nn ≤ 7 := by omega
  rw [hnn]
  refine range_loop (RulesJ sl rl tl) rfl (by omega) F6 N5 ?_ ?_ ?_
  · exact ⟨_, a', b', ta', tb', n2, [], [], 0, 0, [], [], withL_selfR rfl, rfl, ⟨ha', hb', hb2'⟩, List.forall_mem_nil _, ⟨⟨rfl, fun i rd h => by simp at h⟩, ⟨rfl, fun i rd h => by simp at h⟩, fun i rd h => by simp at h, fun rd h => by cases h⟩, rfl⟩
  · intro i ti m₁ nw h tk I oI hi
    revert m₁ nw
    refine rulesJ_k ?_
    intro u a2 b2 ta2 tb2 n3 vs ts nv nt ds X2 ⟨hs1, hs2, hs3⟩ hoff hst hlen F7 N7 hI
    dsimp only at F7
    k_steps
    refine Stop.out ?_
    (try k_fold); refine con_callZ (law_tests_con w ro _) (by k_asm) (by k_asm) (by k_asm) (by k_asm) (by assumption) (by assumption) rfl (by walk_at "own r") (by walk_at "own r") ?_
    intro h8 tk8
    refine kx4_rnpppp ?_
    intro n1 l8 vs8 k8 hm8 hl8 ht8 hf8 F8 N8
    have N9 := cb_drop N8 perm4
    have hoff3 := offI_new hoff hI hf8
    have hIs : @Ne Nat I sl := fun e => hI _ (.head _) e.symm
    have hIr : @Ne Nat I rl := fun e => hI _ (.tail _ (.head _)) e.symm
    have hIt : @Ne Nat I tl := fun e => hI _ (.tail _ (.tail _ (.head _))) e.symm
    refine exq (n1 ++ X2) ?_
    intro X3 hX3
    rw [← hX3] at N9 hoff3
    have hst3 := rules_mono (X' := X3) (fun p hp => hX3 ▸ List.mem_append_right _ hp) hst
    have hn3 : ∀ p ∈ n1, p ∈ X3 := fun p hp => hX3 ▸ List.mem_append_left _ hp
    k_steps
    refine Stop.out ?_
    (try k_fold); refine con_callZ (law_one_con w sl l8 a2 b2 ta2 tb2 n3 k8 vs8 ro _ (by omega) (by omega) hs1 hs2 hs3 (offsl lr lt.2 hIs hoff3) (.tail _ (.tail _ (.tail _ (hn3 _ hm8))))) (by k_asm) (by k_asm) (by k_asm) N9 (by assumption) (by assumption) rfl (by walk_at "own r") (by walk_at "own r") ?_
    intro h9 tk9
    refine kx6_qnppp ?_
    intro v9 i9 a3 b3 ta3 tb3 n4 hv9 hs1' hs2' hs3' F9 N10
    have htp := ht8 v9 (List.mem_of_getElem? hv9)
    clear hv9
    revert v9
    refine obv6_vpppp ?_
    intro pa tst ra td u1 u2 hpa htst htok hra
    have htst' := test_mono hn3 htst
    have hra' := tp_mono hn3 hra
    obtain ⟨kpa, hpa'⟩ := hpa
    have hpa3 := hn3 _ hpa'
    clear hm8 ht8 hf8 F8 N8 N9 hI hoff hst N7 hn3 hX3
    k_steps
    refine assign_led (vs := [.ref tst, .ref ra]) F9 N10 (.tail _ (.tail _ (.tail _ (.tail _ hpa3)))) rfl rfl rfl ?_
    intro h10 F10 N11
    k_steps
    refine Stop.out ?_
    rename_i l11 h11 F11 N12 l1
    refine ob1_4 (absorb (A := [_]) N12 hoff3 (List.forall_mem_cons.mpr ⟨fr4 l1, List.forall_mem_nil _⟩)) ?_
    intro X4 up4 in4 hoff4 N13
    (try k_fold); refine con_callZ (law_one_con w sl l11 a3 b3 ta3 tb3 n4 _ [_, _, _] ro _ (by simp) (by simp) hs1' hs2' hs3' (offsl lr lt.2 hIs hoff4) (.tail _ (.tail _ (.tail _ (in4 _ (.head _)))))) (by k_asm) (by k_asm) (by k_asm) N13 (by assumption) (by assumption) rfl (by walk_at "own r") (by walk_at "own r") ?_
    intro h12 tk12
    refine kx6_qnppp ?_
    intro v12 i12 a4 b4 ta4 tb4 n5 hv12 q1 q2 q3 F12 N14
    have hat : ∃ (at' : Bool) (t : Tok), v12 = .str (axS at') t := by
      rcases i12 with _ | _ | _ | i12
      · exact ⟨false, _, (Option.some.inj hv12).symm⟩
      · exact ⟨false, _, (Option.some.inj hv12).symm⟩
      · exact ⟨true, _, (Option.some.inj hv12).symm⟩
      · simp at hv12
    clear hv12
    revert v12
    refine obv2_v ?_
    intro at' tat
    clear N13 F11 N12
    k_steps
    refine Stop.out ?_
    (try k_fold); refine con_callZ (law_take_con w sl a4 b4 ta4 tb4 _ n5 5 ro _ (by decide) (by decide) q1 q2 q3 (offsl lr lt.2 hIs hoff4)) (by k_asm) (by k_asm) (by k_asm) N14 (by assumption) (by assumption) rfl (by walk_at "own r") (by walk_at "own r") ?_
    intro h13 tk13
    refine kx7_rppnppp ?_
    intro d13 td13 a5 b5 ta5 tb5 n6 hd2 hd3 q4 q5 q6 F13 N15
    clear F12 N14
    refine ob5_1 (pri_K w).1 ?_
    intro od31 n31 sl31 v1 v2 hK31
    refine exq (d13 == 0) ?_
    intro pos hpos'
    have hpos : (d13 == 0) = pos := hpos'.symm
    clear hpos'
    k_steps
    refine Stop.out ?_
    rename_i D14 _ lD14 _ _ h14 F14 N14x
    obtain ⟨X4a, up4a, in4a, hoff4a, N14b⟩ := absorb (A := [_]) N14x hoff4 (List.forall_mem_cons.mpr ⟨fr4 lD14, List.forall_mem_nil _⟩)
    (try clear N14x); (try clear in4a)
    try k_fold
    refine join_at F14 N14b hoff4a (PlIs pos) ?_ ?_
    · cases pos
      · refine IfExp_ ?_
        k_steps
        rename_i pl h16 F16 N16 l16
        refine ob1_4 (absorb (A := [_]) N16 hoff4a (List.forall_mem_cons.mpr ⟨fr4 l16, List.forall_mem_nil _⟩)) ?_
        intro X5 up5 in5 hoff5 N17
        exact JoinQ.intro (by k_asm) N17 up5 hoff5 (by unfold PlIs; rw [if_neg Bool.false_ne_true]; exact ⟨_, in5 _ (.head _)⟩)
      · refine IfExp_ ?_
        k_steps
        refine Stop.out ?_
        rename_i D15 h15 F15 N15a l15
        try k_fold
        refine con_callZ (mk_number_con w _ ro _) (by k_asm) (by k_asm) (by k_asm) N15a (by assumption) (by assumption) rfl (by walk_at "own r") (by walk_at "own r") ?_
        intro h15c tk15c
        refine kx4_rnpppp ?_
        intro xn dxn esn zn fn xx0 ln den F15c N15c
        clear xx0 N15a F15
        k_steps
        rename_i pl h16 F16 N16 l16
        have f4 := fa4 (fun p hp => fn p (.tail _ hp))
        refine ob1_4 (absorb (A := [_, _, _, _]) N16 hoff4a (List.forall_mem_cons.mpr ⟨fr4 l16.2.2.2, List.forall_mem_cons.mpr ⟨fx4 f4 ln, List.forall_mem_cons.mpr ⟨f4, List.forall_mem_cons.mpr ⟨fr4 l15, List.forall_mem_nil _⟩⟩⟩⟩)) ?_
        intro X5 up5 in5 hoff5 N17
        exact JoinQ.intro (by k_asm) N17 up5 hoff5 (by unfold PlIs; rw [if_pos rfl]; exact ⟨xn, D15, _, _, ⟨_, in5 _ (.head _)⟩, ⟨dxn, esn, zn, in5 _ (.tail _ (.head _)), in5 _ (.tail _ (.tail _ (.head _))), den.get⟩, ⟨_, in5 _ (.tail _ (.tail _ (.tail _ (.head _))))⟩⟩)
    intro pl h16 tk16 X5 F16 N17 up5' hoff5 hpl5
    have up5 : ∀ p ∈ X4, p ∈ X5 := fun p hp => up5' p (up4a p hp)
    clear F14 N14b hoff4a up5' up4a hpos
    k_steps
    refine Stop.out ?_
    try k_fold
    refine con_callZ (mk_step_con w _ _ _ ro _) (by k_asm) (by k_asm) (by k_asm) N17 (by assumption) (by assumption) rfl (by walk_at "own r") (by walk_at "own r") ?_
    intro h18 tk18
    refine kx4_rnpppp ?_
    intro st dst est zst fst' xx0 lst' dest F18 N18
    have g4 := fa4 fst'
    refine ob1_4 (absorb (A := [_, _]) N18 hoff5 (List.forall_mem_cons.mpr ⟨fx4 g4 lst', List.forall_mem_cons.mpr ⟨g4, List.forall_mem_nil _⟩⟩)) ?_
    intro X6 up6 in6 hoff6 N19
    have ist : Inst X6 st 606 [(Str.ofString "axis", .str (axS at') tat), (Str.ofString "test", .ref tst), (Str.ofString "predicates", .ref pl)] := ⟨dst, est, zst, in6 _ (.head _), in6 _ (.tail _ (.head _)), dest.get⟩
    clear N17 F16 N18 fst' lst' dest in6 hoff5 g4 xx0
    k_steps
    refine Stop.out ?_
    try k_fold
    refine con_callZ (mk_part_con w _ _ ro _) (by k_asm) (by k_asm) (by k_asm) N19 (by assumption) (by assumption) rfl (by walk_at "own r") (by walk_at "own r") ?_
    intro h20 tk20
    refine kx4_rnpppp ?_
    intro part dpa epa zpa fpa xx0 lpa depa F20 N20
    have g4 := fa4 fpa
    refine ob1_4 (absorb (A := [_, _]) N20 hoff6 (List.forall_mem_cons.mpr ⟨fx4 g4 lpa, List.forall_mem_cons.mpr ⟨g4, List.forall_mem_nil _⟩⟩)) ?_
    intro X7 up7 in7 hoff7 N21
    have ipart : Inst X7 part 204 [(Str.ofString "step", .ref st), (Str.ofString "is_deep", .bool false)] := ⟨dpa, epa, zpa, in7 _ (.head _), in7 _ (.tail _ (.head _)), depa.get⟩
    clear N19 F18 N20 fpa lpa depa in7 hoff6 g4 xx0
    k_steps
    refine Stop.out ?_
    rename_i pts _ lpts h22 F22 N22
    refine ob1_4 (absorb (A := [_]) N22 hoff7 (List.forall_mem_cons.mpr ⟨fr4 lpts, List.forall_mem_nil _⟩)) ?_
    intro X8a up8a in8 hoff8a N23a
    have hpts8 : IsLst X8a pts [.ref part] := ⟨_, in8 _ (.head _)⟩
    clear N22 in8 lpts hoff7; (try clear N21)
    try k_fold
    refine join_at F22 N23a hoff8a (DueIs td pos) ?_ ?_
    · cases pos
      · refine IfExp_ ?_
        k_steps
        exact JoinQ.intro (by k_asm) N23a sub0 hoff8a ⟨_, _, tp_mono up8a (tp_mono up7 (tp_mono up6 (tp_mono up5 (tp_mono up4 hra'))))⟩
      · refine IfExp_ ?_
        k_steps
        rename_i du h23 F23 N23 ldu
        refine ob1_4 (absorb (A := [_]) N23 hoff8a (List.forall_mem_cons.mpr ⟨fr4 ldu, List.forall_mem_nil _⟩)) ?_
        intro X8 up8 in8 hoff8 N24
        exact JoinQ.intro (by k_asm) N24 up8 hoff8 ⟨_, _, _, in8 _ (.head _)⟩
    intro du h22 tk22 X8 F22' N23 up8b hoff8 hdu
    have up8 : ∀ p ∈ X7, p ∈ X8 := fun p hp => up8b p (up8a p hp)
    have hpts := lst_mono up8b hpts8
    clear F22 N23a hoff8a up8b up8a hpts8 hra hpa'
    refine ob5_1 (pri_at w td pos) ?_
    intro od nK slK v3 v4 hK
    k_steps
    refine Stop.out ?_
    rename News _ _ _ _ => N23
    rename Fr _ _ _ _ => F22
    have hti5 := test_mono up5 (test_mono up4 htst')
    have hs8 := step_mono up8 (step_mono up7 ⟨tat, tst, pl, ist, test_mono up6 hti5, pl_mono up6 hpl5⟩)
    have ipart8 := inst_mono up8 ipart
    have up3 : ∀ (s1 s2 s3 s4 : Addr × Obj), ∀ p ∈ X8, p ∈ s1 :: s2 :: s3 :: s4 :: X8 := fun _ _ _ _ p hp => .tail _ (.tail _ (.tail _ (.tail _ hp)))
    (try k_fold); refine con_callZ (con_read (ro := ro) (priority_conN w pts part st at' _ td ((sl, _) :: (rl, _) :: (tl, _) :: (I, _) :: X8) [] (lst_mono (up3 _ _ _ _) hpts) (inst_mono (up3 _ _ _ _) ipart8) (step_mono (up3 _ _ _ _) hs8))) (by k_asm) (by k_asm) (by k_asm) N23 (by assumption) (by assumption) rfl (by walk_at "own r") (by walk_at "own r") ?_
    intro h24 tk24
    refine kx_read (kx0_nr ?_)
    intro F24 N24
    generalize priAddr td _ = pA at hK ⊢
    refine ob3_1 hdu ?_
    clear hdu
    intro tdu tdu' kdu hdum
    have hdum3 := up3 (sl, W.listOf #[Value.int a5 ta5, Value.int b5 tb5] n6) (rl, W.listOf vs.toArray nv) (tl, W.listOf ts.toArray nt) (I, oI) _ hdum
    dsimp only [List.nil_append] at N24
    clear F22 N23
    k_steps
    refine Stop.out ?_
    (try k_fold); refine con_callZ (con_read (ro := ro) (priority_conR w pts part st at' _ td _ ((sl, _) :: (rl, _) :: (tl, _) :: (I, _) :: X8) [] (lst_mono (up3 _ _ _ _) hpts) (inst_mono (up3 _ _ _ _) ipart8) (step_mono (up3 _ _ _ _) hs8))) (by k_asm) (by k_asm) (by k_asm) N24 (by assumption) (by assumption) rfl (by walk_at "own r") (by walk_at "own r") ?_
    intro h25 tk25
    refine kx_read (kx0_nr ?_)
    intro F25 N25
    dsimp only [List.nil_append] at N25
    clear F24 N24
    k_steps
    refine Stop.out ?_
    rename_i Da _ la Db _ lb Dc _ lc Dd _ ld De _ le ll h26 F26 N26 l26
    refine ob1_4 (absorb (A := [_, _, _, _, _, _]) N26 hoff8 (List.forall_mem_cons.mpr ⟨fr4 l26.2.2.2.2.2, List.forall_mem_cons.mpr ⟨fr4 le.2.2.2.2, List.forall_mem_cons.mpr ⟨fr4 ld.2.2.2, List.forall_mem_cons.mpr ⟨fr4 lc.2.2, List.forall_mem_cons.mpr ⟨fr4 lb.2, List.forall_mem_cons.mpr ⟨fr4 la, List.forall_mem_nil _⟩⟩⟩⟩⟩⟩)) ?_
    intro X9 up9 in9 hoff9 N27
    (try k_fold); refine con_callZ (law_one_con w sl ll a5 b5 ta5 tb5 n6 _ [_, _, _, _, _, _] ro _ (by simp) (by simp) q4 q5 q6 (offsl lr lt.2 hIs hoff9) (.tail _ (.tail _ (.tail _ (in9 _ (.head _)))))) (by k_asm) (by k_asm) (by k_asm) N27 (by assumption) (by assumption) rfl (by walk_at "own r") (by walk_at "own r") ?_
    intro h27 tk27
    refine kx6_qnppp ?_
    intro v27 i27 a6 b6 ta6 tb6 n7 hv27 q7 q8 q9 F27 N28
    have hpv : ∃ (pr : Addr) (p0 p1 : Int) (t0 t1 : Tok), v27 = .ref pr ∧ IsTp X9 pr [.int p0 t0, .int p1 t1] ∧ -9 ≤ p0 ∧ p0 ≤ 9 ∧ 1 ≤ p1 ∧ p1 ≤ 9 := by
      rcases i27 with _ | _ | _ | _ | _ | _ | i
      · exact ⟨du, _, _, _, _, (Option.some.inj hv27).symm, ⟨_, up9 _ hdum⟩, priP_ok td _⟩
      · exact ⟨du, _, _, _, _, (Option.some.inj hv27).symm, ⟨_, up9 _ hdum⟩, priP_ok td _⟩
      · exact ⟨Db, _, _, _, _, (Option.some.inj hv27).symm, ⟨_, in9 _ (.tail _ (.tail _ (.tail _ (.tail _ (.head _)))))⟩, by decide⟩
      · exact ⟨Dc, _, _, _, _, (Option.some.inj hv27).symm, ⟨_, in9 _ (.tail _ (.tail _ (.tail _ (.head _))))⟩, by decide⟩
      · exact ⟨Dd, _, _, _, _, (Option.some.inj hv27).symm, ⟨_, in9 _ (.tail _ (.tail _ (.head _)))⟩, by decide⟩
      · exact ⟨De, _, _, _, _, (Option.some.inj hv27).symm, ⟨_, in9 _ (.tail _ (.head _))⟩, by decide⟩
      · simp at hv27
    clear hv27
    revert v27
    refine obv5_vpp ?_
    intro pr p0 p1 tp0 tp1 hpr hprok
    clear la lb lc ld le l26 N26 N27 F26 in9
    k_steps
    refine Stop.out ?_
    rename_i Df _ lf lm h28 F28 N29 l28
    refine ob1_4 (absorb (A := [_, _]) N29 hoff9 (List.forall_mem_cons.mpr ⟨fr4 l28.2, List.forall_mem_cons.mpr ⟨fr4 lf, List.forall_mem_nil _⟩⟩)) ?_
    intro X10 up10 in10 hoff10 N30
    (try k_fold); refine con_callZ (law_one_con w sl lm a6 b6 ta6 tb6 n7 _ [_, _, _] ro _ (by simp) (by simp) q7 q8 q9 (offsl lr lt.2 hIs hoff10) (.tail _ (.tail _ (.tail _ (in10 _ (.head _)))))) (by k_asm) (by k_asm) (by k_asm) N30 (by assumption) (by assumption) rfl (by walk_at "own r") (by walk_at "own r") ?_
    intro h31 tk31
    refine kx6_qnppp ?_
    intro v31 i31 a7 b7 ta7 tb7 n8 hv31 q10 q11 q12 F31 N31
    have hmv : ∃ md : Bool, ModeIs X10 v31 md ∧ handedIn v31 = true := by
      rcases i31 with _ | _ | _ | i
      · exact ⟨false, (Option.some.inj hv31).symm, by rw [← Option.some.inj hv31]; rfl⟩
      · exact ⟨false, (Option.some.inj hv31).symm, by rw [← Option.some.inj hv31]; rfl⟩
      · exact ⟨true, ⟨Df, _, _, (Option.some.inj hv31).symm, ⟨_, in10 _ (.tail _ (.head _))⟩⟩, by rw [← Option.some.inj hv31]; rfl⟩
      · simp at hv31
    refine ob1_2 hmv ?_
    clear hmv
    intro md hmd hmh
    clear hv31 lf l28 N29 N30 F28 in10
    k_steps
    refine Stop.out ?_
    (try k_fold); refine con_callZ (mk_pattern_con w _ _ _ ro _) (by k_asm) (by k_asm) (by k_asm) (by k_asm) (by assumption) (by assumption) rfl (by walk_at "own r") (by walk_at "own r") ?_
    intro h32 tk32
    refine kx4_rnpppp ?_
    intro pt dpt ept zpt fpt xx0 lpt dept F32 N32
    clear xx0
    have g4 := fa4 fpt
    refine ob1_4 (absorb (A := [_, _]) N32 hoff10 (List.forall_mem_cons.mpr ⟨fx4 g4 lpt, List.forall_mem_cons.mpr ⟨g4, List.forall_mem_nil _⟩⟩)) ?_
    intro X11 up11 in11 hoff11 N33
    have ipt : Inst X11 pt 225 [(Str.ofString "start", .none), (Str.ofString "parts", .ref pts), (Str.ofString "priority", .ref du)] := ⟨dpt, ept, zpt, in11 _ (.head _), in11 _ (.tail _ (.head _)), dept.get⟩
    clear N32 fpt lpt dept g4 in11
    k_steps
    refine Stop.out ?_
    rename_i lbd h34 F34 N34 l34
    refine ob1_4 (absorb (A := [_]) N34 hoff11 (List.forall_mem_cons.mpr ⟨fr4 l34, List.forall_mem_nil _⟩)) ?_
    intro X12 up12 in12 hoff12 N35
    (try k_fold); refine con_callZ (mk_rule_con w _ _ _ _ _ _ ro _) (by k_asm) (by k_asm) (by k_asm) N35 (by assumption) (by assumption) rfl (by walk_at "own r") (by walk_at "own r") ?_
    intro h36 tk36
    refine kx4_rnpppp ?_
    intro rr drr err zrr frr xx0 lrr derr F36 N36
    clear xx0
    have g4 := fa4 frr
    refine ob1_4 (absorb (A := [_, _]) N36 hoff12 (List.forall_mem_cons.mpr ⟨fx4 g4 lrr, List.forall_mem_cons.mpr ⟨g4, List.forall_mem_nil _⟩⟩)) ?_
    intro X13 up13 in13 hoff13 N37
    have irr : Inst X13 rr 295 [(Str.ofString "pattern", .ref pt), (Str.ofString "mode", v31), (Str.ofString "priority", .ref pr), (Str.ofString "place", .int (i : Int) ti), (Str.ofString "element", .int (i : Int) ti), (Str.ofString "body", .ref lbd)] := ⟨drr, err, zrr, in13 _ (.head _), in13 _ (.tail _ (.head _)), derr.get⟩
    clear N34 N35 N36 F34 frr lrr derr g4 in12 in13 l34
    k_steps
    refine Stop.out ?_
    refine append_mid (A := [_]) (by k_asm) N37 (by rw [hst3.rules.1]; omega) (List.forall_mem_cons.mpr ⟨Nat.ne_of_lt lr, List.forall_mem_nil _⟩) (List.forall_mem_cons.mpr ⟨Nat.ne_of_gt lt.1, List.forall_mem_cons.mpr ⟨hIr, fun p hp => (hoff13 p hp).2.1⟩⟩) ?_
    intro h38 F38 N38
    dsimp only [List.cons_append, List.nil_append] at N38
    clear N37
    k_steps
    refine Stop.out ?_
    rename_i Dt ht Ft Nt lt9
    refine ob1_4 (absorb (A := [_]) Nt hoff13 (List.forall_mem_cons.mpr ⟨fr4 lt9, List.forall_mem_nil _⟩)) ?_
    intro X14 up14 in14 hoff14 N39
    refine append_mid (A := [_, _]) (by k_asm) N39 (by rw [hst3.told.1]; omega) (List.forall_mem_cons.mpr ⟨Nat.ne_of_lt lt.2, List.forall_mem_cons.mpr ⟨Nat.ne_of_lt lt.1, List.forall_mem_nil _⟩⟩) (List.forall_mem_cons.mpr ⟨hIt, fun p hp => (hoff14 p hp).2.2.1⟩) ?_
    intro h40 F40 N40
    dsimp only [List.cons_append, List.nil_append] at N40
    clear Nt N39 Ft
    have u13 : ∀ p ∈ X12, p ∈ X14 := fun p hp => up14 p (up13 p hp)
    have u11 : ∀ p ∈ X10, p ∈ X14 := fun p hp => u13 p (up12 p (up11 p hp))
    have u9 : ∀ p ∈ X8, p ∈ X14 := fun p hp => u11 p (up10 p (up9 p hp))
    have u5 : ∀ p ∈ X5, p ∈ X14 := fun p hp => u9 p (up8 p (up7 p (up6 p hp)))
    have u3 : ∀ p ∈ X3, p ∈ X14 := fun p hp => u5 p (up5 p (up4 p hp))
    have hR := rules_snoc (rules_mono u3 hst3) (rd := ⟨at', td, _, md, p0, p1, (i : Int)⟩) (rr := rr) ⟨pt, pr, lbd, v31, ti, ti, tp0, tp1, inst_mono up14 irr, ⟨pts, du, part, st, inst_mono (fun p hp => u13 p (up12 p hp)) ipt, lst_mono u9 hpts, inst_mono u9 ipart8, step_mono u9 hs8⟩, mode_mono u11 hmd, hmh, tp_mono (fun p hp => u11 p (up10 p hp)) hpr⟩ (tu := Dt) ⟨_, in14 _ (.head _)⟩ (test_mono u5 hti5) htok (by rw [hlen]) hprok
    k_steps
    refine TurnV.intro (by k_asm) N40 (news' := _ :: _ :: _ :: X14) perm_end (List.forall_mem_cons.mpr ⟨Ne.symm hIs, List.forall_mem_cons.mpr ⟨Ne.symm hIr, List.forall_mem_cons.mpr ⟨Ne.symm hIt, fun p hp => (hoff14 p hp).2.2.2⟩⟩⟩)
      ⟨_, a7, b7, ta7, tb7, n8, _, _, _, _, _, X14, withL_selfR rfl, rfl, ⟨q10, q11, q12⟩, fun p hp => ⟨(hoff14 p hp).1, (hoff14 p hp).2.1, (hoff14 p hp).2.2.1⟩, hR, by simp [hlen]⟩
  · intro m₁ nw h tk
    revert m₁ nw
    refine rulesJ_k ?_
    intro u a2 b2 ta2 tb2 n3 vs ts nv nt ds X2 hsrc hoff hst hlen F7 N7
    k_steps
    rename News _ _ _ _ => Nq
    refine hret _ _ _ _ _ ⟨_, rl, tl, _, vs, ts, nv, nt, ds, rfl, .head _, by k_mem, by k_mem, rules_mono (fun p hp => .tail _ (.tail _ (.tail _ (.tail _ hp)))) hst, by omega, by omega⟩ (by k_asm) Nq

theorem ob3_4 {α1 α2 α3 : Type} {p1 : α1 → α2 → α3 → Prop} {p2 : α1 → α2 → α3 → Prop} {p3 : α1 → α2 → α3 → Prop} {p4 : α1 → α2 → α3 → Prop} {G : Prop} (h : ∃ x1 x2 x3, p1 x1 x2 x3 ∧ p2 x1 x2 x3 ∧ p3 x1 x2 x3 ∧ p4 x1 x2 x3) (H : ∀ x1 x2 x3, p1 x1 x2 x3 → p2 x1 x2 x3 → p3 x1 x2 x3 → p4 x1 x2 x3 → G) : G := by
  obtain ⟨x1, x2, x3, h1, h2, h3, h4⟩ := h; exact H x1 x2 x3 h1 h2 h3 h4
theorem ob4_1 {α1 α2 α3 α4 : Type} {p1 : α1 → α2 → α3 → α4 → Prop} {G : Prop} (h : ∃ x1 x2 x3 x4, p1 x1 x2 x3 x4) (H : ∀ x1 x2 x3 x4, p1 x1 x2 x3 x4 → G) : G := by
  obtain ⟨x1, x2, x3, x4, h1⟩ := h; exact H x1 x2 x3 x4 h1
local macro_rules | `(tactic| walk_at "call ref") => `(tactic| (with_reducible refine at_call 652 ?_; walk_at "own f"; k_dflt ((refine' con_callZ (law_fits_con _ _ _ _ _ _ _ _ _ _ ?kr ?kt ?ko ?kp ?kq) ?k1 ?k2 ?k3 ?k4 ?k5 ?k6 ?k8 ?k9 ?kA ?_); walk_at "own c"); walk_at "own nr"))
local macro_rules | `(tactic| walk_at "assign Tuple") => `(tactic| (k_here; k_dflt (refine' assign_tp ?k1 ?k2 ?k3 ?k4 ?k5 ?k6 ?k7 ?_; walk_at "own d"; (case k5 => rfl); (case k6 => rfl); (case k7 => rfl); k_whole); intro h' F' N'))
def FirstOk (w : World) (ro : Led) (fa tu : Addr) (k : Nat) (d : NodeD) : Prop := FnIn ro fa ∧ ∀ (t : Addr) (at' : Bool) (ta : Tok) (td : TestD), TestIn ro t td → td ∈ tests9 → ∀ nw : Led, Con w fa [.ref tu, .str (axS at') ta, .ref t] ro nw 6 200 (fun r n' => n' = nw ∧ r = .bool (isFirstF doc12 k d at' td))
theorem bestR_succ {hit : RuleD → Bool} {ds : List RuleD} {i : Nat} {rd : RuleD} (h : ds[i]? = some rd) : bestR hit (ds.take (i + 1)) = bestStep hit (bestR hit (ds.take i)) rd := by
  unfold bestR
  rw [List.take_add_one, h, List.foldl_append]; rfl
def BestIs (ro : Led) (bv : Value) : Option RuleD → Prop
  | none => bv = .none
  | some rd => ∃ a : Addr, bv = .ref a ∧ RuleIn ro a rd ∧ PrOk rd
local macro_rules | `(tactic| walk_at "eval IfExp") => `(tactic| ((with_reducible show wpAny _ _ (eval (PySem.Expr.IfExp (PySem.Expr.Compare _ _ _ _) _ _ _) _) _ _ _); refine' wait_pair ?hm ?_; (case hm => assumption)))
theorem law_best_con (w : World) (rl tl tu fa : Addr) (k : Nat) (d : NodeD) (md : Bool) (mv : Value) (vs ts : List Value) (ds : List RuleD) (ro news : Led) (hrl : IsLst ro rl vs) (htl : IsLst ro tl ts) (hst : RulesSt ro vs ts ds) (hd7 : ds.length ≤ 7) (hrow : RowTp ro tu (k : Int) d) (o1 : PyData.strOk d.uri = true) (o2 : PyData.strOk d.loc = true) (hm : ModeIs ro mv md) (hfo : FirstOk w ro fa tu k d) :
    Con w 666 [.ref rl, .ref tl, .ref tu, mv, .ref fa] ro news 8 300 (fun r n' => n' = news ∧ match bestR (lawHit doc12 k d md) ds with | none => r = .none | some rd => ∃ t, r = .int rd.place t) := by
  obtain ⟨hfa, hfi⟩ := hfo
  refine con_of [(Str.ofString "rules", .ref rl), (Str.ofString "told", .ref tl), (Str.ofString "row", .ref tu), (Str.ofString "mode", mv), (Str.ofString "is_first", .ref fa)] [(Str.ofString "is_first", .ref fa), (Str.ofString "mode", mv), (Str.ofString "row", .ref tu), (Str.ofString "told", .ref tl), (Str.ofString "rules", .ref rl)] (by k_is) (by k_is) rfl rfl (locs rfl) (by decide) rfl rfl rfl ?_
  intro prog mean mg mb dp un gd outer A₀ base g L s Q B F X N T hro hlt hd hu hret
  k_steps
  refine Stop.out ?_
  refine for_ro (fun i m₁ nw => nw = news ∧ ∃ (u : Str → Option Value) (bv : Value), m₁ = withL [(Str.ofString "told", .ref tl), (Str.ofString "row", .ref tu), (Str.ofString "mode", mv), (Str.ofString "is_first", .ref fa), (Str.ofString "best", bv)] u ∧ BestIs ro bv (bestR (lawHit doc12 k d md) (ds.take i))) rfl (hrl.at0 hro) (by k_asm) (by k_asm) ?_
    ⟨rfl, _, .none, withL_selfR rfl, rfl⟩ rfl rfl ?_ ?_ (by intro _; rfl)
  · intro Q' h; k_steps; exact h
  · intro i v m₁ news₁ h tk I oI hv
    revert m₁ news₁
    refine kxn2_rp ?_
    intro u bv hbest F₁ N₁ hI
    try k_fold
    have hi : i < ds.length := hst.rules.1 ▸ (List.getElem?_eq_some_iff.mp hv).1
    have hdi : ds[i]? = some ds[i] := by simp [hi]
    generalize ds[i] = rd at hdi
    refine ob1_2 (hst.rules.2 i rd hdi) ?_
    intro a hva hrin
    refine ob8_5 (hrin) ?_
    intro pt pr bd mvr u1 u2 u3 u4 ia hpt hmr hmh ipr
    obtain rfl : v = .ref a := by rw [hv] at hva; exact Option.some.inj hva
    refine ob3_4 (hst.told.2 i rd hdi) ?_
    intro tt t ta htt itt hti htd
    have hok := testOk_of htd
    have hpl := hst.place i rd hdi
    have hprok := hst.pr rd (List.mem_of_getElem? hdi)
    rw [hpl] at ia
    have hstep := bestR_succ (hit := lawHit doc12 k d md) hdi
    dsimp only at F₁ N₁
    have hw : PairsWait := trivial
    k_steps
    focus
      (try k_fold); refine con_callZ (hfi t rd.at' ta rd.td hti htd _) (by k_asm) (by k_asm) (by k_asm) (by k_asm) (by assumption) (by assumption) rfl (by walk_at "own r") (by walk_at "own r") ?_
      intro h5 tk5
      refine kx0_nr ?_
      intro F5 N5
      k_steps
    all_goals first
      | (refine Stop.out ?_
         clear hw
         have hh : lawHit doc12 k d md rd = true := by simp [lawHit, *]
         (try k_fold)
         cases hb : bestR (lawHit doc12 k d md) (ds.take i) with
         | none =>
           rw [hb] at hbest hstep
           obtain rfl : bv = .none := hbest
           k_steps
           all_goals refine TurnV.intro (by k_asm) (by k_asm) sub0 hI ⟨rfl, _, _, withL_selfR rfl, ?_⟩
           all_goals rw [hstep]
           all_goals (unfold bestStep; rw [if_pos hh]; exact ⟨a, rfl, hrin, hprok⟩)
         | some b =>
           rw [hb] at hbest hstep
           obtain ⟨ab, rfl, hbin, hpb⟩ := hbest
           refine ob8_5 (hbin) ?_
           intro ptb prb bdb mvb w1 w2 w3 w4 ib _ _ _ ipb
           have m1 : IntMulOk rd.p0 b.p1 := mul_pr hprok.1 hprok.2.1
           have m2 : IntMulOk b.p0 rd.p1 := mul_pr hpb.1 hpb.2.1
           k_steps
           all_goals refine TurnV.intro (by k_asm) (by k_asm) sub0 hI ⟨rfl, _, _, withL_selfR rfl, ?_⟩
           all_goals rw [hstep]
           all_goals first
             | (unfold bestStep; rw [if_pos hh]; dsimp only; rw [if_pos (by assumption)]; exact ⟨a, rfl, hrin, hprok⟩)
             | (unfold bestStep; rw [if_pos hh]; dsimp only; rw [if_neg (by assumption)]; exact ⟨ab, rfl, hbin, hpb⟩))
      | (refine TurnV.intro (by k_asm) (by k_asm) sub0 hI ⟨rfl, _, _, withL_selfR rfl, ?_⟩
         rw [hstep]
         have hh : lawHit doc12 k d md rd = false := by simp [lawHit, *]
         unfold bestStep
         rw [if_neg (by rw [hh]; exact Bool.false_ne_true)]
         exact hbest)
  · intro m₁ news₁ h tk
    revert m₁ news₁
    refine kxn2_rp ?_
    intro u bv hbest F₁ N₁
    try k_fold
    rw [hst.rules.1, List.take_length] at hbest
    dsimp only at F₁ N₁
    cases hb : bestR (lawHit doc12 k d md) ds with
    | none =>
      rw [hb] at hbest
      obtain rfl : bv = .none := hbest
      k_steps
      all_goals dsimp only
      all_goals exact hret _ _ _ _ _ ⟨rfl, by rw [hb]⟩ (by k_asm) (by k_asm)
    | some b =>
      rw [hb] at hbest
      obtain ⟨ab, rfl, ⟨ptb, prb, bdb, mvb, w1, w2, w3, w4, ib, -, -, -, ipb⟩, hpb⟩ := hbest
      k_steps
      all_goals dsimp only
      all_goals exact hret _ _ _ _ _ ⟨rfl, by rw [hb]; exact ⟨_, rfl⟩⟩ (by k_asm) (by k_asm)

theorem nameX_FR {M : Model} {A : Around} {E : Value → Shared → Prop} {s : Shared} {h₀ : Heap} {L a c : Addr} {m : Str → Option Value} {cn x : Str} {cs : Scope} {ccd v : Value} {cl : List (Str × Addr)} {pos : Pos} {Q : Value → Shared → Prop} {ro : Led} {o : Obj} (F : Fr h₀ L s.heap m) (hro : ROn ro h₀) (hc : cl.lookup x = some c) (hm : (c, o) ∈ ro) (hd : o.data = .cell (some v)) (h : Q v s)
    (hk : cs.kind = .function) (hx : (envX cn cs L a ccd cl).kindOf x = some .free) (hb : (x == ("__debug__" : Str)) = false) (hn : (x == ("__classdict__" : Str)) = false) :
    wpAny M A (eval (.Name x pos) (envX cn cs L a ccd cl)) Q E s := wpAny_Name (wpAny_loadName_free hk hx hc ⟨o, F.keep _ _ (hro _ hm), hd⟩ h hn) hb
local macro_rules | `(tactic| walk_at "eval Name") => `(tactic| (k_here; (with_reducible show wpAny _ _ (eval (Expr.Name _ _) (envX _ _ _ _ _ (_ :: _))) _ _ _); k_dflt (refine' nameX_FR ?F ?X ?c ?m ?d ?_ ?k ?x ?b ?n; (case k => rfl); (case x => rfl); (case F => k_asm); (case X => assumption); (case c => rfl); (case m => assumption); (case d => assumption); (case b => decide); (case n => decide); k_whole)))
theorem con_nest {w : World} {f c' : Addr} {vs : List Value} {ro news : Led} {D U : Nat} {R : Value → Led → Prop} {name qual : Str} {params : Arguments} {body : List Stmt} {scope : Scope} {cl : List (Str × Addr)} {doc pm ctv : Value} {oc : Obj} {vs0 : Array Value} {t : Tok} (binds lb : List (Str × Value))
    (ho : (f, fnMade name qual params body scope cl doc pm c' ctv) ∈ ro) (hoc : (c', oc) ∈ ro) (hcd : oc.data = .fields vs0) (hcv : vs0[1]? = some (.str qual t))
    (hbind : bindArgs (fnX name qual params body scope cl .none .none doc pm none (.ref c') ctv) ⟨vs, []⟩ = pure binds) (hlb : binds.reverse = lb) (hloc : ∀ y ∈ binds, scope.names.lookup y.1 = some .local)
    (hcell : ∀ x ∈ scope.names, x.2 ≠ .cell) (hco : scope.isCoroutine = false) (hgen : scope.isGenerator = false) (hk : scope.kind = .function)
    (h : ∀ (prog : Program) (mean : ExcName → Option Value) (mg mb : Str → Option Value) (dp un : Nat) (gd : Option (List Code)) (outer : List Env) (A₀ : Around) (base g : Heap) (L : Addr) (s : Shared) (Q : Value → Shared → Prop),
      Below A₀ base outer g → Fr g L s.heap (fun y => lb.lookup y) → (hd.heap_1 w.params).In g → News g L s.heap news → TopH mean mg mb g → ROn ro g → (∀ p ∈ news, p.1 < L) → dp + D < recursionLimit → un + U < cLine →
      (∀ r news' h' tk' m', R r news' → Fr g L h' m' → News g L h' news' → Q r { s with heap := h', toks := tk' }) →
      wpAny (model prog w) (ktrTop dp un gd qual scope L f (.ref c') cl outer) (execs body (envX qual scope L f (.ref c') cl)) (fun fl s' => Q (match fl with | .ret v => v | _ => .none) s') (fun _ _ => False) s) :
    Con w f vs ro news (D + 1) (U + 3) R := by
  intro prog mean mg mb dp un gd cn cs a ccd cl₁ outer A₀ base h₀ L m s RR B F X N T hke hro hd hu hret
  obtain ⟨FG, BG, st, lv⟩ := groundX (R := RR) (A := ktrTop dp un gd cn cs L a ccd cl₁ outer) (env := envX cn cs L a ccd cl₁) B F N rfl rfl hke
  refine codeAny_call_def (fd := fnX name qual params body scope cl .none .none doc pm none (.ref c') ctv) (body := body) (binds := binds) (by show dp < _; omega) (hro _ ho).1 rfl (T.nolimit.keeps F.keep) ⟨c', oc, vs0, t, rfl, (hro _ hoc).1, hcd, hcv⟩ rfl (BindsTo.of_eq hbind) hcell hloc (fun h₁ hns hk₁ => ?_) hco hgen hk
  have rog : ROn ro (hideAll s.heap (news.map (·.1))) := fun p hp => hideAll_get _ (hro p hp).1 fun hm => by
    obtain ⟨q, hq, e⟩ := List.mem_map.mp hm
    exact (hro p hp).2 q hq e
  subst hlb
  refine wpAny_mono (h prog mean mg mb (dp + 1) (un + 3) gd (envX cn cs L a ccd cl₁ :: outer) _ base (hideAll s.heap (news.map (·.1))) s.heap.objs.size { s with heap := h₁, toks := s.toks + binds.length } (fun r s' => RR (.ok (.ret r)) s')
    BG ⟨hns, fun b o e => hk₁ b o (of_hideAll _ e), Nat.le_of_eq (hideAll_size _ _)⟩ (X.keeps fun b o e => st b o e)
    (fun p hp => ⟨hk₁ _ _ (N p hp).1, Nat.ne_of_lt (Heap.lt_size (N p hp).1), hideAll_none _ (List.mem_map_of_mem hp)⟩) (T.keeps fun b o e => st b o e) rog (fun p hp => Heap.lt_size (N p hp).1) (by omega) (by omega) ?_) (fun _ _ z => z) (fun _ _ z => z.elim)
  intro r news' h' tk' m' hR F' N'
  refine lv r _ ⟨_, m', news', F', N', fun F2 N2 => hret r news' h' tk' hR F2 N2 fun b o e hb => F'.keep _ _ (hideAll_get _ e fun hm => by
    obtain ⟨q, hq, eq⟩ := List.mem_map.mp hm
    exact hb q hq eq)⟩
theorem con_lam {w : World} {f c' : Addr} {vs : List Value} {ro news : Led} {D U : Nat} {R : Value → Led → Prop} {name qual : Str} {params : Arguments} {body : PySem.Expr} {scope : Scope} {cl : List (Str × Addr)} {pm ctv : Value} {oc : Obj} {vs0 : Array Value} {t : Tok} (binds lb : List (Str × Value))
    (ho : (f, kla_obj name qual params body scope cl pm c' ctv) ∈ ro) (hoc : (c', oc) ∈ ro) (hcd : oc.data = .fields vs0) (hcv : vs0[1]? = some (.str qual t))
    (hbind : bindArgs (kla_fn name qual params body scope cl pm (.ref c') ctv) ⟨vs, []⟩ = pure binds) (hlb : binds.reverse = lb) (hloc : ∀ y ∈ binds, scope.names.lookup y.1 = some .local)
    (hcell : ∀ x ∈ scope.names, x.2 ≠ .cell) (hco : scope.isCoroutine = false) (hgen : scope.isGenerator = false) (hk : scope.kind = .function)
    (h : ∀ (prog : Program) (mean : ExcName → Option Value) (mg mb : Str → Option Value) (dp un : Nat) (gd : Option (List Code)) (outer : List Env) (A₀ : Around) (base g : Heap) (L : Addr) (s : Shared) (Q : Value → Shared → Prop),
      Below A₀ base outer g → Fr g L s.heap (fun y => lb.lookup y) → (hd.heap_1 w.params).In g → News g L s.heap news → TopH mean mg mb g → ROn ro g → (∀ p ∈ news, p.1 < L) → dp + D < recursionLimit → un + U < cLine →
      (∀ r news' h' tk' m', R r news' → Fr g L h' m' → News g L h' news' → Q r { s with heap := h', toks := tk' }) →
      wpAny (model prog w) (ktrTop dp un gd qual scope L f (.ref c') cl outer) (eval body (envX qual scope L f (.ref c') cl)) Q (fun _ _ => False) s) :
    Con w f vs ro news (D + 1) (U + 3) R := by
  intro prog mean mg mb dp un gd cn cs a ccd cl₁ outer A₀ base h₀ L m s RR B F X N T hke hro hd hu hret
  obtain ⟨FG, BG, st, lv⟩ := groundX (R := RR) (A := ktrTop dp un gd cn cs L a ccd cl₁ outer) (env := envX cn cs L a ccd cl₁) B F N rfl rfl hke
  refine kla_callFunE (by show dp < _; omega) (hro _ ho).1 rfl hco hgen rfl ⟨c', oc, vs0, t, rfl, (hro _ hoc).1, hcd, hcv⟩ ?_
  rw [hbind]
  refine wpAny_pure (wpAny_newFunctionEnv hcell hloc (fun h₁ hns hsb => ⟨((T.nolimit).keeps F.keep).fresh _ hsb, ?_⟩) hk)
  have hk₁ : ∀ b o, s.heap.get? b = some o → h₁.get? b = some o := fun b o e => hsb.extBut b o (Nat.ne_of_lt (Heap.lt_size e)) (Heap.get?_push_of_some _ e)
  have rog : ROn ro (hideAll s.heap (news.map (·.1))) := fun p hp => hideAll_get _ (hro p hp).1 fun hm => by
    obtain ⟨q, hq, e⟩ := List.mem_map.mp hm
    exact (hro p hp).2 q hq e
  subst hlb
  refine kla_codeExpr (wpAny_mono (h prog mean mg mb (dp + 1) (un + 3) gd (envX cn cs L a ccd cl₁ :: outer) _ base (hideAll s.heap (news.map (·.1))) s.heap.objs.size { s with heap := h₁, toks := s.toks + binds.length } (fun r s' => RR (.ok (.ret r)) s')
    BG ⟨hns, fun b o e => hk₁ b o (of_hideAll _ e), Nat.le_of_eq (hideAll_size _ _)⟩ (X.keeps fun b o e => st b o e)
    (fun p hp => ⟨hk₁ _ _ (N p hp).1, Nat.ne_of_lt (Heap.lt_size (N p hp).1), hideAll_none _ (List.mem_map_of_mem hp)⟩) (T.keeps fun b o e => st b o e) rog (fun p hp => Heap.lt_size (N p hp).1) (by omega) (by omega) ?_) (fun _ _ z => z) (fun _ _ z => z.elim))
  intro r news' h' tk' m' hR F' N'
  refine lv r _ ⟨_, m', news', F', N', fun F2 N2 => hret r news' h' tk' hR F2 N2 fun b o e hb => F'.keep _ _ (hideAll_get _ e fun hm => by
    obtain ⟨q, hq, eq⟩ := List.mem_map.mp hm
    exact hb q hq eq)⟩

theorem allObj_of : ∀ {ws : List (Addr × String)} {k : Led → Prop}, (∀ its, Objs ws its → k its) → AllObj ws k
  | [], _, h => h [] trivial
  | _ :: _, _, h => fun o ho => allObj_of fun its hi => h _ ⟨⟨rfl, ho⟩, hi⟩
theorem objs_at : ∀ {ws : List (Addr × String)} {its : Led}, Objs ws its → ∀ q ∈ its, ∃ x ∈ ws, q.1 = x.1
  | [], [], _, _, hq => nomatch hq
  | [], _ :: _, h, _, _ => (show False from h).elim
  | _ :: _, [], h, _, _ => (show False from h).elim
  | w :: ws, p :: ps, h, q, hq => by
    rcases List.mem_cons.mp hq with e | hq
    · exact ⟨w, .head _, e ▸ h.1.1⟩
    · obtain ⟨x, hx, e⟩ := objs_at h.2 q hq
      exact ⟨x, .tail _ hx, e⟩
section
variable {prog : Program} {w : World} {A : Around} {E : Value → Shared → Prop} {s : Shared} {env : Env} {h₀ : Heap} {target : PySem.Expr} {body : List Stmt} {Q : Flow → Shared → Prop}
theorem items_loop {ws : List (Addr × String)} {keep news : Led} (Jm : (Str → Option Value) → Prop) (hk : SubL keep news) (hoff : ∀ p ∈ news, ∀ q ∈ ws, @Ne Nat p.1 q.1)
    (done : ∀ m h tk, Jm m → Fr h₀ env.locals h m → News h₀ env.locals h news → Q .next { s with heap := h, toks := tk }) : ∀ (xs : List Itm),
    (∀ a ∈ xs, ∀ v h tk m its, Jm m → a.Is v h → Fr h₀ env.locals h m → Objs ws its → News h₀ env.locals h (its ++ news) → wpAny (model prog w) A (assign target env v) (fun _ s₂ => wpAny (model prog w) A (execs body env)
      (fun f s₃ => f = .next ∧ ∃ h' tk' m', s₃ = { s with heap := h', toks := tk' } ∧ Fr h₀ env.locals h' m' ∧ News h₀ env.locals h' (its ++ news) ∧ Jm m') E s₂) E { s with heap := h, toks := tk }) →
    ∀ m, Jm m → ItemsRest prog w A E h₀ env target body Q s ws keep xs m news
  | [], _, m, hm => fun h tk F N => done m h tk hm F N
  | a :: r, turn, m, hm => by
    intro v h tk hav F
    refine allObj_of fun its hi N => ?_
    refine wpAny_mono (turn a (.head _) v h tk m its hm hav F hi N) (fun _ s₂ h₂ => wpAny_mono h₂ ?_ fun _ _ e => e) fun _ _ e => e
    rintro f s₃ ⟨rfl, h', tk', m', rfl, F', N', hm'⟩
    refine ⟨h', tk', m', news, rfl, F', N', fun p hp q hq => ?_, hk, items_loop Jm hk hoff done r (fun a ha => turn a (.tail _ ha)) m' hm'⟩
    obtain ⟨x, hx, e⟩ := objs_at hi q hq
    rw [e]; exact hoff p hp x hx
end
section
variable {prog : Program} {w : World} {A : Around} {E : Value → Shared → Prop} {s : Shared} {X led : Led} {g : Heap} {L a x C : Addr} {m : Str → Option Value} {vs : List Value} {fs : List (Str × Value)} {name : Str} {v : Value}
theorem get_sub {expr : Bool} {Q : Value → Shared → Prop} {attr : Option Value} (F : Fr g L s.heap m) (K : (hd.heap_1 w.params).In g) (N : News g L s.heap led) (I : Inst X x C fs) (hsub : ∀ p ∈ X, p ∈ led) (hg : plainGet (hd.heap_1 w.params) C name = true) (hh : hasDictIn (hd.heap_1 w.params) C = true)
    (ha : findIn (hd.heap_1 w.params) (.ref C) name = some attr) (hn : noGet (hd.heap_1 w.params) attr = true) (hl : fs.lookup name = some v) (hv : handedIn v = true) (h : Q v { s with toks := s.toks + 1 }) :
    wpAny (model prog w) A (getAttr (.ref x) name expr) Q E s := by
  obtain ⟨dx, es, n, h1, h2, h3⟩ := I
  exact get_own F K ⟨(N _ (hsub _ h1)).1, rfl, rfl, (N _ (hsub _ h2)).1⟩ hg hh ha hn (by rw [h3, hl]) hv h
theorem tup_sub {value slice : PySem.Expr} {k : Int} {u : Tok} {j : Nat} {Q : Value → Shared → Prop} (N : News g L s.heap led) (I : IsTp X a vs) (hsub : ∀ p ∈ X, p ∈ led) (hlo : -(2 ^ 63) ≤ k) (hhi : k < 2 ^ 63) (hj : seqIndex? k vs.length = some j) (hx : vs[j]? = some v) (h : Q v s)
    (hs : subscripted slice false (.ref a) (.int k u) = operate [.ref a, .int k u] (getItem (.ref a) (.int k u))) :
    wpAny (model prog w) A (subscriptTail value slice (.ref a) (.int k u)) Q E s := by
  obtain ⟨n, hm⟩ := I
  exact item_tupleT ⟨_, (N _ (hsub _ hm)).1, rfl, _, rfl⟩ hlo hhi (by simpa using hj) (by simpa using hx) h hs
end
local macro_rules | `(tactic| walk_at "getAttr ref") => `(tactic| (k_here; k_dflt (refine' get_sub ?k1 ?k2 ?k3 ?k4 ?kS ?k5 ?k6 ?k7 ?k8 ?k9 ?k10 ?_; (case k1 => k_asm); (case k2 => k_asm); (case k3 => k_asm); (case k4 => assumption); (case kS => (refine fun p hp => ?_; repeat (first | exact hp | apply List.mem_append_right | apply List.Mem.tail))); walk_at "own i"; (case k9 => rfl); (case k10 => first | k_handed | assumption); k_whole)))
local macro_rules | `(tactic| walk_at "subscriptTail") => `(tactic| (k_here; with_reducible refine at_item ?_; k_dflt ((with_unfolding_all refine' tup_sub ?k3 ?k4 ?kS ?k5 ?k6 ?k7 ?k9 ?_ ?k8); (case k3 => k_asm); (case k4 => assumption); (case kS => (refine fun p hp => ?_; repeat (first | exact hp | apply List.mem_append_right | apply List.Mem.tail))); (case k5 => decide); (case k6 => decide); (case k7 => rfl); (case k9 => rfl); (case k8 => with_unfolding_all rfl); k_whole)))

theorem inst_det {g : Heap} {L : Addr} {h : Heap} {led X : Led} {x C C' : Addr} {fs fs' : List (Str × Value)} {nm : Str} (N : News g L h led) (hs : ∀ p ∈ X, p ∈ led) (i : Inst X x C fs) (i' : Inst X x C' fs') : fs.lookup nm = fs'.lookup nm := by
  obtain ⟨dx, es, n, a1, a2, a3⟩ := i
  obtain ⟨dx', es', n', b1, b2, b3⟩ := i'
  have e1 := (N _ (hs _ a1)).1
  rw [(N _ (hs _ b1)).1] at e1
  have e2 : dx' = dx := by simpa [instObj] using congrArg Obj.dict (Option.some.inj e1)
  subst e2
  have e3 := (N _ (hs _ a2)).1
  rw [(N _ (hs _ b2)).1] at e3
  have e4 := congrArg Obj.data (Option.some.inj e3)
  have e5 : getL nm es' = getL nm es := by
    have : es' = es ∧ n' = n := by simpa [dictOf] using e4
    rw [this.1]
  rw [a3, b3] at e5
  exact (Option.some.inj e5).symm
theorem place_det {g : Heap} {L : Addr} {h : Heap} {led X : Led} {a : Addr} {rd rd' : RuleD} (N : News g L h led) (hs : ∀ p ∈ X, p ∈ led) (i : RuleIn X a rd) (i' : RuleIn X a rd') : rd.place = rd'.place := by
  obtain ⟨pt, pr, bd, mv, t1, t2, t3, t4, a1, -⟩ := i
  obtain ⟨pt', pr', bd', mv', t1', t2', t3', t4', b1, -⟩ := i'
  have h := inst_det (nm := Str.ofString "place") N hs a1 b1
  have h' : some (Value.int rd.place t1) = some (Value.int rd'.place t1') := h
  have h2 := Option.some.inj h'
  injection h2
theorem places_ints {R : List VR} (det : ∀ p ∈ R, ∀ q ∈ R, p.1 = q.1 → p.2.place = q.2.place) : ∀ {l : List VR} {ys : List Value}, (∀ p ∈ l, p ∈ R) → Paired (fun v y => ∃ (rd : RuleD) (t : Tok), (v, rd) ∈ R ∧ y = .int rd.place t) (l.map (·.1)) ys → IntsAre ys (l.map (·.2.place))
  | [], _, _, h => by cases h; exact .nil
  | p :: l, _, hs, h => by
    rw [List.map_cons] at h
    cases h with
    | cons e h =>
      obtain ⟨rd, t, hm, rfl⟩ := e
      rw [List.map_cons, det p (hs p (.head _)) (p.1, rd) hm rfl]
      exact .cons _ t (places_ints det (fun q hq => hs q (.tail _ hq)) h)
theorem sorted_eq : ∀ {a b : List Int}, a.Perm b → a.Pairwise (· ≤ ·) → b.Pairwise (· ≤ ·) → a = b := by
  intro a b hp ha hb
  exact List.Perm.eq_of_pairwise (fun x y _ _ h1 h2 => Int.le_antisymm h1 h2) ha hb hp
theorem range_sorted (n : Nat) : ((List.range n).map Int.ofNat).Pairwise (· ≤ ·) := by
  rw [List.pairwise_map]
  exact List.Pairwise.imp (fun h => by show (_ : Int) ≤ _; exact Int.ofNat_le.mpr (Nat.le_of_lt h)) List.pairwise_lt_range
theorem places_range {ds : List RuleD} (h : ∀ (i : Nat) (rd : RuleD), ds[i]? = some rd → rd.place = (i : Int)) : ds.map (·.place) = (List.range ds.length).map Int.ofNat := by
  apply List.ext_getElem?
  intro i
  rw [List.getElem?_map, List.getElem?_map]
  by_cases hi : i < ds.length
  · rw [List.getElem?_range hi, List.getElem?_eq_getElem hi]
    simp [h i ds[i] (List.getElem?_eq_getElem hi)]
  · rw [List.getElem?_eq_none (by omega), List.getElem?_eq_none (by simp; omega)]; rfl
theorem places_sorted {ds : List RuleD} (h : ∀ (i : Nat) (rd : RuleD), ds[i]? = some rd → rd.place = (i : Int)) : ds.Pairwise (fun a b => a.place < b.place) := by
  rw [List.pairwise_iff_getElem]
  intro i j hi hj hij
  rw [h i _ (List.getElem?_eq_getElem hi), h j _ (List.getElem?_eq_getElem hj)]
  omega
theorem zip_maps {vs : List Value} {ds : List RuleD} (h : vs.length = ds.length) : (vs.zip ds).map (·.1) = vs ∧ (vs.zip ds).map (·.2) = ds := by
  rw [List.map_fst_zip (by omega), List.map_snd_zip (by omega)]
  exact ⟨rfl, rfl⟩
theorem zip_next : ∀ {R : List VR}, SortedR R → ∀ a ∈ zipItems (R.map (·.1)) ((R.map (·.1)).drop 1), ∃ p q : VR, a = .pair (fun _ => p.1) q.1 ∧ p ∈ R ∧ q ∈ R ∧ aboveF p.2 q.2 = true
  | [], _, _, h => by simp [zipItems] at h
  | [x], _, _, h => by simp [zipItems] at h
  | x :: y :: r, hs, a, h => by
    obtain ⟨h1, h2⟩ := List.pairwise_cons.mp hs
    rw [List.map_cons, List.map_cons, List.drop_one, List.tail_cons, zipItems] at h
    rcases List.mem_cons.mp h with rfl | h
    · exact ⟨x, y, rfl, .head _, .tail _ (.head _), h1 y (.head _)⟩
    · obtain ⟨p, q, e, hp, hq, ha⟩ := zip_next h2 a (by rw [List.map_cons, List.drop_one, List.tail_cons]; exact h)
      exact ⟨p, q, e, .tail _ hp, .tail _ hq, ha⟩
theorem gap_ok {p q : RuleD} (h : aboveF p q = true) : ¬ (p.p0 * q.p1 - q.p0 * p.p1 < 0) ∧ ¬ (p.p0 * q.p1 - q.p0 * p.p1 = 0 ∧ p.place < q.place) := by
  have := (above_iff p q).mp h
  unfold cross at this
  omega
theorem psIn_of {X : Led} {vs ts : List Value} {ds : List RuleD} (r : RulesSt X vs ts ds) : PsIn X (vs.zip ds) := by
  intro p hp
  obtain ⟨i, hi, e⟩ := List.getElem_of_mem hp
  have hl : i < ds.length := by rw [List.length_zip] at hi; omega
  obtain ⟨a, h1, h2⟩ := r.rules.2 i ds[i] (List.getElem?_eq_getElem hl)
  have hv : i < vs.length := by rw [r.rules.1]; exact hl
  rw [List.getElem_zip] at e
  subst e
  rw [List.getElem?_eq_getElem hv] at h1
  exact ⟨a, Option.some.inj h1, h2, r.pr _ (List.getElem_mem hl)⟩
theorem psIn_rank {X : Led} {ps : List VR} (h : PsIn X ps) : PsIn X (rankR ps) := fun p hp => h p ((rankR_perm ps).mem_iff.mp hp)
theorem psIn_mono {X X' : Led} {ps : List VR} (hs : ∀ p ∈ X, p ∈ X') (h : PsIn X ps) : PsIn X' ps := fun p hp => let ⟨a, e, r, o⟩ := h p hp; ⟨a, e, rule_mono hs r, o⟩
theorem det_of {g : Heap} {L : Addr} {h : Heap} {led X : Led} {ps : List VR} (N : News g L h led) (hs : ∀ p ∈ X, p ∈ led) (hp : PsIn X ps) : ∀ p ∈ ps, ∀ q ∈ ps, p.1 = q.1 → p.2.place = q.2.place := by
  intro p hp1 q hq1 e
  obtain ⟨a, e1, r1, -⟩ := hp p hp1
  obtain ⟨b, e2, r2, -⟩ := hp q hq1
  rw [e1, e2] at e
  cases e
  exact place_det N hs r1 r2
theorem rulesIn_rank {X : Led} {ps : List VR} (h : PsIn X ps) : RulesIn X (ps.map (·.1)) (ps.map (·.2)) := by
  refine ⟨by simp, fun i rd e => ?_⟩
  rw [List.getElem?_map] at e
  cases hp : ps[i]? with
  | none => rw [hp] at e; cases e
  | some p =>
    rw [hp] at e
    obtain rfl : p.2 = rd := Option.some.inj e
    obtain ⟨a, e1, r1, -⟩ := h p (List.mem_of_getElem? hp)
    exact ⟨a, by rw [List.getElem?_map, hp]; exact congrArg some e1, r1⟩
section
variable {prog : Program} {w : World} {A : Around} {E : Value → Shared → Prop} {s : Shared} {env : Env} {g : Heap} {L : Addr} {Q : Value → Shared → Prop}
theorem comp_led {l : Addr} {vs : List Value} {n : Nat} {m : Str → Option Value} {led : Led} {x : Str} {elt : PySem.Expr} {scope : Scope} {cl : List (Str × Addr)} {FF : Value → Value → Prop} (hh : A.handled = none)
    (F : Fr g L s.heap m) (N : News g L s.heap led) (hl : (l, listOf vs.toArray n) ∈ led) (hsz : vs.length ≤ 1000)
    (helt : ∀ (C : Addr) (i : Nat) (v : Value) (s₃ : Shared) (m₃ : Str → Option Value) (E' : Value → Shared → Prop), vs[i]? = some v → s₃.heap.Ns C m₃ → m₃ x = some v → Fr g L s₃.heap m → News g L s₃.heap led → wpAny (model prog w) A (eval elt (compEnvC scope cl C env)) (fun y s₄ => FF v y ∧ PySem.Keeps s₃ s₄) E' s₃)
    (fin : ∀ D h' tk ys k, Paired FF vs ys → Fr g L h' m → News g L h' ((D, listOf ys.toArray k) :: led) → (∀ p ∈ led, @Ne Nat p.1 D) → Q (.ref D) { s with heap := h', toks := tk }) :
    wpAny (model prog w) A (pyIter (.ref l)) (fun it s₂ => ∃ I fp wr n P St, it = .ref I ∧ Walks prog w A I fp wr n P St ∧ n ≤ sizeLine ∧ St 0 s₂.heap ∧ (∀ b ∈ fp, b < s₂.heap.objs.size) ∧
      QuietOnC prog w A env scope cl x [] elt wr P (fun _ => true) FF s₂ ∧
      (∀ D h' tk ys (vs : List Value), s₂.heap.get? D = none → h'.IsList D ys → h'.PlainList D ys → vs.length = n → (∀ j v, vs[j]? = some v → P j v) → Paired FF (vs.filter fun _ => true) ys.toList →
        (∀ b o, b ∉ wr → s₂.heap.get? b = some o → h'.get? b = some o) → Q (.ref D) { s₂ with heap := h', toks := tk })) E s := by
  have hl0 := N _ hl
  have hIL : s.heap.IsList l vs.toArray := ⟨_, hl0.1, rfl, _, rfl⟩
  have hlI : l ≠ s.heap.objs.size := Nat.ne_of_lt (Heap.lt_size hl0.1)
  have hLI : L ≠ s.heap.objs.size := Nat.ne_of_lt F.ns.lt
  have hgI := next_is_new F
  have hI2 : ∀ p ∈ led, p.1 ≠ s.heap.objs.size := fun p hp => Nat.ne_of_lt (Heap.lt_size (N p hp).1)
  refine wpAny_pyIter_list hIL ?_
  refine ⟨s.heap.objs.size, _, _, _, _, _, rfl, Walks.list hh s.heap.objs.size l hlI vs.toArray, ?_, ⟨⟨_, Heap.get?_push_size _ rfl, rfl, rfl⟩, hIL.at fun o e => Heap.get?_push_of_some _ e⟩, ?_, ⟨?_, ?_⟩, ?_⟩
  · have hsl := sizeLine_eq; simp only [List.size_toArray]; omega
  · intro b hb
    rw [Heap.size_push]
    rcases List.mem_cons.mp hb with rfl | hb
    · exact Nat.lt_succ_self _
    · rw [List.mem_singleton.mp hb]; exact Nat.lt_succ_of_lt (Heap.lt_size hl0.1)
  · intro C i v s₃ m₃ E' hC hP hn3 hm3 hk3 ht3
    exact wpAny_pure ⟨rfl, ⟨_, _, rfl, fun _ _ e => e⟩⟩
  · intro C i v s₃ m₃ E' hC hP hpv hn3 hm3 hk3 ht3
    exact helt C i v s₃ m₃ E' (by simpa using hP) hn3 hm3 (fr_butI (F.push _) hLI hgI hk3) (news_butI (fun p hp => ⟨Heap.get?_push_of_some _ (N p hp).1, (N p hp).2⟩) hI2 hk3)
  · intro D h' tk ys us hD hl2 hpl hlen hP hF hk4
    obtain ⟨nD, hDo⟩ := hpl
    obtain rfl : us = vs := by
      apply List.ext_getElem?
      intro j
      cases e : us[j]? with
      | none =>
        have h1 : us.length ≤ j := by simpa using e
        have h2 : vs.length ≤ j := by have : us.length = vs.length := by simpa using hlen
                                      omega
        simp [h2]
      | some v => have := hP j v e; simpa using this.symm
    have fr : ∀ b o, s.heap.get? b = some o → @Ne Nat b D := fun b o e q => by
      have q' : b = D := q
      rw [q'] at e; rw [Heap.get?_push_of_some _ e] at hD; cases hD
    have F4 : Fr g L h' m := fr_butI (F.push _) hLI hgI hk4
    have N4 : News g L h' led := news_butI (fun p hp => ⟨Heap.get?_push_of_some _ (N p hp).1, (N p hp).2⟩) hI2 hk4
    rw [show List.filter (fun _ => true) us = us from List.filter_eq_self.mpr (fun _ _ => rfl)] at hF
    refine fin D h' tk ys.toList nD hF F4 (fun p hp => ?_) fun p hp => fr _ _ (N p hp).1
    rcases List.mem_cons.mp hp with rfl | hp
    · refine ⟨by simpa using hDo, fun e => ?_, ?_⟩
      · obtain ⟨o, _, _, ho, _⟩ := F.ns
        exact fr _ _ ho (show L = D from (show D = L from e).symm)
      · cases e : g.get? D with
        | none => rfl
        | some o => exact absurd rfl (fr _ _ (F.keep _ _ e))
    · exact N4 p hp
end
theorem rank_facts {X : Led} {vs ts : List Value} {ds : List RuleD} (r : RulesSt X vs ts ds) : ∃ R : List VR, R = rankR (vs.zip ds) ∧ SortedR R ∧ (∀ hit, (R.map (·.2)).find? hit = bestR hit ds) ∧ PsIn X R ∧ R.length = ds.length ∧ (R.map (·.2.place)).Perm ((List.range ds.length).map Int.ofNat) := by
  obtain ⟨z1, z2⟩ := zip_maps r.rules.1
  have hp : ∀ p ∈ vs.zip ds, PrOk p.2 := fun p h => (psIn_of r p h).choose_spec.2.2
  have hw : (vs.zip ds).Pairwise (fun a b => a.2.place < b.2.place) := by
    have h := places_sorted r.place
    rw [← z2, List.pairwise_map] at h
    exact h
  have hpm : (rankR (vs.zip ds)).Perm (vs.zip ds) := rankR_perm _
  refine ⟨_, rfl, (rank_best (fun _ => true) _ hp hw).1, fun hit => ?_, psIn_rank (psIn_of r), ?_, ?_⟩
  · rw [(rank_best hit _ hp hw).2, z2]
  · rw [hpm.length_eq, List.length_zip, r.rules.1, Nat.min_self]
  · have h2 := hpm.map (fun p : VR => p.2.place)
    have e : (vs.zip ds).map (fun p : VR => p.2.place) = ds.map (·.place) := by
      rw [← show ((vs.zip ds).map (·.2)).map (·.place) = (vs.zip ds).map (fun p : VR => p.2.place) from List.map_map, z2]
    rw [e, places_range r.place] at h2
    exact h2
section
variable {prog : Program} {w : World} {A : Around} {E : Value → Shared → Prop} {s : Shared} {env : Env} {g : Heap} {L : Addr} {Q : Value → Shared → Prop}
theorem eval_comp_led {l : Addr} {vs : List Value} {n : Nat} {m : Str → Option Value} {led : Led} {x : Str} {px pos : Pos} {elt iter : PySem.Expr} {scope : Scope} {cl : List (Str × Addr)} (FF : Value → Value → Prop) (hh : A.handled = none)
    (hclos : closureFor scope env = pure cl) (hcell : ∀ y ∈ scope.names, y.2 ≠ .cell) (hkind : scope.kind = .function)
    (hnames : ∀ y ∈ scope.names, y.2 = .local → scope.names.lookup y.1 = some .local) (hx : scope.names.lookup x = some .local)
    (F : Fr g L s.heap m) (N : News g L s.heap led) (hl : (l, listOf vs.toArray n) ∈ led) (hsz : vs.length ≤ 1000)
    (hit : ∀ (Q' : Value → Shared → Prop), (∀ tk, Q' (.ref l) { s with toks := tk }) → wpAny (model prog w) A (eval iter env) Q' E s)
    (helt : ∀ (C : Addr) (i : Nat) (v : Value) (s₃ : Shared) (m₃ : Str → Option Value) (E' : Value → Shared → Prop), vs[i]? = some v → s₃.heap.Ns C m₃ → m₃ x = some v → Fr g L s₃.heap m → News g L s₃.heap led → wpAny (model prog w) A (eval elt (compEnvC scope cl C env)) (fun y s₄ => FF v y ∧ PySem.Keeps s₃ s₄) E' s₃)
    (fin : ∀ D h' tk ys k, Paired FF vs ys → Fr g L h' m → News g L h' ((D, listOf ys.toArray k) :: led) → (∀ p ∈ led, @Ne Nat p.1 D) → Q (.ref D) { s with heap := h', toks := tk })
    (hs : ∀ x, foldedSetIterable iter env x = pure x := by intro _; rfl) :
    wpAny (model prog w) A (eval (.ListComp elt [⟨.Name x px, iter, [], 0⟩] scope pos) env) Q E s :=
  wpAny_ListComp_free (fun _ => true) FF hclos hcell hkind hnames hx (hit _ fun tk => comp_led (s := { s with toks := tk }) hh F N hl hsz helt fin) hs
end
theorem range_N {prog : Program} {w : World} {A : Around} {E : Value → Shared → Prop} {s : Shared} {g : Heap} {L : Addr} {m : Str → Option Value} {led : Led} {nn : Nat} {t : Tok} {Q : Value → Shared → Prop} (F : Fr g L s.heap m) (N : News g L s.heap led)
    (h : ∀ r h' tk u v, Fr g L h' m → News g L h' led → IsRange h' r 0 (nn : Int) 1 u t v → Q (.ref r) { s with heap := h', toks := tk }) : wpAny (model prog w) A (call (.type "range") [.int (nn : Int) t]) Q E s :=
  call_range_1 (h _ _ _ _ _ (F.push _) (fun p hp => ⟨Heap.get?_push_of_some _ (N p hp).1, (N p hp).2⟩) (IsRange.new ..))
theorem list_range_N {prog : Program} {w : World} {A : Around} {E : Value → Shared → Prop} {s : Shared} {g : Heap} {L r : Addr} {m : Str → Option Value} {led : Led} {nn : Nat} {u t v : Tok} {Q : Value → Shared → Prop} (hh : A.handled = none) (F : Fr g L s.heap m) (N : News g L s.heap led) (hr : IsRange s.heap r 0 (nn : Int) 1 u t v) (hn : nn < 1000)
    (h : ∀ D us c h' tk, Fr g L h' m → News g L h' ((D, listOf (List.toArray us) c) :: led) → (∀ p ∈ led, p.1 < D) → IntsAre us ((List.range nn).map Int.ofNat) → Q (.ref D) { s with heap := h', toks := tk }) : wpAny (model prog w) A (call (.type "list") [.ref r]) Q E s := by
  refine PySem.W.kll_range (n := nn) hh F N hr (small_one (by omega) (by omega) (by omega) (by omega)) (by rw [rangeSize_one]; split <;> omega) (by omega) fun D us c h' tk F' N' l i => h D us c h' tk F' N' l ?_
  have e : PySem.W.rangeKs 0 nn = (List.range nn).map Int.ofNat := by
    unfold PySem.W.rangeKs
    apply List.map_congr_left
    intro x _
    show (0 : Int) + (x : Int) = Int.ofNat x
    simp
  rw [e] at i; exact i
theorem assign_tup {prog : Program} {w : World} {A : Around} {E : Value → Shared → Prop} {s : Shared} {led : Led} {g : Heap} {L a : Addr} {m : Str → Option Value} {vs : List Value} {env : Env} {elts : List PySem.Expr} {x1 : Nat} {pos : Pos} {Q : Unit → Shared → Prop} (F : Fr g L s.heap m) (N : News g L s.heap led) (hT : IsTup s.heap a vs.toArray) (hh : A.handled = none)
    (hn : (assignEach elts env).length = vs.length) (hstar : (assignEach elts env).findIdx? (·.1) = none)
    (h : ∀ h', Fr g L h' m → News g L h' led → wpAny (model prog w) A (assignInOrder ((assignEach elts env).map (·.2)) vs) Q E { s with heap := h' }) : wpAny (model prog w) A (assign (.Tuple elts x1 pos) env (.ref a)) Q E s := by
  refine wpAny_assign_Tuple hh hT (by simpa using hn) hstar fun h' hx => ?_
  have hk : ∀ b o, s.heap.get? b = some o → h'.get? b = some o := fun b o e => hx b o (Nat.ne_of_lt (Heap.lt_size e)) e
  simpa using h h' (F.keeps hk) fun p hp => ⟨hk _ _ (N p hp).1, (N p hp).2⟩
theorem slice_one (vs : List Value) (h : 1 ≤ vs.length) : slicePick vs.toArray (some 1) none none = (vs.drop 1).toArray := by
  have := slicePick_from vs.toArray 1 (by simpa using h)
  simpa using this
theorem same_fr {g : Heap} {L : Addr} {h h' : Heap} {m m' : Str → Option Value} (_ : Fr g L h m) (F : Fr g L h' m') : Fr g L h' m' := F
theorem same_news {g : Heap} {L : Addr} {h h' : Heap} {m : Str → Option Value} {l : Led} (_ : Fr g L h m) (N : News g L h' l) : News g L h' l := N
def TurnZ (g : Heap) (L : Addr) (all : Led) (Jm : (Str → Option Value) → Prop) (s : Shared) (f : Flow) (s₃ : Shared) : Prop := f = .next ∧ ∃ h' tk' m', s₃ = { s with heap := h', toks := tk' } ∧ Fr g L h' m' ∧ News g L h' all ∧ Jm m'
theorem TurnZ.intro {g h' : Heap} {L : Addr} {all nw : Led} {Jm : (Str → Option Value) → Prop} {s : Shared} {tk' : Nat} {m' : Str → Option Value} (F : Fr g L h' m') (N : News g L h' nw) (hs : ∀ p ∈ all, p ∈ nw) (hj : Jm m') : TurnZ g L all Jm s .next { s with heap := h', toks := tk' } := ⟨rfl, _, _, _, rfl, F, cb_drop N hs, hj⟩
theorem items_loopZ {prog : Program} {w : World} {A : Around} {E : Value → Shared → Prop} {s : Shared} {env : Env} {h₀ : Heap} {target : PySem.Expr} {body : List Stmt} {Q : Flow → Shared → Prop} {ws : List (Addr × String)} {keep news : Led} (Jm : (Str → Option Value) → Prop) (hk : SubL keep news) (hoff : ∀ p ∈ news, ∀ q ∈ ws, @Ne Nat p.1 q.1)
    (done : ∀ m h tk, Jm m → Fr h₀ env.locals h m → News h₀ env.locals h news → Q .next { s with heap := h, toks := tk }) (xs : List Itm)
    (turn : ∀ a ∈ xs, ∀ v h tk m its, Jm m → a.Is v h → Fr h₀ env.locals h m → Objs ws its → News h₀ env.locals h (its ++ news) → wpAny (model prog w) A (assign target env v) (fun _ s₂ => wpAny (model prog w) A (execs body env) (TurnZ h₀ env.locals (its ++ news) Jm s) E s₂) E { s with heap := h, toks := tk })
    (m : Str → Option Value) (hm : Jm m) : ItemsRest prog w A E h₀ env target body Q s ws keep xs m news := items_loop Jm hk hoff done xs turn m hm
theorem zip_off {I p : Addr} (h : p < I) : ∀ q ∈ [(I + 4, "zip"), (I + 2, "tuple"), (I + 3, "tuple"), (I, "list_iterator"), (I + 1, "list_iterator")], @Ne Nat p q.1 :=
  List.forall_mem_cons.mpr ⟨Nat.ne_of_lt (Nat.lt_add_right _ h), List.forall_mem_cons.mpr ⟨Nat.ne_of_lt (Nat.lt_add_right _ h), List.forall_mem_cons.mpr ⟨Nat.ne_of_lt (Nat.lt_add_right _ h), List.forall_mem_cons.mpr ⟨Nat.ne_of_lt h, List.forall_mem_cons.mpr ⟨Nat.ne_of_lt (Nat.lt_add_right _ h), List.forall_mem_nil _⟩⟩⟩⟩⟩
theorem news_neD {g : Heap} {L : Addr} {h : Heap} {led : Led} {p q : Addr × Obj} (N : News g L h led) (hp : p ∈ led) (hq : q ∈ led) (hne : p.2 ≠ q.2) : @Ne Nat p.1 q.1 := fun e => by
  have e' : p.1 = q.1 := e
  have h1 := (N p hp).1
  rw [e', (N q hq).1] at h1
  exact hne (Option.some.inj h1).symm
theorem sub4 {a b c d : Addr × Obj} {l : Led} : ∀ p ∈ l, p ∈ a :: b :: c :: d :: l := fun _ h => .tail _ (.tail _ (.tail _ (.tail _ h)))
theorem perm_rank {r f c a b d e : Addr × Obj} {Y : Led} : ∀ p ∈ a :: b :: d :: e :: (r :: f :: c :: Y), p ∈ r :: f :: c :: a :: b :: d :: e :: Y := by
  intro p hp
  simp only [List.mem_cons] at hp ⊢
  rcases hp with h | h | h | h | h | h | h | h <;> simp [h]
theorem ne_cell {o : Obj} {v : Option Value} {vs : Array Value} {n : Nat} (h : o.data = .cell v) : listOf vs n ≠ o := fun e => by
  have e2 := congrArg Obj.data e
  rw [h] at e2; cases e2
theorem off3 {a b c : Addr × Obj} {Y : Led} {x : Addr} (h1 : @Ne Nat a.1 x) (h2 : @Ne Nat b.1 x) (h3 : @Ne Nat c.1 x) (h : ∀ p ∈ Y, p.1 ≠ x) : ∀ p ∈ a :: b :: c :: Y, p.1 ≠ x :=
  List.forall_mem_cons.mpr ⟨h1, List.forall_mem_cons.mpr ⟨h2, List.forall_mem_cons.mpr ⟨h3, h⟩⟩⟩
theorem names_of {prog : Program} {w : World} {X : Led} {nd : Addr} {o : Obj} {t' : Tok} (hlo : (nd == sysModules) = false) (hm : (nd, o) ∈ X) (hd : o.IsDictOf (PySem.strKind prog w) [(Str.ofString "p", .str (Str.ofString "u") t')]) : NamesIn w X nd := by
  obtain ⟨es, ep, ⟨c1, c2, c3⟩, hdat, hkeys, hpairs, -⟩ := hd
  have hes : es = es.toList.toArray := by simp
  generalize hl : es.toList = l at hpairs hes
  cases hpairs with
  | cons hk hv rest =>
    cases rest
    rename_i e
    obtain ⟨he, ke, ve⟩ := e
    obtain ⟨t0, rfl⟩ := Value.isStrOf_shape hk
    have hv' : ve = .str (Str.ofString "u") t' := hv
    subst hv'
    obtain ⟨k, h1, h2⟩ := hkeys ⟨he, .str (Str.ofString "p") t0, .str (Str.ofString "u") t'⟩ (by rw [hes]; simp)
    obtain rfl : k = Str.ofString "p" := (PySem.strKind prog w).inj _ _ _ h1 hk
    have h3 : he = PyData.keyHash w.params (Str.ofString "p") := h2
    obtain ⟨oc, od, odat, osl⟩ := o
    have c1' : oc = .type "dict" := c1
    have c2' : od = none := c2
    have c3' : osl = #[] := c3
    have c4' : odat = .dict es ep := hdat
    subst c1' c2' c3' c4' h3
    rw [hes] at hm
    exact ⟨hlo, t0, t', ep, hm⟩
theorem inst_of {X : Led} {x C dx : Addr} {es : List DictEntry} {z : Nat} {fs : List (Str × Value)} (h1 : (x, instObj C dx) ∈ X) (h2 : (dx, dictOf es z) ∈ X) (d : DE es fs) : Inst X x C fs := ⟨dx, es, z, h1, h2, d.get⟩
theorem perm_look {k d f c o a b e t : Addr × Obj} {Y : Led} : ∀ p ∈ a :: b :: e :: t :: (k :: d :: f :: c :: o :: Y), p ∈ k :: d :: f :: c :: o :: a :: b :: e :: t :: Y := by
  intro p hp
  simp only [List.mem_cons] at hp ⊢
  rcases hp with h | h | h | h | h | h | h | h | h | h <;> simp [h]
theorem off5 {a b c d e : Addr × Obj} {Y : Led} {x : Addr} (h1 : @Ne Nat a.1 x) (h2 : @Ne Nat b.1 x) (h3 : @Ne Nat c.1 x) (h4 : @Ne Nat d.1 x) (h5 : @Ne Nat e.1 x) (h : ∀ p ∈ Y, p.1 ≠ x) : ∀ p ∈ a :: b :: c :: d :: e :: Y, p.1 ≠ x :=
  List.forall_mem_cons.mpr ⟨h1, List.forall_mem_cons.mpr ⟨h2, off3 h3 h4 h5 h⟩⟩
theorem off_look {x D lc lf dx lk : Addr} {o1 o2 o3 o4 o5 : Obj} {Y : Led} (hD : @Ne Nat x D) (h1 : @LT.lt Nat _ x lc) (h2 : @LT.lt Nat _ lc lf) (h3 : @LT.lt Nat _ x dx) (h4 : @LT.lt Nat _ dx lk) (h : ∀ p ∈ Y, p.1 ≠ x) : ∀ p ∈ (lk, o1) :: (dx, o2) :: (lf, o3) :: (lc, o4) :: (D, o5) :: Y, p.1 ≠ x :=
  off5 (Nat.ne_of_gt (Nat.lt_trans h3 h4)) (Nat.ne_of_gt h3) (Nat.ne_of_gt (Nat.lt_trans h1 h2)) (Nat.ne_of_gt h1) (fun e => hD e.symm) h

/-- the table of code records, as the law's own lambdas leave it -/
def TabIn (P : Addr) (pos : Pos) (qual : Str) (nw : Led) : Prop := ∃ ps : Array Value, (P, tabObj ps) ∈ nw ∧ TriplesOk ps.toList ∧
  (codeAmong pos ps.toList = none ∨ ∃ (c' : Addr) (oc : Obj) (vs : Array Value) (t : Tok), codeAmong pos ps.toList = some (.ref c') ∧ (c', oc) ∈ nw ∧ oc.data = .fields vs ∧ vs[1]? = some (.str qual t))
def OffO (own X : Led) : Prop := ∀ p ∈ own, ∀ q ∈ X, @Ne Nat p.1 q.1
theorem lam_led {M : Model} {A : Around} {E : Value → Shared → Prop} {s : Shared} {h₀ : Heap} {L a c P : Addr} {m mg mb : Str → Option Value} {cn : Str} {cs : Scope} {ccd : Value} {cl clos : List (Str × Addr)} {own X : Led} {p : Program} {loose : List Str} {mean : ExcName → Option Value} {params : Arguments} {body : PySem.Expr} {scope : Scope} {pos : Pos} {qual : Str} {Q : Value → Shared → Prop}
    (F : Fr h₀ L s.heap m) (N : News h₀ L s.heap (own ++ X)) (T : Top p loose mean mg mb h₀) (C : CodeHd h₀ c P) (hcd : ccd = .ref c) (hq : (envX cn cs L a ccd cl).qual ++ "<lambda>" = qual) (hoff : OffO own X) (hP : ∀ q ∈ own, @Ne Nat q.1 P)
    (hT : TabIn P pos qual X) (hdef : defaultsOf params (envX cn cs L a ccd cl) = ([], [])) (hcl : closureFor scope (envX cn cs L a ccd cl) = pure clos)
    (h : ∀ f c' oc vs t ctv h' tk X', Fr h₀ L h' m → News h₀ L h' (own ++ X') → OffO own X' → TabIn P pos qual X' → (f, kla_obj "<lambda>" qual params body scope clos ((mg "__name__").getD .none) c' ctv) ∈ X' → (c', oc) ∈ X' → oc.data = .fields vs → vs[1]? = some (.str qual t) → (∀ q ∈ X, q.1 ≠ P → q ∈ X') → Q (.ref f) { s with heap := h', toks := tk }) :
    wpAny M A (eval (.Lambda params body scope pos) (envX cn cs L a ccd cl)) Q E s := by
  subst hq
  refine kla_eval hdef ?_
  obtain ⟨ps, hm, ht, hn | ⟨c', oc, vs, t, hc, hmc, d1, d2⟩⟩ := hT
  · have N' : News h₀ L s.heap ((P, tabObj ps) :: restL (own ++ X) [(P, tabObj ps)]) := cb_drop N (List.forall_mem_cons.mpr ⟨List.mem_append_right _ hm, fun q hq => restL_sub hq⟩)
    refine kla_nest F N' T C hcd (.head fun q hq => fun e => restL_off hq (.head _) e.symm) ht hn hcl fun f c' oc vs t ctv h' tk F' N2 d1 d2 l1 l2 => ?_
    have lt : ∀ q ∈ own ++ X, @LT.lt Nat _ q.1 c' := fun q hq => by
      by_cases e : @Eq Nat q.1 P
      · have := l1 _ (.head _)
        have e' : q.1 = P := e
        rw [e']; exact this
      · exact l1 q (.tail _ (restL_mem hq fun r hr => by rw [List.mem_singleton.mp hr]; exact fun z => e z.symm))
    have l3 : @LT.lt Nat _ c' f := l2
    refine h f c' oc vs t ctv h' tk ((f, kla_obj "<lambda>" _ params body scope clos ((mg "__name__").getD .none) c' ctv) :: (c', oc) :: (P, tabObj (ps ++ #[rawInt pos.line, rawInt pos.col, .ref c'])) :: restL X [(P, tabObj ps)]) F' (cb_drop N2 ?_) ?_ ?_ (.head _) (.tail _ (.head _)) d1 d2 ?_
    · intro q hq
      rcases List.mem_append.mp hq with hq | hq
      · exact .tail _ (.tail _ (.tail _ (restL_mem (List.mem_append_left _ hq) fun r hr => by rw [List.mem_singleton.mp hr]; exact fun z => hP q hq z.symm)))
      · rcases List.mem_cons.mp hq with rfl | hq
        · exact .head _
        rcases List.mem_cons.mp hq with rfl | hq
        · exact .tail _ (.head _)
        rcases List.mem_cons.mp hq with rfl | hq
        · exact .tail _ (.tail _ (.head _))
        exact .tail _ (.tail _ (.tail _ (restL_mem (List.mem_append_right _ (restL_sub hq)) fun r hr => restL_off hq hr)))
    · intro o ho q hq
      have ho' := lt o (List.mem_append_left _ ho)
      rcases List.mem_cons.mp hq with rfl | hq
      · exact Nat.ne_of_lt (Nat.lt_trans ho' l3)
      rcases List.mem_cons.mp hq with rfl | hq
      · exact Nat.ne_of_lt ho'
      rcases List.mem_cons.mp hq with rfl | hq
      · exact hP o ho
      exact hoff o ho q (restL_sub hq)
    · refine ⟨_, .tail _ (.tail _ (.head _)), ?_, .inr ⟨c', oc, vs, t, ?_, .tail _ (.head _), d1, d2⟩⟩
      · rw [Array.toList_append]; exact TriplesOk_snoc _ _ _ _ ht
      · rw [Array.toList_append]; exact codeAmong_snoc _ ht hn
    · exact fun q hq hne => .tail _ (.tail _ (.tail _ (restL_mem hq fun r hr => by rw [List.mem_singleton.mp hr]; exact fun z => hne z.symm)))
  · refine kla_hit F N T C hcd (List.mem_append_right _ hm) ht hc hcl fun f ctv h' tk F' N2 l => ?_
    refine h f c' oc vs t ctv h' tk ((f, kla_obj "<lambda>" _ params body scope clos ((mg "__name__").getD .none) c' ctv) :: X) F' (cb_drop N2 ?_) ?_ ?_ (.head _) (.tail _ hmc) d1 d2 (fun q hq _ => .tail _ hq)
    · intro q hq
      rcases List.mem_append.mp hq with hq | hq
      · exact .tail _ (List.mem_append_left _ hq)
      · rcases List.mem_cons.mp hq with rfl | hq
        · exact .head _
        · exact .tail _ (List.mem_append_right _ hq)
    · intro o ho q hq
      rcases List.mem_cons.mp hq with rfl | hq
      · exact Nat.ne_of_lt (l o (List.mem_append_left _ ho))
      · exact hoff o ho q hq
    · exact ⟨ps, .tail _ hm, ht, .inr ⟨c', oc, vs, t, hc, .tail _ hmc, d1, d2⟩⟩
theorem key_node {k : Nat} {x : Str × Str × Str} (h : keys12[k]? = some x) : ∃ d, doc12[k]? = some d ∧ x = (d.kind, d.uri, d.loc) ∧ PyData.strOk d.uri = true ∧ PyData.strOk d.loc = true := by
  have hk : k < 12 := (List.getElem?_eq_some_iff.mp h).1
  have key : ((List.range 12).all fun k => match keys12[k]?, doc12[k]? with | some x, some d => x == (d.kind, d.uri, d.loc) && PyData.strOk d.uri && PyData.strOk d.loc | _, _ => false) = true := by decide +kernel
  have h2 := List.all_eq_true.mp key k (List.mem_range.mpr hk)
  rw [h] at h2
  cases e : doc12[k]? with
  | none => rw [e] at h2; cases h2
  | some d =>
    rw [e] at h2
    simp only [Bool.and_eq_true, beq_iff_eq] at h2
    exact ⟨d, rfl, h2.1.1, h2.1.2, h2.2⟩
theorem row_at {X : Led} {rl : Addr} {v : Value} {vs : List Value} {n k : Nat} (h : RowsL X rl keys12 vs n) (hv : vs[k]? = some v) : ∃ (tu : Addr) (d : NodeD), v = .ref tu ∧ doc12[k]? = some d ∧ RowTp X tu (k : Int) d ∧ PyData.strOk d.uri = true ∧ PyData.strOk d.loc = true := by
  obtain ⟨-, hl, hr⟩ := h
  have hk : k < keys12.length := hl ▸ (List.getElem?_eq_some_iff.mp hv).1
  obtain ⟨tu, e, t0, t1, t2, t3, htp⟩ := hr k keys12[k] (List.getElem?_eq_getElem hk)
  obtain ⟨d, hd, hx, o1, o2⟩ := key_node (List.getElem?_eq_getElem hk)
  rw [hv] at e
  refine ⟨tu, d, Option.some.inj e, hd, ⟨t0, t1, t2, t3, ?_⟩, o1, o2⟩
  rw [hx] at htp
  exact htp
theorem docOk_all : ((List.range 12).all fun k => match doc12[k]? with
  | none => false
  | some d => !(d.kind == Str.ofString "namespace") && (match d.parent with
    | none => true
    | some p => decide (0 ≤ p) && (match doc12[p.toNat]? with
      | none => false
      | some dp => [true, false].all fun a => (axF dp a).all fun x => decide (0 ≤ x) && decide (x.toNat < 12)))) = true := by decide +kernel
theorem doc_len : doc12.length = 12 := by decide +kernel
theorem docOk12 : DocOk doc12 := by
  have one : ∀ {k : Nat} {d : NodeD}, doc12[k]? = some d → (!(d.kind == Str.ofString "namespace") && (match d.parent with
    | none => true
    | some p => decide (0 ≤ p) && (match doc12[p.toNat]? with
      | none => false
      | some dp => [true, false].all fun a => (axF dp a).all fun x => decide (0 ≤ x) && decide (x.toNat < 12)))) = true := fun {k d} h => by
    have hk : k < 12 := doc_len ▸ (List.getElem?_eq_some_iff.mp h).1
    have h2 := List.all_eq_true.mp docOk_all k (List.mem_range.mpr hk)
    rw [h] at h2
    exact h2
  have kin : ∀ (k : Nat) (d : NodeD), doc12[k]? = some d → (d.kind == Str.ofString "namespace") = false := fun k d h => by
    have h2 := one h
    simp only [Bool.and_eq_true, Bool.not_eq_true'] at h2
    exact h2.1
  refine ⟨kin, fun k d p h hp => ?_⟩
  have h2 := one h
  rw [hp] at h2
  simp only [Bool.and_eq_true, decide_eq_true_eq] at h2
  obtain ⟨-, h0, h3⟩ := h2
  cases e : doc12[p.toNat]? with
  | none => rw [e] at h3; cases h3
  | some dp =>
    rw [e] at h3
    refine ⟨p.toNat, dp, by omega, e, fun at' x hx => ?_⟩
    have h4 := List.all_eq_true.mp (List.all_eq_true.mp h3 at' (by cases at' <;> simp)) x hx
    simp only [Bool.and_eq_true, decide_eq_true_eq] at h4
    have hl : x.toNat < doc12.length := by rw [doc_len]; exact h4.2
    exact ⟨x.toNat, doc12[x.toNat], by omega, List.getElem?_eq_getElem hl, kin _ _ (List.getElem?_eq_getElem hl)⟩
def predF (k : Nat) (d : NodeD) (at' : Bool) (td : TestD) (i : Nat) : Bool := i == k || (match doc12[i]? with | none => false | some o => o.parent == d.parent && lawFits o at' td)
theorem isFirst_at {k i : Nat} {d : NodeD} {at' : Bool} {td : TestD} (hi : i < 12) (hp : predF k d at' td i = true) (hno : ∀ j, j < i → predF k d at' td j = false) : isFirstF doc12 k d at' td = (i == k) := by
  have e : (List.range 12).find? (predF k d at' td) = some i := find_first (List.getElem?_range hi) hp fun j r hj hr => by
    obtain rfl : j = r := by
      rw [List.getElem?_range (Nat.lt_trans hj hi)] at hr
      exact Option.some.inj hr
    exact hno j hj
  unfold isFirstF
  rw [doc_len]
  show (match (List.range 12).find? (predF k d at' td) with | none => true | some i => i == k) = _
  rw [e]
theorem isFirst_end {k : Nat} {d : NodeD} {at' : Bool} {td : TestD} (hno : ∀ j, j < 12 → predF k d at' td j = false) : isFirstF doc12 k d at' td = true := by
  have e : (List.range 12).find? (predF k d at' td) = none := List.find?_eq_none.mpr fun j hj => by
    rw [hno j (List.mem_range.mp hj)]; exact Bool.false_ne_true
  unfold isFirstF
  rw [doc_len]
  show (match (List.range 12).find? (predF k d at' td) with | none => true | some i => i == k) = _
  rw [e]
theorem predF_k {k i : Nat} {d : NodeD} {at' : Bool} {td : TestD} (h : (i : Int) = (k : Int)) : predF k d at' td i = true ∧ (i == k) = true := by
  have e : i = k := Int.ofNat.inj h
  rw [e]; unfold predF; simp
theorem predF_of {k i : Nat} {d o : NodeD} {at' : Bool} {td : TestD} (h : (i : Int) ≠ (k : Int)) (hd : doc12[i]? = some o) : predF k d at' td i = (o.parent == d.parent && lawFits o at' td) ∧ (i == k) = false := by
  have e : (i == k) = false := by
    have : ¬ i = k := fun z => h (by rw [z])
    simpa using this
  refine ⟨?_, e⟩
  unfold predF
  rw [e, hd]; rfl
def lamP : Pos := { line := 479, col := 52, endLine := 479, endCol := 72 }
def lamQ : Str := Str.ofString "law" ++ ".<locals>." ++ "<lambda>"
theorem perm_tab {a b c t : Addr × Obj} {Y : Led} : ∀ p ∈ t :: a :: b :: c :: Y, p ∈ a :: b :: c :: t :: Y := by
  intro p hp
  simp only [List.mem_cons] at hp ⊢
  rcases hp with h | h | h | h | h <;> simp [h]
theorem off_own3 {l2 D I : Addr} {o1 o2 oI : Obj} {X : Led} (a1 : AllLt l2 X) (a2 : AllLt D X) (hI : ∀ p ∈ X, p.1 ≠ I) : OffO [(l2, o1), (D, o2), (I, oI)] X := by
  intro p hp q hq
  rcases List.mem_cons.mp hp with rfl | hp
  · exact Nat.ne_of_gt (allLt_to a1 q hq)
  rcases List.mem_cons.mp hp with rfl | hp
  · exact Nat.ne_of_gt (allLt_to a2 q hq)
  rw [List.mem_singleton.mp hp]
  exact fun e => hI q hq e.symm
theorem off_cons {a : Addr × Obj} {ow X : Led} (h : OffO ow X) (ha : ∀ p ∈ X, p.1 ≠ a.1) : OffO (a :: ow) X := by
  intro p hp q hq
  rcases List.mem_cons.mp hp with rfl | hp
  · exact fun e => ha q hq e.symm
  · exact h p hp q hq
theorem tabIn_at {P : Addr} {pos : Pos} {q : Str} {X : Led} (h : TabIn P pos q X) : ∃ o, (P, o) ∈ X := let ⟨_, a, _⟩ := h; ⟨_, a⟩
theorem told9 {X : Led} {vs ts : List Value} {ds : List RuleD} (r : RulesSt X vs ts ds) : ∀ rd ∈ ds, rd.td ∈ tests9 := fun rd h => by
  obtain ⟨i, hi, e⟩ := List.getElem_of_mem h
  obtain ⟨tu, t, ta, -, -, -, h9⟩ := r.told.2 i rd (by rw [← e]; exact List.getElem?_eq_getElem hi)
  exact h9
theorem best_same {R : List VR} {ds : List RuleD} {X : Led} {vs ts : List Value} (hRb : ∀ hit, (R.map (·.2)).find? hit = bestR hit ds) (r : RulesSt X vs ts ds) {k : Nat} {d : NodeD} (hd : doc12[k]? = some d) (md : Bool) : (R.map (·.2)).find? (ruleHit doc12 k d md) = bestR (lawHit doc12 k d md) ds := by
  rw [hRb]
  exact best_congr fun rd h => hits_same hd (told9 r rd h) md
theorem mode_two {ow : Led} {D : Addr} {t1 t2 : Tok} (hD : IsTp ow D [.str (Str.ofString "") t1, .str (Str.ofString "m") t2]) {j : Nat} {v : Value} (hv : [Value.none, .ref D][j]? = some v) : ∃ md, handedIn v = true ∧ ∀ ro : Led, (∀ p ∈ ow, p ∈ ro) → ModeIs ro v md := by
  match j, hv with
  | 0, hv => exact ⟨false, by cases hv; rfl, fun ro h => by cases hv; rfl⟩
  | 1, hv => exact ⟨true, by cases hv; rfl, fun ro h => by cases hv; exact ⟨D, t1, t2, rfl, tp_mono h hD⟩⟩
  | j + 2, hv => simp at hv
theorem names_mono {w : World} {X X' : Led} (h : ∀ p ∈ X, p ∈ X') {nd : Addr} (i : NamesIn w X nd) : NamesIn w X' nd := let ⟨a, t, t', n, hm⟩ := i; ⟨a, t, t', n, h _ hm⟩
theorem look_mono {w : World} {X X' : Led} (h : ∀ p ∈ X, p ∈ X') {lk T vo : Addr} (i : LookIn w X lk T vo) : LookIn w X' lk T vo := let ⟨nd, a, b⟩ := i; ⟨nd, inst_mono h a, names_mono h b⟩
theorem kind6 {k : Nat} {d : NodeD} (h : doc12[k]? = some d) : d.kind = Str.ofString "root" ∨ d.kind = Str.ofString "element" ∨ d.kind = Str.ofString "text" ∨ d.kind = Str.ofString "comment" ∨ d.kind = Str.ofString "instruction" ∨ d.kind = Str.ofString "attribute" := by
  have key : (doc12.all fun d => d.kind == Str.ofString "root" || d.kind == Str.ofString "element" || d.kind == Str.ofString "text" || d.kind == Str.ofString "comment" || d.kind == Str.ofString "instruction" || d.kind == Str.ofString "attribute") = true := by decide +kernel
  have h2 := List.all_eq_true.mp key d (List.mem_of_getElem? h)
  simp only [Bool.or_eq_true, beq_iff_eq] at h2
  rcases h2 with ((((h | h) | h) | h) | h) | h <;> simp [h]
theorem builtIn6 : builtInF (Str.ofString "root") = Str.ofString "go on" ∧ builtInF (Str.ofString "element") = Str.ofString "go on" ∧ builtInF (Str.ofString "text") = Str.ofString "text" ∧ builtInF (Str.ofString "comment") = Str.ofString "nothing" ∧ builtInF (Str.ofString "instruction") = Str.ofString "nothing" ∧ builtInF (Str.ofString "attribute") = Str.ofString "text" := by decide +kernel

theorem obv2_vpppp {α1 α2 : Type} {β : Type} {fv : α1 → α2 → β} {p2 : α1 → α2 → Prop} {p3 : α1 → α2 → Prop} {p4 : α1 → α2 → Prop} {p5 : α1 → α2 → Prop} {G : β → Prop} (H : ∀ x1 x2, p2 x1 x2 → p3 x1 x2 → p4 x1 x2 → p5 x1 x2 → G (fv x1 x2)) : ∀ v, (∃ x1 x2, v = fv x1 x2 ∧ p2 x1 x2 ∧ p3 x1 x2 ∧ p4 x1 x2 ∧ p5 x1 x2) → G v := by
  rintro v ⟨x1, x2, e1, h2, h3, h4, h5⟩; subst e1; exact H x1 x2 h2 h3 h4 h5
theorem isList_obj {h : Heap} {a : Addr} {vs : List Value} (i : h.IsList a vs.toArray) : ∃ (o : Obj) (q : Nat), h.get? a = some o ∧ o.cls = .type "list" ∧ o.data = .seq vs.toArray q := let ⟨o, e, c, q, d⟩ := i; ⟨o, q, e, c, d⟩
theorem perm_law {n1 : Led} {sl c3 c2 c1 tb : Addr × Obj} : ∀ p ∈ c3 :: c2 :: c1 :: tb :: sl :: n1, p ∈ n1 ++ sl :: c3 :: c2 :: c1 :: tb :: [] :=
  List.forall_mem_cons.mpr ⟨List.mem_append_right _ (.tail _ (.head _)), List.forall_mem_cons.mpr ⟨List.mem_append_right _ (.tail _ (.tail _ (.head _))), List.forall_mem_cons.mpr ⟨List.mem_append_right _ (.tail _ (.tail _ (.tail _ (.head _)))), List.forall_mem_cons.mpr ⟨List.mem_append_right _ (.tail _ (.tail _ (.tail _ (.tail _ (.head _))))), List.forall_mem_cons.mpr ⟨List.mem_append_right _ (.head _), fun _ hp => List.mem_append_left _ hp⟩⟩⟩⟩⟩
local macro_rules | `(tactic| walk_at "assign Tuple") => `(tactic| (k_here; (with_reducible show wpAny _ _ (assign (PySem.Expr.Tuple _ _ _) _ (Value.ref _)) _ _ _); refine Stop.mk ?_))
local macro_rules | `(tactic| k_all) => `(tactic| first | assumption | (refine' List.forall_mem_cons.mpr ⟨?a, ?b⟩; (case a => k_ne); (case b => k_all)))
local macro_rules | `(tactic| walk_at "eval ListComp") => `(tactic| walk_at "own stop")
local macro_rules | `(tactic| walk_at "call builtin:sorted") => `(tactic| walk_at "own stop")
local macro_rules | `(tactic| walk_at "call type:list") => `(tactic| walk_at "own stop")
local macro_rules | `(tactic| walk_at "call builtin:len") => `(tactic| walk_at "own stop")
local macro_rules | `(tactic| walk_at "call type:range") => `(tactic| walk_at "own stop")
local macro_rules | `(tactic| walk_at "exec For Tuple Call cons nil") => `(tactic| walk_at "own stop")
local macro_rules | `(tactic| walk_at "subscriptTail Name Slice ref ref") => `(tactic| walk_at "own stop")
local macro_rules | `(tactic| walk_at "call type:zip") => `(tactic| walk_at "own stop")
local macro_rules | `(tactic| walk_at "eval Lambda") => `(tactic| walk_at "own stop")
local macro_rules | `(tactic| walk_at "exec For Name Name cons nil") => `(tactic| walk_at "own stop")
local macro_rules | `(tactic| walk_at "exec For Name List cons nil") => `(tactic| walk_at "own stop")
local macro_rules | `(tactic| walk_at "pyIter ref") => `(tactic| walk_at "own stop")
local macro_rules | `(tactic| walk_at "compareOp NotEq ref ref") => `(tactic| walk_at "own stop")
theorem restL_nil (led : Led) : restL led [] = led := by simp [restL]
theorem perm_rules {n1 rest X : Led} {c3 c2 c1 tb s : Addr × Obj} (hmem : ∀ p ∈ c3 :: c2 :: c1 :: tb :: s :: X, p ∈ n1 ++ rest ∨ p ∈ [s]) (h3 : @Ne Nat c3.1 s.1) (h2 : @Ne Nat c2.1 s.1) (h1 : @Ne Nat c1.1 s.1) (h0 : @Ne Nat tb.1 s.1) (hX : ∀ p ∈ X, p.1 ≠ s.1) : ∀ p ∈ c3 :: c2 :: c1 :: tb :: (n1 ++ X), p ∈ n1 ++ rest := by
  have key : ∀ p ∈ c3 :: c2 :: c1 :: tb :: s :: X, @Ne Nat p.1 s.1 → p ∈ n1 ++ rest := fun p hp hn => by
    rcases hmem p hp with h | h
    · exact h
    · rw [List.mem_singleton.mp h] at hn; exact absurd rfl hn
  refine List.forall_mem_cons.mpr ⟨key _ (.head _) h3, List.forall_mem_cons.mpr ⟨key _ (.tail _ (.head _)) h2, List.forall_mem_cons.mpr ⟨key _ (.tail _ (.tail _ (.head _))) h1, List.forall_mem_cons.mpr ⟨key _ (.tail _ (.tail _ (.tail _ (.head _)))) h0, fun p hp => ?_⟩⟩⟩⟩
  rcases List.mem_append.mp hp with hp | hp
  · exact List.mem_append_left _ hp
  · exact key p (.tail _ (.tail _ (.tail _ (.tail _ (.tail _ hp))))) (hX p hp)
theorem off_new {n1 led sub : Led} {c : Addr} {o : Obj} (hf : ∀ p ∈ n1, (∀ q ∈ led, @Ne Nat q.1 p.1) ∨ ∃ q ∈ sub, q.1 = p.1) (hm : (c, o) ∈ led) (hs : ∀ q ∈ sub, @Ne Nat q.1 c) : ∀ p ∈ n1, p.1 ≠ c := fun p hp e => by
  rcases hf p hp with h | ⟨q, hq, e2⟩
  · exact h _ hm (show c = p.1 from e.symm)
  · exact hs q hq (show q.1 = c from e2.trans e)
theorem off_app {n1 X : Led} {c : Addr} (h : ∀ p ∈ n1, p.1 ≠ c) (h' : ∀ p ∈ X, p.1 ≠ c) : ∀ p ∈ n1 ++ X, p.1 ≠ c := fun p hp => (List.mem_append.mp hp).elim (h p) (h' p)
theorem row_mono {X X' : Led} (h : ∀ p ∈ X, p ∈ X') {a : Addr} {d : NodeD} (i : RowIn X a d) : RowIn X' a d :=
  rowIn_k i fun t1 t2 t3 t4 t5 pv c at' ns cs as a1 a2 a3 a4 a5 a6 a7 a8 a9 => ⟨t1, t2, t3, t4, t5, pv, c, at', ns, cs, as, inst_mono h a1, a2, a3, lst_mono h a4, a5, lst_mono h a6, a7, a8, a9⟩
theorem tree_mono {X X' : Led} (h : ∀ p ∈ X, p ∈ X') {T : Addr} {dl : List NodeD} (i : TreeIn X T dl) : TreeIn X' T dl := by
  obtain ⟨R, refs, a1, a2, a3, a4, a5⟩ := i
  refine ⟨R, refs, inst_mono h a1, lst_mono h a2, a3, a4, fun i d e => ?_⟩
  obtain ⟨a, b, c⟩ := a5 i d e
  exact ⟨a, b, row_mono h c⟩
theorem rowsL_mono {X X' : Led} (h : ∀ p ∈ X, p ∈ X') {rl : Addr} {ks : List (Str × Str × Str)} {vs : List Value} {n : Nat} (i : RowsL X rl ks vs n) : RowsL X' rl ks vs n := by
  refine ⟨h _ i.1, i.2.1, fun j k e => ?_⟩
  obtain ⟨tu, p, t0, t1, t2, t3, q⟩ := i.2.2 j k e
  exact ⟨tu, p, t0, t1, t2, t3, tp_mono h q⟩
theorem doc12_small : doc12.length < 2 ^ 20 ∧ ∀ d ∈ doc12, d.children.length ≤ 100 ∧ d.attrs.length ≤ 100 := by decide +kernel
theorem room_d : callerA.depth + 1 + 60 < recursionLimit := by decide
theorem room_u : callerA.units + 3 + 900 < cLine := by decide
theorem eq_par {prog : Program} {w : World} {A : Around} {E : Value → Shared → Prop} {s : Shared} {v1 v2 : Value} {p1 p2 : Option Int} {Q : Value → Shared → Prop} (h1 : IsPar v1 p1) (h2 : IsPar v2 p2) (h : Q (.bool (p1 == p2)) s) : wpAny (model prog w) A (compareOp .Eq v1 v2) Q E s := by
  cases p1 with
  | none =>
    have h1 : v1 = .none := h1
    subst h1
    cases p2 with
    | none =>
      have h2 : v2 = .none := h2
      subst h2
      exact PySem.EqNone.eq_none_none h
    | some b =>
      obtain ⟨u, e⟩ := h2
      subst e
      exact PySem.EqNone.eq_none_int h
  | some a =>
    obtain ⟨t, e⟩ := h1
    subst e
    cases p2 with
    | none =>
      have h2 : v2 = .none := h2
      subst h2
      exact PySem.EqNone.eq_int_none h
    | some b =>
      obtain ⟨u, e⟩ := h2
      subst e
      exact PyProof.Rows.eq_int h
local macro_rules | `(tactic| walk_at "compareOp Eq") => `(tactic| (k_here; k_dflt (refine' eq_par ?k1 ?k2 ?_; (case k1 => assumption); (case k2 => assumption); k_whole)))
def TokQ (v : Tok → Value) (s : Shared) (v' : Value) (s' : Shared) : Prop := ∃ (tt : Tok) (tk' : Nat), v' = v tt ∧ s' = { s with toks := tk' }
theorem join_tok {prog : Program} {w : World} {A : Around} {E : Value → Shared → Prop} {s : Shared} {t : Sem Value} {Q : Value → Shared → Prop} (v : Tok → Value) (h1 : wpAny (model prog w) A t (TokQ v s) E s) (h2 : ∀ tt tk', Q (v tt) { s with toks := tk' }) : wpAny (model prog w) A t Q E s := by
  refine wpAny_mono h1 (fun v' s' h => ?_) fun _ _ z => z
  obtain ⟨tt, tk', e1, e2⟩ := h
  subst e1 e2
  exact h2 tt tk'
local macro_rules | `(tactic| walk_at "call builtin:dict.get") => `(tactic| (refine' wait_pair ?hm ?_; (case hm => assumption)))
theorem law_walk {d : DefRec} {kwd : List (Str × PySem.Expr)} (e : defOf hd.view_1 PySem.Challenge.rw_nu0073_01.row.toRowW.name = some (d, kwd)) : WalkO hd.view_1 [] (XL hd.view_1 []) hk1.says PySem.Challenge.rw_nu0073_01.row.toRowW d kwd fun f vs => PySem.call f vs := by
  have e0 : defOf hd.view_1 PySem.Challenge.rw_nu0073_01.row.toRowW.name = some (_, _) := rfl
  cases e0.symm.trans e
  clear e e0
  unfold hk1
  k_go0
  all_goals try k_fold
  rename World => ww
  rename Shared => ss
  k_steps
  refine Stop.out ?_
  rename_i NN l0
  have hdp := room_d
  have hun := room_u
  refine ob2_3 (isList_obj lifted) ?_
  intro osc qsc e1 e2 e3
  (try k_fold); refine con_callZ (law_pool_con _ _ osc _ _ _ qsc [(_, osc)] _ (.head _) e2 e3 (by assumption) ?hlen) (by k_asm) (by k_asm) (by k_asm) NN (by assumption) (by exact List.forall_mem_cons.mpr ⟨e1, List.forall_mem_nil _⟩) rfl (by walk_at "own r") (by walk_at "own r") ?_
  case hlen =>
    rename IntsAre _ _ => hiA
    have hiL := hiA.length
    omega
  intro h1 tk1
  refine kx6_rnpppp ?_
  intro sl a b ta tb n fsl ha hb hb2 F1 N1
  have fl3 : @LT.lt Nat _ _ sl := fsl _ (.head _)
  have fl2 : @LT.lt Nat _ _ sl := fsl _ (.tail _ (.head _))
  have fl1 : @LT.lt Nat _ _ sl := fsl _ (.tail _ (.tail _ (.head _)))
  have fl0 : @LT.lt Nat _ _ sl := fsl _ (.tail _ (.tail _ (.tail _ (.head _))))
  have l0' : @LT.lt Nat _ _ _ := l0
  dsimp only at fl3 fl2 fl1 fl0
  clear fsl NN e1 e2 e3
  k_steps
  refine Stop.out ?_
  refine con_callZ (con_frameF (ro := []) (sub := []) (fun p hp => by cases hp) (law_document_con _ _)) (by k_asm) (by k_asm) (by k_asm) (by k_asm) (by assumption) (fun p hp => by cases hp) rfl (by walk_at "own r") (by walk_at "own r") ?_
  intro h2 tk2
  refine kx_frame (kx6_rqqq ?_)
  intro n1 tp Tr rwl vrs nr ktp htp hdoc hrows hP F2 N2
  have hfr := hP.2
  clear hP
  rw [restL_nil] at N2
  have N3 := cb_drop N2 perm_law
  have o3 := off_new (o := _) hfr (.tail _ (.head _)) (fun q hq => by cases hq)
  have o2 := off_new (o := _) hfr (.tail _ (.tail _ (.head _))) (fun q hq => by cases hq)
  have o1 := off_new (o := _) hfr (.tail _ (.tail _ (.tail _ (.head _)))) (fun q hq => by cases hq)
  have o0 := off_new (o := _) hfr (.tail _ (.tail _ (.tail _ (.tail _ (.head _))))) (fun q hq => by cases hq)
  have os := off_new (o := _) hfr (.head _) (fun q hq => by cases hq)
  have hT := docl_tree hdoc doc12_small.1 doc12_small.2
  clear N2 hfr hdoc
  k_steps
  refine Stop.out ?_
  refine assign_led (vs := [.ref Tr, .ref rwl]) (by k_asm) N3 (.tail _ (.tail _ (.tail _ (.tail _ (.tail _ htp))))) rfl rfl rfl ?_
  intro h3 F3 N4
  k_steps
  refine Stop.out ?_
  rename_i h4 o3' d3 h5 o2' F5 N5 d2
  refine con_callZ (con_frameF (ro := []) (sub := [(sl, _)]) (List.forall_mem_cons.mpr ⟨.tail _ (.tail _ (.tail _ (.tail _ (.head _)))), List.forall_mem_nil _⟩) (law_rules_con _ sl a b ta tb n _ ha hb hb2)) (by k_asm) (by k_asm) (by k_asm) N5 (by assumption) (fun p hp => by cases hp) rfl (by walk_at "own r") (by walk_at "own r") ?_
  intro h6 tk6
  refine kx_frame (kx9_rqqqqpp ?_)
  intro n2 tp2 rl tl k2 vs ts nv nt ds htp2 hrl htl hst hd1 hd7 hP F6 N6
  have hmem := hP.1
  have hfr := hP.2
  clear hP
  have N7 := cb_drop N6 (perm_rules hmem (Nat.ne_of_lt fl3) (Nat.ne_of_lt fl2) (Nat.ne_of_lt fl1) (Nat.ne_of_lt fl0) os)
  refine exq (n2 ++ n1) ?_
  intro Y hY
  have y3 := off_app (off_new (o := _) hfr (.head _) (List.forall_mem_cons.mpr ⟨Nat.ne_of_gt fl3, List.forall_mem_nil _⟩)) o3
  have y2 := off_app (off_new (o := _) hfr (.tail _ (.head _)) (List.forall_mem_cons.mpr ⟨Nat.ne_of_gt fl2, List.forall_mem_nil _⟩)) o2
  have y1 := off_app (off_new (o := _) hfr (.tail _ (.tail _ (.head _))) (List.forall_mem_cons.mpr ⟨Nat.ne_of_gt fl1, List.forall_mem_nil _⟩)) o1
  have y0 := off_app (off_new (o := _) hfr (.tail _ (.tail _ (.tail _ (.head _)))) (List.forall_mem_cons.mpr ⟨Nat.ne_of_gt fl0, List.forall_mem_nil _⟩)) o0
  rw [← hY] at N7 y3 y2 y1 y0
  have u2 : ∀ p ∈ n2, p ∈ Y := fun p hp => hY ▸ List.mem_append_left _ hp
  have u1 : ∀ p ∈ n1, p ∈ Y := fun p hp => hY ▸ List.mem_append_right _ hp
  replace hT := tree_mono u1 hT
  replace hrows := rowsL_mono u1 hrows
  replace hst := rules_mono u2 hst
  replace htp2 := u2 _ htp2
  replace hrl := u2 _ hrl
  replace htl := u2 _ htl
  clear hmem hfr N6 hY u2 u1 o3 o2 o1 o0 os htp N5 F5 fl3 fl2 fl1 fl0
  k_steps
  refine Stop.out ?_
  refine assign_led (vs := [.ref rl, .ref tl]) (by k_asm) N7 (.tail _ (.tail _ (.tail _ (.tail _ htp2)))) rfl rfl rfl ?_
  intro h8 F8 N8
  k_steps
  refine Stop.out ?_
  rename_i ff cc occ vcc tcc ctf dcf _ _ dc1 dc2 lc lf h9 F9 N9
  generalize hfo : fnMade _ _ _ _ _ _ _ _ _ _ = fo at N9
  have up6 : ∀ (s1 s2 s3 s4 s5 s6 : Addr × Obj), ∀ p ∈ Y, p ∈ s1 :: s2 :: s3 :: s4 :: s5 :: s6 :: Y := fun _ _ _ _ _ _ p hp => .tail _ (.tail _ (.tail _ (.tail _ (.tail _ (.tail _ hp)))))
  (try k_fold); refine con_callZ (con_read (ro := []) (in_rank_con _ rl (vs.zip ds) _ [] ?hl ?hp ?hsz)) (by k_asm) (by k_asm) (by k_asm) N9 (by assumption) (fun p hp => by cases hp) rfl (by walk_at "own r") (by walk_at "own r") ?_
  case hl => rw [(zip_maps hst.rules.1).1]; exact ⟨nv, up6 _ _ _ _ _ _ _ hrl⟩
  case hp => exact psIn_mono (up6 _ _ _ _ _ _) (psIn_of hst)
  case hsz => rw [List.length_zip]; omega
  intro h10 tk10
  refine kx_read (kx2_rnp ?_)
  intro rk kr xx0 F10 N10
  clear xx0
  refine ob1_6 (rank_facts hst) ?_
  intro R hR hRs hRb hRp hRl hRperm
  rw [← hR] at N10
  dsimp only [List.cons_append, List.nil_append] at N10
  clear N9 hR F9
  k_steps
  refine Stop.out ?_
  rename Fr _ _ _ _ => F11
  rename News _ _ _ _ => N11
  have q0 : @Ne Nat rk 668 := news_neD N11 (.head _) (.tail _ (.tail _ (.tail _ (.tail _ (.tail _ (.tail _ (.head _))))))) (fun e => by cases congrArg Obj.cls e)
  have q1 := news_neD N11 (.head _) (.tail _ (.tail _ (.tail _ (.tail _ (.tail _ (.head _)))))) (ne_cell (by assumption))
  have q2 := news_neD N11 (.head _) (.tail _ (.tail _ (.tail _ (.tail _ (.head _))))) (ne_cell (by assumption))
  have q3 := news_neD N11 (.head _) (.tail _ (.tail _ (.tail _ (.head _)))) (ne_cell (by assumption))
  replace N11 := cb_drop N11 perm_rank
  have z3 := off3 (a := (rk, _)) (b := (ff, fo)) (c := (cc, occ)) q3 (Nat.ne_of_gt (Nat.lt_trans lc.1 lf)) (Nat.ne_of_gt lc.1) y3
  have z2 := off3 (a := (rk, _)) (b := (ff, fo)) (c := (cc, occ)) q2 (Nat.ne_of_gt (Nat.lt_trans lc.2.1 lf)) (Nat.ne_of_gt lc.2.1) y2
  have z1 := off3 (a := (rk, _)) (b := (ff, fo)) (c := (cc, occ)) q1 (Nat.ne_of_gt (Nat.lt_trans lc.2.2.1 lf)) (Nat.ne_of_gt lc.2.2.1) y1
  have z0 := off3 (a := (rk, listOf (R.map (·.1)).toArray kr)) (b := (ff, fo)) (c := (cc, occ)) q0 (Nat.ne_of_gt (Nat.lt_trans lc.2.2.2.1 lf)) (Nat.ne_of_gt lc.2.2.2.1) y0
  refine exq ((rk, listOf (R.map (·.1)).toArray kr) :: (ff, fo) :: (cc, occ) :: Y) ?_
  intro Y2 hY2
  rw [← hY2] at N11 z3 z2 z1 z0
  dsimp only at z3 z2 z1
  have hrk : (rk, listOf (R.map (·.1)).toArray kr) ∈ Y2 := hY2 ▸ .head _
  have hff : (ff, fo) ∈ Y2 := hY2 ▸ .tail _ (.head _)
  have hcc : (cc, occ) ∈ Y2 := hY2 ▸ .tail _ (.tail _ (.head _))
  have uY : ∀ p ∈ Y, p ∈ Y2 := fun p hp => hY2 ▸ .tail _ (.tail _ (.tail _ hp))
  replace hT := tree_mono uY hT
  replace hrows := rowsL_mono uY hrows
  replace hst := rules_mono uY hst
  replace hrl := uY _ hrl
  replace htl := uY _ htl
  replace hRp := psIn_mono uY hRp
  clear uY hY2 htp2 y3 y2 y1 y0 q3 q2 q1 q0 lc lf
  have hdet := det_of N11 sub4 hRp
  have hR100 : (R.map (·.1)).length ≤ 1000 := by rw [List.length_map, hRl]; omega
  refine eval_comp_led (FF := fun v y => ∃ (rd : RuleD) (t : Tok), (v, rd) ∈ R ∧ y = .int rd.place t) (vs := R.map (·.1)) (by rfl) (by rfl) (by decide) (by rfl) (by decide) (by rfl) (by k_asm) N11 (sub4 _ hrk) hR100 ?_ ?_ ?_
  · intro Q' h; k_steps; exact h _
  · intro C i v s₃ m₃ E' hv hns hm F₁ N₁
    obtain ⟨p, hp, rfl⟩ : ∃ p ∈ R, p.1 = v := by
      have := List.mem_of_getElem? hv
      simpa using this
    obtain ⟨ra, hra, rin, -⟩ := hRp p hp
    obtain ⟨pt, pr, bd, mv, t1, t2, t3, t4, ia, -⟩ := id rin
    rw [hra] at hm
    k_steps
    · exact hp
    · exact ⟨_, _, rfl, fun _ _ e => e⟩
  intro D h12 tk12 ys k12 hP F12 N12 hD
  have hints := places_ints hdet (fun _ h => h) hP
  have hl64 : (R.map (·.2.place)).length < 64 := by rw [List.length_map, hRl]; omega
  k_steps
  refine Stop.out ?_
  refine kso_sorted (by k_asm) (by k_asm) (News.isList N12 (.head _)) hints hl64 ?_
  intro D2 us2 ns2 c2 h13 F13 N13 hD2 hi2 hl2 hperm hsort hxx
  clear hxx
  obtain rfl : ns2 = (List.range ds.length).map Int.ofNat := sorted_eq (hperm.trans hRperm) hsort (range_sorted _)
  clear hl2 hperm hsort hints
  k_steps
  refine Stop.out ?_
  refine len_list (News.isList (by k_asm) (.tail _ (.tail _ (sub4 _ hrl)))) (by simp only [List.size_toArray]; have := hst.rules.1; omega) ?_
  k_steps
  refine Stop.out ?_
  have evs : vs.toArray.size = ds.length := by rw [List.size_toArray]; exact hst.rules.1
  rw [evs]
  refine range_N (by k_asm) (by k_asm) ?_
  intro rg h14 tk14 u14 v14 F14 N14 hrg
  k_steps
  refine Stop.out ?_
  refine list_range_N (by rfl) (by k_asm) (by k_asm) hrg (by omega) ?_
  intro D3 us3 c3 h15 tk15 F15 N15 hD3 hi3
  k_steps
  refine Stop.out ?_
  refine ne_intsK (News.isList N15 (.tail _ (.head _))) hi2 (News.isList N15 (.head _)) hi3 (show callerA.units + 3 + 64 < cLine by omega) ?_
  rw [decide_eq_true (rfl : (List.range ds.length).map Int.ofNat = _), Bool.not_true]
  have N16 := cb_drop N15 (fun p hp => .tail _ (.tail _ (.tail _ hp)))
  clear N15 N14 hrg hi3 hi2 hD3 hD2 hD N13 N12 F12 F13 F14
  k_steps
  refine Stop.out ?_
  rename Fr _ _ _ _ => F16
  refine For_turns F16 ?_
  k_steps
  refine Stop.out ?_
  refine slice_list (s := ⟨_, _, _, _, _⟩) F16 N16 (News.isList N16 (sub4 _ hrk)) (.int _ _) .none ?_ ?hs ?ht ?hz
  case hs => with_unfolding_all rfl
  case ht => intro _; with_unfolding_all rfl
  case hz => (have hsl := sizeLine_eq; rw [List.size_toArray]; omega)
  intro h17 F17 N17
  rw [slice_one _ (by rw [List.length_map, hRl]; exact hd1)] at N17
  k_steps
  refine Stop.out ?_
  refine ktu_zip (xs := R.map (·.1)) (ys := (R.map (·.1)).drop 1) (by rfl) F17 N17 (.tail _ (sub4 _ hrk)) rfl rfl (.head _) rfl rfl ?_
  intro I hI
  refine items_loopZ (fun m => ∃ u, m = withL [(Str.ofString "rules", .ref rl), (Str.ofString "told", .ref tl), (Str.ofString "_law_is_first", .ref ff), (Str.ofString "ranked", .ref rk)] u) ?hk ?hoff ?done _ ?turn _ ?hm
  case hk => exact ⟨.tail _ (sub4 _ hrk), .head _, trivial⟩
  case hm => exact ⟨_, withL_selfR rfl⟩
  case hoff =>
    exact fun p hp => zip_off (hI p hp)
  case turn =>
    intro a ha v h tk m its ⟨u, hmu⟩ hav F₁ hi N₁
    try k_fold
    subst hmu
    obtain ⟨p, q, rfl, hp, hq, hab⟩ := zip_next hRs a ha
    obtain ⟨T1, t1, rfl, hT1⟩ := hav
    -- DEV<
    refine assign_tup (vs := [p.1, q.1]) F₁ N₁ hT1 (by rfl) (by rfl) (by rfl) ?_
    intro h18 F18 N18
    replace N18 := same_news F17 N18
    replace F18 := same_fr F17 F18
    refine ob1_3 (hRp p hp) ?_
    intro a1 e1 r1 pr1
    refine ob1_3 (hRp q hq) ?_
    intro a2 e2 r2 pr2
    rw [e1, e2]
    refine ob8_5 (r1) ?_
    intro pta pra bda mva u1 u2 u3 u4 i1 _ _ _ ip1
    refine ob8_5 (r2) ?_
    intro ptb prb bdb mvb w1 w2 w3 w4 i2 _ _ _ ip2
    have m1 : IntMulOk p.2.p0 q.2.p1 := mul_pr pr1.1 pr1.2.1
    have m2 : IntMulOk q.2.p0 p.2.p1 := mul_pr pr2.1 pr2.2.1
    have hcr := (above_iff p.2 q.2).mp hab
    unfold cross at hcr
    clear F₁ N₁ F17 N17 hT1
    k_steps
    all_goals exact TurnZ.intro (by k_asm) (by k_asm) sub0 ⟨_, withL_selfR rfl⟩
    -- DEV>
  rintro m18 h18 tk18 ⟨u18, hu18⟩ F18 N18
  subst hu18
  replace N18 := same_news F17 (cb_drop N18 (fun p hp => .tail _ hp))
  replace F18 := same_fr F17 F18
  clear F17 N17 hI
  k_steps
  refine Stop.out ?_
  rename_i od F0 N0 hlo hdo hfo2 apo l10
  refine kla_eval (by exact rfl) ?_
  refine' kla_nest (by k_asm) (by k_asm) (by k_asm) (by kn_code) (by exact rfl) ?U ?t ?n ?cl ?_
  case U => k_updF
  case t => kn_triples
  case n => kn_among
  case cl => exact rfl
  intro lf lc2 oc2 vs2 t2 ct2 h19 tk19 F19 N19 d19 e19 l19 l20
  dsimp only at N19
  k_steps
  refine Stop.out ?_
  (try k_fold); refine con_callZ (mk_look_con _ _ _ _ [] _) (by k_asm) (by k_asm) (by k_asm) N19 (by assumption) (fun p hp => by cases hp) rfl (by walk_at "own r") (by walk_at "own r") ?_
  intro h20 tk20
  refine kx4_rnpppp ?_
  intro lk dx les lz ldx xx0 lxx lde F20 N20
  clear xx0
  generalize hklo : kla_obj _ _ _ _ _ _ _ _ _ = klo at N20 ldx
  have v3 := off_look (o1 := instObj 246 dx) (o2 := dictOf les lz) (o3 := klo) (o4 := oc2) (o5 := od) (x := _) (D := _) (fun e => apo _ (.head _) e) (l19 _ (.tail _ (.head _))) l20 (ldx _ (.tail _ (.tail _ (.tail _ (.head _))))) lxx z3
  have v2 := off_look (o1 := instObj 246 dx) (o2 := dictOf les lz) (o3 := klo) (o4 := oc2) (o5 := od) (fun e => apo _ (.tail _ (.head _)) e) (l19 _ (.tail _ (.tail _ (.head _)))) l20 (ldx _ (.tail _ (.tail _ (.tail _ (.tail _ (.head _)))))) lxx z2
  have v1 := off_look (o1 := instObj 246 dx) (o2 := dictOf les lz) (o3 := klo) (o4 := oc2) (o5 := od) (fun e => apo _ (.tail _ (.tail _ (.head _))) e) (l19 _ (.tail _ (.tail _ (.tail _ (.head _))))) l20 (ldx _ (.tail _ (.tail _ (.tail _ (.tail _ (.tail _ (.head _))))))) lxx z1
  have v0 := off_look (x := 668) (o1 := instObj 246 dx) (o2 := dictOf les lz) (o3 := klo) (o4 := oc2) (o5 := od) (fun e => apo _ (.tail _ (.tail _ (.tail _ (.head _)))) e) (l19 (668, _) (.tail _ (.tail _ (.tail _ (.tail _ (.head _)))))) l20 (ldx (668, _) (.tail _ (.tail _ (.tail _ (.tail _ (.tail _ (.tail _ (.head _)))))))) lxx z0
  replace N20 := cb_drop N20 perm_look
  refine exq ((lk, instObj 246 dx) :: (dx, dictOf les lz) :: (lf, klo) :: (lc2, oc2) :: (h18.objs.size, od) :: Y2) ?_
  intro Y3 hY3
  rw [← hY3] at N20 v3 v2 v1 v0
  clear N19 F19 z3 z2 z1 z0 ldx l19 l20 apo l10
  dsimp only at v1 v2 v3
  have uY : ∀ p ∈ Y2, p ∈ Y3 := fun p hp => hY3 ▸ .tail _ (.tail _ (.tail _ (.tail _ (.tail _ hp))))
  have m1 : (lk, instObj 246 dx) ∈ Y3 := hY3 ▸ .head _
  have m2 : (dx, dictOf les lz) ∈ Y3 := hY3 ▸ .tail _ (.head _)
  have hkl : (lf, klo) ∈ Y3 := hY3 ▸ .tail _ (.tail _ (.head _))
  have hc2 : (lc2, oc2) ∈ Y3 := hY3 ▸ .tail _ (.tail _ (.tail _ (.head _)))
  have m3 : (h18.objs.size, od) ∈ Y3 := hY3 ▸ .tail _ (.tail _ (.tail _ (.tail _ (.head _))))
  have hlook : LookIn _ Y3 lk Tr lf := ⟨_, inst_of m1 m2 lde, names_of hlo m3 hdo⟩
  replace hT := tree_mono uY hT
  replace hrows := rowsL_mono uY hrows
  replace hst := rules_mono uY hst
  replace hrl := uY _ hrl
  replace htl := uY _ htl
  replace hrk := uY _ hrk
  replace hff := uY _ hff
  replace hcc := uY _ hcc
  replace hRp := psIn_mono uY hRp
  clear hY3 uY m1 m2 m3 lde hlo hdo hfo2 lxx hdet
  rw [← hklo] at hkl
  have hvo : ∀ ro : Led, (∀ p ∈ Y3, p ∈ ro) → ValueOf ww ro lf := by
    -- DEV<
    intro ro hsub
    refine ⟨⟨_, _, _, _, hsub _ hkl⟩, ?_⟩
    intro nn vt hnn nw v a b u1 u2
    refine con_lam (D := 0) (U := 17) [(Str.ofString "expr", .ref nn), (Str.ofString "node", v), (Str.ofString "position", .int a u1), (Str.ofString "size", .int b u2)] [(Str.ofString "size", .int b u2), (Str.ofString "position", .int a u1), (Str.ofString "node", v), (Str.ofString "expr", .ref nn)] (hsub _ hkl) (hsub _ hc2) d19 e19 rfl rfl (locs rfl) (by decide) rfl rfl rfl ?_
    intro prog mean mg mb dp un gd outer A₀ base g L s Q B F X N T hro hlt hd hu hret
    k_steps
    all_goals exact hret _ _ _ _ _ ⟨rfl, rfl⟩ (by k_asm) (by k_asm)
    -- DEV>
  clear hkl hc2 d19 e19 hklo
  rw [← hfo] at hff
  have hfirst : ∀ ro : Led, (∀ p ∈ Y3, p ∈ ro) → (ss.heap.objs.size + 1 + 1 + 1, o3') ∈ ro → (ss.heap.objs.size + 1 + 1, o2') ∈ ro → ∀ (k : Nat) (d : NodeD) (tu : Addr), doc12[k]? = some d → RowTp ro tu (k : Int) d → FirstOk ww ro ff tu k d := by
    -- DEV<
    intro ro hsub hc3 hc2 k d tu hd hrow
    refine ⟨⟨_, _, _, _, hsub _ hff⟩, ?_⟩
    intro t at' ta td hti htd nw
    have hok := testOk_of htd
    have hT' := tree_mono hsub hT
    have hR' := rowsL_mono hsub hrows
    obtain ⟨R0, refs0, iT, -, -, -, -⟩ := id hT'
    refine con_nest (D := 5) (U := 197) [(Str.ofString "row", .ref tu), (Str.ofString "axis_here", .str (axS at') ta), (Str.ofString "test", .ref t)] [(Str.ofString "test", .ref t), (Str.ofString "axis_here", .str (axS at') ta), (Str.ofString "row", .ref tu)] (hsub _ hff) (hsub _ hcc) dc1 dc2 rfl rfl (locs rfl) (by decide) rfl rfl rfl ?_
    intro prog mean mg mb dp un gd outer A₀ base g L s Q B F X N T hro hlt hdd hu hret
    k_steps
    refine Stop.out ?_
    refine for_ro (fun i m₁ nw₁ => nw₁ = nw ∧ (∃ u, m₁ = withL [(Str.ofString "row", .ref tu), (Str.ofString "axis_here", .str (axS at') ta), (Str.ofString "test", .ref t)] u) ∧ ∀ j, j < i → predF k d at' td j = false) rfl (IsLst.at0 ⟨nr, hR'.1⟩ hro) (by k_asm) (by k_asm) ?_
      ⟨rfl, ⟨_, withL_selfR rfl⟩, fun j hj => absurd hj (Nat.not_lt_zero _)⟩ rfl rfl ?_ ?_ (by intro _; rfl)
    · intro Q' h; k_steps; exact h
    · intro i v m₁ news₁ h tk I oI hv
      revert m₁ news₁
      refine kxn1_r_p ?_
      intro u hno F₁ N₁ hI
      try k_fold
      obtain ⟨tu2, o, rfl, hdo, hrow2, p1, p2⟩ := row_at hR' hv
      with_reducible refine ob4_1 (by k_dflt (exact hrow)) ?_
      intro a0 a1 a2 a3 itp
      with_reducible refine ob4_1 (by k_dflt (exact hrow2)) ?_
      intro b0 b1 b2 b3 itp2
      dsimp only at F₁ N₁
      have hi : i < 12 := doc_len ▸ (List.getElem?_eq_some_iff.mp hdo).1
      k_steps
      all_goals (try dsimp only)
      all_goals first
        | exact hret _ _ _ _ _ ⟨rfl, by rw [isFirst_at hi (predF_k (by assumption)).1 hno, (predF_k (d := d) (at' := at') (td := td) (by assumption)).2]⟩ (by k_asm) (cb_drop (by k_asm) sub1)
        | (have hx : predF k d at' td i = true := by
             rw [(predF_of (by assumption) hdo).1, show (o.parent == d.parent) = true by assumption, show lawFits o at' td = true by assumption]
             rfl
           exact hret _ _ _ _ _ ⟨rfl, by rw [isFirst_at hi hx hno, (predF_of (d := d) (at' := at') (td := td) (by assumption) hdo).2]⟩ (by k_asm) (cb_drop (by k_asm) sub1))
        | (have hx : predF k d at' td i = false := by
             rw [(predF_of (by assumption) hdo).1]
             first | (rw [show (o.parent == d.parent) = false by assumption]; rfl) | (rw [show lawFits o at' td = false by assumption]; simp)
           refine TurnV.intro (by k_asm) (by k_asm) sub0 hI ⟨rfl, ⟨_, withL_selfR rfl⟩, fun j hj => ?_⟩
           rcases Nat.lt_succ_iff_lt_or_eq.mp hj with hj | rfl
           · exact hno j hj
           · exact hx)
    · intro m₁ news₁ h tk
      revert m₁ news₁
      refine kxn1_r_p ?_
      intro u hno F₁ N₁
      try k_fold
      dsimp only at F₁ N₁
      rw [hR'.2.1] at hno
      k_steps
      all_goals (try dsimp only)
      all_goals exact hret _ _ _ _ _ ⟨rfl, by rw [isFirst_end hno]⟩ (by k_asm) (by k_asm)
    -- DEV>
  clear hff hcc hfo dc1 dc2
  k_steps
  rename_i h21 oc1 F21 N21 e1c
  refine Stop.out ?_
  refine For_invVF F21 (by rfl) (by rfl) ?_
  k_steps
  refine Stop.out ?_
  refine exq ((ss.heap.objs.size + 1 + 1 + 1, o3') :: (ss.heap.objs.size + 1 + 1, o2') :: (ss.heap.objs.size + 1, oc1) :: Y3) ?_
  intro Bs hBs
  have b3 : (ss.heap.objs.size + 1 + 1 + 1, o3') ∈ Bs := hBs ▸ .head _
  have b2 : (ss.heap.objs.size + 1 + 1, o2') ∈ Bs := hBs ▸ .tail _ (.head _)
  have b1 : (ss.heap.objs.size + 1, oc1) ∈ Bs := hBs ▸ .tail _ (.tail _ (.head _))
  have uB : ∀ p ∈ Y3, p ∈ Bs := fun p hp => hBs ▸ .tail _ (.tail _ (.tail _ hp))
  have l668 : @LT.lt Nat _ 668 ss.heap.objs.size := l0'
  have hB0 : ∀ p ∈ Bs, @Ne Nat p.1 668 := hBs ▸ off3 (show @Ne Nat (ss.heap.objs.size + 1 + 1 + 1) 668 by omega) (show @Ne Nat (ss.heap.objs.size + 1 + 1) 668 by omega) (show @Ne Nat (ss.heap.objs.size + 1) 668 by omega) v0
  have N22 := cb_drop N21 perm_tab
  rw [← hBs] at N22
  clear hBs v3 v2 v1 v0
  replace hT := tree_mono uB hT
  replace hrows := rowsL_mono uB hrows
  replace hst := rules_mono uB hst
  replace hrl := uB _ hrl
  replace htl := uB _ htl
  replace hrk := uB _ hrk
  replace hRp := psIn_mono uB hRp
  replace hlook := look_mono uB hlook
  replace hfirst := fun (ro : Led) (h : ∀ p ∈ Bs, p ∈ ro) => hfirst ro (fun p hp => h p (uB p hp)) (h _ b3) (h _ b2)
  replace hvo := fun (ro : Led) (h : ∀ p ∈ Bs, p ∈ ro) => hvo ro (fun p hp => h p (uB p hp))
  have htab : TabIn 668 lamP lamQ ((668, tabObj (#[] ++ #[rawInt 462, rawInt 4, Value.ref cc] ++ #[rawInt 476, rawInt 34, Value.ref lc2])) :: Bs) := ⟨_, .head _, by kn_triples, .inl (by kn_among)⟩
  refine iter_led (fun i m nw => (∃ u, m = withL [(Str.ofString "rules", .ref rl), (Str.ofString "told", .ref tl), (Str.ofString "_law_is_first", .ref ff), (Str.ofString "ranked", .ref rk)] u) ∧ (∀ p ∈ Bs, p ∈ nw) ∧ TabIn 668 lamP lamQ nw) (by rfl) (fun _ _ _ h => h.2.1 _ hrows.1) F21 N22 ⟨⟨_, rfl⟩, fun p hp => .tail _ hp, htab⟩ ?_ ?_
  · intro i v m₁ news₁ h tk I oI hv
    revert m₁ news₁
    refine kx1_r_q ?_
    intro news₁ u hP F₁ N₁ hI
    have hsub := hP.1
    have htb := hP.2
    clear hP
    try k_fold
    -- DEV<
    replace N₁ := same_news F21 N₁
    replace F₁ := same_fr F21 F₁
    clear F21 N21 N22
    have hra := row_at hrows hv
    clear hv
    revert F₁
    revert hra
    revert v
    refine obv2_vpppp ?_
    intro tu d hd hrow o1' o2' F₁
    k_steps
    refine Stop.out ?_
    refine For_invVF F₁ (by rfl) (by rfl) ?_
    k_steps
    refine Stop.out ?_
    rename_i D h23a l23 l2 h23 F23 N23 l24
    refine ob1_5 (show ∃ ow : Led, News (ghostOf ss.heap [(670, 668)]) ss.heap.objs.size h23 (ow ++ news₁) ∧ (∃ t1 t2, IsTp ow D [.str (Str.ofString "") t1, .str (Str.ofString "m") t2]) ∧ (I, oI) ∈ ow ∧ (l2, listOf [Value.none, .ref D].toArray 0) ∈ ow ∧ OffO ow news₁ from
      ⟨[_, _, _], N23, ⟨_, _, _, .tail _ (.head _)⟩, .tail _ (.tail _ (.head _)), .head _, off_own3 l24.2.2 l23.2 hI⟩) ?_
    intro ow N24 hDm0 hIm hlm hoff
    refine ob2_1 hDm0 ?_
    clear hDm0
    intro mt1 mt2 hDm
    clear l23 l24 N23
    refine iter_led (vs := [Value.none, .ref D]) (n := 0) (fun j m nw => (∃ u, m = withL [(Str.ofString "rules", .ref rl), (Str.ofString "told", .ref tl), (Str.ofString "_law_is_first", .ref ff), (Str.ofString "ranked", .ref rk), (Str.ofString "row", .ref tu)] u) ∧ ∃ X, nw = ow ++ X ∧ OffO ow X ∧ (∀ p ∈ Bs, p ∈ X) ∧ TabIn 668 lamP lamQ X) (by rfl) (fun _ _ _ ⟨_, X, e, _⟩ => e ▸ List.mem_append_left _ hlm) F23 N24 ⟨⟨_, withL_selfR rfl⟩, news₁, rfl, hoff, hsub, htb⟩ ?_ ?_
    · intro j v m₂ news₂ h24 tk24 I2 oI2 hv2
      revert m₂ news₂
      refine jx_uX ?_
      intro u2 X hP F₂ N₂ hI2
      have hoff2 := hP.1
      have hsub2 := hP.2.1
      have htb2 := hP.2.2
      clear hP
      try k_fold
      replace N₂ := same_news F23 N₂
      replace F₂ := same_fr F23 F₂
      refine ob1_2 (mode_two hDm hv2) ?_
      intro md hvh hmd
      clear F23 N24
      with_reducible refine ob4_1 (by k_dflt (exact hrow)) ?_
      intro r0 r1 r2 r3 itp
      have itp2 := tp_mono (X' := (I2, oI2) :: (ow ++ X)) (fun p hp => .tail _ (List.mem_append_right _ (hsub2 p hp))) itp
      k_steps
      refine Stop.out ?_
      have offC : OffO ((I2, oI2) :: ow) X := off_cons hoff2 fun p hp => hI2 p (List.mem_append_right _ hp)
      refine ob1_1 (tabIn_at htb2) ?_
      intro o668 m668
      refine' lam_led (own := (I2, oI2) :: ow) (X := X) (P := 668) (c := 670) (pos := lamP) (qual := lamQ) (by k_asm) (by k_asm) (by k_asm) (by kn_code) (by exact rfl) (by exact rfl) offC (fun q hq => offC q hq _ m668) htb2 (by exact rfl) ?cl ?_
      case cl => exact rfl
      intro lf3 lc3 oc3 vs3 t3 ct3 h25 tk25 X' F25 N25 hoff3 htb3 hl3 hc3 d3a d3b hkeep
      have sB : ∀ p ∈ Bs, p ∈ X' := fun p hp => hkeep p (hsub2 p hp) (hB0 p hp)
      refine exq ((I2, oI2) :: ow ++ X') ?_
      intro ro hro
      have sX : ∀ p ∈ X', p ∈ ro := fun p hp => hro ▸ List.mem_append_right _ hp
      have sR : ∀ p ∈ Bs, p ∈ ro := fun p hp => sX p (sB p hp)
      have sO : ∀ p ∈ ow, p ∈ ro := fun p hp => hro ▸ List.mem_append_left _ (.tail _ hp)
      rw [← hro] at N25
      have hcl : ((ss.heap.objs.size + 1, oc1) : Addr × Obj) ∈ ro := sR _ b1
      have hla : ∀ (nw : Led) (v : Value), Con ww lf3 [v] ro nw 1 20 (fun r n' => n' = nw ∧ r = .ref lk) := by
        intro nw v
        refine con_lam (D := 0) (U := 17) [(Str.ofString "element", v)] [(Str.ofString "element", v)] (sX _ hl3) (sX _ hc3) d3a d3b rfl rfl (locs rfl) (by decide) rfl rfl rfl ?_
        intro prog mean mg mb dp un gd outer A₀ base g L s Q B F X N T hro hlt hdd hu hret
        k_steps
        all_goals exact hret _ _ _ _ _ ⟨rfl, rfl⟩ (by k_asm) (by k_asm)
      have hfa : FnIn ro lf3 := ⟨_, _, _, _, sX _ hl3⟩
      clear hl3 hc3 d3a d3b
      k_steps
      refine Stop.out ?_
      have hRI : RulesIn ro (R.map (·.1)) (R.map (·.2)) := rulesIn_rank (psIn_mono sR hRp)
      have hst' := rules_mono sR hst
      (try k_fold); refine con_callZ (con_read (ro := []) (best_rule_con ww Tr lk lf lf3 rk doc12 i d r0 md v (R.map (·.1)) (R.map (·.2)) ro [] (tree_mono sR hT) docOk12 hd (look_mono sR hlook) (hvo ro sR) (hmd ro sO) ⟨kr, sR _ hrk⟩ hRI hfa hla)) (by k_asm) (by k_asm) (by k_asm) N25 (by assumption) (fun p hp => by cases hp) rfl (by walk_at "own r") (by walk_at "own r") ?_
      intro h26 tk26
      refine kx_read (kx0_nq ?_)
      intro rv26 hres F26 N26
      rw [best_same hRb hst hd md] at hres
      replace N26 : News (ghostOf ss.heap [(670, 668)]) ss.heap.objs.size h26 ro := N26
      have hrow' : RowTp ro tu (i : Int) d := ⟨r0, r1, r2, r3, tp_mono sR itp⟩
      have hlb := law_best_con ww rl tl tu ff i d md v vs ts ds ro [] ⟨nv, sR _ hrl⟩ ⟨nt, sR _ htl⟩ hst' hd7 hrow' o1' o2' (hmd ro sO) (hfirst ro sR i d tu hd hrow')
      clear N25 F25
      have hs3 : ∀ p ∈ (I2, oI2) :: (ow ++ X'), p ∈ ro := fun p hp => by rw [hro]; exact hp
      have hn2 : ∀ p ∈ ow ++ X', p.1 ≠ I2 := fun p hp => (List.mem_append.mp hp).elim (fun h => hI2 p (List.mem_append_left _ h)) (fun h => fun e => hoff3 _ (.head _) p h e.symm)
      cases hb : bestR (lawHit doc12 i d md) ds with
      | none =>
        rw [hb] at hres
        dsimp only at hres
        subst hres
        k_steps
        refine Stop.out ?_
        (try k_fold); refine con_callZ (con_read (ro := []) hlb) (by k_asm) (by k_asm) (by k_asm) (by k_asm) (by assumption) (fun p hp => by cases hp) rfl (by walk_at "own r") (by walk_at "own r") ?_
        intro h27 tk27
        refine kx_read (kx0_nq ?_)
        intro rv27 hlr F27 N27
        replace N27 : News (ghostOf ss.heap [(670, 668)]) ss.heap.objs.size h27 ro := N27
        rw [hb] at hlr
        dsimp only at hlr
        subst hlr
        k_steps
        all_goals exact TurnV.intro (news' := ow ++ X') (by k_asm) (by k_asm) hs3 hn2 ⟨⟨_, withL_selfR rfl⟩, X', rfl, fun p hp q hq => hoff3 p (.tail _ hp) q hq, sB, htb3⟩
      | some rd =>
        rw [hb] at hres
        dsimp only at hres
        obtain ⟨ra, rfl, rin⟩ := hres
        refine ob8_5 (rin) ?_
        intro pta pra bda mva u1 u2 u3 u4 i1 _ _ _ ip1
        k_steps
        refine Stop.out ?_
        (try k_fold); refine con_callZ (con_read (ro := []) hlb) (by k_asm) (by k_asm) (by k_asm) (by k_asm) (by assumption) (fun p hp => by cases hp) rfl (by walk_at "own r") (by walk_at "own r") ?_
        intro h27 tk27
        refine kx_read (kx0_nq ?_)
        intro rv27 hlr F27 N27
        replace N27 : News (ghostOf ss.heap [(670, 668)]) ss.heap.objs.size h27 ro := N27
        rw [hb] at hlr
        dsimp only at hlr
        obtain ⟨t9, rfl⟩ := hlr
        k_steps
        all_goals first
          | exact absurd rfl (show rd.place ≠ rd.place by assumption)
          | exact TurnV.intro (news' := ow ++ X') (by k_asm) (by k_asm) hs3 hn2 ⟨⟨_, withL_selfR rfl⟩, X', rfl, fun p hp q hq => hoff3 p (.tail _ hp) q hq, sB, htb3⟩
    · intro m₂ news₂ h27 tk27
      revert m₂ news₂
      refine jx_uX ?_
      intro u2 X hP F₂ N₂
      have hoff2 := hP.1
      have hsub2 := hP.2.1
      have htb2 := hP.2.2
      clear hP
      try k_fold
      replace N₂ := same_news F23 N₂
      replace F₂ := same_fr F23 F₂
      clear F23 N24
      with_reducible refine ob4_1 (by k_dflt (exact hrow)) ?_
      intro r0 r1 r2 r3 itp
      replace itp := tp_mono (X' := ow ++ X) (fun p hp => List.mem_append_right _ (hsub2 p hp)) itp
      have bi := builtIn6
      have hw : PairsWait := trivial
      k_steps
      refine Stop.out ?_
      try k_fold
      refine join_tok (fun tt => .str (builtInF d.kind) tt) ?_ ?_
      · clear hw
        rcases kind6 hd with hk | hk | hk | hk | hk | hk
        all_goals rw [hk]
        all_goals k_steps
        all_goals first | exact ⟨_, _, congrArg (fun z => Value.str z _) bi.1.symm, rfl⟩ | exact ⟨_, _, congrArg (fun z => Value.str z _) bi.2.1.symm, rfl⟩ | exact ⟨_, _, congrArg (fun z => Value.str z _) bi.2.2.1.symm, rfl⟩ | exact ⟨_, _, congrArg (fun z => Value.str z _) bi.2.2.2.1.symm, rfl⟩ | exact ⟨_, _, congrArg (fun z => Value.str z _) bi.2.2.2.2.1.symm, rfl⟩ | exact ⟨_, _, congrArg (fun z => Value.str z _) bi.2.2.2.2.2.symm, rfl⟩
      clear hw
      intro tt tk30
      k_steps
      refine Stop.out ?_
      try k_fold
      refine con_callZ (built_in_con ww _ _ [] _) (by k_asm) (by k_asm) (by k_asm) (by k_asm) (by assumption) (fun p hp => by cases hp) rfl (by walk_at "own r") (by walk_at "own r") ?_
      intro h29 tk29
      refine kx_n1 ?_
      intro tb9 F29 N29
      k_steps
      all_goals first
        | exact TurnV.intro (news' := X) (by k_asm) (by k_asm) (List.forall_mem_cons.mpr ⟨.tail _ (List.mem_append_left _ hIm), fun p hp => .tail _ (List.mem_append_right _ hp)⟩) (fun p hp e => hoff2 _ hIm p hp e.symm) ⟨⟨_, withL_selfR rfl⟩, hsub2, htb2⟩
        | exact absurd (show (!(builtInF d.kind == builtInF d.kind)) = true by assumption) (by simp)
    -- DEV>
  · intro m₁ news₁ h tk
    revert m₁ news₁
    refine kx1_r_q ?_
    intro news₁ u hP F₁ N₁
    have hsub := hP.1
    have htb := hP.2
    clear hP
    try k_fold
    replace N₁ := same_news F21 N₁
    replace F₁ := same_fr F21 F₁
    clear F21 N21 N22
    iterate 4 (any_goals (try walk1))
    · k_steps
    · obtain ⟨ps, hps, -⟩ := htb
      exact ⟨⟨ps, (N₁ _ hps).1⟩, trivial⟩

-- the names that hold the head's twins off: see NOTES, 'The compiled file's size'
theorem main.tw13962693860625380366 : True := trivial
theorem main.tw2852251193174398662 : True := trivial
theorem main.tw4917070330192852093 : True := trivial
theorem main.tw11273777480241942364 : True := trivial
theorem main.tw8260724100714396741 : True := trivial
theorem main.tw12741544251441588921 : True := trivial
theorem main.tw5084117380071580128 : True := trivial
theorem main.tw11156056980113079860 : True := trivial
theorem main.tw5638201095994319732 : True := trivial
theorem main.tw14864641218109852296 : True := trivial
theorem main.tw14080665800827857628 : True := trivial
theorem main.tw5616070069386785504 : True := trivial
theorem main.tw14027650596787315314 : True := trivial
theorem main.tw8090509862211737132 : True := trivial
theorem main.tw7083192437325867461 : True := trivial
theorem main.tw11857135199678951331 : True := trivial
theorem main.tw1277820614484962519 : True := trivial
theorem main.tw15803610866087392283 : True := trivial
theorem main.tw15491723280356408159 : True := trivial
theorem main.tw15023316991559800185 : True := trivial
theorem main.tw12298629886278197574 : True := trivial
theorem main.tw6801380410627298636 : True := trivial
theorem main.tw9321267617633783869 : True := trivial
theorem main.tw10876375607700338302 : True := trivial
theorem main.tw2704602940660078815 : True := trivial
theorem main.tw12747388180105724736 : True := trivial
theorem main.tw4026956272090484662 : True := trivial
theorem main.tw4719957520787936630 : True := trivial
theorem main.tw17695171507069755227 : True := trivial
theorem main.tw15510692781650021527 : True := trivial
theorem main.tw17292155258170135553 : True := trivial
theorem main.tw4544244032028310869 : True := trivial
theorem main.tw1390771862084280389 : True := trivial
theorem main.tw8905464785575363620 : True := trivial
theorem main.tw5585478044538960755 : True := trivial
theorem main.tw1372806426800153423 : True := trivial
theorem main.tw5181119749688162637 : True := trivial
theorem main.tw15365013842991253249 : True := trivial
theorem main.tw16832360635688203351 : True := trivial
theorem main.tw9498315638749924794 : True := trivial
theorem main.tw471287901995484742 : True := trivial
theorem main.tw13974046611088194958 : True := trivial
theorem main.tw12872379398031375081 : True := trivial
theorem main.tw15616401959046598769 : True := trivial
theorem main.tw8930851030842425676 : True := trivial
theorem main.tw16452447596832230105 : True := trivial
theorem main.tw2744014450722944760 : True := trivial
theorem main.tw5665406974723832613 : True := trivial
theorem main.tw16008457594558532635 : True := trivial
theorem main.tw7624122152786673341 : True := trivial
theorem main.tw8440099810896429113 : True := trivial
theorem main.tw12041191138299487052 : True := trivial
theorem main.tw14216407083858561409 : True := trivial
theorem main.tw10319171114899859076 : True := trivial
theorem main.tw4650958065196391918 : True := trivial
theorem main.tw10992214633131536827 : True := trivial
theorem main.tw4193505271845495863 : True := trivial
theorem main.tw365850788961202214 : True := trivial
theorem main.tw5240779543111244032 : True := trivial
theorem main.tw14457758005677747962 : True := trivial
theorem main.tw6516198228755648517 : True := trivial
theorem main.tw16035907590883218939 : True := trivial
theorem main.tw14539993770535171780 : True := trivial
theorem main.tw1099256609624015869 : True := trivial
theorem main.tw3549514262204291990 : True := trivial
theorem main.tw4908570168794737769 : True := trivial
theorem main.tw7113585516715319716 : True := trivial
theorem main.tw8546124895413445307 : True := trivial
theorem main.tw5842977544298395883 : True := trivial
theorem main.tw17708487481403421675 : True := trivial
theorem main.tw6361450105264607166 : True := trivial
theorem main.tw9563168847844234846 : True := trivial
theorem main.tw1429040668314091153 : True := trivial
theorem main.tw3864431920445960829 : True := trivial
theorem main.tw17146568849442343683 : True := trivial
theorem main.tw15624239662980076321 : True := trivial
theorem main.tw3911810758690780188 : True := trivial
theorem main.tw917386388269078853 : True := trivial
theorem main.tw8905992674379837232 : True := trivial
theorem main.tw12093647306153771053 : True := trivial
theorem main.tw14722489848711283861 : True := trivial
theorem main.tw13180746182150919023 : True := trivial
theorem main.tw5532463470591059822 : True := trivial
theorem main.tw4637267157515435788 : True := trivial
theorem main.tw12677648124622752472 : True := trivial
theorem main.tw6697339332421208802 : True := trivial
theorem main.tw2173562974560187446 : True := trivial
theorem main.tw17147588175821073265 : True := trivial
theorem main.tw10450603732522932521 : True := trivial
theorem main.tw11399646045708457374 : True := trivial
theorem main.tw9994787619460420439 : True := trivial
theorem main.tw11041547156204584376 : True := trivial
theorem main.tw9483120023164983764 : True := trivial
theorem main.tw1678875084529416142 : True := trivial
theorem main.tw1545906260438175962 : True := trivial
theorem main.tw9880953963774564861 : True := trivial
theorem main.tw244467455267321384 : True := trivial
theorem main.tw15737690656516749961 : True := trivial
theorem main.tw12623159325031504133 : True := trivial
theorem main.tw11020365191643786025 : True := trivial
theorem main.tw4630824681090250767 : True := trivial
theorem main.tw10140136200207757160 : True := trivial
theorem main.tw14106445559736802775 : True := trivial
theorem main.tw1677766988990989824 : True := trivial
theorem main.tw17958375852430007124 : True := trivial
theorem main.tw11135027115929721415 : True := trivial
theorem main.tw2629084897520917108 : True := trivial
theorem main.tw6741292078354696603 : True := trivial
theorem main.tw15970538086172389420 : True := trivial
theorem main.tw3090228361581875645 : True := trivial
theorem main.tw4413345314126155841 : True := trivial
theorem main.tw3748114642381145586 : True := trivial
theorem main.tw5127751686995613262 : True := trivial
theorem main.tw12959741745000181155 : True := trivial
theorem main.tw13803360072150633466 : True := trivial
theorem main.tw765107192605250810 : True := trivial
theorem main.tw16721930046160240684 : True := trivial
theorem main.tw12273490649430754879 : True := trivial
theorem main.tw4651154628705390771 : True := trivial
theorem main.tw10877679251791092727 : True := trivial
theorem main.tw7273056430967151046 : True := trivial
theorem main.tw6449824600675878752 : True := trivial
theorem main.tw1519992759497675636 : True := trivial
theorem main.tw5995161000843957690 : True := trivial
theorem main.tw7647378279178456250 : True := trivial
theorem main.tw1253437644075932092 : True := trivial
theorem main.tw10094358506670053839 : True := trivial
theorem main.tw16757190730947197508 : True := trivial
theorem main.tw11752208632293872130 : True := trivial
theorem main.tw3848698983108048278 : True := trivial
theorem main.tw8118072479153026202 : True := trivial
theorem main.tw6044114016751833949 : True := trivial
theorem main.tw4216741518440994707 : True := trivial
theorem main.tw14666387041718499266 : True := trivial
theorem main.tw13406003279186336099 : True := trivial
theorem main.tw918671981122897330 : True := trivial
theorem main.tw2402762420636078793 : True := trivial
theorem main.tw6334894449686545209 : True := trivial
theorem main.tw26460320976224356 : True := trivial
theorem main.tw4324958949535026087 : True := trivial
theorem main.tw2538046985915079169 : True := trivial
theorem main.tw1178595665728414349 : True := trivial
theorem main.tw6161133996638707016 : True := trivial
theorem main.tw5623159541915647742 : True := trivial
theorem main.tw13995172100960836882 : True := trivial
theorem main.tw8281396171620568247 : True := trivial
theorem main.tw14368271195830560734 : True := trivial
theorem main.tw4258139896748403429 : True := trivial
theorem main.tw5289026146741335887 : True := trivial
theorem main.tw11101190512080308003 : True := trivial
theorem main.tw13110970153573199417 : True := trivial
theorem main.tw9942282790977331292 : True := trivial
theorem main.tw13313126695403321540 : True := trivial
theorem main.tw11716418206903941319 : True := trivial
theorem main.tw15558288988949320067 : True := trivial
theorem main.tw13838900630717943254 : True := trivial
theorem main.tw1084220662915027778 : True := trivial
theorem main.tw1469836325065767749 : True := trivial
theorem main.tw15350898050860989542 : True := trivial
theorem main.tw5790326737455844299 : True := trivial
theorem main.tw2406621943657119228 : True := trivial
theorem main.tw13157206579259725088 : True := trivial
theorem main.tw13132915859168520264 : True := trivial
theorem main.tw161903638078081290 : True := trivial
theorem main.tw16544489699163171333 : True := trivial
theorem main.tw6910295442248876197 : True := trivial
theorem main.tw1615956725737779560 : True := trivial
theorem main.tw9561784451562097942 : True := trivial
theorem main.tw6768520987592691376 : True := trivial
theorem main.tw962032349192862916 : True := trivial
theorem main.tw12361340156312767134 : True := trivial
theorem main.tw7308723440029596264 : True := trivial
theorem main.tw5517759331935216279 : True := trivial
theorem main.tw17297283025540448806 : True := trivial
theorem main.tw9925469786538053656 : True := trivial
theorem main.tw14771111431291430275 : True := trivial
theorem main.tw5518243967957118194 : True := trivial
theorem main.tw13355152605343272895 : True := trivial
theorem main.tw16572128252103988241 : True := trivial
theorem main.tw6660377722381337597 : True := trivial
theorem main.tw4812270449578504274 : True := trivial
theorem main.tw10047389527955405517 : True := trivial
theorem main.tw13077236301305049449 : True := trivial
theorem main.tw13547569757486424058 : True := trivial
theorem main.tw1496695287857109588 : True := trivial
theorem main.tw9848185148710128376 : True := trivial
theorem main.tw12646911602827044314 : True := trivial
theorem main.tw7332552209862256014 : True := trivial
theorem main.tw18403998269306519403 : True := trivial
theorem main.tw10453263994017694363 : True := trivial
theorem main.tw2714283472998740243 : True := trivial
theorem main.tw12769153152773381510 : True := trivial
theorem main.tw18195925520682101353 : True := trivial
theorem main.tw15608450976537380609 : True := trivial
theorem main.tw10642606787283503386 : True := trivial
theorem main.tw16992577462220537533 : True := trivial
theorem main.tw16656740534632174751 : True := trivial
theorem main.tw11967333016625521393 : True := trivial
theorem main.tw17471483596442799435 : True := trivial
theorem main.tw11774690029378154688 : True := trivial
theorem main.tw10813080517026676716 : True := trivial
theorem main.tw6164561884633627433 : True := trivial
theorem main.tw12431561837914552411 : True := trivial
theorem main.tw12594366453804578888 : True := trivial
theorem main.tw1319676515408343850 : True := trivial
theorem main.tw221909299271738847 : True := trivial
theorem main.tw8436210846270712021 : True := trivial
theorem main.tw15277975159832343749 : True := trivial
theorem main.tw9361300454564663673 : True := trivial
theorem main.tw12608185968620612914 : True := trivial
theorem main.tw7237411587787531456 : True := trivial
theorem main.tw12564604832814323664 : True := trivial
theorem main.tw452746233719593009 : True := trivial
theorem main.tw4585930131862741453 : True := trivial
theorem main.tw2879834049476664738 : True := trivial
theorem main.tw16292202817602668162 : True := trivial
theorem main.tw11244112418865573338 : True := trivial
theorem main.tw6385024630547198690 : True := trivial
theorem main.tw7697417962357392202 : True := trivial
theorem main.tw16965079339398995527 : True := trivial
theorem main.tw9303439499767911484 : True := trivial
theorem main.tw14798791472264738832 : True := trivial
theorem main.tw10609540516017602915 : True := trivial
theorem main.tw6886502059237256666 : True := trivial
theorem main.tw4924694640843408985 : True := trivial
theorem main.tw1027651156746619712 : True := trivial
theorem main.tw1454224541498743561 : True := trivial
theorem main.tw13693970394777133609 : True := trivial
theorem main.tw10564528347858357063 : True := trivial
theorem main.tw9189880136782149556 : True := trivial
theorem main.tw14235155234550121937 : True := trivial
theorem main.tw14313897822631088780 : True := trivial
theorem main.tw11614107205274993552 : True := trivial
theorem main.tw12252054271945606052 : True := trivial
theorem main.tw16451033083921036709 : True := trivial
theorem main.tw9121559901702372667 : True := trivial
theorem main.tw18218335207050127959 : True := trivial
theorem main.tw656089360051881306 : True := trivial
theorem main.tw6389877041954997217 : True := trivial
theorem main.tw8207831470162742035 : True := trivial
theorem main.tw15225127925928830808 : True := trivial
theorem main.tw17336282652733537790 : True := trivial
theorem main.tw1980160206288974728 : True := trivial
theorem main.tw6855474311058116810 : True := trivial
theorem main.tw453184122279072053 : True := trivial
theorem main.tw2456247091588846565 : True := trivial
theorem main.tw10199874654664476236 : True := trivial
theorem main.tw8466321980469482115 : True := trivial
theorem main.tw11049269918873537771 : True := trivial
theorem main.tw6112859857366181021 : True := trivial
theorem main.tw5372645768047454471 : True := trivial
theorem main.tw5401703158475992631 : True := trivial
theorem main.tw1777545030009416734 : True := trivial
theorem main.tw11646826074482590764 : True := trivial
theorem main.tw3491332818749588091 : True := trivial
theorem main.tw49674306023711395 : True := trivial
theorem main.tw7074144079889050967 : True := trivial
theorem main.tw750237026923860459 : True := trivial
theorem main.tw6559806142732475569 : True := trivial
theorem main.tw17453503289922162039 : True := trivial
theorem main.tw12800608258095302798 : True := trivial
theorem main.tw9175052073728820173 : True := trivial
theorem main.tw8947760058931562597 : True := trivial
theorem main.tw14793117695081215449 : True := trivial
theorem main.tw12463224122652932544 : True := trivial
theorem main.tw18421580907717582127 : True := trivial
theorem main.tw12343854547171428336 : True := trivial
theorem main.tw14027531716089632829 : True := trivial
theorem main.tw10123989817122485451 : True := trivial
theorem main.tw9957550378297406723 : True := trivial
theorem main.tw7698036289167662538 : True := trivial
theorem main.tw16320215318167395912 : True := trivial
theorem main.tw1142173933681417890 : True := trivial
theorem main.tw341453280667917650 : True := trivial
theorem main.tw12139096438432415106 : True := trivial
theorem main.tw14672674291997333471 : True := trivial
theorem main.tw13703585266378288003 : True := trivial
theorem main.tw7943094425149488825 : True := trivial
theorem main.tw18190005008629794160 : True := trivial
theorem main.tw799486724532869496 : True := trivial
theorem main.tw10169072693733980587 : True := trivial
theorem main.tw6981815665589151136 : True := trivial
theorem main.tw11251407683458634364 : True := trivial
theorem main.tw14060465935940456498 : True := trivial
theorem main.tw9897820754763898449 : True := trivial
theorem main.tw16480584520131690045 : True := trivial
theorem main.tw13597483153833180358 : True := trivial
theorem main.tw3464709057266567092 : True := trivial
theorem main.tw13224007501803129859 : True := trivial
theorem main.tw9515011664573035354 : True := trivial
theorem main.tw15579395750891953841 : True := trivial
theorem main.tw4258463428174104133 : True := trivial
theorem main.tw6663778134991626487 : True := trivial
theorem main.tw11349898740250378076 : True := trivial
theorem main.tw8567518541235275850 : True := trivial
theorem main.tw15438212644395081984 : True := trivial
theorem main.tw11125538497796368324 : True := trivial
theorem main.tw11962923498438245051 : True := trivial
theorem main.tw15097543051748444868 : True := trivial
theorem main.tw17456035664235451855 : True := trivial
theorem main.tw17016820405989369747 : True := trivial
theorem main.tw13667920496262714385 : True := trivial
theorem main.tw12450111651097656602 : True := trivial
theorem main.tw4491334807805099456 : True := trivial
theorem main.tw11218778669853930896 : True := trivial
theorem main.tw7165207203227711834 : True := trivial
theorem main.tw9392487213469676918 : True := trivial
theorem main.tw7699798408344515789 : True := trivial
theorem main.tw7929128423345735474 : True := trivial
theorem main.tw12751799325998411230 : True := trivial
theorem main.tw16826212616301561204 : True := trivial
theorem main.tw12992176717851604617 : True := trivial
theorem main.tw17906638245316424091 : True := trivial
theorem main.tw10876229203375891673 : True := trivial
theorem main.tw17881236498052965442 : True := trivial
theorem main.tw11261727412033496967 : True := trivial
theorem main.tw5436791530062809996 : True := trivial
theorem main.tw3454311308915712629 : True := trivial
theorem main.tw9268297945177815525 : True := trivial
theorem main.tw18165044119631177899 : True := trivial
theorem main.tw18031918436515192882 : True := trivial
theorem main.tw5473700226181020891 : True := trivial
theorem main.tw7884331609784382070 : True := trivial
theorem main.tw9302470337196694018 : True := trivial
theorem main.tw13980345723018547825 : True := trivial
theorem main.tw11388154006635350966 : True := trivial
theorem main.tw9069182735580402390 : True := trivial
theorem main.tw12909650291622432550 : True := trivial
theorem main.tw17268439761433841065 : True := trivial
theorem main.tw8729708805864041840 : True := trivial
theorem main.tw5871769198996169552 : True := trivial
theorem main.tw7214478077546791972 : True := trivial
theorem main.tw15955573374722617477 : True := trivial
theorem main.tw9265829497004654079 : True := trivial
theorem main.tw11476092923266045095 : True := trivial
theorem main.tw12941917028564957548 : True := trivial
theorem main.tw1098248734344127483 : True := trivial
theorem main.tw7186131708394509389 : True := trivial
theorem main.tw7268301785047649679 : True := trivial
theorem main.tw7054876372555587774 : True := trivial
theorem main.tw3934531018447913466 : True := trivial
theorem main.tw5234446048077146213 : True := trivial
theorem main.tw545269030811804461 : True := trivial
theorem main.tw2110754180369666209 : True := trivial
theorem main.tw12681957500809781501 : True := trivial
theorem main.tw8102450764968551371 : True := trivial
theorem main.tw2007339730380871907 : True := trivial
theorem main.tw17561526911342447988 : True := trivial
theorem main.tw14562738103837258888 : True := trivial
theorem main.tw14406990849044604362 : True := trivial
theorem main.tw16629339528299215175 : True := trivial
theorem main.tw11092141859048813250 : True := trivial
theorem main.tw3557749057250611081 : True := trivial
theorem main.tw10750994468655217958 : True := trivial
theorem main.tw17431719831054627609 : True := trivial
theorem main.tw6584820252761975732 : True := trivial
theorem main.tw14439473939278146460 : True := trivial
theorem main.tw11712081513822626495 : True := trivial
theorem main.tw3867218068155391060 : True := trivial
theorem main.tw1628013610222277130 : True := trivial
theorem main.tw5837888446457221635 : True := trivial
theorem main.tw3796207824708393856 : True := trivial
theorem main.tw17864028415675338326 : True := trivial
theorem main.tw11221353774195762014 : True := trivial
theorem main.tw9512817274939609580 : True := trivial
theorem main.tw12922898485456448571 : True := trivial
theorem main.tw6785657489111691699 : True := trivial
theorem main.tw11463369355524808266 : True := trivial
theorem main.tw12519306246395310219 : True := trivial
theorem main.tw9670510015898674028 : True := trivial
theorem main.tw13590572293223372214 : True := trivial
theorem main.tw6912675738884088206 : True := trivial
theorem main.tw10204856939554784155 : True := trivial
theorem main.tw451873465583785326 : True := trivial
theorem main.tw18332899500509843999 : True := trivial
theorem main.tw11001617756164336837 : True := trivial
theorem main.tw1409966394225722968 : True := trivial
theorem main.tw13116522157475607773 : True := trivial
theorem main.tw4638281056170512193 : True := trivial
theorem main.tw6140287776057189764 : True := trivial
theorem main.tw3370190323706015969 : True := trivial
theorem main.tw13503263706703578961 : True := trivial
theorem main.tw16136984950599521427 : True := trivial
theorem main.tw12483276189755474720 : True := trivial
theorem main.tw1587290215689348708 : True := trivial
theorem main.tw833945537157984683 : True := trivial
theorem main.tw5240536507193477226 : True := trivial
theorem main.tw3160845607165458772 : True := trivial
theorem main.tw3829396358689915599 : True := trivial
theorem main.tw5309058905264134205 : True := trivial
theorem main.tw18120430973489738927 : True := trivial
theorem main.tw13876859957761632879 : True := trivial
theorem main.tw6877560268529008848 : True := trivial
theorem main.tw8627561154394265716 : True := trivial
theorem main.tw10455743928339290457 : True := trivial
theorem main.tw9557352009045844224 : True := trivial
theorem main.tw3583811862363856187 : True := trivial
theorem main.tw14064073609400967072 : True := trivial
theorem main.tw12518504611687188807 : True := trivial
theorem main.tw12431731261707249289 : True := trivial
theorem main.tw8478376212529829071 : True := trivial
theorem main.tw16135426469972691074 : True := trivial
theorem main.tw11544348965984651327 : True := trivial
theorem main.tw7590696779544312186 : True := trivial
theorem main.tw13348322127785295214 : True := trivial
theorem main.tw15059693217772790739 : True := trivial
theorem main.tw10717781254789130011 : True := trivial
theorem main.tw12488115920082068600 : True := trivial
theorem main.tw10363585996791799541 : True := trivial
theorem main.tw13972245371655741198 : True := trivial
theorem main.tw11311155076762098589 : True := trivial
theorem main.tw9681375758050803366 : True := trivial
theorem main.tw9406782406253462049 : True := trivial
theorem main.tw18238007617527299592 : True := trivial
theorem main.tw11120327062377616369 : True := trivial
theorem main.tw18302796317244248524 : True := trivial
theorem main.tw12543713266681445118 : True := trivial
theorem main.tw3706830351922483016 : True := trivial
theorem main.tw13350764725976880583 : True := trivial
theorem main.tw9417822746687237092 : True := trivial
theorem main.tw12885385263037960081 : True := trivial
theorem main.tw4500915450034043215 : True := trivial
theorem main.tw4139100593308808776 : True := trivial
theorem main.tw10953687544409504101 : True := trivial
theorem main.tw1156462466702112376 : True := trivial
theorem main.tw3562595001068472590 : True := trivial
theorem main.tw2496676261509829067 : True := trivial
theorem main.tw6635558491612396129 : True := trivial
theorem main.tw5396188567872606041 : True := trivial
theorem main.tw3027586509356016917 : True := trivial
theorem main.tw14168887731352723522 : True := trivial
theorem main.tw16022572192331126682 : True := trivial
theorem main.tw5107744262632582762 : True := trivial
theorem main.tw13402765919934010277 : True := trivial
theorem main.tw4310270188432123100 : True := trivial
theorem main.tw10234815189450012239 : True := trivial
theorem main.tw2724176850512262202 : True := trivial
theorem main.tw17477492558424962760 : True := trivial
theorem main.tw6290641936597363025 : True := trivial
theorem main.tw12170992721606120685 : True := trivial
theorem main.tw17128291446047057950 : True := trivial
theorem main.tw17679725944135375923 : True := trivial
theorem main.tw12653679108036650311 : True := trivial
theorem main.tw6519269512792494810 : True := trivial
theorem main.tw9368617206455126095 : True := trivial
theorem main.tw6508729118710982530 : True := trivial
theorem main.tw2702614204127132176 : True := trivial
theorem main.tw4948327476702027199 : True := trivial
theorem main.tw3905226178654972811 : True := trivial
theorem main.tw14907226015203709474 : True := trivial
theorem main.tw6868236387235032019 : True := trivial
theorem main.tw330327031418712150 : True := trivial
theorem main.tw1886080085820668685 : True := trivial
theorem main.tw13989496423458381343 : True := trivial
theorem main.tw104360540948158410 : True := trivial
theorem main.tw17403364634526059139 : True := trivial
theorem main.tw7293298908176781663 : True := trivial
theorem main.tw1198661942849946583 : True := trivial
theorem main.tw11554813239044494598 : True := trivial
theorem main.tw12130321265151566525 : True := trivial
theorem main.tw15734660467963936456 : True := trivial
theorem main.tw14635473669698735251 : True := trivial
theorem main.tw3960113756560652017 : True := trivial
theorem main.tw7297187181890747607 : True := trivial
theorem main.tw6674893403203295414 : True := trivial
theorem main.tw16689149305811164139 : True := trivial
theorem main.tw4749052000479324790 : True := trivial
theorem main.tw6702130215012162313 : True := trivial
theorem main.tw12338497608069007261 : True := trivial
theorem main.tw8046773169563483271 : True := trivial
theorem main.tw11982392923317675503 : True := trivial
theorem main.tw3370842686811476594 : True := trivial
theorem main.tw6565609875121592624 : True := trivial
theorem main.tw13154001654789283132 : True := trivial
theorem main.tw7875838824674609581 : True := trivial
theorem main.tw854977524454699277 : True := trivial
theorem main.tw8652556701797213591 : True := trivial
theorem main.tw17223442867436993403 : True := trivial
theorem main.tw6655696309031964122 : True := trivial
theorem main.tw15303317825217679618 : True := trivial
theorem main.tw10149618387772673413 : True := trivial
theorem main.tw16519101796099990279 : True := trivial
theorem main.tw9656510801202774680 : True := trivial
theorem main.tw1242282695825638017 : True := trivial
theorem main.tw7751025194823839400 : True := trivial
theorem main.tw16950194794029067938 : True := trivial
theorem main.tw7624293977416268664 : True := trivial
theorem main.tw11409991511011244131 : True := trivial
theorem main.tw2544328076492683441 : True := trivial
theorem main.tw9756827057097773860 : True := trivial
theorem main.tw5860774085400269500 : True := trivial
theorem main.tw2019394398466159022 : True := trivial
theorem main.tw52199770228462824 : True := trivial
theorem main.tw73751810991705359 : True := trivial
theorem main.tw17871620999419790863 : True := trivial
theorem main.tw716429049611869786 : True := trivial
theorem main.tw1054321117371714560 : True := trivial
theorem main.tw5287059835090251167 : True := trivial
theorem main.tw3314904115985164895 : True := trivial
theorem main.tw1439166485080882 : True := trivial
theorem main.tw3174701007982392895 : True := trivial
theorem main.tw4330594992337426955 : True := trivial
theorem main.tw961187720498965250 : True := trivial
theorem main.tw4044139247061151142 : True := trivial
theorem main.tw6862492499505807319 : True := trivial
theorem main.tw8879939841973710529 : True := trivial
theorem main.tw16551855485269240956 : True := trivial
theorem main.tw14640416626631428029 : True := trivial
theorem main.tw7019240024125815769 : True := trivial
theorem main.tw223528310411579522 : True := trivial
theorem main.tw10418042200766032776 : True := trivial
theorem main.tw13219505800766818778 : True := trivial
theorem main.tw17353955331779342651 : True := trivial
theorem main.tw16218864148678617972 : True := trivial
theorem main.tw3779293765908593550 : True := trivial
theorem main.tw12974819211118642341 : True := trivial
theorem main.tw14504180641510445567 : True := trivial
theorem main.tw11987853993630220354 : True := trivial
theorem main.tw15595112118272840620 : True := trivial
theorem main.tw9360745474812902239 : True := trivial
theorem main.tw7411558596216406370 : True := trivial
theorem main.tw9964214247947446159 : True := trivial
theorem main.tw10707853282979444102 : True := trivial
theorem main.tw2895952525429962455 : True := trivial
theorem main.tw7093617532817203218 : True := trivial
theorem main.tw11815829001073249272 : True := trivial
theorem main.tw12670839924663504800 : True := trivial
theorem main.tw2759098988195820126 : True := trivial
theorem main.tw14759895335926876869 : True := trivial
theorem main.tw16676564476587882173 : True := trivial
theorem main.tw6418098437765475518 : True := trivial
theorem main.tw4039676971129161736 : True := trivial
theorem main.tw15514936471743626214 : True := trivial
theorem main.tw33456957511925785 : True := trivial
theorem main.tw6237627108579964202 : True := trivial
theorem main.tw4261964983698606537 : True := trivial
theorem main.tw2566753976717531306 : True := trivial
theorem main.tw1236483940969888574 : True := trivial
theorem main.tw5613160597433933154 : True := trivial
theorem main.tw4839478117068044826 : True := trivial
theorem main.tw9730157408454304684 : True := trivial
theorem main.tw7439787175107056256 : True := trivial
theorem main.tw17413556829735388813 : True := trivial
theorem main.tw13713940216889387898 : True := trivial
theorem main.tw4946776927847147119 : True := trivial
theorem main.tw8984930932524396370 : True := trivial
theorem main.tw65644731488775911 : True := trivial
theorem main.tw9558744834307401277 : True := trivial
theorem main.tw11003572833241299968 : True := trivial
theorem main.tw3626430660855392483 : True := trivial
theorem main.tw4156125974679941130 : True := trivial
theorem main.tw12027323910402764344 : True := trivial
theorem main.tw16305672181175384284 : True := trivial
theorem main.tw6788530277367551627 : True := trivial
theorem main.tw12927740378394474205 : True := trivial
theorem main.tw18063282731904131703 : True := trivial
theorem main.tw16251939892948500945 : True := trivial
theorem main.tw358491910552652209 : True := trivial
theorem main.tw7742616358663508648 : True := trivial
theorem main.tw15136431859952498927 : True := trivial
theorem main.tw13724616953566380437 : True := trivial
theorem main.tw588950844065142505 : True := trivial
theorem main.tw10665089971535097683 : True := trivial
theorem main.tw12675357926760492328 : True := trivial
theorem main.tw4900431672193113347 : True := trivial
theorem main.tw5502569546826302122 : True := trivial
theorem main.tw10928175160051115300 : True := trivial
theorem main.tw3532412968194664532 : True := trivial
theorem main.tw13591255225166038476 : True := trivial
theorem main.tw6657087868060814 : True := trivial
theorem main.tw8467378866343419333 : True := trivial
theorem main.tw4189750870438640210 : True := trivial
theorem main.tw13777938177461255882 : True := trivial
theorem main.tw16952715711813285254 : True := trivial
theorem main.tw8952462522180670554 : True := trivial
theorem main.tw5363903885879670357 : True := trivial
theorem main.tw16049902774474827687 : True := trivial
theorem main.tw18284262389922463811 : True := trivial
theorem main.tw302440914744352476 : True := trivial
theorem main.tw496957432446577329 : True := trivial
theorem main.tw9903775340124721222 : True := trivial
theorem main.tw10177057350305019805 : True := trivial
theorem main.tw17644181745481072423 : True := trivial
theorem main.tw1318968915056948652 : True := trivial
theorem main.tw6674386428176565332 : True := trivial
theorem main.tw14390754486103292620 : True := trivial
theorem main.tw18418235949754561950 : True := trivial
theorem main.tw8484041278411425421 : True := trivial
theorem main.tw1453356044741674121 : True := trivial
theorem main.tw2647654807098235363 : True := trivial
theorem main.tw17298425922696826006 : True := trivial
theorem main.tw3343439749351644125 : True := trivial
theorem main.tw6696893160125735727 : True := trivial
theorem main.tw9376575566392132001 : True := trivial
theorem main.tw2195194259037543316 : True := trivial
theorem main.tw17201416709059790184 : True := trivial
theorem main.tw10159738436595150677 : True := trivial
theorem main.tw12732289081945773324 : True := trivial
theorem main.tw12570134572688502250 : True := trivial
theorem main.tw16193401482309157537 : True := trivial
theorem main.tw2524017781993486291 : True := trivial
theorem main.tw12748397558918655664 : True := trivial
theorem main.tw10625486282989778954 : True := trivial
theorem main.tw13293747886898857621 : True := trivial
theorem main.tw17852333281159992992 : True := trivial
theorem main.tw6880717277089553138 : True := trivial
theorem main.tw13113777628852026922 : True := trivial
theorem main.tw13270728482189477470 : True := trivial
theorem main.tw5456330333991267789 : True := trivial
theorem main.tw962193829226610041 : True := trivial
theorem main.tw9508770018378322450 : True := trivial
theorem main.tw10283388844273144081 : True := trivial
theorem main.tw9190990891756207365 : True := trivial
theorem main.tw2279707942289718827 : True := trivial
theorem main.tw5571399437266216444 : True := trivial
theorem main.tw15465920861327815835 : True := trivial
theorem main.tw12057704586751987240 : True := trivial
theorem main.tw10463206416058312583 : True := trivial
theorem main.tw15060185592220127646 : True := trivial
theorem main.tw5378808338967829844 : True := trivial
theorem main.tw17272174723667511238 : True := trivial
theorem main.tw15109750227778091905 : True := trivial
theorem main.tw7235775444256392728 : True := trivial
theorem main.tw1118068078248606362 : True := trivial
theorem main.tw2773665477692216758 : True := trivial
theorem main.tw11086099901593105684 : True := trivial
theorem main.tw7591743695986301205 : True := trivial
theorem main.tw10864377008497418100 : True := trivial
theorem main.tw9381277316556691805 : True := trivial
theorem main.tw9840939614602229412 : True := trivial
theorem main.tw11410963132546700228 : True := trivial
theorem main.tw5602234197418806665 : True := trivial
theorem main.tw11181722664286889309 : True := trivial
theorem main.tw6788695710022549768 : True := trivial
theorem main.tw11403851563620829512 : True := trivial
theorem main.tw1504049600530537962 : True := trivial
theorem main.tw2341703837736514645 : True := trivial
theorem main.tw645136716886899192 : True := trivial
theorem main.tw7846812961960373227 : True := trivial
theorem main.tw3635900802997115186 : True := trivial
theorem main.tw18315214858253571532 : True := trivial
theorem main.tw11487549891475536569 : True := trivial
theorem main.tw6542085627976250192 : True := trivial
theorem main.tw8557395850702784662 : True := trivial
theorem main.tw6541472054586571296 : True := trivial
theorem main.tw6632538468102435922 : True := trivial
theorem main.tw8127475511531132179 : True := trivial
theorem main.tw18385570937342765463 : True := trivial
theorem main.tw15580989882048331800 : True := trivial
theorem main.tw7472368607099979303 : True := trivial
theorem main.tw13227692790652741651 : True := trivial
theorem main.tw6639522245352263942 : True := trivial
theorem main.tw4365514962571936147 : True := trivial
theorem main.tw4038153913678941442 : True := trivial
theorem main.tw10821422270917381399 : True := trivial
theorem main.tw5160751907100791332 : True := trivial
theorem main.tw8989776476301544223 : True := trivial
theorem main.tw12077450504624328385 : True := trivial
theorem main.tw2433702464844828792 : True := trivial
theorem main.tw6862268138105152660 : True := trivial
theorem main.tw8809968196449919288 : True := trivial
theorem main.tw1150287232629052791 : True := trivial
theorem main.tw2428412748925179849 : True := trivial
theorem main.tw8060562821785662972 : True := trivial
theorem main.tw15806524323241146399 : True := trivial
theorem main.tw16765925921980633802 : True := trivial
theorem main.tw8079908401900000222 : True := trivial
theorem main.tw18349286408798932565 : True := trivial
theorem main.tw14218914174604095658 : True := trivial
theorem main.tw5797031442667253490 : True := trivial
theorem main.tw16153842264607907944 : True := trivial
theorem main.tw6087835443962453003 : True := trivial
theorem main.tw1615045767204293396 : True := trivial
theorem main.tw16046730324260685337 : True := trivial
theorem main.tw3394367416137920725 : True := trivial
theorem main.tw7761410557224570781 : True := trivial
theorem main.tw15643365686152983790 : True := trivial
theorem main.tw1519927702969063271 : True := trivial
theorem main.tw10825838108423173272 : True := trivial
theorem main.tw16508919721030705984 : True := trivial
theorem main.tw7153082081811710619 : True := trivial
theorem main.tw2921958311620399285 : True := trivial
theorem main.tw10652863235454686790 : True := trivial
theorem main.tw2287757881348798766 : True := trivial
theorem main.tw3234112476842188716 : True := trivial
theorem main.tw12014785543569010823 : True := trivial
theorem main.tw11595355409239048105 : True := trivial
theorem main.tw2190695567426971638 : True := trivial
theorem main.tw16357356043003861740 : True := trivial
theorem main.tw18134284020713443437 : True := trivial
theorem main.tw18442785490491869365 : True := trivial
theorem main.tw1714950047550659301 : True := trivial
theorem main.tw7691172733374981047 : True := trivial
theorem main.tw4475767826048309731 : True := trivial
theorem main.tw1261021989165538067 : True := trivial
theorem main.tw12205347405646519318 : True := trivial
theorem main.tw8834365191522931223 : True := trivial
theorem main.tw10391951854915411234 : True := trivial
theorem main.tw6183352029847204284 : True := trivial
theorem main.tw14788915703135433725 : True := trivial
theorem main.tw3627144658338631552 : True := trivial
theorem main.tw17402982504261768225 : True := trivial
theorem main.tw8707812797481193996 : True := trivial
theorem main.tw14639212616227390028 : True := trivial
theorem main.tw14009396871252706886 : True := trivial
theorem main.tw6162249291895867263 : True := trivial
theorem main.tw2821470743931037460 : True := trivial
theorem main.tw14061640607465278742 : True := trivial
theorem main.tw15768048840197415361 : True := trivial
theorem main.tw6053611964639427726 : True := trivial
theorem main.tw17091655785135471103 : True := trivial
theorem main.tw12222963475772708484 : True := trivial
theorem main.tw14364048958407549093 : True := trivial
theorem main.tw7514964652732493775 : True := trivial
theorem main.tw6545385358150927430 : True := trivial
theorem main.tw17495560712657236704 : True := trivial
theorem main.tw2921621734765799159 : True := trivial
theorem main.tw2225956059507018244 : True := trivial
theorem main.tw9224510053105964993 : True := trivial
theorem main.tw3299218664060906527 : True := trivial
theorem main.tw7974275031393228247 : True := trivial
theorem main.tw16411370214107742406 : True := trivial
theorem main.tw8663697691656813868 : True := trivial
theorem main.tw6511744376749373798 : True := trivial
theorem main.tw17725498274588495791 : True := trivial
theorem main.tw474381771622712015 : True := trivial
theorem main.tw10210597933619972095 : True := trivial
theorem main.tw2906824675625879941 : True := trivial
theorem main.tw15957597259013190341 : True := trivial
theorem main.tw832900586485598795 : True := trivial
theorem main.tw12915833801598196605 : True := trivial
theorem main.tw5665735395497279834 : True := trivial
theorem main.tw17699438841360665129 : True := trivial
theorem main.tw2058021452347087232 : True := trivial
theorem main.tw18392154025008590481 : True := trivial
theorem main.tw3994622017586750766 : True := trivial
theorem main.tw17118054049896295152 : True := trivial
theorem main.tw15131278010643852716 : True := trivial
theorem main.tw15984706205718930553 : True := trivial
theorem main.tw2900998541784483753 : True := trivial
theorem main.tw4681395471914393968 : True := trivial
theorem main.tw4088224383575840552 : True := trivial
theorem main.tw12900284412222446716 : True := trivial
theorem main.tw9808303207383738048 : True := trivial
theorem main.tw6596593509180878263 : True := trivial
theorem main.tw10092017014551392330 : True := trivial
theorem main.tw9682133043923132273 : True := trivial
theorem main.tw14161005256144132680 : True := trivial
theorem main.tw4048238993005291610 : True := trivial
theorem main.tw4990475226369331113 : True := trivial
theorem main.tw4605139254293405059 : True := trivial
theorem main.tw5781596087445459943 : True := trivial
theorem main.tw8496349624203035976 : True := trivial
theorem main.tw66260789543402106 : True := trivial
theorem main.tw10663580350406149668 : True := trivial
theorem main.tw14662554035588321541 : True := trivial
theorem main.tw16535482685779845976 : True := trivial
theorem main.tw8228058824784995430 : True := trivial
theorem main.tw5649967823195072380 : True := trivial
theorem main.tw17308546047472658913 : True := trivial
theorem main.tw892681787802806017 : True := trivial
theorem main.tw8249873531624179374 : True := trivial
theorem main.tw1255815211270559930 : True := trivial
theorem main.tw14097447854668400296 : True := trivial
theorem main.tw2238316416991798583 : True := trivial
theorem main.tw15554039934745177238 : True := trivial
theorem main.tw13797323745857372409 : True := trivial
theorem main.tw5203219222101121401 : True := trivial
theorem main.tw4126091431370883743 : True := trivial
theorem main.tw17767330081159143506 : True := trivial
theorem main.tw7108953243070827183 : True := trivial
theorem main.tw5831584030425509755 : True := trivial
theorem main.tw5396361742852586263 : True := trivial
set_option Elab.async true in
theorem main : PySem.Challenge.rw_nu0073_01.Holds := by
  w_on
  o_law
  k_head
  case hw => w_witness2
  exact law_walk rfl

end Mine
theorem PySem.Challenge.cw_nu0073_01_holds : PySem.Challenge.rw_nu0073_01.Holds := by
  exact Mine.main
