import PyProof.Rows.All
import Wide.All
import OpenK.AllK
import Wide.FinOn
import PyProof.NoPylong
import PyProof.Fits
import HandS.Base
import HandS.Call
import HandS.List
import HandS.Comp
import HandS.Ends
import HandS.Dict
import HandS.Iter
import HandS.Text
import HandS.Exc
import HandS.Flow
import HandS.Style
import HandS.IsInst
import HandS.Deep
import HandS.Wide
import HandS.Defaults
import HandS.CallLocal
import HandS.WrittenGet
import HandS.Words
import HandS.WordsList
import HandS.WordsDict
import KE.DataEq
import KE.KUnpackStar
import HandS.More
import HandS.Small
import HandS.Zip
import HandS.Conv
import HandS.SortRule
import PySem.Challenge.RW_hintscribe_k84_whole_greys_by_edges
import KE.KStateDown
import Lean
import HandS.Head0
import HandS.Head1
import HandS.Head2
import HandS.HeadEnd
import HandS.HeadHook1
import HandS.HeadHook2
import HandS.HeadHook3
import HandS.HeadHook4
import PySem.PyData
set_option linter.all false
namespace G84
abbrev Pt := Rat × Rat
def co (w : Bool) (P : Pt) : Rat := if w then P.2 else P.1
def setc (w : Bool) (L : Rat) (P : Pt) : Pt := if w then (P.1, L) else (L, P.2)
/-- kept: s: not below the line, else not above it -/
def kept (w s : Bool) (L : Rat) (P : Pt) : Bool := if s then decide (L ≤ co w P) else decide (co w P ≤ L)
def sect (w : Bool) (L : Rat) (P Q : Pt) : Pt :=
  setc w L (P.1 + (L - co w P) / (co w Q - co w P) * (Q.1 - P.1), P.2 + (L - co w P) / (co w Q - co w P) * (Q.2 - P.2))
def out (w s : Bool) (L : Rat) (P Q : Pt) : List Pt :=
  (if kept w s L P = kept w s L Q then [] else [sect w L P Q]) ++ (if kept w s L Q then [Q] else [])
def outs (w s : Bool) (L : Rat) : Pt → List Pt → List Pt
  | _, [] => []
  | P, Q :: r => out w s L P Q ++ outs w s L Q r
def lastP (l : List Pt) : Pt := l.getLastD (0, 0)
def cut (w s : Bool) (L : Rat) (l : List Pt) : List Pt := outs w s L (lastP l) l
def ps (h : Pt → Pt → Rat) : Pt → List Pt → Rat
  | _, [] => 0
  | P, Q :: r => h P Q + ps h Q r
def cyc (h : Pt → Pt → Rat) (l : List Pt) : Rat := ps h (lastP l) l
theorem co_set {w L P} : co w (setc w L P) = L := by cases w <;> rfl
theorem co_sect {w L P Q} : co w (sect w L P Q) = L := co_set
def lastD (P : Pt) (l : List Pt) : Pt := l.getLastD P
theorem lastD_nil {P} : lastD P [] = P := rfl
theorem lastD_cons {P Q l} : lastD P (Q :: l) = lastD Q l := by
  cases l with
  | nil => rfl
  | cons => simp [lastD, List.getLastD]
theorem lastD_app {P l m} : lastD P (l ++ m) = lastD (lastD P l) m := by
  induction l generalizing P with
  | nil => rfl
  | cons Q l ih => rw [List.cons_append, lastD_cons, lastD_cons, ih]
theorem ps_app {h P l m} : ps h P (l ++ m) = ps h P l + ps h (lastD P l) m := by
  induction l generalizing P with
  | nil => simp [ps, lastD_nil]; grind
  | cons Q l ih => rw [List.cons_append, lastD_cons]; simp only [ps, ih]; grind
/-- the clipped edge's share -/
def clipd (w s : Bool) (L : Rat) (h : Pt → Pt → Rat) (P Q : Pt) : Rat :=
  if kept w s L P then (if kept w s L Q then h P Q else h P (sect w L P Q) + h (sect w L P Q) (setc w L Q))
  else (if kept w s L Q then h (setc w L P) (sect w L P Q) + h (sect w L P Q) Q else h (setc w L P) (setc w L Q))
section
variable {w s : Bool} {L : Rat} {h : Pt → Pt → Rat}
def At (w s : Bool) (L : Rat) (p P : Pt) : Prop := (kept w s L P = true → p = P) ∧ (kept w s L P = false → co w p = L)
def Dd (w s : Bool) (L : Rat) (h : Pt → Pt → Rat) (p P : Pt) : Rat := if kept w s L P then 0 else h p (setc w L P)
theorem out_step (hc : ∀ A B C, co w A = L → co w B = L → co w C = L → h A B + h B C = h A C) {p P Q : Pt} (hi : At w s L p P) :
    At w s L (lastD p (out w s L P Q)) Q ∧ ps h p (out w s L P Q) + Dd w s L h (lastD p (out w s L P Q)) Q = Dd w s L h p P + clipd w s L h P Q := by
  unfold out clipd Dd At at *
  cases kP : kept w s L P <;> cases kQ : kept w s L Q <;> simp only [kP, kQ] at hi ⊢ <;> simp [lastD, ps] at hi ⊢
  · have := hc p (setc w L P) (setc w L Q) hi co_set co_set; refine ⟨hi, by grind⟩
  · have := hc p (setc w L P) (sect w L P Q) hi co_set co_sect; grind
  · subst hi; exact ⟨co_sect, by grind⟩
  · subst hi; grind
theorem outs_step (hc : ∀ A B C, co w A = L → co w B = L → co w C = L → h A B + h B C = h A C) : ∀ {l : List Pt} {p P : Pt}, At w s L p P →
    At w s L (lastD p (outs w s L P l)) (lastD P l) ∧ ps h p (outs w s L P l) + Dd w s L h (lastD p (outs w s L P l)) (lastD P l) = Dd w s L h p P + ps (clipd w s L h) P l
  | [], p, P, hi => by simp [outs, ps, lastD_nil]; exact ⟨hi, by grind⟩
  | Q :: r, p, P, hi => by
    obtain ⟨h1, h2⟩ := out_step hc (Q := Q) hi
    obtain ⟨h3, h4⟩ := outs_step hc (l := r) h1
    simp only [outs, lastD_cons, lastD_app, ps_app, ps]
    exact ⟨h3, by grind⟩
theorem outs_none : ∀ {l : List Pt} {P : Pt}, outs w s L P l = [] → l = [] ∨ (kept w s L P = false ∧ kept w s L (lastD P l) = false)
  | [], P, hn => .inl rfl
  | Q :: r, P, hn => by
    right
    simp only [outs, List.append_eq_nil_iff, lastD_cons] at hn ⊢
    have h1 := hn.1
    unfold out at h1
    cases kP : kept w s L P <;> cases kQ : kept w s L Q <;> simp [kP, kQ] at h1 ⊢
    rcases outs_none hn.2 with e | e
    · subst e; exact kQ
    · exact e.2
/-- the last emitted -/
theorem outs_last : ∀ {l : List Pt} {P : Pt}, outs w s L P l ≠ [] → ∀ q, At w s L (lastD q (outs w s L P l)) (lastD P l)
  | [], P, hn, q => absurd rfl hn
  | Q :: r, P, hn, q => by
    simp only [outs, lastD_cons, lastD_app] at hn ⊢
    by_cases hr : outs w s L Q r = []
    · rw [hr] at hn ⊢
      rw [lastD_nil]
      rw [List.append_nil] at hn
      have h0 : At w s L (lastD q (out w s L P Q)) Q := by
        unfold out At at *
        cases kP : kept w s L P <;> cases kQ : kept w s L Q <;> simp [kP, kQ, lastD] at hn ⊢
        exact co_sect
      rcases outs_none hr with e | e
      · subst e; exact h0
      · exact ⟨fun z => (by rw [e.2] at z; cases z), fun _ => h0.2 e.1⟩
    · exact outs_last hr _
theorem lastP_cons {P l} : lastP (P :: l) = lastD P l := by
  cases l with
  | nil => rfl
  | cons => simp [lastP, lastD, List.getLastD]
theorem lastP_lastD {l : List Pt} (h : l ≠ []) (q : Pt) : lastP l = lastD q l := by
  cases l with
  | nil => exact absurd rfl h
  | cons P l => rw [lastP_cons, lastD_cons]
theorem ps_zero {h : Pt → Pt → Rat} {p : Pt} {l : List Pt} (e : outs w s L p l = []) (hc : ∀ A B C, co w A = L → co w B = L → co w C = L → h A B + h B C = h A C) (k : kept w s L p = false) : ps (clipd w s L h) p l = h (setc w L p) (setc w L (lastD p l)) := by
  induction l generalizing p with
  | nil =>
    rw [lastD_nil]
    have := hc (setc w L p) (setc w L p) (setc w L p) co_set co_set co_set
    simp only [ps]; grind
  | cons Q r ih =>
    simp only [outs, List.append_eq_nil_iff] at e
    have kQ : kept w s L Q = false := by
      have h1 := e.1
      unfold out at h1
      cases kQ : kept w s L Q <;> simp [k, kQ] at h1 ⊢
    rw [lastD_cons]
    simp only [ps, ih e.2 kQ, clipd, k, kQ]
    have := hc (setc w L p) (setc w L Q) (setc w L (lastD Q r)) co_set co_set co_set
    simpa using this
/-- the sum over the cut-off polygon's edges -/
theorem cut_sum (hc : ∀ A B C, co w A = L → co w B = L → co w C = L → h A B + h B C = h A C) {l : List Pt} : cyc h (cut w s L l) = cyc (clipd w s L h) l := by
  unfold cyc cut
  cases l with
  | nil => rfl
  | cons P0 l0 =>
    generalize hl : P0 :: l0 = l
    have hne : l ≠ [] := by subst hl; exact fun z => nomatch z
    by_cases e : outs w s L (lastP l) l = []
    · rw [e]
      rcases outs_none e with z | z
      · exact absurd z hne
      · have h1 := ps_zero e hc z.1
        rw [h1, ← lastP_lastD hne]
        have := hc (setc w L (lastP l)) (setc w L (lastP l)) (setc w L (lastP l)) co_set co_set co_set
        simp only [ps]; grind
    · have hA := outs_last e (0, 0)
      rw [← lastP_lastD e, ← lastP_lastD hne] at hA
      have h2 := (outs_step hc (l := l) hA).2
      rw [← lastP_lastD e, ← lastP_lastD hne] at h2
      grind
end
/-! ### the functionals -/
def trap (P Q : Pt) : Rat := (P.1 + Q.1) / 2 * (Q.2 - P.2)
def cross (P Q : Pt) : Rat := P.1 * Q.2 - P.2 * Q.1
def under (L : Rat) (P Q : Pt) : Rat :=
  if ¬ L < P.1 ∧ ¬ L < Q.1 then (Q.2 - P.2) * ((P.1 + Q.1) / 2)
  else if ¬ P.1 < L ∧ ¬ Q.1 < L then (Q.2 - P.2) * L
  else if P.1 < L then (Q.2 - P.2) * ((L - P.1) / (Q.1 - P.1) * ((P.1 + L) / 2) + (1 - (L - P.1) / (Q.1 - P.1)) * L)
  else (Q.2 - P.2) * ((L - P.1) / (Q.1 - P.1) * L + (1 - (L - P.1) / (Q.1 - P.1)) * ((L + Q.1) / 2))
def kap (L1 L2 : Rat) (P Q : Pt) : Rat := under L2 P Q - under L1 P Q + L1 * (Q.2 - P.2)
theorem clip_x2 (L : Rat) (P Q : Pt) : clipd false false L trap P Q = under L P Q := by
  obtain ⟨a, y⟩ := P
  obtain ⟨b, z⟩ := Q
  unfold clipd under trap kept sect setc co
  by_cases h1 : a ≤ L <;> by_cases h2 : b ≤ L <;> simp [h1, h2] <;> grind
/-- what lies under a line, along x: half the square, behind it the line's own -/
def FF (L x : Rat) : Rat := if x ≤ L then x * x / 2 else L * x - L * L / 2
theorem under_F {L a b y z : Rat} (h : a ≠ b) : under L (a, y) (b, z) = (z - y) / (b - a) * (FF L b - FF L a) := by
  unfold under FF
  by_cases h1 : a ≤ L <;> by_cases h2 : b ≤ L <;> simp [h1, h2] <;> grind
theorem under_0 {L a y z : Rat} : under L (a, y) (a, z) = (z - y) * (if a ≤ L then a else L) := by
  unfold under
  by_cases h1 : a ≤ L <;> simp [h1] <;> grind
theorem under_lo {L a b y z : Rat} (h1 : a ≤ L) (h2 : b ≤ L) : under L (a, y) (b, z) = (z - y) * ((a + b) / 2) := by unfold under; simp [Rat.not_lt.mpr h1, Rat.not_lt.mpr h2]
theorem under_hi {L a b y z : Rat} (h1 : L ≤ a) (h2 : L ≤ b) : under L (a, y) (b, z) = (z - y) * L := by unfold under; simp [Rat.not_lt.mpr h1, Rat.not_lt.mpr h2]; grind
theorem clip_x1 (L1 L2 : Rat) (hL : L1 ≤ L2) (P Q : Pt) : clipd false true L1 (under L2) P Q = kap L1 L2 P Q := by
  obtain ⟨a, y⟩ := P
  obtain ⟨b, z⟩ := Q
  unfold clipd kap kept sect setc co
  by_cases h1 : L1 ≤ a <;> by_cases h2 : L1 ≤ b <;> simp only [h1, h2, if_true, if_false, decide_true, decide_false, Bool.false_eq_true]
  · rw [under_hi (L := L1) h1 h2]; grind
  · have hb : b < L1 := Rat.not_le.mp h2
    have hab : a ≠ b := by grind
    rw [under_F hab, under_F hab, under_lo (L := L2) hL hL] 
    by_cases e : a = L1
    · rw [e, under_0]; subst e; unfold FF; simp [Rat.le_refl]; grind
    · rw [under_F e]
      have f1 : FF L1 b = b * b / 2 := by unfold FF; grind
      have f2 : FF L1 a = L1 * a - L1 * L1 / 2 := by unfold FF; grind
      have f3 : FF L2 L1 = L1 * L1 / 2 := by unfold FF; grind
      have f4 : FF L2 b = b * b / 2 := by unfold FF; grind
      rw [f1, f2, f3, f4]
      generalize FF L2 a = X
      grind
  · have hb : a < L1 := Rat.not_le.mp h1
    have hab : a ≠ b := by grind
    rw [under_F hab, under_F hab, under_lo (L := L2) hL hL] 
    by_cases e : L1 = b
    · rw [← e, under_0]; subst e; unfold FF; simp [Rat.le_refl]; grind
    · rw [under_F e]
      have f1 : FF L1 a = a * a / 2 := by unfold FF; grind
      have f2 : FF L1 b = L1 * b - L1 * L1 / 2 := by unfold FF; grind
      have f3 : FF L2 L1 = L1 * L1 / 2 := by unfold FF; grind
      have f4 : FF L2 a = a * a / 2 := by unfold FF; grind
      rw [f1, f2, f3, f4]
      generalize FF L2 b = X
      grind
  · have h3 := Rat.not_le.mp h1
    have h4 := Rat.not_le.mp h2
    rw [under_lo (L := L1) (by grind) (by grind), under_lo (L := L2) (a := a) (by grind) (by grind), under_lo (L := L2) hL hL]
    grind
def clampR (lo hi y : Rat) : Rat := if y < lo then lo else if hi < y then hi else y
def onE (P Q : Pt) (y : Rat) : Pt := (P.1 + (Q.1 - P.1) / (Q.2 - P.2) * (y - P.2), y)
/-- the law's part of an edge in a row -/
def rowPart (Y1 Y2 : Rat) (P Q : Pt) : Option (Pt × Pt) :=
  if P.2 = Q.2 then none
  else if clampR Y1 Y2 P.2 = clampR Y1 Y2 Q.2 then none
  else some (onE P Q (clampR Y1 Y2 P.2), onE P Q (clampR Y1 Y2 Q.2))
def edge (f : Pt → Pt → Rat) (Y1 Y2 : Rat) (P Q : Pt) : Rat :=
  match rowPart Y1 Y2 P Q with
  | none => 0
  | some (A, B) => f A B
def Flat (f : Pt → Pt → Rat) : Prop := ∀ a b y, f (a, y) (b, y) = 0
theorem onE_P (P Q : Pt) : onE P Q P.2 = P := by unfold onE; ext <;> simp <;> grind
theorem onE_Q (P Q : Pt) (h : P.2 ≠ Q.2) : onE P Q Q.2 = Q := by unfold onE; ext <;> simp <;> grind
theorem clipd_tf {w s L h P Q} (h1 : kept w s L P = true) (h2 : kept w s L Q = false) : clipd w s L h P Q = h P (sect w L P Q) + h (sect w L P Q) (setc w L Q) := by unfold clipd; rw [h1, h2]; rfl
theorem clipd_ft {w s L h P Q} (h1 : kept w s L P = false) (h2 : kept w s L Q = true) : clipd w s L h P Q = h (setc w L P) (sect w L P Q) + h (sect w L P Q) Q := by unfold clipd; rw [h1, h2]; rfl
theorem clipd_ff {w s L h P Q} (h1 : kept w s L P = false) (h2 : kept w s L Q = false) : clipd w s L h P Q = h (setc w L P) (setc w L Q) := by unfold clipd; rw [h1, h2]; rfl
theorem clip_y (f : Pt → Pt → Rat) (hf : Flat f) (Y1 Y2 : Rat) (hY : Y1 < Y2) (P Q : Pt) : clipd true true Y1 (clipd true false Y2 f) P Q = edge f Y1 Y2 P Q := by
  have sx : ∀ (L : Rat) (P Q : Pt), P.2 ≠ Q.2 → sect true L P Q = onE P Q L := by
    intro L P Q h
    unfold sect onE setc co
    ext <;> simp <;> grind
  have on2 : ∀ (L M : Rat), P.2 ≠ Q.2 → L ≠ Q.2 → onE (onE P Q L) Q M = onE P Q M := by
    intro L M h h2
    unfold onE
    ext <;> simp <;> grind
  have on3 : ∀ (L M : Rat), P.2 ≠ Q.2 → L ≠ P.2 → onE P (onE P Q L) M = onE P Q M := by
    intro L M h h2
    unfold onE
    ext <;> simp <;> grind
  have e2 : ∀ (P Q : Pt) L, (onE P Q L).2 = L := fun _ _ _ => rfl
  have f0 : ∀ A B : Pt, A.2 = B.2 → f A B = 0 := fun A B e => by obtain ⟨a, y⟩ := A; obtain ⟨b, z⟩ := B; simp at e; subst e; exact hf a b y
  have k1 : ∀ (L : Rat) (P : Pt), kept true true L P = decide (L ≤ P.2) := fun _ _ => rfl
  have k2 : ∀ (L : Rat) (P : Pt), kept true false L P = decide (P.2 ≤ L) := fun _ _ => rfl
  have s2 : ∀ (L : Rat) (P : Pt), (setc true L P).2 = L := fun _ _ => rfl
  have t2 : ∀ (L : Rat) (P Q : Pt), (sect true L P Q).2 = L := fun _ _ _ => rfl
  have in2 : ∀ A B : Pt, A.2 ≤ Y2 → B.2 ≤ Y2 → clipd true false Y2 f A B = f A B := fun A B h1 h2 => by unfold clipd; simp [k2, h1, h2]
  by_cases he : P.2 = Q.2
  · have hR : edge f Y1 Y2 P Q = 0 := by unfold edge rowPart; rw [if_pos he]
    rw [hR]
    unfold clipd
    by_cases h1 : Y1 ≤ P.2
    · have h1' : Y1 ≤ Q.2 := by grind
      by_cases h2 : P.2 ≤ Y2
      · have h2' : Q.2 ≤ Y2 := by grind
        simp [k1, k2, h1, h1', h2, h2', f0 _ _ he]
      · have h2' : ¬ Q.2 ≤ Y2 := by grind
        simp [k1, k2, h1, h1', h2, h2', f0 _ _ (show (setc true Y2 P).2 = (setc true Y2 Q).2 from rfl)]
    · have h1' : ¬ Y1 ≤ Q.2 := by grind
      have hy := Rat.le_of_lt hY
      simp [k1, k2, h1, h1', s2, hy, f0 _ _ (show (setc true Y1 P).2 = (setc true Y1 Q).2 from rfl)]
  · have hE : edge f Y1 Y2 P Q = f (onE P Q (clampR Y1 Y2 P.2)) (onE P Q (clampR Y1 Y2 Q.2)) := by
      unfold edge rowPart
      rw [if_neg he]
      by_cases hc : clampR Y1 Y2 P.2 = clampR Y1 Y2 Q.2
      · rw [if_pos hc]; exact (f0 _ _ hc).symm
      · rw [if_neg hc]
    rw [hE]
    have hy := Rat.le_of_lt hY
    have c1 : ∀ y, y < Y1 → clampR Y1 Y2 y = Y1 := fun y h => by unfold clampR; rw [if_pos h]
    have c2 : ∀ y, Y2 < y → clampR Y1 Y2 y = Y2 := fun y h => by unfold clampR; grind
    have c3 : ∀ y, Y1 ≤ y → y ≤ Y2 → clampR Y1 Y2 y = y := fun y h h2 => by unfold clampR; grind
    by_cases h1 : Y1 ≤ P.2 <;> by_cases h2 : Y1 ≤ Q.2
    · rw [show clipd true true Y1 (clipd true false Y2 f) P Q = clipd true false Y2 f P Q by unfold clipd; simp [k1, h1, h2]]
      unfold clipd
      by_cases h3 : P.2 ≤ Y2 <;> by_cases h4 : Q.2 ≤ Y2 <;> simp only [k2, h3, h4, if_true, if_false, decide_true, decide_false, Bool.false_eq_true]
      · rw [c3 _ h1 h3, c3 _ h2 h4, onE_P, onE_Q _ _ he]
      · rw [c3 _ h1 h3, c2 _ (Rat.not_le.mp h4), onE_P, sx _ _ _ he, f0 (onE P Q Y2) (setc true Y2 Q) rfl]; grind
      · rw [c2 _ (Rat.not_le.mp h3), c3 _ h2 h4, onE_Q _ _ he, sx _ _ _ he, f0 (setc true Y2 P) (onE P Q Y2) rfl]; grind
      · rw [c2 _ (Rat.not_le.mp h3), c2 _ (Rat.not_le.mp h4), f0 (setc true Y2 P) (setc true Y2 Q) rfl, f0 _ _ rfl]
    · have hq : Q.2 < Y1 := Rat.not_le.mp h2
      rw [show clipd true true Y1 (clipd true false Y2 f) P Q = clipd true false Y2 f P (onE P Q Y1) + clipd true false Y2 f (onE P Q Y1) (setc true Y1 Q) by
        rw [← sx _ _ _ he]; exact clipd_tf (by simp [k1, h1]) (by simp [k1, h2])]
      rw [in2 (onE P Q Y1) (setc true Y1 Q) hy hy, f0 (onE P Q Y1) (setc true Y1 Q) rfl, c1 _ hq]
      by_cases h3 : P.2 ≤ Y2
      · rw [in2 _ _ h3 hy, c3 _ h1 h3, onE_P]; grind
      · have hp := Rat.not_le.mp h3
        rw [c2 _ hp]
        unfold clipd
        simp only [k2, h3, e2, hy, if_true, if_false, decide_true, decide_false, Bool.false_eq_true]
        rw [sx _ _ _ (by rw [e2]; grind), on3 _ _ he (by grind), f0 (setc true Y2 P) (onE P Q Y2) rfl]; grind
    · have hq : P.2 < Y1 := Rat.not_le.mp h1
      rw [show clipd true true Y1 (clipd true false Y2 f) P Q = clipd true false Y2 f (setc true Y1 P) (onE P Q Y1) + clipd true false Y2 f (onE P Q Y1) Q by
        rw [← sx _ _ _ he]; exact clipd_ft (by simp [k1, h1]) (by simp [k1, h2])]
      rw [in2 (setc true Y1 P) (onE P Q Y1) hy hy, f0 (setc true Y1 P) (onE P Q Y1) rfl, c1 _ hq]
      by_cases h3 : Q.2 ≤ Y2
      · rw [in2 _ _ hy h3, c3 _ h2 h3, onE_Q _ _ he]; grind
      · have hp := Rat.not_le.mp h3
        rw [c2 _ hp]
        unfold clipd
        simp only [k2, h3, e2, hy, if_true, if_false, decide_true, decide_false, Bool.false_eq_true]
        rw [sx _ _ _ (by rw [e2]; grind), on2 _ _ he (by grind), f0 (onE P Q Y2) (setc true Y2 Q) rfl]; grind
    · rw [show clipd true true Y1 (clipd true false Y2 f) P Q = clipd true false Y2 f (setc true Y1 P) (setc true Y1 Q) by
        exact clipd_ff (by simp [k1, h1]) (by simp [k1, h2])]
      rw [in2 _ _ (by rw [s2]; exact hy) (by rw [s2]; exact hy), f0 (setc true Y1 P) (setc true Y1 Q) rfl, c1 _ (Rat.not_le.mp h1), c1 _ (Rat.not_le.mp h2), f0 _ _ rfl]
/-! ### cycles -/
theorem cyc_cons {f : Pt → Pt → Rat} {p : Pt} {t : List Pt} : cyc f (p :: t) = f (lastD p t) p + ps f p t := by unfold cyc; rw [lastP_cons]; rfl
theorem ps_diff {φ : Pt → Rat} : ∀ {l : List Pt} {p : Pt}, ps (fun P Q => φ Q - φ P) p l = φ (lastD p l) - φ p
  | [], p => by simp only [ps, lastD_nil]; grind
  | Q :: r, p => by simp only [ps, lastD_cons, ps_diff]; grind
theorem cyc_diff {φ : Pt → Rat} {l : List Pt} : cyc (fun P Q => φ Q - φ P) l = 0 := by
  cases l with
  | nil => rfl
  | cons p t => rw [cyc_cons, ps_diff]; grind
theorem ps_lin {f g : Pt → Pt → Rat} {a : Rat} : ∀ {l : List Pt} {p : Pt}, ps (fun P Q => f P Q + a * g P Q) p l = ps f p l + a * ps g p l
  | [], p => by simp only [ps]; grind
  | Q :: r, p => by simp only [ps, ps_lin]; grind
theorem cyc_lin {f g : Pt → Pt → Rat} {a : Rat} {l : List Pt} : cyc (fun P Q => f P Q + a * g P Q) l = cyc f l + a * cyc g l := ps_lin
theorem ps_congr {f g : Pt → Pt → Rat} : ∀ {l : List Pt} {p : Pt}, (∀ P Q, P ∈ p :: l → Q ∈ l → f P Q = g P Q) → ps f p l = ps g p l
  | [], p, _ => rfl
  | Q :: r, p, h => by
    simp only [ps]
    rw [h p Q (by simp) (by simp), ps_congr fun P R h1 h2 => h P R (by simp at h1 ⊢; rcases h1 with h1 | h1 <;> simp [h1]) (by simp [h2])]
theorem lastD_mem {p : Pt} {l : List Pt} : lastD p l ∈ p :: l := by
  induction l generalizing p with
  | nil => simp [lastD_nil]
  | cons Q r ih => rw [lastD_cons]; exact List.mem_cons_of_mem _ ih
theorem cyc_congr {f g : Pt → Pt → Rat} {l : List Pt} (h : ∀ P Q, P ∈ l → Q ∈ l → f P Q = g P Q) : cyc f l = cyc g l := by
  cases l with
  | nil => rfl
  | cons p t =>
    rw [cyc_cons, cyc_cons, h _ _ lastD_mem (by simp), ps_congr fun P Q h1 h2 => h P Q h1 (by simp [h2])]
theorem cyc_rot {f : Pt → Pt → Rat} {a b : List Pt} : cyc f (a ++ b) = cyc f (b ++ a) := by
  cases a with
  | nil => simp
  | cons p a =>
    cases b with
    | nil => simp
    | cons q b =>
      rw [List.cons_append, List.cons_append, cyc_cons, cyc_cons, ps_app, ps_app, lastD_app, lastD_app]
      simp only [ps, lastD_cons]
      grind
theorem ps_rev {f : Pt → Pt → Rat} (ha : ∀ P Q, f Q P = - f P Q) : ∀ {l : List Pt} {p q : Pt}, ps f q (p :: l).reverse = f q (lastD p l) - ps f p l
  | [], p, q => by simp only [ps, lastD_nil, List.reverse_cons, List.reverse_nil, List.nil_append]; grind
  | Q :: r, p, q => by
    rw [List.reverse_cons, ps_app, ps_rev ha]
    simp only [ps, lastD_cons]
    have : lastD q (Q :: r).reverse = Q := by rw [List.reverse_cons, lastD_app, lastD_cons, lastD_nil]
    rw [this, ha p Q]
    grind
theorem cyc_rev {f : Pt → Pt → Rat} (ha : ∀ P Q, f Q P = - f P Q) {l : List Pt} : cyc f l.reverse = - cyc f l := by
  cases l with
  | nil => simp only [List.reverse_nil, cyc, ps]; grind
  | cons p t =>
    have h : lastP (p :: t).reverse = p := by rw [lastP_lastD (by simp) p, List.reverse_cons, lastD_app, lastD_cons, lastD_nil]
    unfold cyc
    rw [h, ps_rev ha, lastP_cons]
    simp only [ps]
    rw [ha p]
    grind
theorem anti_self {f : Pt → Pt → Rat} (ha : ∀ P Q, f Q P = - f P Q) (P : Pt) : f P P = 0 := by have := ha P P; grind
theorem cyc_cut2 {f : Pt → Pt → Rat} (ha : ∀ P Q, f Q P = - f P Q) {l : List Pt} {i j : Nat} (hij : i ≤ j) (hj : j < l.length) :
    cyc f ((l.take (j + 1)).drop i) + cyc f (l.drop j ++ l.take (i + 1)) = cyc f l := by
  have e1 : l = l.take i ++ l.drop i := (List.take_append_drop i l).symm
  obtain ⟨p, M, hM⟩ : ∃ p M, l.drop i = p :: M := by
    cases h : l.drop i with
    | nil => rw [List.drop_eq_nil_iff] at h; omega
    | cons p M => exact ⟨p, M, rfl⟩
  have hi : (l.take i).length = i := by rw [List.length_take]; omega
  generalize l.take i = A at e1 hi
  rw [hM] at e1
  subst e1
  have t1 : (A ++ p :: M).take (i + 1) = A ++ [p] := by rw [← hi, List.take_length_add_append]; rfl
  rw [t1]
  have aux : cyc f (A ++ p :: M) = f (lastD p (M ++ A)) p + ps f p (M ++ A) := by rw [cyc_rot, List.cons_append, cyc_cons]
  rw [aux]
  obtain ⟨k, rfl⟩ : ∃ k, j = i + k := ⟨j - i, by omega⟩
  rw [show i + k + 1 = i + (k + 1) by omega, ← hi, List.take_length_add_append, List.drop_left, List.drop_length_add_append]
  have hk : k < (p :: M).length := by rw [List.length_append] at hj; omega
  cases k with
  | zero =>
    simp only [List.take_succ_cons, List.take_zero, List.drop_zero, List.cons_append]
    rw [cyc_cons, cyc_cons, ← List.append_assoc, ps_app, lastD_app]
    simp only [ps, lastD_cons, lastD_nil, anti_self ha]
    grind
  | succ k =>
    obtain ⟨q, C, hC⟩ : ∃ q C, M.drop k = q :: C := by
      cases h : M.drop k with
      | nil => rw [List.drop_eq_nil_iff] at h; simp at hk; omega
      | cons p M => exact ⟨p, M, rfl⟩
    have e2 : M = M.take k ++ q :: C := by rw [← hC]; exact (List.take_append_drop k M).symm
    have e3 : (p :: M).take (k + 1 + 1) = p :: (M.take k ++ [q]) := by
      rw [List.take_succ_cons, List.take_add_one, ← List.head?_drop, hC]; rfl
    rw [e3, List.drop_succ_cons, hC]
    generalize M.take k = B at e2
    subst e2
    rw [List.cons_append, cyc_cons, cyc_cons, List.append_assoc, ps_app (l := B), lastD_app, ← List.append_assoc, ps_app (m := [p]), lastD_app (m := [p]), List.cons_append]
    simp only [ps, lastD_cons, lastD_nil, ps_app, lastD_app]
    have := ha p q
    grind
/-! ### the cells -/
theorem under_anti {L : Rat} {P Q : Pt} : under L Q P = - under L P Q := by
  obtain ⟨a, y⟩ := P
  obtain ⟨b, z⟩ := Q
  by_cases h : a = b
  · subst h; rw [under_0, under_0]; grind
  · rw [under_F h, under_F (Ne.symm h)]; generalize FF L a = X; generalize FF L b = Y; grind
theorem onE_sym {P Q : Pt} {y : Rat} (h : P.2 ≠ Q.2) : onE Q P y = onE P Q y := by unfold onE; ext <;> simp <;> grind
theorem edge_anti {f : Pt → Pt → Rat} (ha : ∀ P Q, f Q P = - f P Q) {Y1 Y2 : Rat} {P Q : Pt} : edge f Y1 Y2 Q P = - edge f Y1 Y2 P Q := by
  unfold edge rowPart
  by_cases h : P.2 = Q.2
  · rw [if_pos h, if_pos h.symm]; grind
  · rw [if_neg h, if_neg (Ne.symm h)]
    by_cases h2 : clampR Y1 Y2 P.2 = clampR Y1 Y2 Q.2
    · rw [if_pos h2, if_pos h2.symm]; grind
    · rw [if_neg h2, if_neg (Ne.symm h2)]
      simp only [onE_sym h]
      exact ha _ _
/-- what lies between two lines -/
def col (L1 L2 : Rat) (P Q : Pt) : Rat := under L2 P Q - under L1 P Q
theorem col_anti {L1 L2 : Rat} (P Q : Pt) : col L1 L2 Q P = - col L1 L2 P Q := by unfold col; rw [under_anti (L := L2), under_anti (L := L1)]; grind
def cellE (r c : Int) (P Q : Pt) : Rat := edge (col ((64 * c : Int) : Rat) ((64 * (c + 1) : Int) : Rat)) ((64 * r : Int) : Rat) ((64 * (r + 1) : Int) : Rat) P Q
theorem cellE_anti {r c : Int} (P Q : Pt) : cellE r c Q P = - cellE r c P Q := edge_anti col_anti
/-- a polygon's grey in a cell -/
def G (l : List Pt) (r c : Int) : Rat := cyc (cellE r c) l / 4096
theorem flat_under {L a b y : Rat} : under L (a, y) (b, y) = 0 := by
  by_cases h : a = b
  · subst h; rw [under_0]; grind
  · rw [under_F h]; grind
theorem flat_kap {L1 L2 : Rat} : Flat (kap L1 L2) := fun a b y => by unfold kap; rw [flat_under, flat_under]; simp; grind
theorem flat_col {L1 L2 : Rat} : Flat (col L1 L2) := fun a b y => by unfold col; rw [flat_under, flat_under]; grind
def dy (P Q : Pt) : Rat := Q.2 - P.2
theorem edge_flat {f : Pt → Pt → Rat} (hf : Flat f) {Y1 Y2 : Rat} {P Q : Pt} : edge f Y1 Y2 P Q = if P.2 = Q.2 then 0 else f (onE P Q (clampR Y1 Y2 P.2)) (onE P Q (clampR Y1 Y2 Q.2)) := by
  unfold edge rowPart
  by_cases h : P.2 = Q.2
  · rw [if_pos h, if_pos h]
  · rw [if_neg h, if_neg h]
    by_cases h2 : clampR Y1 Y2 P.2 = clampR Y1 Y2 Q.2
    · rw [if_pos h2, h2]; exact (hf _ _ _).symm
    · rw [if_neg h2]
theorem edge_kap {L1 L2 Y1 Y2 : Rat} {P Q : Pt} : edge (kap L1 L2) Y1 Y2 P Q = edge (col L1 L2) Y1 Y2 P Q + L1 * (clampR Y1 Y2 Q.2 - clampR Y1 Y2 P.2) := by
  rw [edge_flat flat_kap, edge_flat flat_col]
  by_cases h : P.2 = Q.2
  · rw [if_pos h, if_pos h, h]; grind
  · rw [if_neg h, if_neg h]; rfl
theorem cross_trap (P Q : Pt) : cross P Q = 2 * trap P Q + (P.1 * P.2 - Q.1 * Q.2) := by unfold cross trap; grind
theorem cyc_cross {l : List Pt} : cyc cross l = 2 * cyc trap l := by
  have h : cyc cross l = cyc (fun P Q => (fun A B : Pt => B.1 * (-B.2) - A.1 * (-A.2)) P Q + 2 * trap P Q) l := cyc_congr fun P Q _ _ => by rw [cross_trap]; grind
  rw [h, cyc_lin, cyc_diff (φ := fun A => A.1 * (-A.2))]
  grind
/-- the clipped polygon's share is the sum over the edges -/
theorem share_cell {l : List Pt} {r c : Int} :
    cyc cross (cut false false ((64 * (c + 1) : Int) : Rat) (cut false true ((64 * c : Int) : Rat) (cut true false ((64 * (r + 1) : Int) : Rat) (cut true true ((64 * r : Int) : Rat) l)))) / 8192 = G l r c := by
  have hL : ((64 * c : Int) : Rat) < ((64 * (c + 1) : Int) : Rat) := Rat.intCast_lt_intCast.mpr (by omega)
  have hY : ((64 * r : Int) : Rat) < ((64 * (r + 1) : Int) : Rat) := Rat.intCast_lt_intCast.mpr (by omega)
  unfold G
  have hg : cellE r c = edge (col ((64 * c : Int) : Rat) ((64 * (c + 1) : Int) : Rat)) ((64 * r : Int) : Rat) ((64 * (r + 1) : Int) : Rat) := by funext P Q; rfl
  rw [hg]
  generalize ((64 * c : Int) : Rat) = L1 at *
  generalize ((64 * (c + 1) : Int) : Rat) = L2 at *
  generalize ((64 * r : Int) : Rat) = Y1 at *
  generalize ((64 * (r + 1) : Int) : Rat) = Y2 at *
  have hLe := Rat.le_of_lt hL
  rw [cyc_cross, cut_sum (h := trap), cyc_congr (g := under L2) fun P Q _ _ => clip_x2 L2 P Q, cut_sum (h := under L2), cyc_congr (g := kap L1 L2) fun P Q _ _ => clip_x1 L1 L2 hLe P Q,
    cut_sum (h := kap L1 L2), cut_sum, cyc_congr (g := edge (kap L1 L2) Y1 Y2) fun P Q _ _ => clip_y _ flat_kap Y1 Y2 hY P Q]
  · have : cyc (edge (kap L1 L2) Y1 Y2) l = cyc (fun P Q => edge (col L1 L2) Y1 Y2 P Q + L1 * (fun P Q : Pt => clampR Y1 Y2 Q.2 - clampR Y1 Y2 P.2) P Q) l := cyc_congr fun P Q _ _ => edge_kap
    rw [this, cyc_lin, cyc_diff (φ := fun P => clampR Y1 Y2 P.2)]
    grind
  · intro A B C hA hB hC
    have e : ∀ P Q : Pt, P.2 = Y1 → Q.2 = Y1 → clipd true false Y2 (kap L1 L2) P Q = 0 := fun P Q h1 h2 => by
      obtain ⟨a, y⟩ := P; obtain ⟨b, z⟩ := Q
      simp at h1 h2; subst h1; subst h2
      unfold clipd kept co
      simp [Rat.le_of_lt hY]
      exact flat_kap _ _ _
    rw [e A B hA hB, e B C hB hC, e A C hA hC]; grind
  · intro A B C hA hB hC
    have e : ∀ P Q : Pt, P.2 = Y2 → Q.2 = Y2 → kap L1 L2 P Q = 0 := fun P Q h1 h2 => by
      obtain ⟨a, y⟩ := P; obtain ⟨b, z⟩ := Q
      simp at h1 h2; subst h1; subst h2
      exact flat_kap _ _ _
    rw [e A B hA hB, e B C hB hC, e A C hA hC]; grind
  · intro A B C hA hB hC
    have e : ∀ P Q : Pt, P.1 = L1 → Q.1 = L1 → under L2 P Q = (Q.2 - P.2) * L1 := fun P Q h1 h2 => by
      obtain ⟨a, y⟩ := P; obtain ⟨b, z⟩ := Q
      simp at h1 h2; subst h1; subst h2
      rw [under_0, if_pos hLe]
    rw [e A B hA hB, e B C hB hC, e A C hA hC]; grind
  · intro A B C hA hB hC
    unfold trap
    simp [co] at hA hB hC
    rw [hA, hB, hC]; grind
theorem cyc_add {f g : Pt → Pt → Rat} {l : List Pt} : cyc (fun P Q => f P Q + g P Q) l = cyc f l + cyc g l := by
  have := cyc_lin (f := f) (g := g) (a := 1) (l := l)
  rw [← cyc_congr (f := fun P Q => f P Q + 1 * g P Q) (g := fun P Q => f P Q + g P Q) fun P Q _ _ => by grind]
  grind
theorem G_rev {l : List Pt} {r c : Int} : G l.reverse r c = - G l r c := by unfold G; rw [cyc_rev cellE_anti]; grind
theorem G_cut2 {l : List Pt} {i j : Nat} {r c : Int} (hij : i ≤ j) (hj : j < l.length) : G ((l.take (j + 1)).drop i) r c + G (l.drop j ++ l.take (i + 1)) r c = G l r c := by
  unfold G
  rw [← cyc_cut2 cellE_anti hij hj]
  grind
/-! ### moved by whole cells -/
def mv (a b : Rat) (P : Pt) : Pt := (P.1 + a, P.2 + b)
theorem ps_map {f : Pt → Pt → Rat} {g : Pt → Pt} : ∀ {l : List Pt} {p : Pt}, ps f (g p) (l.map g) = ps (fun P Q => f (g P) (g Q)) p l
  | [], p => rfl
  | Q :: r, p => by simp only [List.map_cons, ps, ps_map]
theorem lastD_map {g : Pt → Pt} : ∀ {l : List Pt} {p : Pt}, lastD (g p) (l.map g) = g (lastD p l)
  | [], p => rfl
  | Q :: r, p => by rw [List.map_cons, lastD_cons, lastD_cons, lastD_map]
theorem cyc_map {f : Pt → Pt → Rat} {g : Pt → Pt} {l : List Pt} : cyc f (l.map g) = cyc (fun P Q => f (g P) (g Q)) l := by
  cases l with
  | nil => rfl
  | cons p t => rw [List.map_cons, cyc_cons, cyc_cons, ps_map, lastD_map]
theorem clampR_mv {lo hi y d : Rat} : clampR (lo + d) (hi + d) (y + d) = clampR lo hi y + d := by unfold clampR; grind
theorem onE_mv {P Q : Pt} {a b y : Rat} : onE (mv a b P) (mv a b Q) (y + b) = mv a b (onE P Q y) := by unfold onE mv; ext <;> simp <;> grind
theorem FF_mv {L d x : Rat} : FF (L + d) (x + d) = FF L x + d * x + d * d / 2 := by unfold FF; grind
theorem under_mv {L a b : Rat} {P Q : Pt} : under (L + a) (mv a b P) (mv a b Q) = under L P Q + a * (Q.2 - P.2) := by
  obtain ⟨x, y⟩ := P
  obtain ⟨u, z⟩ := Q
  unfold mv
  by_cases h : x = u
  · subst h; rw [under_0, under_0]; grind
  · rw [under_F h, under_F (show x + a ≠ u + a by grind), FF_mv, FF_mv]; generalize FF L x = X; generalize FF L u = Y; grind
theorem col_mv {L1 L2 a b : Rat} {P Q : Pt} : col (L1 + a) (L2 + a) (mv a b P) (mv a b Q) = col L1 L2 P Q := by unfold col; rw [under_mv, under_mv]; grind
theorem cellE_mv {r c n e : Int} {P Q : Pt} : cellE (r + n) (c + e) (mv ((64 * e : Int) : Rat) ((64 * n : Int) : Rat) P) (mv ((64 * e : Int) : Rat) ((64 * n : Int) : Rat) Q) = cellE r c P Q := by
  unfold cellE
  rw [edge_flat flat_col, edge_flat flat_col,
    show ((64 * (c + e) : Int) : Rat) = ((64 * c : Int) : Rat) + ((64 * e : Int) : Rat) by rw [← Rat.intCast_add]; congr 1; omega,
    show ((64 * (c + e + 1) : Int) : Rat) = ((64 * (c + 1) : Int) : Rat) + ((64 * e : Int) : Rat) by rw [← Rat.intCast_add]; congr 1; omega,
    show ((64 * (r + n) : Int) : Rat) = ((64 * r : Int) : Rat) + ((64 * n : Int) : Rat) by rw [← Rat.intCast_add]; congr 1; omega,
    show ((64 * (r + n + 1) : Int) : Rat) = ((64 * (r + 1) : Int) : Rat) + ((64 * n : Int) : Rat) by rw [← Rat.intCast_add]; congr 1; omega]
  generalize ((64 * c : Int) : Rat) = L1
  generalize ((64 * (c + 1) : Int) : Rat) = L2
  generalize ((64 * r : Int) : Rat) = Y1
  generalize ((64 * (r + 1) : Int) : Rat) = Y2
  generalize ((64 * e : Int) : Rat) = a
  generalize ((64 * n : Int) : Rat) = b
  have e2 : ∀ P : Pt, (mv a b P).2 = P.2 + b := fun _ => rfl
  rw [e2, e2, clampR_mv, clampR_mv, onE_mv, onE_mv, col_mv]
  by_cases h : P.2 = Q.2
  · rw [if_pos h, if_pos (by rw [h])]
  · rw [if_neg h, if_neg (by grind)]
theorem G_mv {l : List Pt} {r c n e : Int} : G (l.map (mv ((64 * e : Int) : Rat) ((64 * n : Int) : Rat))) (r + n) (c + e) = G l r c := by
  unfold G
  rw [cyc_map, cyc_congr fun P Q _ _ => cellE_mv]
/-! ### outside -/
theorem clamp_hi {lo hi y : Rat} (h : lo ≤ hi) (h2 : hi ≤ y) : clampR lo hi y = hi := by unfold clampR; grind
theorem clamp_lo {lo hi y : Rat} (h : lo ≤ hi) (h2 : y ≤ lo) : clampR lo hi y = lo := by unfold clampR; grind
theorem cast64 {r : Int} : ((64 * r : Int) : Rat) ≤ ((64 * (r + 1) : Int) : Rat) := Rat.intCast_le_intCast.mpr (by omega)
theorem G_zero {l : List Pt} {r c : Int} (h : ∀ P Q, P ∈ l → Q ∈ l → cellE r c P Q = 0) : G l r c = 0 := by
  unfold G
  rw [cyc_congr (g := fun P Q => (fun _ => (0 : Rat)) Q - (fun _ => (0 : Rat)) P) fun P Q h1 h2 => by rw [h P Q h1 h2]; grind, cyc_diff (φ := fun _ => 0)]
  grind
theorem G_row_lo {l : List Pt} {r c : Int} (h : ∀ P ∈ l, ((64 * (r + 1) : Int) : Rat) ≤ P.2) : G l r c = 0 := G_zero fun P Q h1 h2 => by
  unfold cellE
  rw [edge_flat flat_col, clamp_hi cast64 (h P h1), clamp_hi cast64 (h Q h2)]
  split
  · rfl
  · exact flat_col _ _ _
theorem G_row_hi {l : List Pt} {r c : Int} (h : ∀ P ∈ l, P.2 ≤ ((64 * r : Int) : Rat)) : G l r c = 0 := G_zero fun P Q h1 h2 => by
  unfold cellE
  rw [edge_flat flat_col, clamp_lo cast64 (h P h1), clamp_lo cast64 (h Q h2)]
  split
  · rfl
  · exact flat_col _ _ _
theorem conv_le {a b L t : Rat} (h0 : 0 ≤ t) (h1 : t ≤ 1) (ha : a ≤ L) (hb : b ≤ L) : a + t * (b - a) ≤ L := by
  have h2 : 0 ≤ (1 - t) * (L - a) := Rat.mul_nonneg (by grind) (by grind)
  have h3 : 0 ≤ t * (L - b) := Rat.mul_nonneg h0 (by grind)
  grind
theorem conv_ge {a b L t : Rat} (h0 : 0 ≤ t) (h1 : t ≤ 1) (ha : L ≤ a) (hb : L ≤ b) : L ≤ a + t * (b - a) := by
  have h2 : 0 ≤ (1 - t) * (a - L) := Rat.mul_nonneg (by grind) (by grind)
  have h3 : 0 ≤ t * (b - L) := Rat.mul_nonneg h0 (by grind)
  grind
theorem div01 {u v : Rat} (hv : v ≠ 0) (h : (0 ≤ u ∧ u ≤ v) ∨ (u ≤ 0 ∧ v ≤ u)) : 0 ≤ u / v ∧ u / v ≤ 1 := by
  have h0 : ∀ u v : Rat, 0 < v → 0 ≤ u → u ≤ v → 0 ≤ u / v ∧ u / v ≤ 1 := fun u v hp h1 h2 =>
    ⟨Rat.not_lt.mp fun z => by rw [Rat.div_lt_iff hp] at z; grind, Rat.not_lt.mp fun z => by rw [Rat.lt_div_iff hp] at z; grind⟩
  rcases h with ⟨h1, h2⟩ | ⟨h1, h2⟩
  · exact h0 u v (by grind) h1 h2
  · have e : u / v = (-u) / (-v) := by grind
    rw [e]
    exact h0 (-u) (-v) (by grind) (by grind) (by grind)
/-- a place on an edge, within a row -/
theorem onE_hull {P Q : Pt} {lo hi : Rat} (hl : lo ≤ hi) (h : P.2 ≠ Q.2) (hc : clampR lo hi P.2 ≠ clampR lo hi Q.2) (y : Rat) (hy : y = clampR lo hi P.2 ∨ y = clampR lo hi Q.2) :
    ∃ t : Rat, 0 ≤ t ∧ t ≤ 1 ∧ (onE P Q y).1 = P.1 + t * (Q.1 - P.1) := by
  refine ⟨(y - P.2) / (Q.2 - P.2), ?_⟩
  have := div01 (u := y - P.2) (v := Q.2 - P.2) (by grind) (by unfold clampR at hc hy; grind)
  exact ⟨this.1, this.2, by unfold onE; simp; grind⟩
theorem G_col_hi {l : List Pt} {r c : Int} (h : ∀ P ∈ l, P.1 ≤ ((64 * c : Int) : Rat)) : G l r c = 0 := G_zero fun P Q h1 h2 => by
  unfold cellE
  rw [edge_flat flat_col]
  split
  · rfl
  · rename_i hy
    by_cases hc : clampR ((64 * r : Int) : Rat) ((64 * (r + 1) : Int) : Rat) P.2 = clampR ((64 * r : Int) : Rat) ((64 * (r + 1) : Int) : Rat) Q.2
    · rw [hc]; exact flat_col _ _ _
    · obtain ⟨t, t0, t1, et⟩ := onE_hull cast64 hy hc _ (.inl rfl)
      obtain ⟨u, u0, u1, eu⟩ := onE_hull cast64 hy hc _ (.inr rfl)
      have g1 := conv_le t0 t1 (h P h1) (h Q h2)
      have g2 := conv_le u0 u1 (h P h1) (h Q h2)
      rw [← et] at g1
      rw [← eu] at g2
      unfold col
      have e : ∀ A B : Pt, A.1 ≤ ((64 * c : Int) : Rat) → B.1 ≤ ((64 * c : Int) : Rat) → under ((64 * (c + 1) : Int) : Rat) A B - under ((64 * c : Int) : Rat) A B = 0 := fun A B hA hB => by
        obtain ⟨a, x⟩ := A; obtain ⟨b, z⟩ := B
        have := cast64 (r := c)
        rw [under_lo hA hB, under_lo (Rat.le_trans hA this) (Rat.le_trans hB this)]; grind
      exact e _ _ g1 g2
theorem G_col_lo {l : List Pt} {r c : Int} (h : ∀ P ∈ l, ((64 * (c + 1) : Int) : Rat) ≤ P.1) : G l r c = 0 := by
  unfold G
  have key : ∀ P Q, P ∈ l → Q ∈ l → cellE r c P Q = (fun A : Pt => 64 * clampR ((64 * r : Int) : Rat) ((64 * (r + 1) : Int) : Rat) A.2) Q - (fun A : Pt => 64 * clampR ((64 * r : Int) : Rat) ((64 * (r + 1) : Int) : Rat) A.2) P := fun P Q h1 h2 => by
    unfold cellE
    rw [edge_flat flat_col]
    split
    · rename_i hy; simp only [hy]; grind
    · rename_i hy
      by_cases hc : clampR ((64 * r : Int) : Rat) ((64 * (r + 1) : Int) : Rat) P.2 = clampR ((64 * r : Int) : Rat) ((64 * (r + 1) : Int) : Rat) Q.2
      · simp only [hc]; rw [flat_col _ _ _]; grind
      · obtain ⟨t, t0, t1, et⟩ := onE_hull cast64 hy hc _ (.inl rfl)
        obtain ⟨u, u0, u1, eu⟩ := onE_hull cast64 hy hc _ (.inr rfl)
        have g1 := conv_ge t0 t1 (h P h1) (h Q h2)
        have g2 := conv_ge u0 u1 (h P h1) (h Q h2)
        rw [← et] at g1
        rw [← eu] at g2
        unfold col
        have e : ∀ A B : Pt, ((64 * (c + 1) : Int) : Rat) ≤ A.1 → ((64 * (c + 1) : Int) : Rat) ≤ B.1 → under ((64 * (c + 1) : Int) : Rat) A B - under ((64 * c : Int) : Rat) A B = 64 * B.2 - 64 * A.2 := fun A B hA hB => by
          obtain ⟨a, x⟩ := A; obtain ⟨b, z⟩ := B
          have := cast64 (r := c)
          rw [under_hi hA hB, under_hi (Rat.le_trans this hA) (Rat.le_trans this hB)]
          have e3 : ((64 * (c + 1) : Int) : Rat) = ((64 * c : Int) : Rat) + 64 := by
            rw [show (64 : Rat) = ((64 : Int) : Rat) from rfl, ← Rat.intCast_add, Int.mul_add]; rfl
          rw [e3]; grind
        exact e _ _ g1 g2
  rw [cyc_congr key, cyc_diff (φ := fun A : Pt => 64 * clampR ((64 * r : Int) : Rat) ((64 * (r + 1) : Int) : Rat) A.2)]
  grind
/-- a strip beside a column has no share of it -/
theorem strip_zero {l : List Pt} {L1 L2 : Rat} (hL : L1 ≤ L2) (h : (∀ P ∈ l, P.1 ≤ L1) ∨ (∀ P ∈ l, L2 ≤ P.1)) : cyc cross (cut false false L2 (cut false true L1 l)) / 8192 = 0 := by
  rw [cyc_cross, cut_sum (h := trap), cyc_congr (g := under L2) fun P Q _ _ => clip_x2 L2 P Q, cut_sum (h := under L2), cyc_congr (g := kap L1 L2) fun P Q _ _ => clip_x1 L1 L2 hL P Q]
  · rcases h with h | h
    · have key : ∀ P Q, P ∈ l → Q ∈ l → kap L1 L2 P Q = (fun A : Pt => L1 * A.2) Q - (fun A : Pt => L1 * A.2) P := fun P Q h1 h2 => by
        have a1 := h P h1; have a2 := h Q h2
        obtain ⟨a, x⟩ := P; obtain ⟨b, z⟩ := Q
        unfold kap
        simp only at a1 a2 ⊢
        rw [under_lo a1 a2, under_lo (Rat.le_trans a1 hL) (Rat.le_trans a2 hL)]; grind
      rw [cyc_congr key, cyc_diff (φ := fun A : Pt => L1 * A.2)]; grind
    · have key : ∀ P Q, P ∈ l → Q ∈ l → kap L1 L2 P Q = (fun A : Pt => L2 * A.2) Q - (fun A : Pt => L2 * A.2) P := fun P Q h1 h2 => by
        have a1 := h P h1; have a2 := h Q h2
        obtain ⟨a, x⟩ := P; obtain ⟨b, z⟩ := Q
        unfold kap
        simp only at a1 a2 ⊢
        rw [under_hi a1 a2, under_hi (Rat.le_trans hL a1) (Rat.le_trans hL a2)]; grind
      rw [cyc_congr key, cyc_diff (φ := fun A : Pt => L2 * A.2)]; grind
  · intro A B C hA hB hC
    have e : ∀ P Q : Pt, P.1 = L1 → Q.1 = L1 → under L2 P Q = (Q.2 - P.2) * L1 := fun P Q h1 h2 => by
      obtain ⟨a, y⟩ := P; obtain ⟨b, z⟩ := Q
      simp at h1 h2; subst h1; subst h2
      rw [under_0, if_pos hL]
    rw [e A B hA hB, e B C hB hC, e A C hA hC]; grind
  · intro A B C hA hB hC
    unfold trap
    simp [co] at hA hB hC
    rw [hA, hB, hC]; grind
/-! ### the sum of all cells -/
def sumR (lo : Int) : Nat → (Int → Rat) → Rat
  | 0, _ => 0
  | n + 1, f => sumR lo n f + f (lo + n)
theorem sumR_tel {g : Int → Rat} {lo : Int} : ∀ n : Nat, sumR lo n (fun c => g (c + 1) - g c) = g (lo + n) - g lo
  | 0 => by simp [sumR]; grind
  | n + 1 => by simp only [sumR, sumR_tel n]; rw [show lo + (n : Int) + 1 = lo + ((n + 1 : Nat) : Int) by omega]; grind
theorem sumR_congr {f g : Int → Rat} {lo : Int} : ∀ {n : Nat}, (∀ i, lo ≤ i → i < lo + n → f i = g i) → sumR lo n f = sumR lo n g
  | 0, _ => rfl
  | n + 1, h => by simp only [sumR]; rw [sumR_congr fun i h1 h2 => h i h1 (by omega), h (lo + n) (by omega) (by omega)]
theorem sumR_add {f g : Int → Rat} {lo : Int} : ∀ {n : Nat}, sumR lo n (fun i => f i + g i) = sumR lo n f + sumR lo n g
  | 0 => by simp only [sumR]; grind
  | n + 1 => by simp only [sumR, sumR_add]; grind
theorem sumR_sub {f g : Int → Rat} {lo : Int} : ∀ {n : Nat}, sumR lo n (fun i => f i - g i) = sumR lo n f - sumR lo n g
  | 0 => by simp only [sumR]; grind
  | n + 1 => by simp only [sumR, sumR_sub]; grind
theorem sumR_zero {lo : Int} : ∀ {n : Nat}, sumR lo n (fun _ => 0) = 0
  | 0 => rfl
  | n + 1 => by simp only [sumR, sumR_zero]; grind
theorem sumR_mul {f : Int → Rat} {a : Rat} {lo : Int} : ∀ {n : Nat}, sumR lo n (fun i => f i / a) = sumR lo n f / a
  | 0 => by simp only [sumR]; grind
  | n + 1 => by simp only [sumR, sumR_mul]; grind
theorem ps_sumR {f : Int → Pt → Pt → Rat} {lo : Int} {n : Nat} : ∀ {l : List Pt} {p : Pt}, sumR lo n (fun i => ps (f i) p l) = ps (fun P Q => sumR lo n fun i => f i P Q) p l
  | [], p => by simp only [ps, sumR_zero]
  | Q :: r, p => by simp only [ps]; rw [sumR_add, ps_sumR]
theorem cyc_sumR {f : Int → Pt → Pt → Rat} {lo : Int} {n : Nat} {l : List Pt} : sumR lo n (fun i => cyc (f i) l) = cyc (fun P Q => sumR lo n fun i => f i P Q) l := ps_sumR
theorem row_tel {T : Rat → Rat} {lo : Int} {y : Rat} (h : ((64 * lo : Int) : Rat) ≤ y) : ∀ n : Nat, sumR lo n (fun r => T (clampR ((64 * r : Int) : Rat) ((64 * (r + 1) : Int) : Rat) y) - T ((64 * r : Int) : Rat)) = T (if y ≤ ((64 * (lo + n) : Int) : Rat) then y else ((64 * (lo + n) : Int) : Rat)) - T ((64 * lo : Int) : Rat)
  | 0 => by
    simp only [sumR]
    rw [show lo + ((0 : Nat) : Int) = lo by omega]
    by_cases e : y ≤ ((64 * lo : Int) : Rat)
    · rw [if_pos e, Rat.le_antisymm e h]; grind
    · rw [if_neg e]; grind
  | n + 1 => by
    simp only [sumR, row_tel h n]
    rw [show lo + ((n + 1 : Nat) : Int) = lo + (n : Int) + 1 by omega]
    have h2 := cast64 (r := lo + n)
    generalize ((64 * (lo + n + 1) : Int) : Rat) = b at *
    generalize ((64 * (lo + n) : Int) : Rat) = a at *
    by_cases e : y ≤ a
    · rw [if_pos e, if_pos (Rat.le_trans e h2), clamp_lo h2 e]; grind
    · have h3 := Rat.not_le.mp e
      rw [if_neg e]
      by_cases e2 : y ≤ b
      · rw [if_pos e2, show clampR a b y = y by unfold clampR; grind]; grind
      · rw [if_neg e2, clamp_hi h2 (by grind)]; grind
theorem row_tel2 {T : Rat → Rat} {lo : Int} {n : Nat} {y z : Rat} (h : ((64 * lo : Int) : Rat) ≤ y) (h2 : y ≤ ((64 * (lo + n) : Int) : Rat)) (k : ((64 * lo : Int) : Rat) ≤ z) (k2 : z ≤ ((64 * (lo + n) : Int) : Rat)) :
    sumR lo n (fun r => T (clampR ((64 * r : Int) : Rat) ((64 * (r + 1) : Int) : Rat) z) - T (clampR ((64 * r : Int) : Rat) ((64 * (r + 1) : Int) : Rat) y)) = T z - T y := by
  have h1 := row_tel (T := T) h n
  have h3 := row_tel (T := T) k n
  rw [if_pos h2] at h1
  rw [if_pos k2] at h3
  rw [sumR_sub] at h1 h3 ⊢
  grind
theorem edge_sumR {f : Int → Pt → Pt → Rat} {lo : Int} {n : Nat} {Y1 Y2 : Rat} {P Q : Pt} : sumR lo n (fun i => edge (f i) Y1 Y2 P Q) = edge (fun A B => sumR lo n fun i => f i A B) Y1 Y2 P Q := by
  unfold edge
  cases rowPart Y1 Y2 P Q with
  | none => exact sumR_zero
  | some x => rfl
theorem G_total {l : List Pt} {r0 c0 : Int} {n m : Nat} (h : ∀ P ∈ l, (((64 * r0 : Int) : Rat) ≤ P.2 ∧ P.2 ≤ ((64 * (r0 + n) : Int) : Rat)) ∧ ((64 * c0 : Int) : Rat) ≤ P.1 ∧ P.1 ≤ ((64 * (c0 + m) : Int) : Rat)) :
    sumR r0 n (fun r => sumR c0 m fun c => G l r c) = cyc cross l / 8192 := by
  unfold G
  have e1 : ∀ r, sumR c0 m (fun c => cyc (cellE r c) l / 4096) = cyc (edge (col ((64 * c0 : Int) : Rat) ((64 * (c0 + m) : Int) : Rat)) ((64 * r : Int) : Rat) ((64 * (r + 1) : Int) : Rat)) l / 4096 := fun r => by
    rw [sumR_mul, cyc_sumR]
    congr 1
    refine cyc_congr fun P Q _ _ => ?_
    unfold cellE
    rw [edge_sumR]
    congr 1
    funext A B
    unfold col
    exact sumR_tel (g := fun c => under ((64 * c : Int) : Rat) A B) m
  rw [show (fun r => sumR c0 m fun c => cyc (cellE r c) l / 4096) = fun r => cyc (edge (col ((64 * c0 : Int) : Rat) ((64 * (c0 + m) : Int) : Rat)) ((64 * r : Int) : Rat) ((64 * (r + 1) : Int) : Rat)) l / 4096 from funext e1]
  rw [sumR_mul, cyc_sumR, cyc_cross]
  generalize hC : ((64 * c0 : Int) : Rat) = C0 at *
  generalize ((64 * (c0 + m) : Int) : Rat) = C1 at *
  have key : ∀ P Q, P ∈ l → Q ∈ l → (sumR r0 n fun r => edge (col C0 C1) ((64 * r : Int) : Rat) ((64 * (r + 1) : Int) : Rat) P Q) = trap P Q + (-C0) * (fun P Q : Pt => Q.2 - P.2) P Q := fun P Q h1 h2 => by
    obtain ⟨⟨p1, p2⟩, p3, p4⟩ := h P h1
    obtain ⟨⟨q1, q2⟩, q3, q4⟩ := h Q h2
    by_cases hy : P.2 = Q.2
    · rw [sumR_congr (g := fun _ => 0) fun i _ _ => by rw [edge_flat flat_col, if_pos hy], sumR_zero]
      unfold trap; simp only [hy]; grind
    · have e : ∀ i, edge (col C0 C1) ((64 * i : Int) : Rat) ((64 * (i + 1) : Int) : Rat) P Q =
          (fun y : Rat => P.1 * y + (Q.1 - P.1) / (Q.2 - P.2) * (y * y / 2 - P.2 * y) - C0 * y) (clampR ((64 * i : Int) : Rat) ((64 * (i + 1) : Int) : Rat) Q.2) -
          (fun y : Rat => P.1 * y + (Q.1 - P.1) / (Q.2 - P.2) * (y * y / 2 - P.2 * y) - C0 * y) (clampR ((64 * i : Int) : Rat) ((64 * (i + 1) : Int) : Rat) P.2) := fun i => by
        rw [edge_flat flat_col, if_neg hy]
        by_cases hc : clampR ((64 * i : Int) : Rat) ((64 * (i + 1) : Int) : Rat) P.2 = clampR ((64 * i : Int) : Rat) ((64 * (i + 1) : Int) : Rat) Q.2
        · rw [hc, flat_col _ _ _]; grind
        · obtain ⟨t, t0, t1, et⟩ := onE_hull cast64 hy hc _ (.inl rfl)
          obtain ⟨u, u0, u1, eu⟩ := onE_hull cast64 hy hc _ (.inr rfl)
          have g1 := conv_ge t0 t1 p3 q3
          have g2 := conv_ge u0 u1 p3 q3
          have g3 := conv_le t0 t1 p4 q4
          have g4 := conv_le u0 u1 p4 q4
          rw [← et] at g1 g3
          rw [← eu] at g2 g4
          generalize clampR ((64 * i : Int) : Rat) ((64 * (i + 1) : Int) : Rat) P.2 = a at *
          generalize clampR ((64 * i : Int) : Rat) ((64 * (i + 1) : Int) : Rat) Q.2 = b at *
          unfold col onE at *
          simp only at *
          rw [under_lo g3 g4, under_hi g1 g2]
          grind
      rw [show (fun r => edge (col C0 C1) ((64 * r : Int) : Rat) ((64 * (r + 1) : Int) : Rat) P Q) = _ from funext e]
      rw [row_tel2 (T := fun y : Rat => P.1 * y + (Q.1 - P.1) / (Q.2 - P.2) * (y * y / 2 - P.2 * y) - C0 * y) p1 p2 q1 q2]
      unfold trap
      have hd : Q.2 - P.2 ≠ 0 := by grind
      generalize hk : (Q.1 - P.1) / (Q.2 - P.2) = k
      have hk2 : Q.1 = P.1 + k * (Q.2 - P.2) := by rw [← hk]; grind
      rw [hk2]; grind
  rw [cyc_congr key, cyc_lin, cyc_diff (φ := fun A : Pt => A.2)]
  grind
end G84

set_option Elab.async false
set_option linter.all false
set_option maxRecDepth 100000
set_option maxHeartbeats 4000000
/-! DS: the readings of the hand layer, told over data: slots hold data, the heap is hidden; a few lists may be owned and changed. -/
namespace DS
open PySem PySem.Spec PyProof.Rows L2

/-- a thing is tracked there, and no tuple -/
def Tk (H : Hp) (a : Addr) : Prop := ∃ o, H a = some o ∧ ∀ xs, o ≠ .tup xs
theorem Tk.ne {H : Hp} {a : Addr} (h : Tk H a) : H a ≠ none := fun z => by obtain ⟨o, h1, _⟩ := h; rw [z] at h1; cases h1
theorem Tk.same {H H' : Hp} {a : Addr} (h : Tk H a) (e : ∀ o, H a = some o → H' a = some o) : Tk H' a := by obtain ⟨o, h1, h2⟩ := h; exact ⟨o, e o h1, h2⟩
/-- the owned lists: where, and what they hold -/
inductive Oc where
  | lst (ds : List PyData)
  | dct (kvs : List (Key × PyData))
  | dcT (kvs : List (List Key × PyData))
abbrev Bt := List (Addr × Oc)
inductive Slot where
  | no
  | dat (d : PyData)
  | raw (v : V)
  | key (ks : List Key)

def Off (os : List Addr) (H : Hp) : Hp := fun a => if a ∈ os then none else H a
theorem off_in {os : List Addr} {H : Hp} {a : Addr} (h : a ∈ os) : Off os H a = none := by unfold Off; rw [if_pos h]
theorem off_out {os : List Addr} {H : Hp} {a : Addr} (h : a ∉ os) : Off os H a = H a := by unfold Off; rw [if_neg h]
theorem off_le (os : List Addr) (H : Hp) : Same (Off os H) H := fun a o e => by
  by_cases h : a ∈ os
  · rw [off_in h] at e; cases e
  · rw [off_out h] at e; exact e
theorem off_some {os : List Addr} {H : Hp} {a : Addr} {o : HO} (e : Off os H a = some o) : a ∉ os ∧ H a = some o := by
  by_cases h : a ∈ os
  · rw [off_in h] at e; cases e
  · rw [off_out h] at e; exact ⟨h, e⟩
theorem off_same {os : List Addr} {H H' : Hp} (h : Same H H') : Same (Off os H) (Off os H') := fun a o e => by
  obtain ⟨h1, h2⟩ := off_some e
  rw [off_out h1]
  exact h a o h2
theorem off_sub {os os' : List Addr} {H : Hp} (h : ∀ a ∈ os, a ∈ os') : Same (Off os' H) (Off os H) := fun a o e => by
  obtain ⟨h1, h2⟩ := off_some e
  rw [off_out fun z => h1 (h a z)]
  exact h2
theorem off_upd {os : List Addr} {H : Hp} {p : Addr} {o : HO} (hp : p ∉ os) : Off os (upd H p o) p = some o := by
  rw [off_out hp, upd_same]
theorem same_new {H : Hp} {p : Addr} {o : HO} (h : H p = none) : Same H (upd H p o) := fun b u q => by
  rw [upd_ne (ne_of_none q h)]
  exact q
theorem same_seqT {K : PySem.W.Frag} {H H' : Hp} {a : Addr} {xs : List V} (e : Same H H') (h : SqT K H a xs) : SqT K H' a xs := by
  rcases h with (h | ⟨o, h⟩) | h
  · exact .inl (.inl (e _ _ h))
  · exact .inl (.inr ⟨o, e _ _ h⟩)
  · exact .inr h

/-! ### data: as the layer's, but a list is never of the written part -/
def kD : Key → PyData
  | .inl i => .int i
  | .inr x => .str x
mutual
inductive Dp (K : PySem.W.Frag) (H : Hp) : V → PyData → Prop
  | non : Dp K H .non .none
  | bl (b : Bool) : Dp K H (.bl b) (.bool b)
  | int (i : Int) : Dp K H (.int i) (.int i)
  | str (x : Str) : Dp K H (.str x) (.str x)
  | lst {a : Addr} {xs : List V} {ds : List PyData} : Rd H a (.lst xs) → DpAll K H xs ds → Dp K H (.ref a) (.list ds)
  | tup {a : Addr} {xs : List V} {ds : List PyData} : SqT K H a xs → DpAll K H xs ds → Dp K H (.ref a) (.tuple ds)
  | dct {a : Addr} {kv : List (Key × V)} {kvs : List (PyData × PyData)} : Rd H a (.dK kv) → DpKv K H kv kvs → Dp K H (.ref a) (.dict kvs)
  | dctT {a : Addr} {kv : List (List Key × V)} {kvs : List (PyData × PyData)} : Rd H a (.dT kv) → DpKt K H kv kvs → Dp K H (.ref a) (.dict ((.none, .none) :: kvs))
inductive DpAll (K : PySem.W.Frag) (H : Hp) : List V → List PyData → Prop
  | nil : DpAll K H [] []
  | cons {v : V} {vs : List V} {d : PyData} {ds : List PyData} : Dp K H v d → DpAll K H vs ds → DpAll K H (v :: vs) (d :: ds)
/-- the pairs of a dict whose keys are ints and texts -/
inductive DpKv (K : PySem.W.Frag) (H : Hp) : List (Key × V) → List (PyData × PyData) → Prop
  | nil : DpKv K H [] []
  | cons {k : Key} {v : V} {r : List (Key × V)} {d : PyData} {ds : List (PyData × PyData)} : Dp K H v d → DpKv K H r ds → DpKv K H ((k, v) :: r) ((kD k, d) :: ds)
/-- the pairs of a dict whose keys are tuples (told as data: a first pair of None) -/
inductive DpKt (K : PySem.W.Frag) (H : Hp) : List (List Key × V) → List (PyData × PyData) → Prop
  | nil : DpKt K H [] []
  | cons {k : List Key} {v : V} {r : List (List Key × V)} {d : PyData} {ds : List (PyData × PyData)} : Dp K H v d → DpKt K H r ds → DpKt K H ((k, v) :: r) ((.tuple (k.map kD), d) :: ds)
end
/-- the same, but that a thing that may change may be locked or freed -/
def Sim (H H' : Hp) : Prop := ∀ a o, H a = some o → H' a = some o ∨ (Mut (some o) ∧ ∃ q, H' a = some (.frz q o)) ∨ ∃ q u, o = .frz q u ∧ Mut (some u) ∧ H' a = some u
theorem Same.sim {H H' : Hp} (h : Same H H') : Sim H H' := fun a o e => .inl (h a o e)
theorem sim_rd {H H' : Hp} (e : Sim H H') {a : Addr} {u : HO} (hu : ∀ q w, u ≠ .frz q w) (h : Rd H a u) : Rd H' a u := by
  rcases h with h | ⟨o, h⟩
  · rcases e a u h with h2 | ⟨_, q, h2⟩ | ⟨q, w, h2, _⟩
    · exact .inl h2
    · exact .inr ⟨q, h2⟩
    · exact absurd h2 (hu q w)
  · rcases e a _ h with h2 | ⟨h3, q, h2⟩ | ⟨q, w, h2, _, h3⟩
    · exact .inr ⟨o, h2⟩
    · cases h3
    · cases h2; exact .inl h3
theorem nf_lst {xs : List V} (q : Obj) (w : HO) : HO.lst xs ≠ .frz q w := fun z => nomatch z
theorem nf_dK {xs : List (Key × V)} (q : Obj) (w : HO) : HO.dK xs ≠ .frz q w := fun z => nomatch z
theorem nf_dT {xs : List (List Key × V)} (q : Obj) (w : HO) : HO.dT xs ≠ .frz q w := fun z => nomatch z
theorem sim_seqT {K : PySem.W.Frag} {H H' : Hp} {a : Addr} {xs : List V} (e : Sim H H') (h : SqT K H a xs) : SqT K H' a xs := by
  rcases h with h | h
  · exact .inl (sim_rd e (fun _ _ z => nomatch z) h)
  · exact .inr h
theorem sim_seq {K : PySem.W.Frag} {H H' : Hp} {a : Addr} {xs : List V} (e : Sim H H') (h : SqL K H a xs) : SqL K H' a xs := by
  rcases h with h | h
  · exact .inl (sim_rd e (fun _ _ z => nomatch z) h)
  · exact .inr h
section
variable {K : PySem.W.Frag} {H H' : Hp}
mutual
theorem dp_L2 : ∀ (d : PyData) (v : V), d.plain = true → Dp K H v d → L2.Dp K H v d
  | .none, _, _, h => by cases h; exact .non
  | .bool b, _, _, h => by cases h; exact .bl b
  | .int i, _, _, h => by cases h; exact .int i
  | .str x, _, _, h => by cases h; exact .str x
  | .list ds, _, p, h => by
    simp only [PyData.plain] at p
    cases h with
    | lst hs ha => exact .lst (.inl hs) (dpAll_L2 ds _ p ha)
  | .tuple ds, _, p, h => by
    simp only [PyData.plain] at p
    cases h with
    | tup hs ha => exact .tup hs (dpAll_L2 ds _ p ha)
  | .dict _, _, p, _ => nomatch p
theorem dpAll_L2 : ∀ (ds : List PyData) (vs : List V), PyData.plainAll ds = true → DpAll K H vs ds → L2.DpAll K H vs ds
  | [], _, _, h => by cases h; exact .nil
  | d :: ds, _, p, h => by
    simp only [PyData.plainAll, Bool.and_eq_true] at p
    cases h with
    | cons h1 h2 => exact .cons (dp_L2 d _ p.1 h1) (dpAll_L2 ds _ p.2 h2)
end
theorem rd_mono (e : Same H H') {a : Addr} {u : HO} (h : Rd H a u) : Rd H' a u := by
  rcases h with h | ⟨o, h⟩
  · exact .inl (e _ _ h)
  · exact .inr ⟨o, e _ _ h⟩
theorem dp_sim (e : Sim H H') (vs : V) (ds : PyData) (h : Dp K H vs ds) : Dp K H' vs ds := @Dp.rec K H (fun v d _ => Dp K H' v d) (fun vs ds _ => DpAll K H' vs ds) (fun vs ds _ => DpKv K H' vs ds) (fun vs ds _ => DpKt K H' vs ds)
  .non .bl .int .str (fun hs _ ih => .lst (sim_rd e nf_lst hs) ih) (fun hs _ ih => .tup (sim_seqT e hs) ih) (fun hs _ ih => .dct (sim_rd e nf_dK hs) ih) (fun hs _ ih => .dctT (sim_rd e nf_dT hs) ih)
  .nil (fun _ _ a b => .cons a b) .nil (fun _ _ a b => .cons a b) .nil (fun _ _ a b => .cons a b) vs ds h
theorem dpAll_sim (e : Sim H H') (vs : List V) (ds : List PyData) (h : DpAll K H vs ds) : DpAll K H' vs ds := @DpAll.rec K H (fun v d _ => Dp K H' v d) (fun vs ds _ => DpAll K H' vs ds) (fun vs ds _ => DpKv K H' vs ds) (fun vs ds _ => DpKt K H' vs ds)
  .non .bl .int .str (fun hs _ ih => .lst (sim_rd e nf_lst hs) ih) (fun hs _ ih => .tup (sim_seqT e hs) ih) (fun hs _ ih => .dct (sim_rd e nf_dK hs) ih) (fun hs _ ih => .dctT (sim_rd e nf_dT hs) ih)
  .nil (fun _ _ a b => .cons a b) .nil (fun _ _ a b => .cons a b) .nil (fun _ _ a b => .cons a b) vs ds h
theorem dp_mono (e : Same H H') (d : PyData) (v : V) (h : Dp K H v d) : Dp K H' v d := dp_sim (Same.sim e) v d h
theorem dpAll_mono (e : Same H H') (ds : List PyData) (vs : List V) (h : DpAll K H vs ds) : DpAll K H' vs ds := dpAll_sim (Same.sim e) vs ds h
theorem dpAll_len : ∀ {vs : List V} {ds : List PyData}, DpAll K H vs ds → vs.length = ds.length
  | _, _, .nil => rfl
  | _, _, .cons _ t => by rw [List.length_cons, List.length_cons, dpAll_len t]
theorem dpAll_get : ∀ {vs : List V} {ds : List PyData} {i : Nat} {d : PyData}, DpAll K H vs ds → ds[i]? = some d → ∃ v, vs[i]? = some v ∧ Dp K H v d
  | _, _, _, _, .nil, e => by simp at e
  | _, _, 0, _, .cons r _, e => by simp at e; subst e; exact ⟨_, rfl, r⟩
  | _, _, i + 1, _, .cons _ t, e => by
    obtain ⟨u, h1, h2⟩ := dpAll_get (i := i) t (by simpa using e)
    exact ⟨u, by simpa using h1, h2⟩
theorem dpAll_get' : ∀ {vs : List V} {ds : List PyData} {i : Nat} {v : V}, DpAll K H vs ds → vs[i]? = some v → ∃ d, ds[i]? = some d ∧ Dp K H v d
  | _, _, _, _, .nil, e => by simp at e
  | _, _, 0, _, .cons r _, e => by simp at e; subst e; exact ⟨_, rfl, r⟩
  | _, _, i + 1, _, .cons _ t, e => by
    obtain ⟨u, h1, h2⟩ := dpAll_get' (i := i) t (by simpa using e)
    exact ⟨u, by simpa using h1, h2⟩
theorem dpAll_append : ∀ {vs ws : List V} {ds es : List PyData}, DpAll K H vs ds → DpAll K H ws es → DpAll K H (vs ++ ws) (ds ++ es)
  | _, _, _, _, .nil, s => s
  | _, _, _, _, .cons r t, s => .cons r (dpAll_append t s)
theorem dpAll_take : ∀ {vs : List V} {ds : List PyData} (n : Nat), DpAll K H vs ds → DpAll K H (vs.take n) (ds.take n)
  | _, _, 0, _ => .nil
  | _, _, _ + 1, .nil => .nil
  | _, _, n + 1, .cons r t => .cons r (dpAll_take n t)
theorem dpAll_drop : ∀ {vs : List V} {ds : List PyData} (n : Nat), DpAll K H vs ds → DpAll K H (vs.drop n) (ds.drop n)
  | _, _, 0, r => r
  | _, _, _ + 1, .nil => .nil
  | _, _, n + 1, .cons _ t => dpAll_drop n t
theorem dpAll_set {v : V} {d : PyData} (r : Dp K H v d) : ∀ {vs : List V} {ds : List PyData} (i : Nat), DpAll K H vs ds → DpAll K H (vs.set i v) (ds.set i d)
  | _, _, _, .nil => .nil
  | _, _, 0, .cons _ t => .cons r t
  | _, _, i + 1, .cons q t => .cons q (dpAll_set r i t)

def SlotR (K : PySem.W.Frag) (G : Hp) : Option V → Slot → Prop
  | _, .no => True
  | o, .dat d => ∃ v, o = some v ∧ Dp K G v d
  | o, .raw v => o = some v
  | o, .key ks => ∃ b, o = some (.ref b) ∧ G b = some (.tup (ks.map kV))
def SlotsR (K : PySem.W.Frag) (G : Hp) : List (Option V) → List Slot → Prop
  | [], [] => True
  | o :: σ, s :: ρ => SlotR K G o s ∧ SlotsR K G σ ρ
  | _, _ => False
theorem slotR_mono (e : Same H H') {o : Option V} {s : Slot} (h : SlotR K H o s) : SlotR K H' o s := by
  cases s with
  | no => trivial
  | dat d => obtain ⟨v, h1, h2⟩ := h; exact ⟨v, h1, dp_mono e d v h2⟩
  | raw v => exact h
  | key ks => obtain ⟨b, h1, h2⟩ := h; exact ⟨b, h1, e b _ h2⟩
theorem slotsR_mono (e : Same H H') : ∀ {σ : List (Option V)} {ρ : List Slot}, SlotsR K H σ ρ → SlotsR K H' σ ρ
  | [], [], _ => trivial
  | _ :: _, _ :: _, h => ⟨slotR_mono e h.1, slotsR_mono e h.2⟩
  | [], _ :: _, h => h.elim
  | _ :: _, [], h => h.elim
theorem slotsR_len : ∀ {σ : List (Option V)} {ρ : List Slot}, SlotsR K H σ ρ → σ.length = ρ.length
  | [], [], _ => rfl
  | _ :: _, _ :: _, h => by rw [List.length_cons, List.length_cons, slotsR_len h.2]
  | [], _ :: _, h => h.elim
  | _ :: _, [], h => h.elim
theorem slotsR_get : ∀ {σ : List (Option V)} {ρ : List Slot} {i : Nat} {s : Slot}, SlotsR K H σ ρ → ρ[i]? = some s → ∃ o, σ[i]? = some o ∧ SlotR K H o s
  | [], [], _, _, _, e => by simp at e
  | _ :: _, _ :: _, 0, _, h, e => by simp at e; subst e; exact ⟨_, rfl, h.1⟩
  | _ :: _, _ :: _, i + 1, _, h, e => by
    obtain ⟨o, h1, h2⟩ := slotsR_get (i := i) h.2 (by simpa using e)
    exact ⟨o, by simpa using h1, h2⟩
  | [], _ :: _, _, _, h, _ => h.elim
  | _ :: _, [], _, _, h, _ => h.elim
theorem slotsR_set {o : Option V} {s : Slot} (r : SlotR K H o s) : ∀ {σ : List (Option V)} {ρ : List Slot} (i : Nat), SlotsR K H σ ρ → SlotsR K H (σ.set i o) (ρ.set i s)
  | [], [], _, h => h
  | _ :: _, _ :: _, 0, h => ⟨r, h.2⟩
  | _ :: _, _ :: _, i + 1, h => ⟨h.1, slotsR_set r i h.2⟩
  | [], _ :: _, _, h => h.elim
  | _ :: _, [], _, h => h.elim

def KvAll (K : PySem.W.Frag) (G : Hp) : List (Key × V) → List (Key × PyData) → Prop := Paired fun p q => p.1 = q.1 ∧ Dp K G p.2 q.2
def KtAll (K : PySem.W.Frag) (G : Hp) : List (List Key × V) → List (List Key × PyData) → Prop := Paired fun p q => p.1 = q.1 ∧ Dp K G p.2 q.2
def OcR (K : PySem.W.Frag) (G : Hp) : Oc → HO → Prop
  | .lst ds, o => ∃ vs, o = .lst vs ∧ DpAll K G vs ds
  | .dct kvs, o => ∃ kv, o = .dK kv ∧ KvAll K G kv kvs
  | .dcT kvs, o => ∃ kv, o = .dT kv ∧ KtAll K G kv kvs
theorem ocR_sim (e : Sim H H') : ∀ {c : Oc} {o : HO}, OcR K H c o → OcR K H' c o
  | .lst ds, _, ⟨vs, h1, h2⟩ => ⟨vs, h1, dpAll_sim e _ _ h2⟩
  | .dct kvs, _, ⟨kv, h1, h2⟩ => ⟨kv, h1, Paired.mapP h2 fun _ _ h => ⟨h.1, dp_sim e _ _ h.2⟩⟩
  | .dcT kvs, _, ⟨kv, h1, h2⟩ => ⟨kv, h1, Paired.mapP h2 fun _ _ h => ⟨h.1, dp_sim e _ _ h.2⟩⟩
theorem ocR_mono (e : Same H H') {c : Oc} {o : HO} (h : OcR K H c o) : OcR K H' c o := ocR_sim (Same.sim e) h
theorem ocR_tk {c : Oc} {o : HO} (h : OcR K H c o) : ∀ xs, o ≠ .tup xs := fun xs z => by
  subst z
  cases c <;> (obtain ⟨_, e, _⟩ := h; cases e)
abbrev dom (β : Bt) : List Addr := β.map (·.1)
def OwnR (K : PySem.W.Frag) (os : List Addr) (H : Hp) : Bt → Prop
  | [] => True
  | (a, c) :: β => a ∈ os ∧ (∃ o, H a = some o ∧ OcR K (Off os H) c o) ∧ OwnR K os H β
structure Hok (K : PySem.W.Frag) (os : List Addr) (H : Hp) (β : Bt) : Prop where
  trk : ∀ a ∈ os, Tk H a
  nd : (dom β).Nodup
  own : OwnR K os H β
/-- nothing but the owned lists is changed -/
def Keep (β : Bt) (H H' : Hp) : Prop := ∀ a o, a ∉ dom β → H a = some o → H' a = some o
theorem Keep.refl (β : Bt) (H : Hp) : Keep β H H := fun _ _ _ h => h
theorem Keep.same {β : Bt} (h : Same H H') : Keep β H H' := fun a o _ e => h a o e
theorem OwnR.mem {os : List Addr} : ∀ {β : Bt}, OwnR K os H β → ∀ a ∈ dom β, a ∈ os
  | [], _, a, h => by simp at h
  | (b, ds) :: β, h, a, ha => by
    rcases List.mem_cons.mp ha with e | e
    · rw [e]; exact h.1
    · exact OwnR.mem h.2.2 a e
theorem Hok.mem {os : List Addr} {β : Bt} (h : Hok K os H β) : ∀ a ∈ dom β, a ∈ os := h.own.mem
theorem off_keep {os : List Addr} {β : Bt} (m : ∀ a ∈ dom β, a ∈ os) (k : Keep β H H') : Same (Off os H) (Off os H') := fun a o e => by
  obtain ⟨h1, h2⟩ := off_some e
  rw [off_out h1]
  exact k a o (fun z => h1 (m a z)) h2
theorem OwnR.mono {os : List Addr} (e : Same H H') : ∀ {β : Bt}, OwnR K os H β → OwnR K os H' β
  | [], _ => trivial
  | (b, ds) :: β, h => by
    obtain ⟨h1, ⟨vs, h2, h3⟩, h4⟩ := h
    exact ⟨h1, ⟨vs, e _ _ h2, ocR_mono (off_same e) h3⟩, OwnR.mono e h4⟩
theorem Hok.mono {os : List Addr} {β : Bt} (e : Same H H') (h : Hok K os H β) : Hok K os H' β :=
  ⟨fun a ha => (h.trk a ha).same fun o q => e a o q, h.nd, h.own.mono e⟩
theorem Hok.no {os : List Addr} (h : ∀ a ∈ os, Tk H a) : Hok K os H [] := ⟨h, List.nodup_nil, trivial⟩
/-- an address whose tracked object stands is not new -/
theorem new_out {os : List Addr} {β : Bt} {p : Addr} (h : Hok K os H β) (hp : H p = none) : p ∉ os := fun z => (h.trk p z).ne hp
/-- what may be forgotten -/
theorem dp_off {os : List Addr} {v : V} {d : PyData} (h : Dp K (Off os H) v d) : Dp K H v d := dp_mono (off_le os H) d v h
theorem dpAll_off {os : List Addr} {vs : List V} {ds : List PyData} (h : DpAll K (Off os H) vs ds) : DpAll K H vs ds := dpAll_mono (off_le os H) ds vs h
end

/-! ### the judgements -/
def WE (K : PySem.W.Frag) (te : TE) (ρ : List Slot) (β : Bt) (P : PyData → Bt → Prop) : Prop := ∀ (os : List Addr) (H : Hp) (σ : L2.St) (Q : VK), Hok K os H β → SlotsR K (Off os H) σ ρ →
  (∀ v H2 d β2, P d β2 → dom β2 = dom β → Keep β H H2 → Hok K os H2 β2 → Dp K (Off os H2) v d → Q v H2) → te σ H Q
def WT (K : PySem.W.Frag) (tt : TT) (ρ : List Slot) (β : Bt) (P : Bool → Bt → Prop) : Prop := ∀ (os : List Addr) (H : Hp) (σ : L2.St) (Q : Bool → Hp → Prop), Hok K os H β → SlotsR K (Off os H) σ ρ →
  (∀ b H2 β2, P b β2 → dom β2 = dom β → Keep β H H2 → Hok K os H2 β2 → Q b H2) → tt σ H Q
def WA (K : PySem.W.Frag) (ta : TA) (ρ : List Slot) (β : Bt) (P : List PyData → Bt → Prop) : Prop := ∀ (os : List Addr) (H : Hp) (σ : L2.St) (Q : List V → Hp → Prop), Hok K os H β → SlotsR K (Off os H) σ ρ →
  (∀ vs H2 ds β2, P ds β2 → dom β2 = dom β → Keep β H H2 → Hok K os H2 β2 → DpAll K (Off os H2) vs ds → Q vs H2) → ta σ H Q
def WO (K : PySem.W.Frag) (to : TO) (ρ : List Slot) (β : Bt) (P : Option Int → Bt → Prop) : Prop := ∀ (os : List Addr) (H : Hp) (σ : L2.St) (Q : Option Int → Hp → Prop), Hok K os H β → SlotsR K (Off os H) σ ρ →
  (∀ o H2 β2, P o β2 → dom β2 = dom β → Keep β H H2 → Hok K os H2 β2 → Q o H2) → to σ H Q

section
variable {K : PySem.W.Frag} {ρ : List Slot} {β : Bt} {P : PyData → Bt → Prop}
theorem keep_trans {β1 : Bt} {H H1 H2 : Hp} (e : dom β1 = dom β) (a : Keep β H H1) (b : Keep β1 H1 H2) : Keep β H H2 := fun x o h1 h2 => b x o (by rw [e]; exact h1) (a x o h1 h2)
theorem WE.mono {te : TE} {P' : PyData → Bt → Prop} (h : WE K te ρ β P) (f : ∀ d β2, P d β2 → P' d β2) : WE K te ρ β P' := fun os H σ Q hk hs q => h os H σ Q hk hs fun v H2 d β2 p => q v H2 d β2 (f d β2 p)
theorem WT.mono {tt : TT} {P P' : Bool → Bt → Prop} (h : WT K tt ρ β P) (f : ∀ d β2, P d β2 → P' d β2) : WT K tt ρ β P' := fun os H σ Q hk hs q => h os H σ Q hk hs fun v H2 β2 p => q v H2 β2 (f v β2 p)
theorem slots_keep {os : List Addr} {H H2 : Hp} {σ : L2.St} (hk : Hok K os H β) (k : Keep β H H2) (h : SlotsR K (Off os H) σ ρ) : SlotsR K (Off os H2) σ ρ := slotsR_mono (off_keep hk.mem k) h
theorem dp_keep {os : List Addr} {H H2 : Hp} {v : V} {d : PyData} (hk : Hok K os H β) (k : Keep β H H2) (h : Dp K (Off os H) v d) : Dp K (Off os H2) v d := dp_mono (off_keep hk.mem k) d v h
theorem dpAll_keep {os : List Addr} {H H2 : Hp} {vs : List V} {ds : List PyData} (hk : Hok K os H β) (k : Keep β H H2) (h : DpAll K (Off os H) vs ds) : DpAll K (Off os H2) vs ds := dpAll_mono (off_keep hk.mem k) ds vs h

/-! ### expressions -/
theorem we_var {i : Nat} {d : PyData} (h : ρ[i]? = some (.dat d)) (p : P d β) : WE K (tVar i) ρ β P := fun os H σ Q hk hs q => by
  obtain ⟨o, e, v, rfl, hd⟩ := slotsR_get hs h
  exact ⟨v, e, q v H d β p rfl (Keep.refl _ _) hk hd⟩
theorem we_c {v : V} {d : PyData} (h : ∀ G : Hp, Dp K G v d) (p : P d β) : WE K (tC v) ρ β P := fun os H σ Q hk hs q => q v H d β p rfl (Keep.refl _ _) hk (h _)
theorem we_int {i : Int} (p : P (.int i) β) : WE K (tC (.int i)) ρ β P := we_c (fun _ => .int i) p
theorem we_bl {b : Bool} (p : P (.bool b) β) : WE K (tC (.bl b)) ρ β P := we_c (fun _ => .bl b) p
theorem we_non (p : P .none β) : WE K (tC .non) ρ β P := we_c (fun _ => .non) p
theorem we_str {x : Str} (p : P (.str x) β) : WE K (tC (.str x)) ρ β P := we_c (fun _ => .str x) p

/-- a two-place operation on data -/
def R2D (K : PySem.W.Frag) (r : R2) (x y z : PyData) : Prop := ∀ (os : List Addr) (H : Hp) (v u : V) (Q : VK), (∀ a ∈ os, Tk H a) → Dp K (Off os H) v x → Dp K (Off os H) u y → (∀ w H2, Same H H2 → Dp K (Off os H2) w z → Q w H2) → r v u H Q
def R1D (K : PySem.W.Frag) (r : V → Hp → VK → Prop) (x z : PyData) : Prop := ∀ (os : List Addr) (H : Hp) (v : V) (Q : VK), (∀ a ∈ os, Tk H a) → Dp K (Off os H) v x → (∀ w H2, Same H H2 → Dp K (Off os H2) w z → Q w H2) → r v H Q
/-- a built-in's call on data -/
def RCD (K : PySem.W.Frag) (r : List V → Hp → VK → Prop) (xs : List PyData) (z : PyData) : Prop := ∀ (os : List Addr) (H : Hp) (vs : List V) (Q : VK), (∀ a ∈ os, Tk H a) → DpAll K (Off os H) vs xs → (∀ w H2, Same H H2 → Dp K (Off os H2) w z → Q w H2) → r vs H Q
theorem we_op {r : R2} {ta tb : TE} (h : WE K ta ρ β fun x β1 => WE K tb ρ β1 fun y β2 => ∃ z, R2D K r x y z ∧ P z β2) : WE K (tOp r ta tb) ρ β P := fun os H σ Q hk hs q => by
  refine h os H σ _ hk hs fun v H1 x β1 h1 e1 k1 hk1 d1 => ?_
  refine h1 os H1 σ _ hk1 (slots_keep hk k1 hs) fun u H2 y β2 h2 e2 k2 hk2 d2 => ?_
  obtain ⟨z, hr, p⟩ := h2
  exact hr os H2 v u Q hk2.trk (dp_keep hk1 k2 d1) d2 fun w H3 s dw => q w H3 z β2 p (e2.trans e1) (keep_trans (e2.trans e1) (keep_trans e1 k1 k2) (Keep.same s)) (hk2.mono s) dw
theorem we_un {r : V → Hp → VK → Prop} {ta : TE} (h : WE K ta ρ β fun x β1 => ∃ z, R1D K r x z ∧ P z β1) : WE K (tUn r ta) ρ β P := fun os H σ Q hk hs q => by
  refine h os H σ _ hk hs fun v H1 x β1 h1 e1 k1 hk1 d1 => ?_
  obtain ⟨z, hr, p⟩ := h1
  exact hr os H1 v Q hk1.trk d1 fun w H3 s dw => q w H3 z β1 p e1 (keep_trans e1 k1 (Keep.same s)) (hk1.mono s) dw
theorem we_cb {r : List V → Hp → VK → Prop} {ta : TA} (h : WA K ta ρ β fun xs β1 => ∃ z, RCD K r xs z ∧ P z β1) : WE K (tCB r ta) ρ β P := fun os H σ Q hk hs q => by
  refine h os H σ _ hk hs fun v H1 x β1 h1 e1 k1 hk1 d1 => ?_
  obtain ⟨z, hr, p⟩ := h1
  exact hr os H1 v Q hk1.trk d1 fun w H3 s dw => q w H3 z β1 p e1 (keep_trans e1 k1 (Keep.same s)) (hk1.mono s) dw
theorem wa_nil {P : List PyData → Bt → Prop} (p : P [] β) : WA K tNil ρ β P := fun os H σ Q hk hs q => q [] H [] β p rfl (Keep.refl _ _) hk .nil
theorem wa_cons {te : TE} {tr : TA} {P : List PyData → Bt → Prop} (h : WE K te ρ β fun x β1 => WA K tr ρ β1 fun xs β2 => P (x :: xs) β2) : WA K (tCons te tr) ρ β P := fun os H σ Q hk hs q => by
  refine h os H σ _ hk hs fun v H1 x β1 h1 e1 k1 hk1 d1 => ?_
  refine h1 os H1 σ _ hk1 (slots_keep hk k1 hs) fun u H2 y β2 h2 e2 k2 hk2 d2 => ?_
  exact q _ H2 _ β2 h2 (e2.trans e1) (keep_trans e1 k1 k2) hk2 (.cons (dp_keep hk1 k2 d1) d2)
theorem we_tup {ta : TA} (h : WA K ta ρ β fun xs β1 => xs.length ≤ sizeLine ∧ P (.tuple xs) β1) : WE K (tTup ta) ρ β P := fun os H σ Q hk hs q => by
  refine h os H σ _ hk hs fun vs H1 xs β1 h1 e1 k1 hk1 d1 => ?_
  obtain ⟨hl, p⟩ := h1
  refine ⟨by rw [dpAll_len d1]; exact hl, fun a na => ?_⟩
  have s := same_new (o := .tup vs) na
  exact q _ _ _ β1 p e1 (keep_trans e1 k1 (Keep.same s)) (hk1.mono s) (.tup (.inl (.inl (off_upd (new_out hk1 na)))) (dpAll_mono (off_same s) _ _ d1))
theorem we_lst {ta : TA} (h : WA K ta ρ β fun xs β1 => xs.length ≤ sizeLine ∧ P (.list xs) β1) : WE K (tLst ta) ρ β P := fun os H σ Q hk hs q => by
  refine h os H σ _ hk hs fun vs H1 xs β1 h1 e1 k1 hk1 d1 => ?_
  obtain ⟨hl, p⟩ := h1
  refine ⟨by rw [dpAll_len d1]; exact hl, fun a na => ?_⟩
  have s := same_new (o := .lst vs) na
  exact q _ _ _ β1 p e1 (keep_trans e1 k1 (Keep.same s)) (hk1.mono s) (.lst (.inl (off_upd (new_out hk1 na))) (dpAll_mono (off_same s) _ _ d1))
theorem dp_bool {H : Hp} {v : V} {b : Bool} (h : Dp K H v (.bool b)) : v = .bl b := by cases h; rfl
theorem dp_int {H : Hp} {v : V} {b : Int} (h : Dp K H v (.int b)) : v = .int b := by cases h; rfl
theorem dp_str {H : Hp} {v : V} {b : Str} (h : Dp K H v (.str b)) : v = .str b := by cases h; rfl
theorem dp_non {H : Hp} {v : V} (h : Dp K H v .none) : v = .non := by cases h; rfl
theorem dp_tup {H : Hp} {v : V} {ds : List PyData} (h : Dp K H v (.tuple ds)) : ∃ a vs, v = .ref a ∧ SqT K H a vs ∧ DpAll K H vs ds := by cases h with | tup hs ha => exact ⟨_, _, rfl, hs, ha⟩
theorem dp_lst {H : Hp} {v : V} {ds : List PyData} (h : Dp K H v (.list ds)) : ∃ a vs, v = .ref a ∧ SqL K H a vs ∧ DpAll K H vs ds := by cases h with | lst hs ha => exact ⟨_, _, rfl, .inl hs, ha⟩
theorem dp_lstR {H : Hp} {v : V} {ds : List PyData} (h : Dp K H v (.list ds)) : ∃ a vs, v = .ref a ∧ Rd H a (.lst vs) ∧ DpAll K H vs ds := by cases h with | lst hs ha => exact ⟨_, _, rfl, hs, ha⟩
theorem we_andV {ta tb : TE} (h : WE K ta ρ β fun x β1 => ∃ c, x = .bool c ∧ (c = true → WE K tb ρ β1 P) ∧ (c = false → P (.bool false) β1)) : WE K (tAndV ta tb) ρ β P := fun os H σ Q hk hs q => by
  refine h os H σ _ hk hs fun v H1 x β1 h1 e1 k1 hk1 d1 => ?_
  obtain ⟨c, rfl, h2, h3⟩ := h1
  refine ⟨c, dp_bool d1, ?_⟩
  cases c with
  | true => exact iteT (h2 rfl os H1 σ Q hk1 (slots_keep hk k1 hs) fun w H2 d β2 p e2 k2 hk2 d2 => q w H2 d β2 p (e2.trans e1) (keep_trans e1 k1 k2) hk2 d2)
  | false => exact iteF (q _ H1 _ β1 (h3 rfl) e1 k1 hk1 (.bl false))
theorem we_orV {ta tb : TE} (h : WE K ta ρ β fun x β1 => ∃ c, x = .bool c ∧ (c = true → P (.bool true) β1) ∧ (c = false → WE K tb ρ β1 P)) : WE K (tOrV ta tb) ρ β P := fun os H σ Q hk hs q => by
  refine h os H σ _ hk hs fun v H1 x β1 h1 e1 k1 hk1 d1 => ?_
  obtain ⟨c, rfl, h2, h3⟩ := h1
  refine ⟨c, dp_bool d1, ?_⟩
  cases c with
  | true => exact iteT (q _ H1 _ β1 (h2 rfl) e1 k1 hk1 (.bl true))
  | false => exact iteF (h3 rfl os H1 σ Q hk1 (slots_keep hk k1 hs) fun w H2 d β2 p e2 k2 hk2 d2 => q w H2 d β2 p (e2.trans e1) (keep_trans e1 k1 k2) hk2 d2)
theorem we_notV {ta : TE} (h : WE K ta ρ β fun x β1 => ∃ c, x = .bool c ∧ P (.bool (!c)) β1) : WE K (tNotV ta) ρ β P := fun os H σ Q hk hs q => by
  refine h os H σ _ hk hs fun v H1 x β1 h1 e1 k1 hk1 d1 => ?_
  obtain ⟨c, rfl, p⟩ := h1
  exact ⟨c, dp_bool d1, q _ H1 _ β1 p e1 k1 hk1 (.bl _)⟩
theorem we_if {t : TT} {ta tb : TE} (h : WT K t ρ β fun c β1 => (c = true → WE K ta ρ β1 P) ∧ (c = false → WE K tb ρ β1 P)) : WE K (tIf t ta tb) ρ β P := fun os H σ Q hk hs q => by
  refine h os H σ _ hk hs fun c H1 β1 h1 e1 k1 hk1 => ?_
  cases c with
  | true => exact iteT (h1.1 rfl os H1 σ Q hk1 (slots_keep hk k1 hs) fun w H2 d β2 p e2 k2 hk2 d2 => q w H2 d β2 p (e2.trans e1) (keep_trans e1 k1 k2) hk2 d2)
  | false => exact iteF (h1.2 rfl os H1 σ Q hk1 (slots_keep hk k1 hs) fun w H2 d β2 p e2 k2 hk2 d2 => q w H2 d β2 p (e2.trans e1) (keep_trans e1 k1 k2) hk2 d2)
theorem we_chain {r r' : R2} {ta tb tc : TE} (h : WE K ta ρ β fun x β1 => WE K tb ρ β1 fun y β2 => ∃ c, R2D K r x y (.bool c) ∧ (c = true → WE K tc ρ β2 fun w β3 => ∃ z, R2D K r' y w z ∧ P z β3) ∧ (c = false → P (.bool false) β2)) :
    WE K (tChain r r' ta tb tc) ρ β P := fun os H σ Q hk hs q => by
  refine h os H σ _ hk hs fun v H1 x β1 h1 e1 k1 hk1 d1 => ?_
  refine h1 os H1 σ _ hk1 (slots_keep hk k1 hs) fun u H2 y β2 h2 e2 k2 hk2 d2 => ?_
  obtain ⟨c, hr, h3, h4⟩ := h2
  have k12 := keep_trans e1 k1 k2
  have e12 := e2.trans e1
  refine hr os H2 v u _ hk2.trk (dp_keep hk1 k2 d1) d2 fun w H3 s dw => ⟨c, dp_bool dw, ?_⟩
  have k13 := keep_trans e12 k12 (Keep.same s)
  cases c with
  | true =>
    refine iteT (h3 rfl os H3 σ _ (hk2.mono s) (slotsR_mono (off_same s) (slots_keep hk k12 hs)) fun w' H4 y' β4 h5 e4 k4 hk4 d4 => ?_)
    obtain ⟨z, hr', p⟩ := h5
    refine hr' os H4 u w' Q hk4.trk (dp_keep (hk2.mono s) k4 (dp_mono (off_same s) _ _ d2)) d4 fun w2 H5 s5 dw5 => q w2 H5 z β4 p (e4.trans e12) (keep_trans (e4.trans e12) (keep_trans e12 k13 k4) (Keep.same s5)) (hk4.mono s5) dw5
  | false => exact iteF (q _ H3 _ β2 (h4 rfl) e12 k13 (hk2.mono s) (.bl false))

/-! ### tests -/
theorem wt_test {te : TE} {P : Bool → Bt → Prop} (h : WE K te ρ β fun x β1 => ∃ c, x = .bool c ∧ P c β1) : WT K (tTest te) ρ β P := fun os H σ Q hk hs q => by
  refine h os H σ _ hk hs fun v H1 x β1 h1 e1 k1 hk1 d1 => ?_
  obtain ⟨c, rfl, p⟩ := h1
  exact ⟨c, dp_bool d1, q c H1 β1 p e1 k1 hk1⟩
theorem wt_B {te : TE} {P : Bool → Bt → Prop} (h : WE K te ρ β fun x β1 => ∃ c, x = .bool c ∧ P c β1) : WT K (tB te) ρ β P := fun os H σ Q hk hs q => by
  refine h os H σ _ hk hs fun v H1 x β1 h1 e1 k1 hk1 d1 => ?_
  obtain ⟨c, rfl, p⟩ := h1
  exact ⟨c, dp_bool d1, q c H1 β1 p e1 k1 hk1⟩
theorem wt_and {t u : TT} {P : Bool → Bt → Prop} (h : WT K t ρ β fun c β1 => (c = true → WT K u ρ β1 P) ∧ (c = false → P false β1)) : WT K (tAnd t u) ρ β P := fun os H σ Q hk hs q => by
  refine h os H σ _ hk hs fun c H1 β1 h1 e1 k1 hk1 => ?_
  cases c with
  | true => exact iteT (h1.1 rfl os H1 σ Q hk1 (slots_keep hk k1 hs) fun w H2 β2 p e2 k2 hk2 => q w H2 β2 p (e2.trans e1) (keep_trans e1 k1 k2) hk2)
  | false => exact iteF (q false H1 β1 (h1.2 rfl) e1 k1 hk1)
theorem wt_or {t u : TT} {P : Bool → Bt → Prop} (h : WT K t ρ β fun c β1 => (c = true → P true β1) ∧ (c = false → WT K u ρ β1 P)) : WT K (tOr t u) ρ β P := fun os H σ Q hk hs q => by
  refine h os H σ _ hk hs fun c H1 β1 h1 e1 k1 hk1 => ?_
  cases c with
  | true => exact iteT (q true H1 β1 (h1.1 rfl) e1 k1 hk1)
  | false => exact iteF (h1.2 rfl os H1 σ Q hk1 (slots_keep hk k1 hs) fun w H2 β2 p e2 k2 hk2 => q w H2 β2 p (e2.trans e1) (keep_trans e1 k1 k2) hk2)
theorem wt_not {t : TT} {P : Bool → Bt → Prop} (h : WT K t ρ β fun c β1 => P (!c) β1) : WT K (tNot t) ρ β P := fun os H σ Q hk hs q =>
  h os H σ _ hk hs fun c H1 β1 h1 e1 k1 hk1 => q (!c) H1 β1 h1 e1 k1 hk1

/-! ### calls of pure defs -/
/-- a def that changes nothing and answers by its arguments alone: R tells what for which -/
def spP (K : PySem.W.Frag) (R : List PyData → PyData → Prop) : Sp := fun vs H Q _ => ∃ (os : List Addr) (ds : List PyData) (d : PyData), (∀ a ∈ os, Tk H a) ∧ DpAll K (Off os H) vs ds ∧ R ds d ∧ ∀ v H', Same H H' → Dp K (Off os H') v d → Q v H'
theorem we_call {R : List PyData → PyData → Prop} {E : XK} {ta : TA} (h : WA K ta ρ β fun xs β1 => ∃ z, R xs z ∧ P z β1) : WE K (tCall (spP K R) [] E ta) ρ β P := fun os H σ Q hk hs q => by
  refine h os H σ _ hk hs fun v H1 x β1 h1 e1 k1 hk1 d1 => ?_
  obtain ⟨z, hr, p⟩ := h1
  refine ⟨os, x, z, hk1.trk, by rw [List.append_nil]; exact d1, hr, fun w H3 s dw => q w H3 z β1 p e1 (keep_trans e1 k1 (Keep.same s)) (hk1.mono s) dw⟩

end
end DS

set_option Elab.async false
set_option linter.all false
set_option maxRecDepth 100000
set_option maxHeartbeats 4000000
/-! DS2: statements, targets, loops, comprehensions, owned lists. -/
namespace DS
open PySem PySem.Spec PyProof.Rows L2

/-! ### statements -/
/-- what is wanted behind a statement; base: the lists that were owned at the def's entry -/
structure Out where
  base : List Addr
  nx : List Slot → Bt → Prop
  rt : PyData → Bt → Prop
  bk : List Slot → Bt → Prop := fun _ _ => False
  ct : List Slot → Bt → Prop := fun _ _ => False
structure Reach (os0 b0 : List Addr) (H0 : Hp) (os : List Addr) (β : Bt) (H : Hp) : Prop where
  os : ∀ a ∈ os0, a ∈ os
  keep : ∀ a o, a ∉ b0 → H0 a = some o → H a = some o
  dom : ∀ a ∈ b0, a ∈ DS.dom β
  nw : ∀ a ∈ DS.dom β, a ∈ b0 ∨ H0 a = none
  trk : ∀ a ∈ os0, Tk H0 a
def DK (K : PySem.W.Frag) (os : List Addr) (H : Hp) (os' : List Addr) (H' : Hp) : Prop := ∀ v d, Dp K (Off os H) v d → Dp K (Off os' H') v d
structure EndsR (K : PySem.W.Frag) (E : Out) (os0 : List Addr) (H0 : Hp) (os : List Addr) (H : Hp) (D : Ends) : Prop where
  nx : ∀ os' σ' H' ρ' β', E.nx ρ' β' → Reach os0 E.base H0 os' β' H' → DK K os H os' H' → Hok K os' H' β' → SlotsR K (Off os' H') σ' ρ' → D.nx σ' H'
  rt : ∀ os' v H' d β', E.rt d β' → Reach os0 E.base H0 os' β' H' → DK K os H os' H' → Hok K os' H' β' → Dp K (Off os' H') v d → D.rt v H'
  bk : ∀ os' σ' H' ρ' β', E.bk ρ' β' → Reach os0 E.base H0 os' β' H' → DK K os H os' H' → Hok K os' H' β' → SlotsR K (Off os' H') σ' ρ' → D.bk σ' H'
  ct : ∀ os' σ' H' ρ' β', E.ct ρ' β' → Reach os0 E.base H0 os' β' H' → DK K os H os' H' → Hok K os' H' β' → SlotsR K (Off os' H') σ' ρ' → D.ct σ' H'
def WS (K : PySem.W.Frag) (ts : TS) (ρ : List Slot) (β : Bt) (E : Out) : Prop := ∀ (os0 : List Addr) (H0 : Hp) (os : List Addr) (H : Hp) (σ : L2.St) (D : Ends),
  Reach os0 E.base H0 os β H → Hok K os H β → SlotsR K (Off os H) σ ρ → EndsR K E os0 H0 os H D → ts D σ H

section
variable {K : PySem.W.Frag} {ρ : List Slot} {β : Bt} {E : Out}
theorem sdat {G : Hp} {v : V} {d : PyData} (h : Dp K G v d) : SlotR K G (some v) (.dat d) := ⟨v, rfl, h⟩
theorem DK.refl {os : List Addr} {H : Hp} : DK K os H os H := fun _ _ h => h
theorem DK.trans {os os1 os2 : List Addr} {H H1 H2 : Hp} (a : DK K os H os1 H1) (b : DK K os1 H1 os2 H2) : DK K os H os2 H2 := fun v d h => b v d (a v d h)
theorem DK.of {os : List Addr} {H H1 : Hp} (hk : Hok K os H β) (k : Keep β H H1) : DK K os H os H1 := fun _ _ h => dp_keep hk k h
theorem DK.all {os os' : List Addr} {H H' : Hp} (h : DK K os H os' H') : ∀ {vs : List V} {ds : List PyData}, DpAll K (Off os H) vs ds → DpAll K (Off os' H') vs ds
  | _, _, .nil => .nil
  | _, _, .cons r t => .cons (h _ _ r) (DK.all h t)
theorem Reach.step {os0 b0 os : List Addr} {H0 H H1 : Hp} {β1 : Bt} (r : Reach os0 b0 H0 os β H) (e : DS.dom β1 = DS.dom β) (k : Keep β H H1) : Reach os0 b0 H0 os β1 H1 where
  os := r.os
  keep := fun a o h1 h2 => k a o (fun z => by
    rcases r.nw a z with h | h
    · exact h1 h
    · rw [h2] at h; cases h) (r.keep a o h1 h2)
  dom := fun a h => by rw [e]; exact r.dom a h
  nw := fun a h => r.nw a (by rw [← e]; exact h)
  trk := r.trk
theorem EndsR.step {os0 os os1 : List Addr} {H0 H H1 : Hp} {D : Ends} (x : EndsR K E os0 H0 os H D) (k : DK K os H os1 H1) : EndsR K E os0 H0 os1 H1 D where
  nx := fun os' σ' H' ρ' β' h r d => x.nx os' σ' H' ρ' β' h r (k.trans d)
  rt := fun os' v H' y β' h r d => x.rt os' v H' y β' h r (k.trans d)
  bk := fun os' σ' H' ρ' β' h r d => x.bk os' σ' H' ρ' β' h r (k.trans d)
  ct := fun os' σ' H' ρ' β' h r d => x.ct os' σ' H' ρ' β' h r (k.trans d)

theorem ws_seq {t u : TS} (h : WS K t ρ β { E with nx := fun ρ1 β1 => WS K u ρ1 β1 E }) : WS K (tSeq t u) ρ β E := fun os0 H0 os H σ D r hk hs x =>
  h os0 H0 os H σ { D with nx := u D } r hk hs ⟨fun os' σ' H' ρ' β' w r' d hk' hs' => w os0 H0 os' H' σ' D r' hk' hs' (x.step d), x.rt, x.bk, x.ct⟩
theorem ws_next (h : E.nx ρ β) : WS K tNext ρ β E := fun os0 H0 os H σ D r hk hs x => x.nx os σ H ρ β h r DK.refl hk hs
theorem ws_break (h : E.bk ρ β) : WS K tBreak ρ β E := fun os0 H0 os H σ D r hk hs x => x.bk os σ H ρ β h r DK.refl hk hs
theorem ws_cont (h : E.ct ρ β) : WS K tCont ρ β E := fun os0 H0 os H σ D r hk hs x => x.ct os σ H ρ β h r DK.refl hk hs
theorem ws_set {te : TE} {i : Nat} (h : WE K te ρ β fun d β1 => E.nx (ρ.set i (.dat d)) β1) : WS K (tAsg te (gName i)) ρ β E := fun os0 H0 os H σ D r hk hs x =>
  h os H σ _ hk hs fun v H1 d β1 p e k hk1 dv => x.nx os _ H1 _ β1 p (r.step e k) (DK.of hk k) hk1 (slotsR_set (sdat dv) i (slots_keep hk k hs))
theorem ws_ret {te : TE} (h : WE K te ρ β E.rt) : WS K (tRet te) ρ β E := fun os0 H0 os H σ D r hk hs x =>
  h os H σ _ hk hs fun v H1 d β1 p e k hk1 dv => x.rt os v H1 d β1 p (r.step e k) (DK.of hk k) hk1 dv
theorem ws_retN (h : E.rt .none β) : WS K tRetN ρ β E := fun os0 H0 os H σ D r hk hs x => x.rt os _ H _ β h r DK.refl hk .non
theorem ws_drop {te : TE} (h : WE K te ρ β fun d β1 => E.nx ρ β1) : WS K (tDrop te) ρ β E := fun os0 H0 os H σ D r hk hs x =>
  h os H σ _ hk hs fun v H1 d β1 p e k hk1 dv => x.nx os _ H1 _ β1 p (r.step e k) (DK.of hk k) hk1 (slots_keep hk k hs)
theorem ws_if {c : TT} {t u : TS} (h : WT K c ρ β fun b β1 => (b = true → WS K t ρ β1 E) ∧ (b = false → WS K u ρ β1 E)) : WS K (tIfS c t u) ρ β E := fun os0 H0 os H σ D r hk hs x => by
  refine h os H σ _ hk hs fun b H1 β1 p e k hk1 => ?_
  cases b with
  | true => exact iteT (p.1 rfl os0 H0 os H1 σ D (r.step e k) hk1 (slots_keep hk k hs) (x.step (DK.of hk k)))
  | false => exact iteF (p.2 rfl os0 H0 os H1 σ D (r.step e k) hk1 (slots_keep hk k hs) (x.step (DK.of hk k)))
theorem ws_par {ta : TA} {i j : Nat} (h : WA K ta ρ β fun ds β1 => ∃ x y, ds = [x, y] ∧ E.nx ((ρ.set i (.dat x)).set j (.dat y)) β1) : WS K (tPar i j ta) ρ β E := fun os0 H0 os H σ D r hk hs x => by
  refine h os H σ _ hk hs fun vs H1 ds β1 p e k hk1 dv => ?_
  obtain ⟨y, z, rfl, p⟩ := p
  cases dv with
  | cons d1 t => cases t with
    | cons d2 t =>
      cases t
      exact ⟨_, _, rfl, x.nx os _ H1 _ β1 p (r.step e k) (DK.of hk k) hk1 (slotsR_set (sdat d2) j (slotsR_set (sdat d1) i (slots_keep hk k hs)))⟩

/-! ### targets -/
def Sets (tg : List Nat) (σ σ' : L2.St) : Prop := ∀ vs : List Nat, (∀ i ∈ tg, i ∈ vs) → wipe σ' vs = wipe σ vs
theorem wipe_set {i : Nat} {o : Option V} {σ : L2.St} : ∀ {vs : List Nat}, i ∈ vs → wipe (σ.set i o) vs = wipe σ vs
  | [], h => by simp at h
  | v :: vs, h => by
    unfold wipe
    by_cases e : i = v
    · subst e
      by_cases h2 : i ∈ vs
      · rw [wipe_set h2]
      · have aux : ∀ ws : List Nat, i ∉ ws → wipe (σ.set i o) ws = (wipe σ ws).set i o := by
          intro ws
          induction ws with
          | nil => intro _; rfl
          | cons w ws ih =>
            intro hn
            unfold wipe
            rw [ih fun z => hn (List.mem_cons_of_mem _ z), List.set_comm _ _ (fun z => hn (by rw [z]; exact List.mem_cons_self))]
        rw [aux vs h2, List.set_set]
    · rw [wipe_set ((List.mem_cons.mp h).resolve_left e)]
def WG (K : PySem.W.Frag) (g : TG) (d : PyData) (ρ : List Slot) (P : List Slot → Prop) : Prop := ∀ (os : List Addr) (H : Hp) (σ : L2.St) (v : V) (Q : L2.St → Hp → Prop), SlotsR K (Off os H) σ ρ → Dp K (Off os H) v d →
  (∀ σ' ρ', P ρ' → SlotsR K (Off os H) σ' ρ' → Q σ' H) → g v σ H Q
def WGs (K : PySem.W.Frag) (g : TGs) (ds : List PyData) (ρ : List Slot) (P : List Slot → Prop) : Prop := ∀ (os : List Addr) (H : Hp) (σ : L2.St) (vs : List V) (Q : L2.St → Hp → Prop), SlotsR K (Off os H) σ ρ → DpAll K (Off os H) vs ds →
  (∀ σ' ρ', P ρ' → SlotsR K (Off os H) σ' ρ' → Q σ' H) → g vs σ H Q
variable {PG' : List Slot → Prop}
theorem wg_name {i : Nat} {d : PyData} (p : PG' (ρ.set i (.dat d))) : WG K (gName i) d ρ PG' := fun os H σ v Q hs hd q =>
  q _ _ p (slotsR_set (sdat hd) i hs)
theorem wgs_nil (p : PG' ρ) : WGs K gNil [] ρ PG' := fun os H σ v Q hs hd q => by
  cases hd
  exact ⟨rfl, q σ ρ p hs⟩
theorem wgs_cons {t : TG} {u : TGs} {d : PyData} {ds : List PyData} (h : WG K t d ρ fun ρ1 => WGs K u ds ρ1 PG') : WGs K (gCons t u) (d :: ds) ρ PG' := fun os H σ vs Q hs hd q => by
  cases hd with
  | cons d1 d2 =>
    exact ⟨_, _, rfl, h os H σ _ _ hs d1 fun σ1 ρ1 p hs1 => p os H σ1 _ _ hs1 d2 fun σ2 ρ2 p2 hs2 => q σ2 ρ2 p2 hs2⟩
theorem wg_tup {t : TGs} {n : Nat} {ds : List PyData} (hl : ds.length = n) (h : WGs K t ds ρ PG') : WG K (gTup K n t) (.tuple ds) ρ PG' := fun os H σ v Q hs hd q => by
  obtain ⟨a, vs, rfl, h1, h2⟩ := dp_tup hd
  exact ⟨a, vs, rfl, same_seqT (off_le os H) h1, by rw [dpAll_len h2]; exact hl, h os H σ vs Q hs h2 q⟩
def WGc (K : PySem.W.Frag) (g : TG) (tg : List Nat) (d : PyData) (ρ : List Slot) (P : List Slot → Prop) : Prop := ∀ (os : List Addr) (H : Hp) (σ : L2.St) (v : V) (Q : L2.St → Hp → Prop), SlotsR K (Off os H) σ ρ → Dp K (Off os H) v d →
  (∀ σ' ρ', P ρ' → SlotsR K (Off os H) σ' ρ' → Sets tg σ σ' → Q σ' H) → g v σ H Q
def WGcs (K : PySem.W.Frag) (g : TGs) (tg : List Nat) (ds : List PyData) (ρ : List Slot) (P : List Slot → Prop) : Prop := ∀ (os : List Addr) (H : Hp) (σ : L2.St) (vs : List V) (Q : L2.St → Hp → Prop), SlotsR K (Off os H) σ ρ → DpAll K (Off os H) vs ds →
  (∀ σ' ρ', P ρ' → SlotsR K (Off os H) σ' ρ' → Sets tg σ σ' → Q σ' H) → g vs σ H Q
theorem wgc_name {i : Nat} {d : PyData} (p : PG' (ρ.set i (.dat d))) : WGc K (gName i) [i] d ρ PG' := fun os H σ v Q hs hd q =>
  q _ _ p (slotsR_set (sdat hd) i hs) fun vs h => wipe_set (h i (by simp))
theorem wgcs_nil (p : PG' ρ) : WGcs K gNil [] [] ρ PG' := fun os H σ v Q hs hd q => by
  cases hd
  exact ⟨rfl, q σ ρ p hs fun _ _ => rfl⟩
theorem wgcs_cons {t : TG} {u : TGs} {tg tg' : List Nat} {d : PyData} {ds : List PyData} (h : WGc K t tg d ρ fun ρ1 => WGcs K u tg' ds ρ1 PG') : WGcs K (gCons t u) (tg ++ tg') (d :: ds) ρ PG' := fun os H σ vs Q hs hd q => by
  cases hd with
  | cons d1 d2 =>
    refine ⟨_, _, rfl, h os H σ _ _ hs d1 fun σ1 ρ1 p hs1 s1 => p os H σ1 _ _ hs1 d2 fun σ2 ρ2 p2 hs2 s2 => q σ2 ρ2 p2 hs2 fun ws hw => ?_⟩
    exact (s2 ws fun i hi => hw i (List.mem_append.mpr (.inr hi))).trans (s1 ws fun i hi => hw i (List.mem_append.mpr (.inl hi)))
theorem wgc_tup {t : TGs} {tg : List Nat} {n : Nat} {ds : List PyData} (hl : ds.length = n) (h : WGcs K t tg ds ρ PG') : WGc K (gTup K n t) tg (.tuple ds) ρ PG' := fun os H σ v Q hs hd q => by
  obtain ⟨a, vs, rfl, h1, h2⟩ := dp_tup hd
  exact ⟨a, vs, rfl, same_seqT (off_le os H) h1, by rw [dpAll_len h2]; exact hl, h os H σ vs Q hs h2 q⟩
theorem ws_asg {te : TE} {g : TG} (h : WE K te ρ β fun d β1 => WG K g d ρ fun ρ1 => E.nx ρ1 β1) : WS K (tAsg te g) ρ β E := fun os0 H0 os H σ D r hk hs x =>
  h os H σ _ hk hs fun v H1 d β1 p e k hk1 dv => p os H1 σ v _ (slots_keep hk k hs) dv fun σ' ρ' w hs' => x.nx os σ' H1 ρ' β1 w (r.step e k) (DK.of hk k) hk1 hs'

/-! ### what is walked -/
structure ItD (K : PySem.W.Frag) (J : It) (src : List (V × PyData)) (ds : List PyData) : Prop where
  go : ∀ (os : List Addr) (H : Hp) (i : Nat), (∀ p ∈ src, Dp K (Off os H) p.1 p.2) → i < ds.length → J.go i H
  stop : ∀ (os : List Addr) (H : Hp), (∀ p ∈ src, Dp K (Off os H) p.1 p.2) → J.stop ds.length H
  yld : ∀ (os : List Addr) (H : Hp) (i : Nat) (x : V) (H' : Hp) (d : PyData), (∀ a ∈ os, Tk H a) → (∀ p ∈ src, Dp K (Off os H) p.1 p.2) → ds[i]? = some d → J.yld i H x H' → Same H H' ∧ Dp K (Off os H') x d
def WI (K : PySem.W.Frag) (wi : TI) (ρ : List Slot) (β : Bt) (P : List PyData → Bt → Prop) : Prop := ∀ (os : List Addr) (H : Hp) (σ : L2.St) (R : It → Hp → Prop), Hok K os H β → SlotsR K (Off os H) σ ρ →
  (∀ J H2 ds src β2, P ds β2 → dom β2 = dom β → Keep β H H2 → Hok K os H2 β2 → ItD K J src ds → (∀ p ∈ src, Dp K (Off os H2) p.1 p.2) → R J H2) → wi σ H R
variable {PL : List PyData → Bt → Prop}
/-- the list at a, as data -/
theorem itd_list {a : Addr} {ds : List PyData} : ItD K (Itl K a) [(.ref a, .list ds)] ds where
  go := fun os H i h hi => by
    obtain ⟨b, vs, e, h1, h2⟩ := dp_lst (h _ List.mem_cons_self)
    cases e
    have hl := dpAll_len h2
    exact ⟨vs, vs[i]'(by omega), (off_le os _).seq h1, List.getElem?_eq_getElem _⟩
  stop := fun os H h => by
    obtain ⟨b, vs, e, h1, h2⟩ := dp_lst (h _ List.mem_cons_self)
    cases e
    have hl := dpAll_len h2
    exact ⟨vs, (off_le os H).seq h1, by omega⟩
  yld := fun os H i x H' d ht h hd hy => by
    obtain ⟨b, vs, e, h1, h2⟩ := dp_lst (h _ List.mem_cons_self)
    cases e
    obtain ⟨rfl, hv⟩ := hy
    obtain ⟨v, hv2, hd2⟩ := dpAll_get h2 hd
    have := hv vs ((off_le os _).seq h1)
    rw [hv2] at this
    cases this
    exact ⟨Same.refl _, hd2⟩
theorem itd_tup {a : Addr} {ds : List PyData} : ItD K (Itt K a) [(.ref a, .tuple ds)] ds where
  go := fun os H i h hi => by
    obtain ⟨b, vs, e, h1, h2⟩ := dp_tup (h _ List.mem_cons_self)
    cases e
    have hl := dpAll_len h2
    exact ⟨vs, vs[i]'(by omega), same_seqT (off_le os H) h1, List.getElem?_eq_getElem _⟩
  stop := fun os H h => by
    obtain ⟨b, vs, e, h1, h2⟩ := dp_tup (h _ List.mem_cons_self)
    cases e
    have hl := dpAll_len h2
    exact ⟨vs, same_seqT (off_le os H) h1, by omega⟩
  yld := fun os H i x H' d ht h hd hy => by
    obtain ⟨b, vs, e, h1, h2⟩ := dp_tup (h _ List.mem_cons_self)
    cases e
    obtain ⟨rfl, hv⟩ := hy
    obtain ⟨v, hv2, hd2⟩ := dpAll_get h2 hd
    have := hv vs (same_seqT (off_le os _) h1)
    rw [hv2] at this
    cases this
    exact ⟨Same.refl _, hd2⟩
/-- lo, lo + 1, .. -/
def rngD (lo : Int) (n : Nat) : List PyData := (List.range n).map fun (i : Nat) => PyData.int (lo + i)
theorem rngD_len {lo : Int} {n : Nat} : (rngD lo n).length = n := by unfold rngD; rw [List.length_map, List.length_range]
theorem rngD_get {lo : Int} {n i : Nat} {d : PyData} (h : (rngD lo n)[i]? = some d) : i < n ∧ d = .int (lo + i) := by
  unfold rngD at h
  rw [List.getElem?_map] at h
  by_cases hi : i < n
  · rw [List.getElem?_range hi] at h
    exact ⟨hi, (Option.some.inj h).symm⟩
  · rw [List.getElem?_eq_none (by rw [List.length_range]; omega)] at h
    cases h
theorem itd_rng {lo : Int} {n : Nat} : ItD K (Itr lo n) [] (rngD lo n) where
  go := fun os H i h hi => by rw [rngD_len] at hi; exact hi
  stop := fun os H h => by rw [rngD_len]; exact Nat.le_refl n
  yld := fun os H i x H' d ht h hd hy => by
    obtain ⟨rfl, rfl⟩ := hy
    obtain ⟨_, rfl⟩ := rngD_get hd
    exact ⟨Same.refl _, .int _⟩
theorem wi_list {te : TE} (h : WE K te ρ β fun d β1 => ∃ ds, d = .list ds ∧ PL ds β1) : WI K (iList K te) ρ β PL := fun os H σ R hk hs q => by
  refine h os H σ _ hk hs fun v H1 d β1 p e k hk1 dv => ?_
  obtain ⟨ds, rfl, p⟩ := p
  obtain ⟨a, vs, rfl, h1, h2⟩ := dp_lst dv
  exact ⟨a, rfl, ⟨vs, (off_le os H1).seq h1⟩, q _ H1 ds [(.ref a, .list ds)] β1 p e k hk1 itd_list fun z hz => by simp at hz; rw [hz]; exact dv⟩
theorem wi_tup {te : TE} (h : WE K te ρ β fun d β1 => ∃ ds, d = .tuple ds ∧ PL ds β1) : WI K (iTup K te) ρ β PL := fun os H σ R hk hs q => by
  refine h os H σ _ hk hs fun v H1 d β1 p e k hk1 dv => ?_
  obtain ⟨ds, rfl, p⟩ := p
  obtain ⟨a, vs, rfl, h1, h2⟩ := dp_tup dv
  exact ⟨a, rfl, ⟨vs, same_seqT (off_le os H1) h1⟩, q _ H1 ds [(.ref a, .tuple ds)] β1 p e k hk1 itd_tup fun z hz => by simp at hz; rw [hz]; exact dv⟩
theorem wi_rng1 {ta : TA} (h : WA K ta ρ β fun xs β1 => ∃ j : Int, xs = [.int j] ∧ -(2 ^ 62) ≤ j ∧ j < 2 ^ 62 ∧ PL (rngD 0 j.toNat) β1) : WI K (iRng1 ta) ρ β PL := fun os H σ R hk hs q => by
  refine h os H σ _ hk hs fun vs H1 ds β1 p e k hk1 dv => ?_
  obtain ⟨j, rfl, h1, h2, p⟩ := p
  cases dv with
  | cons a b =>
    cases b
    cases a
    exact ⟨j, rfl, h1, h2, q _ H1 _ [] β1 p e k hk1 itd_rng fun z hz => by simp at hz⟩
theorem wi_rng2 {ta : TA} (h : WA K ta ρ β fun xs β1 => ∃ i j : Int, xs = [.int i, .int j] ∧ (-(2 ^ 62) ≤ i ∧ i < 2 ^ 62 ∧ -(2 ^ 62) ≤ j ∧ j < 2 ^ 62) ∧ PL (rngD i (j - i).toNat) β1) : WI K (iRng2 ta) ρ β PL := fun os H σ R hk hs q => by
  refine h os H σ _ hk hs fun vs H1 ds β1 p e k hk1 dv => ?_
  obtain ⟨i, j, rfl, h1, p⟩ := p
  cases dv with
  | cons a b =>
    cases b with
    | cons b c =>
      cases c
      cases a
      cases b
      exact ⟨i, j, rfl, h1, q _ H1 _ [] β1 p e k hk1 itd_rng fun z hz => by simp at hz⟩

/-! ### for, while -/
theorem ws_for {wi : TI} {g : TG} {tb : TS} (h : WI K wi ρ β fun ds β1 => ∃ Inv : Nat → List Slot → Bt → Prop, Inv 0 ρ β1 ∧
      (∀ i d ρ' β', ds[i]? = some d → Inv i ρ' β' → WG K g d ρ' fun ρ2 => WS K tb ρ2 β' { E with nx := Inv (i + 1), ct := Inv (i + 1), bk := E.nx }) ∧ ∀ ρ' β', Inv ds.length ρ' β' → E.nx ρ' β') :
    WS K (tFor wi g tb) ρ β E := fun os0 H0 os H σ D r hk hs x => by
  refine h os H σ _ hk hs fun J H1 ds src β1 p e k hk1 itd hsrc => ?_
  obtain ⟨Inv, h0, hstep, hend⟩ := p
  refine ⟨fun i m σ' H' => i ≤ ds.length ∧ m = ds.length - i ∧ ∃ os' ρ' β', Inv i ρ' β' ∧ Reach os0 E.base H0 os' β' H' ∧ DK K os H1 os' H' ∧ Hok K os' H' β' ∧ SlotsR K (Off os' H') σ' ρ',
    ⟨_, Nat.zero_le _, rfl, os, ρ, β1, h0, r.step e k, DK.refl, hk1, slots_keep hk k hs⟩, fun i m σ' H' w => ?_⟩
  obtain ⟨hi, rfl, os', ρ', β', hInv, r', dk, hk', hs'⟩ := w
  have hsrc' : ∀ z ∈ src, Dp K (Off os' H') z.1 z.2 := fun z hz => dk _ _ (hsrc z hz)
  by_cases hlt : i < ds.length
  · refine .inr ⟨itd.go os' H' i hsrc' hlt, fun σ2 H2 => ∃ os2 ρ2 β2, Inv (i + 1) ρ2 β2 ∧ Reach os0 E.base H0 os2 β2 H2 ∧ DK K os H1 os2 H2 ∧ Hok K os2 H2 β2 ∧ SlotsR K (Off os2 H2) σ2 ρ2,
      fun σ2 H2 w => ⟨ds.length - (i + 1), by omega, by omega, rfl, w⟩, fun y H2 hy => ?_⟩
    obtain ⟨s2, dy⟩ := itd.yld os' H' i y H2 ds[i] hk'.trk hsrc' (List.getElem?_eq_getElem hlt) hy
    have dk2 : DK K os' H' os' H2 := DK.of hk' (Keep.same s2)
    refine hstep i _ ρ' β' (List.getElem?_eq_getElem hlt) hInv os' H2 σ' y _ (slots_keep hk' (Keep.same s2) hs') dy fun σ3 ρ3 w hs3 => ?_
    exact w os0 H0 os' H2 σ3 _ (r'.step rfl (Keep.same s2)) (hk'.mono s2) hs3
      ⟨fun os4 σ4 H4 ρ4 β4 a b c d f => ⟨os4, ρ4, β4, a, b, (dk.trans dk2).trans c, d, f⟩,
       fun os4 v H4 d4 β4 a b c d f => x.rt os4 v H4 d4 β4 a b (((DK.of hk k).trans dk).trans (dk2.trans c)) d f,
       fun os4 σ4 H4 ρ4 β4 a b c d f => x.nx os4 σ4 H4 ρ4 β4 a b (((DK.of hk k).trans dk).trans (dk2.trans c)) d f,
       fun os4 σ4 H4 ρ4 β4 a b c d f => ⟨os4, ρ4, β4, a, b, (dk.trans dk2).trans c, d, f⟩⟩
  · have hl : i = ds.length := by omega
    subst hl
    exact .inl ⟨itd.stop os' H' hsrc', x.nx os' σ' H' ρ' β' (hend ρ' β' hInv) r' ((DK.of hk k).trans dk) hk' hs'⟩
theorem ws_while {c : TT} {tb : TS} (Inv : Nat → List Slot → Bt → Prop) (m0 : Nat) (h0 : Inv m0 ρ β)
    (hstep : ∀ m ρ' β', Inv m ρ' β' → WT K c ρ' β' fun b β1 => (b = true → WS K tb ρ' β1 { E with nx := fun ρ2 β2 => ∃ m', m' < m ∧ Inv m' ρ2 β2, ct := fun ρ2 β2 => ∃ m', m' < m ∧ Inv m' ρ2 β2, bk := E.nx }) ∧ (b = false → E.nx ρ' β1)) :
    WS K (tWhile c tb) ρ β E := fun os0 H0 os H σ D r hk hs x => by
  refine ⟨fun m σ' H' => ∃ os' ρ' β', Inv m ρ' β' ∧ Reach os0 E.base H0 os' β' H' ∧ DK K os H os' H' ∧ Hok K os' H' β' ∧ SlotsR K (Off os' H') σ' ρ',
    ⟨m0, os, ρ, β, h0, r, DK.refl, hk, hs⟩, fun m σ' H' w => ?_⟩
  obtain ⟨os', ρ', β', hInv, r', dk, hk', hs'⟩ := w
  refine hstep m ρ' β' hInv os' H' σ' _ hk' hs' fun b H1 β1 p e k hk1 => ?_
  have dk1 := DK.of hk' k
  cases b with
  | true =>
    refine iteT ⟨fun σ2 H2 => ∃ m', m' < m ∧ ∃ os2 ρ2 β2, Inv m' ρ2 β2 ∧ Reach os0 E.base H0 os2 β2 H2 ∧ DK K os H os2 H2 ∧ Hok K os2 H2 β2 ∧ SlotsR K (Off os2 H2) σ2 ρ2, fun σ2 H2 w => w, ?_⟩
    exact p.1 rfl os0 H0 os' H1 σ' _ (r'.step e k) hk1 (slots_keep hk' k hs')
      ⟨fun os4 σ4 H4 ρ4 β4 ⟨m', hm, a⟩ b c d f => ⟨m', hm, os4, ρ4, β4, a, b, (dk.trans dk1).trans c, d, f⟩,
       fun os4 v H4 d4 β4 a b c d f => x.rt os4 v H4 d4 β4 a b ((dk.trans dk1).trans c) d f,
       fun os4 σ4 H4 ρ4 β4 a b c d f => x.nx os4 σ4 H4 ρ4 β4 a b ((dk.trans dk1).trans c) d f,
       fun os4 σ4 H4 ρ4 β4 ⟨m', hm, a⟩ b c d f => ⟨m', hm, os4, ρ4, β4, a, b, (dk.trans dk1).trans c, d, f⟩⟩
  | false => exact iteF (x.nx os' σ' H1 ρ' β1 (p.2 rfl) (r'.step e k) (dk.trans dk1) hk1 (slots_keep hk' k hs'))

/-! ### list comprehensions -/
def wipeS (ρ : List Slot) : List Nat → List Slot
  | [] => ρ
  | v :: vs => (wipeS ρ vs).set v .no
theorem slots_wipe {G : Hp} {σ : L2.St} (h : SlotsR K G σ ρ) : ∀ vs : List Nat, SlotsR K G (wipe σ vs) (wipeS ρ vs)
  | [] => h
  | v :: vs => slotsR_set (s := .no) trivial v (slots_wipe h vs)
theorem wipe_wipe {σ : L2.St} (vs : List Nat) : wipe (wipe σ vs) vs = wipe σ vs := by
  have aux : ∀ ws : List Nat, (∀ i ∈ ws, i ∈ vs) → wipe (wipe σ ws) vs = wipe σ vs := by
    intro ws
    induction ws with
    | nil => intro _; rfl
    | cons w ws ih =>
      intro h
      show wipe ((wipe σ ws).set w none) vs = wipe σ vs
      rw [wipe_set (h w (by simp)), ih fun i hi => h i (List.mem_cons_of_mem _ hi)]
  exact aux vs fun _ h => h
theorem own_more {os : List Addr} {H : Hp} {D : Addr} {o : HO} (hD : H D = none) : ∀ {β : Bt}, OwnR K os H β → OwnR K (D :: os) (upd H D o) β
  | [], _ => trivial
  | (a, ds) :: β, h => by
    obtain ⟨h1, ⟨vs, h2, h3⟩, h4⟩ := h
    refine ⟨List.mem_cons_of_mem _ h1, ⟨vs, by rw [upd_ne (ne_of_none h2 hD)]; exact h2, ocR_mono (fun b u e => ?_) h3⟩, own_more hD h4⟩
    obtain ⟨e1, e2⟩ := off_some e
    have hb : b ≠ D := ne_of_none e2 hD
    rw [off_out (by simp only [List.mem_cons, not_or]; exact ⟨hb, e1⟩), upd_ne hb]
    exact e2
theorem off_more {os : List Addr} {H : Hp} {D : Addr} {o : HO} (hD : H D = none) : Same (Off os H) (Off (D :: os) (upd H D o)) := fun b u e => by
  obtain ⟨e1, e2⟩ := off_some e
  have hb : b ≠ D := ne_of_none e2 hD
  rw [off_out (by simp only [List.mem_cons, not_or]; exact ⟨hb, e1⟩), upd_ne hb]
  exact e2
theorem own_less {os os' : List Addr} {H : Hp} (h : ∀ a ∈ os, a ∈ os') : ∀ {β : Bt}, (∀ a ∈ dom β, a ∈ os) → OwnR K os' H β → OwnR K os H β
  | [], _, _ => trivial
  | (a, ds) :: β, hm, ⟨h1, ⟨vs, h2, h3⟩, h4⟩ => ⟨hm a (by simp), ⟨vs, h2, ocR_mono (off_sub h) h3⟩, own_less h (fun b hb => hm b (List.mem_cons_of_mem _ hb)) h4⟩
/-- an owned (or any forbidden) thing that no owned list is, is written -/
theorem own_upd {os : List Addr} {H : Hp} {D : Addr} {o : HO} (hD : D ∈ os) : ∀ {β : Bt}, D ∉ dom β → OwnR K os H β → OwnR K os (upd H D o) β
  | [], _, _ => trivial
  | (a, ds) :: β, hm, ⟨h1, ⟨vs, h2, h3⟩, h4⟩ => by
    have hne : a ≠ D := fun z => hm (by simp [z])
    refine ⟨h1, ⟨vs, by rw [upd_ne hne]; exact h2, ocR_mono (fun b u e => ?_) h3⟩, own_upd hD (fun z => hm (List.mem_cons_of_mem _ z)) h4⟩
    obtain ⟨e1, e2⟩ := off_some e
    rw [off_out e1, upd_ne fun z => e1 (by rw [z]; exact hD)]
    exact e2
theorem off_updIn {os : List Addr} {H : Hp} {D : Addr} {o : HO} (hD : D ∈ os) : Off os (upd H D o) = Off os H := by
  funext b
  by_cases h : b ∈ os
  · rw [off_in h, off_in h]
  · rw [off_out h, off_out h, upd_ne fun z => h (by rw [z]; exact hD)]
theorem we_lc {wi : TI} {g : TG} {tt : TT} {te : TE} {vs tg : List Nat} {P : PyData → Bt → Prop} (htg : ∀ i ∈ tg, i ∈ vs)
    (h : WI K wi ρ β fun ds β1 => ∃ Inv : Nat → List PyData → Bt → Prop, Inv 0 [] β1 ∧
      (∀ i d acc β', ds[i]? = some d → Inv i acc β' → acc.length ≤ i → WGc K g tg d (wipeS ρ vs) fun ρ2 => WT K tt ρ2 β' fun b β2 => (b = true → WE K te ρ2 β2 fun y β3 => Inv (i + 1) (acc ++ [y]) β3) ∧ (b = false → Inv (i + 1) acc β2)) ∧
      ds.length ≤ sizeLine ∧ ∀ acc β', Inv ds.length acc β' → acc.length ≤ ds.length → P (.list acc) β') :
    WE K (tLc wi g tt te vs) ρ β P := fun os H σ Q hk hs q => by
  refine h os H σ _ hk hs fun J H1 ds src β1 p e k hk1 itd hsrc D hD => ?_
  obtain ⟨Inv, h0, hstep, hline, hend⟩ := p
  have hDos : D ∉ os := new_out hk1 hD
  have sub : ∀ a ∈ os, a ∈ D :: os := fun a h => List.mem_cons_of_mem _ h
  -- the state between two turns
  refine ⟨fun i m H' => i ≤ ds.length ∧ m = ds.length - i ∧ ∃ accV acc β', Inv i acc β' ∧ acc.length ≤ i ∧ dom β' = dom β1 ∧ Keep β1 H1 H' ∧ Hok K (D :: os) H' β' ∧ H' D = some (.lst accV) ∧ DpAll K (Off (D :: os) H') accV acc,
    ⟨_, Nat.zero_le _, rfl, [], [], β1, h0, Nat.le_refl _, rfl, fun a o _ ha => by rw [upd_ne (ne_of_none ha hD)]; exact ha,
      ⟨fun a ha => ?_, hk1.nd, own_more hD hk1.own⟩, upd_same, .nil⟩, fun i m H' w => ?_⟩
  · rcases List.mem_cons.mp ha with ha | ha
    · rw [ha]; exact ⟨_, upd_same, fun _ z => nomatch z⟩
    · have hne : a ≠ D := fun y => hDos (by rw [← y]; exact ha)
      exact (hk1.trk a ha).same fun o q => by rw [upd_ne hne]; exact q
  obtain ⟨hi, rfl, accV, acc, β', hInv, hle, edom, kp, hk', hDv, hacc⟩ := w
  have sm : Same (Off os H1) (Off (D :: os) H') := fun b u eb => by
    obtain ⟨e1, e2⟩ := off_some eb
    have hb : b ≠ D := ne_of_none e2 hD
    rw [off_out (by simp only [List.mem_cons, not_or]; exact ⟨hb, e1⟩)]
    exact kp b u (fun z => e1 (hk1.mem b z)) e2
  have hsrc' : ∀ z ∈ src, Dp K (Off (D :: os) H') z.1 z.2 := fun z hz => dp_mono sm _ _ (hsrc z hz)
  have hsl' : SlotsR K (Off (D :: os) H') σ ρ := slotsR_mono sm (slots_keep hk k hs)
  by_cases hlt : i < ds.length
  · refine .inr ⟨itd.go _ H' i hsrc' hlt, fun H2 => ∃ accV acc β', Inv (i + 1) acc β' ∧ acc.length ≤ i + 1 ∧ dom β' = dom β1 ∧ Keep β1 H1 H2 ∧ Hok K (D :: os) H2 β' ∧ H2 D = some (.lst accV) ∧ DpAll K (Off (D :: os) H2) accV acc,
      fun H2 w => ⟨ds.length - (i + 1), by omega, by omega, rfl, w⟩, fun y H2 hy => ?_⟩
    obtain ⟨s2, dy⟩ := itd.yld _ H' i y H2 ds[i] hk'.trk hsrc' (List.getElem?_eq_getElem hlt) hy
    refine hstep i _ acc β' (List.getElem?_eq_getElem hlt) hInv hle (D :: os) H2 (wipe σ vs) y _ (slotsR_mono (off_same s2) (slots_wipe hsl' vs)) dy fun σ3 ρ3 w hs3 st => ?_
    refine ⟨(st vs htg).trans (wipe_wipe vs), ?_⟩
    have hk2 := hk'.mono s2
    refine w (D :: os) H2 σ3 _ hk2 hs3 fun b H3 β3 p3 e3 k3 hk3 => ?_
    have hDd : D ∉ dom β' := fun z => hDos (hk1.mem D (by rw [← edom]; exact z))
    have kp3 : Keep β1 H1 H3 := fun a o h1 h2 => k3 a o (by rw [edom]; exact h1) (s2 a o (kp a o h1 h2))
    have hD3 : H3 D = some (.lst accV) := k3 D _ hDd (s2 D _ hDv)
    have ha3 : DpAll K (Off (D :: os) H3) accV acc := dpAll_keep hk2 k3 (dpAll_mono (off_same s2) _ _ hacc)
    cases b with
    | true =>
      refine iteT (p3.1 rfl (D :: os) H3 σ3 _ hk3 (slots_keep hk2 k3 hs3) fun z H4 d4 β4 p4 e4 k4 hk4 dz => ?_)
      have hD4d : D ∉ dom β3 := by rw [e3]; exact hDd
      have hD4 : H4 D = some (.lst accV) := k4 D _ hD4d hD3
      have ha4 : DpAll K (Off (D :: os) H4) accV acc := dpAll_keep hk3 k4 ha3
      have hlV := dpAll_len ha4
      have edom4 : dom β4 = dom β1 := (e4.trans e3).trans edom
      refine ⟨accV, hD4, by omega, accV ++ [z], acc ++ [d4], β4, p4, by rw [List.length_append, List.length_singleton]; omega, edom4, fun a o h1 h2 => ?_, ⟨fun a ha => ?_, hk4.nd, own_upd (by simp) (by rw [e4]; exact hD4d) hk4.own⟩, upd_same, ?_⟩
      · have hb : a ≠ D := ne_of_none h2 hD
        rw [upd_ne hb]
        exact k4 a o (by rw [e3, edom]; exact h1) (kp3 a o h1 h2)
      · by_cases hb : a = D
        · rw [hb]; exact ⟨_, upd_same, fun _ z => nomatch z⟩
        · exact (hk4.trk a ha).same fun o q => by rw [upd_ne hb]; exact q
      · rw [off_updIn (by simp)]
        exact dpAll_append ha4 (.cons dz .nil)
    | false => exact iteF ⟨accV, acc, β3, p3.2 rfl, by omega, e3.trans edom, kp3, hk3, hD3, ha3⟩
  · have hl : i = ds.length := by omega
    subst hl
    refine .inl ⟨itd.stop _ H' hsrc', ?_⟩
    have hm : ∀ a ∈ dom β', a ∈ os := fun a ha => hk1.mem a (by rw [← edom]; exact ha)
    exact q _ H' _ β' (hend acc β' hInv hle) (edom.trans e) (keep_trans e k kp) ⟨fun a ha => hk'.trk a (sub a ha), hk'.nd, own_less sub hm hk'.own⟩
      (.lst (.inl (by rw [off_out hDos]; exact hDv)) (dpAll_mono (off_sub sub) _ _ hacc))
end
end DS

set_option Elab.async false
set_option linter.all false
set_option maxRecDepth 100000
set_option maxHeartbeats 4000000
/-! DS3: operators and built-ins on data. -/
namespace DS
open PySem PySem.Spec PyProof.Rows L2
section
variable {K : PySem.W.Frag} {ρ : List Slot} {β : Bt} {P : PyData → Bt → Prop}

/-! ### ints -/
theorem r2_int {f : Int → Int → Int} {i j : Int} : R2D K (rI0 fun i j => .int (f i j)) (.int i) (.int j) (.int (f i j)) := fun os H v u Q ht hv hu q => ⟨i, j, dp_int hv, dp_int hu, q _ H (Same.refl _) (.int _)⟩
theorem r2_bl {f : Int → Int → Bool} {i j : Int} : R2D K (rI0 fun i j => .bl (f i j)) (.int i) (.int j) (.bool (f i j)) := fun os H v u Q ht hv hu q => ⟨i, j, dp_int hv, dp_int hu, q _ H (Same.refl _) (.bl _)⟩
theorem r2_intC {C : Int → Int → Prop} {f : Int → Int → Int} {i j : Int} (c : C i j) : R2D K (rI C fun i j => .int (f i j)) (.int i) (.int j) (.int (f i j)) := fun os H v u Q ht hv hu q => ⟨i, j, dp_int hv, dp_int hu, c, q _ H (Same.refl _) (.int _)⟩
theorem r1_neg {i : Int} : R1D K (rU fun i => .int (-i)) (.int i) (.int (-i)) := fun os H v Q ht hv q => ⟨i, dp_int hv, q _ H (Same.refl _) (.int _)⟩
/-- // by any divisor but 0, below 2 ^ 9000 -/
def CDivA (_ j : Int) : Prop := j ≠ 0 ∧ j.natAbs.log2 < 9000
theorem op_fdivA {X : Cx} : OpR X (binaryOp .FloorDiv) (rI CDivA fun i j => .int (i.fdiv j)) := opI fun i j _ _ _ _ _ hc q => floordiv_int hc.1 q (.inl (PyProof.noPylong_of_log2 hc.2))
theorem op_modA {X : Cx} : OpR X (binaryOp .Mod) (rI (fun _ j => j ≠ 0) fun i j => .int (i.fmod j)) := op_modN

theorem plain_of_shaped {d : PyData} (h : SeqAt.shaped d = true) : d.plain = true := PyData.plain_of_canLay0 d (SeqAt.canLay_of_shaped h)
/-! ### == and != -/
/-- data without dicts, one of them not deep -/
def rEqP (K : PySem.W.Frag) : R2 := fun x y H Q => ∃ d e, L2.Dp K H x d ∧ L2.Dp K H y e ∧ d.plain = true ∧ e.plain = true ∧ min d.depth e.depth ≤ 64 ∧ Q (.bl (PyData.eqv d e)) H
def rNeP (K : PySem.W.Frag) : R2 := fun x y H Q => ∃ d e, L2.Dp K H x d ∧ L2.Dp K H y e ∧ d.plain = true ∧ e.plain = true ∧ min d.depth e.depth ≤ 64 ∧ Q (.bl (!PyData.eqv d e)) H
theorem op_eqP {X : Cx} (hu : X.A.units + 64 < cLine) : OpR X (compareOp .Eq) (rEqP X.K) := by
  intro pins s σ H x y v u Q I rx ry h
  obtain ⟨d, e, hd, he, sd, se, hm, q⟩ := h
  obtain ⟨as, r1⟩ := Dp.reads I d x v hd rx
  obtain ⟨bs, r2⟩ := Dp.reads I e y u he ry
  exact SeqAt.eq_plain r1 r2 sd se (by omega) ⟨.bl _, H, I, rfl, q⟩
theorem op_neP {X : Cx} (hu : X.A.units + 64 < cLine) : OpR X (compareOp .NotEq) (rNeP X.K) := by
  intro pins s σ H x y v u Q I rx ry h
  obtain ⟨d, e, hd, he, sd, se, hm, q⟩ := h
  obtain ⟨as, r1⟩ := Dp.reads I d x v hd rx
  obtain ⟨bs, r2⟩ := Dp.reads I e y u he ry
  exact SeqAt.ne_plain r1 r2 sd se (by omega) ⟨.bl _, H, I, rfl, q⟩
def rEqX (K : PySem.W.Frag) : R2 := fun x y H Q => rEq x y H Q ∨ rEqP K x y H Q
def rNeX (K : PySem.W.Frag) : R2 := fun x y H Q => rNe x y H Q ∨ rNeP K x y H Q
theorem op_eqX {X : Cx} (hu : X.A.units + 64 < cLine) : OpR X (compareOp .Eq) (rEqX X.K) := fun pins s σ H x y v u Q I rx ry h => by
  rcases h with h | h
  · exact op_eq pins s σ H x y v u Q I rx ry h
  · exact op_eqP hu pins s σ H x y v u Q I rx ry h
theorem op_neX {X : Cx} (hu : X.A.units + 64 < cLine) : OpR X (compareOp .NotEq) (rNeX X.K) := fun pins s σ H x y v u Q I rx ry h => by
  rcases h with h | h
  · exact op_ne pins s σ H x y v u Q I rx ry h
  · exact op_neP hu pins s σ H x y v u Q I rx ry h
theorem vint_inj {i j : Int} : (V.int i = V.int j) ↔ i = j := ⟨V.int.inj, fun h => by rw [h]⟩
theorem vstr_inj {i j : Str} : (V.str i = V.str j) ↔ i = j := ⟨V.str.inj, fun h => by rw [h]⟩
theorem vbl_inj {i j : Bool} : (V.bl i = V.bl j) ↔ i = j := ⟨V.bl.inj, fun h => by rw [h]⟩
theorem r2_eqI {i j : Int} : R2D K (rEqX K) (.int i) (.int j) (.bool (decide (i = j))) := fun os H v u Q ht hv hu q => by
  rw [dp_int hv, dp_int hu]
  refine .inl ⟨rfl, ?_⟩
  rw [show decide (V.int i = V.int j) = decide (i = j) from decide_eq_decide.mpr vint_inj]
  exact q _ H (Same.refl _) (.bl _)
theorem r2_neI {i j : Int} : R2D K (rNeX K) (.int i) (.int j) (.bool (!decide (i = j))) := fun os H v u Q ht hv hu q => by
  rw [dp_int hv, dp_int hu]
  refine .inl ⟨rfl, ?_⟩
  rw [show decide (V.int i = V.int j) = decide (i = j) from decide_eq_decide.mpr vint_inj]
  exact q _ H (Same.refl _) (.bl _)
theorem r2_eqS {i j : Str} : R2D K (rEqX K) (.str i) (.str j) (.bool (decide (i = j))) := fun os H v u Q ht hv hu q => by
  rw [dp_str hv, dp_str hu]
  refine .inl ⟨rfl, ?_⟩
  rw [show decide (V.str i = V.str j) = decide (i = j) from decide_eq_decide.mpr vstr_inj]
  exact q _ H (Same.refl _) (.bl _)
theorem r2_neS {i j : Str} : R2D K (rNeX K) (.str i) (.str j) (.bool (!decide (i = j))) := fun os H v u Q ht hv hu q => by
  rw [dp_str hv, dp_str hu]
  refine .inl ⟨rfl, ?_⟩
  rw [show decide (V.str i = V.str j) = decide (i = j) from decide_eq_decide.mpr vstr_inj]
  exact q _ H (Same.refl _) (.bl _)
theorem r2_eqB {i j : Bool} : R2D K (rEqX K) (.bool i) (.bool j) (.bool (decide (i = j))) := fun os H v u Q ht hv hu q => by
  rw [dp_bool hv, dp_bool hu]
  refine .inl ⟨rfl, ?_⟩
  rw [show decide (V.bl i = V.bl j) = decide (i = j) from decide_eq_decide.mpr vbl_inj]
  exact q _ H (Same.refl _) (.bl _)
theorem r2_neB {i j : Bool} : R2D K (rNeX K) (.bool i) (.bool j) (.bool (!decide (i = j))) := fun os H v u Q ht hv hu q => by
  rw [dp_bool hv, dp_bool hu]
  refine .inl ⟨rfl, ?_⟩
  rw [show decide (V.bl i = V.bl j) = decide (i = j) from decide_eq_decide.mpr vbl_inj]
  exact q _ H (Same.refl _) (.bl _)
/-- == of any data, one of them not deep -/
theorem r2_eqE {x y : PyData} (px : x.plain = true) (py : y.plain = true) (hm : min x.depth y.depth ≤ 64) : R2D K (rEqX K) x y (.bool (PyData.eqv x y)) := fun os H v u Q ht hv hu q =>
  .inr ⟨x, y, dp_L2 _ _ px (dp_off hv), dp_L2 _ _ py (dp_off hu), px, py, hm, q _ H (Same.refl _) (.bl _)⟩
theorem r2_neE {x y : PyData} (px : x.plain = true) (py : y.plain = true) (hm : min x.depth y.depth ≤ 64) : R2D K (rNeX K) x y (.bool (!PyData.eqv x y)) := fun os H v u Q ht hv hu q =>
  .inr ⟨x, y, dp_L2 _ _ px (dp_off hv), dp_L2 _ _ py (dp_off hu), px, py, hm, q _ H (Same.refl _) (.bl _)⟩
theorem r2_eqD {x y : PyData} (hx : SeqAt.shaped x = true) (hy : SeqAt.shaped y = true) : R2D K (rEqX K) x y (.bool (PyData.eqv x y)) := r2_eqE (plain_of_shaped hx) (plain_of_shaped hy) (Nat.le_trans (Nat.min_le_left _ _) (SeqAt.depth_of_shaped hx))
theorem r2_neD {x y : PyData} (hx : SeqAt.shaped x = true) (hy : SeqAt.shaped y = true) : R2D K (rNeX K) x y (.bool (!PyData.eqv x y)) := r2_neE (plain_of_shaped hx) (plain_of_shaped hy) (Nat.le_trans (Nat.min_le_left _ _) (SeqAt.depth_of_shaped hx))

/-! ### is -/
def isN : PyData → Bool
  | .none => true
  | _ => false
def rIsNo : R2 := fun x y H Q => y = .non ∧ Q (.bl (decide (x = .non))) H
def rNotNo : R2 := fun x y H Q => y = .non ∧ Q (.bl (!decide (x = .non))) H
theorem op_isNo {X : Cx} : OpR X (compareOp .Is) rIsNo := op_isN
theorem op_notNo {X : Cx} : OpR X (compareOp .IsNot) rNotNo := op_notN
theorem dp_isN {G : Hp} {v : V} {d : PyData} (h : Dp K G v d) : decide (v = .non) = isN d := by
  cases h <;> first | rfl | exact decide_eq_false (fun z => nomatch z)
theorem r2_isN {x : PyData} : R2D K rIsNo x .none (.bool (isN x)) := fun os H v u Q ht hv hu q => ⟨dp_non hu, by rw [dp_isN hv]; exact q _ H (Same.refl _) (.bl _)⟩
theorem r2_notN {x : PyData} : R2D K rNotNo x .none (.bool (!isN x)) := fun os H v u Q ht hv hu q => ⟨dp_non hu, by rw [dp_isN hv]; exact q _ H (Same.refl _) (.bl _)⟩
theorem r2_isB {a b : Bool} : R2D K rIsB (.bool a) (.bool b) (.bool (decide (a = b))) := fun os H v u Q ht hv hu q => ⟨a, b, dp_bool hv, dp_bool hu, q _ H (Same.refl _) (.bl _)⟩

/-! ### in -/
def flatD : PyData → Bool
  | .none | .bool _ | .int _ | .str _ => true
  | _ => false
theorem dp_flat {G : Hp} {v : V} {d : PyData} (h : Dp K G v d) (f : flatD d = true) : flatV v = true := by
  cases h <;> first | rfl | cases f
theorem dpAll_flat {G : Hp} : ∀ {vs : List V} {ds : List PyData}, DpAll K G vs ds → ds.all flatD = true → vs.all flatV = true
  | _, _, .nil, _ => rfl
  | _, _, .cons r t, f => by
    rw [List.all_cons, Bool.and_eq_true] at f
    rw [List.all_cons, dp_flat r f.1, dpAll_flat t f.2]
    rfl
theorem dp_eqV {G : Hp} {v u : V} {d e : PyData} (h : Dp K G v d) (h2 : Dp K G u e) (f : flatD d = true) (f2 : flatD e = true) : eqV v u = PyData.eqv d e := by
  cases h <;> first
    | (cases h2 <;> first | rfl | cases f2)
    | cases f
theorem dpAll_inV {G : Hp} {v : V} {d : PyData} (h : Dp K G v d) (f : flatD d = true) : ∀ {vs : List V} {ds : List PyData}, DpAll K G vs ds → ds.all flatD = true → inV v vs = ds.any fun z => PyData.eqv z d
  | _, _, .nil, _ => rfl
  | _, _, .cons r t, f2 => by
    rw [List.all_cons, Bool.and_eq_true] at f2
    have ih := dpAll_inV h f t f2.2
    unfold inV at ih ⊢
    rw [List.any_cons, List.any_cons, ih, dp_eqV r h f2.1 f]
theorem r2_inL {x : PyData} {ds : List PyData} (f : flatD x = true) (fs : ds.all flatD = true) : R2D K (rIn K false) x (.list ds) (.bool (ds.any fun z => PyData.eqv z x)) := fun os H v u Q ht hv hu q => by
  obtain ⟨a, vs, rfl, h1, h2⟩ := dp_lst hu
  refine ⟨a, vs, rfl, .inl ((off_le os H).seq h1), dp_flat hv f, dpAll_flat h2 fs, ?_⟩
  rw [if_neg Bool.false_ne_true, dpAll_inV hv f h2 fs]
  exact q _ H (Same.refl _) (.bl _)
theorem r2_inT {x : PyData} {ds : List PyData} (f : flatD x = true) (fs : ds.all flatD = true) : R2D K (rIn K false) x (.tuple ds) (.bool (ds.any fun z => PyData.eqv z x)) := fun os H v u Q ht hv hu q => by
  obtain ⟨a, vs, rfl, h1, h2⟩ := dp_tup hu
  refine ⟨a, vs, rfl, .inr (same_seqT (off_le os H) h1), dp_flat hv f, dpAll_flat h2 fs, ?_⟩
  rw [if_neg Bool.false_ne_true, dpAll_inV hv f h2 fs]
  exact q _ H (Same.refl _) (.bl _)
theorem r2_inD {x : PyData} {ds : List PyData} (f : SeqAt.shaped x = true) (fs : SeqAt.shaped (.list ds) = true) : R2D K (rInD K) x (.list ds) (.bool (ds.any fun z => PyData.eqv z x)) := fun os H v u Q ht hv hu q =>
  ⟨x, ds, dp_L2 _ _ (plain_of_shaped f) (dp_off hv), dp_L2 _ _ (plain_of_shaped fs) (dp_off hu), f, fs, q _ H (Same.refl _) (.bl _)⟩

/-! ### items, slices -/
theorem atI_dp {G : Hp} {vs : List V} {ds : List PyData} {i : Int} {d : PyData} (h : DpAll K G vs ds) (e : atI ds i = some d) : ∃ v, atI vs i = some v ∧ Dp K G v d := by
  unfold atI at e ⊢
  rw [dpAll_len h]
  cases q : ixN ds.length i with
  | none => rw [q] at e; cases e
  | some j =>
    rw [q] at e
    exact dpAll_get h e
theorem r2_ixL {ds : List PyData} {i : Int} {d : PyData} (e : atI ds i = some d) : R2D K (rIxL K) (.list ds) (.int i) d := fun os H v u Q ht hv hu q => by
  obtain ⟨a, vs, rfl, h1, h2⟩ := dp_lst hv
  obtain ⟨z, hz, hd⟩ := atI_dp h2 e
  exact ⟨a, vs, i, z, rfl, dp_int hu, (off_le os H).seq h1, hz, q _ H (Same.refl _) hd⟩
theorem r2_ixT {ds : List PyData} {i : Int} {d : PyData} (e : atI ds i = some d) : R2D K (rIxT K) (.tuple ds) (.int i) d := fun os H v u Q ht hv hu q => by
  obtain ⟨a, vs, rfl, h1, h2⟩ := dp_tup hv
  obtain ⟨z, hz, hd⟩ := atI_dp h2 e
  exact ⟨a, vs, i, z, rfl, dp_int hu, same_seqT (off_le os H) h1, hz, q _ H (Same.refl _) hd⟩
/-- a list's or a tuple's item -/
def rIxX (K : PySem.W.Frag) : R2 := fun x y H Q => rIxL K x y H Q ∨ rIxT K x y H Q
theorem ix_X {X : Cx} : IxR X (rIxX X.K) := ix_list.or ix_tup
theorem r2_ixXL {ds : List PyData} {i : Int} {d : PyData} (e : atI ds i = some d) : R2D K (rIxX K) (.list ds) (.int i) d := fun os H v u Q ht hv hu q => .inl (r2_ixL e os H v u Q ht hv hu q)
theorem r2_ixXT {ds : List PyData} {i : Int} {d : PyData} (e : atI ds i = some d) : R2D K (rIxX K) (.tuple ds) (.int i) d := fun os H v u Q ht hv hu q => .inr (r2_ixT e os H v u Q ht hv hu q)
/-- a slice of data -/
def RSD (K : PySem.W.Frag) (r : V → Option Int → Option Int → Hp → VK → Prop) (x : PyData) (lo hi : Option Int) (z : PyData) : Prop := ∀ (os : List Addr) (H : Hp) (v : V) (Q : VK), (∀ a ∈ os, Tk H a) → Dp K (Off os H) v x → (∀ w H2, Same H H2 → Dp K (Off os H2) w z → Q w H2) → r v lo hi H Q
theorem wo_none {P : Option Int → Bt → Prop} (p : P none β) : WO K tNoPart ρ β P := fun os H σ Q hk hs q => q none H β p rfl (Keep.refl _ _) hk
theorem wo_some {te : TE} {P : Option Int → Bt → Prop} (h : WE K te ρ β fun d β1 => ∃ i, d = .int i ∧ P (some i) β1) : WO K (tPart te) ρ β P := fun os H σ Q hk hs q => by
  refine h os H σ _ hk hs fun v H1 d β1 p e k hk1 dv => ?_
  obtain ⟨i, rfl, p⟩ := p
  exact ⟨i, dp_int dv, q _ H1 β1 p e k hk1⟩
theorem we_sl {r : V → Option Int → Option Int → Hp → VK → Prop} {te : TE} {tl th : TO} (h : WE K te ρ β fun x β1 => WO K tl ρ β1 fun lo β2 => WO K th ρ β2 fun hi β3 => ∃ z, RSD K r x lo hi z ∧ P z β3) : WE K (tSl r te tl th) ρ β P := fun os H σ Q hk hs q => by
  refine h os H σ _ hk hs fun v H1 x β1 h1 e1 k1 hk1 d1 => ?_
  refine h1 os H1 σ _ hk1 (slots_keep hk k1 hs) fun lo H2 β2 h2 e2 k2 hk2 => ?_
  have k12 := keep_trans e1 k1 k2
  refine h2 os H2 σ _ hk2 (slots_keep hk k12 hs) fun hi H3 β3 h3 e3 k3 hk3 => ?_
  obtain ⟨z, hr, p⟩ := h3
  have e13 := (e3.trans e2).trans e1
  have k13 := keep_trans (e2.trans e1) k12 k3
  exact hr os H3 v Q hk3.trk (dp_keep hk2 k3 (dp_keep hk1 k2 d1)) fun w H4 s dw => q w H4 z β3 p e13 (keep_trans e13 k13 (Keep.same s)) (hk3.mono s) dw
def cutD (xs : List PyData) (lo hi : Option Int) : List PyData := (xs.drop (HT.sIx xs.length 0 lo)).take (HT.sIx xs.length xs.length hi - HT.sIx xs.length 0 lo)
theorem cut_dp {G : Hp} {vs : List V} {ds : List PyData} {lo hi : Option Int} (h : DpAll K G vs ds) : DpAll K G (cutV vs lo hi) (cutD ds lo hi) := by
  unfold cutV cutD
  rw [dpAll_len h]
  exact dpAll_take _ (dpAll_drop _ h)
theorem rs_list {ds : List PyData} {lo hi : Option Int} : RSD K (rSlL K) (.list ds) lo hi (.list (cutD ds lo hi)) := fun os H v Q ht hv q => by
  obtain ⟨a, vs, rfl, h1, h2⟩ := dp_lst hv
  refine ⟨a, vs, rfl, (off_le os H).seq h1, fun p hp => ?_⟩
  have s := same_new (o := .lst (cutV vs lo hi)) hp
  exact q _ _ s (.lst (.inl (off_upd fun z => (ht p z).ne hp)) (dpAll_mono (off_same s) _ _ (cut_dp h2)))
theorem rs_tup {ds : List PyData} {lo hi : Option Int} (hw : ¬ (HT.sIx ds.length 0 lo = 0 ∧ HT.sIx ds.length ds.length hi = ds.length)) : RSD K (rSlT K) (.tuple ds) lo hi (.tuple (cutD ds lo hi)) := fun os H v Q ht hv q => by
  obtain ⟨a, vs, rfl, h1, h2⟩ := dp_tup hv
  refine ⟨a, vs, rfl, same_seqT (off_le os H) h1, by rw [dpAll_len h2]; exact hw, fun p hp => ?_⟩
  have s := same_new (o := .tup (cutV vs lo hi)) hp
  exact q _ _ s (.tup (.inl (.inl (off_upd fun z => (ht p z).ne hp))) (dpAll_mono (off_same s) _ _ (cut_dp h2)))

/-! ### list + list, tuple + tuple -/
def rCatS : R2 := fun x y H Q => ∃ l b xs zs, x = .ref l ∧ y = .ref b ∧ Rd H l (.lst xs) ∧ Rd H b (.lst zs) ∧ xs.length + zs.length ≤ sizeLine ∧ ∀ p, H p = none → Q (.ref p) (upd H p (.lst (xs ++ zs)))
theorem op_catS {X : Cx} : OpR X (binaryOp .Add) rCatS := by
  intro pins s σ H x y v u Q I rx ry h
  obtain ⟨l, b, xs, zs, rfl, rfl, hH, hB, hz, q⟩ := h
  cases rx
  cases ry
  obtain ⟨z, its, n, r, e⟩ := hH.ok I.hok
  obtain ⟨z2, its2, n2, r2, e2⟩ := hB.ok I.hok
  have hl := r.length
  have hl2 := r2.length
  refine PySem.P.add_list e e2 ?_ (by rw [List.size_toArray, List.size_toArray]; omega)
  have ea : its.toArray ++ its2.toArray = (its ++ its2).toArray := by simp
  rw [ea]
  exact ⟨.ref _, _, I.lnew (t' := s.toks) (r.append r2) (by rw [List.length_append]; omega), rfl, q _ I.fresh⟩
theorem r2_catL {xs ys : List PyData} (hl : xs.length + ys.length ≤ sizeLine) : R2D K rCatS (.list xs) (.list ys) (.list (xs ++ ys)) := fun os H v u Q ht hv hu q => by
  obtain ⟨a, vs, rfl, h1, h2⟩ := dp_lstR hv
  obtain ⟨b, ws, rfl, h3, h4⟩ := dp_lstR hu
  refine ⟨a, b, vs, ws, rfl, rfl, rd_mono (off_le os H) h1, rd_mono (off_le os H) h3, by rw [dpAll_len h2, dpAll_len h4]; exact hl, fun p hp => ?_⟩
  have s := same_new (o := .lst (vs ++ ws)) hp
  exact q _ _ s (.lst (.inl (off_upd fun z => (ht p z).ne hp)) (dpAll_mono (off_same s) _ _ (dpAll_append h2 h4)))
theorem r2_catT {xs ys : List PyData} (hx : xs ≠ []) (hl : xs.length + ys.length ≤ sizeLine) : R2D K (rCatT K) (.tuple xs) (.tuple ys) (.tuple (xs ++ ys)) := fun os H v u Q ht hv hu q => by
  obtain ⟨a, vs, rfl, h1, h2⟩ := dp_tup hv
  obtain ⟨b, ws, rfl, h3, h4⟩ := dp_tup hu
  have e1 := dpAll_len h2
  have e2 := dpAll_len h4
  refine ⟨a, b, vs, ws, rfl, rfl, same_seqT (off_le os H) h1, same_seqT (off_le os H) h3, fun z => ?_, by rw [e1, e2]; exact hl, fun z => ?_, fun z p hp => ?_⟩
  · subst z
    cases h2
    exact hx rfl
  · subst z
    cases h4
    exact q _ H (Same.refl _) (by rw [List.append_nil]; exact .tup h1 h2)
  · have s := same_new (o := .tup (vs ++ ws)) hp
    exact q _ _ s (.tup (.inl (.inl (off_upd fun z => (ht p z).ne hp))) (dpAll_mono (off_same s) _ _ (dpAll_append h2 h4)))
/-- ints, lists and tuples are added by one rule -/
def rAddX (K : PySem.W.Frag) : R2 := fun x y H Q => rI0 (fun i j => .int (i + j)) x y H Q ∨ rCatS x y H Q ∨ rCatT K x y H Q
theorem op_addX {X : Cx} : OpR X (binaryOp .Add) (rAddX X.K) := fun pins s σ H x y v u Q I rx ry h => by
  rcases h with h | h | h
  · exact op_add pins s σ H x y v u Q I rx ry h
  · exact op_catS pins s σ H x y v u Q I rx ry h
  · exact op_catT pins s σ H x y v u Q I rx ry h
theorem r2_addI {i j : Int} : R2D K (rAddX K) (.int i) (.int j) (.int (i + j)) := fun os H v u Q ht hv hu q => .inl (r2_int os H v u Q ht hv hu q)
theorem r2_addL {xs ys : List PyData} (hl : xs.length + ys.length ≤ sizeLine) : R2D K (rAddX K) (.list xs) (.list ys) (.list (xs ++ ys)) := fun os H v u Q ht hv hu q => .inr (.inl (r2_catL hl os H v u Q ht hv hu q))
theorem r2_addT {xs ys : List PyData} (hx : xs ≠ []) (hl : xs.length + ys.length ≤ sizeLine) : R2D K (rAddX K) (.tuple xs) (.tuple ys) (.tuple (xs ++ ys)) := fun os H v u Q ht hv hu q => .inr (.inr (r2_catT hx hl os H v u Q ht hv hu q))

/-! ### built-ins -/
theorem rc_abs {i : Int} : RCD K (fun xs H Q => ∃ i, xs = [.int i] ∧ Q (.int (if i < 0 then -i else i)) H) [.int i] (.int (if i < 0 then -i else i)) := fun os H vs Q ht hv q => by
  cases hv with
  | cons a b => cases b; cases a; exact ⟨i, rfl, q _ H (Same.refl _) (.int _)⟩
def rInt1 : List V → Hp → VK → Prop := fun xs H Q => (∃ i, xs = [.int i] ∧ Q (.int i) H) ∨ ∃ k, xs = [.bl k] ∧ Q (.int (if k then 1 else 0)) H
theorem call_int1' {X : Cx} : CallR X (.type "int") rInt1 := call_int1
theorem rc_intI {i : Int} : RCD K rInt1 [.int i] (.int i) := fun os H vs Q ht hv q => by
  cases hv with
  | cons a b => cases b; cases a; exact .inl ⟨i, rfl, q _ H (Same.refl _) (.int _)⟩
theorem rc_intB {b : Bool} : RCD K rInt1 [.bool b] (.int (if b then 1 else 0)) := fun os H vs Q ht hv q => by
  cases hv with
  | cons a c => cases c; cases a; exact .inr ⟨b, rfl, q _ H (Same.refl _) (.int _)⟩
def rAbs : List V → Hp → VK → Prop := fun xs H Q => ∃ i, xs = [.int i] ∧ Q (.int (if i < 0 then -i else i)) H
theorem call_abs' {X : Cx} : CallR X (.builtin "abs") rAbs := call_abs
theorem rc_absI {i : Int} : RCD K rAbs [.int i] (.int (if i < 0 then -i else i)) := rc_abs
def rMax : List V → Hp → VK → Prop := fun xs H Q => ∃ i j, xs = [.int i, .int j] ∧ Q (.int (if j > i then j else i)) H
def rMin : List V → Hp → VK → Prop := fun xs H Q => ∃ i j, xs = [.int i, .int j] ∧ Q (.int (if j < i then j else i)) H
theorem call_max' {X : Cx} (hc : X.calm = true) : CallR X (.builtin "max") rMax := call_max2 hc
theorem call_min' {X : Cx} (hc : X.calm = true) : CallR X (.builtin "min") rMin := call_min2 hc
theorem rc_max {i j : Int} : RCD K rMax [.int i, .int j] (.int (if j > i then j else i)) := fun os H vs Q ht hv q => by
  cases hv with
  | cons a b => cases b with
    | cons b c => cases c; cases a; cases b; exact ⟨i, j, rfl, q _ H (Same.refl _) (.int _)⟩
theorem rc_min {i j : Int} : RCD K rMin [.int i, .int j] (.int (if j < i then j else i)) := fun os H vs Q ht hv q => by
  cases hv with
  | cons a b => cases b with
    | cons b c => cases c; cases a; cases b; exact ⟨i, j, rfl, q _ H (Same.refl _) (.int _)⟩
def rLenX (K : PySem.W.Frag) : List V → Hp → VK → Prop := fun xs H Q => ∃ x n, xs = [x] ∧ LenV K x H n ∧ Q (.int n) H
theorem call_lenX {X : Cx} : CallR X (.builtin "len") (rLenX X.K) := call_len
theorem rc_lenL {ds : List PyData} : RCD K (rLenX K) [.list ds] (.int (ds.length : Int)) := fun os H vs Q ht hv q => by
  cases hv with
  | cons a b =>
    cases b
    obtain ⟨p, ws, rfl, h1, h2⟩ := dp_lst a
    refine ⟨_, _, rfl, .inl ⟨ws, (off_le os H).seq h1, rfl⟩, ?_⟩
    rw [dpAll_len h2]
    exact q _ H (Same.refl _) (.int _)
theorem rc_lenT {ds : List PyData} : RCD K (rLenX K) [.tuple ds] (.int (ds.length : Int)) := fun os H vs Q ht hv q => by
  cases hv with
  | cons a b =>
    cases b
    obtain ⟨p, ws, rfl, h1, h2⟩ := dp_tup a
    refine ⟨_, _, rfl, .inr ⟨ws, same_seqT (off_le os H) h1, rfl⟩, ?_⟩
    rw [dpAll_len h2]
    exact q _ H (Same.refl _) (.int _)
theorem rc_lenS {x : Str} (h : x.length ≤ sizeLine) : RCD K (rLenX K) [.str x] (.int (x.length : Int)) := fun os H vs Q ht hv q => by
  cases hv with
  | cons a b => cases b; cases a; exact ⟨_, _, rfl, ⟨h, rfl⟩, q _ H (Same.refl _) (.int _)⟩
/-- data that are ints, bools -/
theorem dpAll_ints {G : Hp} : ∀ {vs : List V} {ns : List Int}, DpAll K G vs (ns.map .int) → vs = ns.map V.int
  | _, [], h => by cases h; rfl
  | _, n :: ns, h => by
    cases h with
    | cons a b => rw [dp_int a, dpAll_ints b]; rfl
theorem dpAll_bools {G : Hp} : ∀ {vs : List V} {ns : List Bool}, DpAll K G vs (ns.map .bool) → vs = ns.map V.bl
  | _, [], h => by cases h; rfl
  | _, n :: ns, h => by
    cases h with
    | cons a b => rw [dp_bool a, dpAll_bools b]; rfl
theorem rc_sum {ns : List Int} : RCD K (rSum K) [.list (ns.map .int)] (.int ns.sum) := fun os H vs Q ht hv q => by
  cases hv with
  | cons a b =>
    cases b
    obtain ⟨p, ws, rfl, h1, h2⟩ := dp_lst a
    have e := dpAll_ints h2
    subst e
    exact ⟨p, ns, rfl, (off_le os H).seq h1, q _ H (Same.refl _) (.int _)⟩
theorem rc_all {bs : List Bool} : RCD K (rAll K) [.list (bs.map .bool)] (.bool (bs.all id)) := fun os H vs Q ht hv q => by
  cases hv with
  | cons a b =>
    cases b
    obtain ⟨p, ws, rfl, h1, h2⟩ := dp_lst a
    have e := dpAll_bools h2
    subst e
    exact ⟨p, bs, rfl, (off_le os H).seq h1, q _ H (Same.refl _) (.bl _)⟩
def rListOf (K : PySem.W.Frag) : List V → Hp → VK → Prop := fun xs H Q => ∃ p ys, xs = [.ref p] ∧ (SqL K H p ys ∨ SqT K H p ys) ∧ ∀ l, H l = none → Q (.ref l) (upd H l (.lst ys))
theorem call_listX {X : Cx} : CallR X (.type "list") (rListOf X.K) := call_list_of
theorem rc_listL {ds : List PyData} : RCD K (rListOf K) [.list ds] (.list ds) := fun os H vs Q ht hv q => by
  cases hv with
  | cons a b =>
    cases b
    obtain ⟨p, ws, rfl, h1, h2⟩ := dp_lst a
    refine ⟨p, ws, rfl, .inl ((off_le os H).seq h1), fun l hl => ?_⟩
    have s := same_new (o := .lst ws) hl
    exact q _ _ s (.lst (.inl (off_upd fun z => (ht l z).ne hl)) (dpAll_mono (off_same s) _ _ h2))
theorem rc_listT {ds : List PyData} : RCD K (rListOf K) [.tuple ds] (.list ds) := fun os H vs Q ht hv q => by
  cases hv with
  | cons a b =>
    cases b
    obtain ⟨p, ws, rfl, h1, h2⟩ := dp_tup a
    refine ⟨p, ws, rfl, .inr (same_seqT (off_le os H) h1), fun l hl => ?_⟩
    have s := same_new (o := .lst ws) hl
    exact q _ _ s (.lst (.inl (off_upd fun z => (ht l z).ne hl)) (dpAll_mono (off_same s) _ _ h2))
def rTupOf (K : PySem.W.Frag) : List V → Hp → VK → Prop := fun xs H Q => ∃ p ys, xs = [.ref p] ∧ ((SqL K H p ys ∧ ∀ l, H l = none → Q (.ref l) (upd H l (.tup ys))) ∨ (SqT K H p ys ∧ Q (.ref p) H))
theorem call_tupX {X : Cx} : CallR X (.type "tuple") (rTupOf X.K) := call_tuple_of
theorem rc_tupL {ds : List PyData} : RCD K (rTupOf K) [.list ds] (.tuple ds) := fun os H vs Q ht hv q => by
  cases hv with
  | cons a b =>
    cases b
    obtain ⟨p, ws, rfl, h1, h2⟩ := dp_lst a
    refine ⟨p, ws, rfl, .inl ⟨(off_le os H).seq h1, fun l hl => ?_⟩⟩
    have s := same_new (o := .tup ws) hl
    exact q _ _ s (.tup (.inl (.inl (off_upd fun z => (ht l z).ne hl))) (dpAll_mono (off_same s) _ _ h2))
theorem rc_tupT {ds : List PyData} : RCD K (rTupOf K) [.tuple ds] (.tuple ds) := fun os H vs Q ht hv q => by
  cases hv with
  | cons a b =>
    cases b
    obtain ⟨p, ws, rfl, h1, h2⟩ := dp_tup a
    exact ⟨p, ws, rfl, .inr ⟨same_seqT (off_le os H) h1, q _ H (Same.refl _) a⟩⟩

/-! ### isinstance -/
def tyN : PyData → String
  | .none => "NoneType"
  | .bool _ => "bool"
  | .int _ => "int"
  | .str _ => "str"
  | .list _ => "list"
  | .tuple _ => "tuple"
  | .dict _ => "dict"
def isInt : PyData → Bool
  | .int _ | .bool _ => true
  | _ => false
def isBool : PyData → Bool
  | .bool _ => true
  | _ => false
def isStr : PyData → Bool
  | .str _ => true
  | _ => false
def isList : PyData → Bool
  | .list _ => true
  | _ => false
def isTup : PyData → Bool
  | .tuple _ => true
  | _ => false
def isDct : PyData → Bool
  | .dict _ => true
  | _ => false
/-- a type known to isinstance, a locked dict of tuple keys among them -/
def TyZ (K : PySem.W.Frag) (H : Hp) (v : V) (t : Value) : Prop := TyX K H v t ∨ ∃ a o kvs, v = .ref a ∧ t = .type "dict" ∧ H a = some (.frz o (.dT kvs))
theorem kit_ofZ {X : Cx} {pins : List (Addr × Obj)} {σ : L2.St} {H : Hp} {s : Shared} {x : V} {u t : Value} (I : Inv X pins σ H s) (rx : RelV x u) (ty : TyZ X.K H x t) : ∃ P : Heap → Prop, PySem.W.KitX X.K u t P ∧ P s.heap ∧ u ≠ .builtin "__main__.__loader__#opaque" := by
  rcases ty with ty | ⟨a, ob, kvs, rfl, rfl, ea⟩
  · exact kit_of I rx ty
  · cases (show u = Value.ref a from rx)
    obtain ⟨_, _, _, xs, _, o, es, ep, h1, h2, _⟩ := (show ObjOk X.prog X.w H s.heap a (.frz ob (.dT kvs)) from I.hok a _ ea)
    exact ⟨_, PySem.W.kitx_dict, ⟨o, h1, h2.1⟩, fun z => nomatch z⟩
def rIsiZ (K : PySem.W.Frag) : List V → Hp → VK → Prop := fun xs H Q => ∃ (x c : V) (t u : Value) (b : Bool), xs = [x, c] ∧ ClsV c u ∧ TyZ K H x t ∧ PySem.W.kitOne K t u = some b ∧ Q (.bl b) H
def rIsiTZ (K : PySem.W.Frag) : List V → Hp → VK → Prop := fun xs H Q => ∃ (x : V) (tp : Addr) (cs : List V) (t : Value) (us : List Value) (b : Bool), xs = [x, .ref tp] ∧ H tp = some (.tup cs) ∧ Paired ClsV cs us ∧ TyZ K H x t ∧ PySem.W.kitAny K t us = some b ∧ Q (.bl b) H
theorem call_isiZ {X : Cx} : CallR X (.builtin "isinstance") (rIsiZ X.K) := by
  intro pins s σ H xs us Q I r h
  obtain ⟨x, c, t, u, b, rfl, k, ty, e, q⟩ := h
  obtain ⟨u1, u2, rfl, r1, r2⟩ := vals2 r
  have e2 := k.eq r2
  subst e2
  obtain ⟨P, Z, p, hx⟩ := kit_ofZ I r1 ty
  exact PySem.W.kia_one Z I.kIn p e hx fun tk => ⟨.bl b, H, I.tok tk, rfl, q⟩
theorem call_isiTZ {X : Cx} : CallR X (.builtin "isinstance") (rIsiTZ X.K) := by
  intro pins s σ H xs us Q I r h
  obtain ⟨x, tp, cs, t, ws, b, rfl, hT, k, ty, e, q⟩ := h
  obtain ⟨u1, u2, rfl, r1, r2⟩ := vals2 r
  cases (show u2 = Value.ref tp from r2)
  obtain ⟨P, Z, p, hx⟩ := kit_ofZ I r1 ty
  obtain ⟨_, its, rv, o, h1, h2, n, h3⟩ := (show ObjOk X.prog X.w H s.heap tp (.tup cs) from I.hok tp _ hT)
  have e3 := ClsV.all k rv
  subst e3
  obtain ⟨oc, od, dt, sl⟩ := o
  simp only at h2 h3
  subst h2 h3
  exact PySem.W.kia_tup Z I.kIn p h1 e hx fun tk => ⟨.bl b, H, I.tok tk, rfl, q⟩
theorem tyX_of {H : Hp} {v : V} {d : PyData} (h : Dp K H v d) : TyZ K H v (.type (tyN d)) := by
  cases h with
  | non => exact .inl (.base .non)
  | bl b => exact .inl (.base (.bl b))
  | int i => exact .inl (.base (.int i))
  | str x => exact .inl (.base (.str x))
  | lst hs _ =>
    rcases hs with h | ⟨o, h⟩
    · exact .inl (.base (.lst h))
    · exact .inl (.base (.frz h))
  | tup hs _ =>
    rcases hs with (h | ⟨o, h⟩) | ⟨o, its, n, h, hc, _⟩
    · exact .inl (.base (.tup h))
    · exact .inl (.fTuple h)
    · exact .inl (.kTuple h hc)
  | dct hs _ =>
    rcases hs with h | ⟨o, h⟩
    · exact .inl (.base (.dK h))
    · exact .inl (.fDict h)
  | dctT hs _ =>
    rcases hs with h | ⟨o, h⟩
    · exact .inl (.base (.dT h))
    · exact .inr ⟨_, _, _, rfl, rfl, h⟩
def IsG (T : String) (g : PyData → Bool) : Prop := ∀ d : PyData, kitB (tyN d) T = some (g d)
theorem isg_of {T : String} {g : PyData → Bool} {l : List (Option Bool)} (h : ["NoneType", "bool", "int", "str", "list", "tuple", "dict"].map (fun n => kitB n T) = l)
    (hg : l = [some (g .none), some (g (.bool true)), some (g (.int 0)), some (g (.str ⟨#[]⟩)), some (g (.list [])), some (g (.tuple [])), some (g (.dict []))])
    (hb : ∀ b, g (.bool b) = g (.bool true)) (hi : ∀ i, g (.int i) = g (.int 0)) (hs : ∀ x, g (.str x) = g (.str ⟨#[]⟩)) (hl : ∀ x, g (.list x) = g (.list [])) (ht : ∀ x, g (.tuple x) = g (.tuple [])) (hd : ∀ x, g (.dict x) = g (.dict [])) : IsG T g := by
  rw [hg] at h
  simp only [List.map_cons, List.map_nil, List.cons.injEq, and_true] at h
  obtain ⟨h1, h2, h3, h4, h5, h6, h7⟩ := h
  intro d
  cases d with
  | none => exact h1
  | bool b => rw [hb b]; exact h2
  | int i => rw [hi i]; exact h3
  | str x => rw [hs x]; exact h4
  | list x => rw [hl x]; exact h5
  | tuple x => rw [ht x]; exact h6
  | dict x => rw [hd x]; exact h7
theorem isg_int : IsG "int" isInt := isg_of (l := [some false, some true, some true, some false, some false, some false, some false]) (by decide +kernel) rfl (fun _ => rfl) (fun _ => rfl) (fun _ => rfl) (fun _ => rfl) (fun _ => rfl) (fun _ => rfl)
theorem isg_bool : IsG "bool" isBool := isg_of (l := [some false, some true, some false, some false, some false, some false, some false]) (by decide +kernel) rfl (fun _ => rfl) (fun _ => rfl) (fun _ => rfl) (fun _ => rfl) (fun _ => rfl) (fun _ => rfl)
theorem isg_str : IsG "str" isStr := isg_of (l := [some false, some false, some false, some true, some false, some false, some false]) (by decide +kernel) rfl (fun _ => rfl) (fun _ => rfl) (fun _ => rfl) (fun _ => rfl) (fun _ => rfl) (fun _ => rfl)
theorem isg_list : IsG "list" isList := isg_of (l := [some false, some false, some false, some false, some true, some false, some false]) (by decide +kernel) rfl (fun _ => rfl) (fun _ => rfl) (fun _ => rfl) (fun _ => rfl) (fun _ => rfl) (fun _ => rfl)
theorem isg_tuple : IsG "tuple" isTup := isg_of (l := [some false, some false, some false, some false, some false, some true, some false]) (by decide +kernel) rfl (fun _ => rfl) (fun _ => rfl) (fun _ => rfl) (fun _ => rfl) (fun _ => rfl) (fun _ => rfl)
theorem isg_dict : IsG "dict" isDct := isg_of (l := [some false, some false, some false, some false, some false, some false, some true]) (by decide +kernel) rfl (fun _ => rfl) (fun _ => rfl) (fun _ => rfl) (fun _ => rfl) (fun _ => rfl) (fun _ => rfl)
theorem we_isi {T : String} {g : PyData → Bool} {ta : TE} (hT : IsG T g) (h : WE K ta ρ β fun d β1 => P (.bool (g d)) β1) : WE K (tCB (rIsiZ K) (tCons ta (tCons (tC (.ty T)) tNil))) ρ β P := fun os H σ Q hk hs q => by
  refine h os H σ _ hk hs fun v H1 d β1 p e k hk1 dv => ?_
  exact ⟨v, .ty T, .type (tyN d), .type T, g d, rfl, .ty T, tyX_of (dp_off dv), kit_ty (hT d), q _ H1 _ β1 p e k hk1 (.bl _)⟩
theorem kitAny_two {d : PyData} {T1 T2 : String} {g1 g2 : PyData → Bool} (h1 : IsG T1 g1) (h2 : IsG T2 g2) : PySem.W.kitAny K (.type (tyN d)) [.type T1, .type T2] = some (g1 d || g2 d) := by
  refine kitAny_cons (kit_ty (h1 d)) (fun e => kitAny_cons (kit_ty (h2 d)) (fun e2 => by rw [e, e2]; exact kitAny_nil) fun e2 => by rw [e2, Bool.or_true]) fun e => by rw [e, Bool.true_or]
theorem we_isi2 {T1 T2 : String} {g1 g2 : PyData → Bool} {ta : TE} (h1 : IsG T1 g1) (h2 : IsG T2 g2) (h : WE K ta ρ β fun d β1 => P (.bool (g1 d || g2 d)) β1) :
    WE K (tCB (rIsiTZ K) (tCons ta (tCons (tTup (tCons (tC (.ty T1)) (tCons (tC (.ty T2)) tNil))) tNil))) ρ β P := fun os H σ Q hk hs q => by
  refine h os H σ _ hk hs fun v H1 d β1 p e k hk1 dv => ?_
  refine ⟨by show 2 ≤ sizeLine; decide, fun t ht => ?_⟩
  have s := same_new (o := .tup [.ty T1, .ty T2]) ht
  exact ⟨v, t, [.ty T1, .ty T2], .type (tyN d), [.type T1, .type T2], _, rfl, upd_same, .cons (.ty T1) (.cons (.ty T2) .nil), tyX_of (dp_mono s _ _ (dp_off dv)), kitAny_two h1 h2,
    q _ _ _ β1 p e (keep_trans e k (Keep.same s)) (hk1.mono s) (.bl _)⟩
end
end DS

set_option Elab.async false
set_option linter.all false
set_option maxRecDepth 100000
set_option maxHeartbeats 4000000
/-! DS4: defs, their promises over data; owned lists. -/
namespace DS
open PySem PySem.Spec PyProof.Rows L2
abbrev EN : XK := fun _ _ _ => False
abbrev CXN : CXT := fun _ _ _ _ _ _ => False
theorem passN {X : Cx} {E : XK} : Passes CXN X E := fun _ _ _ _ _ _ _ h => h.elim

/-! ### owned lists -/
section
variable {K : PySem.W.Frag} {ρ : List Slot} {β : Bt} {P : PyData → Bt → Prop} {E : Out}
theorem dom_set : ∀ {β : Bt} {j : Nat} {b : Addr} {bx bx' : Oc}, β[j]? = some (b, bx) → dom (β.set j (b, bx')) = dom β
  | [], _, _, _, _, h => by simp at h
  | p :: β, 0, _, _, _, h => by simp at h; subst h; rfl
  | p :: β, j + 1, b, bx, bx', h => by
    show p.1 :: dom (β.set j (b, bx')) = p.1 :: dom β
    rw [dom_set (β := β) (j := j) (bx := bx) (by simpa using h)]
def dropA (b : Addr) (os : List Addr) : List Addr := os.filter fun a => !(a == b)
theorem mem_dropA {a b : Addr} {os : List Addr} : a ∈ dropA b os ↔ a ∈ os ∧ a ≠ b := by
  unfold dropA
  rw [List.mem_filter]
  simp
theorem own_get {os : List Addr} {H : Hp} : ∀ {β : Bt} {j : Nat} {b : Addr} {bx : Oc}, OwnR K os H β → β[j]? = some (b, bx) → b ∈ os ∧ ∃ o, H b = some o ∧ OcR K (Off os H) bx o
  | [], _, _, _, _, e => by simp at e
  | (a, ds) :: β, 0, b, bx, h, e => by simp at e; obtain ⟨rfl, rfl⟩ := e; exact ⟨h.1, h.2.1⟩
  | (a, ds) :: β, j + 1, b, bx, h, e => own_get (j := j) h.2.2 (by simpa using e)
theorem mem_dom {j : Nat} {b : Addr} {bx : Oc} (hj : β[j]? = some (b, bx)) : b ∈ dom β := List.mem_map.mpr ⟨_, List.mem_of_getElem? hj, rfl⟩
theorem own_set {os : List Addr} {H H2 : Hp} {b : Addr} (hb : b ∈ os) (kp : ∀ a o, a ≠ b → H a = some o → H2 a = some o) {bx' : Oc} (new : ∃ o, H2 b = some o ∧ OcR K (Off os H2) bx' o) :
    ∀ {β : Bt} {j : Nat} {bx : Oc}, (dom β).Nodup → OwnR K os H β → β[j]? = some (b, bx) → OwnR K os H2 (β.set j (b, bx')) := by
  have sm : Same (Off os H) (Off os H2) := fun a o e => by
    obtain ⟨e1, e2⟩ := off_some e
    rw [off_out e1]
    exact kp a o (fun z => e1 (by rw [z]; exact hb)) e2
  have keep : ∀ {β : Bt}, b ∉ dom β → OwnR K os H β → OwnR K os H2 β := by
    intro β
    induction β with
    | nil => intro _ _; trivial
    | cons p β ih =>
      obtain ⟨a, ds⟩ := p
      rintro hn ⟨h1, ⟨vs, h2, h3⟩, h4⟩
      have hne : a ≠ b := fun z => hn (by simp [z])
      exact ⟨h1, ⟨vs, kp a _ hne h2, ocR_mono sm h3⟩, ih (fun z => hn (List.mem_cons_of_mem _ z)) h4⟩
  intro β
  induction β with
  | nil => intro j bx _ _ e; simp at e
  | cons p β ih =>
    obtain ⟨a, ds⟩ := p
    rintro j bx nd ⟨h1, ⟨vs, h2, h3⟩, h4⟩ e
    have nd' : a ∉ dom β ∧ (dom β).Nodup := List.nodup_cons.mp nd
    cases j with
    | zero =>
      simp at e
      obtain ⟨rfl, rfl⟩ := e
      exact ⟨hb, new, keep nd'.1 h4⟩
    | succ j =>
      have e' : β[j]? = some (b, bx) := by simpa using e
      have hne : a ≠ b := fun z => nd'.1 (by rw [z]; exact mem_dom e')
      exact ⟨h1, ⟨vs, kp a _ hne h2, ocR_mono sm h3⟩, ih nd'.2 h4 e'⟩
theorem hok_set {os : List Addr} {H H2 : Hp} {b : Addr} {j : Nat} {bx bx' : Oc} (hk : Hok K os H β) (hj : β[j]? = some (b, bx)) (kp : ∀ a o, a ≠ b → H a = some o → H2 a = some o)
    (new : ∃ o, H2 b = some o ∧ OcR K (Off os H2) bx' o) : Hok K os H2 (β.set j (b, bx')) where
  trk := fun a ha => by
    by_cases e : a = b
    · obtain ⟨vs, h, h2⟩ := new
      rw [e]
      exact ⟨vs, h, ocR_tk h2⟩
    · exact (hk.trk a ha).same fun o q => kp a o e q
  nd := by rw [dom_set hj]; exact hk.nd
  own := own_set (own_get hk.own hj).1 kp new hk.nd hk.own hj
theorem keep_one {H H2 : Hp} {b : Addr} {j : Nat} {bx : Oc} (hj : β[j]? = some (b, bx)) (kp : ∀ a o, a ≠ b → H a = some o → H2 a = some o) : Keep β H H2 := fun a o h => kp a o fun z => h (by rw [z]; exact mem_dom hj)
theorem slot_raw {os : List Addr} {H : Hp} {σ : L2.St} {i : Nat} {v : V} (hs : SlotsR K (Off os H) σ ρ) (h : ρ[i]? = some (.raw v)) : σ[i]? = some (some v) := by
  obtain ⟨o, e, q⟩ := slotsR_get hs h
  rw [e, show o = some v from q]
/-- b[i], b owned -/
theorem we_ixO {i : Nat} {b : Addr} {te : TE} (hi : ρ[i]? = some (.raw (.ref b))) (h : WE K te ρ β fun y β1 => ∃ (j : Nat) (k : Int) (bx : List PyData) (d : PyData), y = .int k ∧ β1[j]? = some (b, .lst bx) ∧ atI bx k = some d ∧ P d β1) : WE K (tOp (rIxX K) (tVar i) te) ρ β P := fun os H σ Q hk hs q => by
  refine ⟨.ref b, slot_raw hs hi, h os H σ _ hk hs fun v H1 y β1 p e k hk1 dv => ?_⟩
  obtain ⟨j, z, bx, d, rfl, hj, ha, p⟩ := p
  obtain ⟨_, _, hb, vs, rfl, hd⟩ := own_get hk1.own hj
  obtain ⟨w, hw, dw⟩ := atI_dp hd ha
  exact .inl ⟨b, vs, z, w, rfl, dp_int dv, .inl (.inl hb), hw, q w H1 d β1 p e k hk1 dw⟩
/-- b[i] = e, b owned -/
theorem ws_setO {i : Nat} {b : Addr} {te ti : TE} (hi : ρ[i]? = some (.raw (.ref b)))
    (h : WE K te ρ β fun d β1 => WE K ti ρ β1 fun y β2 => ∃ (j : Nat) (k : Int) (n : Nat) (bx : List PyData), y = .int k ∧ β2[j]? = some (b, .lst bx) ∧ ixN bx.length k = some n ∧ E.nx ρ (β2.set j (b, .lst (bx.set n d)))) : WS K (tAsg te (gSub (tVar i) ti rSetL)) ρ β E := fun os0 H0 os H σ D r hk hs x => by
  refine h os H σ _ hk hs fun v H1 d β1 p e k hk1 dv => ?_
  refine ⟨.ref b, slot_raw (slots_keep hk k hs) hi, p os H1 σ _ hk1 (slots_keep hk k hs) fun y H2 yd β2 p2 e2 k2 hk2 dy => ?_⟩
  obtain ⟨j, z, n, bx, rfl, hj, hn, hE⟩ := p2
  obtain ⟨hbo, _, hb, vs, rfl, hd⟩ := own_get hk2.own hj
  refine ⟨b, vs, z, n, rfl, dp_int dy, hb, by rw [dpAll_len hd]; exact hn, ?_⟩
  have dv2 := dp_keep hk1 k2 dv
  have kp : ∀ a o, a ≠ b → H2 a = some o → (upd H2 b (.lst (vs.set n v))) a = some o := fun a o ha q => by rw [upd_ne ha]; exact q
  have hk3 : Hok K os (upd H2 b (.lst (vs.set n v))) (β2.set j (b, .lst (bx.set n d))) := hok_set hk2 hj kp ⟨_, upd_same, _, rfl, by rw [off_updIn hbo]; exact dpAll_set dv2 n hd⟩
  have k3 := keep_one hj kp
  have e12 := e2.trans e
  have k12 := keep_trans e k k2
  have e13 := (dom_set (bx' := .lst (bx.set n d)) hj).trans e12
  have k13 := keep_trans e12 k12 k3
  exact x.nx os σ _ ρ _ hE (r.step e13 k13) (DK.of hk k13) hk3 (slots_keep hk k13 hs)
/-- b.append(e), b owned -/
theorem ws_appO {i j : Nat} {b : Addr} {te : TE} (hi : ρ[i]? = some (.raw (.ref b)))
    (hl : ∃ bx, β[j]? = some (b, .lst bx)) (h : WE K te ρ β fun d β1 => ∃ bx, β1[j]? = some (b, .lst bx) ∧ bx.length < sizeLine ∧ E.nx ρ (β1.set j (b, .lst (bx ++ [d])))) : WS K (tDrop (tBM K "list" rAppend (tVar i) (tCons te tNil))) ρ β E := fun os0 H0 os H σ D r hk hs x => by
  obtain ⟨bx0, hj0⟩ := hl
  obtain ⟨_, _, hv0, vs0, rfl, _⟩ := own_get hk.own hj0
  refine ⟨.ref b, slot_raw hs hi, .inl ⟨rfl, vs0, .inl (.inl hv0)⟩, h os H σ _ hk hs fun v H1 d β1 p e k hk1 dv => ?_⟩
  obtain ⟨bx, hj, hz, hE⟩ := p
  obtain ⟨hbo, _, hb, vs, rfl, hd⟩ := own_get hk1.own hj
  refine ⟨b, vs, v, rfl, rfl, hb, by rw [dpAll_len hd]; exact hz, ?_⟩
  have kp : ∀ a o, a ≠ b → H1 a = some o → (upd H1 b (.lst (vs ++ [v]))) a = some o := fun a o ha q => by rw [upd_ne ha]; exact q
  have hk3 : Hok K os (upd H1 b (.lst (vs ++ [v]))) (β1.set j (b, .lst (bx ++ [d]))) := hok_set hk1 hj kp ⟨_, upd_same, _, rfl, by rw [off_updIn hbo]; exact dpAll_append hd (.cons dv .nil)⟩
  have k3 := keep_one hj kp
  have e13 := (dom_set (bx' := .lst (bx ++ [d])) hj).trans e
  have k13 := keep_trans e k k3
  exact x.nx os σ _ ρ _ hE (r.step e13 k13) (DK.of hk k13) hk3 (slots_keep hk k13 hs)
/-- x = [..], x owned from here on -/
theorem own_app {os : List Addr} {H : Hp} : ∀ {β γ : Bt}, OwnR K os H β → OwnR K os H γ → OwnR K os H (β ++ γ)
  | [], _, _, h => h
  | (a, ds) :: β, γ, ⟨h1, h2, h3⟩, h => ⟨h1, h2, own_app h3 h⟩
theorem own_new {os : List Addr} {H : Hp} {D : Addr} {vs : List V} {ds : List PyData} (hk : Hok K os H β) (hD : H D = none) (ha : DpAll K (Off os H) vs ds) : Hok K (D :: os) (upd H D (.lst vs)) (β ++ [(D, .lst ds)]) where
  trk := fun a h => by
    by_cases e : a = D
    · rw [e]; exact ⟨_, upd_same, fun _ z => nomatch z⟩
    · exact (hk.trk a ((List.mem_cons.mp h).resolve_left e)).same fun o q => by rw [upd_ne e]; exact q
  nd := by
    unfold dom
    rw [List.map_append, List.nodup_append]
    refine ⟨hk.nd, by simp, fun a h b h2 z => ?_⟩
    simp at h2
    exact new_out hk hD (hk.mem D (by rw [← h2, ← z]; exact h))
  own := own_app (own_more hD hk.own) ⟨by simp, ⟨_, upd_same, vs, rfl, dpAll_mono (off_more hD) _ _ ha⟩, trivial⟩
theorem reach_new {os0 b0 os : List Addr} {H0 H : Hp} {D : Addr} {o : HO} {ds : List PyData} (r : Reach os0 b0 H0 os β H) (hk : Hok K os H β) (hD : H D = none) : Reach os0 b0 H0 (D :: os) (β ++ [(D, .lst ds)]) (upd H D o) where
  os := fun a h => List.mem_cons_of_mem _ (r.os a h)
  keep := fun a u h1 h2 => by
    have q := r.keep a u h1 h2
    rw [upd_ne (ne_of_none q hD)]
    exact q
  dom := fun a h => by
    unfold dom
    rw [List.map_append]
    exact List.mem_append.mpr (.inl (r.dom a h))
  nw := fun a h => by
    unfold dom at h
    rw [List.map_append] at h
    rcases List.mem_append.mp h with h | h
    · exact r.nw a h
    · simp at h
      subst h
      right
      cases q : H0 a with
      | none => rfl
      | some u =>
        by_cases hb : a ∈ b0
        · exact absurd hD (hk.trk a (hk.mem a (r.dom a hb))).ne
        · rw [r.keep a u hb q] at hD; cases hD
  trk := r.trk
theorem ws_newO {i : Nat} {ta : TA} (h : WA K ta ρ β fun ds β1 => ds.length ≤ sizeLine ∧ ∀ p, p ∉ dom β1 → E.nx (ρ.set i (.raw (.ref p))) (β1 ++ [(p, .lst ds)])) : WS K (tAsg (tLst ta) (gName i)) ρ β E := fun os0 H0 os H σ D r hk hs x => by
  refine h os H σ _ hk hs fun vs H1 ds β1 p e k hk1 dv => ?_
  obtain ⟨hl, p⟩ := p
  refine ⟨by rw [dpAll_len dv]; exact hl, fun a na => ?_⟩
  have ha : a ∉ dom β1 := fun z => new_out hk1 na (hk1.mem a z)
  exact x.nx (a :: os) _ _ _ _ (p a ha) (reach_new (r.step e k) hk1 na) ((DK.of hk k).trans fun v d hd => dp_mono (off_more na) _ _ hd) (own_new hk1 na dv)
    (slotsR_set (s := .raw (.ref a)) rfl i (slotsR_mono (off_more na) (slots_keep hk k hs)))
/-- an owned list that is not the entry's is data from here on -/
theorem own_erase {os : List Addr} {H : Hp} {b : Addr} : ∀ {β : Bt} {j : Nat} {bx : Oc}, (dom β).Nodup → OwnR K os H β → β[j]? = some (b, bx) → OwnR K (dropA b os) H (β.eraseIdx j) := by
  have sub : ∀ a ∈ dropA b os, a ∈ os := fun a h => (mem_dropA.mp h).1
  have keep : ∀ {β : Bt}, b ∉ dom β → OwnR K os H β → OwnR K (dropA b os) H β := by
    intro β
    induction β with
    | nil => intro _ _; trivial
    | cons p β ih =>
      obtain ⟨a, ds⟩ := p
      rintro hn ⟨h1, ⟨vs, h2, h3⟩, h4⟩
      have hne : a ≠ b := fun z => hn (by simp [z])
      exact ⟨mem_dropA.mpr ⟨h1, hne⟩, ⟨vs, h2, ocR_mono (off_sub sub) h3⟩, ih (fun z => hn (List.mem_cons_of_mem _ z)) h4⟩
  intro β
  induction β with
  | nil => intro j bx _ _ e; simp at e
  | cons p β ih =>
    obtain ⟨a, ds⟩ := p
    rintro j bx nd ⟨h1, ⟨vs, h2, h3⟩, h4⟩ e
    have nd' : a ∉ dom β ∧ (dom β).Nodup := List.nodup_cons.mp nd
    cases j with
    | zero =>
      simp at e
      obtain ⟨rfl, rfl⟩ := e
      exact keep nd'.1 h4
    | succ j =>
      have e' : β[j]? = some (b, bx) := by simpa using e
      have hne : a ≠ b := fun z => nd'.1 (by rw [z]; exact mem_dom e')
      exact ⟨mem_dropA.mpr ⟨h1, hne⟩, ⟨vs, h2, ocR_mono (off_sub sub) h3⟩, ih nd'.2 h4 e'⟩
theorem mem_erase {j : Nat} {a : Addr} (h : a ∈ dom (β.eraseIdx j)) : a ∈ dom β := by
  obtain ⟨p, h1, h2⟩ := List.mem_map.mp h
  exact List.mem_map.mpr ⟨p, List.mem_of_mem_eraseIdx h1, h2⟩
theorem erase_mem {j : Nat} {a b : Addr} {bx : Oc} (hj : β[j]? = some (b, bx)) (hne : a ≠ b) (h : a ∈ dom β) : a ∈ dom (β.eraseIdx j) := by
  obtain ⟨p, h1, h2⟩ := List.mem_map.mp h
  obtain ⟨k, hk, e⟩ := List.getElem_of_mem h1
  refine List.mem_map.mpr ⟨p, ?_, h2⟩
  rw [List.mem_eraseIdx_iff_getElem?]
  refine ⟨k, fun z => ?_, by rw [List.getElem?_eq_getElem hk, e]⟩
  subst z
  rw [List.getElem?_eq_getElem hk, e] at hj
  cases hj
  exact hne h2.symm
theorem ws_frz {i j : Nat} {b : Addr} {bx : List PyData} {t : TS} (hi : ρ[i]? = some (.raw (.ref b))) (hj : β[j]? = some (b, .lst bx)) (hb : b ∉ E.base) (h : WS K t (ρ.set i (.dat (.list bx))) (β.eraseIdx j) E) : WS K t ρ β E := fun os0 H0 os H σ D r hk hs x => by
  obtain ⟨hbo, _, hbv, vs, rfl, hd⟩ := own_get hk.own hj
  have sub : ∀ a ∈ dropA b os, a ∈ os := fun a h => (mem_dropA.mp h).1
  have hb0 : b ∉ os0 := fun z => by
    rcases r.nw b (mem_dom hj) with q | q
    · exact hb q
    · exact (r.trk b z).ne q
  have nd : (dom (β.eraseIdx j)).Nodup := by
    exact hk.nd.sublist ((List.eraseIdx_sublist _ _).map _)
  have hk2 : Hok K (dropA b os) H (β.eraseIdx j) := ⟨fun a h => hk.trk a (sub a h), nd, own_erase hk.nd hk.own hj⟩
  have hs2 : SlotsR K (Off (dropA b os) H) σ ρ := slotsR_mono (off_sub sub) hs
  have e := slot_raw hs hi
  have hs3 : SlotsR K (Off (dropA b os) H) (σ.set i (some (.ref b))) (ρ.set i (.dat (.list bx))) :=
    slotsR_set (sdat (.lst (.inl (by rw [off_out fun z => (mem_dropA.mp z).2 rfl]; exact hbv)) (dpAll_mono (off_sub sub) _ _ hd))) i hs2
  have es : σ.set i (some (.ref b)) = σ := by
    refine List.ext_getElem? fun k => ?_
    rw [List.getElem?_set]
    split
    · rename_i z
      subst z
      rw [e]
      split
      · rfl
      · rename_i z2
        have := (List.getElem?_eq_some_iff.mp e).1
        omega
    · rfl
  rw [es] at hs3
  refine h os0 H0 _ H σ D ⟨fun a h => mem_dropA.mpr ⟨r.os a h, fun z => hb0 (by rw [← z]; exact h)⟩, r.keep, fun a h => erase_mem hj (fun z => hb (by rw [← z]; exact h)) (r.dom a h), fun a h => r.nw a (mem_erase h), r.trk⟩ hk2 hs3
    (x.step fun v d hd => dp_mono (off_sub sub) _ _ hd)
end

/-! ### defs -/
def startS (N : List Str) (ds : List PyData) : List Slot := ds.map .dat ++ List.replicate (N.length - ds.length) .no
theorem slots_rep {K : PySem.W.Frag} {G : Hp} : ∀ n : Nat, SlotsR K G (List.replicate n none) (List.replicate n .no)
  | 0 => trivial
  | n + 1 => ⟨trivial, slots_rep n⟩
theorem slots_start {K : PySem.W.Frag} {G : Hp} {N : List Str} {n : Nat} : ∀ {vs : List V} {ds : List PyData}, DpAll K G vs ds → SlotsR K G (vs.map some ++ List.replicate n none) (ds.map .dat ++ List.replicate n .no)
  | _, _, .nil => slots_rep n
  | _, _, .cons a b => ⟨⟨_, rfl, a⟩, slots_start (N := N) b⟩
section
variable {P : Program} {w : World} {K : PySem.W.Frag} {mg : Str → Option Value} {base : Heap} {x qual : Str} {params : Arguments} {body : List Stmt} {scope : Scope} {dvs : List V} {kws : List (Str × V)} {f : Addr} {fd : FuncData}
/-- a def that changes nothing -/
theorem fn_pure {N ps : List Str} {k : Nat} {R : List PyData → PyData → Prop} (F : FunD K x qual params body scope dvs kws f fd) (S : FnScope N ps scope) (len : ∀ ds d, R ds d → ds.length = ps.length)
    (hbody : ∀ (cdv : Value) (A : Around) (outer : List Env) (s : Shared) (H : Hp) (E : XK), Room k (A.deeper (envOfC qual scope s.heap.objs.size f cdv)) →
      ∃ t, PSs (cxOf CXN P w K mg base N qual scope f cdv A outer s H E).nox body t ∧ ∀ ds d, R ds d → WS K t (startS N ds) [] { base := [], nx := fun _ _ => d = .none, rt := fun d' _ => d' = d }) : FnOk P w K mg base CXN (k + 1) f fd ps (spP K R) := by
  refine F.ok S (fun vs H Q E h => ?_) fun cdv A outer s H vs Q E hr h => ?_
  · obtain ⟨os, ds, d, _, hd, hR, _⟩ := h
    exact (dpAll_len hd).trans (len _ _ hR)
  obtain ⟨os, ds, d, ht, hd, hR, q⟩ := h
  obtain ⟨t, hp, hw⟩ := hbody cdv A outer s H E hr
  refine ⟨t, hp.nox, hw ds d hR os H os H (L2.start N vs) _ ⟨fun _ h => h, fun _ _ _ h => h, (fun a h => by cases h), (fun a h => by cases h), ht⟩ (Hok.no ht) ?_ ?_⟩
  · unfold L2.start startS
    rw [dpAll_len hd]
    exact slots_start (N := N) hd
  · have fin : ∀ os' v H' d' β', d' = d → Reach os [] H os' β' H' → Dp K (Off os' H') v d' → Q v H' := fun os' v H' d' β' e r hv => by
      subst e
      exact q v H' (fun a o e => r.keep a o (by simp) e) (dp_mono (off_sub r.os) _ _ hv)
    exact ⟨fun os' σ' H' ρ' β' e r _ _ _ => fin os' .non H' .none β' e.symm r .non, fun os' v H' d' β' e r _ _ hv => fin os' v H' d' β' e r hv, fun _ _ _ _ _ h => h.elim, fun _ _ _ _ _ h => h.elim⟩
/-- a def whose first argument is an owned list, which it may change -/
def spO (K : PySem.W.Frag) (Pre : List PyData → List PyData → Prop) (Post : List PyData → List PyData → PyData → List PyData → Prop) : Sp := fun vs H Q _ => ∃ (os : List Addr) (b : Addr) (ws : List V) (bx ds : List PyData),
  vs = .ref b :: ws ∧ (∀ a ∈ os, Tk H a) ∧ b ∈ os ∧ (∃ vb, H b = some (.lst vb) ∧ DpAll K (Off os H) vb bx) ∧ DpAll K (Off os H) ws ds ∧ Pre bx ds ∧
  ∀ v H' d bx', Post bx ds d bx' → (∀ a o, a ≠ b → H a = some o → H' a = some o) → (∃ vb, H' b = some (.lst vb) ∧ DpAll K (Off os H') vb bx') → Dp K (Off os H') v d → Q v H'
def startO (N : List Str) (b : Addr) (ds : List PyData) : List Slot := .raw (.ref b) :: (ds.map .dat ++ List.replicate (N.length - (ds.length + 1)) .no)
theorem fn_own {N ps : List Str} {k : Nat} {Pre : List PyData → List PyData → Prop} {Post : List PyData → List PyData → PyData → List PyData → Prop} (F : FunD K x qual params body scope dvs kws f fd) (S : FnScope N ps scope) (len : ∀ bx ds, Pre bx ds → ds.length + 1 = ps.length)
    (hbody : ∀ (cdv : Value) (A : Around) (outer : List Env) (s : Shared) (H : Hp) (E : XK), Room k (A.deeper (envOfC qual scope s.heap.objs.size f cdv)) →
      ∃ t, PSs (cxOf CXN P w K mg base N qual scope f cdv A outer s H E).nox body t ∧ ∀ b bx ds, Pre bx ds → WS K t (startO N b ds) [(b, .lst bx)]
        { base := [b], nx := fun _ β' => ∃ bx', β'[0]? = some (b, .lst bx') ∧ Post bx ds .none bx', rt := fun d β' => ∃ bx', β'[0]? = some (b, .lst bx') ∧ Post bx ds d bx' }) : FnOk P w K mg base CXN (k + 1) f fd ps (spO K Pre Post) := by
  refine F.ok S (fun vs H Q E h => ?_) fun cdv A outer s H vs Q E hr h => ?_
  · obtain ⟨os, b, ws, bx, ds, rfl, _, _, _, hd, hR, _⟩ := h
    rw [List.length_cons, dpAll_len hd]
    exact len _ _ hR
  obtain ⟨os, b, ws, bx, ds, rfl, ht, hbo, hbx, hd, hR, q⟩ := h
  obtain ⟨t, hp, hw⟩ := hbody cdv A outer s H E hr
  refine ⟨t, hp.nox, hw b bx ds hR os H os H (L2.start N (.ref b :: ws)) _ ⟨fun _ h => h, fun _ _ _ h => h, fun a h => h, fun a h => .inl h, ht⟩ ⟨ht, by simp, hbo, (by obtain ⟨vb, h1, h2⟩ := hbx; exact ⟨_, h1, vb, rfl, h2⟩), trivial⟩ ?_ ?_⟩
  · unfold L2.start startO
    rw [List.length_cons, dpAll_len hd]
    exact ⟨rfl, slots_start (N := N) hd⟩
  · have fin : ∀ os' v H' d' β', (∃ bx', β'[0]? = some (b, .lst bx') ∧ Post bx ds d' bx') → Reach os [b] H os' β' H' → Hok K os' H' β' → Dp K (Off os' H') v d' → Q v H' := fun os' v H' d' β' ⟨bx', e, hP⟩ r hk hv => by
      obtain ⟨_, _, h1, vb, rfl, h2⟩ := own_get hk.own e
      exact q v H' d' bx' hP (fun a o ha e => r.keep a o (by simpa using ha) e) ⟨vb, h1, dpAll_mono (off_sub r.os) _ _ h2⟩ (dp_mono (off_sub r.os) _ _ hv)
    exact ⟨fun os' σ' H' ρ' β' e r _ hk _ => fin os' .non H' .none β' e r hk .non, fun os' v H' d' β' e r _ hk hv => fin os' v H' d' β' e r hk hv, fun _ _ _ _ _ h => h.elim, fun _ _ _ _ _ h => h.elim⟩
/-- a def of the module that may be called -/
structure Cal (P : Program) (w : World) (K : PySem.W.Frag) (mg : Str → Option Value) (base : Heap) (x : Str) (k : Nat) (ps : List Str) (sp : Sp) : Prop where
  ex : ∃ (f : Addr) (fd : FuncData), FnOk P w K mg base CXN k f fd ps sp ∧ mg x = some (.ref f) ∧ PySem.W.keepIn K (.ref f) = true ∧ Binds K fd ps []
theorem Cal.mono {j k : Nat} {ps : List Str} {sp : Sp} (c : Cal P w K mg base x j ps sp) (h : j ≤ k) : Cal P w K mg base x k ps sp := by
  obtain ⟨f, fd, F, m, kp, b⟩ := c.ex
  exact ⟨f, fd, F.mono h, m, kp, b⟩
/-- where a def without defaults stands -/
structure Has (K : PySem.W.Frag) (mg : Str → Option Value) (x : Str) (st : Stmt) (kws : List (Str × V)) : Prop where
  ex : ∃ (f : Addr) (fd : FuncData), FunD K x x (defArgs st) (defBody st) (defScope st) [] kws f fd ∧ mg x = some (.ref f)
theorem Has.call {st : Stmt} {ps : List Str} {k : Nat} {sp : Sp} (h : Has K mg x st [])
    (hb : ∀ (kV doc pm : Value) (an : Option Addr) (cdv ct : Value) (us : List Value), us.length = ps.length → bindArgs (PySem.W.fnOf x x (defArgs st) (defBody st) (defScope st) .none kV doc pm an cdv ct) ⟨us, []⟩ = pure (ps.zip us))
    (hf : ∀ f fd, FunD K x x (defArgs st) (defBody st) (defScope st) [] [] f fd → mg x = some (.ref f) → FnOk P w K mg base CXN k f fd ps sp) : Cal P w K mg base x k ps sp := by
  obtain ⟨f, fd, F, m⟩ := h.ex
  exact ⟨f, fd, hf f fd F m, m, F.kp, F.bindsN hb⟩
end
section
variable {X : Cx} {k : Nat} {ps : List Str} {sp : Sp} {x : Str} {p pos : Pos} {e : Expr} {es : List Expr} {t : TA}
theorem pe_cal (C : Cal X.prog X.w X.K X.mg X.base x k ps sp) (hr : Room k X.A) (hg : Gl X x) (ha : PA X (e :: es) t) (hdb : (x == ("__debug__" : Str)) = false := by decide)
    (he : starEach (e :: es) X.env = (false, eval e X.env) :: starEach es X.env := by rfl) (hpl : (backTo pos (starEach es X.env)).any (·.1) = false := by rfl) : PE X (.Call (.Name x p) (e :: es) [] pos) (tCall sp [] EN t) := by
  obtain ⟨f, fd, F, m, kp, b⟩ := C.ex
  exact pe_call F hr hg m kp b .nil passN ha hdb he hpl
end
section
variable {K : PySem.W.Frag} {ρ : List Slot} {β : Bt} {P : PyData → Bt → Prop} {E : XK}
theorem we_callO {i : Nat} {b : Addr} {ta : TA} {Pre : List PyData → List PyData → Prop} {Post : List PyData → List PyData → PyData → List PyData → Prop} (hi : ρ[i]? = some (.raw (.ref b)))
    (h : WA K ta ρ β fun ds β1 => ∃ (j : Nat) (bx : List PyData), β1[j]? = some (b, .lst bx) ∧ Pre bx ds ∧ ∀ d bx', Post bx ds d bx' → P d (β1.set j (b, .lst bx'))) : WE K (tCall (spO K Pre Post) [] E (tCons (tVar i) ta)) ρ β P := fun os H σ Q hk hs q => by
  refine ⟨.ref b, slot_raw hs hi, h os H σ _ hk hs fun vs H1 ds β1 p e k hk1 dv => ?_⟩
  obtain ⟨j, bx, hj, hP, hQ⟩ := p
  obtain ⟨hbo, _, hb, vb, rfl, hd⟩ := own_get hk1.own hj
  refine ⟨os, b, vs, bx, ds, by rw [List.append_nil], hk1.trk, hbo, ⟨vb, hb, hd⟩, dv, hP, fun v H2 d bx' hPost kp new hv => ?_⟩
  have k13 := keep_trans e k (keep_one hj kp)
  exact q v H2 d _ (hQ d bx' hPost) ((dom_set hj).trans e) k13 (hok_set hk1 hj kp (by obtain ⟨vb2, h1, h2⟩ := new; exact ⟨_, h1, vb2, rfl, h2⟩)) hv
end
end DS

set_option Elab.async false
set_option linter.all false
set_option maxRecDepth 100000
set_option maxHeartbeats 4000000
/-! DS5: constants of the module, walks over lists or tuples, slices of either, a star in a target. -/
namespace DS
open PySem PySem.Spec PyProof.Rows L2
/-! ### constants of the module -/
def KC (K : PySem.W.Frag) (mg : Str → Option Value) (x : Str) (d : PyData) : Prop := ∃ (v : V) (u : Value), mg x = some u ∧ RelV v u ∧ ∀ G : Hp, Dp K G v d
def tKd (K : PySem.W.Frag) (d : PyData) : TE := fun _ H Q => ∀ v, (∀ G : Hp, Dp K G v d) → Q v H
/-- a value that is known by a property alone -/
def tRaw (p : V → Prop) : TE := fun _ H Q => ∀ v, p v → Q v H
section
variable {X : Cx}
theorem pe_K {x : Str} {d : PyData} {pos : Pos} (h : KC X.K X.mg x d) (hg : Gl X x) (hd : (x == ("__debug__" : Str)) = false := by decide) : PE X (.Name x pos) (tKd X.K d) := by
  obtain ⟨v, u, hm, r, hv⟩ := h
  exact ⟨fun pins s σ H Q I q => (pe_glob hg hm r hd).run pins s σ H Q I (q v hv)⟩
theorem pe_raw {x : Str} {p : V → Prop} {pos : Pos} (h : ∃ v u, X.mg x = some u ∧ RelV v u ∧ p v) (hg : Gl X x) (hd : (x == ("__debug__" : Str)) = false := by decide) : PE X (.Name x pos) (tRaw p) := by
  obtain ⟨v, u, hm, r, hv⟩ := h
  exact ⟨fun pins s σ H Q I q => (pe_glob hg hm r hd).run pins s σ H Q I (q v hv)⟩
end
section
variable {K : PySem.W.Frag} {ρ : List Slot} {β : Bt} {P : PyData → Bt → Prop}
theorem we_kd {d : PyData} (p : P d β) : WE K (tKd K d) ρ β P := fun os H σ Q hk hs q v hv => q v H d β p rfl (Keep.refl _ _) hk (hv _)
end

/-! ### a written dict with text keys -/
/-- v is a written dict that says look -/
def isKd (K : PySem.W.Frag) (w : World) (look : Str → Option V) (v : V) : Prop := ∃ (a : Addr) (es : Array DictEntry) (n : Nat), v = .ref a ∧ KDict K w a es n ∧
  ∀ z : Str, (look z = none → PySem.W.nsIn K a z = some none) ∧ ∀ x, look z = some x → ∃ u, PySem.W.nsIn K a z = some (some u) ∧ RelV x u
def KDt (K : PySem.W.Frag) (w : World) (mg : Str → Option Value) (x : Str) (look : Str → Option V) : Prop := ∃ v u, mg x = some u ∧ RelV v u ∧ isKd K w look v
def rInK (K : PySem.W.Frag) (w : World) (look : Str → Option V) : R2 := fun x y H Q => ∃ z, x = .str z ∧ isKd K w look y ∧ Q (.bl (look z).isSome) H
def rIxK (K : PySem.W.Frag) (w : World) (look : Str → Option V) : R2 := fun x y H Q => ∃ z v, isKd K w look x ∧ y = .str z ∧ look z = some v ∧ Q v H
section
variable {X : Cx} {look : Str → Option V}
theorem op_inK : OpR X (compareOp .In) (rInK X.K X.w look) := by
  intro pins s σ H x y v u Q I rx ry h
  obtain ⟨z, rfl, ⟨a, es, n, rfl, kd, hl⟩, q⟩ := h
  cases e : look z with
  | none =>
    rw [e] at q
    exact op_in_kd kd pins s σ H _ _ v u Q I rx ry ⟨z, none, rfl, rfl, (hl z).1 e, q⟩
  | some w =>
    rw [e] at q
    obtain ⟨u0, h1, h2⟩ := (hl z).2 w e
    exact op_in_kd kd pins s σ H _ _ v u Q I rx ry ⟨z, some u0, rfl, rfl, h1, q⟩
theorem ix_K : IxR X (rIxK X.K X.w look) := by
  intro value slice pins s σ H x y v u Q I rx ry h hs
  obtain ⟨z, r, ⟨a, es, n, rfl, kd, hl⟩, rfl, e, q⟩ := h
  obtain ⟨u0, h1, h2⟩ := (hl z).2 r e
  exact ix_kdict value slice pins s σ H _ _ v u Q I rx ry ⟨a, z, r, rfl, rfl, ⟨es, n, u0, kd.at_, kd.lit, h1, h2⟩, q⟩ hs
end
section
variable {K : PySem.W.Frag} {w : World} {look : Str → Option V} {ρ : List Slot} {β : Bt} {P : PyData → Bt → Prop} {E : Out}
theorem we_inK {ta : TE} (h : WE K ta ρ β fun x β1 => ∃ z, x = .str z ∧ P (.bool (look z).isSome) β1) : WE K (tOp (rInK K w look) ta (tRaw (isKd K w look))) ρ β P := fun os H σ Q hk hs q => by
  refine h os H σ _ hk hs fun v H1 x β1 p e k hk1 dv u hu => ?_
  obtain ⟨z, rfl, p⟩ := p
  exact ⟨z, dp_str dv, hu, q _ H1 _ β1 p e k hk1 (.bl _)⟩
theorem we_ixK {tb : TE} (h : WE K tb ρ β fun y β1 => ∃ z v d, y = .str z ∧ look z = some v ∧ (∀ G : Hp, Dp K G v d) ∧ P d β1) : WE K (tOp (rIxK K w look) (tRaw (isKd K w look)) tb) ρ β P := fun os H σ Q hk hs q v hv => by
  refine h os H σ _ hk hs fun u H1 y β1 p e k hk1 dy => ?_
  obtain ⟨z, x, d, rfl, hl, hd, p⟩ := p
  exact ⟨z, x, hv, dp_str dy, hl, q x H1 d β1 p e k hk1 (hd _)⟩
/-- x = D[k], whatever stands there -/
theorem ws_setK {tb : TE} {i : Nat} (h : WE K tb ρ β fun y β1 => ∃ z v, y = .str z ∧ look z = some v ∧ E.nx (ρ.set i (.raw v)) β1) : WS K (tAsg (tOp (rIxK K w look) (tRaw (isKd K w look)) tb) (gName i)) ρ β E := fun os0 H0 os H σ D r hk hs x v hv => by
  refine h os H σ _ hk hs fun u H1 y β1 p e k hk1 dy => ?_
  obtain ⟨z, v2, rfl, hl, p⟩ := p
  exact ⟨z, v2, hv, dp_str dy, hl, x.nx os _ H1 _ β1 p (r.step e k) (DK.of hk k) hk1 (slotsR_set (s := .raw v2) rfl i (slots_keep hk k hs))⟩
end

/-! ### walks over a list or a tuple -/
def iX (K : PySem.W.Frag) (tl : TE) : TI := fun σ H R => tl σ H fun x H1 => ∃ a, x = .ref a ∧ (((∃ xs, SqL K H1 a xs) ∧ R (Itl K a) H1) ∨ ((∃ xs, SqT K H1 a xs) ∧ R (Itt K a) H1))
section
variable {X : Cx} {tg : Expr}
theorem pi_X {l : Expr} {tl : TE} (hl : PE X l tl) : PI X tg l (iX X.K tl) := by
  refine ⟨fun pins s σ H R I h => ?_⟩
  refine thn (hl.run pins s σ H _ I h) fun v s1 ⟨x, H1, I1, r1, q1⟩ => ?_
  obtain ⟨a, e, q1⟩ := q1
  subst e
  cases r1
  rcases q1 with ⟨⟨xs, hq⟩, q⟩ | ⟨⟨xs, hq⟩, q⟩
  · obtain ⟨its, rv, p, hz⟩ := I1.list hq
    refine wpAny_pyIter_list p.isList ?_
    refine ⟨s1.heap.objs.size, [s1.heap.objs.size], _, _, H1, rfl, I1.kept (t' := s1.toks) fun b o e => Heap.get?_push_of_some _ e, turn_list a _, ⟨_, Heap.get?_push_size _ rfl, rfl, rfl⟩, fun b hb => ?_, q⟩
    have e : b = s1.heap.objs.size := by simpa using hb
    subst e
    exact I1.fpOk (Nat.le_refl _) (I1.hok.fresh (Nat.le_refl _))
  · obtain ⟨its, rv, p, hz⟩ := I1.tuple hq
    refine wpAny_pyIter_tuple (show s1.heap.IsTuple a its.toArray from p) ?_
    refine ⟨s1.heap.objs.size, [s1.heap.objs.size], _, _, H1, rfl, I1.kept (t' := s1.toks) fun b o e => Heap.get?_push_of_some _ e, turn_tuple a _, ⟨_, Heap.get?_push_size _ rfl, rfl, rfl⟩, fun b hb => ?_, q⟩
    have e : b = s1.heap.objs.size := by simpa using hb
    subst e
    exact I1.fpOk (Nat.le_refl _) (I1.hok.fresh (Nat.le_refl _))
end
section
variable {K : PySem.W.Frag} {ρ : List Slot} {β : Bt} {PL : List PyData → Bt → Prop}
theorem wi_X {te : TE} (h : WE K te ρ β fun d β1 => ∃ ds, (d = .list ds ∨ d = .tuple ds) ∧ PL ds β1) : WI K (iX K te) ρ β PL := fun os H σ R hk hs q => by
  refine h os H σ _ hk hs fun v H1 d β1 p e k hk1 dv => ?_
  obtain ⟨ds, hd, p⟩ := p
  rcases hd with rfl | rfl
  · obtain ⟨a, vs, rfl, h1, h2⟩ := dp_lst dv
    exact ⟨a, rfl, .inl ⟨⟨vs, (off_le os H1).seq h1⟩, q _ H1 ds [(.ref a, .list ds)] β1 p e k hk1 itd_list fun z hz => by simp at hz; rw [hz]; exact dv⟩⟩
  · obtain ⟨a, vs, rfl, h1, h2⟩ := dp_tup dv
    exact ⟨a, rfl, .inr ⟨⟨vs, same_seqT (off_le os H1) h1⟩, q _ H1 ds [(.ref a, .tuple ds)] β1 p e k hk1 itd_tup fun z hz => by simp at hz; rw [hz]; exact dv⟩⟩
/-! ### slices of lists, tuples -/
def rSlX (K : PySem.W.Frag) : V → Option Int → Option Int → Hp → VK → Prop := fun x lo hi H Q => rSlT K x lo hi H Q ∨ rSlL K x lo hi H Q
theorem sl_X {X : Cx} : SlR X (rSlX X.K) := sl_tup.or sl_list
theorem rs_XL {ds : List PyData} {lo hi : Option Int} : RSD K (rSlX K) (.list ds) lo hi (.list (cutD ds lo hi)) := fun os H v Q ht hv q => .inr (rs_list os H v Q ht hv q)
theorem rs_XT {ds : List PyData} {lo hi : Option Int} (hw : ¬ (HT.sIx ds.length 0 lo = 0 ∧ HT.sIx ds.length ds.length hi = ds.length)) : RSD K (rSlX K) (.tuple ds) lo hi (.tuple (cutD ds lo hi)) := fun os H v Q ht hv q => .inl (rs_tup hw os H v Q ht hv q)
theorem cut_one {ds : List PyData} : cutD ds (some 1) none = ds.drop 1 := by
  unfold cutD
  rw [show HT.sIx ds.length 0 (some 1) = min 1 ds.length from HT.sIx_nat ds.length 0 1, HT.sIx_none]
  cases ds with
  | nil => rfl
  | cons x r =>
    rw [show min 1 (x :: r).length = 1 by rw [List.length_cons]; omega]
    show (List.take ((x :: r).length - 1) r) = r
    rw [List.length_cons, Nat.add_sub_cancel]
    exact List.take_length
theorem rs_tail {x : PyData} {r : List PyData} : RSD K (rSlX K) (.tuple (x :: r)) (some 1) none (.tuple r) := by
  have h := rs_XT (K := K) (ds := x :: r) (lo := some 1) (hi := none) (fun z => by
    have := z.1
    rw [show HT.sIx (x :: r).length 0 (some 1) = min 1 (x :: r).length from HT.sIx_nat _ 0 1, List.length_cons] at this
    omega)
  rw [cut_one] at h
  exact h
/-! ### first, *rest = a tuple -/
def gStar (K : PySem.W.Frag) (g1 g2 : TG) : TG := fun v σ H Q => ∃ a x xs, v = .ref a ∧ SqT K H a (x :: xs) ∧ xs.length ≤ 16000 ∧ ∀ D, H D = none → g1 x σ (upd H D (.lst xs)) fun σ1 H1 => g2 (.ref D) σ1 H1 Q
end
section
variable {prog : Program} {w : World} {A : Around} {E : Value → Shared → Prop} {s : Shared}
theorem star_items {l : Addr} {items : Array Value} {x : Value} {xs : List Value} {Q : List Value → Shared → Prop} (hl : IsTup s.heap l items) (hh : A.handled = none) (hx : items.toList = x :: xs) (hz : items.size ≤ 16384)
    (h : ∀ h' tk, Heap.ExtBut s.heap.objs.size s.heap h' → Q [x, .ref h'.objs.size] { s with heap := h'.push { cls := .type "list", data := .seq xs.toArray }, toks := tk }) : wpAny (model prog w) A (unpackItems (.ref l) 2 (some 1)) Q E s := by
  have hlt : l ≠ s.heap.objs.size := by obtain ⟨o, ho, _⟩ := hl; exact Nat.ne_of_lt (Heap.lt_size ho)
  have hll : l < s.heap.objs.size := by obtain ⟨o, ho, _⟩ := hl; exact Heap.lt_size ho
  have hsz : items.size = xs.length + 1 := by rw [← Array.length_toList, hx, List.length_cons]
  unfold unpackItems
  refine wpAny_bind ?_
  unfold notIterableAtAll
  refine wpAny_bind (wpAny_specialOf hl.typeIs slot_tuple_iter.lookup ?_)
  refine wpAny_pure ?_
  simp only [Bool.false_eq_true, if_false]
  refine wpAny_bind (wpAny_holding (iter_tuple hl ?_))
  refine wpAny_bind (wpAny_holding (draw_tuple hlt 1 0 _ _ ⟨_, Heap.get?_push_size _ rfl, rfl, rfl⟩ (hl.push _) (by omega) fun h₁ hit₁ hs₁ => ?_))
  have hl₁ : IsTup h₁ l items := (hl.push _).extBut hs₁.extBut hlt
  rw [Nat.zero_add] at hit₁
  have hit₁' := hit₁
  obtain ⟨oi, hoi, _⟩ := hit₁'
  have hl₁' := hl₁
  obtain ⟨ol, hol, _⟩ := hl₁'
  rw [List.drop_zero, hx]
  refine wpAny_bind (wpAny_holding (PySem.W.kun_collect (s := { s with heap := h₁ }) (T := "tuple_iterator") (.inr (.inr (.inr rfl))) (Walks.tuple (A := A.in1) hh s.heap.objs.size l hlt items) (fun j u st => st.1.typeIs) (k := 1) (by omega) ⟨hit₁, hl₁⟩ (Heap.lt_size hoi) (Heap.lt_size hol) (fun h₂ tk hk => ?_) (by rw [sizeLine_eq]; omega)))
  rw [hx]
  show wpAny _ _ (newList (xs.take (xs.length - 0)) >>= fun d => pure ([x] ++ [d] ++ xs.drop (xs.length - 0))) _ _ _
  rw [Nat.sub_zero, List.take_length, List.drop_length]
  have he : Heap.ExtBut s.heap.objs.size s.heap h₂ := fun b o hb e => hk b o hb (hs₁.extBut b o hb (Heap.get?_push_of_some _ e))
  unfold newList
  exact wpAny_bind (wpAny_newObj_type (s := { s with heap := h₂, toks := tk }) (wpAny_pure (h h₂ tk he)) (by show xs.toArray.size ≤ _; rw [List.size_toArray, sizeLine_eq]; omega))
end
section
variable {X : Cx} {pos : Pos}
theorem pg_star {e1 e2 : Expr} {p2 : Pos} {k : Nat} {g1 g2 : TG} (hc : X.calm = true) (h1 : PG X e1 g1) (h2 : PG X e2 g2)
    (hs : assignEach [e1, .Starred e2 p2] X.env = [(false, assign e1 X.env), (true, assign e2 X.env)] := by rfl) : PG X (.Tuple [e1, .Starred e2 p2] k pos) (gStar X.K g1 g2) := by
  refine ⟨fun pins s σ H v u Q I r hw => ?_⟩
  obtain ⟨a, x, xs, e, hq, hz, hw⟩ := hw
  subst e
  cases r
  obtain ⟨its, rv, ht, hz2⟩ := I.tuple hq
  cases rv with
  | @cons _ ux _ uxs rx rxs =>
    have hl := rxs.length
    rw [PyProof.Rows.assign_Tuple]
    refine wpAny_bind (wpAny_standAt ?_)
    unfold unpack
    rw [hs]
    refine wpAny_bind (wpAny_holding (star_items ht (I.ok.hd hc) (x := ux) (xs := uxs) rfl (by simp; omega) fun h' tk he => ?_))
    have I1 : Inv X pins σ H { s with heap := h', toks := tk } := I.kept fun b o eb => he b o (Nat.ne_of_lt (Heap.lt_size eb)) eb
    have hf : H h'.objs.size = none := I1.hok.fresh (Nat.le_refl _)
    have I2 : Inv X pins σ (upd H h'.objs.size (.lst xs)) { s with heap := h'.push { cls := .type "list", data := .seq uxs.toArray }, toks := tk } :=
      I1.lnew (t' := tk) rxs (by rw [sizeLine_eq]; omega)
    show wpAny _ X.A (assignInOrder [assign e1 X.env, assign e2 X.env] [ux, .ref h'.objs.size]) _ _ _
    refine assignInOrder_cons (thn (h1.run pins _ σ _ x ux _ I2 rx (hw _ hf)) fun _ s1 ⟨σ1, H1, I3, q1⟩ => ?_)
    refine assignInOrder_cons (thn (h2.run pins s1 σ1 H1 (.ref h'.objs.size) _ _ I3 rfl q1) fun _ s2 ⟨σ2, H2, I4, q2⟩ => ?_)
    exact assignInOrder_nil ⟨σ2, H2, I4, q2⟩
end
section
variable {K : PySem.W.Frag} {ρ : List Slot} {β : Bt} {E : Out}
/-- x, *y = a tuple: two names -/
theorem ws_star {te : TE} {i j : Nat} (h : WE K te ρ β fun d β1 => ∃ x xs, d = .tuple (x :: xs) ∧ xs.length ≤ 16000 ∧ E.nx ((ρ.set i (.dat x)).set j (.dat (.list xs))) β1) : WS K (tAsg te (gStar K (gName i) (gName j))) ρ β E := fun os0 H0 os H σ D r hk hs x => by
  refine h os H σ _ hk hs fun v H1 d β1 p e k hk1 dv => ?_
  obtain ⟨y, ys, rfl, hz, p⟩ := p
  obtain ⟨a, vs, rfl, h1, h2⟩ := dp_tup dv
  cases h2 with
  | @cons _ vt _ _ d1 d2 =>
    refine ⟨a, _, _, rfl, same_seqT (off_le os H1) h1, by rw [dpAll_len d2]; exact hz, fun Dn hD => ?_⟩
    have s := same_new (o := .lst vt) hD
    have k2 := keep_trans e k (Keep.same s)
    exact x.nx os _ _ _ β1 p (r.step e k2) (DK.of hk k2) (hk1.mono s) (slotsR_set (sdat (.lst (.inl (off_upd (new_out hk1 hD))) (dpAll_mono (off_same s) _ _ d2))) j (slotsR_set (sdat (dp_mono (off_same s) _ _ d1)) i (slots_keep hk k2 hs)))
end
/-! ### the rules once more, the written part by its own name -/
section
variable {X : Cx} {K : PySem.W.Frag} {w : World}
theorem op_addXK (h : X.K = K) : OpR X (binaryOp .Add) (rAddX K) := by subst h; exact op_addX
theorem op_eqXK (h : X.K = K) (hu : X.A.units + 64 < cLine) : OpR X (compareOp .Eq) (rEqX K) := by subst h; exact op_eqX hu
theorem op_neXK (h : X.K = K) (hu : X.A.units + 64 < cLine) : OpR X (compareOp .NotEq) (rNeX K) := by subst h; exact op_neX hu
theorem op_inSK (h : X.K = K) : OpR X (compareOp .In) (rIn K false) := by subst h; exact op_in_seq
theorem op_ninSK (h : X.K = K) : OpR X (compareOp .NotIn) (rIn K true) := by subst h; exact op_notIn_seq
theorem op_inDK (h : X.K = K) (hu : X.A.units + 65 < cLine) : OpR X (compareOp .In) (rInD K) := by subst h; exact op_inD hu
theorem op_inKK {look : Str → Option V} (h : X.K = K) (hw : X.w = w) : OpR X (compareOp .In) (rInK K w look) := by subst h hw; exact op_inK
theorem ix_XK (h : X.K = K) : IxR X (rIxX K) := by subst h; exact ix_X
theorem ix_KK {look : Str → Option V} (h : X.K = K) (hw : X.w = w) : IxR X (rIxK K w look) := by subst h hw; exact ix_K
theorem sl_XK (h : X.K = K) : SlR X (rSlX K) := by subst h; exact sl_X
theorem call_isiXK (h : X.K = K) : CallR X (.builtin "isinstance") (rIsiZ K) := by subst h; exact call_isiZ
theorem call_isiTK (h : X.K = K) : CallR X (.builtin "isinstance") (rIsiTZ K) := by subst h; exact call_isiTZ
theorem call_lenXK (h : X.K = K) : CallR X (.builtin "len") (rLenX K) := by subst h; exact call_lenX
theorem call_listXK (h : X.K = K) : CallR X (.type "list") (rListOf K) := by subst h; exact call_listX
theorem call_tupXK (h : X.K = K) : CallR X (.type "tuple") (rTupOf K) := by subst h; exact call_tupX
theorem cr_sumK (h : X.K = K) (hc : X.calm = true) : CallR X (.builtin "sum") (rSum K) := by subst h; exact cr_sum hc
theorem cr_allK (h : X.K = K) (hc : X.calm = true) : CallR X (.builtin "all") (rAll K) := by subst h; exact cr_all hc
theorem pi_XK {tg l : Expr} {tl : TE} (h : X.K = K) (hl : PE X l tl) : PI X tg l (iX K tl) := by subst h; exact pi_X hl
theorem pe_KK {x : Str} {d : PyData} {pos : Pos} (h : X.K = K) (hc : KC K X.mg x d) (hg : Gl X x) (hd : (x == ("__debug__" : Str)) = false := by decide) : PE X (.Name x pos) (tKd K d) := by subst h; exact pe_K hc hg hd
theorem pg_tupK {es : List Expr} {k : Nat} {pos : Pos} {t : TGs} {n : Nat} (hK : X.K = K) (hc : X.calm = true) (h : PGs X es t)
    (hn : (assignEach es X.env).length = n := by rfl) (hst : (assignEach es X.env).findIdx? (·.1) = none := by rfl) : PG X (.Tuple es k pos) (gTup K n t) := by subst hK; exact pg_tup hc h hn hst
theorem pg_starK {e1 e2 : Expr} {p2 pos : Pos} {k : Nat} {g1 g2 : TG} (hK : X.K = K) (hc : X.calm = true) (h1 : PG X e1 g1) (h2 : PG X e2 g2)
    (hs : assignEach [e1, .Starred e2 p2] X.env = [(false, assign e1 X.env), (true, assign e2 X.env)] := by rfl) : PG X (.Tuple [e1, .Starred e2 p2] k pos) (gStar K g1 g2) := by subst hK; exact pg_star hc h1 h2 hs
theorem pe_ty (n : String) {x : Str} {pos : Pos} (hg : Gl X x) (hm : X.mg x = none) (hv : bootBuiltins x = some (.type n)) (hn : x ≠ "__name__" := by decide) (hd : (x == ("__debug__" : Str)) = false := by decide) : PE X (.Name x pos) (tC (.ty n)) :=
  pe_bltn (v := .ty n) (u := .type n) hg hm hv rfl hn hd
end
end DS

set_option Elab.async false
set_option linter.all false
set_option maxRecDepth 100000
set_option maxHeartbeats 4000000
/-! DS6: comprehensions that change nothing; calls with keywords. -/
namespace DS
open PySem PySem.Spec PyProof.Rows L2
theorem lenOk {n : Nat} (h : Nat.ble n 100000 = true) : n ≤ sizeLine := Nat.le_trans (Nat.le_of_ble_eq_true h) (by decide)
section
variable {K : PySem.W.Frag} {ρ : List Slot} {β : Bt} {P : PyData → Bt → Prop}
/-- a seam: what holds behind t is enough for u -/
theorem ws_cut {t u : TS} {E : Out} (N : List Slot → Bt → Prop) (h : WS K t ρ β { E with nx := N }) (h2 : ∀ ρ' β', N ρ' β' → WS K u ρ' β' E) : WS K (tSeq t u) ρ β E :=
  ws_seq fun os0 H0 os H σ D r hk hs x => h os0 H0 os H σ D r hk hs ⟨fun os' σ' H' ρ' β' p => x.nx os' σ' H' ρ' β' (h2 ρ' β' p), x.rt, x.bk, x.ct⟩
theorem wt_yes {P : Bool → Bt → Prop} (h : P true β) : WT K tYes ρ β P := fun os H σ Q hk hs q => q true H β h rfl (Keep.refl _ _) hk
/-- [f(d) for d in ds], nothing changed -/
theorem we_lc_map {wi : TI} {g : TG} {te : TE} {vs tg : List Nat} (f : PyData → PyData) (htg : ∀ i ∈ tg, i ∈ vs)
    (h : WI K wi ρ β fun ds β1 => ds.length ≤ sizeLine ∧ (∀ d ∈ ds, WGc K g tg d (wipeS ρ vs) fun ρ2 => WE K te ρ2 β1 fun y β2 => y = f d ∧ β2 = β1) ∧ P (.list (ds.map f)) β1) : WE K (tLc wi g tYes te vs) ρ β P := by
  refine we_lc htg fun os H σ R hk hs q => h os H σ R hk hs fun J H2 ds src β2 p e k hk2 itd hsrc => q J H2 ds src β2 ?_ e k hk2 itd hsrc
  obtain ⟨hl, hstep, hend⟩ := p
  refine ⟨fun i acc β' => acc = (ds.take i).map f ∧ β' = β2, ⟨rfl, rfl⟩, fun i d acc β' hd ⟨h1, h2⟩ _ => ?_, hl, fun acc β' ⟨h1, h2⟩ _ => ?_⟩
  · subst h1 h2
    refine fun os H σ v Q hs hv q => hstep d (List.mem_of_getElem? hd) os H σ v Q hs hv fun σ' ρ' p hs' st => q σ' ρ' (wt_yes ⟨fun _ => p.mono ?_, fun z => nomatch z⟩) hs' st
    rintro y β3 ⟨rfl, rfl⟩
    refine ⟨?_, rfl⟩
    rw [List.take_add_one, hd, List.map_append]
    rfl
  · subst h1 h2
    rw [List.take_length]
    exact hend
/-- [f(d) for d in ds if c(d)], nothing changed -/
theorem we_lc_if {wi : TI} {g : TG} {tt : TT} {te : TE} {vs tg : List Nat} (c : PyData → Bool) (f : PyData → PyData) (htg : ∀ i ∈ tg, i ∈ vs)
    (h : WI K wi ρ β fun ds β1 => ds.length ≤ sizeLine ∧ (∀ d ∈ ds, WGc K g tg d (wipeS ρ vs) fun ρ2 => WT K tt ρ2 β1 fun b β2 => b = c d ∧ β2 = β1 ∧ (b = true → WE K te ρ2 β2 fun y β3 => y = f d ∧ β3 = β1)) ∧ P (.list ((ds.filter c).map f)) β1) : WE K (tLc wi g tt te vs) ρ β P := by
  refine we_lc htg fun os H σ R hk hs q => h os H σ R hk hs fun J H2 ds src β2 p e k hk2 itd hsrc => q J H2 ds src β2 ?_ e k hk2 itd hsrc
  obtain ⟨hl, hstep, hend⟩ := p
  refine ⟨fun i acc β' => acc = ((ds.take i).filter c).map f ∧ β' = β2, ⟨rfl, rfl⟩, fun i d acc β' hd ⟨h1, h2⟩ _ => ?_, hl, fun acc β' ⟨h1, h2⟩ _ => ?_⟩
  · subst h1 h2
    refine fun os H σ v Q hs hv q => hstep d (List.mem_of_getElem? hd) os H σ v Q hs hv fun σ' ρ' p hs' st => q σ' ρ' (p.mono ?_) hs' st
    rintro b β3 ⟨hb, rfl, hE⟩
    refine ⟨fun z => (hE z).mono ?_, fun z => ⟨?_, rfl⟩⟩
    · rintro y β4 ⟨rfl, rfl⟩
      refine ⟨?_, rfl⟩
      rw [List.take_add_one, hd, List.filter_append, List.map_append]
      simp [show c d = true by rw [← hb]; exact z]
    · rw [List.take_add_one, hd, List.filter_append, List.map_append]
      simp [show c d = false by rw [← hb]; exact z]
  · subst h1 h2
    rw [List.take_length]
    exact hend
end
/-! ### calls with keywords: n positional values, then the keywords ks; what is bound: all of them in a row, or (rev) the keywords from behind -/
def bnd {α : Type} (rev : Bool) (us ws : List α) : List α := if rev then ws.reverse else us ++ ws
structure CalK (P : Program) (w : World) (K : PySem.W.Frag) (mg : Str → Option Value) (base : Heap) (x : Str) (k : Nat) (ps : List Str) (n : Nat) (ks : List Str) (rev : Bool) (sp : Sp) : Prop where
  ex : ∃ (f : Addr) (fd : FuncData), FnOk P w K mg base CXN k f fd ps sp ∧ mg x = some (.ref f) ∧ PySem.W.keepIn K (.ref f) = true ∧ KBn K fd ps n ks (bnd rev) (bnd rev)
theorem CalK.mono {P : Program} {w : World} {K : PySem.W.Frag} {mg : Str → Option Value} {base : Heap} {x : Str} {j k : Nat} {ps : List Str} {n : Nat} {ks : List Str} {rev : Bool} {sp : Sp} (c : CalK P w K mg base x j ps n ks rev sp) (h : j ≤ k) : CalK P w K mg base x k ps n ks rev sp := by
  obtain ⟨f, fd, F, m, kp, b⟩ := c.ex
  exact ⟨f, fd, F.mono h, m, kp, b⟩
theorem vals_rev : ∀ {vs : List V} {us : List Value}, Vals vs us → Vals vs.reverse us.reverse
  | _, _, .nil => .nil
  | _, _, .cons r t => by rw [List.reverse_cons, List.reverse_cons]; exact (vals_rev t).append (.cons r .nil)
theorem dpAll_rev {K : PySem.W.Frag} {H : Hp} : ∀ {vs : List V} {ds : List PyData}, DpAll K H vs ds → DpAll K H vs.reverse ds.reverse
  | _, _, .nil => .nil
  | _, _, .cons r t => by rw [List.reverse_cons, List.reverse_cons]; exact dpAll_append (dpAll_rev t) (.cons r .nil)
theorem bnd_vals {rev : Bool} {vs : List V} {us : List Value} {zs : List V} {ws : List Value} (r : Vals vs us) (q : Vals zs ws) : Vals (bnd rev vs zs) (bnd rev us ws) := by
  unfold bnd
  cases rev with
  | true => exact vals_rev q
  | false => exact r.append q
theorem bnd_dp {K : PySem.W.Frag} {H : Hp} {rev : Bool} {vs : List V} {us : List PyData} {zs : List V} {ws : List PyData} (r : DpAll K H vs us) (q : DpAll K H zs ws) : DpAll K H (bnd rev vs zs) (bnd rev us ws) := by
  unfold bnd
  cases rev with
  | true => exact dpAll_rev q
  | false => exact dpAll_append r q
theorem Has.callK {P : Program} {w : World} {K : PySem.W.Frag} {mg : Str → Option Value} {base : Heap} {x : Str} {st : Stmt} {kws : List (Str × V)} {ps : List Str} {k n : Nat} {ks : List Str} {rev : Bool} {sp : Sp} (h : Has K mg x st kws)
    (hb : ∀ (kV doc pm : Value) (an : Option Addr) (cdv ct : Value) (us ws : List Value), us.length = n → ws.length = ks.length → bindArgs (PySem.W.fnOf x x (defArgs st) (defBody st) (defScope st) .none kV doc pm an cdv ct) ⟨us, ks.zip ws⟩ = pure (ps.zip (bnd rev us ws)))
    (hf : ∀ f fd, FunD K x x (defArgs st) (defBody st) (defScope st) [] kws f fd → mg x = some (.ref f) → FnOk P w K mg base CXN k f fd ps sp) : CalK P w K mg base x k ps n ks rev sp := by
  obtain ⟨f, fd, F, m⟩ := h.ex
  refine ⟨f, fd, hf f fd F m, m, F.kp, ?_⟩
  obtain ⟨oc, od, dV, kV, doc, pm, an, cdv, ct, osl, rfl, lk, hcd, hD, hK⟩ := F.ex
  rcases hD with ⟨_, rfl⟩ | ⟨e, _⟩
  · exact ⟨fun s us ws _ l1 l2 => .of_eq (hb kV doc pm an cdv ct us ws l1 l2), fun r q => bnd_vals r q⟩
  · exact absurd rfl e
def tCalK (n m : Nat) (rev : Bool) (sp : Sp) (t tk : TA) : TE := fun σ H Q => t σ H fun vs H1 => tk σ H1 fun zs H2 => vs.length = n ∧ zs.length = m ∧ sp (bnd rev vs zs) H2 Q EN
section
variable {X : Cx} {k n : Nat} {ps ks : List Str} {rev : Bool} {sp : Sp} {x : Str} {p pos : Pos} {e : Expr} {es : List Expr} {kws : List Keyword} {t tk : TA}
theorem pe_calK (C : CalK X.prog X.w X.K X.mg X.base x k ps n ks rev sp) (hr : Room k X.A) (hg : Gl X x) (ha : PA X (e :: es) t) (hkw : PK X kws tk)
    (hall : (backToKw pos (keywordEach kws X.env)).all (·.1.isSome) = true := by rfl) (hks : (backToKw pos (keywordEach kws X.env)).filterMap (·.1) = ks := by rfl)
    (hdb : (x == ("__debug__" : Str)) = false := by decide) (he : starEach (e :: es) X.env = (false, eval e X.env) :: starEach es X.env := by rfl)
    (hpl : ((backTo pos (starEach (e :: es) X.env)).any (·.1) || (backToKw pos (keywordEach kws X.env)).any (·.1.isNone)) = false := by rfl) : PE X (.Call (.Name x p) (e :: es) kws pos) (tCalK n ks.length rev sp t tk) := by
  obtain ⟨f, fd, F, m, kp, b⟩ := C.ex
  exact pe_callN F hr hg m kp b passN ha hkw hall hks hdb he hpl
theorem pe_calK0 (C : CalK X.prog X.w X.K X.mg X.base x k ps 0 ks rev sp) (hr : Room k X.A) (hg : Gl X x) (hkw : PK X kws tk)
    (hall : (backToKw pos (keywordEach kws X.env)).all (·.1.isSome) = true := by rfl) (hks : (backToKw pos (keywordEach kws X.env)).filterMap (·.1) = ks := by rfl)
    (hdb : (x == ("__debug__" : Str)) = false := by decide) (hpl : ((backTo pos (starEach [] X.env)).any (·.1) || (backToKw pos (keywordEach kws X.env)).any (·.1.isNone)) = false := by rfl) :
    PE X (.Call (.Name x p) [] kws pos) (tCalK 0 ks.length rev sp tNil tk) := by
  obtain ⟨f, fd, F, m, kp, b⟩ := C.ex
  refine ⟨fun pins s σ H Q I h => ?_⟩
  refine wpAny_Call_Name_kw (ld_glob I hg m ?_ hdb)
  refine PySem.W.callWith_KW0 (h₀ := X.base) I.ok.mod.kin kp hall (thn (hkw.run pos pins s σ H _ I h) fun ws s2 ⟨zs, H2, I2, rz, l1, l2, q2⟩ => ⟨I2.kIn, ?_⟩) hpl
  rw [hks]
  exact run_fnN F hr b passN I2 .nil rz l1 l2 q2
end
section
variable {K : PySem.W.Frag} {ρ : List Slot} {β : Bt} {P : PyData → Bt → Prop}
theorem we_callK {n m : Nat} {rev : Bool} {R : List PyData → PyData → Prop} {ta tk : TA} (h : WA K ta ρ β fun xs β1 => xs.length = n ∧ WA K tk ρ β1 fun zs β2 => zs.length = m ∧ ∃ z, R (bnd rev xs zs) z ∧ P z β2) : WE K (tCalK n m rev (spP K R) ta tk) ρ β P := fun os H σ Q hk hs q => by
  refine h os H σ _ hk hs fun vs H1 xs β1 p e k hk1 d1 => ?_
  obtain ⟨l1, p⟩ := p
  refine p os H1 σ _ hk1 (slots_keep hk k hs) fun zv H2 zs β2 p2 e2 k2 hk2 d2 => ?_
  obtain ⟨l2, z, hr, p⟩ := p2
  have e12 := e2.trans e
  have k12 := keep_trans e k k2
  exact ⟨(dpAll_len d1).trans l1, (dpAll_len d2).trans l2, os, _, z, hk2.trk, bnd_dp (dpAll_keep hk1 k2 d1) d2, hr, fun w H3 s dw => q w H3 z β2 p e12 (keep_trans e12 k12 (Keep.same s)) (hk2.mono s) dw⟩
end
end DS

set_option Elab.async false
set_option linter.all false
set_option maxRecDepth 100000
set_option maxHeartbeats 4000000
/-! DS7: owned dicts. -/
namespace DS
open PySem PySem.Spec PyProof.Rows L2
def valP (kvs : List (Key × PyData)) (k : Key) : Option PyData := (kvs.find? fun kv => decide (kv.1 = k)).map (·.2)
def putP (kvs : List (Key × PyData)) (k : Key) (v : PyData) : List (Key × PyData) :=
  if (kvs.any fun kv => decide (kv.1 = k)) = true then kvs.map (fun kv => if kv.1 = k then (kv.1, v) else kv) else kvs ++ [(k, v)]
def mergeP (kvs more : List (Key × PyData)) : List (Key × PyData) := more.foldl (fun acc kv => putP acc kv.1 kv.2) kvs
section
variable {K : PySem.W.Frag} {G : Hp}
theorem kv_len : ∀ {kv : List (Key × V)} {kvs : List (Key × PyData)}, KvAll K G kv kvs → kv.length = kvs.length
  | _, _, .nil => rfl
  | _, _, .cons _ t => by rw [List.length_cons, List.length_cons, kv_len t]
theorem kv_val {k : Key} {d : PyData} : ∀ {kv : List (Key × V)} {kvs : List (Key × PyData)}, KvAll K G kv kvs → valP kvs k = some d → ∃ v, valV kv k = some v ∧ Dp K G v d
  | _, _, .nil, h => by cases h
  | (k1, v1) :: kv, (k2, d2) :: kvs, .cons r t, h => by
    obtain ⟨e, hd⟩ := r
    simp only at e
    subst e
    by_cases z : k1 = k
    · have h2 : valP ((k1, d2) :: kvs) k = some d2 := by simp [valP, List.find?_cons, z]
      rw [h2] at h
      cases h
      exact ⟨v1, valV_pos z, hd⟩
    · have h2 : valP ((k1, d2) :: kvs) k = valP kvs k := by simp [valP, List.find?_cons, z]
      rw [h2] at h
      obtain ⟨v, e1, e2⟩ := kv_val t h
      exact ⟨v, by rw [valV_neg z]; exact e1, e2⟩
theorem kv_any {k : Key} : ∀ {kv : List (Key × V)} {kvs : List (Key × PyData)}, KvAll K G kv kvs → (kv.any fun p => decide (p.1 = k)) = (kvs.any fun p => decide (p.1 = k))
  | _, _, .nil => rfl
  | _, _, .cons r t => by rw [List.any_cons, List.any_cons, r.1, kv_any t]
theorem kv_map {k : Key} {v : V} {d : PyData} (hv : Dp K G v d) : ∀ {kv : List (Key × V)} {kvs : List (Key × PyData)}, KvAll K G kv kvs → KvAll K G (kv.map fun p => if p.1 = k then (p.1, v) else p) (kvs.map fun p => if p.1 = k then (p.1, d) else p)
  | _, _, .nil => .nil
  | _, _, .cons r t => by
    refine .cons ?_ (kv_map hv t)
    obtain ⟨e, hd⟩ := r
    show (if _ then _ else _ : Key × V).1 = (if _ then _ else _ : Key × PyData).1 ∧ Dp K G (if _ then _ else _ : Key × V).2 (if _ then _ else _ : Key × PyData).2
    rw [e]
    split
    · exact ⟨rfl, hv⟩
    · exact ⟨e, hd⟩
theorem kv_app : ∀ {kv kw : List (Key × V)} {kvs kws : List (Key × PyData)}, KvAll K G kv kvs → KvAll K G kw kws → KvAll K G (kv ++ kw) (kvs ++ kws)
  | _, _, _, _, .nil, h => h
  | _, _, _, _, .cons r t, h => .cons r (kv_app t h)
theorem kv_put {k : Key} {v : V} {d : PyData} {kv : List (Key × V)} {kvs : List (Key × PyData)} (h : KvAll K G kv kvs) (hv : Dp K G v d) : KvAll K G (putK kv k v) (putP kvs k d) := by
  unfold putK putP
  rw [kv_any h]
  split
  · exact kv_map hv h
  · exact kv_app h (.cons ⟨rfl, hv⟩ .nil)
theorem kv_merge : ∀ {more : List (Key × V)} {moreP : List (Key × PyData)} {kv : List (Key × V)} {kvs : List (Key × PyData)}, KvAll K G more moreP → KvAll K G kv kvs → KvAll K G (mergeK kv more) (mergeP kvs moreP)
  | _, _, _, _, .nil, h => h
  | (k1, v1) :: more, (k2, d2) :: moreP, kv, kvs, .cons r t, h => by
    obtain ⟨e, hd⟩ := r
    simp only at e
    subst e
    have ih := kv_merge (kv := putK kv k1 v1) (kvs := putP kvs k1 d2) t (kv_put h hd)
    exact ih
/-- pairs as data -/
inductive PsR (K : PySem.W.Frag) (G : Hp) : List (V × V) → List (PyData × PyData) → Prop
  | nil : PsR K G [] []
  | cons {x y : V} {a b : PyData} {ps : List (V × V)} {qs : List (PyData × PyData)} : Dp K G x a → Dp K G y b → PsR K G ps qs → PsR K G ((x, y) :: ps) ((a, b) :: qs)
theorem PsR.mono {G' : Hp} (e : Same G G') : ∀ {ps : List (V × V)} {qs : List (PyData × PyData)}, PsR K G ps qs → PsR K G' ps qs
  | _, _, .nil => .nil
  | _, _, .cons a b t => .cons (dp_mono e _ _ a) (dp_mono e _ _ b) (PsR.mono e t)
theorem dp_key {v : V} {k : Key} (h : Dp K G v (kD k)) : v = kV k := by
  cases k with
  | inl i => exact dp_int h
  | inr x => exact dp_str h
theorem psR_kv : ∀ {kvs : List (Key × PyData)} {ps : List (V × V)}, PsR K G ps (kvs.map fun kv => (kD kv.1, kv.2)) → ∃ kv : List (Key × V), ps = kv.map (fun kv => (kV kv.1, kv.2)) ∧ KvAll K G kv kvs
  | [], _, h => by cases h; exact ⟨[], rfl, .nil⟩
  | (k, d) :: kvs, _, h => by
    cases h with
    | cons a b t =>
      obtain ⟨kv, e1, e2⟩ := psR_kv t
      have := dp_key a
      subst this e1
      exact ⟨(k, _) :: kv, rfl, .cons ⟨rfl, b⟩ e2⟩
end
def WPr (K : PySem.W.Frag) (trs : List (TE × TE)) (ρ : List Slot) (β : Bt) (P : List (PyData × PyData) → Bt → Prop) : Prop := ∀ (os : List Addr) (H : Hp) (σ : L2.St) (Q : List (V × V) → Hp → Prop), Hok K os H β → SlotsR K (Off os H) σ ρ →
  (∀ ps H2 qs β2, P qs β2 → dom β2 = dom β → Keep β H H2 → Hok K os H2 β2 → PsR K (Off os H2) ps qs → Q ps H2) → tPairs trs σ H Q
section
variable {K : PySem.W.Frag} {ρ : List Slot} {β : Bt} {P : PyData → Bt → Prop} {E : Out}
theorem wp_nil {P : List (PyData × PyData) → Bt → Prop} (p : P [] β) : WPr K [] ρ β P := fun os H σ Q hk hs q => q [] H [] β p rfl (Keep.refl _ _) hk .nil
theorem wp_cons {tk tv : TE} {r : List (TE × TE)} {P : List (PyData × PyData) → Bt → Prop} (h : WE K tk ρ β fun x β1 => WE K tv ρ β1 fun y β2 => WPr K r ρ β2 fun qs β3 => P ((x, y) :: qs) β3) : WPr K ((tk, tv) :: r) ρ β P := fun os H σ Q hk hs q => by
  refine h os H σ _ hk hs fun v H1 x β1 h1 e1 k1 hk1 d1 => ?_
  refine h1 os H1 σ _ hk1 (slots_keep hk k1 hs) fun u H2 y β2 h2 e2 k2 hk2 d2 => ?_
  have k12 := keep_trans e1 k1 k2
  refine h2 os H2 σ _ hk2 (slots_keep hk k12 hs) fun ps H3 qs β3 h3 e3 k3 hk3 d3 => ?_
  exact q _ H3 _ β3 h3 ((e3.trans e2).trans e1) (keep_trans (e2.trans e1) k12 k3) hk3 (.cons (dp_keep hk2 k3 (dp_keep hk1 k2 d1)) (dp_keep hk2 k3 d2) d3)
theorem hok_in {os : List Addr} {H : Hp} {D : Addr} {o : HO} (hk : Hok K os H β) (hD : H D = none) (ho : ∀ xs, o ≠ .tup xs := by intro _ z; cases z) : Hok K (D :: os) (upd H D o) β where
  trk := fun a h => by
    by_cases e : a = D
    · rw [e]; exact ⟨_, upd_same, ho⟩
    · exact (hk.trk a ((List.mem_cons.mp h).resolve_left e)).same fun o q => by rw [upd_ne e]; exact q
  nd := hk.nd
  own := own_more hD hk.own
theorem off_less {os : List Addr} {H : Hp} {β : Bt} {D : Addr} (hk : Hok K (D :: os) H β) (hm : ∀ a ∈ dom β, a ∈ os) : Hok K os H β :=
  ⟨fun a h => hk.trk a (List.mem_cons_of_mem _ h), hk.nd, own_less (fun a h => List.mem_cons_of_mem _ h) hm hk.own⟩
/-- {k: v, ..}[i] -/
theorem we_getDisp {trs : List (TE × TE)} {ty : TE} (h : WPr K trs ρ β fun qs β1 => ∃ kvs : List (Key × PyData), qs = kvs.map (fun kv => (kD kv.1, kv.2)) ∧ kvs.length ≤ 15 ∧ WE K ty ρ β1 fun y β2 => ∃ (k : Key) (d : PyData), y = kD k ∧ valP (mergeP [] kvs) k = some d ∧ P d β2) :
    WE K (tDGet (tDisp trs) ty) ρ β P := fun os H σ Q hk hs q D hD => by
  refine h (D :: os) _ σ _ (hok_in hk hD) (slotsR_mono (off_more hD) hs) fun ps H2 qs β2 p e k hk2 hps => ?_
  have hDos : D ∉ os := new_out hk hD
  have hDd : D ∉ dom β := fun z => hDos (hk.mem D z)
  have hD2 : H2 D = some (.dK []) := k D _ hDd upd_same
  have k0 : Keep β H H2 := fun a o h1 h2 => k a o h1 (by rw [upd_ne (ne_of_none h2 hD)]; exact h2)
  obtain ⟨kvs, rfl, hl, p⟩ := p
  obtain ⟨kv, rfl, hkv⟩ := psR_kv hps
  refine ⟨hD2, kv, rfl, by rw [kv_len hkv]; exact hl, ?_⟩
  have hDd2 : D ∉ dom β2 := by rw [e]; exact hDd
  have hk3 : Hok K (D :: os) (upd H2 D (.dK (mergeK [] kv))) β2 := ⟨fun a h => (by
    by_cases e : a = D
    · rw [e]; exact ⟨_, upd_same, fun _ z => nomatch z⟩
    · exact (hk2.trk a h).same fun o q => by rw [upd_ne e]; exact q), hk2.nd, own_upd (by simp) hDd2 hk2.own⟩
  have hs3 : SlotsR K (Off (D :: os) (upd H2 D (.dK (mergeK [] kv)))) σ ρ := by
    rw [off_updIn (by simp)]
    exact slots_keep (hok_in hk hD) k (slotsR_mono (off_more hD) hs)
  refine p (D :: os) _ σ _ hk3 hs3 fun y H4 yd β4 p4 e4 k4 hk4 dy => ?_
  obtain ⟨ky, d, rfl, hv, p4⟩ := p4
  have hD4 : H4 D = some (.dK (mergeK [] kv)) := k4 D _ hDd2 upd_same
  have hkv4 : KvAll K (Off (D :: os) H4) kv kvs := by
    refine Paired.mapP hkv fun a b h => ⟨h.1, ?_⟩
    exact dp_keep hk3 k4 (by rw [off_updIn (by simp)]; exact h.2)
  obtain ⟨v, hv1, hv2⟩ := kv_val (kv_merge hkv4 .nil) hv
  have k04 : Keep β H H4 := fun a o h1 h2 => k4 a o (by rw [e]; exact h1) (by rw [upd_ne (ne_of_none h2 hD)]; exact k0 a o h1 h2)
  refine ⟨D, v, rfl, ?_, q v H4 d β4 p4 (e4.trans e) k04 (off_less hk4 fun a h => hk.mem a (by rw [← e, ← e4]; exact h)) (dp_mono (off_sub fun a h => List.mem_cons_of_mem _ h) _ _ hv2)⟩
  rw [dp_key dy, ← hv1]
  exact DGet.k hD4
/-- x = {k: v, ..}, owned from here on -/
theorem ws_newD {i : Nat} {trs : List (TE × TE)} (h : WPr K trs ρ β fun qs β1 => ∃ kvs : List (Key × PyData), qs = kvs.map (fun kv => (kD kv.1, kv.2)) ∧ kvs.length ≤ 15 ∧ ∀ p, p ∉ dom β1 → E.nx (ρ.set i (.raw (.ref p))) (β1 ++ [(p, .dct (mergeP [] kvs))])) :
    WS K (tAsg (tDisp trs) (gName i)) ρ β E := fun os0 H0 os H σ Dn r hk hs x D hD => by
  refine h (D :: os) _ σ _ (hok_in hk hD) (slotsR_mono (off_more hD) hs) fun ps H2 qs β2 p e k hk2 hps => ?_
  have hDos : D ∉ os := new_out hk hD
  have hDd : D ∉ dom β := fun z => hDos (hk.mem D z)
  have hDd2 : D ∉ dom β2 := by rw [e]; exact hDd
  have hD2 : H2 D = some (.dK []) := k D _ hDd upd_same
  obtain ⟨kvs, rfl, hl, p⟩ := p
  obtain ⟨kv, rfl, hkv⟩ := psR_kv hps
  refine ⟨hD2, kv, rfl, by rw [kv_len hkv]; exact hl, ?_⟩
  have hoff : Off (D :: os) (upd H2 D (.dK (mergeK [] kv))) = Off (D :: os) H2 := off_updIn (by simp)
  have dk : DK K os H (D :: os) (upd H2 D (.dK (mergeK [] kv))) := fun v d hd => by
    rw [hoff]
    exact dp_keep (hok_in hk hD) k (dp_mono (off_more hD) _ _ hd)
  refine x.nx (D :: os) _ _ _ _ (p D hDd2) ⟨fun a h => List.mem_cons_of_mem _ (r.os a h), fun a o h1 h2 => ?_, fun a h => ?_, fun a h => ?_, r.trk⟩ dk ⟨fun a h => ?_, ?_, own_app (own_upd (by simp) hDd2 hk2.own) ⟨by simp, ⟨_, upd_same, _, rfl, by rw [hoff]; exact kv_merge hkv .nil⟩, trivial⟩⟩
    (slotsR_set (s := .raw (.ref D)) rfl i (by rw [hoff]; exact slots_keep (hok_in hk hD) k (slotsR_mono (off_more hD) hs)))
  · have q := r.keep a o h1 h2
    have hne : a ≠ D := ne_of_none q hD
    rw [upd_ne hne]
    refine k a o (fun z => ?_) (by rw [upd_ne hne]; exact q)
    rcases r.nw a z with w | w
    · exact h1 w
    · rw [h2] at w; cases w
  · unfold dom
    rw [List.map_append]
    exact List.mem_append.mpr (.inl (by have := r.dom a h; rw [← e] at this; exact this))
  · unfold dom at h
    rw [List.map_append] at h
    rcases List.mem_append.mp h with h | h
    · exact r.nw a (by rw [← e]; exact h)
    · simp at h
      subst h
      right
      cases q : H0 a with
      | none => rfl
      | some u =>
        by_cases hb : a ∈ E.base
        · exact absurd (r.dom a hb) hDd
        · rw [r.keep a u hb q] at hD; cases hD
  · by_cases e : a = D
    · rw [e]; exact ⟨_, upd_same, fun _ z => nomatch z⟩
    · exact (hk2.trk a h).same fun o q => by rw [upd_ne e]; exact q
  · unfold dom
    rw [List.map_append, List.nodup_append]
    refine ⟨hk2.nd, by simp, fun a h b h2 z => ?_⟩
    simp at h2
    exact hDd2 (by rw [← h2, ← z]; exact h)
/-- d[k], d owned -/
theorem we_getD {i j : Nat} {b : Addr} {ty : TE} (hi : ρ[i]? = some (.raw (.ref b))) (h : WE K ty ρ β fun y β1 => ∃ (k : Key) (kvs : List (Key × PyData)) (d : PyData), y = kD k ∧ β1[j]? = some (b, .dct kvs) ∧ valP kvs k = some d ∧ P d β1) :
    WE K (tDGet (tVar i) ty) ρ β P := fun os H σ Q hk hs q => by
  refine ⟨.ref b, slot_raw hs hi, h os H σ _ hk hs fun v H1 y β1 p e k hk1 dv => ?_⟩
  obtain ⟨kk, kvs, d, rfl, hj, hv, p⟩ := p
  obtain ⟨_, _, hb, kv, rfl, hkv⟩ := own_get hk1.own hj
  obtain ⟨w, h1, h2⟩ := kv_val hkv hv
  refine ⟨b, w, rfl, ?_, q w H1 d β1 p e k hk1 h2⟩
  rw [dp_key dv, ← h1]
  exact DGet.k hb
/-- d[k1], d[k2] = a pair, d owned, k1 and k2 written texts -/
theorem ws_put2 {i j : Nat} {b : Addr} {te : TE} {k1 k2 : Str} (hi : ρ[i]? = some (.raw (.ref b)))
    (h : WE K te ρ β fun d β1 => ∃ (x y : PyData) (kvs : List (Key × PyData)), d = .tuple [x, y] ∧ β1[j]? = some (b, .dct kvs) ∧ kvs.length ≤ 1000 ∧ E.nx ρ (β1.set j (b, .dct (putP (putP kvs (.inr k1) x) (.inr k2) y)))) :
    WS K (tAsg te (gTup K 2 (gCons (gSub (tVar i) (tC (.str k1)) rSetD) (gCons (gSub (tVar i) (tC (.str k2)) rSetD) gNil)))) ρ β E := fun os0 H0 os H σ D r hk hs x => by
  refine h os H σ _ hk hs fun v H1 d β1 p e k hk1 dv => ?_
  obtain ⟨y, z, kvs, rfl, hj, hl, hE⟩ := p
  obtain ⟨a, vs, rfl, h1, h2⟩ := dp_tup dv
  obtain ⟨hbo, _, hb, kv, rfl, hkv⟩ := own_get hk1.own hj
  cases h2 with
  | @cons v1 _ _ _ d1 h2 => cases h2 with
    | @cons v2 _ _ _ d2 h2 =>
      cases h2
      have hl1 := kv_len hkv
      have hz : kv.length < sizeLine := Nat.lt_of_le_of_lt (by rw [hl1]; exact hl) (by decide)
      have hz2 : (putK kv (.inr k1) v1).length < sizeLine := Nat.lt_of_le_of_lt (Nat.le_trans (by
        unfold putK
        split
        · rw [List.length_map]; omega
        · rw [List.length_append]; exact Nat.le_refl _) (show kv.length + 1 ≤ 1001 by omega)) (by decide)
      have sl := slot_raw (slots_keep hk k hs) hi
      refine ⟨a, _, rfl, same_seqT (off_le os H1) h1, rfl, v1, _, rfl, .ref b, sl, b, _, rfl, DPut.k (k := .inr k1) hb hz, v2, _, rfl, .ref b, sl, b, _, rfl, DPut.k (k := .inr k2) upd_same hz2, rfl, ?_⟩
      rw [upd_upd]
      have kp : ∀ a o, a ≠ b → H1 a = some o → (upd H1 b (.dK (putK (putK kv (.inr k1) v1) (.inr k2) v2))) a = some o := fun a o ha q => by rw [upd_ne ha]; exact q
      have hk3 := hok_set (bx' := .dct (putP (putP kvs (.inr k1) y) (.inr k2) z)) hk1 hj kp ⟨_, upd_same, _, rfl, by rw [off_updIn hbo]; exact kv_put (kv_put hkv d1) d2⟩
      have e13 := (dom_set (bx' := .dct (putP (putP kvs (.inr k1) y) (.inr k2) z)) hj).trans e
      have k13 := keep_trans e k (keep_one hj kp)
      exact x.nx os σ _ ρ _ hE (r.step e13 k13) (DK.of hk k13) hk3 (slots_keep hk k13 hs)
end
end DS

set_option Elab.async false
set_option linter.all false
set_option maxRecDepth 100000
set_option maxHeartbeats 4000000
/-! DS8: small things. -/
namespace DS
open PySem PySem.Spec PyProof.Rows L2
theorem atI_nat {ds : List PyData} {i : Nat} {d : PyData} (h : ds[i]? = some d) : atI ds (i : Int) = some d := by
  have hi : i < ds.length := (List.getElem?_eq_some_iff.mp h).1
  unfold atI
  rw [show ixN ds.length (i : Int) = some i by
    unfold ixN
    rw [if_pos (by omega), if_pos (by omega)]
    rfl]
  exact h
theorem at0 {x : PyData} {r : List PyData} : atI (x :: r) 0 = some x := atI_nat (i := 0) rfl
theorem at1 {x y : PyData} {r : List PyData} : atI (x :: y :: r) 1 = some y := atI_nat (i := 1) rfl
theorem at2 {x y z : PyData} {r : List PyData} : atI (x :: y :: z :: r) 2 = some z := atI_nat (i := 2) rfl
section
variable {K : PySem.W.Frag} {ρ : List Slot} {β : Bt} {P : PyData → Bt → Prop}
/-- [.. for d in ds], nothing changed: place by place -/
theorem we_lc_ix {wi : TI} {g : TG} {te : TE} {vs tg : List Nat} (htg : ∀ i ∈ tg, i ∈ vs)
    (h : WI K wi ρ β fun ds β1 => ∃ ys : List PyData, ds.length ≤ sizeLine ∧ ys.length = ds.length ∧ (∀ (i : Nat) (d y : PyData), ds[i]? = some d → ys[i]? = some y → WGc K g tg d (wipeS ρ vs) fun ρ2 => WE K te ρ2 β1 fun z β2 => z = y ∧ β2 = β1) ∧ P (.list ys) β1) : WE K (tLc wi g tYes te vs) ρ β P := by
  refine we_lc htg fun os H σ R hk hs q => h os H σ R hk hs fun J H2 ds src β2 p e k hk2 itd hsrc => q J H2 ds src β2 ?_ e k hk2 itd hsrc
  obtain ⟨ys, hl, hlen, hstep, hend⟩ := p
  refine ⟨fun i acc β' => acc = ys.take i ∧ β' = β2, ⟨rfl, rfl⟩, fun i d acc β' hd ⟨h1, h2⟩ _ => ?_, hl, fun acc β' ⟨h1, h2⟩ _ => ?_⟩
  · subst h1 h2
    have hi : i < ys.length := by rw [hlen]; exact (List.getElem?_eq_some_iff.mp hd).1
    have hy : ys[i]? = some ys[i] := List.getElem?_eq_getElem hi
    refine fun os H σ v Q hs hv q => hstep i d _ hd hy os H σ v Q hs hv fun σ' ρ' p hs' st => q σ' ρ' (wt_yes ⟨fun _ => p.mono ?_, fun z => nomatch z⟩) hs' st
    rintro y β3 ⟨rfl, rfl⟩
    refine ⟨?_, rfl⟩
    rw [List.take_add_one, hy]
    rfl
  · subst h1 h2
    rw [← hlen, List.take_length]
    exact hend
end
theorem room65 {k : Nat} {A : Around} (r : Room k A) : A.units + 65 < cLine := by have := r.un; omega
/-! ### calls of a local name that holds a def -/
structure Hld (P : Program) (w : World) (K : PySem.W.Frag) (mg : Str → Option Value) (base : Heap) (k : Nat) (f : Addr) (sp : Sp) : Prop where
  ex : ∃ (fd : FuncData) (ps : List Str), FnOk P w K mg base CXN k f fd ps sp ∧ PySem.W.keepIn K (.ref f) = true ∧ Binds K fd ps []
theorem Cal.hld {P : Program} {w : World} {K : PySem.W.Frag} {mg : Str → Option Value} {base : Heap} {x : Str} {k : Nat} {ps : List Str} {sp : Sp} {f : Addr} (c : Cal P w K mg base x k ps sp) (h : mg x = some (.ref f)) : Hld P w K mg base k f sp := by
  obtain ⟨f', fd, F, m, kp, b⟩ := c.ex
  rw [h] at m
  cases m
  exact ⟨fd, ps, F, kp, b⟩
def tCallH (P : Program) (w : World) (K : PySem.W.Frag) (mg : Str → Option Value) (base : Heap) (k i : Nat) (t : TA) : TE := fun σ H Q => ∃ f sp, σ[i]? = some (some (.ref f)) ∧ Hld P w K mg base k f sp ∧ t σ H fun vs H1 => sp (vs ++ []) H1 Q EN
section
variable {X : Cx} {P : Program} {w : World} {K : PySem.W.Frag} {mg : Str → Option Value} {base : Heap} {k i : Nat} {x : Str} {p pos : Pos} {e : Expr} {es : List Expr} {t : TA}
theorem pe_callH (i : Nat) (hP : X.prog = P) (hw : X.w = w) (hK : X.K = K) (hm : X.mg = mg) (hB : X.base = base) (hr : Room k X.A) (ha : PA X (e :: es) t) (hN : X.N[i]? = some x := by rfl) (hv : Vis X.env.scope x := by first | exact Or.inl rfl | exact Or.inr (Or.inl rfl) | exact Or.inr (Or.inr rfl))
    (hdb : (x == ("__debug__" : Str)) = false := by decide) (hcd : (x == ("__classdict__" : Str)) = false := by decide)
    (he : starEach (e :: es) X.env = (false, eval e X.env) :: starEach es X.env := by rfl) (hpl : (backTo pos (starEach es X.env)).any (·.1) = false := by rfl) : PE X (.Call (.Name x p) (e :: es) [] pos) (tCallH P w K mg base k i t) := by
  subst hP hw hK hm hB
  refine ⟨fun pins s σ H Q I h => ?_⟩
  obtain ⟨f, sp, hs, hh, ht⟩ := h
  obtain ⟨fd, ps, F, hk, hb⟩ := hh.ex
  exact (pe_callL (i := i) (f := f) (sp := sp) (dvs := []) (E := EN) F hr hN hv hk hb .nil passN ha hdb hcd he hpl).run pins s σ H Q I ⟨hs, ht⟩
end
section
variable {P : Program} {w : World} {K : PySem.W.Frag} {mg : Str → Option Value} {base : Heap} {ρ : List Slot} {β : Bt} {Q : PyData → Bt → Prop} {k i : Nat} {f : Addr}
theorem we_callH {R : List PyData → PyData → Prop} {ta : TA} (hi : ρ[i]? = some (.raw (.ref f))) (hh : Hld P w K mg base k f (spP K R)) (h : WA K ta ρ β fun xs β1 => ∃ z, R xs z ∧ Q z β1) : WE K (tCallH P w K mg base k i ta) ρ β Q := fun os H σ q hk hs qq =>
  ⟨f, spP K R, slot_raw hs hi, hh, we_call (E := EN) h os H σ q hk hs qq⟩
end
/-! ### defs whose answer is a new list, which the caller owns -/
def spN (K : PySem.W.Frag) (R : List PyData → List PyData → Prop) : Sp := fun vs H Q _ => ∃ (os : List Addr) (ds xs : List PyData), (∀ a ∈ os, Tk H a) ∧ DpAll K (Off os H) vs ds ∧ R ds xs ∧
  ∀ p ws H1, Same H H1 → H1 p = none → DpAll K (Off os H1) ws xs → Q (.ref p) (upd H1 p (.lst ws))
section
variable {P : Program} {w : World} {K : PySem.W.Frag} {mg : Str → Option Value} {base : Heap} {x qual : Str} {params : Arguments} {body : List Stmt} {scope : Scope} {dvs : List V} {kws : List (Str × V)} {f : Addr} {fd : FuncData}
theorem fn_new {N ps : List Str} {k : Nat} {R : List PyData → List PyData → Prop} (F : FunD K x qual params body scope dvs kws f fd) (S : FnScope N ps scope) (len : ∀ ds xs, R ds xs → ds.length = ps.length)
    (hbody : ∀ (cdv : Value) (A : Around) (outer : List Env) (s : Shared) (H : Hp) (E : XK), Room k (A.deeper (envOfC qual scope s.heap.objs.size f cdv)) →
      ∃ ta, PSs (cxOf CXN P w K mg base N qual scope f cdv A outer s H E).nox body (tRet (tLst ta)) ∧ ∀ ds xs, R ds xs → xs.length ≤ sizeLine ∧ WA K ta (startS N ds) [] fun ys _ => ys = xs) : FnOk P w K mg base CXN (k + 1) f fd ps (spN K R) := by
  refine F.ok S (fun vs H Q E h => ?_) fun cdv A outer s H vs Q E hr h => ?_
  · obtain ⟨os, ds, d, _, hd, hR, _⟩ := h
    exact (dpAll_len hd).trans (len _ _ hR)
  obtain ⟨os, ds, xs, ht, hd, hR, q⟩ := h
  obtain ⟨ta, hp, hw⟩ := hbody cdv A outer s H E hr
  obtain ⟨hl, hw⟩ := hw ds xs hR
  refine ⟨_, hp.nox, hw os H (L2.start N vs) _ (Hok.no ht) ?_ fun ws H1 ys β1 e ed k1 hk1 dv => ?_⟩
  · unfold L2.start startS
    rw [dpAll_len hd]
    exact slots_start (N := N) hd
  · subst e
    exact ⟨by rw [dpAll_len dv]; exact hl, fun p hp => q p ws H1 (fun a o e => k1 a o (by simp) e) hp dv⟩
end
section
variable {K : PySem.W.Frag} {ρ : List Slot} {β : Bt} {E : Out}
/-- x = f(..), a new list, owned from here on -/
theorem ws_newC {i : Nat} {ta : TA} {R : List PyData → List PyData → Prop} (h : WA K ta ρ β fun ds β1 => ∃ xs, R ds xs ∧ ∀ p, p ∉ dom β1 → E.nx (ρ.set i (.raw (.ref p))) (β1 ++ [(p, .lst xs)])) : WS K (tAsg (tCall (spN K R) [] EN ta) (gName i)) ρ β E := fun os0 H0 os H σ D r hk hs x => by
  refine h os H σ _ hk hs fun vs H1 ds β1 p e k hk1 dv => ?_
  obtain ⟨xs, hR, p⟩ := p
  refine ⟨os, ds, xs, hk1.trk, by rw [List.append_nil]; exact dv, hR, fun a ws H2 s2 na hws => ?_⟩
  have hk2 := hk1.mono s2
  have k2 := keep_trans e k (Keep.same s2)
  have ha : a ∉ dom β1 := fun z => new_out hk2 na (hk2.mem a z)
  exact x.nx (a :: os) _ _ _ _ (p a ha) (reach_new (r.step e k2) hk2 na) ((DK.of hk k2).trans fun v d hd => dp_mono (off_more na) _ _ hd) (own_new hk2 na hws)
    (slotsR_set (s := .raw (.ref a)) rfl i (slotsR_mono (off_more na) (slots_keep hk k2 hs)))
end
end DS

set_option Elab.async false
set_option linter.all false
set_option maxRecDepth 100000
set_option maxHeartbeats 4000000
/-! DS9: texts cut at a sign. -/
namespace DS
open PySem PySem.Spec PyProof.Rows L2
theorem room1 {k : Nat} {A : Around} (r : Room k A) : A.units + 1 < cLine := by have := r.un; omega
def rSpl : V → List V → Hp → VK → Prop := fun x xs H Q => ∃ a b, x = .str a ∧ xs = [.str b] ∧ (b.length == 0) = false ∧ a.length + 2 ≤ sizeLine ∧ rNewStrs (Txt.split a b) H Q
section
variable {X : Cx} {o e : Expr} {to te : TE} {apos pos : Pos}
theorem pe_splS (ho : PE X o to) (he : PE X e te) (hs : starEach [e] X.env = [(false, eval e X.env)] := by rfl) (hbase : attributeBase o "split" X.env (eval o X.env) = eval o X.env := by rfl) (hline : (apos.endLine == pos.line) = true := by rfl) :
    PE X (.Call (.Attribute o "split" apos) [e] [] pos) (tM1 rSpl to te) := pe_split ho he hs hbase hline
end
section
variable {K : PySem.W.Frag} {ρ : List Slot} {β : Bt} {P : PyData → Bt → Prop}
theorem dpAll_strs {G : Hp} : ∀ ws : List Str, DpAll K G (ws.map V.str) (ws.map PyData.str)
  | [] => .nil
  | x :: ws => .cons (.str x) (dpAll_strs ws)
theorem we_spl {to te : TE} (h : WE K to ρ β fun x β1 => ∃ a : Str, x = .str a ∧ WE K te ρ β1 fun y β2 => ∃ (b : Str) (ws : List Str), y = .str b ∧ Txt.split a b = ws ∧ (b.length == 0) = false ∧ a.length + 2 ≤ sizeLine ∧ P (.list (ws.map .str)) β2) : WE K (tM1 rSpl to te) ρ β P := fun os H σ Q hk hs q => by
  refine h os H σ _ hk hs fun v H1 x β1 h1 e1 k1 hk1 d1 => ?_
  obtain ⟨a, rfl, h1⟩ := h1
  refine ⟨⟨a, dp_str d1⟩, h1 os H1 σ _ hk1 (slots_keep hk k1 hs) fun u H2 y β2 h2 e2 k2 hk2 d2 => ?_⟩
  obtain ⟨b, ws, rfl, hw, hb, hl, p⟩ := h2
  refine ⟨a, b, dp_str d1, by rw [dp_str d2], hb, hl, fun p' hp => ?_⟩
  rw [hw]
  have s := same_new (o := .lst (ws.map V.str)) hp
  have e12 := e2.trans e1
  have k12 := keep_trans e1 k1 k2
  exact q _ _ _ β2 p e12 (keep_trans e12 k12 (Keep.same s)) (hk2.mono s) (.lst (.inl (off_upd (new_out hk2 hp))) (dpAll_strs ws))
end
section
variable {K : PySem.W.Frag} {ρ : List Slot} {β : Bt}
theorem ws_via {t : TS} {E : Out} (N : List Slot → Bt → Prop) (h : WS K t ρ β { E with nx := N }) (h2 : ∀ ρ' β', N ρ' β' → E.nx ρ' β') : WS K t ρ β E :=
  fun os0 H0 os H σ D r hk hs x => h os0 H0 os H σ D r hk hs ⟨fun os' σ' H' ρ' β' p => x.nx os' σ' H' ρ' β' (h2 ρ' β' p), x.rt, x.bk, x.ct⟩
end
end DS

set_option Elab.async false
set_option linter.all false
set_option maxRecDepth 100000
set_option maxHeartbeats 4000000
/-! DS10: two new lists at once; walks with a step. -/
namespace DS
open PySem PySem.Spec PyProof.Rows L2
section
variable {K : PySem.W.Frag} {ρ : List Slot} {β : Bt} {E : Out}
/-- x, y = ([], []), both owned from here on -/
theorem ws_par2O {i j : Nat} (h : ∀ p q, p ∉ dom β → q ∉ dom β → q ≠ p → E.nx ((ρ.set i (.raw (.ref p))).set j (.raw (.ref q))) ((β ++ [(p, .lst [])]) ++ [(q, .lst [])])) :
    WS K (tPar i j (tCons (tLst tNil) (tCons (tLst tNil) tNil))) ρ β E := fun os0 H0 os H σ D r hk hs x => by
  refine ⟨Nat.zero_le _, fun p hp => ⟨Nat.zero_le _, fun q hq => ⟨_, _, rfl, ?_⟩⟩⟩
  have hpd : p ∉ dom β := fun z => new_out hk hp (hk.mem p z)
  have hk1 := own_new hk hp (K := K) (vs := []) (ds := []) .nil
  have r1 := reach_new (o := .lst []) (ds := []) r hk hp
  have hqd1 : q ∉ dom (β ++ [(p, Oc.lst [])]) := fun z => new_out hk1 hq (hk1.mem q z)
  have hqd : q ∉ dom β := fun z => hqd1 (by unfold dom at z ⊢; rw [List.map_append]; exact List.mem_append.mpr (.inl z))
  have hne : q ≠ p := fun z => hqd1 (by unfold dom; rw [List.map_append]; exact List.mem_append.mpr (.inr (by simp [z])))
  have hk2 := own_new hk1 hq (K := K) (vs := []) (ds := []) .nil
  have r2 := reach_new (o := .lst []) (ds := []) r1 hk1 hq
  exact x.nx _ _ _ _ _ (h p q hpd hqd hne) r2 (fun v d hd => dp_mono (off_more hq) _ _ (dp_mono (off_more hp) _ _ hd)) hk2
    (slotsR_set (s := .raw (.ref q)) rfl j (slotsR_mono (off_more hq) (slotsR_set (s := .raw (.ref p)) rfl i (slotsR_mono (off_more hp) hs))))
/-- lo, lo + c, .. -/
def rngC (lo c : Int) (n : Nat) : List PyData := (List.range n).map fun (i : Nat) => PyData.int (lo + i * c)
theorem rngC_len {lo c : Int} {n : Nat} : (rngC lo c n).length = n := by unfold rngC; rw [List.length_map, List.length_range]
theorem rngC_get {lo c : Int} {n i : Nat} {d : PyData} (h : (rngC lo c n)[i]? = some d) : i < n ∧ d = .int (lo + i * c) := by
  unfold rngC at h
  rw [List.getElem?_map] at h
  by_cases hi : i < n
  · rw [List.getElem?_range hi] at h
    exact ⟨hi, (Option.some.inj h).symm⟩
  · rw [List.getElem?_eq_none (by rw [List.length_range]; omega)] at h
    cases h
theorem itd_rngC {lo c : Int} {n : Nat} : ItD K (Itc lo c n) [] (rngC lo c n) where
  go := fun os H i h hi => by rw [rngC_len] at hi; exact hi
  stop := fun os H h => by rw [rngC_len]; exact Nat.le_refl n
  yld := fun os H i x H' d ht h hd hy => by
    obtain ⟨rfl, rfl⟩ := hy
    obtain ⟨_, rfl⟩ := rngC_get hd
    exact ⟨Same.refl _, .int _⟩
theorem wi_rng3 {ta : TA} {PL : List PyData → Bt → Prop} (h : WA K ta ρ β fun xs β1 => ∃ (i j c : Int) (n : Nat), xs = [.int i, .int j, .int c] ∧ RgC i j c n ∧ PL (rngC i c n) β1) : WI K (iRng3 ta) ρ β PL := fun os H σ R hk hs q => by
  refine h os H σ _ hk hs fun vs H1 ds β1 p e k hk1 dv => ?_
  obtain ⟨i, j, c, n, rfl, h1, p⟩ := p
  cases dv with
  | cons a b => cases b with
    | cons b c => cases c with
      | cons c d =>
        cases d
        cases a
        cases b
        cases c
        exact ⟨i, j, _, n, rfl, h1, q _ H1 _ [] β1 p e k hk1 itd_rngC fun z hz => by simp at hz⟩
end
end DS

set_option Elab.async false
set_option linter.all false
set_option maxRecDepth 100000
set_option maxHeartbeats 4000000
/-! DS11: dicts by keys and by tuples of keys; enumerate, zip; defaults. -/
namespace DS
open PySem PySem.Spec PyProof.Rows L2
section
variable {K : PySem.W.Frag} {ρ : List Slot} {β : Bt} {P : PyData → Bt → Prop} {E : Out}
/-! ### a new thing, owned -/
theorem own_newX {os : List Addr} {H : Hp} {D : Addr} {o : HO} {c : Oc} (hk : Hok K os H β) (hD : H D = none) (ha : OcR K (Off os H) c o) : Hok K (D :: os) (upd H D o) (β ++ [(D, c)]) where
  trk := (hok_in hk hD (ocR_tk ha)).trk
  nd := by
    unfold dom
    rw [List.map_append, List.nodup_append]
    refine ⟨hk.nd, by simp, fun a h b h2 z => ?_⟩
    simp at h2
    exact new_out hk hD (hk.mem D (by rw [← h2, ← z]; exact h))
  own := own_app (own_more hD hk.own) ⟨by simp, ⟨_, upd_same, ocR_mono (off_more hD) ha⟩, trivial⟩
theorem reach_newX {os0 b0 os : List Addr} {H0 H : Hp} {D : Addr} {o : HO} {c : Oc} (r : Reach os0 b0 H0 os β H) (hk : Hok K os H β) (hD : H D = none) : Reach os0 b0 H0 (D :: os) (β ++ [(D, c)]) (upd H D o) := by
  have h := reach_new (o := o) (ds := []) r hk hD
  have e : dom (β ++ [(D, c)]) = dom (β ++ [(D, Oc.lst [])]) := by unfold dom; rw [List.map_append, List.map_append]; rfl
  exact ⟨h.os, h.keep, fun a h1 => by rw [e]; exact h.dom a h1, fun a h1 => h.nw a (by rw [← e]; exact h1), h.trk⟩
/-- x = {}, keys are ints and texts -/
theorem ws_newDK {i : Nat} (h : ∀ p, p ∉ dom β → E.nx (ρ.set i (.raw (.ref p))) (β ++ [(p, .dct [])])) : WS K (tAsg tDNewK (gName i)) ρ β E := fun os0 H0 os H σ D r hk hs x => by
  intro a na
  have ha : a ∉ dom β := fun z => new_out hk na (hk.mem a z)
  exact x.nx (a :: os) _ _ _ _ (h a ha) (reach_newX r hk na) (fun v d hd => dp_mono (off_more na) _ _ hd) (own_newX hk na ⟨[], rfl, .nil⟩)
    (slotsR_set (s := .raw (.ref a)) rfl i (slotsR_mono (off_more na) hs))
/-- x = {}, keys are tuples -/
theorem ws_newDT {i : Nat} (h : ∀ p, p ∉ dom β → E.nx (ρ.set i (.raw (.ref p))) (β ++ [(p, .dcT [])])) : WS K (tAsg tDNewT (gName i)) ρ β E := fun os0 H0 os H σ D r hk hs x => by
  intro a na
  have ha : a ∉ dom β := fun z => new_out hk na (hk.mem a z)
  exact x.nx (a :: os) _ _ _ _ (h a ha) (reach_newX r hk na) (fun v d hd => dp_mono (off_more na) _ _ hd) (own_newX hk na ⟨[], rfl, .nil⟩)
    (slotsR_set (s := .raw (.ref a)) rfl i (slotsR_mono (off_more na) hs))
/-- d[k] = e, d owned -/
theorem ws_putK {i : Nat} {b : Addr} {te ti : TE} (hi : ρ[i]? = some (.raw (.ref b)))
    (h : WE K te ρ β fun d β1 => WE K ti ρ β1 fun y β2 => ∃ (j : Nat) (k : Key) (kvs : List (Key × PyData)), y = kD k ∧ β2[j]? = some (b, .dct kvs) ∧ kvs.length ≤ 1000000 ∧ E.nx ρ (β2.set j (b, .dct (putP kvs k d)))) : WS K (tAsg te (gSub (tVar i) ti rSetD)) ρ β E := fun os0 H0 os H σ D r hk hs x => by
  refine h os H σ _ hk hs fun v H1 d β1 p e k hk1 dv => ?_
  refine ⟨.ref b, slot_raw (slots_keep hk k hs) hi, p os H1 σ _ hk1 (slots_keep hk k hs) fun y H2 yd β2 p2 e2 k2 hk2 dy => ?_⟩
  obtain ⟨j, z, kvs, rfl, hj, hl, hE⟩ := p2
  obtain ⟨hbo, _, hb, kv, rfl, hkv⟩ := own_get hk2.own hj
  have hz : kv.length < sizeLine := Nat.lt_of_le_of_lt (by rw [kv_len hkv]; exact hl) (by decide)
  rw [dp_key dy]
  refine ⟨b, _, rfl, DPut.k (k := z) hb hz, ?_⟩
  have dv2 := dp_keep hk1 k2 dv
  have kp : ∀ a o, a ≠ b → H2 a = some o → (upd H2 b (.dK (putK kv z v))) a = some o := fun a o ha q => by rw [upd_ne ha]; exact q
  have hk3 := hok_set (bx' := .dct (putP kvs z d)) hk2 hj kp ⟨_, upd_same, _, rfl, by rw [off_updIn hbo]; exact kv_put hkv dv2⟩
  have e12 := e2.trans e
  have k12 := keep_trans e k k2
  have e13 := (dom_set (bx' := .dct (putP kvs z d)) hj).trans e12
  have k13 := keep_trans e12 k12 (keep_one hj kp)
  exact x.nx os σ _ ρ _ hE (r.step e13 k13) (DK.of hk k13) hk3 (slots_keep hk k13 hs)
end
/-! ### tuples of keys -/
def valT (kvs : List (List Key × PyData)) (k : List Key) : Option PyData := (kvs.find? fun kv => decide (kv.1 = k)).map (·.2)
def putT (kvs : List (List Key × PyData)) (k : List Key) (v : PyData) : List (List Key × PyData) :=
  if (kvs.any fun kv => decide (kv.1 = k)) = true then kvs.map (fun kv => if kv.1 = k then (kv.1, v) else kv) else kvs ++ [(k, v)]
def kTD (ks : List Key) : PyData := .tuple (ks.map kD)
def dTD (kvs : List (List Key × PyData)) : PyData := .dict ((.none, .none) :: kvs.map fun p => (kTD p.1, p.2))
def dKD (kvs : List (Key × PyData)) : PyData := .dict (kvs.map fun p => (kD p.1, p.2))
section
variable {K : PySem.W.Frag} {G : Hp}
theorem kD_inj {a b : Key} (e : kD a = kD b) : a = b := by
  cases a <;> cases b <;> simp [kD] at e
  · rw [e]
  · rw [e]
theorem kDs_inj : ∀ {a b : List Key}, a.map kD = b.map kD → a = b
  | [], [], _ => rfl
  | [], _ :: _, e => by simp at e
  | _ :: _, [], e => by simp at e
  | x :: a, y :: b, e => by
    simp at e
    rw [kD_inj e.1, kDs_inj e.2]
theorem kt_len : ∀ {kv : List (List Key × V)} {kvs : List (List Key × PyData)}, KtAll K G kv kvs → kv.length = kvs.length
  | _, _, .nil => rfl
  | _, _, .cons _ t => by rw [List.length_cons, List.length_cons, kt_len t]
theorem kt_val {k : List Key} : ∀ {kv : List (List Key × V)} {kvs : List (List Key × PyData)}, KtAll K G kv kvs → (∀ d, valT kvs k = some d → ∃ v, valV kv k = some v ∧ Dp K G v d) ∧ (valT kvs k = none → valV kv k = none)
  | _, _, .nil => ⟨fun d h => (by cases h), fun _ => rfl⟩
  | (k1, v1) :: kv, (k2, d2) :: kvs, .cons r t => by
    obtain ⟨e, hd⟩ := r
    simp only at e
    subst e
    obtain ⟨ih1, ih2⟩ := kt_val (k := k) t
    by_cases z : k1 = k
    · have h2 : valT ((k1, d2) :: kvs) k = some d2 := by simp [valT, List.find?_cons, z]
      rw [h2]
      exact ⟨fun d h => (by cases h; exact ⟨v1, valV_pos z, hd⟩), fun h => (by cases h)⟩
    · have h2 : valT ((k1, d2) :: kvs) k = valT kvs k := by simp [valT, List.find?_cons, z]
      rw [h2, valV_neg z]
      exact ⟨ih1, ih2⟩
theorem kt_any {k : List Key} : ∀ {kv : List (List Key × V)} {kvs : List (List Key × PyData)}, KtAll K G kv kvs → (kv.any fun p => decide (p.1 = k)) = (kvs.any fun p => decide (p.1 = k))
  | _, _, .nil => rfl
  | _, _, .cons r t => by rw [List.any_cons, List.any_cons, r.1, kt_any t]
theorem kt_map {k : List Key} {v : V} {d : PyData} (hv : Dp K G v d) : ∀ {kv : List (List Key × V)} {kvs : List (List Key × PyData)}, KtAll K G kv kvs → KtAll K G (kv.map fun p => if p.1 = k then (p.1, v) else p) (kvs.map fun p => if p.1 = k then (p.1, d) else p)
  | _, _, .nil => .nil
  | _, _, .cons r t => by
    refine .cons ?_ (kt_map hv t)
    obtain ⟨e, hd⟩ := r
    show (if _ then _ else _ : List Key × V).1 = (if _ then _ else _ : List Key × PyData).1 ∧ Dp K G (if _ then _ else _ : List Key × V).2 (if _ then _ else _ : List Key × PyData).2
    rw [e]
    split
    · exact ⟨rfl, hv⟩
    · exact ⟨e, hd⟩
theorem kt_app : ∀ {kv kw : List (List Key × V)} {kvs kws : List (List Key × PyData)}, KtAll K G kv kvs → KtAll K G kw kws → KtAll K G (kv ++ kw) (kvs ++ kws)
  | _, _, _, _, .nil, h => h
  | _, _, _, _, .cons r t, h => .cons r (kt_app t h)
theorem kt_put {k : List Key} {v : V} {d : PyData} {kv : List (List Key × V)} {kvs : List (List Key × PyData)} (h : KtAll K G kv kvs) (hv : Dp K G v d) : KtAll K G (putK kv k v) (putT kvs k d) := by
  unfold putK putT
  rw [kt_any h]
  split
  · exact kt_map hv h
  · exact kt_app h (.cons ⟨rfl, hv⟩ .nil)
theorem kt_data : ∀ {kv : List (List Key × V)} {kvs : List (List Key × PyData)}, DpKt K G kv (kvs.map fun p => (kTD p.1, p.2)) → KtAll K G kv kvs
  | kv, [], h => by cases h; exact .nil
  | kv, (k, d) :: kvs, h => by
    simp only [List.map_cons] at h
    generalize hq : (kTD k, d) = q at h
    cases h with
    | @cons k2 v r d2 ds h1 h2 =>
      simp only [kTD, Prod.mk.injEq, PyData.tuple.injEq] at hq
      obtain ⟨e1, rfl⟩ := hq
      exact .cons ⟨(kDs_inj e1).symm, h1⟩ (kt_data h2)
theorem kt_toData : ∀ {kv : List (List Key × V)} {kvs : List (List Key × PyData)}, KtAll K G kv kvs → DpKt K G kv (kvs.map fun p => (kTD p.1, p.2))
  | _, _, .nil => .nil
  | (k1, v1) :: kv, (k2, d2) :: kvs, .cons r t => by
    obtain ⟨e, hd⟩ := r
    simp only at e
    subst e
    exact .cons hd (kt_toData t)
theorem kk_data : ∀ {kv : List (Key × V)} {kvs : List (Key × PyData)}, DpKv K G kv (kvs.map fun p => (kD p.1, p.2)) → KvAll K G kv kvs
  | kv, [], h => by cases h; exact .nil
  | kv, (k, d) :: kvs, h => by
    simp only [List.map_cons] at h
    generalize hq : (kD k, d) = q at h
    cases h with
    | @cons k2 v r d2 ds h1 h2 =>
      simp only [Prod.mk.injEq] at hq
      obtain ⟨e1, rfl⟩ := hq
      exact .cons ⟨(kD_inj e1).symm, h1⟩ (kk_data h2)
theorem kk_toData : ∀ {kv : List (Key × V)} {kvs : List (Key × PyData)}, KvAll K G kv kvs → DpKv K G kv (kvs.map fun p => (kD p.1, p.2))
  | _, _, .nil => .nil
  | (k1, v1) :: kv, (k2, d2) :: kvs, .cons r t => by
    obtain ⟨e, hd⟩ := r
    simp only at e
    subst e
    exact .cons hd (kk_toData t)
theorem kv_none {k : Key} : ∀ {kv : List (Key × V)} {kvs : List (Key × PyData)}, KvAll K G kv kvs → valP kvs k = none → valV kv k = none
  | _, _, .nil, _ => rfl
  | (k1, v1) :: kv, (k2, d2) :: kvs, .cons r t, h => by
    obtain ⟨e, hd⟩ := r
    simp only at e
    subst e
    by_cases z : k1 = k
    · have h2 : valP ((k1, d2) :: kvs) k = some d2 := by simp [valP, List.find?_cons, z]
      rw [h2] at h; cases h
    · have h2 : valP ((k1, d2) :: kvs) k = valP kvs k := by simp [valP, List.find?_cons, z]
      rw [h2] at h
      rw [valV_neg z]
      exact kv_none t h
theorem kD_ne {k : Key} : kD k ≠ .none := by cases k <;> exact fun z => nomatch z
theorem dp_dT {v : V} {kvs : List (List Key × PyData)} (h : Dp K G v (dTD kvs)) : ∃ a kv, v = .ref a ∧ Rd G a (.dT kv) ∧ KtAll K G kv kvs := by
  unfold dTD at h
  generalize hq : ((PyData.none, PyData.none) :: kvs.map fun p => (kTD p.1, p.2)) = q at h
  cases h with
  | dct h1 h2 =>
    cases h2 with
    | nil => simp at hq
    | cons => simp at hq; exact absurd hq.1.1.symm kD_ne
  | dctT h1 h2 =>
    simp at hq
    subst hq
    exact ⟨_, _, rfl, h1, kt_data h2⟩
theorem dp_dK {v : V} {kvs : List (Key × PyData)} (h : Dp K G v (dKD kvs)) : ∃ a kv, v = .ref a ∧ Rd G a (.dK kv) ∧ KvAll K G kv kvs := by
  unfold dKD at h
  generalize hq : (kvs.map fun p => (kD p.1, p.2)) = q at h
  cases h with
  | dct h1 h2 => subst hq; exact ⟨_, _, rfl, h1, kk_data h2⟩
  | dctT h1 h2 =>
    cases kvs with
    | nil => simp at hq
    | cons p r => simp at hq; exact absurd hq.1.1 kD_ne
theorem dpAll_keys : ∀ {ks : List Key} {vs : List V}, DpAll K G vs (ks.map kD) → vs = ks.map kV
  | [], _, h => by cases h; rfl
  | k :: ks, _, h => by
    cases h with
    | cons h1 h2 => rw [dp_key h1, dpAll_keys h2]; rfl
end
section
variable {K : PySem.W.Frag} {ρ : List Slot} {β : Bt} {P : PyData → Bt → Prop} {E : Out}
theorem slot_key {os : List Addr} {H : Hp} {σ : L2.St} {i : Nat} {ks : List Key} (hs : SlotsR K (Off os H) σ ρ) (h : ρ[i]? = some (.key ks)) : ∃ b, σ[i]? = some (some (.ref b)) ∧ H b = some (.tup (ks.map kV)) := by
  obtain ⟨o, e, b, rfl, hb⟩ := slotsR_get hs h
  exact ⟨b, e, (off_some hb).2⟩
theorem slot_dat {os : List Addr} {H : Hp} {σ : L2.St} {i : Nat} {d : PyData} (hs : SlotsR K (Off os H) σ ρ) (h : ρ[i]? = some (.dat d)) : ∃ v, σ[i]? = some (some v) ∧ Dp K (Off os H) v d := by
  obtain ⟨o, e, v, rfl, hv⟩ := slotsR_get hs h
  exact ⟨v, e, hv⟩
/-- d[a, b] = e, d owned -/
theorem ws_putT {i : Nat} {b : Addr} {te : TE} {ta : TA} (hi : ρ[i]? = some (.raw (.ref b)))
    (h : WE K te ρ β fun d β1 => WA K ta ρ β1 fun ys β2 => ∃ (j : Nat) (ks : List Key) (kvs : List (List Key × PyData)), ys = ks.map kD ∧ ks.length ≤ 1000 ∧ β2[j]? = some (b, .dcT kvs) ∧ kvs.length ≤ 1000000 ∧ E.nx ρ (β2.set j (b, .dcT (putT kvs ks d)))) :
    WS K (tAsg te (gSub (tVar i) (tTup ta) rSetD)) ρ β E := fun os0 H0 os H σ D r hk hs x => by
  refine h os H σ _ hk hs fun v H1 d β1 p e k hk1 dv => ?_
  refine ⟨.ref b, slot_raw (slots_keep hk k hs) hi, p os H1 σ _ hk1 (slots_keep hk k hs) fun ys H2 yd β2 p2 e2 k2 hk2 dy => ?_⟩
  obtain ⟨j, ks, kvs, rfl, hn, hj, hl, hE⟩ := p2
  obtain rfl := dpAll_keys dy
  refine ⟨by rw [List.length_map]; exact Nat.le_trans hn (by decide), fun t ht => ?_⟩
  have s3 := same_new (o := .tup (ks.map kV)) ht
  have hk3 := hk2.mono s3
  obtain ⟨hbo, _, hb, kv, rfl, hkv⟩ := own_get hk3.own hj
  have hz : kv.length < sizeLine := Nat.lt_of_le_of_lt (by rw [kt_len hkv]; exact hl) (by decide)
  refine ⟨b, _, rfl, DPut.t (k := ks) hb upd_same hz, ?_⟩
  have dv3 := dp_mono (off_same s3) _ _ (dp_keep hk1 k2 dv)
  generalize upd H2 t (.tup (ks.map kV)) = H3 at *
  have kp : ∀ a o, a ≠ b → H3 a = some o → (upd H3 b (.dT (putK kv ks v))) a = some o := fun a o ha q => by rw [upd_ne ha]; exact q
  have hk4 := hok_set (bx' := .dcT (putT kvs ks d)) hk3 hj kp ⟨_, upd_same, _, rfl, by rw [off_updIn hbo]; exact kt_put hkv dv3⟩
  have e12 := e2.trans e
  have k12 := keep_trans e12 (keep_trans e k k2) (Keep.same s3)
  have e13 := (dom_set (bx' := .dcT (putT kvs ks d)) hj).trans e12
  have k13 := keep_trans e12 k12 (keep_one hj kp)
  exact x.nx os σ _ ρ _ hE (r.step e13 k13) (DK.of hk k13) hk4 (slots_keep hk k13 hs)
/-- d[k] = e, d owned, k a key -/
theorem ws_putTk {i ki : Nat} {b : Addr} {te : TE} {ks : List Key} (hi : ρ[i]? = some (.raw (.ref b))) (hki : ρ[ki]? = some (.key ks))
    (h : WE K te ρ β fun d β2 => ∃ (j : Nat) (kvs : List (List Key × PyData)), β2[j]? = some (b, .dcT kvs) ∧ kvs.length ≤ 1000000 ∧ E.nx ρ (β2.set j (b, .dcT (putT kvs ks d)))) :
    WS K (tAsg te (gSub (tVar i) (tVar ki) rSetD)) ρ β E := fun os0 H0 os H σ D r hk hs x => by
  refine h os H σ _ hk hs fun v H3 d β2 p e k12 hk3 dv3 => ?_
  obtain ⟨j, kvs, hj, hl, hE⟩ := p
  obtain ⟨t, et, ht⟩ := slot_key (slots_keep hk k12 hs) hki
  refine ⟨.ref b, slot_raw (slots_keep hk k12 hs) hi, .ref t, et, ?_⟩
  obtain ⟨hbo, _, hb, kv, rfl, hkv⟩ := own_get hk3.own hj
  have hz : kv.length < sizeLine := Nat.lt_of_le_of_lt (by rw [kt_len hkv]; exact hl) (by decide)
  refine ⟨b, _, rfl, DPut.t (k := ks) hb ht hz, ?_⟩
  have kp : ∀ a o, a ≠ b → H3 a = some o → (upd H3 b (.dT (putK kv ks v))) a = some o := fun a o ha q => by rw [upd_ne ha]; exact q
  have hk4 := hok_set (bx' := .dcT (putT kvs ks d)) hk3 hj kp ⟨_, upd_same, _, rfl, by rw [off_updIn hbo]; exact kt_put hkv dv3⟩
  have e13 := (dom_set (bx' := .dcT (putT kvs ks d)) hj).trans e
  have k13 := keep_trans e k12 (keep_one hj kp)
  exact x.nx os σ _ ρ _ hE (r.step e13 k13) (DK.of hk k13) hk4 (slots_keep hk k13 hs)
/-- d.get(k, x), d owned, k a key -/
theorem we_getTk {i ki j : Nat} {b : Addr} {tx : TE} {ks : List Key} {kvs : List (List Key × PyData)} (hi : ρ[i]? = some (.raw (.ref b))) (hki : ρ[ki]? = some (.key ks)) (hj0 : β[j]? = some (b, .dcT kvs))
    (h : WE K tx ρ β fun z β1 => β1[j]? = some (b, .dcT kvs) ∧ P ((valT kvs ks).getD z) β1) : WE K (tDGet2 (tVar i) (tVar ki) tx) ρ β P := fun os H σ Q hk hs q => by
  obtain ⟨_, _, hb0, kv0, rfl, _⟩ := own_get hk.own hj0
  obtain ⟨t, et, ht⟩ := slot_key hs hki
  refine ⟨.ref b, slot_raw hs hi, b, rfl, .inr ⟨kv0, .inl hb0⟩, .ref t, et, h os H σ _ hk hs fun z H1 zd β1 p e k hk1 dz => ?_⟩
  obtain ⟨hj, p⟩ := p
  obtain ⟨_, _, hb, kv, rfl, hkv⟩ := own_get hk1.own hj
  obtain ⟨t', et', ht'⟩ := slot_key (slots_keep hk k hs) hki
  rw [et] at et'
  cases et'
  refine ⟨_, DGet.t (k := ks) hb ht', ?_⟩
  obtain ⟨h1, h2⟩ := kt_val (k := ks) hkv
  cases hv : valT kvs ks with
  | none =>
    rw [h2 hv]
    rw [hv] at p
    exact q z H1 zd β1 p e k hk1 dz
  | some d =>
    obtain ⟨v, e1, e2⟩ := h1 d hv
    rw [e1]
    rw [hv] at p
    exact q v H1 d β1 p e k hk1 e2
/-- d[a, b], d owned -/
theorem we_ixTO {i j : Nat} {b : Addr} {ta : TA} (hi : ρ[i]? = some (.raw (.ref b)))
    (h : WA K ta ρ β fun ys β1 => ∃ (ks : List Key) (kvs : List (List Key × PyData)) (d : PyData), ys = ks.map kD ∧ ks.length ≤ 1000 ∧ β1[j]? = some (b, .dcT kvs) ∧ valT kvs ks = some d ∧ P d β1) : WE K (tDGet (tVar i) (tTup ta)) ρ β P := fun os H σ Q hk hs q => by
  refine ⟨.ref b, slot_raw hs hi, h os H σ _ hk hs fun ys H1 yd β1 p e k hk1 dy => ?_⟩
  obtain ⟨ks, kvs, d, rfl, hn, hj, hv, p⟩ := p
  obtain rfl := dpAll_keys dy
  refine ⟨by rw [List.length_map]; exact Nat.le_trans hn (by decide), fun t ht => ?_⟩
  have s3 := same_new (o := .tup (ks.map kV)) ht
  have hk3 := hk1.mono s3
  obtain ⟨_, _, hb, kv, rfl, hkv⟩ := own_get hk3.own hj
  obtain ⟨w, h1, h2⟩ := (kt_val (k := ks) hkv).1 d hv
  refine ⟨b, w, rfl, ?_, q w _ d β1 p e (keep_trans e k (Keep.same s3)) hk3 h2⟩
  rw [← h1]
  exact DGet.t hb upd_same
/-- t[k], t data, k a key -/
theorem we_ixTd {i ki : Nat} {ks : List Key} {kvs : List (List Key × PyData)} {d : PyData} (hi : ρ[i]? = some (.dat (dTD kvs))) (hki : ρ[ki]? = some (.key ks)) (hv : valT kvs ks = some d) (p : P d β) : WE K (tDGet (tVar i) (tVar ki)) ρ β P := fun os H σ Q hk hs q => by
  obtain ⟨v, ev, dv⟩ := slot_dat hs hi
  obtain ⟨t, et, ht⟩ := slot_key hs hki
  obtain ⟨a, kv, rfl, hr, hkv⟩ := dp_dT dv
  obtain ⟨w, h1, h2⟩ := (kt_val (k := ks) hkv).1 d hv
  refine ⟨_, ev, _, et, a, w, rfl, ?_, q w H d β p rfl (Keep.refl _ _) hk h2⟩
  rw [← h1]
  exact .inr ⟨kv, ks, t, rd_mono (off_le os H) hr, rfl, ht, rfl⟩
/-- s.get(k, x), s data by keys -/
theorem we_getKd {i : Nat} {ti tx : TE} {kvs : List (Key × PyData)} (hi : ρ[i]? = some (.dat (dKD kvs)))
    (h : WE K ti ρ β fun y β1 => ∃ k : Key, y = kD k ∧ WE K tx ρ β1 fun z β2 => P ((valP kvs k).getD z) β2) : WE K (tDGet2 (tVar i) ti tx) ρ β P := fun os H σ Q hk hs q => by
  obtain ⟨v, ev, dv⟩ := slot_dat hs hi
  obtain ⟨a, kv, rfl, hr, hkv⟩ := dp_dK dv
  refine ⟨_, ev, a, rfl, .inl ⟨kv, rd_mono (off_le os H) hr⟩, h os H σ _ hk hs fun y H1 yd β1 p e k hk1 dy => ?_⟩
  obtain ⟨ky, rfl, p⟩ := p
  have hs1 := slots_keep hk k hs
  refine p os H1 σ _ hk1 hs1 fun z H2 zd β2 p2 e2 k2 hk2 dz => ?_
  obtain ⟨v', ev', dv'⟩ := slot_dat (slots_keep hk1 k2 hs1) hi
  rw [ev] at ev'
  cases ev'
  obtain ⟨a', kv', ea, hr', hkv'⟩ := dp_dK dv'
  cases ea
  have e12 := e2.trans e
  have k12 := keep_trans e k k2
  rw [dp_key dy]
  refine ⟨valV kv' ky, .inl ⟨kv', ky, rd_mono (off_le os H2) hr', rfl, rfl⟩, ?_⟩
  cases hv : valP kvs ky with
  | none =>
    rw [kv_none hkv' hv]
    rw [hv] at p2
    exact q z H2 zd β2 p2 e12 k12 hk2 dz
  | some d =>
    obtain ⟨w, e1, e2⟩ := kv_val hkv' hv
    rw [e1]
    rw [hv] at p2
    exact q w H2 d β2 p2 e12 k12 hk2 e2
end
end DS

set_option Elab.async false
set_option linter.all false
set_option maxRecDepth 100000
set_option maxHeartbeats 4000000
/-! DS12: walks over a locked dict; freezing; two-clause comprehensions; owned comprehensions. -/
namespace DS
open PySem PySem.Spec PyProof.Rows L2
section
variable {K : PySem.W.Frag}
theorem sim_lock {os : List Addr} {H : Hp} {d : Addr} {u : HO} {q : Obj} (h : H d = some u) (mu : Mut (some u)) : Sim (Off os H) (Off os (upd H d (.frz q u))) := fun a o e => by
  obtain ⟨h1, h2⟩ := off_some e
  by_cases hd : a = d
  · subst hd
    rw [h] at h2
    cases h2
    exact .inr (.inl ⟨mu, q, by rw [off_out h1, upd_same]⟩)
  · exact .inl (by rw [off_out h1, upd_ne hd]; exact h2)
theorem sim_free {os : List Addr} {H : Hp} {d : Addr} {u : HO} {q : Obj} (h : H d = some (.frz q u)) (mu : Mut (some u)) : Sim (Off os H) (Off os (upd H d u)) := fun a o e => by
  obtain ⟨h1, h2⟩ := off_some e
  by_cases hd : a = d
  · subst hd
    rw [h] at h2
    cases h2
    exact .inr (.inr ⟨q, u, rfl, mu, by rw [off_out h1, upd_same]⟩)
  · exact .inl (by rw [off_out h1, upd_ne hd]; exact h2)
theorem slotR_sim {H H' : Hp} (e : Sim H H') {o : Option V} {s : Slot} (h : SlotR K H o s) : SlotR K H' o s := by
  cases s with
  | no => trivial
  | dat d => obtain ⟨v, h1, h2⟩ := h; exact ⟨v, h1, dp_sim e v d h2⟩
  | raw v => exact h
  | key ks =>
    obtain ⟨b, h1, h2⟩ := h
    refine ⟨b, h1, ?_⟩
    rcases e b _ h2 with h3 | ⟨h3, _⟩ | ⟨q, u, h3, _⟩
    · exact h3
    · cases h3
    · cases h3
theorem slotsR_sim {H H' : Hp} (e : Sim H H') : ∀ {σ : List (Option V)} {ρ : List Slot}, SlotsR K H σ ρ → SlotsR K H' σ ρ
  | [], [], _ => trivial
  | _ :: _, _ :: _, h => ⟨slotR_sim e h.1, slotsR_sim e h.2⟩
  | [], _ :: _, h => h.elim
  | _ :: _, [], h => h.elim
theorem own_sim {os : List Addr} {H H' : Hp} (e : Sim (Off os H) (Off os H')) : ∀ {β : Bt}, (∀ a ∈ dom β, H' a = H a) → OwnR K os H β → OwnR K os H' β
  | [], _, _ => trivial
  | (a, c) :: β, hm, ⟨h1, ⟨o, h2, h3⟩, h4⟩ => ⟨h1, ⟨o, by rw [hm a (by simp)]; exact h2, ocR_sim e h3⟩, own_sim e (fun b hb => hm b (List.mem_cons_of_mem _ hb)) h4⟩
end
section
variable {K : PySem.W.Frag} {ρ : List Slot} {β : Bt} {P : PyData → Bt → Prop} {E : Out}
/-- the walk over a dict's keys: locked if it isn't yet -/
def tForK (te : TE) (g : TG) (tb : TS) : TS := fun D σ H => tLock (tFor (iKeys te) g tb) D σ H ∨ tFor (iKeys te) g tb D σ H
theorem ps_forK {X : Cx} {st : Stmt} {te : TE} {g : TG} {tb : TS} (h : PS X st (tFor (iKeys te) g tb)) : PS X st (tForK te g tb) := ⟨fun pins s σ H D I hw => by
  rcases hw with hw | hw
  · exact (ps_lock h).run pins s σ H D I hw
  · exact h.run pins s σ H D I hw⟩
/-- the walk itself, the dict locked -/
theorem ws_walkKeys {ti i : Nat} {tb : TS} {kvs : List (List Key × PyData)} {Inv : Nat → List Slot → Bt → Prop} {os : List Addr} {H : Hp} {σ : L2.St} {D : Ends} {d : Addr} {o : Obj} {kv : List (List Key × V)}
    (hi : σ[ti]? = some (some (.ref d))) (hd : H d = some (.frz o (.dT kv))) (hdo : d ∉ dom β) (hkv : kv.map (·.1) = kvs.map (·.1)) (hk : Hok K os H β) (hs : SlotsR K (Off os H) σ ρ) (h0 : Inv 0 ρ β)
    (hstep : ∀ j p ρ' β', kvs[j]? = some p → Inv j ρ' β' → WS K tb (ρ'.set i (.key p.1)) β' { base := dom β, nx := Inv (j + 1), rt := fun _ _ => False, ct := Inv (j + 1) })
    (hend : ∀ os' σ' H' ρ' β', Inv kvs.length ρ' β' → Reach os (dom β) H os' β' H' → DK K os H os' H' → Hok K os' H' β' → SlotsR K (Off os' H') σ' ρ' → H' d = some (.frz o (.dT kv)) → D.nx σ' H') :
    tFor (iKeys (tVar ti)) (gName i) tb D σ H := by
  have hlen : kv.length = kvs.length := by have := congrArg List.length hkv; simpa using this
  refine ⟨_, hi, d, o, rfl, .inr ⟨kv, hd, ?_⟩⟩
  refine ⟨fun j m σ' H' => j ≤ kvs.length ∧ m = kvs.length - j ∧ ∃ os' ρ' β', Inv j ρ' β' ∧ Reach os (dom β) H os' β' H' ∧ DK K os H os' H' ∧ Hok K os' H' β' ∧ SlotsR K (Off os' H') σ' ρ',
    ⟨_, Nat.zero_le _, rfl, os, ρ, β, h0, ⟨fun _ h => h, fun _ _ _ h => h, fun _ h => h, fun _ h => .inl h, hk.trk⟩, DK.refl, hk, hs⟩, fun j m σ' H' w => ?_⟩
  obtain ⟨hj, rfl, os', ρ', β', hInv, r', dk, hk', hs'⟩ := w
  have hd' : H' d = some (.frz o (.dT kv)) := r'.keep d _ hdo hd
  by_cases hlt : j < kvs.length
  · refine .inr ⟨⟨hd', by rw [hlen]; exact hlt⟩, fun σ2 H2 => ∃ os2 ρ2 β2, Inv (j + 1) ρ2 β2 ∧ Reach os (dom β) H os2 β2 H2 ∧ DK K os H os2 H2 ∧ Hok K os2 H2 β2 ∧ SlotsR K (Off os2 H2) σ2 ρ2,
      fun σ2 H2 w => ⟨kvs.length - (j + 1), by omega, by omega, rfl, w⟩, fun y H2 hy => ?_⟩
    obtain ⟨rfl, ks, v, q, e1, rfl, hq⟩ := hy
    have hp : kvs[j]? = some kvs[j] := List.getElem?_eq_getElem hlt
    have ek : ks = kvs[j].1 := by
      have a1 : (kv.map (·.1))[j]? = some ks := by rw [List.getElem?_map, e1]; rfl
      rw [hkv, List.getElem?_map, hp] at a1
      exact (Option.some.inj a1).symm
    subst ek
    have hq' : q ∉ os' ∨ q ∈ os' := (Classical.em (q ∈ os')).symm
    rcases hq' with hq' | hq'
    · refine hstep j _ ρ' β' hp hInv os H os' H2 _ _ r' hk' (slotsR_set (s := .key kvs[j].1) ⟨q, rfl, by rw [off_out hq']; exact hq⟩ i hs')
        ⟨fun os4 σ4 H4 ρ4 β4 a b c d f => ⟨os4, ρ4, β4, a, b, dk.trans c, d, f⟩, fun os4 v H4 d4 β4 a b c d f => a.elim, fun os4 σ4 H4 ρ4 β4 a b c d f => a.elim,
         fun os4 σ4 H4 ρ4 β4 a b c d f => ⟨os4, ρ4, β4, a, b, dk.trans c, d, f⟩⟩
    · obtain ⟨o2, e2, e3⟩ := hk'.trk q hq'
      rw [hq] at e2
      cases e2
      exact absurd rfl (e3 _)
  · have hl : j = kvs.length := by omega
    subst hl
    exact .inl ⟨⟨hd', by rw [hlen]; exact Nat.le_refl _⟩, hend os' σ' H' ρ' β' hInv r' dk hk' hs' hd'⟩
theorem kt_keys {G : Hp} : ∀ {kv : List (List Key × V)} {kvs : List (List Key × PyData)}, KtAll K G kv kvs → kv.map (·.1) = kvs.map (·.1)
  | _, _, .nil => rfl
  | _, _, .cons r t => by rw [List.map_cons, List.map_cons, r.1, kt_keys t]
theorem reach_comp {os0 b0 os os' : List Addr} {H0 H H' : Hp} {β' : Bt} (r : Reach os0 b0 H0 os β H) (r' : Reach os (dom β) H os' β' H') : Reach os0 b0 H0 os' β' H' where
  os := fun a h => r'.os a (r.os a h)
  keep := fun a o h1 h2 => r'.keep a o (fun z => by
    rcases r.nw a z with w | w
    · exact h1 w
    · rw [h2] at w; cases w) (r.keep a o h1 h2)
  dom := fun a h => r'.dom a (r.dom a h)
  nw := fun a h => by
    rcases r'.nw a h with w | w
    · exact r.nw a w
    · by_cases hb : a ∈ b0
      · exact .inl hb
      · right
        cases q : H0 a with
        | none => rfl
        | some o => rw [r.keep a o hb q] at w; cases w
  trk := r.trk
theorem reach_free {os0 b0 os os' : List Addr} {H0 H H' : Hp} {β' : Bt} {d : Addr} {u F : HO} (r : Reach os0 b0 H0 os β H) (hd : H d = some u) (r' : Reach os (dom β) (upd H d F) os' β' H') : Reach os0 b0 H0 os' β' (upd H' d u) where
  os := fun a h => r'.os a (r.os a h)
  keep := fun a o h1 h2 => by
    have q := r.keep a o h1 h2
    by_cases e : a = d
    · subst e; rw [hd] at q; cases q; exact upd_same
    · rw [upd_ne e]
      refine r'.keep a o (fun z => ?_) (by rw [upd_ne e]; exact q)
      rcases r.nw a z with w | w
      · exact h1 w
      · rw [h2] at w; cases w
  dom := fun a h => r'.dom a (r.dom a h)
  nw := fun a h => by
    rcases r'.nw a h with w | w
    · exact r.nw a w
    · by_cases hb : a ∈ b0
      · exact .inl hb
      · right
        have e : a ≠ d := fun z => by rw [z, upd_same] at w; cases w
        rw [upd_ne e] at w
        cases q : H0 a with
        | none => rfl
        | some o => rw [r.keep a o hb q] at w; cases w
  trk := r.trk
/-- for k in d: .., d a dict of tuple keys told as data; the body neither returns nor breaks -/
theorem ws_forKeys {ti i : Nat} {tb : TS} {kvs : List (List Key × PyData)} (hti : ρ[ti]? = some (.dat (dTD kvs))) (Inv : Nat → List Slot → Bt → Prop) (h0 : Inv 0 ρ β)
    (hstep : ∀ j p ρ' β', kvs[j]? = some p → Inv j ρ' β' → WS K tb (ρ'.set i (.key p.1)) β' { base := dom β, nx := Inv (j + 1), rt := fun _ _ => False, ct := Inv (j + 1) })
    (hend : ∀ ρ' β', Inv kvs.length ρ' β' → E.nx ρ' β') : WS K (tForK (tVar ti) (gName i) tb) ρ β E := fun os0 H0 os H σ D r hk hs x => by
  obtain ⟨v, ev, dv⟩ := slot_dat hs hti
  obtain ⟨d, kv, rfl, hr, hkv⟩ := dp_dT dv
  have hkeys : kv.map (·.1) = kvs.map (·.1) := kt_keys hkv
  have hdo : d ∉ os := fun z => by
    rcases hr with hr | ⟨o, hr⟩ <;> exact (off_some hr).1 z
  have hdd : d ∉ dom β := fun z => hdo (hk.mem d z)
  rcases hr with hr | ⟨o, hr⟩
  · have hd := (off_some hr).2
    refine .inl ⟨d, _, hd, trivial, fun od => ?_⟩
    have sm : Sim (Off os H) (Off os (upd H d (.frz od (.dT kv)))) := sim_lock hd trivial
    have hk2 : Hok K os (upd H d (.frz od (.dT kv))) β := ⟨fun a ha => (hk.trk a ha).same fun o q => by rw [upd_ne fun z => hdo (by rw [← z]; exact ha)]; exact q, hk.nd, own_sim sm (fun a ha => upd_ne fun z => hdd (by rw [← z]; exact ha)) hk.own⟩
    refine ws_walkKeys (kvs := kvs) (Inv := Inv) ev upd_same hdd hkeys hk2 (slotsR_sim sm hs) h0 hstep fun os' σ' H' ρ' β' hI r' dk hk' hs' hd' => ⟨hd', ?_⟩
    have sf : Sim (Off os' H') (Off os' (upd H' d (.dT kv))) := sim_free hd' trivial
    have hdd' : d ∉ dom β' := fun z => by
      rcases r'.nw d z with w | w
      · exact hdd w
      · rw [upd_same] at w; cases w
    refine x.nx os' σ' _ ρ' β' (hend ρ' β' hI) (reach_free r hd r') (fun v dd h => dp_sim sf _ _ (dk _ _ (dp_sim sm _ _ h))) ⟨fun a ha => ?_, hk'.nd, own_sim sf (fun a ha => upd_ne fun z => hdd' (by rw [← z]; exact ha)) hk'.own⟩ (slotsR_sim sf hs')
    by_cases e : a = d
    · rw [e]; exact ⟨_, upd_same, fun _ z => nomatch z⟩
    · exact (hk'.trk a ha).same fun o q => by rw [upd_ne e]; exact q
  · have hd := (off_some hr).2
    refine .inr (ws_walkKeys (kvs := kvs) (Inv := Inv) ev hd hdd hkeys hk hs h0 hstep fun os' σ' H' ρ' β' hI r' dk hk' hs' hd' => ?_)
    exact x.nx os' σ' _ ρ' β' (hend ρ' β' hI) (reach_comp r r') dk hk' hs'
/-! ### an owned thing that is not the entry's is data from here on -/
def ocD : Oc → PyData
  | .lst ds => .list ds
  | .dct kvs => dKD kvs
  | .dcT kvs => dTD kvs
theorem ocR_data {os : List Addr} {H : Hp} {b : Addr} {c : Oc} {o : HO} (hb : b ∉ os) (h : H b = some o) (hc : OcR K (Off os H) c o) : Dp K (Off os H) (.ref b) (ocD c) := by
  have hr : Off os H b = some o := by rw [off_out hb]; exact h
  cases c with
  | lst ds => obtain ⟨vs, rfl, hd⟩ := hc; exact .lst (.inl hr) hd
  | dct kvs => obtain ⟨kv, rfl, hd⟩ := hc; exact .dct (.inl hr) (kk_toData hd)
  | dcT kvs => obtain ⟨kv, rfl, hd⟩ := hc; exact .dctT (.inl hr) (kt_toData hd)
theorem ws_frzX {i j : Nat} {b : Addr} {bx : Oc} {t : TS} (hi : ρ[i]? = some (.raw (.ref b))) (hj : β[j]? = some (b, bx)) (hb : b ∉ E.base) (h : WS K t (ρ.set i (.dat (ocD bx))) (β.eraseIdx j) E) : WS K t ρ β E := fun os0 H0 os H σ D r hk hs x => by
  obtain ⟨hbo, ob, hbv, hd⟩ := own_get hk.own hj
  have sub : ∀ a ∈ dropA b os, a ∈ os := fun a h => (mem_dropA.mp h).1
  have hb0 : b ∉ os0 := fun z => by
    rcases r.nw b (mem_dom hj) with q | q
    · exact hb q
    · exact (r.trk b z).ne q
  have nd : (dom (β.eraseIdx j)).Nodup := by
    exact hk.nd.sublist ((List.eraseIdx_sublist _ _).map _)
  have hk2 : Hok K (dropA b os) H (β.eraseIdx j) := ⟨fun a h => hk.trk a (sub a h), nd, own_erase hk.nd hk.own hj⟩
  have hs2 : SlotsR K (Off (dropA b os) H) σ ρ := slotsR_mono (off_sub sub) hs
  have e := slot_raw hs hi
  have hs3 : SlotsR K (Off (dropA b os) H) (σ.set i (some (.ref b))) (ρ.set i (.dat (ocD bx))) :=
    slotsR_set (sdat (ocR_data (fun z => (mem_dropA.mp z).2 rfl) hbv (ocR_mono (off_sub sub) hd))) i hs2
  have es : σ.set i (some (.ref b)) = σ := by
    refine List.ext_getElem? fun k => ?_
    rw [List.getElem?_set]
    split
    · rename_i z
      subst z
      rw [e]
      split
      · rfl
      · rename_i z2
        have := (List.getElem?_eq_some_iff.mp e).1
        omega
    · rfl
  rw [es] at hs3
  refine h os0 H0 _ H σ D ⟨fun a h => mem_dropA.mpr ⟨r.os a h, fun z => hb0 (by rw [← z]; exact h)⟩, r.keep, fun a h => erase_mem hj (fun z => hb (by rw [← z]; exact h)) (r.dom a h), fun a h => r.nw a (mem_erase h), r.trk⟩ hk2 hs3
    (x.step fun v d hd => dp_mono (off_sub sub) _ _ hd)
/-! ### enumerate, zip -/
def enD (ds : List PyData) : List PyData := (List.range ds.length).map fun i => .tuple [.int (i : Nat), ds.getD i .none]
theorem enD_get {ds : List PyData} {i : Nat} {d : PyData} (h : (enD ds)[i]? = some d) : ∃ x, ds[i]? = some x ∧ d = .tuple [.int (i : Nat), x] := by
  unfold enD at h
  rw [List.getElem?_map] at h
  by_cases hi : i < ds.length
  · rw [List.getElem?_range hi] at h
    refine ⟨ds[i], List.getElem?_eq_getElem hi, ?_⟩
    have := Option.some.inj h
    rw [← this]
    simp [List.getD_eq_getElem?_getD, List.getElem?_eq_getElem hi]
  · rw [List.getElem?_eq_none (by rw [List.length_range]; omega)] at h; cases h
theorem enD_len {ds : List PyData} : (enD ds).length = ds.length := by unfold enD; rw [List.length_map, List.length_range]
theorem itd_enum {a : Addr} {ds : List PyData} : ItD K (Ite K a) [(.ref a, .list ds)] (enD ds) where
  go := fun os H i h hi => by
    obtain ⟨b, vs, e, h1, h2⟩ := dp_lst (h _ List.mem_cons_self)
    cases e
    have hl := dpAll_len h2
    rw [enD_len] at hi
    exact ⟨vs, vs[i]'(by omega), (off_le os _).seq h1, List.getElem?_eq_getElem _⟩
  stop := fun os H h => by
    obtain ⟨b, vs, e, h1, h2⟩ := dp_lst (h _ List.mem_cons_self)
    cases e
    have hl := dpAll_len h2
    exact ⟨vs, (off_le os H).seq h1, by rw [enD_len]; omega⟩
  yld := fun os H i x H' d ht h hd hy => by
    obtain ⟨b, vs, e, h1, h2⟩ := dp_lst (h _ List.mem_cons_self)
    cases e
    obtain ⟨T, z, rfl, hT, rfl, hv⟩ := hy
    obtain ⟨w, hw, rfl⟩ := enD_get hd
    obtain ⟨v, hv2, hd2⟩ := dpAll_get h2 hw
    have t := hv vs ((off_le os _).seq h1)
    rw [hv2] at t
    obtain rfl := Option.some.inj t
    have s := same_new (o := .tup [.int (i : Nat), v]) hT
    exact ⟨s, .tup (.inl (.inl (off_upd fun z => (ht T z).ne hT))) (.cons (.int _) (.cons (dp_mono (off_same s) _ _ hd2) .nil))⟩
variable {PL : List PyData → Bt → Prop}
theorem wi_enum {ta : TA} (h : WA K ta ρ β fun xs β1 => ∃ ds, xs = [.list ds] ∧ PL (enD ds) β1) : WI K (iEnum K ta) ρ β PL := fun os H σ R hk hs q => by
  refine h os H σ _ hk hs fun vs H1 xs β1 p e k hk1 dv => ?_
  obtain ⟨ds, rfl, p⟩ := p
  cases dv with
  | cons d1 t =>
    cases t
    obtain ⟨a, ws, rfl, h1, h2⟩ := dp_lst d1
    exact ⟨a, ws, rfl, (off_le os H1).seq h1, q _ H1 _ [(.ref a, .list ds)] β1 p e k hk1 itd_enum fun z hz => by simp at hz; rw [hz]; exact d1⟩
def zipD (xs ys : List PyData) : List PyData := List.zipWith (fun x y => .tuple [x, y]) xs ys
theorem zipD_get {xs ys : List PyData} {i : Nat} {d : PyData} (h : (zipD xs ys)[i]? = some d) : ∃ x y, xs[i]? = some x ∧ ys[i]? = some y ∧ d = .tuple [x, y] := by
  unfold zipD at h
  rw [List.getElem?_zipWith_eq_some] at h
  obtain ⟨x, y, h1, h2, h3⟩ := h
  exact ⟨x, y, h1, h2, h3.symm⟩
theorem zipD_len {xs ys : List PyData} : (zipD xs ys).length = min xs.length ys.length := by unfold zipD; rw [List.length_zipWith]
theorem itd_zipT {a b : Addr} {xs ys : List PyData} : ItD K (RZ.ItzT K a b) [(.ref a, .tuple xs), (.ref b, .tuple ys)] (zipD xs ys) where
  go := fun os H i h hi => by
    obtain ⟨a', vs, e, h1, h2⟩ := dp_tup (h _ List.mem_cons_self)
    cases e
    obtain ⟨b', ws, e, h3, h4⟩ := dp_tup (h _ (List.mem_cons_of_mem _ List.mem_cons_self))
    cases e
    have hl := dpAll_len h2
    have hl2 := dpAll_len h4
    rw [zipD_len] at hi
    exact ⟨vs, ws, vs[i]'(by omega), ws[i]'(by omega), same_seqT (off_le os _) h1, same_seqT (off_le os _) h3, List.getElem?_eq_getElem _, List.getElem?_eq_getElem _⟩
  stop := fun os H h => by
    obtain ⟨a', vs, e, h1, h2⟩ := dp_tup (h _ List.mem_cons_self)
    cases e
    obtain ⟨b', ws, e, h3, h4⟩ := dp_tup (h _ (List.mem_cons_of_mem _ List.mem_cons_self))
    cases e
    have hl := dpAll_len h2
    have hl2 := dpAll_len h4
    exact ⟨vs, ws, same_seqT (off_le os _) h1, same_seqT (off_le os _) h3, by rw [zipD_len]; omega⟩
  yld := fun os H i x H' d ht h hd hy => by
    obtain ⟨a', vs, e, h1, h2⟩ := dp_tup (h _ List.mem_cons_self)
    cases e
    obtain ⟨b', ws, e, h3, h4⟩ := dp_tup (h _ (List.mem_cons_of_mem _ List.mem_cons_self))
    cases e
    obtain ⟨T, z, z2, rfl, hT, rfl, hv, hw⟩ := hy
    obtain ⟨x1, y1, e1, e2, rfl⟩ := zipD_get hd
    obtain ⟨v, hv2, hd2⟩ := dpAll_get h2 e1
    obtain ⟨u, hu2, hd3⟩ := dpAll_get h4 e2
    have t1 := hv vs (same_seqT (off_le os _) h1)
    have t2 := hw ws (same_seqT (off_le os _) h3)
    rw [hv2] at t1
    rw [hu2] at t2
    obtain rfl := Option.some.inj t1
    obtain rfl := Option.some.inj t2
    have s := same_new (o := .tup [v, u]) hT
    exact ⟨s, .tup (.inl (.inl (off_upd fun z => (ht T z).ne hT))) (.cons (dp_mono (off_same s) _ _ hd2) (.cons (dp_mono (off_same s) _ _ hd3) .nil))⟩
theorem wi_zipT {ta : TA} (h : WA K ta ρ β fun zs β1 => ∃ xs ys, zs = [.tuple xs, .tuple ys] ∧ PL (zipD xs ys) β1) : WI K (RZ.iZipA K ta) ρ β PL := fun os H σ R hk hs q => by
  refine h os H σ _ hk hs fun vs H1 xs β1 p e k hk1 dv => ?_
  obtain ⟨xs', ys, rfl, p⟩ := p
  cases dv with
  | cons d1 t => cases t with
    | cons d2 t =>
      cases t
      obtain ⟨a, ws, rfl, h1, h2⟩ := dp_tup d1
      obtain ⟨b, us, rfl, h3, h4⟩ := dp_tup d2
      refine ⟨a, b, ws, us, rfl, .inr ⟨same_seqT (off_le os H1) h1, same_seqT (off_le os H1) h3, q _ H1 _ [(.ref a, .tuple xs'), (.ref b, .tuple ys)] β1 p e k hk1 itd_zipT fun z hz => ?_⟩⟩
      simp at hz
      rcases hz with hz | hz <;> (rw [hz]; first | exact d1 | exact d2)
end
end DS

set_option Elab.async false
set_option linter.all false
set_option maxRecDepth 100000
set_option maxHeartbeats 4000000
/-! DS13: owned comprehensions, two clauses, min, max, a list backwards, sorted keys, defaults. -/
namespace DS
open PySem PySem.Spec PyProof.Rows L2
section
variable {K : PySem.W.Frag} {ρ : List Slot} {β : Bt} {P : PyData → Bt → Prop} {E : Out}
theorem lc_raw {wi : TI} {g : TG} {tt : TT} {te : TE} {vs tg : List Nat} {P : List PyData → Bt → Prop} (htg : ∀ i ∈ tg, i ∈ vs)
    (h : WI K wi ρ β fun ds β1 => ∃ Inv : Nat → List PyData → Bt → Prop, Inv 0 [] β1 ∧
      (∀ i d acc β', ds[i]? = some d → Inv i acc β' → acc.length ≤ i → WGc K g tg d (wipeS ρ vs) fun ρ2 => WT K tt ρ2 β' fun b β2 => (b = true → WE K te ρ2 β2 fun y β3 => Inv (i + 1) (acc ++ [y]) β3) ∧ (b = false → Inv (i + 1) acc β2)) ∧
      ds.length ≤ sizeLine ∧ ∀ acc β', Inv ds.length acc β' → acc.length ≤ ds.length → P acc β') :
    ∀ (os : List Addr) (H : Hp) (σ : L2.St) (Q : VK), Hok K os H β → SlotsR K (Off os H) σ ρ →
      (∀ D H' accV acc β', P acc β' → dom β' = dom β → Keep β H H' → H D = none → D ∉ os → Hok K (D :: os) H' β' → H' D = some (.lst accV) → DpAll K (Off (D :: os) H') accV acc → Q (.ref D) H') → tLc wi g tt te vs σ H Q := fun os H σ Q hk hs q => by
  refine h os H σ _ hk hs fun J H1 ds src β1 p e k hk1 itd hsrc D hD => ?_
  obtain ⟨Inv, h0, hstep, hline, hend⟩ := p
  have hDos : D ∉ os := new_out hk1 hD
  have hD0 : H D = none := by
    cases z : H D with
    | none => rfl
    | some o => rw [k D o (fun w => hDos (hk.mem D w)) z] at hD; cases hD
  have sub : ∀ a ∈ os, a ∈ D :: os := fun a h => List.mem_cons_of_mem _ h
  -- the state between two turns
  refine ⟨fun i m H' => i ≤ ds.length ∧ m = ds.length - i ∧ ∃ accV acc β', Inv i acc β' ∧ acc.length ≤ i ∧ dom β' = dom β1 ∧ Keep β1 H1 H' ∧ Hok K (D :: os) H' β' ∧ H' D = some (.lst accV) ∧ DpAll K (Off (D :: os) H') accV acc,
    ⟨_, Nat.zero_le _, rfl, [], [], β1, h0, Nat.le_refl _, rfl, fun a o _ ha => by rw [upd_ne (ne_of_none ha hD)]; exact ha,
      ⟨fun a ha => ?_, hk1.nd, own_more hD hk1.own⟩, upd_same, .nil⟩, fun i m H' w => ?_⟩
  · rcases List.mem_cons.mp ha with ha | ha
    · rw [ha]; exact ⟨_, upd_same, fun _ z => nomatch z⟩
    · have hne : a ≠ D := fun y => hDos (by rw [← y]; exact ha)
      exact (hk1.trk a ha).same fun o q => by rw [upd_ne hne]; exact q
  obtain ⟨hi, rfl, accV, acc, β', hInv, hle, edom, kp, hk', hDv, hacc⟩ := w
  have sm : Same (Off os H1) (Off (D :: os) H') := fun b u eb => by
    obtain ⟨e1, e2⟩ := off_some eb
    have hb : b ≠ D := ne_of_none e2 hD
    rw [off_out (by simp only [List.mem_cons, not_or]; exact ⟨hb, e1⟩)]
    exact kp b u (fun z => e1 (hk1.mem b z)) e2
  have hsrc' : ∀ z ∈ src, Dp K (Off (D :: os) H') z.1 z.2 := fun z hz => dp_mono sm _ _ (hsrc z hz)
  have hsl' : SlotsR K (Off (D :: os) H') σ ρ := slotsR_mono sm (slots_keep hk k hs)
  by_cases hlt : i < ds.length
  · refine .inr ⟨itd.go _ H' i hsrc' hlt, fun H2 => ∃ accV acc β', Inv (i + 1) acc β' ∧ acc.length ≤ i + 1 ∧ dom β' = dom β1 ∧ Keep β1 H1 H2 ∧ Hok K (D :: os) H2 β' ∧ H2 D = some (.lst accV) ∧ DpAll K (Off (D :: os) H2) accV acc,
      fun H2 w => ⟨ds.length - (i + 1), by omega, by omega, rfl, w⟩, fun y H2 hy => ?_⟩
    obtain ⟨s2, dy⟩ := itd.yld _ H' i y H2 ds[i] hk'.trk hsrc' (List.getElem?_eq_getElem hlt) hy
    refine hstep i _ acc β' (List.getElem?_eq_getElem hlt) hInv hle (D :: os) H2 (wipe σ vs) y _ (slotsR_mono (off_same s2) (slots_wipe hsl' vs)) dy fun σ3 ρ3 w hs3 st => ?_
    refine ⟨(st vs htg).trans (wipe_wipe vs), ?_⟩
    have hk2 := hk'.mono s2
    refine w (D :: os) H2 σ3 _ hk2 hs3 fun b H3 β3 p3 e3 k3 hk3 => ?_
    have hDd : D ∉ dom β' := fun z => hDos (hk1.mem D (by rw [← edom]; exact z))
    have kp3 : Keep β1 H1 H3 := fun a o h1 h2 => k3 a o (by rw [edom]; exact h1) (s2 a o (kp a o h1 h2))
    have hD3 : H3 D = some (.lst accV) := k3 D _ hDd (s2 D _ hDv)
    have ha3 : DpAll K (Off (D :: os) H3) accV acc := dpAll_keep hk2 k3 (dpAll_mono (off_same s2) _ _ hacc)
    cases b with
    | true =>
      refine iteT (p3.1 rfl (D :: os) H3 σ3 _ hk3 (slots_keep hk2 k3 hs3) fun z H4 d4 β4 p4 e4 k4 hk4 dz => ?_)
      have hD4d : D ∉ dom β3 := by rw [e3]; exact hDd
      have hD4 : H4 D = some (.lst accV) := k4 D _ hD4d hD3
      have ha4 : DpAll K (Off (D :: os) H4) accV acc := dpAll_keep hk3 k4 ha3
      have hlV := dpAll_len ha4
      have edom4 : dom β4 = dom β1 := (e4.trans e3).trans edom
      refine ⟨accV, hD4, by omega, accV ++ [z], acc ++ [d4], β4, p4, by rw [List.length_append, List.length_singleton]; omega, edom4, fun a o h1 h2 => ?_, ⟨fun a ha => ?_, hk4.nd, own_upd (by simp) (by rw [e4]; exact hD4d) hk4.own⟩, upd_same, ?_⟩
      · have hb : a ≠ D := ne_of_none h2 hD
        rw [upd_ne hb]
        exact k4 a o (by rw [e3, edom]; exact h1) (kp3 a o h1 h2)
      · by_cases hb : a = D
        · rw [hb]; exact ⟨_, upd_same, fun _ z => nomatch z⟩
        · exact (hk4.trk a ha).same fun o q => by rw [upd_ne hb]; exact q
      · rw [off_updIn (by simp)]
        exact dpAll_append ha4 (.cons dz .nil)
    | false => exact iteF ⟨accV, acc, β3, p3.2 rfl, by omega, e3.trans edom, kp3, hk3, hD3, ha3⟩
  · have hl : i = ds.length := by omega
    subst hl
    refine .inl ⟨itd.stop _ H' hsrc', ?_⟩
    exact q D H' accV acc β' (hend acc β' hInv hle) (edom.trans e) (keep_trans e k kp) hD0 hDos hk' hDv hacc

theorem reach_add {os0 b0 os : List Addr} {H0 H H' : Hp} {β' : Bt} {D : Addr} {c : Oc} (r : Reach os0 b0 H0 os β H) (e : dom β' = dom β) (k : Keep β H H') (hD : H D = none) : Reach os0 b0 H0 (D :: os) (β' ++ [(D, c)]) H' := by
  have r2 := r.step e k
  refine ⟨fun a h => List.mem_cons_of_mem _ (r2.os a h), r2.keep, fun a h => ?_, fun a h => ?_, r2.trk⟩
  · unfold dom; rw [List.map_append]; exact List.mem_append.mpr (.inl (r2.dom a h))
  · unfold dom at h
    rw [List.map_append] at h
    rcases List.mem_append.mp h with h | h
    · exact r2.nw a h
    · simp at h
      subst h
      by_cases hb : a ∈ b0
      · exact .inl hb
      · right
        cases q : H0 a with
        | none => rfl
        | some o => rw [r.keep a o hb q] at hD; cases hD
/-- x = [.. for ..], owned from here on -/
theorem ws_newLc {wi : TI} {g : TG} {tt : TT} {te : TE} {vs tg : List Nat} {i : Nat} (htg : ∀ i ∈ tg, i ∈ vs)
    (h : WI K wi ρ β fun ds β1 => ∃ Inv : Nat → List PyData → Bt → Prop, Inv 0 [] β1 ∧
      (∀ i d acc β', ds[i]? = some d → Inv i acc β' → acc.length ≤ i → WGc K g tg d (wipeS ρ vs) fun ρ2 => WT K tt ρ2 β' fun b β2 => (b = true → WE K te ρ2 β2 fun y β3 => Inv (i + 1) (acc ++ [y]) β3) ∧ (b = false → Inv (i + 1) acc β2)) ∧
      ds.length ≤ sizeLine ∧ ∀ acc β', Inv ds.length acc β' → acc.length ≤ ds.length → ∀ p, p ∉ dom β' → E.nx (ρ.set i (.raw (.ref p))) (β' ++ [(p, .lst acc)])) : WS K (tAsg (tLc wi g tt te vs) (gName i)) ρ β E := fun os0 H0 os H σ D r hk hs x => by
  refine lc_raw (P := fun acc β' => ∀ p, p ∉ dom β' → E.nx (ρ.set i (.raw (.ref p))) (β' ++ [(p, .lst acc)])) htg h os H σ _ hk hs fun a H' accV acc β' p e k hD0 hDos hk' hDv hacc => ?_
  have ha : a ∉ dom β' := fun z => hDos (hk.mem a (by rw [← e]; exact z))
  have sm : Same (Off os H) (Off (a :: os) H') := fun b u eb => by
    obtain ⟨e1, e2⟩ := off_some eb
    have hb : b ≠ a := ne_of_none e2 hD0
    rw [off_out (by simp only [List.mem_cons, not_or]; exact ⟨hb, e1⟩)]
    exact k b u (fun z => e1 (hk.mem b z)) e2
  refine x.nx (a :: os) _ _ _ _ (p a ha) (reach_add r e k hD0) (fun v d hd => dp_mono sm _ _ hd) ⟨hk'.trk, ?_, own_app hk'.own ⟨by simp, ⟨_, hDv, _, rfl, hacc⟩, trivial⟩⟩
    (slotsR_set (s := .raw (.ref a)) rfl i (slotsR_mono sm hs))
  unfold dom
  rw [List.map_append, List.nodup_append]
  refine ⟨hk'.nd, by simp, fun x h y h2 z => ?_⟩
  simp at h2
  exact ha (by rw [← h2, ← z]; exact h)
/-- the same, nothing changed, place by place -/
theorem ws_newLc_ix {wi : TI} {g : TG} {te : TE} {vs tg : List Nat} {i : Nat} (htg : ∀ i ∈ tg, i ∈ vs)
    (h : WI K wi ρ β fun ds β1 => ∃ ys : List PyData, ds.length ≤ sizeLine ∧ ys.length = ds.length ∧ (∀ (i : Nat) (d y : PyData), ds[i]? = some d → ys[i]? = some y → WGc K g tg d (wipeS ρ vs) fun ρ2 => WE K te ρ2 β1 fun z β2 => z = y ∧ β2 = β1) ∧ ∀ p, p ∉ dom β1 → E.nx (ρ.set i (.raw (.ref p))) (β1 ++ [(p, .lst ys)])) :
    WS K (tAsg (tLc wi g tYes te vs) (gName i)) ρ β E := by
  refine ws_newLc htg fun os H σ R hk hs q => h os H σ R hk hs fun J H2 ds src β2 p e k hk2 itd hsrc => q J H2 ds src β2 ?_ e k hk2 itd hsrc
  obtain ⟨ys, hl, hlen, hstep, hend⟩ := p
  refine ⟨fun i acc β' => acc = ys.take i ∧ β' = β2, ⟨rfl, rfl⟩, fun i d acc β' hd ⟨h1, h2⟩ _ => ?_, hl, fun acc β' ⟨h1, h2⟩ _ => ?_⟩
  · subst h1 h2
    have hi : i < ys.length := by rw [hlen]; exact (List.getElem?_eq_some_iff.mp hd).1
    have hy : ys[i]? = some ys[i] := List.getElem?_eq_getElem hi
    refine fun os H σ v Q hs hv q => hstep i d _ hd hy os H σ v Q hs hv fun σ' ρ' p hs' st => q σ' ρ' (wt_yes ⟨fun _ => p.mono ?_, fun z => nomatch z⟩) hs' st
    rintro y β3 ⟨rfl, rfl⟩
    refine ⟨?_, rfl⟩
    rw [List.take_add_one, hy]
    rfl
  · subst h1 h2
    rw [← hlen, List.take_length]
    exact hend
/-! ### min, max of a list -/
def rMinL (K : PySem.W.Frag) : List V → Hp → VK → Prop := fun vs H Q => ∃ (a : Addr) (ns : List Int), vs = [V.ref a] ∧ SqL K H a (ns.map V.int) ∧ 0 < ns.length ∧ ∀ m, m ∈ ns → (∀ y, y ∈ ns → m ≤ y) → Q (.int m) H
def rMaxL (K : PySem.W.Frag) : List V → Hp → VK → Prop := fun vs H Q => ∃ (a : Addr) (ns : List Int), vs = [V.ref a] ∧ SqL K H a (ns.map V.int) ∧ 0 < ns.length ∧ ∀ m, m ∈ ns → (∀ y, y ∈ ns → y ≤ m) → Q (.int m) H
theorem cr_minL {X : Cx} (h : X.K = K) (hc : X.calm = true) : CallR X (.builtin "min") (rMinL K) := by subst h; exact cr_min hc
theorem cr_maxL {X : Cx} (h : X.K = K) (hc : X.calm = true) : CallR X (.builtin "max") (rMaxL K) := by subst h; exact cr_max hc
theorem dpAll_intsM {G : Hp} : ∀ {ns : List Int} {vs : List V}, DpAll K G vs (ns.map .int) → vs = ns.map .int
  | [], _, h => by cases h; rfl
  | _ :: _, _, h => by
    cases h with
    | cons h1 h2 => rw [dp_int h1, dpAll_intsM h2]; rfl
theorem rc_minL {ns : List Int} {m : Int} (h1 : m ∈ ns) (h2 : ∀ y ∈ ns, m ≤ y) : RCD K (rMinL K) [.list (ns.map .int)] (.int m) := fun os H vs Q ht hv q => by
  cases hv with
  | cons d1 t =>
    cases t
    obtain ⟨a, ws, rfl, g1, g2⟩ := dp_lst d1
    rw [dpAll_intsM g2] at g1
    refine ⟨a, ns, rfl, (off_le os H).seq g1, List.length_pos_of_mem h1, fun m' h3 h4 => ?_⟩
    rw [show m' = m from Int.le_antisymm (h4 m h1) (h2 m' h3)]
    exact q _ H (Same.refl _) (.int _)
theorem rc_maxL {ns : List Int} {m : Int} (h1 : m ∈ ns) (h2 : ∀ y ∈ ns, y ≤ m) : RCD K (rMaxL K) [.list (ns.map .int)] (.int m) := fun os H vs Q ht hv q => by
  cases hv with
  | cons d1 t =>
    cases t
    obtain ⟨a, ws, rfl, g1, g2⟩ := dp_lst d1
    rw [dpAll_intsM g2] at g1
    refine ⟨a, ns, rfl, (off_le os H).seq g1, List.length_pos_of_mem h1, fun m' h3 h4 => ?_⟩
    rw [show m' = m from Int.le_antisymm (h2 m' h3) (h4 m h1)]
    exact q _ H (Same.refl _) (.int _)
/-! ### a list backwards -/
theorem pe_revK {X : Cx} {e : Expr} {te : TE} {k : Nat} {p1 p2 p3 pos : Pos} (h : X.K = K) (he : PE X e te) : PE X (.Subscript e (.Slice none none (some (.UnaryOp .USub (.Constant (.int 1) k p1) p2)) p3) pos) (tRevL K te) := by subst h; exact pe_revL he
theorem we_rev {te : TE} (h : WE K te ρ β fun d β1 => ∃ ds, d = .list ds ∧ P (.list ds.reverse) β1) : WE K (tRevL K te) ρ β P := fun os H σ Q hk hs q => by
  refine h os H σ _ hk hs fun v H1 d β1 p e k hk1 dv => ?_
  obtain ⟨ds, rfl, p⟩ := p
  obtain ⟨a, vs, rfl, h1, h2⟩ := dp_lst dv
  refine ⟨a, vs, rfl, (off_le os H1).seq h1, fun p' hp => ?_⟩
  have s := same_new (o := .lst vs.reverse) hp
  exact q _ _ _ β1 p e (keep_trans e k (Keep.same s)) (hk1.mono s) (.lst (.inl (off_upd (new_out hk1 hp))) (dpAll_mono (off_same s) _ _ (dpAll_rev h2)))
end
end DS

set_option Elab.async false
set_option linter.all false
set_option maxRecDepth 100000
set_option maxHeartbeats 4000000
/-! DS14: comprehensions of two clauses, sorted keys, defaults. -/
namespace DS
open PySem PySem.Spec PyProof.Rows L2
section
variable {K : PySem.W.Frag} {ρ : List Slot} {β : Bt} {P : PyData → Bt → Prop} {E : Out}
theorem wYes {σ : L2.St} {H : Hp} {Q : Bool → Hp → Prop} (h : Q true H) : tYes σ H Q := h
theorem wYes2 {σ : L2.St} {H : Hp} {A B : Hp → Prop} (h : A H) : tYes σ H (fun b H3 => if b = true then A H3 else B H3) := by
  show if true = true then A H else B H
  rw [if_pos rfl]
  exact h
theorem we_lc2 {wi wi1 : TI} {g g1 : TG} {te : TE} {vs tg vs1 tg1 : List Nat} (htg : ∀ i ∈ tg, i ∈ vs) (htg1 : ∀ i ∈ tg1, i ∈ vs1)
    (h : WI K wi ρ β fun ds β1 => ∃ yss : List (List PyData), ds.length = yss.length ∧ yss.flatten.length ≤ 1000000 ∧
      (∀ (i : Nat) (d : PyData) (ys : List PyData), ds[i]? = some d → yss[i]? = some ys → WGc K g tg d (wipeS ρ vs) fun ρ2 => WI K wi1 ρ2 β1 fun ds1 β2 => β2 = β1 ∧ ds1.length = ys.length ∧
        ∀ (j : Nat) (d1 y : PyData), ds1[j]? = some d1 → ys[j]? = some y → WGc K g1 tg1 d1 (wipeS ρ2 vs1) fun ρ3 => WE K te ρ3 β1 fun z β3 => z = y ∧ β3 = β1) ∧ P (.list yss.flatten) β1) :
    WE K (tLc2 wi g tYes wi1 g1 tYes te vs vs1) ρ β P := fun os H σ Q hk hs q => by
  refine h os H σ _ hk hs fun J H1 ds src β1 p e k hk1 itd hsrc D hD => ?_
  obtain ⟨yss, hlen, hline, hstep, hend⟩ := p
  have hDos : D ∉ os := new_out hk1 hD
  have sub : ∀ a ∈ os, a ∈ D :: os := fun a h => List.mem_cons_of_mem _ h
  have hDd : D ∉ dom β1 := fun z => hDos (hk1.mem D z)
  have line : ∀ n : Nat, n ≤ 1000000 → n < sizeLine := fun n h => Nat.lt_of_le_of_lt h (by decide)
  -- what stands, acc being made so far
  let St : List PyData → Hp → Prop := fun acc H' => ∃ accV, Keep β1 H1 H' ∧ Hok K (D :: os) H' β1 ∧ H' D = some (.lst accV) ∧ DpAll K (Off (D :: os) H') accV acc
  have smOf : ∀ H', Keep β1 H1 H' → Same (Off os H1) (Off (D :: os) H') := fun H' kp b u eb => by
    obtain ⟨e1, e2⟩ := off_some eb
    have hb : b ≠ D := ne_of_none e2 hD
    rw [off_out (by simp only [List.mem_cons, not_or]; exact ⟨hb, e1⟩)]
    exact kp b u (fun z => e1 (hk1.mem b z)) e2
  refine ⟨fun i m H' => i ≤ ds.length ∧ m = ds.length - i ∧ St (yss.take i).flatten H', ⟨_, Nat.zero_le _, rfl, [], fun a o _ ha => by rw [upd_ne (ne_of_none ha hD)]; exact ha, hok_in hk1 hD, upd_same, .nil⟩, fun i m H' w => ?_⟩
  obtain ⟨hi, rfl, accV, kp, hk', hDv, hacc⟩ := w
  have sm := smOf H' kp
  have hsrc' : ∀ z ∈ src, Dp K (Off (D :: os) H') z.1 z.2 := fun z hz => dp_mono sm _ _ (hsrc z hz)
  have hsl' : SlotsR K (Off (D :: os) H') σ ρ := slotsR_mono sm (slots_keep hk k hs)
  by_cases hlt : i < ds.length
  · have hy : yss[i]? = some (yss[i]'(by omega)) := List.getElem?_eq_getElem (by omega)
    have htake : (yss.take (i + 1)).flatten = (yss.take i).flatten ++ yss[i]'(by omega) := by
      rw [List.take_add_one, hy, List.flatten_append]; simp
    have hbound : ∀ j, ((yss.take i).flatten ++ (yss[i]'(by omega)).take j).length ≤ 1000000 := fun j => by
      have h1 : (yss.take (i + 1)).flatten.length ≤ yss.flatten.length := by
        conv => rhs; rw [← List.take_append_drop (i + 1) yss, List.flatten_append]
        rw [List.length_append]; omega
      rw [htake, List.length_append] at h1
      rw [List.length_append, List.length_take]
      omega
    refine .inr ⟨itd.go _ H' i hsrc' hlt, fun H2 => St (yss.take (i + 1)).flatten H2, fun H2 w => ⟨ds.length - (i + 1), by omega, by omega, rfl, w⟩, fun y H2 hy2 => ?_⟩
    obtain ⟨s2, dy⟩ := itd.yld _ H' i y H2 ds[i] hk'.trk hsrc' (List.getElem?_eq_getElem hlt) hy2
    refine hstep i _ _ (List.getElem?_eq_getElem hlt) hy (D :: os) H2 (wipe σ vs) y _ (slotsR_mono (off_same s2) (slots_wipe hsl' vs)) dy fun σ3 ρ3 w hs3 st => ?_
    refine ⟨(st vs htg).trans (wipe_wipe vs), ?_⟩
    have hk2 := hk'.mono s2
    refine wYes2 ?_
    refine w (D :: os) H2 σ3 _ hk2 hs3 fun J1 H3 ds1 src1 β3 p3 e3 k3 hk3 itd1 hsrc1 => ?_
    obtain ⟨rfl, hlen1, hstep1⟩ := p3
    have kp3 : Keep β3 H1 H3 := fun a o h1 h2 => k3 a o h1 (s2 a o (kp a o h1 h2))
    have hD3 : H3 D = some (.lst accV) := k3 D _ hDd (s2 D _ hDv)
    have ha3 : DpAll K (Off (D :: os) H3) accV (yss.take i).flatten := dpAll_keep hk2 k3 (dpAll_mono (off_same s2) _ _ hacc)
    have hs33 := slots_keep hk2 k3 hs3
    refine ⟨fun j m H' => j ≤ ds1.length ∧ m = ds1.length - j ∧ Same (Off (D :: os) H3) (Off (D :: os) H') ∧ St ((yss.take i).flatten ++ (yss[i]'(by omega)).take j) H', ⟨_, Nat.zero_le _, rfl, Same.refl _, accV, kp3, hk3, hD3, by rw [List.take_zero, List.append_nil]; exact ha3⟩, fun j m H4 w4 => ?_⟩
    obtain ⟨hj, rfl, k34, accV4, kp4, hk4, hD4, ha4⟩ := w4
    -- the inner walk's own things stand, D being none of them
    have hs4 : SlotsR K (Off (D :: os) H4) σ3 ρ3 := slotsR_mono k34 hs33
    have hsrc4 : ∀ z ∈ src1, Dp K (Off (D :: os) H4) z.1 z.2 := fun z hz => dp_mono k34 _ _ (hsrc1 z hz)
    by_cases hlt1 : j < ds1.length
    · refine .inr ⟨itd1.go _ H4 j hsrc4 hlt1, fun H5 => Same (Off (D :: os) H3) (Off (D :: os) H5) ∧ St ((yss.take i).flatten ++ (yss[i]'(by omega)).take (j + 1)) H5, fun H5 w => ⟨ds1.length - (j + 1), by omega, by omega, rfl, w⟩, fun y1 H5 hy5 => ?_⟩
      obtain ⟨s5, dy5⟩ := itd1.yld _ H4 j y1 H5 ds1[j] hk4.trk hsrc4 (List.getElem?_eq_getElem hlt1) hy5
      have hyj : (yss[i]'(by omega))[j]? = some ((yss[i]'(by omega))[j]'(by omega)) := List.getElem?_eq_getElem (by omega)
      refine hstep1 j _ _ (List.getElem?_eq_getElem hlt1) hyj (D :: os) H5 (wipe σ3 vs1) y1 _ (slotsR_mono (off_same s5) (slots_wipe hs4 vs1)) dy5 fun σ6 ρ6 w6 hs6 st6 => ?_
      refine ⟨(st6 vs1 htg1).trans (wipe_wipe vs1), ?_⟩
      refine wYes2 ?_
      have hk5 := hk4.mono s5
      refine w6 (D :: os) H5 σ6 _ hk5 hs6 fun z H7 zd β7 p7 e7 k7 hk7 dz => ?_
      obtain ⟨rfl, rfl⟩ := p7
      have hD7 : H7 D = some (.lst accV4) := k7 D _ hDd (s5 D _ hD4)
      have ha7 : DpAll K (Off (D :: os) H7) accV4 _ := dpAll_keep hk5 k7 (dpAll_mono (off_same s5) _ _ ha4)
      have hl7 := dpAll_len ha7
      refine ⟨accV4, hD7, by rw [hl7]; exact line _ (hbound j), ?_, accV4 ++ [z], ?_, ?_, upd_same, ?_⟩
      · rw [off_updIn (by simp)]
        exact fun a o e => off_keep hk5.mem k7 a o (off_same s5 a o (k34 a o e))
      · intro a o h1 h2
        have hb : a ≠ D := ne_of_none h2 hD
        rw [upd_ne hb]
        exact k7 a o h1 (s5 a o (kp4 a o h1 h2))
      · refine ⟨fun a ha => ?_, hk7.nd, own_upd (by simp) hDd hk7.own⟩
        by_cases hb : a = D
        · rw [hb]; exact ⟨_, upd_same, fun _ z => nomatch z⟩
        · exact (hk7.trk a ha).same fun o q => by rw [upd_ne hb]; exact q
      · rw [off_updIn (by simp), List.take_add_one, hyj, ← List.append_assoc]
        exact dpAll_append ha7 (.cons dz .nil)
    · have hl : j = ds1.length := by omega
      subst hl
      refine .inl ⟨itd1.stop _ H4 hsrc4, accV4, kp4, hk4, hD4, ?_⟩
      rw [htake]
      rw [hlen1, List.take_length] at ha4
      exact ha4
  · have hl : i = ds.length := by omega
    subst hl
    refine .inl ⟨itd.stop _ H' hsrc', ?_⟩
    rw [hlen, List.take_length] at hacc
    exact q _ H' _ β1 hend e (keep_trans e k kp) ⟨fun a ha => hk'.trk a (sub a ha), hk'.nd, own_less sub (fun a ha => hk1.mem a ha) hk'.own⟩
      (.lst (.inl (by rw [off_out hDos]; exact hDv)) (dpAll_mono (off_sub sub) _ _ hacc))
end
end DS

set_option Elab.async false
set_option linter.all false
set_option maxRecDepth 100000
set_option maxHeartbeats 4000000
/-! DS15: sorted(list(d)) of a dict of pairs; calls that leave a default. -/
namespace DS
open PySem PySem.Spec PyProof.Rows L2
def rListT : List V → Hp → VK → Prop := fun xs H Q => ∃ d kvs, xs = [V.ref d] ∧ Rd H d (.dT kvs) ∧ ∀ p bs, H p = none → IsKeys H kvs bs → Q (.ref p) (upd H p (.lst (bs.map V.ref)))
theorem call_listDT {X : Cx} (hc : X.calm = true) : CallR X (.type "list") rListT := call_list_dT hc
theorem cr_sortedK {X : Cx} {K : PySem.W.Frag} (h : X.K = K) : CallR X (.builtin "sorted") (rSortedPO K) := by subst h; exact cr_sortedPO
def pK (p : Int × Int) : List Key := [.inl p.1, .inl p.2]
def pPD (p : Int × Int) : PyData := .tuple [.int p.1, .int p.2]
def lexLe (p q : Int × Int) : Prop := p.1 < q.1 ∨ (p.1 = q.1 ∧ p.2 ≤ q.2)
def kOf (H : Hp) : V → Int × Int
  | .ref t => match H t with
    | some (.tup [.int a, .int b]) => (a, b)
    | _ => (0, 0)
  | _ => (0, 0)
theorem kOf_at {H : Hp} {t : Addr} {a b : Int} (h : H t = some (.tup [.int a, .int b])) : kOf H (.ref t) = (a, b) := by
  simp only [kOf, h]
theorem pK_V (p : Int × Int) : (pK p).map kV = [.int p.1, .int p.2] := rfl
section
variable {K : PySem.W.Frag} {ρ : List Slot} {β : Bt} {P : PyData → Bt → Prop} {E : Out}
theorem isKeys_at {H : Hp} : ∀ {kv : List (List Key × V)} {bs : List Addr} {ps : List (Int × Int)}, IsKeys H kv bs → kv.map (·.1) = ps.map pK → (∀ b ∈ bs, ∃ p ∈ ps, H b = some (.tup [.int p.1, .int p.2])) ∧ (bs.map fun b => kOf H (.ref b)) = ps
  | _, _, [], .nil, _ => ⟨fun _ h => (by cases h), rfl⟩
  | _, _, [], .cons _ _, e => by simp at e
  | _, _, _ :: _, .nil, e => by simp at e
  | (k, v) :: kv, b :: bs, p :: ps, .cons r t, e => by
    simp only [List.map_cons, List.cons.injEq] at e
    obtain ⟨e1, e2⟩ := e
    obtain ⟨h1, h2⟩ := isKeys_at t e2
    have hb : H b = some (.tup [.int p.1, .int p.2]) := by
      have := r
      simp only at this
      rw [e1] at this
      exact this
    refine ⟨fun c hc => ?_, ?_⟩
    · rcases List.mem_cons.mp hc with rfl | hc
      · exact ⟨p, by simp, hb⟩
      · obtain ⟨q, hq, e⟩ := h1 c hc
        exact ⟨q, by simp [hq], e⟩
    · rw [List.map_cons, kOf_at hb, h2]
theorem pairs_dp {G H : Hp} (hG : ∀ t a b, H t = some (.tup [.int a, .int b]) → G t = some (.tup [.int a, .int b])) : ∀ {ys : List V}, (∀ x ∈ ys, ∃ t a b, x = V.ref t ∧ H t = some (.tup [.int a, .int b])) → DpAll K G ys (ys.map fun x => pPD (kOf H x))
  | [], _ => .nil
  | y :: ys, h => by
    obtain ⟨t, a, b, rfl, e⟩ := h y (by simp)
    refine .cons ?_ (pairs_dp hG fun x hx => h x (by simp [hx]))
    show Dp K G (.ref t) (pPD (kOf H (.ref t)))
    rw [kOf_at e]
    exact .tup (.inl (.inl (hG t a b e))) (.cons (.int _) (.cons (.int _) .nil))
/-- sorted(list(d)), d owned, its keys pairs of ints -/
theorem we_sortedKeys {i j : Nat} {b : Addr} {kvs : List (List Key × PyData)} {ps : List (Int × Int)} (hi : ρ[i]? = some (.raw (.ref b))) (hj : β[j]? = some (b, .dcT kvs)) (hps : kvs.map (·.1) = ps.map pK)
    (h : ∀ zs : List (Int × Int), zs.Perm ps → zs.Pairwise lexLe → P (.list (zs.map pPD)) β) : WE K (tCB (rSortedPO K) (tCons (tCB rListT (tCons (tVar i) tNil)) tNil)) ρ β P := fun os H σ Q hk hs q => by
  obtain ⟨_, _, hb, kv, rfl, hkv⟩ := own_get hk.own hj
  refine ⟨.ref b, slot_raw hs hi, ⟨b, kv, rfl, .inl hb, fun p bs hp hbs => ?_⟩⟩
  have hkeys : kv.map (·.1) = ps.map pK := (kt_keys hkv).trans hps
  obtain ⟨h1, h2⟩ := isKeys_at hbs hkeys
  have s1 := same_new (o := .lst (bs.map V.ref)) hp
  have g1 : ∀ x ∈ bs.map V.ref, ∃ t, x = V.ref t ∧ (upd H p (.lst (bs.map V.ref))) t = some (.tup [.int (kOf H x).1, .int (kOf H x).2]) := fun x hx => by
    obtain ⟨t, ht, rfl⟩ := List.mem_map.mp hx
    obtain ⟨pp, _, e⟩ := h1 t ht
    exact ⟨t, rfl, by rw [kOf_at e]; exact s1 t _ e⟩
  refine ⟨p, bs.map V.ref, kOf H, rfl, .inl (.inl upd_same), g1, fun ys p2 hs1 hs2 hp2 => ?_⟩
  have s2 := same_new (o := .lst ys) hp2
  have hk2 := (hk.mono s1).mono s2
  have hperm : ys.Perm (bs.map V.ref) := hs2.perm
  have hz : (ys.map (kOf H)).Perm ps := by
    have := hperm.map (kOf H)
    rw [List.map_map] at this
    rw [show (bs.map ((kOf H) ∘ V.ref)) = ps from h2] at this
    exact this
  have hsort : (ys.map (kOf H)).Pairwise lexLe := by
    rw [List.pairwise_map]
    refine List.Pairwise.imp (fun {x y} hxy => ?_) hs1
    have := SrtO.lexB_no.mp hxy
    unfold lexLe
    omega
  have hq := h _ hz hsort
  rw [List.map_map] at hq
  refine q _ _ _ β hq rfl (Keep.same fun a o e => s2 a o (s1 a o e)) hk2 (.lst (.inl (off_upd (new_out (hk.mono s1) hp2))) ?_)
  refine pairs_dp (H := H) (fun t a b e => ?_) fun x hx => ?_
  · have e2 := s2 t _ (s1 t _ e)
    refine (off_out fun z => ?_).trans e2
    obtain ⟨o2, f1, f2⟩ := hk2.trk t z
    rw [e2] at f1
    cases f1
    exact f2 _ rfl
  · obtain ⟨t, ht, rfl⟩ := List.mem_map.mp (hperm.mem_iff.mp hx)
    obtain ⟨pp, _, e⟩ := h1 t ht
    exact ⟨t, _, _, rfl, e⟩
end
/-! ### calls that leave the keyword-only arguments out -/
structure CalD (P : Program) (w : World) (K : PySem.W.Frag) (mg : Str → Option Value) (base : Heap) (x : Str) (k : Nat) (ps : List Str) (dvs : List V) (sp : Sp) : Prop where
  ex : ∃ (f : Addr) (fd : FuncData) (ds : List Value), FnOk P w K mg base CXN k f fd ps sp ∧ mg x = some (.ref f) ∧ PySem.W.keepIn K (.ref f) = true ∧ Vals dvs ds ∧ Binds K fd ps ds
theorem Has.callD {P : Program} {w : World} {K : PySem.W.Frag} {mg : Str → Option Value} {base : Heap} {x : Str} {st : Stmt} {kws : List (Str × V)} {ps : List Str} {k : Nat} {sp : Sp} (h : Has K mg x st kws) (n : Nat) (hk : kws ≠ []) (hn : n + kws.length = ps.length)
    (hb : ∀ (D : Addr) (doc pm : Value) (an : Option Addr) (cdv ct : Value) (us ks : List Value), us.length = n → ks.length = kws.length →
      KwChain D ((kws.map (·.1)).zip ks) (bindArgs (PySem.W.fnOf x x (defArgs st) (defBody st) (defScope st) .none (.ref D) doc pm an cdv ct) ⟨us, []⟩) (ps.zip (us ++ ks)))
    (hf : ∀ f fd, FunD K x x (defArgs st) (defBody st) (defScope st) [] kws f fd → mg x = some (.ref f) → FnOk P w K mg base CXN k f fd ps sp) : CalD P w K mg base x k ps (kws.map (·.2)) sp := by
  obtain ⟨f, fd, F, m⟩ := h.ex
  obtain ⟨ds, h1, h2⟩ := F.binds0 n hk hn hb
  exact ⟨f, fd, ds, hf f fd F m, m, F.kp, h1, h2⟩
section
variable {X : Cx} {k : Nat} {ps : List Str} {dvs : List V} {sp : Sp} {x : Str} {p pos : Pos} {e : Expr} {es : List Expr} {t : TA}
theorem pe_calD (C : CalD X.prog X.w X.K X.mg X.base x k ps dvs sp) (hr : Room k X.A) (hg : Gl X x) (ha : PA X (e :: es) t) (hdb : (x == ("__debug__" : Str)) = false := by decide)
    (he : starEach (e :: es) X.env = (false, eval e X.env) :: starEach es X.env := by rfl) (hpl : (backTo pos (starEach es X.env)).any (·.1) = false := by rfl) : PE X (.Call (.Name x p) (e :: es) [] pos) (tCall sp dvs EN t) := by
  obtain ⟨f, fd, ds, F, m, kp, hd, b⟩ := C.ex
  exact pe_call F hr hg m kp b hd passN ha hdb he hpl
end
section
variable {K : PySem.W.Frag} {ρ : List Slot} {β : Bt} {P : PyData → Bt → Prop} {E : XK}
theorem we_callD {R : List PyData → PyData → Prop} {ta : TA} {i : Int} (h : WA K ta ρ β fun xs β1 => ∃ z, R (xs ++ [.int i]) z ∧ P z β1) : WE K (tCall (spP K R) [.int i] E ta) ρ β P := fun os H σ Q hk hs q => by
  refine h os H σ _ hk hs fun vs H1 x β1 h1 e1 k1 hk1 d1 => ?_
  obtain ⟨z, hr, p⟩ := h1
  refine ⟨os, x ++ [.int i], z, hk1.trk, dpAll_append d1 (.cons (.int i) .nil), hr, fun w H3 s dw => q w H3 z β1 p e1 (keep_trans e1 k1 (Keep.same s)) (hk1.mono s) dw⟩
end
section
variable {X : Cx} {K : PySem.W.Frag}
theorem pi_enumK {e : Expr} {ta : TA} {p pos tpos : Pos} {elts : List Expr} {kk : Nat} (h : X.K = K) (hg : Gl X "enumerate") (hm : X.mg "enumerate" = none) (ha : PA X [e] ta) (hs : starEach [e] X.env = [(false, eval e X.env)] := by rfl) :
    PI X (.Tuple elts kk tpos) (.Call (.Name "enumerate" p) [e] [] pos) (iEnum K ta) := by subst h; exact pi_enum hg hm ha hs
theorem pi_zipK {e e2 : Expr} {ta : TA} {p pos tpos : Pos} {elts : List Expr} {kk : Nat} (h : X.K = K) (hg : Gl X "zip") (hm : X.mg "zip" = none) (ha : PA X [e, e2] ta)
    (hs : starEach [e, e2] X.env = (false, eval e X.env) :: starEach [e2] X.env := by rfl) (hpl : (backTo pos (starEach [e2] X.env)).any (·.1) = false := by rfl) :
    PI X (.Tuple elts kk tpos) (.Call (.Name "zip" p) [e, e2] [] pos) (RZ.iZipA K ta) := by subst h; exact RZ.pi_zipA hg hm ha hs hpl
end
section
variable {K : PySem.W.Frag} {ρ : List Slot} {β : Bt} {P : PyData → Bt → Prop} {E : Out}
/-- {} as data -/
theorem we_newDK (p : P (dKD []) β) : WE K tDNewK ρ β P := fun os H σ Q hk hs q a na => by
  have s := same_new (o := .dK []) na
  exact q _ _ _ β p rfl (Keep.same s) (hk.mono s) (.dct (.inl (off_upd (new_out hk na))) .nil)
end
section
variable {K : PySem.W.Frag} {ρ : List Slot} {β : Bt} {E : Out}
theorem ws_par3 {ta : TA} {i j l : Nat} (h : WA K ta ρ β fun ds β1 => ∃ x y z, ds = [x, y, z] ∧ E.nx (((ρ.set i (.dat x)).set j (.dat y)).set l (.dat z)) β1) : WS K (tPar3 i j l ta) ρ β E := fun os0 H0 os H σ D r hk hs x => by
  refine h os H σ _ hk hs fun vs H1 ds β1 p e k hk1 dv => ?_
  obtain ⟨y, z, w, rfl, p⟩ := p
  cases dv with
  | cons d1 t => cases t with
    | cons d2 t => cases t with
      | cons d3 t =>
        cases t
        exact ⟨_, _, _, rfl, x.nx os _ H1 _ β1 p (r.step e k) (DK.of hk k) hk1 (slotsR_set (sdat d3) l (slotsR_set (sdat d2) j (slotsR_set (sdat d1) i (slots_keep hk k hs))))⟩
end
end DS

set_option Elab.async false
set_option linter.all false
set_option maxRecDepth 100000
set_option maxHeartbeats 4000000
namespace K84
open PySem PySem.Spec PyProof.Rows L2 DS
def topS (i : Nat) : Stmt := PySem.Challenge.pw_hintscribe_k84_whole_greys_by_edges.main.body.getD i (.Pass ⟨0, 0, 0, 0⟩)
abbrev s_is_plain : Stmt := topS 8
abbrev N_is_plain : List Str := ["thing"]
abbrev p_is_plain : List Str := ["thing"]
theorem sc_is_plain : FnScope N_is_plain p_is_plain (defScope s_is_plain) := ⟨rfl, rfl, rfl, by decide +kernel, rfl, by decide +kernel, by decide +kernel⟩
abbrev s_common_part : Stmt := topS 9
abbrev N_common_part : List Str := ["one", "other"]
abbrev p_common_part : List Str := ["one", "other"]
theorem sc_common_part : FnScope N_common_part p_common_part (defScope s_common_part) := ⟨rfl, rfl, rfl, by decide +kernel, rfl, by decide +kernel, by decide +kernel⟩
abbrev s_is_part : Stmt := topS 10
abbrev N_is_part : List Str := ["thing", "top", "base"]
abbrev p_is_part : List Str := ["thing"]
theorem sc_is_part : FnScope N_is_part p_is_part (defScope s_is_part) := ⟨rfl, rfl, rfl, by decide +kernel, rfl, by decide +kernel, by decide +kernel⟩
abbrev s_is_number : Stmt := topS 11
abbrev N_is_number : List Str := ["thing"]
abbrev p_is_number : List Str := ["thing"]
theorem sc_is_number : FnScope N_is_number p_is_number (defScope s_is_number) := ⟨rfl, rfl, rfl, by decide +kernel, rfl, by decide +kernel, by decide +kernel⟩
abbrev s_reckoned : Stmt := topS 12
abbrev N_reckoned : List Str := ["top", "base", "part"]
abbrev p_reckoned : List Str := ["top", "base"]
theorem sc_reckoned : FnScope N_reckoned p_reckoned (defScope s_reckoned) := ⟨rfl, rfl, rfl, by decide +kernel, rfl, by decide +kernel, by decide +kernel⟩
abbrev s_pair_of : Stmt := topS 13
abbrev N_pair_of : List Str := ["number"]
abbrev p_pair_of : List Str := ["number"]
theorem sc_pair_of : FnScope N_pair_of p_pair_of (defScope s_pair_of) := ⟨rfl, rfl, rfl, by decide +kernel, rfl, by decide +kernel, by decide +kernel⟩
abbrev s_plus : Stmt := topS 14
abbrev N_plus : List Str := ["one", "other", "top", "base", "more", "under"]
abbrev p_plus : List Str := ["one", "other"]
theorem sc_plus : FnScope N_plus p_plus (defScope s_plus) := ⟨rfl, rfl, rfl, by decide +kernel, rfl, by decide +kernel, by decide +kernel⟩
abbrev s_minus : Stmt := topS 15
abbrev N_minus : List Str := ["one", "other", "top", "base", "more", "under"]
abbrev p_minus : List Str := ["one", "other"]
theorem sc_minus : FnScope N_minus p_minus (defScope s_minus) := ⟨rfl, rfl, rfl, by decide +kernel, rfl, by decide +kernel, by decide +kernel⟩
abbrev s_times : Stmt := topS 16
abbrev N_times : List Str := ["one", "other", "top", "base", "more", "under"]
abbrev p_times : List Str := ["one", "other"]
theorem sc_times : FnScope N_times p_times (defScope s_times) := ⟨rfl, rfl, rfl, by decide +kernel, rfl, by decide +kernel, by decide +kernel⟩
abbrev s_over : Stmt := topS 17
abbrev N_over : List Str := ["one", "other", "top", "base", "more", "under"]
abbrev p_over : List Str := ["one", "other"]
theorem sc_over : FnScope N_over p_over (defScope s_over) := ⟨rfl, rfl, rfl, by decide +kernel, rfl, by decide +kernel, by decide +kernel⟩
abbrev s_less : Stmt := topS 18
abbrev N_less : List Str := ["one", "other", "top", "base", "more", "under"]
abbrev p_less : List Str := ["one", "other"]
theorem sc_less : FnScope N_less p_less (defScope s_less) := ⟨rfl, rfl, rfl, by decide +kernel, rfl, by decide +kernel, by decide +kernel⟩
abbrev s_floor_of : Stmt := topS 19
abbrev N_floor_of : List Str := ["number", "step", "top", "base", "more", "under"]
abbrev p_floor_of : List Str := ["number", "step"]
theorem sc_floor_of : FnScope N_floor_of p_floor_of (defScope s_floor_of) := ⟨rfl, rfl, rfl, by decide +kernel, rfl, by decide +kernel, by decide +kernel⟩
abbrev s_is_list : Stmt := topS 21
abbrev N_is_list : List Str := ["thing", "low", "high"]
abbrev p_is_list : List Str := ["thing", "low", "high"]
theorem sc_is_list : FnScope N_is_list p_is_list (defScope s_is_list) := ⟨rfl, rfl, rfl, by decide +kernel, rfl, by decide +kernel, by decide +kernel⟩
abbrev s_need_parts : Stmt := topS 25
abbrev N_need_parts : List Str := ["parts", "part", "place", "one"]
abbrev p_need_parts : List Str := ["parts"]
theorem sc_need_parts : FnScope N_need_parts p_need_parts (defScope s_need_parts) := ⟨rfl, rfl, rfl, by decide +kernel, rfl, by decide +kernel, by decide +kernel⟩
abbrev s_is_kept : Stmt := topS 30
abbrev N_is_kept : List Str := ["place", "at", "line", "side"]
abbrev p_is_kept : List Str := ["place", "at", "line", "side"]
theorem sc_is_kept : FnScope N_is_kept p_is_kept (defScope s_is_kept) := ⟨rfl, rfl, rfl, by decide +kernel, rfl, by decide +kernel, by decide +kernel⟩
abbrev s_place_on : Stmt := topS 31
abbrev N_place_on : List Str := ["one", "other", "at", "line", "share", "found", "here", "there"]
abbrev p_place_on : List Str := ["one", "other", "at", "line"]
theorem sc_place_on : FnScope N_place_on p_place_on (defScope s_place_on) := ⟨rfl, rfl, rfl, by decide +kernel, rfl, by decide +kernel, by decide +kernel⟩
abbrev s_cut_off : Stmt := topS 32
abbrev N_cut_off : List Str := ["part", "at", "line", "side", "found", "number", "place", "ahead"]
abbrev p_cut_off : List Str := ["part", "at", "line", "side"]
theorem sc_cut_off : FnScope N_cut_off p_cut_off (defScope s_cut_off) := ⟨rfl, rfl, rfl, by decide +kernel, rfl, by decide +kernel, by decide +kernel⟩
abbrev s_between_lines : Stmt := topS 33
abbrev N_between_lines : List Str := ["part", "at", "low"]
abbrev p_between_lines : List Str := ["part", "at", "low"]
theorem sc_between_lines : FnScope N_between_lines p_between_lines (defScope s_between_lines) := ⟨rfl, rfl, rfl, by decide +kernel, rfl, by decide +kernel, by decide +kernel⟩
abbrev s_share_of : Stmt := topS 34
abbrev N_share_of : List Str := ["part", "found", "number", "x", "y", "ahead"]
abbrev p_share_of : List Str := ["part"]
theorem sc_share_of : FnScope N_share_of p_share_of (defScope s_share_of) := ⟨rfl, rfl, rfl, by decide +kernel, rfl, by decide +kernel, by decide +kernel⟩
abbrev s_cell_range : Stmt := topS 35
abbrev N_cell_range : List Str := ["numbers", "lines", "last", "number"]
abbrev p_cell_range : List Str := ["numbers"]
theorem sc_cell_range : FnScope N_cell_range p_cell_range (defScope s_cell_range) := ⟨rfl, rfl, rfl, by decide +kernel, rfl, by decide +kernel, by decide +kernel⟩
abbrev s_box_of : Stmt := topS 36
abbrev N_box_of : List Str := ["parts", "columns", "rows", "part", "x", "y"]
abbrev p_box_of : List Str := ["parts"]
theorem sc_box_of : FnScope N_box_of p_box_of (defScope s_box_of) := ⟨rfl, rfl, rfl, by decide +kernel, rfl, by decide +kernel, by decide +kernel⟩
abbrev s_need_box : Stmt := topS 37
abbrev N_need_box : List Str := ["parts", "columns", "rows", "many"]
abbrev p_need_box : List Str := ["parts"]
theorem sc_need_box : FnScope N_need_box p_need_box (defScope s_need_box) := ⟨rfl, rfl, rfl, by decide +kernel, rfl, by decide +kernel, by decide +kernel⟩
abbrev s_row_shares : Stmt := topS 38
abbrev N_row_shares : List Str := ["part", "columns", "row", "strip", "first", "behind", "found", "column", "x", "y"]
abbrev p_row_shares : List Str := ["part", "columns", "row"]
theorem sc_row_shares : FnScope N_row_shares p_row_shares (defScope s_row_shares) := ⟨rfl, rfl, rfl, by decide +kernel, rfl, by decide +kernel, by decide +kernel⟩
abbrev s_greys : Stmt := topS 39
abbrev N_greys : List Str := ["parts", "columns", "rows", "found", "row", "shares", "column", "grey", "share", "part"]
abbrev p_greys : List Str := ["parts"]
theorem sc_greys : FnScope N_greys p_greys (defScope s_greys) := ⟨rfl, rfl, rfl, by decide +kernel, rfl, by decide +kernel, by decide +kernel⟩
abbrev s_grey_of : Stmt := topS 40
abbrev N_grey_of : List Str := ["parts", "column", "row", "number", "grey", "part"]
abbrev p_grey_of : List Str := ["parts", "column", "row"]
theorem sc_grey_of : FnScope N_grey_of p_grey_of (defScope s_grey_of) := ⟨rfl, rfl, rfl, by decide +kernel, rfl, by decide +kernel, by decide +kernel⟩
abbrev s_grey_total : Stmt := topS 41
abbrev N_grey_total : List Str := ["parts", "grey", "part"]
abbrev p_grey_total : List Str := ["parts"]
theorem sc_grey_total : FnScope N_grey_total p_grey_total (defScope s_grey_total) := ⟨rfl, rfl, rfl, by decide +kernel, rfl, by decide +kernel, by decide +kernel⟩
abbrev s_L_cell : Stmt := topS 43
abbrev N_L_cell : List Str := ["script", "k"]
abbrev p_L_cell : List Str := ["script", "k"]
theorem sc_L_cell : FnScope N_L_cell p_L_cell (defScope s_L_cell) := ⟨rfl, rfl, rfl, by decide +kernel, rfl, by decide +kernel, by decide +kernel⟩
abbrev s_L_box : Stmt := topS 44
abbrev N_L_box : List Str := ["cell"]
abbrev p_L_box : List Str := ["cell"]
theorem sc_L_box : FnScope N_L_box p_L_box (defScope s_L_box) := ⟨rfl, rfl, rfl, by decide +kernel, rfl, by decide +kernel, by decide +kernel⟩
abbrev s_L_take : Stmt := topS 45
abbrev N_L_take : List Str := ["box", "many", "digit", "one", "other"]
abbrev p_L_take : List Str := ["box", "many"]
theorem sc_L_take : FnScope N_L_take p_L_take (defScope s_L_take) := ⟨rfl, rfl, rfl, by decide +kernel, rfl, by decide +kernel, by decide +kernel⟩
abbrev s_L_same : Stmt := topS 46
abbrev N_L_same : List Str := ["given", "due", "k"]
abbrev p_L_same : List Str := ["given", "due"]
theorem sc_L_same : FnScope N_L_same p_L_same (defScope s_L_same) := ⟨rfl, rfl, rfl, by decide +kernel, rfl, by decide +kernel, by decide +kernel⟩
abbrev s_L_low : Stmt := topS 47
abbrev N_L_low : List Str := ["top", "bottom", "one", "other", "sign"]
abbrev p_L_low : List Str := ["top", "bottom"]
theorem sc_L_low : FnScope N_L_low p_L_low (defScope s_L_low) := ⟨rfl, rfl, rfl, by decide +kernel, rfl, by decide +kernel, by decide +kernel⟩
abbrev s_L_pair : Stmt := topS 48
abbrev N_L_pair : List Str := ["number"]
abbrev p_L_pair : List Str := ["number"]
theorem sc_L_pair : FnScope N_L_pair p_L_pair (defScope s_L_pair) := ⟨rfl, rfl, rfl, by decide +kernel, rfl, by decide +kernel, by decide +kernel⟩
abbrev s_L_num : Stmt := topS 49
abbrev N_L_num : List Str := ["pair"]
abbrev p_L_num : List Str := ["pair"]
theorem sc_L_num : FnScope N_L_num p_L_num (defScope s_L_num) := ⟨rfl, rfl, rfl, by decide +kernel, rfl, by decide +kernel, by decide +kernel⟩
abbrev s_L_plus : Stmt := topS 50
abbrev N_L_plus : List Str := ["one", "other"]
abbrev p_L_plus : List Str := ["one", "other"]
theorem sc_L_plus : FnScope N_L_plus p_L_plus (defScope s_L_plus) := ⟨rfl, rfl, rfl, by decide +kernel, rfl, by decide +kernel, by decide +kernel⟩
abbrev s_L_minus : Stmt := topS 51
abbrev N_L_minus : List Str := ["one", "other"]
abbrev p_L_minus : List Str := ["one", "other"]
theorem sc_L_minus : FnScope N_L_minus p_L_minus (defScope s_L_minus) := ⟨rfl, rfl, rfl, by decide +kernel, rfl, by decide +kernel, by decide +kernel⟩
abbrev s_L_times : Stmt := topS 52
abbrev N_L_times : List Str := ["one", "other"]
abbrev p_L_times : List Str := ["one", "other"]
theorem sc_L_times : FnScope N_L_times p_L_times (defScope s_L_times) := ⟨rfl, rfl, rfl, by decide +kernel, rfl, by decide +kernel, by decide +kernel⟩
abbrev s_L_over : Stmt := topS 53
abbrev N_L_over : List Str := ["one", "other"]
abbrev p_L_over : List Str := ["one", "other"]
theorem sc_L_over : FnScope N_L_over p_L_over (defScope s_L_over) := ⟨rfl, rfl, rfl, by decide +kernel, rfl, by decide +kernel, by decide +kernel⟩
abbrev s_L_less : Stmt := topS 54
abbrev N_L_less : List Str := ["one", "other"]
abbrev p_L_less : List Str := ["one", "other"]
theorem sc_L_less : FnScope N_L_less p_L_less (defScope s_L_less) := ⟨rfl, rfl, rfl, by decide +kernel, rfl, by decide +kernel, by decide +kernel⟩
abbrev s_L_row_part : Stmt := topS 55
abbrev N_L_row_part : List Str := ["one", "other", "row", "low", "high", "slope", "ends", "place", "y"]
abbrev p_L_row_part : List Str := ["one", "other", "row"]
theorem sc_L_row_part : FnScope N_L_row_part p_L_row_part (defScope s_L_row_part) := ⟨rfl, rfl, rfl, by decide +kernel, rfl, by decide +kernel, by decide +kernel⟩
abbrev s_L_under : Stmt := topS 56
abbrev N_L_under : List Str := ["one", "other", "line", "a", "b", "high", "share", "rest", "mean"]
abbrev p_L_under : List Str := ["one", "other", "line"]
theorem sc_L_under : FnScope N_L_under p_L_under (defScope s_L_under) := ⟨rfl, rfl, rfl, by decide +kernel, rfl, by decide +kernel, by decide +kernel⟩
abbrev s_L_cell_range : Stmt := topS 57
abbrev N_L_cell_range : List Str := ["numbers", "lows", "number"]
abbrev p_L_cell_range : List Str := ["numbers"]
theorem sc_L_cell_range : FnScope N_L_cell_range p_L_cell_range (defScope s_L_cell_range) := ⟨rfl, rfl, rfl, by decide +kernel, rfl, by decide +kernel, by decide +kernel⟩
abbrev s_L_greys : Stmt := topS 58
abbrev N_L_greys : List Str := ["part", "left", "right", "found", "low", "high", "row", "edges", "sums", "column", "total_under", "ends", "x", "y", "k"]
abbrev p_L_greys : List Str := ["part"]
theorem sc_L_greys : FnScope N_L_greys p_L_greys (defScope s_L_greys) := ⟨rfl, rfl, rfl, by decide +kernel, rfl, by decide +kernel, by decide +kernel⟩
abbrev s_L_added : Stmt := topS 59
abbrev N_L_added : List Str := ["tables", "found", "table", "cell", "row", "column"]
abbrev p_L_added : List Str := ["tables"]
theorem sc_L_added : FnScope N_L_added p_L_added (defScope s_L_added) := ⟨rfl, rfl, rfl, by decide +kernel, rfl, by decide +kernel, by decide +kernel⟩
abbrev s_L_place : Stmt := topS 60
abbrev N_L_place : List Str := ["box", "far", "x", "y", "way"]
abbrev p_L_place : List Str := ["box", "far"]
theorem sc_L_place : FnScope N_L_place p_L_place (defScope s_L_place) := ⟨rfl, rfl, rfl, by decide +kernel, rfl, by decide +kernel, by decide +kernel⟩
abbrev s_L_polygon : Stmt := topS 61
abbrev N_L_polygon : List Str := ["box", "far", "way", "left", "low", "right", "high", "found", "k"]
abbrev p_L_polygon : List Str := ["box"]
theorem sc_L_polygon : FnScope N_L_polygon p_L_polygon (defScope s_L_polygon) := ⟨rfl, rfl, rfl, by decide +kernel, rfl, by decide +kernel, by decide +kernel⟩
abbrev s_L_told : Stmt := topS 62
abbrev N_L_told : List Str := ["part", "x", "y"]
abbrev p_L_told : List Str := ["part"]
theorem sc_L_told : FnScope N_L_told p_L_told (defScope s_L_told) := ⟨rfl, rfl, rfl, by decide +kernel, rfl, by decide +kernel, by decide +kernel⟩
abbrev s_L_land : Stmt := topS 63
abbrev N_L_land : List Str := ["part", "found", "k", "x", "y", "east", "north"]
abbrev p_L_land : List Str := ["part"]
theorem sc_L_land : FnScope N_L_land p_L_land (defScope s_L_land) := ⟨rfl, rfl, rfl, by decide +kernel, rfl, by decide +kernel, by decide +kernel⟩
abbrev s_L_turned_right : Stmt := topS 64
abbrev N_L_turned_right : List Str := ["box", "parts", "due", "east", "north", "moved", "part", "other", "first", "second", "pieces", "cut", "x", "y", "row", "column", "grey", "piece"]
abbrev p_L_turned_right : List Str := ["box", "parts", "due"]
theorem sc_L_turned_right : FnScope N_L_turned_right p_L_turned_right (defScope s_L_turned_right) := ⟨rfl, rfl, rfl, by decide +kernel, rfl, by decide +kernel, by decide +kernel⟩
abbrev s_law : Stmt := topS 65
abbrev N_law : List Str := ["script", "k", "box", "parts", "tables", "due", "handed", "land", "part", "sums", "row", "column", "grey", "cells", "one"]
abbrev p_law : List Str := ["script"]
theorem sc_law : FnScope N_law p_law (defScope s_law) := ⟨rfl, rfl, rfl, by decide +kernel, rfl, by decide +kernel, by decide +kernel⟩
--%%SPECIAL {'kwd': {'floor_of': '[("step", .int 1)]'}}
--%%SPECIAL {'free': ('len', 'abs', 'max', 'min', 'all', 'int', 'bool', 'str', 'list', 'tuple', 'isinstance', 'range', 'enumerate', 'zip', 'sorted')}
--%%SPECIAL {'konst': {'CELL': '(.int 64)', 'MOST_POLYGONS': '(.int 4)', 'MOST_PLACES': '(.int 100)', 'MOST_CELLS': '(.int 2000)', 'TWICE': '(.int 8192)'}}
--%%SPECIAL {('dnew', 'row_shares'): 'K', ('dnew', '_law_greys'): 'T', ('dnew', '_law_added'): 'T', 'fordict': (('_law_added', 'table'),), 'dictvar': (('row_shares', 'found'), ('_law_greys', 'found'), ('_law_added', 'found'), ('_law_added', 'table')), ('dfl', 'floor_of'): 'cd_floor_of'}
structure Top (K : PySem.W.Frag) (w : World) (mg : Str → Option Value) : Prop where
  h_is_plain : Has K mg "is_plain" s_is_plain []
  h_common_part : Has K mg "common_part" s_common_part []
  h_is_part : Has K mg "is_part" s_is_part []
  h_is_number : Has K mg "is_number" s_is_number []
  h_reckoned : Has K mg "reckoned" s_reckoned []
  h_pair_of : Has K mg "pair_of" s_pair_of []
  h_plus : Has K mg "plus" s_plus []
  h_minus : Has K mg "minus" s_minus []
  h_times : Has K mg "times" s_times []
  h_over : Has K mg "over" s_over []
  h_less : Has K mg "less" s_less []
  h_floor_of : Has K mg "floor_of" s_floor_of [("step", .int 1)]
  h_is_list : Has K mg "is_list" s_is_list []
  h_need_parts : Has K mg "need_parts" s_need_parts []
  h_is_kept : Has K mg "is_kept" s_is_kept []
  h_place_on : Has K mg "place_on" s_place_on []
  h_cut_off : Has K mg "cut_off" s_cut_off []
  h_between_lines : Has K mg "between_lines" s_between_lines []
  h_share_of : Has K mg "share_of" s_share_of []
  h_cell_range : Has K mg "cell_range" s_cell_range []
  h_box_of : Has K mg "box_of" s_box_of []
  h_need_box : Has K mg "need_box" s_need_box []
  h_row_shares : Has K mg "row_shares" s_row_shares []
  h_greys : Has K mg "greys" s_greys []
  h_grey_of : Has K mg "grey_of" s_grey_of []
  h_grey_total : Has K mg "grey_total" s_grey_total []
  h_L_cell : Has K mg "_law_cell" s_L_cell []
  h_L_box : Has K mg "_law_box" s_L_box []
  h_L_take : Has K mg "_law_take" s_L_take []
  h_L_same : Has K mg "_law_same" s_L_same []
  h_L_low : Has K mg "_law_low" s_L_low []
  h_L_pair : Has K mg "_law_pair" s_L_pair []
  h_L_num : Has K mg "_law_num" s_L_num []
  h_L_plus : Has K mg "_law_plus" s_L_plus []
  h_L_minus : Has K mg "_law_minus" s_L_minus []
  h_L_times : Has K mg "_law_times" s_L_times []
  h_L_over : Has K mg "_law_over" s_L_over []
  h_L_less : Has K mg "_law_less" s_L_less []
  h_L_row_part : Has K mg "_law_row_part" s_L_row_part []
  h_L_under : Has K mg "_law_under" s_L_under []
  h_L_cell_range : Has K mg "_law_cell_range" s_L_cell_range []
  h_L_greys : Has K mg "_law_greys" s_L_greys []
  h_L_added : Has K mg "_law_added" s_L_added []
  h_L_place : Has K mg "_law_place" s_L_place []
  h_L_polygon : Has K mg "_law_polygon" s_L_polygon []
  h_L_told : Has K mg "_law_told" s_L_told []
  h_L_land : Has K mg "_law_land" s_L_land []
  h_L_turned_right : Has K mg "_law_turned_right" s_L_turned_right []
  h_law : Has K mg "law" s_law []
  m_len : mg "len" = none
  m_abs : mg "abs" = none
  m_max : mg "max" = none
  m_min : mg "min" = none
  m_all : mg "all" = none
  m_int : mg "int" = none
  m_bool : mg "bool" = none
  m_str : mg "str" = none
  m_list : mg "list" = none
  m_tuple : mg "tuple" = none
  m_isinstance : mg "isinstance" = none
  m_range : mg "range" = none
  m_enumerate : mg "enumerate" = none
  m_zip : mg "zip" = none
  m_sorted : mg "sorted" = none
  k_CELL : KC K mg "CELL" (.int 64)
  k_MOST_POLYGONS : KC K mg "MOST_POLYGONS" (.int 4)
  k_MOST_PLACES : KC K mg "MOST_PLACES" (.int 100)
  k_MOST_CELLS : KC K mg "MOST_CELLS" (.int 2000)
  k_TWICE : KC K mg "TWICE" (.int 8192)
end K84

set_option Elab.async false
set_option linter.all false
set_option maxRecDepth 100000
set_option maxHeartbeats 0
namespace K84
open PySem PySem.Spec PyProof.Rows L2 DS
/-! the head: facts by names, the run -/
def lo0 : List Str := ["__name__", "FontError", "NoNumber", "NoPlace", "NoParts", "TooMany", "NoBase", "is_plain", "common_part", "is_part", "is_number", "reckoned", "pair_of", "plus", "minus", "times", "over", "less", "floor_of", "is_list"]
def lo1 : List Str := ["MOST_POLYGONS", "MOST_PLACES", "need_parts", "CELL", "MOST_CELLS", "TWICE", "is_kept", "place_on", "cut_off", "between_lines", "share_of", "cell_range", "box_of", "need_box", "row_shares", "greys", "grey_of", "grey_total", "_law_cell", "_law_box"]
def lo2 : List Str := ["_law_take", "_law_same", "_law_low", "_law_pair", "_law_num", "_law_plus", "_law_minus", "_law_times", "_law_over", "_law_less", "_law_row_part", "_law_under", "_law_cell_range", "_law_greys", "_law_added", "_law_place", "_law_polygon", "_law_told", "_law_land", "_law_turned_right"]
def loose : List Str := lo0 ++ lo1 ++ lo2
def e_is_plain : He.DefD := ⟨("is_plain", none), "is_plain", "is_plain", defArgs s_is_plain, defBody s_is_plain, defScope s_is_plain, [], []⟩
def e_common_part : He.DefD := ⟨("common_part", none), "common_part", "common_part", defArgs s_common_part, defBody s_common_part, defScope s_common_part, [], []⟩
def e_is_part : He.DefD := ⟨("is_part", none), "is_part", "is_part", defArgs s_is_part, defBody s_is_part, defScope s_is_part, [], []⟩
def e_is_number : He.DefD := ⟨("is_number", none), "is_number", "is_number", defArgs s_is_number, defBody s_is_number, defScope s_is_number, [], []⟩
def e_reckoned : He.DefD := ⟨("reckoned", none), "reckoned", "reckoned", defArgs s_reckoned, defBody s_reckoned, defScope s_reckoned, [], []⟩
def e_pair_of : He.DefD := ⟨("pair_of", none), "pair_of", "pair_of", defArgs s_pair_of, defBody s_pair_of, defScope s_pair_of, [], []⟩
def e_plus : He.DefD := ⟨("plus", none), "plus", "plus", defArgs s_plus, defBody s_plus, defScope s_plus, [], []⟩
def e_minus : He.DefD := ⟨("minus", none), "minus", "minus", defArgs s_minus, defBody s_minus, defScope s_minus, [], []⟩
def e_times : He.DefD := ⟨("times", none), "times", "times", defArgs s_times, defBody s_times, defScope s_times, [], []⟩
def e_over : He.DefD := ⟨("over", none), "over", "over", defArgs s_over, defBody s_over, defScope s_over, [], []⟩
def e_less : He.DefD := ⟨("less", none), "less", "less", defArgs s_less, defBody s_less, defScope s_less, [], []⟩
def e_floor_of : He.DefD := ⟨("floor_of", none), "floor_of", "floor_of", defArgs s_floor_of, defBody s_floor_of, defScope s_floor_of, [], [("step", .int 1)]⟩
def e_is_list : He.DefD := ⟨("is_list", none), "is_list", "is_list", defArgs s_is_list, defBody s_is_list, defScope s_is_list, [], []⟩
def e_need_parts : He.DefD := ⟨("need_parts", none), "need_parts", "need_parts", defArgs s_need_parts, defBody s_need_parts, defScope s_need_parts, [], []⟩
def e_is_kept : He.DefD := ⟨("is_kept", none), "is_kept", "is_kept", defArgs s_is_kept, defBody s_is_kept, defScope s_is_kept, [], []⟩
def e_place_on : He.DefD := ⟨("place_on", none), "place_on", "place_on", defArgs s_place_on, defBody s_place_on, defScope s_place_on, [], []⟩
def e_cut_off : He.DefD := ⟨("cut_off", none), "cut_off", "cut_off", defArgs s_cut_off, defBody s_cut_off, defScope s_cut_off, [], []⟩
def e_between_lines : He.DefD := ⟨("between_lines", none), "between_lines", "between_lines", defArgs s_between_lines, defBody s_between_lines, defScope s_between_lines, [], []⟩
def e_share_of : He.DefD := ⟨("share_of", none), "share_of", "share_of", defArgs s_share_of, defBody s_share_of, defScope s_share_of, [], []⟩
def e_cell_range : He.DefD := ⟨("cell_range", none), "cell_range", "cell_range", defArgs s_cell_range, defBody s_cell_range, defScope s_cell_range, [], []⟩
def e_box_of : He.DefD := ⟨("box_of", none), "box_of", "box_of", defArgs s_box_of, defBody s_box_of, defScope s_box_of, [], []⟩
def e_need_box : He.DefD := ⟨("need_box", none), "need_box", "need_box", defArgs s_need_box, defBody s_need_box, defScope s_need_box, [], []⟩
def e_row_shares : He.DefD := ⟨("row_shares", none), "row_shares", "row_shares", defArgs s_row_shares, defBody s_row_shares, defScope s_row_shares, [], []⟩
def e_greys : He.DefD := ⟨("greys", none), "greys", "greys", defArgs s_greys, defBody s_greys, defScope s_greys, [], []⟩
def e_grey_of : He.DefD := ⟨("grey_of", none), "grey_of", "grey_of", defArgs s_grey_of, defBody s_grey_of, defScope s_grey_of, [], []⟩
def e_grey_total : He.DefD := ⟨("grey_total", none), "grey_total", "grey_total", defArgs s_grey_total, defBody s_grey_total, defScope s_grey_total, [], []⟩
def e_L_cell : He.DefD := ⟨("_law_cell", none), "_law_cell", "_law_cell", defArgs s_L_cell, defBody s_L_cell, defScope s_L_cell, [], []⟩
def e_L_box : He.DefD := ⟨("_law_box", none), "_law_box", "_law_box", defArgs s_L_box, defBody s_L_box, defScope s_L_box, [], []⟩
def e_L_take : He.DefD := ⟨("_law_take", none), "_law_take", "_law_take", defArgs s_L_take, defBody s_L_take, defScope s_L_take, [], []⟩
def e_L_same : He.DefD := ⟨("_law_same", none), "_law_same", "_law_same", defArgs s_L_same, defBody s_L_same, defScope s_L_same, [], []⟩
def e_L_low : He.DefD := ⟨("_law_low", none), "_law_low", "_law_low", defArgs s_L_low, defBody s_L_low, defScope s_L_low, [], []⟩
def e_L_pair : He.DefD := ⟨("_law_pair", none), "_law_pair", "_law_pair", defArgs s_L_pair, defBody s_L_pair, defScope s_L_pair, [], []⟩
def e_L_num : He.DefD := ⟨("_law_num", none), "_law_num", "_law_num", defArgs s_L_num, defBody s_L_num, defScope s_L_num, [], []⟩
def e_L_plus : He.DefD := ⟨("_law_plus", none), "_law_plus", "_law_plus", defArgs s_L_plus, defBody s_L_plus, defScope s_L_plus, [], []⟩
def e_L_minus : He.DefD := ⟨("_law_minus", none), "_law_minus", "_law_minus", defArgs s_L_minus, defBody s_L_minus, defScope s_L_minus, [], []⟩
def e_L_times : He.DefD := ⟨("_law_times", none), "_law_times", "_law_times", defArgs s_L_times, defBody s_L_times, defScope s_L_times, [], []⟩
def e_L_over : He.DefD := ⟨("_law_over", none), "_law_over", "_law_over", defArgs s_L_over, defBody s_L_over, defScope s_L_over, [], []⟩
def e_L_less : He.DefD := ⟨("_law_less", none), "_law_less", "_law_less", defArgs s_L_less, defBody s_L_less, defScope s_L_less, [], []⟩
def e_L_row_part : He.DefD := ⟨("_law_row_part", none), "_law_row_part", "_law_row_part", defArgs s_L_row_part, defBody s_L_row_part, defScope s_L_row_part, [], []⟩
def e_L_under : He.DefD := ⟨("_law_under", none), "_law_under", "_law_under", defArgs s_L_under, defBody s_L_under, defScope s_L_under, [], []⟩
def e_L_cell_range : He.DefD := ⟨("_law_cell_range", none), "_law_cell_range", "_law_cell_range", defArgs s_L_cell_range, defBody s_L_cell_range, defScope s_L_cell_range, [], []⟩
def e_L_greys : He.DefD := ⟨("_law_greys", none), "_law_greys", "_law_greys", defArgs s_L_greys, defBody s_L_greys, defScope s_L_greys, [], []⟩
def e_L_added : He.DefD := ⟨("_law_added", none), "_law_added", "_law_added", defArgs s_L_added, defBody s_L_added, defScope s_L_added, [], []⟩
def e_L_place : He.DefD := ⟨("_law_place", none), "_law_place", "_law_place", defArgs s_L_place, defBody s_L_place, defScope s_L_place, [], []⟩
def e_L_polygon : He.DefD := ⟨("_law_polygon", none), "_law_polygon", "_law_polygon", defArgs s_L_polygon, defBody s_L_polygon, defScope s_L_polygon, [], []⟩
def e_L_told : He.DefD := ⟨("_law_told", none), "_law_told", "_law_told", defArgs s_L_told, defBody s_L_told, defScope s_L_told, [], []⟩
def e_L_land : He.DefD := ⟨("_law_land", none), "_law_land", "_law_land", defArgs s_L_land, defBody s_L_land, defScope s_L_land, [], []⟩
def e_L_turned_right : He.DefD := ⟨("_law_turned_right", none), "_law_turned_right", "_law_turned_right", defArgs s_L_turned_right, defBody s_L_turned_right, defScope s_L_turned_right, [], []⟩
def e_law : He.DefD := ⟨("law", none), "law", "law", defArgs s_law, defBody s_law, defScope s_law, [], []⟩
def fn0 : List He.DefD := [e_is_plain, e_common_part, e_is_part, e_is_number, e_reckoned, e_pair_of, e_plus, e_minus, e_times, e_over, e_less, e_floor_of, e_is_list, e_need_parts, e_is_kept, e_place_on, e_cut_off, e_between_lines, e_share_of, e_cell_range, e_box_of, e_need_box, e_row_shares, e_greys, e_grey_of, e_grey_total, e_L_cell, e_L_box, e_L_take, e_L_same]
def fn1 : List He.DefD := [e_L_low, e_L_pair, e_L_num, e_L_plus, e_L_minus, e_L_times, e_L_over, e_L_less, e_L_row_part, e_L_under, e_L_cell_range, e_L_greys, e_L_added, e_L_place, e_L_polygon, e_L_told, e_L_land, e_L_turned_right, e_law]
def fn : List He.DefD := fn0 ++ fn1
def fg0 : List He.Fa := [.glo "is_plain", .glo "common_part", .glo "is_part", .glo "is_number", .glo "reckoned", .glo "pair_of", .glo "plus", .glo "minus", .glo "times", .glo "over", .glo "less", .glo "floor_of", .glo "is_list", .glo "need_parts", .glo "is_kept", .glo "place_on", .glo "cut_off", .glo "between_lines", .glo "share_of", .glo "cell_range", .glo "box_of", .glo "need_box", .glo "row_shares", .glo "greys", .glo "grey_of", .glo "grey_total", .glo "_law_cell", .glo "_law_box", .glo "_law_take", .glo "_law_same"]
def fg1 : List He.Fa := [.glo "_law_low", .glo "_law_pair", .glo "_law_num", .glo "_law_plus", .glo "_law_minus", .glo "_law_times", .glo "_law_over", .glo "_law_less", .glo "_law_row_part", .glo "_law_under", .glo "_law_cell_range", .glo "_law_greys", .glo "_law_added", .glo "_law_place", .glo "_law_polygon", .glo "_law_told", .glo "_law_land", .glo "_law_turned_right", .glo "law"]
def ff : List He.Fa := [.free "len", .free "abs", .free "max", .free "min", .free "all", .free "int", .free "bool", .free "str", .free "list", .free "tuple", .free "isinstance", .free "range", .free "enumerate", .free "zip", .free "sorted"]
def fi : List He.Fa := [.int "CELL" 64, .int "MOST_POLYGONS" 4, .int "MOST_PLACES" 100, .int "MOST_CELLS" 2000, .int "TWICE" 8192]
def fa : List He.Fa := fg0 ++ fg1 ++ ff ++ fi
def ts : List He.Tab := []
def ex (K : PySem.W.Frag) : Bool := K.all fun q => match q.2.cls with
  | .type c => !decide (c = "list")
  | _ => true
abbrev R : PySem.W.OpenRow := PySem.W.OpenLaw.row PySem.Challenge.rw_hintscribe_k84_whole_greys_by_edges
abbrev hk : PySem.W.Hook := He.hookX 4 fa fn ts [] ex
def ob (s : PySem.W.SharedT) : He.AlX := He.obsX 4 fa fn ts [] ex (HandSHeadRun.getT s)
theorem ob_eq (s : PySem.W.SharedT) : ob s = hk.obs s.abs := He.obsX_eq (HandSHeadRun.getT_eq s)
theorem run (w : World) : HandSHeadRun.RunEq R (PySem.W.view R.prog [65]) hk ob 6000 loose w := by
  intro os
  kernel_rfl
end K84

set_option Elab.async false
set_option linter.all false
set_option maxRecDepth 100000
/-! numbers: fractions in lowest terms -/
namespace K77
open PySem
def prt (t b : Int) : Int := if b < 0 then 0 - (Int.gcd t b : Int) else (Int.gcd t b : Int)
def redT (t b : Int) : Int := t.fdiv (prt t b)
def redB (t b : Int) : Int := b.fdiv (prt t b)
def numD (a b : Int) : PyData := if b = 1 then .int a else .tuple [.int a, .int b]
def redD (t b : Int) : PyData := numD (redT t b) (redB t b)
structure Nm (a b : Int) : Prop where
  pos : 0 < b
  cop : Int.gcd a b = 1
theorem gcd_pos {t b : Int} (hb : b ≠ 0) : 0 < Int.gcd t b := Int.gcd_pos_of_ne_zero_right t hb
theorem prt_ne {t b : Int} (hb : b ≠ 0) : prt t b ≠ 0 := by
  have := gcd_pos (t := t) hb
  unfold prt; split <;> omega
theorem prt_t {t b : Int} : prt t b ∣ t := by
  unfold prt
  split
  · rw [Int.zero_sub, Int.neg_dvd]; exact Int.gcd_dvd_left ..
  · exact Int.gcd_dvd_left ..
theorem prt_b {t b : Int} : prt t b ∣ b := by
  unfold prt
  split
  · rw [Int.zero_sub, Int.neg_dvd]; exact Int.gcd_dvd_right ..
  · exact Int.gcd_dvd_right ..
theorem prt_abs {t b : Int} : (prt t b).natAbs = Int.gcd t b := by
  unfold prt; split <;> omega
theorem fdiv_mul {t p : Int} (h : p ∣ t) (hp : p ≠ 0) : t.fdiv p * p = t := by
  obtain ⟨c, rfl⟩ := h
  rw [Int.mul_fdiv_cancel_left _ hp, Int.mul_comm]
theorem red_t {t b : Int} (hb : b ≠ 0) : redT t b * prt t b = t := fdiv_mul prt_t (prt_ne hb)
theorem red_b {t b : Int} (hb : b ≠ 0) : redB t b * prt t b = b := fdiv_mul prt_b (prt_ne hb)
theorem red_nm {t b : Int} (hb : b ≠ 0) : Nm (redT t b) (redB t b) := by
  have h1 := red_t (t := t) hb
  have h2 := red_b (t := t) hb
  have hp := prt_ne (t := t) hb
  have hg := gcd_pos (t := t) hb
  constructor
  · by_cases h : b < 0
    · have e : prt t b < 0 := by unfold prt; rw [if_pos h]; omega
      rcases Int.lt_trichotomy (redB t b) 0 with q | q | q
      · have : 0 < redB t b * prt t b := Int.mul_pos_of_neg_of_neg q e
        omega
      · rw [q, Int.zero_mul] at h2; omega
      · exact q
    · have e : 0 < prt t b := by unfold prt; rw [if_neg h]; omega
      rcases Int.lt_trichotomy (redB t b) 0 with q | q | q
      · have : redB t b * prt t b < 0 := Int.mul_neg_of_neg_of_pos q e
        omega
      · rw [q, Int.zero_mul] at h2; omega
      · exact q
  · have e : Int.gcd (redT t b * prt t b) (redB t b * prt t b) = Int.gcd (redT t b) (redB t b) * (prt t b).natAbs := Int.gcd_mul_right ..
    rw [h1, h2, prt_abs] at e
    have e2 : Int.gcd (redT t b) (redB t b) * Int.gcd t b = 1 * Int.gcd t b := by omega
    exact Nat.eq_of_mul_eq_mul_right hg e2
theorem red_id {a b : Int} (h : Nm a b) : redT a b = a ∧ redB a b = b := by
  have hp : prt a b = 1 := by unfold prt; rw [if_neg (by have := h.pos; omega), h.cop]; rfl
  unfold redT redB
  rw [hp]
  exact ⟨Int.fdiv_one _, Int.fdiv_one _⟩
theorem redD_id {a b : Int} (h : Nm a b) : redD a b = numD a b := by
  unfold redD
  rw [(red_id h).1, (red_id h).2]
theorem redT_le {t b : Int} (hb : b ≠ 0) : (redT t b).natAbs ≤ t.natAbs := by
  have h := congrArg Int.natAbs (red_t (t := t) hb)
  rw [Int.natAbs_mul, prt_abs] at h
  have hg := gcd_pos (t := t) hb
  have := Nat.le_mul_of_pos_right (redT t b).natAbs hg
  omega
theorem redB_le {t b : Int} (hb : b ≠ 0) : (redB t b).natAbs ≤ b.natAbs := by
  have h := congrArg Int.natAbs (red_b (t := t) hb)
  rw [Int.natAbs_mul, prt_abs] at h
  have hg := gcd_pos (t := t) hb
  have := Nat.le_mul_of_pos_right (redB t b).natAbs hg
  omega
theorem redB_pos {t b : Int} (hb : b ≠ 0) : 0 < redB t b := (red_nm hb).pos
/-- the law's way to lowest terms is the same -/
theorem low_t {t b : Int} (hb : b ≠ 0) : ((if b > 0 then 1 else -1) * t).fdiv (Int.gcd t b) = redT t b := by
  have hg := gcd_pos (t := t) hb
  have hd : (Int.gcd t b : Int) ∣ t := Int.gcd_dvd_left ..
  unfold redT prt
  by_cases h : b < 0
  · rw [if_neg (by omega), if_pos h]
    have hg0 : (Int.gcd t b : Int) ≠ 0 := by omega
    clear hg
    obtain ⟨c, hc⟩ := hd
    generalize (Int.gcd t b : Int) = g at *
    subst hc
    rw [show -1 * (g * c) = g * (-c) by rw [Int.mul_neg, Int.neg_mul, Int.one_mul], Int.mul_fdiv_cancel_left _ hg0, show g * c = (0 - g) * (-c) by rw [Int.zero_sub, Int.neg_mul_neg], Int.mul_fdiv_cancel_left _ (by omega)]
  · rw [if_pos (by omega), if_neg h, Int.one_mul]
theorem low_b {t b : Int} (hb : b ≠ 0) : ((b.natAbs : Int)).fdiv (Int.gcd t b) = redB t b := by
  have hg := gcd_pos (t := t) hb
  have hd : (Int.gcd t b : Int) ∣ b := Int.gcd_dvd_right ..
  unfold redB prt
  by_cases h : b < 0
  · rw [if_pos h, show (b.natAbs : Int) = -b by omega]
    have hg0 : (Int.gcd t b : Int) ≠ 0 := by omega
    clear hg
    obtain ⟨c, hc⟩ := hd
    generalize (Int.gcd t b : Int) = g at *
    subst hc
    rw [show -(g * c) = g * (-c) by rw [Int.mul_neg], Int.mul_fdiv_cancel_left _ hg0, show g * c = (0 - g) * (-c) by rw [Int.zero_sub, Int.neg_mul_neg], Int.mul_fdiv_cancel_left _ (by omega)]
  · rw [if_neg h, show (b.natAbs : Int) = b by omega]
/-- a size: below 2 ^ n, without the sign -/
def Bd (n : Nat) (i : Int) : Prop := i.natAbs < 2 ^ n
theorem Bd.mono {m n : Nat} {i : Int} (h : Bd m i) (l : m ≤ n) : Bd n i := Nat.lt_of_lt_of_le h (Nat.pow_le_pow_right (by decide) l)
theorem Bd.mul {m n : Nat} {i j : Int} (h : Bd m i) (k : Bd n j) : Bd (m + n) (i * j) := by
  unfold Bd at *
  rw [Int.natAbs_mul, Nat.pow_add]
  exact Nat.mul_lt_mul'' h k
theorem Bd.add {n : Nat} {i j : Int} (h : Bd n i) (k : Bd n j) : Bd (n + 1) (i + j) := by
  unfold Bd at *
  have := Int.natAbs_add_le i j
  rw [Nat.pow_succ]
  omega
theorem Bd.neg {n : Nat} {i : Int} (h : Bd n i) : Bd n (-i) := by unfold Bd at *; rw [Int.natAbs_neg]; exact h
theorem Bd.sub {n : Nat} {i j : Int} (h : Bd n i) (k : Bd n j) : Bd (n + 1) (i - j) := by rw [Int.sub_eq_add_neg]; exact h.add k.neg
theorem Bd.le {n : Nat} {i j : Int} (h : Bd n i) (k : j.natAbs ≤ i.natAbs) : Bd n j := Nat.lt_of_le_of_lt k h
theorem Bd.redT {n : Nat} {t b : Int} (hb : b ≠ 0) (h : Bd n t) : Bd n (redT t b) := h.le (redT_le hb)
theorem Bd.redB {n : Nat} {t b : Int} (hb : b ≠ 0) (h : Bd n b) : Bd n (redB t b) := h.le (redB_le hb)
theorem ten60 : (10 : Nat) ^ 60 < 2 ^ 200 := by decide
end K77

set_option Elab.async false
set_option linter.all false
set_option maxRecDepth 100000
/-! K84N: fractions as the program holds them; how large they are. -/
namespace K84
open PySem K77
theorem castN (n : Nat) : (((n : Nat) : Int) : Rat) = (n : Rat) := rfl
theorem denQ (q : Rat) : (q.den : Rat) ≠ 0 := fun z => q.den_nz (by rw [← Rat.natCast_eq_zero_iff]; exact z)
theorem qmd (q : Rat) : q * (q.den : Rat) = (q.num : Rat) := by
  have h : Rat.divInt q.num q.den = q := Rat.num_divInt_den q
  rw [Rat.divInt_eq_div] at h
  conv => lhs; lhs; rw [← h]
  exact Rat.div_mul_cancel (denQ q)
theorem nmQ (q : Rat) : Nm q.num q.den := ⟨by have := q.den_pos; omega, by rw [Int.gcd, Int.natAbs_natCast]; exact q.reduced⟩
def qd (q : Rat) : PyData := numD q.num q.den
def qp (q : Rat) : PyData := .tuple [.int q.num, .int q.den]
theorem rat_eq {t b : Int} (hb : b ≠ 0) {q : Rat} (h : q * (b : Rat) = (t : Rat)) : q = Rat.divInt t b := by
  have hb' : (b : Rat) ≠ 0 := fun z => hb (Rat.intCast_eq_zero_iff.mp z)
  rw [Rat.divInt_eq_div, ← h]
  exact (Rat.mul_div_cancel hb').symm
theorem red_rat {t b : Int} (hb : b ≠ 0) {q : Rat} (h : q * (b : Rat) = (t : Rat)) : redT t b = q.num ∧ redB t b = q.den := by
  have e := (rat_eq hb h).symm
  obtain ⟨n, d, hd, hc⟩ := q
  obtain ⟨m, hm, e1, e2⟩ := Rat.divInt_num_den hb e
  have hp : prt t b = m := by
    have hg : (Int.gcd t b : Int) = m.natAbs := by
      rw [e1, e2, Int.gcd_mul_right]
      have : Int.gcd n (d : Int) = 1 := by rw [Int.gcd, Int.natAbs_natCast]; exact hc
      rw [this, Nat.one_mul]
    have hdp : (0 : Int) < d := by omega
    unfold prt
    rw [hg]
    by_cases hm0 : m < 0
    · rw [if_pos (by rw [e2]; exact Int.mul_neg_of_pos_of_neg hdp hm0)]; omega
    · rw [if_neg (by rw [e2]; have := Int.mul_nonneg (Int.le_of_lt hdp) (Int.not_lt.mp hm0); omega)]; omega
  unfold redT redB
  rw [hp, e1, e2]
  exact ⟨Int.mul_fdiv_cancel _ hm, Int.mul_fdiv_cancel _ hm⟩
theorem redD_rat {t b : Int} (hb : b ≠ 0) {q : Rat} (h : q * (b : Rat) = (t : Rat)) : redD t b = qd q := by
  unfold redD qd
  rw [(red_rat hb h).1, (red_rat hb h).2]
theorem qd_int (i : Int) : qd (i : Rat) = .int i := rfl
theorem denI (q : Rat) : (q.den : Int) ≠ 0 := by have := q.den_nz; omega
/-! the four ways to reckon -/
theorem add_rat (p q : Rat) : (p + q) * ((p.den * q.den : Int) : Rat) = ((p.num * q.den + q.num * p.den : Int) : Rat) := by
  rw [Rat.intCast_mul, Rat.intCast_add, Rat.intCast_mul, Rat.intCast_mul, castN, castN, ← qmd p, ← qmd q]; grind
theorem sub_rat (p q : Rat) : (p - q) * ((p.den * q.den : Int) : Rat) = ((p.num * q.den - q.num * p.den : Int) : Rat) := by
  rw [Rat.intCast_mul, Rat.intCast_sub, Rat.intCast_mul, Rat.intCast_mul, castN, castN, ← qmd p, ← qmd q]; grind
theorem mul_rat (p q : Rat) : (p * q) * ((p.den * q.den : Int) : Rat) = ((p.num * q.num : Int) : Rat) := by
  rw [Rat.intCast_mul, Rat.intCast_mul, castN, castN, ← qmd p, ← qmd q]; grind
theorem div_rat (p q : Rat) (hq : q ≠ 0) : (p / q) * ((p.den * q.num : Int) : Rat) = ((p.num * q.den : Int) : Rat) := by
  rw [Rat.intCast_mul, Rat.intCast_mul, castN, castN, ← qmd p, ← qmd q]; grind
theorem num_ne {q : Rat} (hq : q ≠ 0) : q.num ≠ 0 := fun z => hq (Rat.num_eq_zero.mp z)
theorem lt_rat (p q : Rat) : decide (p.num * q.den < q.num * p.den) = decide (p < q) := decide_eq_decide.mpr (Rat.lt_iff p q).symm
/-! ### sizes -/
/-- q is a whole number of D-ths -/
def Dv (D : Nat) (q : Rat) : Prop := ∃ z : Int, q * (D : Rat) = (z : Rat)
theorem Dv.int (D : Nat) (i : Int) : Dv D (i : Rat) := ⟨i * D, by rw [Rat.intCast_mul, castN]⟩
theorem Dv.mono {D E : Nat} {q : Rat} (h : Dv D q) (e : D ∣ E) : Dv E q := by
  obtain ⟨k, rfl⟩ := e
  obtain ⟨z, hz⟩ := h
  exact ⟨z * k, by rw [Rat.intCast_mul, castN, ← hz, Rat.natCast_mul]; grind⟩
theorem Dv.add {D : Nat} {p q : Rat} (h : Dv D p) (k : Dv D q) : Dv D (p + q) := by
  obtain ⟨z, hz⟩ := h; obtain ⟨y, hy⟩ := k
  exact ⟨z + y, by rw [Rat.intCast_add, ← hz, ← hy]; grind⟩
theorem Dv.sub {D : Nat} {p q : Rat} (h : Dv D p) (k : Dv D q) : Dv D (p - q) := by
  obtain ⟨z, hz⟩ := h; obtain ⟨y, hy⟩ := k
  exact ⟨z - y, by rw [Rat.intCast_sub, ← hz, ← hy]; grind⟩
theorem Dv.mul {D E : Nat} {p q : Rat} (h : Dv D p) (k : Dv E q) : Dv (D * E) (p * q) := by
  obtain ⟨z, hz⟩ := h; obtain ⟨y, hy⟩ := k
  exact ⟨z * y, by rw [Rat.intCast_mul, ← hz, ← hy, Rat.natCast_mul]; grind⟩
theorem Dv.den {q : Rat} : Dv q.den q := ⟨q.num, qmd q⟩
theorem Dv.den_dvd {D : Nat} {q : Rat} (h : Dv D q) (hD : D ≠ 0) : q.den ∣ D := by
  obtain ⟨z, hz⟩ := h
  have e := (rat_eq (t := z) (b := D) (by omega) (by rw [castN]; exact hz)).symm
  obtain ⟨n, d, hd, hc⟩ := q
  obtain ⟨m, hm, e1, e2⟩ := Rat.divInt_num_den (show (D : Int) ≠ 0 by omega) e
  show d ∣ D
  exact Int.natCast_dvd_natCast.mp ⟨m, e2⟩
theorem Dv.den_le {D : Nat} {q : Rat} (h : Dv D q) (hD : D ≠ 0) : q.den ≤ D := Nat.le_of_dvd (Nat.pos_of_ne_zero hD) (h.den_dvd hD)
/-- q lies between -M and M -/
def Ab (M : Nat) (q : Rat) : Prop := -(M : Rat) ≤ q ∧ q ≤ (M : Rat)
theorem Ab.mono {M N : Nat} {q : Rat} (h : Ab M q) (e : M ≤ N) : Ab N q := by
  have : (M : Rat) ≤ (N : Rat) := Rat.natCast_le_natCast.mpr e
  unfold Ab at *; grind
theorem Ab.add {M N : Nat} {p q : Rat} (h : Ab M p) (k : Ab N q) : Ab (M + N) (p + q) := by unfold Ab at *; rw [Rat.natCast_add]; grind
theorem Ab.neg {M : Nat} {q : Rat} (h : Ab M q) : Ab M (-q) := by unfold Ab at *; grind
theorem Ab.sub {M N : Nat} {p q : Rat} (h : Ab M p) (k : Ab N q) : Ab (M + N) (p - q) := by unfold Ab at *; rw [Rat.natCast_add]; grind
theorem Ab.mul {M N : Nat} {p q : Rat} (h : Ab M p) (k : Ab N q) : Ab (M * N) (p * q) := by
  unfold Ab at *
  rw [Rat.natCast_mul]
  generalize (M : Rat) = a at *
  generalize (N : Rat) = b at *
  have h1 : 0 ≤ (a - p) * (b - q) := Rat.mul_nonneg (by grind) (by grind)
  have h2 : 0 ≤ (a + p) * (b - q) := Rat.mul_nonneg (by grind) (by grind)
  have h3 : 0 ≤ (a - p) * (b + q) := Rat.mul_nonneg (by grind) (by grind)
  have h4 : 0 ≤ (a + p) * (b + q) := Rat.mul_nonneg (by grind) (by grind)
  grind
theorem Ab.int {i : Int} {M : Nat} (h : i.natAbs ≤ M) : Ab M (i : Rat) := by
  unfold Ab
  rw [← castN, ← Rat.intCast_neg]
  exact ⟨Rat.intCast_le_intCast.mpr (by omega), Rat.intCast_le_intCast.mpr (by omega)⟩
theorem Ab.num {M D : Nat} {q : Rat} (h : Ab M q) (hd : q.den ≤ D) : q.num.natAbs ≤ M * D := by
  have h2 := (h.mul (Ab.int (i := (q.den : Int)) (M := D) (by omega)))
  rw [castN, qmd] at h2
  obtain ⟨h3, h4⟩ := h2
  rw [← castN, ← Rat.intCast_neg] at h3
  rw [← castN] at h4
  have h5 := Rat.intCast_le_intCast.mp h3
  have h6 := Rat.intCast_le_intCast.mp h4
  omega
theorem Ab.inv {q : Rat} (hq : q ≠ 0) : Ab q.den (q⁻¹) := by
  have hn : 0 < q.num.natAbs := Int.natAbs_pos.mpr (num_ne hq)
  have h : (q⁻¹) * ((q.num : Int) : Rat) = ((q.den : Int) : Rat) := by rw [castN, ← qmd q]; grind
  unfold Ab
  rw [← castN]
  generalize ((q.den : Int) : Rat) = d at *
  by_cases h0 : 0 ≤ q.num
  · have h1 : (1 : Rat) ≤ ((q.num : Int) : Rat) := Rat.intCast_le_intCast.mpr (show (1 : Int) ≤ q.num by omega)
    by_cases hs : 0 ≤ q⁻¹
    · have := Rat.mul_nonneg hs (show 0 ≤ ((q.num : Int) : Rat) - 1 by grind); grind
    · have hq0 : 0 < q := by
        rcases Rat.le_iff_lt_or_eq.mp (Rat.num_nonneg.mp h0) with z | z
        · exact z
        · exact absurd z.symm hq
      have := Rat.inv_pos.mpr hq0
      grind
  · have h1 : ((q.num : Int) : Rat) ≤ -1 := Rat.intCast_le_intCast.mpr (show q.num ≤ (-1 : Int) by omega)
    have hq0 : 0 < -q := by
      have : ¬ 0 ≤ q := fun z => h0 (Rat.num_nonneg.mpr z)
      grind
    have h5 := Rat.inv_pos.mpr hq0
    have h6 : (-q)⁻¹ = -(q⁻¹) := by grind
    rw [h6] at h5
    have := Rat.mul_nonneg (Rat.le_of_lt h5) (show 0 ≤ -((q.num : Int) : Rat) - 1 by grind)
    grind
/-- so many bits below the line, so many ahead of the point -/
structure Fq (n m : Nat) (q : Rat) : Prop where
  ex : ∃ D : Nat, D ≠ 0 ∧ D ≤ 2 ^ n ∧ Dv D q
  ab : Ab (2 ^ m) q
theorem Fq.of {D n m : Nat} {q : Rat} (h0 : D ≠ 0) (h1 : D ≤ 2 ^ n) (h : Dv D q) (a : Ab (2 ^ m) q) : Fq n m q := ⟨⟨D, h0, h1, h⟩, a⟩
theorem pow_le {m n : Nat} (h : m ≤ n) : 2 ^ m ≤ 2 ^ n := Nat.pow_le_pow_right (by decide) h
theorem Fq.mono {n m n' m' : Nat} {q : Rat} (h : Fq n m q) (e : n ≤ n') (e' : m ≤ m') : Fq n' m' q := by
  obtain ⟨⟨D, h0, h1, h2⟩, h3⟩ := h
  exact ⟨⟨D, h0, Nat.le_trans h1 (pow_le e), h2⟩, h3.mono (pow_le e')⟩
theorem Fq.int {i : Int} {m : Nat} (h : i.natAbs ≤ 2 ^ m) : Fq 0 m (i : Rat) := ⟨⟨1, by decide, by decide, Dv.int 1 i⟩, Ab.int h⟩
theorem two_le {M N m k : Nat} (h1 : M ≤ 2 ^ m) (h2 : N ≤ 2 ^ k) : M + N ≤ 2 ^ (m + k + 1) := by
  have := pow_le (show m ≤ m + k by omega)
  have := pow_le (show k ≤ m + k by omega)
  rw [Nat.pow_succ]; omega
theorem Fq.add {n m k l : Nat} {p q : Rat} (h : Fq n m p) (g : Fq k l q) : Fq (n + k) (m + l + 1) (p + q) := by
  obtain ⟨⟨D, h0, h1, h2⟩, h3⟩ := h
  obtain ⟨⟨E, g0, g1, g2⟩, g3⟩ := g
  exact ⟨⟨D * E, Nat.mul_ne_zero h0 g0, by rw [Nat.pow_add]; exact Nat.mul_le_mul h1 g1, (h2.mono ⟨E, rfl⟩).add (g2.mono ⟨D, Nat.mul_comm _ _⟩)⟩, (h3.add g3).mono (two_le (Nat.le_refl _) (Nat.le_refl _))⟩
theorem Fq.sub {n m k l : Nat} {p q : Rat} (h : Fq n m p) (g : Fq k l q) : Fq (n + k) (m + l + 1) (p - q) := by
  obtain ⟨⟨D, h0, h1, h2⟩, h3⟩ := h
  obtain ⟨⟨E, g0, g1, g2⟩, g3⟩ := g
  exact ⟨⟨D * E, Nat.mul_ne_zero h0 g0, by rw [Nat.pow_add]; exact Nat.mul_le_mul h1 g1, (h2.mono ⟨E, rfl⟩).sub (g2.mono ⟨D, Nat.mul_comm _ _⟩)⟩, (h3.sub g3).mono (two_le (Nat.le_refl _) (Nat.le_refl _))⟩
theorem Fq.mul {n m k l : Nat} {p q : Rat} (h : Fq n m p) (g : Fq k l q) : Fq (n + k) (m + l) (p * q) := by
  obtain ⟨⟨D, h0, h1, h2⟩, h3⟩ := h
  obtain ⟨⟨E, g0, g1, g2⟩, g3⟩ := g
  refine ⟨⟨D * E, Nat.mul_ne_zero h0 g0, by rw [Nat.pow_add]; exact Nat.mul_le_mul h1 g1, h2.mul g2⟩, ?_⟩
  rw [Nat.pow_add]; exact h3.mul g3
theorem Fq.den {n m : Nat} {q : Rat} (h : Fq n m q) : q.den ≤ 2 ^ n := by
  obtain ⟨⟨D, h0, h1, h2⟩, h3⟩ := h
  exact Nat.le_trans (h2.den_le h0) h1
theorem Fq.num {n m : Nat} {q : Rat} (h : Fq n m q) : q.num.natAbs ≤ 2 ^ (m + n) := by rw [Nat.pow_add]; exact h.ab.num h.den
theorem Fq.div {n m k l : Nat} {p q : Rat} (h : Fq n m p) (g : Fq k l q) (hq : q ≠ 0) : Fq (n + (l + k)) (m + k) (p / q) := by
  refine ⟨⟨p.den * q.num.natAbs, Nat.mul_ne_zero p.den_nz (by have := num_ne hq; omega), by rw [Nat.pow_add]; exact Nat.mul_le_mul h.den g.num, ?_⟩, ?_⟩
  · have := div_rat p q hq
    by_cases h0 : 0 ≤ q.num
    · refine ⟨p.num * q.den, ?_⟩
      rw [← this, ← castN]
      congr 2
      rw [Int.natCast_mul, Int.natAbs_of_nonneg h0]
    · refine ⟨-(p.num * q.den), ?_⟩
      rw [Rat.intCast_neg, ← this, ← castN]
      have : ((p.den * q.num.natAbs : Nat) : Int) = -((p.den : Int) * q.num) := by rw [Int.natCast_mul, show (q.num.natAbs : Int) = -q.num by omega, Int.mul_neg]
      rw [this, Rat.intCast_neg]
      grind
  · rw [Nat.pow_add, Rat.div_def]
    exact h.ab.mul ((Ab.inv hq).mono g.den)
/-- both of one base: the quotient's base is the second's top -/
theorem Fq.divC {D n m l : Nat} {p q : Rat} (hD : D ≠ 0) (hn : D ≤ 2 ^ n) (hp : Dv D p) (hq : Dv D q) (ap : Ab (2 ^ m) p) (aq : Ab (2 ^ l) q) (h0 : q ≠ 0) : Fq (l + n) (m + n) (p / q) := by
  obtain ⟨z, hz⟩ := hp
  obtain ⟨y, hy⟩ := hq
  have hDr : (D : Rat) ≠ 0 := fun w => hD (Rat.natCast_eq_zero_iff.mp w)
  have hy0 : y ≠ 0 := fun w => h0 (by
    rw [w] at hy
    rcases Rat.mul_eq_zero.mp hy with c | c
    · exact c
    · exact absurd c hDr)
  have hyb : y.natAbs ≤ 2 ^ l * 2 ^ n := by
    have h2 := aq.mul (Ab.int (i := (D : Int)) (M := 2 ^ n) (by omega))
    rw [castN, hy] at h2
    obtain ⟨h3, h4⟩ := h2
    rw [← castN, ← Rat.intCast_neg] at h3
    rw [← castN] at h4
    have h5 := Rat.intCast_le_intCast.mp h3
    have h6 := Rat.intCast_le_intCast.mp h4
    omega
  have key : p / q * ((y : Int) : Rat) = ((z : Int) : Rat) := by rw [← hz, ← hy]; grind
  refine ⟨⟨y.natAbs, by omega, by rw [Nat.pow_add]; exact hyb, ?_⟩, ?_⟩
  · by_cases h1 : 0 ≤ y
    · exact ⟨z, by rw [← castN, Int.natAbs_of_nonneg h1]; exact key⟩
    · exact ⟨-z, by rw [← castN, show (y.natAbs : Int) = -y by omega, Rat.intCast_neg, Rat.intCast_neg, ← key]; grind⟩
  · rw [Nat.pow_add, Rat.div_def]
    exact ap.mul ((Ab.inv h0).mono (Nat.le_trans (Dv.den_le ⟨y, hy⟩ hD) hn))
/-- what may be reckoned with -/
structure Sq (q : Rat) : Prop where
  t : Bd 400000 q.num
  b : Bd 4400 q.den
theorem Fq.sq {n m : Nat} {q : Rat} (h : Fq n m q) (e1 : n < 4400) (e2 : m + n < 400000) : Sq q := by
  refine ⟨Nat.lt_of_le_of_lt h.num (Nat.pow_lt_pow_right (by decide) e2), ?_⟩
  have := h.den
  have h2 : 2 ^ n < 2 ^ 4400 := Nat.pow_lt_pow_right (by decide) e1
  unfold Bd
  omega
theorem Fq.sv {n m : Nat} {q : Rat} (h : Fq n m q) (e2 : m + n < 4400) : Bd 4400 q.num := Nat.lt_of_le_of_lt h.num (Nat.pow_lt_pow_right (by decide) e2)
end K84

set_option Elab.async false
set_option linter.all false
set_option maxRecDepth 100000
/-! K84S: one base for all places of a polygon that is cut. -/
namespace K84
open PySem
open G84
def Eall (E : Pt → Pt → Prop) : Pt → List Pt → Prop
  | _, [] => True
  | p, q :: r => E p q ∧ Eall E q r
def cycE (E : Pt → Pt → Prop) (l : List Pt) : Prop := Eall E (lastP l) l
theorem eall_app {E : Pt → Pt → Prop} : ∀ {l m : List Pt} {p : Pt}, Eall E p (l ++ m) ↔ Eall E p l ∧ Eall E (lastD p l) m
  | [], m, p => by simp [Eall, lastD_nil]
  | q :: r, m, p => by rw [List.cons_append, lastD_cons]; simp only [Eall, eall_app, and_assoc]
/-- a place of base D, not far -/
structure Vx (D : Nat) (p : Pt) : Prop where
  x : Dv D p.1 ∧ Ab (2 ^ 50) p.1
  y : Dv D p.2 ∧ Ab (2 ^ 50) p.2
/-- both on one line whose coefficients divide D -/
def Ln (D : Nat) (p q : Pt) : Prop := ∃ a b c : Int, (a ≠ 0 ∨ b ≠ 0) ∧ (a ≠ 0 → a.natAbs ∣ D) ∧ (b ≠ 0 → b.natAbs ∣ D) ∧ a.natAbs ≤ 2 ^ 20 ∧ b.natAbs ≤ 2 ^ 20 ∧ c.natAbs ≤ 2 ^ 40 ∧
  (a : Rat) * p.1 + (b : Rat) * p.2 = (c : Rat) ∧ (a : Rat) * q.1 + (b : Rat) * q.2 = (c : Rat)
theorem Dv.quot {D : Nat} {b n : Int} {y : Rat} (hb : b ≠ 0) (hd : b.natAbs ∣ D) (e : (b : Rat) * y = (n : Rat)) : Dv D y := by
  obtain ⟨k, rfl⟩ := hd
  have h1 : y * (b : Rat) = (n : Rat) := by rw [← e]; grind
  by_cases h : 0 ≤ b
  · refine ⟨n * k, ?_⟩
    rw [Rat.intCast_mul, ← h1, ← castN, Int.natCast_mul, Rat.intCast_mul, Int.natAbs_of_nonneg h]; grind
  · refine ⟨-(n * k), ?_⟩
    rw [Rat.intCast_neg, Rat.intCast_mul, ← h1, ← castN, Int.natCast_mul, Rat.intCast_mul, show (b.natAbs : Int) = -b by omega, Rat.intCast_neg]; grind
theorem Ab.quot {M : Nat} {b n : Int} {y : Rat} (hb : b ≠ 0) (hn : n.natAbs ≤ M) (e : (b : Rat) * y = (n : Rat)) : Ab M y := by
  have hn2 := Ab.int hn
  rw [← e] at hn2
  unfold Ab at *
  have hM : (0 : Rat) ≤ (M : Rat) := Rat.natCast_nonneg
  by_cases h : 0 < b
  · have h1 : (1 : Rat) ≤ (b : Rat) := Rat.intCast_le_intCast.mpr (show (1 : Int) ≤ b by omega)
    by_cases hy : 0 ≤ y
    · have := Rat.mul_nonneg (show 0 ≤ (b : Rat) - 1 by grind) hy; grind
    · have := Rat.mul_nonneg (show 0 ≤ (b : Rat) - 1 by grind) (show 0 ≤ -y by grind); grind
  · have h1 : (b : Rat) ≤ -1 := Rat.intCast_le_intCast.mpr (show b ≤ (-1 : Int) by omega)
    by_cases hy : 0 ≤ y
    · have := Rat.mul_nonneg (show 0 ≤ -1 - (b : Rat) by grind) hy; grind
    · have := Rat.mul_nonneg (show 0 ≤ -1 - (b : Rat) by grind) (show 0 ≤ -y by grind); grind
theorem natAbs_line {a c z : Int} (h1 : a.natAbs ≤ 2 ^ 20) (h2 : c.natAbs ≤ 2 ^ 40) (h3 : z.natAbs ≤ 2 ^ 20) : (c - a * z).natAbs ≤ 2 ^ 50 := by
  have h4 : (a * z).natAbs ≤ 2 ^ 20 * 2 ^ 20 := by rw [Int.natAbs_mul]; exact Nat.mul_le_mul h1 h3
  have e : (2 : Nat) ^ 20 * 2 ^ 20 = 1099511627776 := by decide
  have e2 : (2 : Nat) ^ 40 = 1099511627776 := by decide
  have e3 : (2 : Nat) ^ 50 = 1125899906842624 := by decide
  omega
/-- where a line meets x = z (y = z) -/
theorem meet {D : Nat} {v : Bool} {z : Int} {p q : Pt} (hz : z.natAbs ≤ 2 ^ 20) (h : Ln D p q) (hne : co v p ≠ co v q) :
    Vx D (sect v (z : Rat) p q) ∧ Ln D p (sect v (z : Rat) p q) ∧ Ln D (sect v (z : Rat) p q) q := by
  obtain ⟨a, b, c, h0, ha, hb, sa, sb, sc, e1, e2⟩ := h
  have key : (a : Rat) * (sect v (z : Rat) p q).1 + (b : Rat) * (sect v (z : Rat) p q).2 = (c : Rat) := by
    cases v
    · simp only [sect, setc, co] at hne ⊢
      simp only [Bool.false_eq_true, if_false] at hne ⊢
      have hd : q.1 - p.1 ≠ 0 := by grind
      have : (((z : Rat) - p.1) / (q.1 - p.1)) * (q.1 - p.1) = (z : Rat) - p.1 := Rat.div_mul_cancel hd
      grind
    · simp only [sect, setc, co] at hne ⊢
      simp only [if_true] at hne ⊢
      have hd : q.2 - p.2 ≠ 0 := by grind
      have : (((z : Rat) - p.2) / (q.2 - p.2)) * (q.2 - p.2) = (z : Rat) - p.2 := Rat.div_mul_cancel hd
      grind
  refine ⟨?_, ⟨a, b, c, h0, ha, hb, sa, sb, sc, e1, key⟩, ⟨a, b, c, h0, ha, hb, sa, sb, sc, key, e2⟩⟩
  have hz50 : z.natAbs ≤ 2 ^ 50 := Nat.le_trans hz (by decide)
  cases v
  · have hx : (sect false (z : Rat) p q).1 = (z : Rat) := rfl
    rw [hx] at key
    have hb0 : b ≠ 0 := fun w => by
      subst w
      have ha0 : a ≠ 0 := by rcases h0 with h0 | h0; exact h0; exact absurd rfl h0
      have : (a : Rat) ≠ 0 := fun w => ha0 (Rat.intCast_eq_zero_iff.mp w)
      simp only [co, Bool.false_eq_true, if_false] at hne
      simp at e1 e2
      have h3 : (a : Rat) * (p.1 - q.1) = 0 := by grind
      rcases Rat.mul_eq_zero.mp h3 with w | w
      · exact this w
      · exact hne (by grind)
    have e3 : (b : Rat) * (sect false (z : Rat) p q).2 = ((c - a * z : Int) : Rat) := by rw [Rat.intCast_sub, Rat.intCast_mul]; grind
    exact ⟨⟨by rw [hx]; exact Dv.int D z, by rw [hx]; exact Ab.int hz50⟩, ⟨Dv.quot hb0 (hb hb0) e3, Ab.quot hb0 (natAbs_line sa sc hz) e3⟩⟩
  · have hx : (sect true (z : Rat) p q).2 = (z : Rat) := rfl
    rw [hx] at key
    have ha0 : a ≠ 0 := fun w => by
      subst w
      have hb0 : b ≠ 0 := by rcases h0 with h0 | h0; exact absurd rfl h0; exact h0
      have : (b : Rat) ≠ 0 := fun w => hb0 (Rat.intCast_eq_zero_iff.mp w)
      simp only [co, if_true] at hne
      simp at e1 e2
      have h3 : (b : Rat) * (p.2 - q.2) = 0 := by grind
      rcases Rat.mul_eq_zero.mp h3 with w | w
      · exact this w
      · exact hne (by grind)
    have e3 : (a : Rat) * (sect true (z : Rat) p q).1 = ((c - b * z : Int) : Rat) := by rw [Rat.intCast_sub, Rat.intCast_mul]; grind
    exact ⟨⟨Dv.quot ha0 (ha ha0) e3, Ab.quot ha0 (natAbs_line sb sc hz) e3⟩, ⟨by rw [hx]; exact Dv.int D z, by rw [hx]; exact Ab.int hz50⟩⟩
theorem on_line {D : Nat} {v : Bool} {z : Int} {p q : Pt} (hz : z.natAbs ≤ 2 ^ 20) (h1 : co v p = (z : Rat)) (h2 : co v q = (z : Rat)) : Ln D p q := by
  have hz40 : z.natAbs ≤ 2 ^ 40 := Nat.le_trans hz (by decide)
  cases v
  · simp only [co, Bool.false_eq_true, if_false] at h1 h2
    exact ⟨1, 0, z, .inl (by decide), fun _ => ⟨D, by simp⟩, fun w => absurd rfl w, by decide, by decide, hz40, by rw [h1]; simp; grind, by rw [h2]; simp; grind⟩
  · simp only [co, if_true] at h1 h2
    exact ⟨0, 1, z, .inr (by decide), fun w => absurd rfl w, fun _ => ⟨D, by simp⟩, by decide, by decide, hz40, by rw [h1]; simp; grind, by rw [h2]; simp; grind⟩
/-- a polygon whose places and edges are of base D -/
structure Pg (D : Nat) (l : List Pt) : Prop where
  v : ∀ p ∈ l, Vx D p
  e : cycE (Ln D) l
theorem kept_ne {v s : Bool} {L : Rat} {p q : Pt} (h : kept v s L p ≠ kept v s L q) : co v p ≠ co v q := fun z => h (by unfold kept; rw [z])
theorem outs_ln {D : Nat} {v s : Bool} {z : Int} (hz : z.natAbs ≤ 2 ^ 20) : ∀ {l : List Pt} {p P : Pt}, At v s (z : Rat) p P → Eall (Ln D) P l → Eall (Ln D) p (outs v s (z : Rat) P l)
  | [], p, P, _, _ => trivial
  | Q :: r, p, P, hi, he => by
    obtain ⟨h1, h2⟩ := he
    have hst : At v s (z : Rat) (lastD p (out v s (z : Rat) P Q)) Q := (out_step (h := fun _ _ => 0) (fun _ _ _ _ _ _ => by grind) hi).1
    have ih := outs_ln hz hst h2
    simp only [outs, eall_app]
    refine ⟨?_, ih⟩
    unfold At at hi
    unfold out
    cases kP : kept v s (z : Rat) P <;> cases kQ : kept v s (z : Rat) Q <;> simp [kP, kQ, Eall] at hi ⊢
    · obtain ⟨m1, m2, m3⟩ := meet hz h1 (kept_ne (s := s) (L := (z : Rat)) (by rw [kP, kQ]; decide))
      exact ⟨on_line hz hi co_sect, m3⟩
    · obtain ⟨m1, m2, m3⟩ := meet hz h1 (kept_ne (s := s) (L := (z : Rat)) (by rw [kP, kQ]; decide))
      rw [hi]; exact m2
    · rw [hi]; exact h1
theorem outs_vx {D : Nat} {v s : Bool} {z : Int} (hz : z.natAbs ≤ 2 ^ 20) : ∀ {l : List Pt} {P : Pt}, (∀ q ∈ l, Vx D q) → Eall (Ln D) P l → ∀ m ∈ outs v s (z : Rat) P l, Vx D m
  | [], P, _, _, m, hm => by simp [outs] at hm
  | Q :: r, P, hv, he, m, hm => by
    obtain ⟨h1, h2⟩ := he
    simp only [outs, List.mem_append] at hm
    rcases hm with hm | hm
    · unfold out at hm
      cases kP : kept v s (z : Rat) P <;> cases kQ : kept v s (z : Rat) Q <;> simp [kP, kQ] at hm
      · rcases hm with rfl | rfl
        · exact (meet hz h1 (kept_ne (s := s) (L := (z : Rat)) (by rw [kP, kQ]; decide))).1
        · exact hv _ (by simp)
      · rw [hm]; exact (meet hz h1 (kept_ne (s := s) (L := (z : Rat)) (by rw [kP, kQ]; decide))).1
      · rw [hm]; exact hv Q (by simp)
    · exact outs_vx hz (fun q hq => hv q (by simp [hq])) h2 m hm
theorem Pg.cut {D : Nat} {v s : Bool} {z : Int} {l : List Pt} (hz : z.natAbs ≤ 2 ^ 20) (h : Pg D l) : Pg D (cut v s (z : Rat) l) where
  v := outs_vx hz h.v h.e
  e := by
    unfold cycE G84.cut
    by_cases hn : l = []
    · subst hn; trivial
    · by_cases e : outs v s (z : Rat) (lastP l) l = []
      · rw [e]; trivial
      · refine outs_ln hz ?_ h.e
        have := outs_last e (0, 0)
        rwa [← lastP_lastD e, ← lastP_lastD hn] at this
/-! ### what polygons are given -/
/-- a place in sixths, not far -/
structure Og (p : Pt) : Prop where
  x : Dv 6 p.1 ∧ Ab 1000 p.1
  y : Dv 6 p.2 ∧ Ab 1000 p.2
def sx (p : Pt) : Int := (p.1 * 6).num
def sy (p : Pt) : Int := (p.2 * 6).num
theorem six {q : Rat} (h : Dv 6 q) (a : Ab 1000 q) : q * 6 = (((q * 6).num : Int) : Rat) ∧ (q * 6).num.natAbs ≤ 6000 := by
  obtain ⟨z, hz⟩ := h
  have hz : q * 6 = (z : Rat) := hz
  rw [hz, Rat.num_intCast]
  refine ⟨rfl, ?_⟩
  unfold Ab at a
  have h1 : ((-6000 : Int) : Rat) ≤ (z : Rat) := by rw [← hz]; have : ((-6000 : Int) : Rat) = -6000 := rfl; have e : ((1000 : Nat) : Rat) = 1000 := rfl; rw [e] at a; grind
  have h2 : (z : Rat) ≤ ((6000 : Int) : Rat) := by rw [← hz]; have : ((6000 : Int) : Rat) = 6000 := rfl; have e : ((1000 : Nat) : Rat) = 1000 := rfl; rw [e] at a; grind
  have h3 := Rat.intCast_le_intCast.mp h1
  have h4 := Rat.intCast_le_intCast.mp h2
  omega
def nz (a : Int) : Nat := if a = 0 then 1 else a.natAbs
def ea (p q : Pt) : Int := 6 * (sy q - sy p)
def eb (p q : Pt) : Int := -6 * (sx q - sx p)
def ec (p q : Pt) : Int := (sy q - sy p) * sx p - (sx q - sx p) * sy p
def ef (p q : Pt) : Nat := nz (ea p q) * nz (eb p q)
def dpr : Pt → List Pt → Nat
  | _, [] => 6
  | p, q :: r => ef p q * dpr q r
def Dl (l : List Pt) : Nat := dpr (lastP l) l
theorem nz_ne {a : Int} : nz a ≠ 0 := by unfold nz; split <;> omega
theorem nz_le {a : Int} {n : Nat} (h : a.natAbs ≤ n) (h1 : 1 ≤ n) : nz a ≤ n := by unfold nz; split <;> omega
theorem dpr_ne : ∀ {l : List Pt} {p : Pt}, dpr p l ≠ 0
  | [], _ => show 6 ≠ 0 by decide
  | q :: r, p => Nat.mul_ne_zero (Nat.mul_ne_zero nz_ne nz_ne) dpr_ne
theorem six_dvd : ∀ {l : List Pt} {p : Pt}, 6 ∣ dpr p l
  | [], _ => ⟨1, rfl⟩
  | q :: r, p => Nat.dvd_trans six_dvd ⟨ef p q, by simp only [dpr]; rw [Nat.mul_comm]⟩
theorem Og.s {p : Pt} (h : Og p) : p.1 * 6 = ((sx p : Int) : Rat) ∧ (sx p).natAbs ≤ 6000 ∧ p.2 * 6 = ((sy p : Int) : Rat) ∧ (sy p).natAbs ≤ 6000 := ⟨(six h.x.1 h.x.2).1, (six h.x.1 h.x.2).2, (six h.y.1 h.y.2).1, (six h.y.1 h.y.2).2⟩
theorem ef_le {p q : Pt} (hp : Og p) (hq : Og q) : ef p q ≤ 2 ^ 34 := by
  obtain ⟨_, h1, _, h2⟩ := hp.s
  obtain ⟨_, h3, _, h4⟩ := hq.s
  have e1 : nz (ea p q) ≤ 72000 := nz_le (by unfold ea; omega) (by decide)
  have e2 : nz (eb p q) ≤ 72000 := nz_le (by unfold eb; omega) (by decide)
  exact Nat.le_trans (Nat.mul_le_mul e1 e2) (by decide)
theorem dpr_le : ∀ {l : List Pt} {p : Pt}, Og p → (∀ q ∈ l, Og q) → dpr p l ≤ 6 * 2 ^ (34 * l.length)
  | [], _, _, _ => by simp [dpr]
  | q :: r, p, hp, hl => by
    simp only [dpr, List.length_cons]
    have h1 := ef_le hp (hl q (by simp))
    have h2 := dpr_le (l := r) (hl q (by simp)) fun x hx => hl x (by simp [hx])
    refine Nat.le_trans (Nat.mul_le_mul h1 h2) ?_
    rw [Nat.mul_left_comm, ← Nat.pow_add, show 34 + 34 * r.length = 34 * (r.length + 1) by omega]
    exact Nat.le_refl _
theorem og_ln {D : Nat} {p q : Pt} (hp : Og p) (hq : Og q) (h6 : 6 ∣ D) (hd : ef p q ∣ D) : Ln D p q := by
  obtain ⟨p1, p2, p3, p4⟩ := hp.s
  obtain ⟨q1, q2, q3, q4⟩ := hq.s
  by_cases h0 : ea p q = 0 ∧ eb p q = 0
  · have e1 : sx q = sx p := by unfold eb at h0; omega
    refine ⟨6, 0, sx p, .inl (by decide), fun _ => h6, fun w => absurd rfl w, by decide, by decide, Nat.le_trans p2 (by decide), ?_, ?_⟩
    · rw [← p1]; simp; grind
    · rw [← e1, ← q1]; simp; grind
  · refine ⟨ea p q, eb p q, ec p q, by omega, fun h => ?_, fun h => ?_, ?_, ?_, ?_, ?_, ?_⟩
    · refine Nat.dvd_trans ⟨nz (eb p q), ?_⟩ hd
      unfold ef; rw [show nz (ea p q) = (ea p q).natAbs by unfold nz; rw [if_neg h]]
    · refine Nat.dvd_trans ⟨nz (ea p q), ?_⟩ hd
      unfold ef; rw [show nz (eb p q) = (eb p q).natAbs by unfold nz; rw [if_neg h], Nat.mul_comm]
    · unfold ea; have : (2 : Nat) ^ 20 = 1048576 := by decide
      omega
    · unfold eb; have : (2 : Nat) ^ 20 = 1048576 := by decide
      omega
    · have h1 : ((sy q - sy p) * sx p).natAbs ≤ 12000 * 6000 := by rw [Int.natAbs_mul]; exact Nat.mul_le_mul (by omega) p2
      have h2 : ((sx q - sx p) * sy p).natAbs ≤ 12000 * 6000 := by rw [Int.natAbs_mul]; exact Nat.mul_le_mul (by omega) p4
      have : (2 : Nat) ^ 40 = 1099511627776 := by decide
      unfold ec; omega
    · unfold ea eb ec
      simp only [Rat.intCast_mul, Rat.intCast_sub, ← p1, ← p3, ← q1, ← q3]
      have : ((6 : Int) : Rat) = 6 := rfl
      have : ((-6 : Int) : Rat) = -6 := rfl
      grind
    · unfold ea eb ec
      simp only [Rat.intCast_mul, Rat.intCast_sub, ← p1, ← p3, ← q1, ← q3]
      have : ((6 : Int) : Rat) = 6 := rfl
      have : ((-6 : Int) : Rat) = -6 := rfl
      grind
theorem og_eall {D : Nat} : ∀ {l : List Pt} {p : Pt}, Og p → (∀ q ∈ l, Og q) → dpr p l ∣ D → Eall (Ln D) p l
  | [], _, _, _, _ => trivial
  | q :: r, p, hp, hl, hd => ⟨og_ln hp (hl q (by simp)) (Nat.dvd_trans six_dvd hd) (Nat.dvd_trans ⟨dpr q r, rfl⟩ hd), og_eall (hl q (by simp)) (fun x hx => hl x (by simp [hx])) (Nat.dvd_trans ⟨ef p q, by simp only [dpr]; rw [Nat.mul_comm]⟩ hd)⟩
theorem og_pg {l : List Pt} (h : ∀ q ∈ l, Og q) : Pg (Dl l) l := by
  have h6 : 6 ∣ Dl l := six_dvd
  refine ⟨fun p hp => ⟨⟨(h p hp).x.1.mono h6, (h p hp).x.2.mono (by decide)⟩, ⟨(h p hp).y.1.mono h6, (h p hp).y.2.mono (by decide)⟩⟩, ?_⟩
  cases l with
  | nil => trivial
  | cons a t => exact og_eall (by rw [lastP_cons]; exact h _ lastD_mem) h (Nat.dvd_refl _)
theorem Dl_ne {l : List Pt} : Dl l ≠ 0 := dpr_ne
theorem Dl_le {l : List Pt} (h : ∀ q ∈ l, Og q) (hn : l.length ≤ 12) : Dl l ≤ 2 ^ 411 := by
  cases l with
  | nil => decide
  | cons a t =>
    have hl : Og (lastP (a :: t)) := by rw [lastP_cons]; exact h _ lastD_mem
    refine Nat.le_trans (dpr_le hl h) ?_
    have := Nat.pow_le_pow_right (n := 2) (by decide) (show 34 * (a :: t).length ≤ 408 by omega)
    refine Nat.le_trans (Nat.mul_le_mul (show 6 ≤ 2 ^ 3 by decide) this) ?_
    rw [← Nat.pow_add]
    exact Nat.le_refl _
end K84

set_option Elab.async false
set_option linter.all false
set_option maxRecDepth 100000
/-! K84U: the law's sums over edges have one base. -/
namespace K84
open PySem
open G84
theorem onE_sect {p q : Pt} {z : Rat} (h : p.2 ≠ q.2) : onE p q z = sect true z p q := by
  unfold sect onE setc co
  ext <;> simp <;> grind
theorem onE_line {D : Nat} {p q : Pt} (hp : Vx D p) (hq : Vx D q) (h : Ln D p q) (hy : p.2 ≠ q.2) {y1 y2 : Rat}
    (h1 : (∃ z : Int, z.natAbs ≤ 2 ^ 20 ∧ y1 = (z : Rat)) ∨ y1 = p.2 ∨ y1 = q.2) (h2 : (∃ z : Int, z.natAbs ≤ 2 ^ 20 ∧ y2 = (z : Rat)) ∨ y2 = p.2 ∨ y2 = q.2) :
    Vx D (onE p q y1) ∧ Vx D (onE p q y2) ∧ Ln D (onE p q y1) (onE p q y2) := by
  have v : ∀ y, ((∃ z : Int, z.natAbs ≤ 2 ^ 20 ∧ y = (z : Rat)) ∨ y = p.2 ∨ y = q.2) → Vx D (onE p q y) := fun y hh => by
    rcases hh with ⟨z, hz, rfl⟩ | rfl | rfl
    · rw [onE_sect hy]; exact (meet hz h (show co true p ≠ co true q from hy)).1
    · rw [onE_P]; exact hp
    · rw [onE_Q _ _ hy]; exact hq
  obtain ⟨a, b, c, g0, g1, g2, g3, g4, g5, e1, e2⟩ := h
  have key : ∀ y, (a : Rat) * (onE p q y).1 + (b : Rat) * (onE p q y).2 = (c : Rat) := fun y => by
    unfold onE
    simp only
    have hd : q.2 - p.2 ≠ 0 := by grind
    generalize hk : (q.1 - p.1) / (q.2 - p.2) = k
    have hk2 : q.1 - p.1 = k * (q.2 - p.2) := by rw [← hk]; exact (Rat.div_mul_cancel hd).symm
    have h3 : (a : Rat) * (q.1 - p.1) + (b : Rat) * (q.2 - p.2) = 0 := by grind
    rw [hk2] at h3
    have h4 : ((a : Rat) * k + (b : Rat)) * (q.2 - p.2) = 0 := by grind
    have h5 : (a : Rat) * k + (b : Rat) = 0 := by
      rcases Rat.mul_eq_zero.mp h4 with w | w
      · exact w
      · exact absurd w hd
    grind
  exact ⟨v y1 h1, v y2 h2, a, b, c, g0, g1, g2, g3, g4, g5, key y1, key y2⟩
theorem clamp_int {lo hi y : Rat} {zl zh : Int} {p q : Pt} (hl : zl.natAbs ≤ 2 ^ 20) (hh : zh.natAbs ≤ 2 ^ 20) (el : lo = (zl : Rat)) (eh : hi = (zh : Rat)) (hy : y = p.2 ∨ y = q.2) :
    (∃ z : Int, z.natAbs ≤ 2 ^ 20 ∧ clampR lo hi y = (z : Rat)) ∨ clampR lo hi y = p.2 ∨ clampR lo hi y = q.2 := by
  unfold clampR
  split
  · exact .inl ⟨zl, hl, el⟩
  · split
    · exact .inl ⟨zh, hh, eh⟩
    · exact .inr hy
theorem row_ln {D : Nat} {p q : Pt} {r : Int} {A B : Pt} (hr : r.natAbs ≤ 4000) (hp : Vx D p) (hq : Vx D q) (h : Ln D p q) (e : rowPart ((64 * r : Int) : Rat) ((64 * (r + 1) : Int) : Rat) p q = some (A, B)) : Vx D A ∧ Vx D B ∧ Ln D A B := by
  have e20 : (2 : Nat) ^ 20 = 1048576 := by decide
  unfold rowPart at e
  by_cases h1 : p.2 = q.2
  · rw [if_pos h1] at e; cases e
  · rw [if_neg h1] at e
    split at e
    · cases e
    · cases e
      exact onE_line hp hq h h1 (clamp_int (zl := 64 * r) (zh := 64 * (r + 1)) (by omega) (by omega) rfl rfl (.inl rfl)) (clamp_int (zl := 64 * r) (zh := 64 * (r + 1)) (by omega) (by omega) rfl rfl (.inr rfl))
theorem half_dv {D : Nat} {q : Rat} (h : Dv D q) : Dv (2 * D) (q / 2) := by
  obtain ⟨z, hz⟩ := h
  exact ⟨z, by rw [Rat.natCast_mul, ← hz]; have : ((2 : Nat) : Rat) = 2 := rfl; rw [this]; grind⟩
theorem under_dv {D : Nat} {A B : Pt} {z : Int} (hz : z.natAbs ≤ 2 ^ 20) (ha : Vx D A) (hb : Vx D B) (h : Ln D A B) : Dv (D * (2 * D)) (under (z : Rat) A B) := by
  have m2 : D ∣ 2 * D := ⟨2, Nat.mul_comm _ _⟩
  have dz := Dv.int D z
  have dy := hb.y.1.sub ha.y.1
  unfold under
  split
  · exact dy.mul (half_dv (ha.x.1.add hb.x.1))
  · rename_i n1
    split
    · exact dy.mul (dz.mono m2)
    · rename_i n2
      have hne : A.1 ≠ B.1 := fun w => by
        rw [w] at n1 n2; grind
      obtain ⟨mv, _, _⟩ := meet (v := false) hz h hne
      have my : (sect false (z : Rat) A B).2 = A.2 + ((z : Rat) - A.1) / (B.1 - A.1) * (B.2 - A.2) := rfl
      have dm := mv.y.1
      rw [my] at dm
      have hd : B.1 - A.1 ≠ 0 := by grind
      generalize ht : ((z : Rat) - A.1) / (B.1 - A.1) = t at *
      split
      · have e : (B.2 - A.2) * (t * ((A.1 + (z : Rat)) / 2) + (1 - t) * (z : Rat)) = ((A.2 + t * (B.2 - A.2)) - A.2) * ((A.1 + (z : Rat)) / 2) + (B.2 - (A.2 + t * (B.2 - A.2))) * (z : Rat) := by grind
        rw [e]
        exact ((dm.sub ha.y.1).mul (half_dv (ha.x.1.add dz))).add ((hb.y.1.sub dm).mul (dz.mono m2))
      · have e : (B.2 - A.2) * (t * (z : Rat) + (1 - t) * (((z : Rat) + B.1) / 2)) = ((A.2 + t * (B.2 - A.2)) - A.2) * (z : Rat) + (B.2 - (A.2 + t * (B.2 - A.2))) * (((z : Rat) + B.1) / 2) := by grind
        rw [e]
        exact ((dm.sub ha.y.1).mul (dz.mono m2)).add ((hb.y.1.sub dm).mul (half_dv (dz.add hb.x.1)))
theorem vx_fq {D : Nat} (h0 : D ≠ 0) (h1 : D ≤ 2 ^ 411) {p : Pt} (h : Vx D p) : Fq 411 50 p.1 ∧ Fq 411 50 p.2 := ⟨Fq.of h0 h1 h.x.1 h.x.2, Fq.of h0 h1 h.y.1 h.y.2⟩
theorem under_ab {A B : Pt} {L : Rat} (a1 : Fq 411 50 A.1) (a2 : Fq 411 50 A.2) (b1 : Fq 411 50 B.1) (b2 : Fq 411 50 B.2) (hL : Fq 0 20 L) : Ab (2 ^ 3000) (under L A B) := by
  have two : Fq 0 20 ((2 : Int) : Rat) := Fq.int (by decide)
  have one : Fq 0 20 ((1 : Int) : Rat) := Fq.int (by decide)
  have fh := b2.sub a2
  unfold under
  split
  · exact ((fh.mul ((a1.add b1).div two (by decide))).ab).mono (pow_le (by decide))
  · rename_i n1
    split
    · exact (fh.mul hL).ab.mono (pow_le (by decide))
    · rename_i n2
      have hne : B.1 - A.1 ≠ 0 := fun w => by
        have e : B.1 = A.1 := by grind
        rw [e] at n1 n2; grind
      have fs := (hL.sub a1).div (b1.sub a1) hne
      have fr := one.sub fs
      split
      · exact (fh.mul ((fs.mul ((a1.add hL).div two (by decide))).add (fr.mul hL))).ab.mono (pow_le (by decide))
      · exact (fh.mul ((fs.mul hL).add (fr.mul ((hL.add b1).div two (by decide))))).ab.mono (pow_le (by decide))
/-- one edge's part -/
def eu (r c : Int) (p q : Pt) : Rat := edge (under ((64 * c : Int) : Rat)) ((64 * r : Int) : Rat) ((64 * (r + 1) : Int) : Rat) p q
theorem eu_ok {D : Nat} {p q : Pt} {r c : Int} (h0 : D ≠ 0) (h1 : D ≤ 2 ^ 411) (hr : r.natAbs ≤ 4000) (hc : c.natAbs ≤ 4000) (hp : Vx D p) (hq : Vx D q) (h : Ln D p q) : Dv (D * (2 * D)) (eu r c p q) ∧ Ab (2 ^ 3000) (eu r c p q) := by
  have e20 : (2 : Nat) ^ 20 = 1048576 := by decide
  unfold eu edge
  cases e : rowPart ((64 * r : Int) : Rat) ((64 * (r + 1) : Int) : Rat) p q with
  | none => exact ⟨Dv.int _ 0, Ab.int (i := 0) (by simp)⟩
  | some x =>
    obtain ⟨A, B⟩ := x
    obtain ⟨va, vb, hl⟩ := row_ln hr hp hq h e
    obtain ⟨a1, a2⟩ := vx_fq h0 h1 va
    obtain ⟨b1, b2⟩ := vx_fq h0 h1 vb
    exact ⟨under_dv (by omega) va vb hl, under_ab a1 a2 b1 b2 (Fq.int (by omega))⟩
theorem eall_get {E : Pt → Pt → Prop} : ∀ {l : List Pt} {p : Pt} {i : Nat} {q : Pt}, Eall E p l → l[i]? = some q → E (lastD p (l.take i)) q
  | [], _, _, _, _, h => by cases h
  | x :: r, p, 0, q, h, e => by simp at e; subst e; exact h.1
  | x :: r, p, i + 1, q, h, e => by
    rw [List.take_succ_cons, lastD_cons]
    exact eall_get h.2 (by simpa using e)
theorem ps_take' {h : Pt → Pt → Rat} {l : List Pt} {p : Pt} {i : Nat} {q : Pt} (e : l[i]? = some q) : ps h p (l.take (i + 1)) = ps h p (l.take i) + h (lastD p (l.take i)) q := by
  rw [List.take_add_one, e, ps_app]
  simp [ps]
  grind
theorem ahead_in {l : List Pt} {i : Nat} {q : Pt} (h : l[i]? = some q) : lastD (lastP l) (l.take i) ∈ l := by
  cases i with
  | zero =>
    cases l with
    | nil => cases h
    | cons a t => rw [lastP_cons]; exact lastD_mem
  | succ i =>
    have hi : i < l.length := by have := (List.getElem?_eq_some_iff.mp h).1; omega
    rw [List.take_add_one, List.getElem?_eq_getElem hi, lastD_app]
    exact List.getElem_mem hi
/-- the law's sums on the way -/
theorem su_ok {D : Nat} {l : List Pt} {r c : Int} (h : Pg D l) (h0 : D ≠ 0) (h1 : D ≤ 2 ^ 411) (hr : r.natAbs ≤ 4000) (hc : c.natAbs ≤ 4000) : ∀ i, i ≤ l.length → Dv (D * (2 * D)) (ps (eu r c) (lastP l) (l.take i)) ∧ Ab (i * 2 ^ 3000) (ps (eu r c) (lastP l) (l.take i))
  | 0, _ => by
    simp only [List.take_zero, ps]
    exact ⟨Dv.int _ 0, Ab.int (i := 0) (by simp)⟩
  | i + 1, hi => by
    have e : l[i]? = some l[i] := List.getElem?_eq_getElem (by omega)
    obtain ⟨g1, g2⟩ := su_ok h h0 h1 hr hc i (by omega)
    obtain ⟨g3, g4⟩ := eu_ok h0 h1 hr hc (h.v _ (ahead_in e)) (h.v _ (List.mem_of_getElem? e)) (eall_get h.e e)
    rw [ps_take' e]
    exact ⟨g1.add g3, (g2.add g4).mono (by rw [Nat.add_mul]; omega)⟩
theorem su_fq {D : Nat} {l : List Pt} {r c : Int} (h : Pg D l) (h0 : D ≠ 0) (h1 : D ≤ 2 ^ 411) (hn : l.length ≤ 12) (hr : r.natAbs ≤ 4000) (hc : c.natAbs ≤ 4000) (i : Nat) (hi : i ≤ l.length) : Fq 823 3010 (ps (eu r c) (lastP l) (l.take i)) := by
  obtain ⟨g1, g2⟩ := su_ok h h0 h1 hr hc i hi
  refine Fq.of (Nat.mul_ne_zero h0 (Nat.mul_ne_zero (by decide) h0)) ?_ g1 (g2.mono ?_)
  · refine Nat.le_trans (Nat.mul_le_mul h1 (Nat.mul_le_mul (Nat.le_refl 2) h1)) ?_
    rw [show (2 : Nat) * 2 ^ 411 = 2 ^ 412 from (Nat.pow_succ').symm, ← Nat.pow_add]
    exact Nat.le_refl _
  · have hi2 : i ≤ 2 ^ 10 := Nat.le_trans (show i ≤ 1024 by omega) (by decide)
    refine Nat.le_trans (Nat.mul_le_mul hi2 (Nat.le_refl (2 ^ 3000))) ?_
    rw [← Nat.pow_add]
    exact pow_le (by decide)
def su (l : List Pt) (r c : Int) : Rat := cyc (eu r c) l
/-- the law's grey is the difference of two sums -/
theorem su_G {l : List Pt} {r c : Int} : (su l r (c + 1) - su l r c) / 4096 = G l r c := by
  unfold G su
  have e : cyc (cellE r c) l = cyc (fun P Q => eu r (c + 1) P Q + (-1) * eu r c P Q) l := cyc_congr fun P Q _ _ => by
    unfold cellE eu edge
    cases rowPart ((64 * r : Int) : Rat) ((64 * (r + 1) : Int) : Rat) P Q with
    | none => grind
    | some x => unfold col; grind
  rw [e, cyc_lin]
  grind
end K84

set_option Elab.async false
set_option linter.all false
set_option maxRecDepth 100000
set_option pp.deepTerms false
set_option pp.deepTerms.threshold 6
set_option maxHeartbeats 4000000
namespace K84
open PySem PySem.Spec PyProof.Rows L2 DS
-- the steps that need no thought: one, as many as there are
local macro_rules | `(tactic| walk_at "d1") => `(tactic| with_reducible first
  | refine ws_seq ?_ | refine ws_next ?_ | refine ws_retN ?_ | refine ws_ret ?_ | refine ws_if ?_ | refine ws_par ?_ | refine ws_setK ?_ | refine ws_newD ?_ | refine wp_cons ?_ | refine wp_nil ?_ | refine ws_set ?_ | refine ws_star ?_ | refine ws_setO rfl ?_ | apply ws_asg
  | refine we_var rfl ?_ | refine we_int ?_ | refine we_bl ?_ | refine we_str ?_ | refine we_non ?_ | refine we_kd ?_ | refine we_ixO rfl ?_
  | refine we_isi isg_int ?_ | refine we_isi isg_bool ?_ | refine we_isi isg_str ?_ | refine we_isi isg_list ?_ | refine we_isi isg_tuple ?_ | refine we_isi2 isg_list isg_tuple ?_ | refine we_isi2 isg_int isg_tuple ?_
  | refine we_inK ?_ | refine we_ixK ?_ | refine we_op ?_ | refine we_un ?_ | refine we_cb ?_ | refine we_tup ?_ | refine we_lst ?_ | refine we_andV ?_ | refine we_orV ?_ | refine we_notV ?_ | refine we_if ?_ | refine we_chain ?_ | refine we_sl ?_ | refine we_call ?_
  | refine wa_nil ?_ | refine wa_cons ?_ | refine wo_none ?_ | refine wo_some ?_ | refine wt_test ?_ | refine wt_B ?_ | refine wt_and ?_ | refine wt_or ?_ | refine wt_not ?_
  | refine wg_tup rfl ?_ | refine wgs_cons ?_ | refine wgs_nil ?_ | refine wg_name ?_
  | refine ⟨_, r2_int, ?_⟩ | refine ⟨_, r2_bl, ?_⟩ | refine ⟨_, r2_addI, ?_⟩ | refine ⟨_, r2_eqI, ?_⟩ | refine ⟨_, r2_neI, ?_⟩ | refine ⟨_, r2_eqS, ?_⟩ | refine ⟨_, r2_neS, ?_⟩ | refine ⟨_, r2_isN, ?_⟩ | refine ⟨_, r1_neg, ?_⟩
  | refine ⟨_, rc_absI, ?_⟩ | refine ⟨_, rc_intI, ?_⟩ | refine ⟨_, rc_intB, ?_⟩ | refine ⟨_, rc_max, ?_⟩ | refine ⟨_, rc_min, ?_⟩ | refine ⟨_, rc_lenL, ?_⟩ | refine ⟨_, rc_lenT, ?_⟩ | refine ⟨_, rc_listL, ?_⟩ | refine ⟨_, rc_listT, ?_⟩ | refine ⟨_, rc_tupL, ?_⟩ | refine ⟨_, rc_tupT, ?_⟩
  | refine ⟨_, rfl, ?_⟩ | refine ⟨_, _, rfl, ?_⟩ | refine ⟨_, ⟨_, rfl, rfl⟩, ?_⟩ | refine ⟨_, ⟨_, _, rfl, rfl⟩, ?_⟩)
local macro_rules | `(tactic| walk_at "d") => `(tactic| repeat (first | walk_at "d1" | refine ⟨lenOk rfl, ?_⟩ | refine ⟨0, _, _, _, rfl, rfl, rfl, ?_⟩ | refine ⟨_, r2_ixXL rfl, ?_⟩ | refine ⟨_, r2_ixXT rfl, ?_⟩ | refine ⟨_, r2_ixXT at0, ?_⟩ | refine ⟨_, r2_ixXT at1, ?_⟩ | refine ⟨_, r2_ixXL at0, ?_⟩ | refine ⟨_, r2_ixXL at1, ?_⟩))
-- a condition whose truth comes out by computation
local macro_rules | `(tactic| walk_at "b1") => `(tactic| first
  | refine ⟨fun _ => ?_, fun h => Bool.noConfusion (show true = false from h)⟩
  | refine ⟨fun h => Bool.noConfusion (show false = true from h), fun _ => ?_⟩)
local macro_rules | `(tactic| walk_at "db") => `(tactic| repeat (first | walk_at "d1" | refine ⟨lenOk rfl, ?_⟩ | refine ⟨0, _, _, _, rfl, rfl, rfl, ?_⟩ | refine ⟨_, r2_ixXL rfl, ?_⟩ | refine ⟨_, r2_ixXT rfl, ?_⟩ | refine ⟨_, r2_ixXT at0, ?_⟩ | refine ⟨_, r2_ixXT at1, ?_⟩ | refine ⟨_, r2_ixXL at0, ?_⟩ | refine ⟨_, r2_ixXL at1, ?_⟩ | walk_at "b1"))
-- how many arguments there are
local macro_rules | `(tactic| walk_at "len") => `(tactic| (intro _ _ h; first
  | (obtain ⟨_, e, _⟩ := h; subst e; rfl) | (obtain ⟨_, _, e, _⟩ := h; subst e; rfl) | (obtain ⟨_, _, _, e, _⟩ := h; subst e; rfl) | (obtain ⟨_, _, _, _, e, _⟩ := h; subst e; rfl) | (obtain ⟨_, _, _, _, _, e, _⟩ := h; subst e; rfl)))
local macro_rules | `(tactic| walk_at "leno") => `(tactic| (intro _ _ h; first
  | (obtain ⟨⟨_, e, _⟩, _⟩ := h; subst e; rfl) | (obtain ⟨⟨_, _, e, _⟩, _⟩ := h; subst e; rfl) | (obtain ⟨e, _⟩ := h; subst e; rfl) | (obtain ⟨_, e, _⟩ := h; subst e; rfl) | (obtain ⟨_, _, e, _⟩ := h; subst e; rfl) | (obtain ⟨_, _, _, e, _⟩ := h; subst e; rfl) | (obtain ⟨_, _, _, _, e, _⟩ := h; subst e; rfl)))

variable {P : Program} {w : World} {K : PySem.W.Frag} {mg : Str → Option Value} {base : Heap}
def isPl : PyData → Bool
  | .int _ => true
  | _ => false
abbrev R_is_plain (ds : List PyData) (d : PyData) : Prop := ∃ x, ds = [x] ∧ d = .bool (isPl x)
theorem c_is_plain (T : Top K w mg) : Cal P w K mg base "is_plain" 1 p_is_plain (spP K R_is_plain) :=
  T.h_is_plain.call (fun _ _ _ _ _ _ us hl => match us, hl with | [_], _ => rfl) fun f fd F m => fn_pure F sc_is_plain (by walk_at "len") fun cdv A outer s H E hr => ⟨_, (pss_one (ps_ret (pe_and (pe_callB (call_isiXK (K := K) rfl) (by rfl) T.m_isinstance (by decide +kernel) (pa_cons (pv 0) (pa_cons (pe_ty "int" (by rfl) T.m_int (by decide +kernel)) pa_nil))) (pe_one (pe_not (pe_callB (call_isiXK (K := K) rfl) (by rfl) T.m_isinstance (by decide +kernel) (pa_cons (pv 0) (pa_cons (pe_ty "bool" (by rfl) T.m_bool (by decide +kernel)) pa_nil)))))))), fun ds d hR => by
    obtain ⟨x, rfl, rfl⟩ := hR
    cases x <;> walk_at "db" <;> rfl⟩
/-! ### common_part -/
abbrev R_common_part (ds : List PyData) (d : PyData) : Prop := ∃ x y : Int, ds = [.int x, .int y] ∧ d = .int (Int.gcd x y)
theorem abs_if (x : Int) : (if x < 0 then -x else x) = (x.natAbs : Int) := by split <;> omega
theorem c_common_part (T : Top K w mg) : Cal P w K mg base "common_part" 1 p_common_part (spP K R_common_part) :=
  T.h_common_part.call (fun _ _ _ _ _ _ us hl => match us, hl with | [_, _], _ => rfl) fun f fd F m => fn_pure F sc_common_part (by walk_at "len") fun cdv A outer s H E hr => ⟨_, (pss_cons (ps_par (i := 0) (j := 1) (by rfl) sc_common_part.nd rfl rfl (by decide) rfl rfl (pa_cons (pe_callB call_abs' (by rfl) T.m_abs (by decide +kernel) (pa_cons (pv 0) pa_nil)) (pa_cons (pe_callB call_abs' (by rfl) T.m_abs (by decide +kernel) (pa_cons (pv 1) pa_nil)) pa_nil)) (by rfl))
    (pss_cons (ps_while PassesOwn.never (pt_cmpR (op_neXK (K := K) rfl hr.units) (pv 1) pe_int (nomark _))
    (pss_one (ps_par (i := 0) (j := 1) (by rfl) sc_common_part.nd rfl rfl (by decide) rfl rfl (pa_cons (pv 1) (pa_cons (pe_op op_modA (pv 0) (pv 1)) pa_nil)) (by rfl))))
    (pss_one (ps_ret (pv 0))))), fun ds d hR => by
    obtain ⟨x, y, rfl, rfl⟩ := hR
    walk_at "d"
    rw [abs_if x, abs_if y]
    refine ws_while (fun m ρ β => ∃ a b : Nat, ρ = [.dat (.int a), .dat (.int b)] ∧ m = b ∧ Nat.gcd a b = Int.gcd x y) y.natAbs ⟨x.natAbs, y.natAbs, rfl, rfl, rfl⟩ ?_
    rintro b ρ' β' ⟨a, _, rfl, rfl, hg⟩
    walk_at "d"
    refine ⟨fun h => ?_, fun h => ?_⟩
    · have hb : b ≠ 0 := fun z => by subst z; cases h
      walk_at "d"
      refine ⟨_, r2_intC (by omega), ?_⟩
      walk_at "d"
      refine ⟨a % b, Nat.mod_lt _ (by omega), b, a % b, ?_, rfl, ?_⟩
      · rw [Int.fmod_eq_emod_of_nonneg _ (by omega)]
        rfl
      · rw [Nat.gcd_comm, ← Nat.gcd_rec, Nat.gcd_comm]
        exact hg
    · have hb : b = 0 := by
        simp at h
        omega
      subst hb
      walk_at "d"
      rw [← hg, Nat.gcd_zero_right]⟩
/-! ### is_part, is_number -/
def isPq : PyData → PyData → Bool
  | .int a, .int b => decide (1 < b) && decide ((Int.gcd a b : Int) = 1)
  | _, _ => false
theorem isPq_int {a b : Int} : isPq (.int a) (.int b) = (decide (1 < b) && decide ((Int.gcd a b : Int) = 1)) := rfl
def isPts : List PyData → Bool
  | [a, b] => isPq a b
  | _ => false
def isPt : PyData → Bool
  | .tuple xs => isPts xs
  | _ => false
abbrev R_is_part (ds : List PyData) (d : PyData) : Prop := ∃ x, ds = [x] ∧ d = .bool (isPt x)
theorem len_ne_two {a b c : PyData} {r : List PyData} : (!decide (((a :: b :: c :: r).length : Int) = 2)) = true := by
  rw [decide_eq_false (by simp only [List.length_cons]; omega)]
  rfl
theorem c_is_part (T : Top K w mg) : Cal P w K mg base "is_part" 2 p_is_part (spP K R_is_part) :=
  T.h_is_part.call (fun _ _ _ _ _ _ us hl => match us, hl with | [_], _ => rfl) fun f fd F m => fn_pure F sc_is_part (by walk_at "len") fun cdv A outer s H E hr => ⟨_, (pss_cons (ps_if (PW.pt (pw_or (pt_not (pt_val (pe_callB (call_isiXK (K := K) rfl) (by rfl) T.m_isinstance (by decide +kernel) (pa_cons (pv 0) (pa_cons (pe_ty "tuple" (by rfl) T.m_tuple (by decide +kernel)) pa_nil))))) (pw_or1 (pt_cmpR (op_neXK (K := K) rfl hr.units) (pe_callB (call_lenXK (K := K) rfl) (by rfl) T.m_len (by decide +kernel) (pa_cons (pv 0) pa_nil)) pe_int (nomark _))))) (pss_one (ps_ret pe_bl)) pss_nil)
    (pss_cons (ps_asg (pv 0) (pg_tupK (K := K) (n := 2) rfl (by rfl) (pgs_cons (pg_name (i := 1) sc_is_part.nd rfl (.inl rfl)) (pgs_cons (pg_name (i := 2) sc_is_part.nd rfl (.inl rfl)) pgs_nil))))
    (pss_one (ps_ret (pe_and (pe_cal (c_is_plain (P := P) (w := w) (K := K) (mg := mg) (base := base) T) (hr.mono (by omega)) (by rfl) (pa_cons (pv 1) pa_nil)) (pe_and (pe_cal (c_is_plain (P := P) (w := w) (K := K) (mg := mg) (base := base) T) (hr.mono (by omega)) (by rfl) (pa_cons (pv 2) pa_nil)) (pe_and (pe_cmpR op_gt (pv 2) pe_int (nomark _)) (pe_one (pe_cmpR (op_eqXK (K := K) rfl hr.units) (pe_cal (c_common_part (P := P) (w := w) (K := K) (mg := mg) (base := base) T) (hr.mono (by omega)) (by rfl) (pa_cons (pv 1) (pa_cons (pv 2) pa_nil))) pe_int (nomark _)))))))))), fun ds d hR => by
    obtain ⟨x, rfl, rfl⟩ := hR
    match x with
    | .none | .bool _ | .int _ | .str _ | .list _ | .dict _ => walk_at "db"; rfl
    | .tuple [] => walk_at "db"; rfl
    | .tuple [_] => walk_at "db"; rfl
    | .tuple (a :: b :: c :: r) =>
      walk_at "d"
      refine ⟨fun h => (nomatch h), fun _ => ?_⟩
      walk_at "d"
      rw [len_ne_two]
      walk_at "db"
      rfl
    | .tuple [a, b] =>
      walk_at "db"
      cases a <;> try (walk_at "db"; rfl)
      walk_at "db"
      cases b <;> try (walk_at "db"; rfl)
      walk_at "db"
      refine ⟨fun h => ?_, fun h => ?_⟩
      · walk_at "db"
        show PyData.bool _ = PyData.bool (isPq (.int _) (.int _))
        rw [isPq_int, h]
        rfl
      · show PyData.bool _ = PyData.bool (isPq (.int _) (.int _))
        rw [isPq_int, h]
        rfl⟩
def isNu (x : PyData) : Bool := isPl x || isPt x
abbrev R_is_number (ds : List PyData) (d : PyData) : Prop := ∃ x, ds = [x] ∧ d = .bool (isNu x)
theorem c_is_number (T : Top K w mg) : Cal P w K mg base "is_number" 3 p_is_number (spP K R_is_number) :=
  T.h_is_number.call (fun _ _ _ _ _ _ us hl => match us, hl with | [_], _ => rfl) fun f fd F m => fn_pure F sc_is_number (by walk_at "len") fun cdv A outer s H E hr => ⟨_, (pss_one (ps_ret (pe_or (pe_cal (c_is_plain (P := P) (w := w) (K := K) (mg := mg) (base := base) T) (hr.mono (by omega)) (by rfl) (pa_cons (pv 0) pa_nil)) (pe_one (pe_cal (c_is_part (P := P) (w := w) (K := K) (mg := mg) (base := base) T) (hr.mono (by omega)) (by rfl) (pa_cons (pv 0) pa_nil)))))), fun ds d hR => by
    obtain ⟨x, rfl, rfl⟩ := hR
    walk_at "db"
    refine ⟨fun h => ?_, fun h => ?_⟩
    · show PyData.bool _ = PyData.bool (isPl x || isPt x)
      rw [h]
      rfl
    · walk_at "db"
      show PyData.bool _ = PyData.bool (isPl x || isPt x)
      rw [h]
      rfl⟩
/-! ### what numbers are -/
open K77 (Nm Bd redT redB redD numD prt prt_ne prt_abs gcd_pos)
theorem nu_num {a b : Int} (h : Nm a b) : isNu (numD a b) = true := by
  unfold numD
  split
  · rfl
  · rename_i hb
    have hp := h.pos
    have h1 : (1 : Int) < b := by omega
    show (false || (decide (1 < b) && decide ((Int.gcd a b : Int) = 1))) = true
    rw [decide_eq_true h1, h.cop]
    rfl
theorem nm_one (a : Int) : Nm a 1 := ⟨by decide, Int.gcd_one_right ..⟩
theorem num_one (a : Int) : numD a 1 = .int a := rfl
theorem mulOk {m n : Nat} {i j : Int} (h : Bd (m + 1) i) (k : Bd (n + 1) j) (l : (m + 1) + (n + 1) ≤ 1000000 := by decide) : CMulW i j := wide_mul h k (Nat.succ_pos _) (Nat.succ_pos _) l
theorem divOk {n : Nat} {i j : Int} (h0 : j ≠ 0) (h : Bd (n + 1) j) (l : n + 1 ≤ 9000 := by decide) : CDivA i j := ⟨h0, Nat.lt_of_lt_of_le (PySem.Flt.log2_lt_of (Nat.succ_pos _) h) l⟩
theorem bdPrt {n : Nat} {t b : Int} (hb : b ≠ 0) (h : Bd n b) : Bd n (prt t b) := h.le (by
  rw [prt_abs]
  exact Nat.le_of_dvd (by omega) (Int.gcd_dvd_natAbs_right ..))
theorem num_y {a b : Int} (h : decide (b = 1) = true) : PyData.int a = numD a b := by unfold numD; rw [if_pos (of_decide_eq_true h)]
theorem num_n {a b : Int} (h : decide (b = 1) = false) : PyData.tuple [.int a, .int b] = numD a b := by unfold numD; rw [if_neg (of_decide_eq_false h)]
/-! ### reckoned, pair_of -/
abbrev R_reckoned (ds : List PyData) (d : PyData) : Prop := ∃ (t b : Int) (q : Rat), ds = [.int t, .int b] ∧ b ≠ 0 ∧ Bd 8900 b ∧ q * (b : Rat) = (t : Rat) ∧ d = qd q
theorem c_reckoned (T : Top K w mg) : Cal P w K mg base "reckoned" 2 p_reckoned (spP K R_reckoned) :=
  T.h_reckoned.call (fun _ _ _ _ _ _ us hl => match us, hl with | [_, _], _ => rfl) fun f fd F m => fn_pure F sc_reckoned (by walk_at "len") fun cdv A outer s H E hr => ⟨_, (pss_cons (ps_set (i := 2) sc_reckoned.nd rfl (.inl rfl) (pe_cal (c_common_part (P := P) (w := w) (K := K) (mg := mg) (base := base) T) (hr.mono (by omega)) (by rfl) (pa_cons (pv 0) (pa_cons (pv 1) pa_nil))))
    (pss_cons (ps_if (pt_cmpR op_lt (pv 1) pe_int (nomark _)) (pss_one (ps_set (i := 2) sc_reckoned.nd rfl (.inl rfl) (pe_op op_sub pe_int (pv 2)))) pss_nil)
    (pss_cons (ps_par (i := 0) (j := 1) (by rfl) sc_reckoned.nd rfl rfl (by decide) rfl rfl (pa_cons (pe_op op_fdivA (pv 0) (pv 2)) (pa_cons (pe_op op_fdivA (pv 1) (pv 2)) pa_nil)) (by rfl))
    (pss_one (ps_ret (pe_ifExp (pt_cmpR (op_eqXK (K := K) rfl hr.units) (pv 1) pe_int (nomark _)) (pv 0) (pe_tup (pa_cons (pv 0) (pa_cons (pv 1) pa_nil))))))))), fun ds d hR => by
    obtain ⟨t, b, q, rfl, hb, hB, hq, rfl⟩ := hR
    rw [← redD_rat hb hq]
    walk_at "d"
    have e1 : b < 0 → (0 - (Int.gcd t b : Int)) = prt t b := fun h => by unfold prt; rw [if_pos h]
    have e2 : ¬ b < 0 → (Int.gcd t b : Int) = prt t b := fun h => by unfold prt; rw [if_neg h]
    refine ⟨fun h => ?_, fun h => ?_⟩
    · walk_at "d"
      rw [e1 (of_decide_eq_true h)]
      refine ⟨_, r2_intC (divOk (prt_ne hb) (bdPrt hb hB)), ?_⟩
      walk_at "d"
      refine ⟨_, r2_intC (divOk (prt_ne hb) (bdPrt hb hB)), ?_⟩
      walk_at "d"
      refine ⟨fun q => ?_, fun q => ?_⟩ <;> walk_at "d"
      · exact num_y q
      · exact num_n q
    · walk_at "d"
      rw [e2 (of_decide_eq_false h)]
      refine ⟨_, r2_intC (divOk (prt_ne hb) (bdPrt hb hB)), ?_⟩
      walk_at "d"
      refine ⟨_, r2_intC (divOk (prt_ne hb) (bdPrt hb hB)), ?_⟩
      walk_at "d"
      refine ⟨fun q => ?_, fun q => ?_⟩ <;> walk_at "d"
      · exact num_y q
      · exact num_n q⟩
abbrev R_pair_of (ds : List PyData) (d : PyData) : Prop := ∃ q : Rat, ds = [qd q] ∧ d = qp q
theorem qd_cases (q : Rat) : (qd q = .int q.num ∧ (q.den : Int) = 1) ∨ (qd q = .tuple [.int q.num, .int q.den] ∧ (q.den : Int) ≠ 1) := by
  unfold qd numD
  by_cases h : (q.den : Int) = 1
  · rw [if_pos h]; exact .inl ⟨rfl, h⟩
  · rw [if_neg h]; exact .inr ⟨rfl, h⟩
theorem nu_qd (q : Rat) : isNu (qd q) = true := nu_num (nmQ q)
theorem c_pair_of (T : Top K w mg) : Cal P w K mg base "pair_of" 3 p_pair_of (spP K R_pair_of) :=
  T.h_pair_of.call (fun _ _ _ _ _ _ us hl => match us, hl with | [_], _ => rfl) fun f fd F m => fn_pure F sc_pair_of (by walk_at "len") fun cdv A outer s H E hr => ⟨_, (pss_cons (ps_if (pt_val (pe_cal (c_is_plain (P := P) (w := w) (K := K) (mg := mg) (base := base) T) (hr.mono (by omega)) (by rfl) (pa_cons (pv 0) pa_nil))) (pss_one (ps_ret (pe_tup (pa_cons (pv 0) (pa_cons pe_int pa_nil))))) pss_nil)
    (pss_cons (ps_if (pt_not (pt_val (pe_cal (c_is_part (P := P) (w := w) (K := K) (mg := mg) (base := base) T) (hr.mono (by omega)) (by rfl) (pa_cons (pv 0) pa_nil)))) (pss_one ps_never) pss_nil)
    (pss_one (ps_ret (pv 0))))), fun ds d hR => by
    obtain ⟨q, rfl, rfl⟩ := hR
    have hx := nu_qd q
    unfold qp
    rcases qd_cases q with ⟨e, e1⟩ | ⟨e, e1⟩
    · rw [e, e1]
      walk_at "db"
      rfl
    · rw [e] at hx ⊢
      have hx2 : isPt (.tuple [.int q.num, .int q.den]) = true := by rwa [isNu, show isPl (.tuple [.int q.num, .int q.den]) = false from rfl, Bool.false_or] at hx
      walk_at "db"
      rw [hx2]
      walk_at "db"
      rfl⟩
/-! ### plus, minus, times, over, less -/
abbrev R_two (f : Rat → Rat → Rat) (ds : List PyData) (d : PyData) : Prop := ∃ p q : Rat, ds = [qd p, qd q] ∧ Sq p ∧ Sq q ∧ d = qd (f p q)
abbrev R_over (ds : List PyData) (d : PyData) : Prop := ∃ p q : Rat, ds = [qd p, qd q] ∧ Sq p ∧ Sq q ∧ Bd 4400 q.num ∧ q ≠ 0 ∧ d = qd (p / q)
abbrev R_less (ds : List PyData) (d : PyData) : Prop := ∃ p q : Rat, ds = [qd p, qd q] ∧ Sq p ∧ Sq q ∧ d = .bool (decide (p < q))
theorem denB {p q : Rat} (h1 : Sq p) (h2 : Sq q) : ((p.den : Int) * q.den) ≠ 0 ∧ Bd 8900 ((p.den : Int) * q.den) := ⟨Int.mul_ne_zero (denI p) (denI q), (h1.b.mul h2.b).mono (by decide)⟩
theorem c_plus (T : Top K w mg) : Cal P w K mg base "plus" 4 p_plus (spP K (R_two (fun p q => p + q))) :=
  T.h_plus.call (fun _ _ _ _ _ _ us hl => match us, hl with | [_, _], _ => rfl) fun f fd F m => fn_pure F sc_plus (by walk_at "len") fun cdv A outer s H E hr => ⟨_, (pss_cons (ps_asg (pe_tup (pa_cons (pe_cal (c_pair_of (P := P) (w := w) (K := K) (mg := mg) (base := base) T) (hr.mono (by omega)) (by rfl) (pa_cons (pv 0) pa_nil)) (pa_cons (pe_cal (c_pair_of (P := P) (w := w) (K := K) (mg := mg) (base := base) T) (hr.mono (by omega)) (by rfl) (pa_cons (pv 1) pa_nil)) pa_nil))) (pg_tupK (K := K) (n := 2) rfl (by rfl) (pgs_cons (pg_tupK (K := K) (n := 2) rfl (by rfl) (pgs_cons (pg_name (i := 2) sc_plus.nd rfl (.inl rfl)) (pgs_cons (pg_name (i := 3) sc_plus.nd rfl (.inl rfl)) pgs_nil))) (pgs_cons (pg_tupK (K := K) (n := 2) rfl (by rfl) (pgs_cons (pg_name (i := 4) sc_plus.nd rfl (.inl rfl)) (pgs_cons (pg_name (i := 5) sc_plus.nd rfl (.inl rfl)) pgs_nil))) pgs_nil))))
    (pss_one (ps_ret (pe_cal (c_reckoned (P := P) (w := w) (K := K) (mg := mg) (base := base) T) (hr.mono (by omega)) (by rfl) (pa_cons (pe_op (op_addXK (K := K) rfl) (pe_op op_mulW (pv 2) (pv 5)) (pe_op op_mulW (pv 4) (pv 3))) (pa_cons (pe_op op_mulW (pv 3) (pv 5)) pa_nil)))))), fun ds d hR => by
    obtain ⟨p, q, rfl, h1, h2, rfl⟩ := hR
    walk_at "d"
    unfold qp
    walk_at "d"
    refine ⟨_, r2_intC (mulOk h1.t h2.b), ?_⟩
    walk_at "d"
    refine ⟨_, r2_intC (mulOk h2.t h1.b), ?_⟩
    walk_at "d"
    refine ⟨_, r2_intC (mulOk h1.b h2.b), ?_⟩
    walk_at "d"
    exact ⟨_, ⟨_, _, p + q, rfl, (denB h1 h2).1, (denB h1 h2).2, add_rat p q, rfl⟩, rfl⟩⟩
theorem c_minus (T : Top K w mg) : Cal P w K mg base "minus" 4 p_minus (spP K (R_two (fun p q => p - q))) :=
  T.h_minus.call (fun _ _ _ _ _ _ us hl => match us, hl with | [_, _], _ => rfl) fun f fd F m => fn_pure F sc_minus (by walk_at "len") fun cdv A outer s H E hr => ⟨_, (pss_cons (ps_asg (pe_tup (pa_cons (pe_cal (c_pair_of (P := P) (w := w) (K := K) (mg := mg) (base := base) T) (hr.mono (by omega)) (by rfl) (pa_cons (pv 0) pa_nil)) (pa_cons (pe_cal (c_pair_of (P := P) (w := w) (K := K) (mg := mg) (base := base) T) (hr.mono (by omega)) (by rfl) (pa_cons (pv 1) pa_nil)) pa_nil))) (pg_tupK (K := K) (n := 2) rfl (by rfl) (pgs_cons (pg_tupK (K := K) (n := 2) rfl (by rfl) (pgs_cons (pg_name (i := 2) sc_minus.nd rfl (.inl rfl)) (pgs_cons (pg_name (i := 3) sc_minus.nd rfl (.inl rfl)) pgs_nil))) (pgs_cons (pg_tupK (K := K) (n := 2) rfl (by rfl) (pgs_cons (pg_name (i := 4) sc_minus.nd rfl (.inl rfl)) (pgs_cons (pg_name (i := 5) sc_minus.nd rfl (.inl rfl)) pgs_nil))) pgs_nil))))
    (pss_one (ps_ret (pe_cal (c_reckoned (P := P) (w := w) (K := K) (mg := mg) (base := base) T) (hr.mono (by omega)) (by rfl) (pa_cons (pe_op op_sub (pe_op op_mulW (pv 2) (pv 5)) (pe_op op_mulW (pv 4) (pv 3))) (pa_cons (pe_op op_mulW (pv 3) (pv 5)) pa_nil)))))), fun ds d hR => by
    obtain ⟨p, q, rfl, h1, h2, rfl⟩ := hR
    walk_at "d"
    unfold qp
    walk_at "d"
    refine ⟨_, r2_intC (mulOk h1.t h2.b), ?_⟩
    walk_at "d"
    refine ⟨_, r2_intC (mulOk h2.t h1.b), ?_⟩
    walk_at "d"
    refine ⟨_, r2_intC (mulOk h1.b h2.b), ?_⟩
    walk_at "d"
    exact ⟨_, ⟨_, _, p - q, rfl, (denB h1 h2).1, (denB h1 h2).2, sub_rat p q, rfl⟩, rfl⟩⟩
theorem c_times (T : Top K w mg) : Cal P w K mg base "times" 4 p_times (spP K (R_two (fun p q => p * q))) :=
  T.h_times.call (fun _ _ _ _ _ _ us hl => match us, hl with | [_, _], _ => rfl) fun f fd F m => fn_pure F sc_times (by walk_at "len") fun cdv A outer s H E hr => ⟨_, (pss_cons (ps_asg (pe_tup (pa_cons (pe_cal (c_pair_of (P := P) (w := w) (K := K) (mg := mg) (base := base) T) (hr.mono (by omega)) (by rfl) (pa_cons (pv 0) pa_nil)) (pa_cons (pe_cal (c_pair_of (P := P) (w := w) (K := K) (mg := mg) (base := base) T) (hr.mono (by omega)) (by rfl) (pa_cons (pv 1) pa_nil)) pa_nil))) (pg_tupK (K := K) (n := 2) rfl (by rfl) (pgs_cons (pg_tupK (K := K) (n := 2) rfl (by rfl) (pgs_cons (pg_name (i := 2) sc_times.nd rfl (.inl rfl)) (pgs_cons (pg_name (i := 3) sc_times.nd rfl (.inl rfl)) pgs_nil))) (pgs_cons (pg_tupK (K := K) (n := 2) rfl (by rfl) (pgs_cons (pg_name (i := 4) sc_times.nd rfl (.inl rfl)) (pgs_cons (pg_name (i := 5) sc_times.nd rfl (.inl rfl)) pgs_nil))) pgs_nil))))
    (pss_one (ps_ret (pe_cal (c_reckoned (P := P) (w := w) (K := K) (mg := mg) (base := base) T) (hr.mono (by omega)) (by rfl) (pa_cons (pe_op op_mulW (pv 2) (pv 4)) (pa_cons (pe_op op_mulW (pv 3) (pv 5)) pa_nil)))))), fun ds d hR => by
    obtain ⟨p, q, rfl, h1, h2, rfl⟩ := hR
    walk_at "d"
    unfold qp
    walk_at "d"
    refine ⟨_, r2_intC (mulOk h1.t h2.t), ?_⟩
    walk_at "d"
    refine ⟨_, r2_intC (mulOk h1.b h2.b), ?_⟩
    walk_at "d"
    exact ⟨_, ⟨_, _, p * q, rfl, (denB h1 h2).1, (denB h1 h2).2, mul_rat p q, rfl⟩, rfl⟩⟩
theorem c_over (T : Top K w mg) : Cal P w K mg base "over" 4 p_over (spP K R_over) :=
  T.h_over.call (fun _ _ _ _ _ _ us hl => match us, hl with | [_, _], _ => rfl) fun f fd F m => fn_pure F sc_over (by walk_at "len") fun cdv A outer s H E hr => ⟨_, (pss_cons (ps_asg (pe_tup (pa_cons (pe_cal (c_pair_of (P := P) (w := w) (K := K) (mg := mg) (base := base) T) (hr.mono (by omega)) (by rfl) (pa_cons (pv 0) pa_nil)) (pa_cons (pe_cal (c_pair_of (P := P) (w := w) (K := K) (mg := mg) (base := base) T) (hr.mono (by omega)) (by rfl) (pa_cons (pv 1) pa_nil)) pa_nil))) (pg_tupK (K := K) (n := 2) rfl (by rfl) (pgs_cons (pg_tupK (K := K) (n := 2) rfl (by rfl) (pgs_cons (pg_name (i := 2) sc_over.nd rfl (.inl rfl)) (pgs_cons (pg_name (i := 3) sc_over.nd rfl (.inl rfl)) pgs_nil))) (pgs_cons (pg_tupK (K := K) (n := 2) rfl (by rfl) (pgs_cons (pg_name (i := 4) sc_over.nd rfl (.inl rfl)) (pgs_cons (pg_name (i := 5) sc_over.nd rfl (.inl rfl)) pgs_nil))) pgs_nil))))
    (pss_cons (ps_if (pt_cmpR (op_eqXK (K := K) rfl hr.units) (pv 4) pe_int (nomark _)) (pss_one ps_never) pss_nil)
    (pss_one (ps_ret (pe_cal (c_reckoned (P := P) (w := w) (K := K) (mg := mg) (base := base) T) (hr.mono (by omega)) (by rfl) (pa_cons (pe_op op_mulW (pv 2) (pv 5)) (pa_cons (pe_op op_mulW (pv 3) (pv 4)) pa_nil))))))), fun ds d hR => by
    obtain ⟨p, q, rfl, h1, h2, hv, hc, rfl⟩ := hR
    walk_at "d"
    unfold qp
    walk_at "d"
    refine ⟨fun h => absurd (of_decide_eq_true h) (num_ne hc), fun h => ?_⟩
    walk_at "d"
    refine ⟨_, r2_intC (mulOk h1.t h2.b), ?_⟩
    walk_at "d"
    refine ⟨_, r2_intC (mulOk h1.b h2.t), ?_⟩
    walk_at "d"
    exact ⟨_, ⟨_, _, p / q, rfl, Int.mul_ne_zero (denI p) (num_ne hc), (h1.b.mul hv).mono (by decide), div_rat p q hc, rfl⟩, rfl⟩⟩
theorem c_less (T : Top K w mg) : Cal P w K mg base "less" 4 p_less (spP K R_less) :=
  T.h_less.call (fun _ _ _ _ _ _ us hl => match us, hl with | [_, _], _ => rfl) fun f fd F m => fn_pure F sc_less (by walk_at "len") fun cdv A outer s H E hr => ⟨_, (pss_cons (ps_asg (pe_tup (pa_cons (pe_cal (c_pair_of (P := P) (w := w) (K := K) (mg := mg) (base := base) T) (hr.mono (by omega)) (by rfl) (pa_cons (pv 0) pa_nil)) (pa_cons (pe_cal (c_pair_of (P := P) (w := w) (K := K) (mg := mg) (base := base) T) (hr.mono (by omega)) (by rfl) (pa_cons (pv 1) pa_nil)) pa_nil))) (pg_tupK (K := K) (n := 2) rfl (by rfl) (pgs_cons (pg_tupK (K := K) (n := 2) rfl (by rfl) (pgs_cons (pg_name (i := 2) sc_less.nd rfl (.inl rfl)) (pgs_cons (pg_name (i := 3) sc_less.nd rfl (.inl rfl)) pgs_nil))) (pgs_cons (pg_tupK (K := K) (n := 2) rfl (by rfl) (pgs_cons (pg_name (i := 4) sc_less.nd rfl (.inl rfl)) (pgs_cons (pg_name (i := 5) sc_less.nd rfl (.inl rfl)) pgs_nil))) pgs_nil))))
    (pss_one (ps_ret (pe_cmpR op_lt (pe_op op_mulW (pv 2) (pv 5)) (pe_op op_mulW (pv 4) (pv 3)) (nomark _))))), fun ds d hR => by
    obtain ⟨p, q, rfl, h1, h2, rfl⟩ := hR
    walk_at "d"
    unfold qp
    walk_at "d"
    refine ⟨_, r2_intC (mulOk h1.t h2.b), ?_⟩
    walk_at "d"
    refine ⟨_, r2_intC (mulOk h2.t h1.b), ?_⟩
    walk_at "d"
    rw [lt_rat]⟩
/-! ### floor_of, its step left out -/
theorem bd8 {n : Nat} {i : Int} (h : i.natAbs < 2 ^ 8 := by decide) (l : 8 ≤ n := by decide) : Bd n i := Bd.mono (m := 8) h l
theorem bd1 : Bd 1 1 := by unfold Bd; decide
theorem sq_int {i : Int} (h : Bd 4000 i) : Sq (i : Rat) := ⟨h.mono (by decide), show Bd 4400 1 from bd8⟩
theorem fdiv_le (a : Int) {b : Int} (h : 0 < b) : (a.fdiv b).natAbs ≤ a.natAbs := by
  rw [Int.fdiv_eq_ediv_of_nonneg _ (by omega)]
  exact Int.natAbs_ediv_le_natAbs ..
abbrev R_floor_of (ds : List PyData) (d : PyData) : Prop := ∃ q : Rat, ds = [qd q, .int 1] ∧ Bd 4000 q.num ∧ Bd 4000 q.den ∧ d = .int q.floor
theorem ok_floor_of (T : Top K w mg) : ∀ f fd, FunD K "floor_of" "floor_of" (defArgs s_floor_of) (defBody s_floor_of) (defScope s_floor_of) [] [("step", .int 1)] f fd → mg "floor_of" = some (.ref f) → FnOk P w K mg base CXN 5 f fd p_floor_of (spP K R_floor_of) :=
  fun f fd F m => fn_pure F sc_floor_of (by walk_at "len") fun cdv A outer s H E hr => ⟨_, (pss_cons (ps_asg (pe_tup (pa_cons (pe_cal (c_pair_of (P := P) (w := w) (K := K) (mg := mg) (base := base) T) (hr.mono (by omega)) (by rfl) (pa_cons (pv 0) pa_nil)) (pa_cons (pe_cal (c_pair_of (P := P) (w := w) (K := K) (mg := mg) (base := base) T) (hr.mono (by omega)) (by rfl) (pa_cons (pv 1) pa_nil)) pa_nil))) (pg_tupK (K := K) (n := 2) rfl (by rfl) (pgs_cons (pg_tupK (K := K) (n := 2) rfl (by rfl) (pgs_cons (pg_name (i := 2) sc_floor_of.nd rfl (.inl rfl)) (pgs_cons (pg_name (i := 3) sc_floor_of.nd rfl (.inl rfl)) pgs_nil))) (pgs_cons (pg_tupK (K := K) (n := 2) rfl (by rfl) (pgs_cons (pg_name (i := 4) sc_floor_of.nd rfl (.inl rfl)) (pgs_cons (pg_name (i := 5) sc_floor_of.nd rfl (.inl rfl)) pgs_nil))) pgs_nil))))
    (pss_cons (ps_if (pt_cmpR op_le (pv 4) pe_int (nomark _)) (pss_one ps_never) pss_nil)
    (pss_one (ps_ret (pe_cal (c_times (P := P) (w := w) (K := K) (mg := mg) (base := base) T) (hr.mono (by omega)) (by rfl) (pa_cons (pv 1) (pa_cons (pe_op op_fdivA (pe_op op_mulW (pv 2) (pv 5)) (pe_op op_mulW (pv 3) (pv 4))) pa_nil))))))), fun ds d hR => by
    obtain ⟨q, rfl, ha, hb, rfl⟩ := hR
    have hp := q.den_pos
    walk_at "d"
    refine ⟨_, ⟨((1 : Int) : Rat), rfl, rfl⟩, ?_⟩
    unfold qp
    walk_at "db"
    refine ⟨_, r2_intC (mulOk (m := 3999) (n := 7) ha bd8), ?_⟩
    walk_at "d"
    refine ⟨_, r2_intC (mulOk (m := 3999) (n := 7) hb bd8), ?_⟩
    walk_at "d"
    have hb64 : Bd 4008 ((q.den : Int) * 1) := hb.mul (n := 8) bd8
    have hn0 : ((q.den : Int) * 1) ≠ 0 := by omega
    refine ⟨_, r2_intC (divOk hn0 hb64), ?_⟩
    walk_at "d"
    have e : (q.num * 1).fdiv ((q.den : Int) * 1) = q.floor := by rw [Int.mul_one, Int.mul_one, Rat.floor_def, Int.fdiv_eq_ediv_of_nonneg _ (by omega)]
    have hq : Bd 4000 q.floor := by rw [← e, Int.mul_one, Int.mul_one]; exact ha.le (fdiv_le _ (by omega))
    refine ⟨_, ⟨1, (q.floor : Rat), ?_, sq_int (i := 1) bd8, sq_int hq, rfl⟩, ?_⟩
    · rw [← e]; rfl
    · walk_at "d"
      show qd ((1 : Rat) * (q.floor : Rat)) = PyData.int q.floor
      rw [Rat.one_mul]
      rfl⟩
theorem cd_floor_of (T : Top K w mg) : CalD P w K mg base "floor_of" 5 p_floor_of [.int 1] (spP K R_floor_of) :=
  T.h_floor_of.callD 1 (by decide) rfl (fun _ _ _ _ _ _ us ks h1 h2 => match us, ks, h1, h2 with | [_], [_], _, _ => ⟨_, _, _, _, _, _, rfl, rfl, rfl⟩) (ok_floor_of T)
end K84

set_option Elab.async false
set_option linter.all false
set_option maxRecDepth 100000
set_option pp.deepTerms false
set_option pp.deepTerms.threshold 6
set_option maxHeartbeats 4000000
namespace K84
open PySem PySem.Spec PyProof.Rows L2 DS
open G84 (Pt)
-- the steps that need no thought: one, as many as there are
local macro_rules | `(tactic| walk_at "d1") => `(tactic| with_reducible first
  | refine ws_seq ?_ | refine ws_next ?_ | refine ws_retN ?_ | refine ws_ret ?_ | refine ws_if ?_ | refine ws_par ?_ | refine ws_setK ?_ | refine ws_newD ?_ | refine wp_cons ?_ | refine wp_nil ?_ | refine ws_set ?_ | refine ws_star ?_ | refine ws_setO rfl ?_ | apply ws_asg
  | refine we_var rfl ?_ | refine we_int ?_ | refine we_bl ?_ | refine we_str ?_ | refine we_non ?_ | refine we_kd ?_ | refine we_ixO rfl ?_
  | refine we_isi isg_int ?_ | refine we_isi isg_bool ?_ | refine we_isi isg_str ?_ | refine we_isi isg_list ?_ | refine we_isi isg_tuple ?_ | refine we_isi2 isg_list isg_tuple ?_ | refine we_isi2 isg_int isg_tuple ?_
  | refine we_inK ?_ | refine we_ixK ?_ | refine we_op ?_ | refine we_un ?_ | refine we_cb ?_ | refine we_tup ?_ | refine we_lst ?_ | refine we_andV ?_ | refine we_orV ?_ | refine we_notV ?_ | refine we_if ?_ | refine we_chain ?_ | refine we_sl ?_ | refine we_call ?_
  | refine wa_nil ?_ | refine wa_cons ?_ | refine wo_none ?_ | refine wo_some ?_ | refine wt_test ?_ | refine wt_B ?_ | refine wt_and ?_ | refine wt_or ?_ | refine wt_not ?_
  | refine wg_tup rfl ?_ | refine wgs_cons ?_ | refine wgs_nil ?_ | refine wg_name ?_
  | refine ⟨_, r2_int, ?_⟩ | refine ⟨_, r2_bl, ?_⟩ | refine ⟨_, r2_addI, ?_⟩ | refine ⟨_, r2_eqI, ?_⟩ | refine ⟨_, r2_neI, ?_⟩ | refine ⟨_, r2_eqS, ?_⟩ | refine ⟨_, r2_neS, ?_⟩ | refine ⟨_, r2_isN, ?_⟩ | refine ⟨_, r1_neg, ?_⟩
  | refine ⟨_, rc_absI, ?_⟩ | refine ⟨_, rc_intI, ?_⟩ | refine ⟨_, rc_intB, ?_⟩ | refine ⟨_, rc_max, ?_⟩ | refine ⟨_, rc_min, ?_⟩ | refine ⟨_, rc_lenL, ?_⟩ | refine ⟨_, rc_lenT, ?_⟩ | refine ⟨_, rc_listL, ?_⟩ | refine ⟨_, rc_listT, ?_⟩ | refine ⟨_, rc_tupL, ?_⟩ | refine ⟨_, rc_tupT, ?_⟩
  | refine ⟨_, rfl, ?_⟩ | refine ⟨_, _, rfl, ?_⟩ | refine ⟨_, ⟨_, rfl, rfl⟩, ?_⟩ | refine ⟨_, ⟨_, _, rfl, rfl⟩, ?_⟩)
local macro_rules | `(tactic| walk_at "d") => `(tactic| repeat (first | walk_at "d1" | refine ⟨lenOk rfl, ?_⟩ | refine ⟨0, _, _, _, rfl, rfl, rfl, ?_⟩ | refine ⟨_, r2_ixXL rfl, ?_⟩ | refine ⟨_, r2_ixXT rfl, ?_⟩ | refine ⟨_, r2_ixXT at0, ?_⟩ | refine ⟨_, r2_ixXT at1, ?_⟩ | refine ⟨_, r2_ixXL at0, ?_⟩ | refine ⟨_, r2_ixXL at1, ?_⟩))
-- a condition whose truth comes out by computation
local macro_rules | `(tactic| walk_at "b1") => `(tactic| first
  | refine ⟨fun _ => ?_, fun h => Bool.noConfusion (show true = false from h)⟩
  | refine ⟨fun h => Bool.noConfusion (show false = true from h), fun _ => ?_⟩)
local macro_rules | `(tactic| walk_at "db") => `(tactic| repeat (first | walk_at "d1" | refine ⟨lenOk rfl, ?_⟩ | refine ⟨0, _, _, _, rfl, rfl, rfl, ?_⟩ | refine ⟨_, r2_ixXL rfl, ?_⟩ | refine ⟨_, r2_ixXT rfl, ?_⟩ | refine ⟨_, r2_ixXT at0, ?_⟩ | refine ⟨_, r2_ixXT at1, ?_⟩ | refine ⟨_, r2_ixXL at0, ?_⟩ | refine ⟨_, r2_ixXL at1, ?_⟩ | walk_at "b1"))
-- how many arguments there are
local macro_rules | `(tactic| walk_at "len") => `(tactic| (intro _ _ h; first
  | (obtain ⟨_, e, _⟩ := h; subst e; rfl) | (obtain ⟨_, _, e, _⟩ := h; subst e; rfl) | (obtain ⟨_, _, _, e, _⟩ := h; subst e; rfl) | (obtain ⟨_, _, _, _, e, _⟩ := h; subst e; rfl) | (obtain ⟨_, _, _, _, _, e, _⟩ := h; subst e; rfl)))
local macro_rules | `(tactic| walk_at "leno") => `(tactic| (intro _ _ h; first
  | (obtain ⟨⟨_, e, _⟩, _⟩ := h; subst e; rfl) | (obtain ⟨⟨_, _, e, _⟩, _⟩ := h; subst e; rfl) | (obtain ⟨e, _⟩ := h; subst e; rfl) | (obtain ⟨_, e, _⟩ := h; subst e; rfl) | (obtain ⟨_, _, e, _⟩ := h; subst e; rfl) | (obtain ⟨_, _, _, e, _⟩ := h; subst e; rfl) | (obtain ⟨_, _, _, _, e, _⟩ := h; subst e; rfl)))

variable {P : Program} {w : World} {K : PySem.W.Frag} {mg : Str → Option Value} {base : Heap}
/-! ### places, polygons -/
def ptD (P : Pt) : PyData := .tuple [qd P.1, qd P.2]
def plD (l : List Pt) : PyData := .list (l.map ptD)
/-- a list, or a tuple -/
inductive Row (xs : List PyData) : PyData → Prop
  | l : Row xs (.list xs)
  | t : Row xs (.tuple xs)
abbrev R_is_list (ds : List PyData) (d : PyData) : Prop := ∃ (xs : List PyData) (x : PyData) (lo hi : Int), ds = [x, .int lo, .int hi] ∧ Row xs x ∧ d = .bool (decide (lo ≤ (xs.length : Int)) && decide ((xs.length : Int) ≤ hi))
theorem bool_and {a b : Bool} (h : a = true) : PyData.bool b = PyData.bool (a && b) := by rw [h]; rfl
theorem bool_no {a b : Bool} (h : a = false) : PyData.bool false = PyData.bool (a && b) := by rw [h]; rfl
theorem c_is_list (T : Top K w mg) : Cal P w K mg base "is_list" 1 p_is_list (spP K R_is_list) :=
  T.h_is_list.call (fun _ _ _ _ _ _ us hl => match us, hl with | [_, _, _], _ => rfl) fun f fd F m => fn_pure F sc_is_list (by walk_at "len") fun cdv A outer s H E hr => ⟨_, (pss_one (ps_ret (pe_and (pe_callB (call_isiTK (K := K) rfl) (by rfl) T.m_isinstance (by decide +kernel) (pa_cons (pv 0) (pa_cons (pe_tup (pa_cons (pe_ty "list" (by rfl) T.m_list (by decide +kernel)) (pa_cons (pe_ty "tuple" (by rfl) T.m_tuple (by decide +kernel)) pa_nil))) pa_nil))) (pe_one (pe_chain op_le op_le (pv 1) (pe_callB (call_lenXK (K := K) rfl) (by rfl) T.m_len (by decide +kernel) (pa_cons (pv 0) pa_nil)) (pv 2)))))), fun ds d hR => by
    obtain ⟨xs, x, lo, hi, rfl, hx, rfl⟩ := hR
    cases hx <;>
    · walk_at "db"
      refine ⟨fun h => ?_, fun h => ?_⟩
      · walk_at "d"
        exact bool_and h
      · exact bool_no h⟩
theorem row_iter {xs : List PyData} {x : PyData} (h : Row xs x) : x = .list xs ∨ x = .tuple xs := by cases h <;> simp
abbrev R_need_parts (ds : List PyData) (d : PyData) : Prop := ∃ (ps : List (List Pt)) (x : PyData), ds = [x] ∧ Row (ps.map plD) x ∧ (1 ≤ ps.length ∧ ps.length ≤ 4) ∧ (∀ l ∈ ps, 1 ≤ l.length ∧ l.length ≤ 100) ∧ d = .none
theorem nums_all (q r : Rat) : [PyData.bool (isNu (qd q)), PyData.bool (isNu (qd r))] = [true, true].map PyData.bool := by rw [nu_qd, nu_qd]; rfl
theorem c_need_parts (T : Top K w mg) : Cal P w K mg base "need_parts" 4 p_need_parts (spP K R_need_parts) :=
  T.h_need_parts.call (fun _ _ _ _ _ _ us hl => match us, hl with | [_], _ => rfl) fun f fd F m => fn_pure F sc_need_parts (by walk_at "len") fun cdv A outer s H E hr => ⟨_, (pss_cons (ps_if (pt_not (pt_val (pe_cal (c_is_list (P := P) (w := w) (K := K) (mg := mg) (base := base) T) (hr.mono (by omega)) (by rfl) (pa_cons (pv 0) (pa_cons pe_int (pa_cons (pe_KK (K := K) rfl T.k_MOST_POLYGONS (by rfl)) pa_nil)))))) (pss_one ps_never) pss_nil)
    (pss_one (ps_for PassesOwn.never rfl (pi_XK (K := K) rfl (pv 0)) (pg_name (i := 1) sc_need_parts.nd rfl (.inl rfl))
    (pss_cons (ps_if (pt_not (pt_val (pe_cal (c_is_list (P := P) (w := w) (K := K) (mg := mg) (base := base) T) (hr.mono (by omega)) (by rfl) (pa_cons (pv 1) (pa_cons pe_int (pa_cons (pe_KK (K := K) rfl T.k_MOST_PLACES (by rfl)) pa_nil)))))) (pss_one ps_never) pss_nil)
    (pss_one (ps_for PassesOwn.never rfl (pi_XK (K := K) rfl (pv 1)) (pg_name (i := 2) sc_need_parts.nd rfl (.inl rfl))
    (pss_one (ps_if (PW.pt (pw_or (pt_not (pt_val (pe_callB (call_isiXK (K := K) rfl) (by rfl) T.m_isinstance (by decide +kernel) (pa_cons (pv 2) (pa_cons (pe_ty "tuple" (by rfl) T.m_tuple (by decide +kernel)) pa_nil))))) (pw_or (pt_cmpR (op_neXK (K := K) rfl hr.units) (pe_callB (call_lenXK (K := K) rfl) (by rfl) T.m_len (by decide +kernel) (pa_cons (pv 2) pa_nil)) pe_int (nomark _)) (pw_or1 (pt_not (pt_val (pe_callB (cr_allK (K := K) rfl rfl) (by rfl) T.m_all (by decide +kernel) (pa_cons (pe_lc (own := [("one", 3)]) (g := gName 3) rfl sc_need_parts.nd  (pi_XK (K := K) rfl (pv 2))
      (blkOk_by (own := [("one", 3)]) (N := N_need_parts) (sc := defScope s_need_parts) (by decide +kernel)) (fun _ _ _ _ _ => pg_name (i := 3) sc_need_parts.nd rfl (Or.inl rfl))
      (fun _ _ _ _ _ => pts_nil) (fun _ _ _ _ _ => (pe_cal (c_is_number (P := P) (w := w) (K := K) (mg := mg) (base := base) T) (hr.mono (by omega)) (by rfl) (pa_cons (pv 3) pa_nil)))) pa_nil)))))))) (pss_one ps_never) pss_nil)))))))), fun ds d hR => by
    obtain ⟨ps, x, rfl, hx, hl, hp, rfl⟩ := hR
    walk_at "d"
    refine ⟨_, ⟨_, x, 1, 4, rfl, hx, rfl⟩, ?_⟩
    rw [List.length_map, decide_eq_true (show (1 : Int) ≤ ps.length by omega), decide_eq_true (show (ps.length : Int) ≤ 4 by omega)]
    walk_at "db"
    refine ws_for (wi_X ?_)
    walk_at "d"
    refine ⟨_, row_iter hx, fun _ ρ β => ∃ s1 s2 s3 : Slot, ρ = [.dat x, s1, s2, s3] ∧ β = [], ⟨_, _, _, rfl, rfl⟩, ?_, fun _ _ _ => rfl⟩
    rintro i d ρ' β' hd ⟨s1, s2, s3, rfl, rfl⟩
    obtain ⟨l, hl2, rfl⟩ : ∃ l, ps[i]? = some l ∧ d = plD l := by
      rw [List.getElem?_map] at hd
      cases h : ps[i]? with
      | none => rw [h] at hd; cases hd
      | some l => rw [h] at hd; exact ⟨l, rfl, (Option.some.inj hd).symm⟩
    have hb := hp l (List.mem_of_getElem? hl2)
    refine wg_name ?_
    walk_at "d"
    refine ⟨_, ⟨_, plD l, 1, 100, rfl, .l, rfl⟩, ?_⟩
    rw [List.length_map, decide_eq_true (show (1 : Int) ≤ l.length by omega), decide_eq_true (show (l.length : Int) ≤ 100 by omega)]
    walk_at "db"
    refine ws_for (wi_X ?_)
    walk_at "d"
    refine ⟨_, .inl rfl, fun _ ρ β => ∃ s2 s3 : Slot, ρ = [.dat x, .dat (plD l), s2, s3] ∧ β = [], ⟨_, _, rfl, rfl⟩, ?_, fun ρ' β' ⟨s2, s3, e1, e2⟩ => ⟨_, _, _, e1, e2⟩⟩
    rintro j d ρ' β' hd ⟨s2, s3, rfl, rfl⟩
    obtain ⟨p, hp2, rfl⟩ : ∃ p, l[j]? = some p ∧ d = ptD p := by
      rw [List.getElem?_map] at hd
      cases h : l[j]? with
      | none => rw [h] at hd; cases hd
      | some l => rw [h] at hd; exact ⟨l, rfl, (Option.some.inj hd).symm⟩
    refine wg_name ?_
    unfold ptD
    walk_at "db"
    refine we_lc_map (tg := [3]) (fun y => .bool (isNu y)) (by decide) (wi_X ?_)
    walk_at "d"
    refine ⟨_, .inr rfl, lenOk rfl, fun d hd => ?_, ?_⟩
    · refine wgc_name ?_
      walk_at "d"
      exact ⟨rfl, rfl⟩
    · walk_at "d"
      refine ⟨_, nums_all p.1 p.2 ▸ rc_all (bs := [true, true]), ?_⟩
      walk_at "db"
      rfl⟩
end K84

set_option Elab.async false
set_option linter.all false
set_option maxRecDepth 100000
set_option pp.deepTerms false
set_option pp.deepTerms.threshold 6
set_option maxHeartbeats 4000000
namespace K84
open PySem PySem.Spec PyProof.Rows L2 DS
open G84 (Pt co setc kept sect out outs lastP lastD cut)
open K77 (Bd)
-- the steps that need no thought: one, as many as there are
local macro_rules | `(tactic| walk_at "d1") => `(tactic| with_reducible first
  | refine ws_seq ?_ | refine ws_next ?_ | refine ws_retN ?_ | refine ws_ret ?_ | refine ws_if ?_ | refine ws_par ?_ | refine ws_setK ?_ | refine ws_newD ?_ | refine wp_cons ?_ | refine wp_nil ?_ | refine ws_set ?_ | refine ws_star ?_ | refine ws_setO rfl ?_ | apply ws_asg
  | refine we_var rfl ?_ | refine we_int ?_ | refine we_bl ?_ | refine we_str ?_ | refine we_non ?_ | refine we_kd ?_ | refine we_ixO rfl ?_
  | refine we_isi isg_int ?_ | refine we_isi isg_bool ?_ | refine we_isi isg_str ?_ | refine we_isi isg_list ?_ | refine we_isi isg_tuple ?_ | refine we_isi2 isg_list isg_tuple ?_ | refine we_isi2 isg_int isg_tuple ?_
  | refine we_inK ?_ | refine we_ixK ?_ | refine we_op ?_ | refine we_un ?_ | refine we_cb ?_ | refine we_tup ?_ | refine we_lst ?_ | refine we_andV ?_ | refine we_orV ?_ | refine we_notV ?_ | refine we_if ?_ | refine we_chain ?_ | refine we_sl ?_ | refine we_call ?_
  | refine wa_nil ?_ | refine wa_cons ?_ | refine wo_none ?_ | refine wo_some ?_ | refine wt_test ?_ | refine wt_B ?_ | refine wt_and ?_ | refine wt_or ?_ | refine wt_not ?_
  | refine wg_tup rfl ?_ | refine wgs_cons ?_ | refine wgs_nil ?_ | refine wg_name ?_
  | refine ⟨_, r2_int, ?_⟩ | refine ⟨_, r2_bl, ?_⟩ | refine ⟨_, r2_addI, ?_⟩ | refine ⟨_, r2_eqI, ?_⟩ | refine ⟨_, r2_neI, ?_⟩ | refine ⟨_, r2_eqS, ?_⟩ | refine ⟨_, r2_neS, ?_⟩ | refine ⟨_, r2_isN, ?_⟩ | refine ⟨_, r1_neg, ?_⟩
  | refine ⟨_, rc_absI, ?_⟩ | refine ⟨_, rc_intI, ?_⟩ | refine ⟨_, rc_intB, ?_⟩ | refine ⟨_, rc_max, ?_⟩ | refine ⟨_, rc_min, ?_⟩ | refine ⟨_, rc_lenL, ?_⟩ | refine ⟨_, rc_lenT, ?_⟩ | refine ⟨_, rc_listL, ?_⟩ | refine ⟨_, rc_listT, ?_⟩ | refine ⟨_, rc_tupL, ?_⟩ | refine ⟨_, rc_tupT, ?_⟩
  | refine ⟨_, rfl, ?_⟩ | refine ⟨_, _, rfl, ?_⟩ | refine ⟨_, ⟨_, rfl, rfl⟩, ?_⟩ | refine ⟨_, ⟨_, _, rfl, rfl⟩, ?_⟩)
local macro_rules | `(tactic| walk_at "d") => `(tactic| repeat (first | walk_at "d1" | refine ⟨lenOk rfl, ?_⟩ | refine ⟨0, _, _, _, rfl, rfl, rfl, ?_⟩ | refine ⟨_, r2_ixXL rfl, ?_⟩ | refine ⟨_, r2_ixXT rfl, ?_⟩ | refine ⟨_, r2_ixXT at0, ?_⟩ | refine ⟨_, r2_ixXT at1, ?_⟩ | refine ⟨_, r2_ixXL at0, ?_⟩ | refine ⟨_, r2_ixXL at1, ?_⟩))
-- a condition whose truth comes out by computation
local macro_rules | `(tactic| walk_at "b1") => `(tactic| first
  | refine ⟨fun _ => ?_, fun h => Bool.noConfusion (show true = false from h)⟩
  | refine ⟨fun h => Bool.noConfusion (show false = true from h), fun _ => ?_⟩)
local macro_rules | `(tactic| walk_at "db") => `(tactic| repeat (first | walk_at "d1" | refine ⟨lenOk rfl, ?_⟩ | refine ⟨0, _, _, _, rfl, rfl, rfl, ?_⟩ | refine ⟨_, r2_ixXL rfl, ?_⟩ | refine ⟨_, r2_ixXT rfl, ?_⟩ | refine ⟨_, r2_ixXT at0, ?_⟩ | refine ⟨_, r2_ixXT at1, ?_⟩ | refine ⟨_, r2_ixXL at0, ?_⟩ | refine ⟨_, r2_ixXL at1, ?_⟩ | walk_at "b1"))
-- how many arguments there are
local macro_rules | `(tactic| walk_at "len") => `(tactic| (intro _ _ h; first
  | (obtain ⟨_, e, _⟩ := h; subst e; rfl) | (obtain ⟨_, _, e, _⟩ := h; subst e; rfl) | (obtain ⟨_, _, _, e, _⟩ := h; subst e; rfl) | (obtain ⟨_, _, _, _, e, _⟩ := h; subst e; rfl) | (obtain ⟨_, _, _, _, _, e, _⟩ := h; subst e; rfl)))
local macro_rules | `(tactic| walk_at "leno") => `(tactic| (intro _ _ h; first
  | (obtain ⟨⟨_, e, _⟩, _⟩ := h; subst e; rfl) | (obtain ⟨⟨_, _, e, _⟩, _⟩ := h; subst e; rfl) | (obtain ⟨e, _⟩ := h; subst e; rfl) | (obtain ⟨_, e, _⟩ := h; subst e; rfl) | (obtain ⟨_, _, e, _⟩ := h; subst e; rfl) | (obtain ⟨_, _, _, e, _⟩ := h; subst e; rfl) | (obtain ⟨_, _, _, _, e, _⟩ := h; subst e; rfl)))

variable {P : Program} {w : World} {K : PySem.W.Frag} {mg : Str → Option Value} {base : Heap}
/-! ### is_kept -/
def aw (w : Bool) : Int := if w then 1 else 0
def sw (s : Bool) : Int := if s then 1 else -1
theorem not_lt_dec {p q : Rat} : (!decide (p < q)) = decide (q ≤ p) := by
  by_cases h : p < q
  · rw [decide_eq_true h, decide_eq_false (Rat.not_le.mpr h)]; rfl
  · rw [decide_eq_false h, decide_eq_true (Rat.not_lt.mp h)]; rfl
abbrev R_is_kept (ds : List PyData) (d : PyData) : Prop := ∃ (p : Pt) (v s : Bool) (L : Rat), ds = [ptD p, .int (aw v), qd L, .int (sw s)] ∧ Sq p.1 ∧ Sq p.2 ∧ Sq L ∧ d = .bool (kept v s L p)
theorem c_is_kept (T : Top K w mg) : Cal P w K mg base "is_kept" 5 p_is_kept (spP K R_is_kept) :=
  T.h_is_kept.call (fun _ _ _ _ _ _ us hl => match us, hl with | [_, _, _, _], _ => rfl) fun f fd F m => fn_pure F sc_is_kept (by walk_at "len") fun cdv A outer s H E hr => ⟨_, (pss_one (ps_ret (pe_ifExp (pt_cmpR (op_eqXK (K := K) rfl hr.units) (pv 3) pe_int (nomark _)) (pe_not (pe_cal (c_less (P := P) (w := w) (K := K) (mg := mg) (base := base) T) (hr.mono (by omega)) (by rfl) (pa_cons (pe_ix (ix_XK (K := K) rfl) (pv 0) (pv 1) (fun _ _ => rfl)) (pa_cons (pv 2) pa_nil)))) (pe_not (pe_cal (c_less (P := P) (w := w) (K := K) (mg := mg) (base := base) T) (hr.mono (by omega)) (by rfl) (pa_cons (pv 2) (pa_cons (pe_ix (ix_XK (K := K) rfl) (pv 0) (pv 1) (fun _ _ => rfl)) pa_nil))))))), fun ds d hR => by
    obtain ⟨p, v, s, L, rfl, h1, h2, h3, rfl⟩ := hR
    unfold ptD
    cases v <;> cases s <;>
    · walk_at "db"
      refine ⟨_, ⟨_, _, rfl, by assumption, by assumption, rfl⟩, ?_⟩
      walk_at "d"
      rw [not_lt_dec]
      rfl⟩
/-! ### place_on -/
/-- a place that may be reckoned with -/
structure Vok (p : Pt) : Prop where
  x : Fq 500 50 p.1
  y : Fq 500 50 p.2
theorem Vok.co {p : Pt} (h : Vok p) (v : Bool) : Fq 500 50 (co v p) := by cases v; exact h.x; exact h.y
theorem Vok.sx {p : Pt} (h : Vok p) : Sq p.1 := h.x.sq (by decide) (by decide)
theorem Vok.sy {p : Pt} (h : Vok p) : Sq p.2 := h.y.sq (by decide) (by decide)
def shr (v : Bool) (L : Rat) (p q : Pt) : Rat := (L - co v p) / (co v q - co v p)
theorem shr_ok {v : Bool} {L : Rat} {p q : Pt} (hL : Fq 0 20 L) (hp : Vok p) (hq : Vok q) (hne : co v p ≠ co v q) :
    Sq L ∧ Sq (L - co v p) ∧ Sq (co v q - co v p) ∧ Bd 4400 (co v q - co v p).num ∧ co v q - co v p ≠ 0 ∧ Fq 1601 1071 (shr v L p q) := by
  have h1 := hL.sub (hp.co v)
  have h2 := (hq.co v).sub (hp.co v)
  have h0 : co v q - co v p ≠ 0 := by grind
  exact ⟨hL.sq (by decide) (by decide), h1.sq (by decide) (by decide), h2.sq (by decide) (by decide), h2.sv (by decide), h0, h1.div h2 h0⟩
theorem mid_ok {a b t : Rat} (ha : Fq 500 50 a) (hb : Fq 500 50 b) (ht : Fq 1601 1071 t) : Sq a ∧ Sq b ∧ Sq t ∧ Sq (b - a) ∧ Sq (t * (b - a)) ∧ Sq (a + t * (b - a)) := by
  have h1 := hb.sub ha
  have h2 := ht.mul h1
  have h3 := ha.add h2
  exact ⟨ha.sq (by decide) (by decide), hb.sq (by decide) (by decide), ht.sq (by decide) (by decide), h1.sq (by decide) (by decide), h2.sq (by decide) (by decide), h3.sq (by decide) (by decide)⟩
abbrev R_place_on (ds : List PyData) (d : PyData) : Prop := ∃ (p q : Pt) (v : Bool) (L : Rat), ds = [ptD p, ptD q, .int (aw v), qd L] ∧ Vok p ∧ Vok q ∧ Fq 0 20 L ∧ co v p ≠ co v q ∧ d = ptD (sect v L p q)
theorem c_place_on (T : Top K w mg) : Cal P w K mg base "place_on" 5 p_place_on (spP K R_place_on) :=
  T.h_place_on.call (fun _ _ _ _ _ _ us hl => match us, hl with | [_, _, _, _], _ => rfl) fun f fd F m => fn_pure F sc_place_on (by walk_at "len") fun cdv A outer s H E hr => ⟨_, (pss_cons (ps_set (i := 4) sc_place_on.nd rfl (.inr rfl) (pe_cal (c_over (P := P) (w := w) (K := K) (mg := mg) (base := base) T) (hr.mono (by omega)) (by rfl) (pa_cons (pe_cal (c_minus (P := P) (w := w) (K := K) (mg := mg) (base := base) T) (hr.mono (by omega)) (by rfl) (pa_cons (pv 3) (pa_cons (pe_ix (ix_XK (K := K) rfl) (pv 0) (pv 2) (fun _ _ => rfl)) pa_nil))) (pa_cons (pe_cal (c_minus (P := P) (w := w) (K := K) (mg := mg) (base := base) T) (hr.mono (by omega)) (by rfl) (pa_cons (pe_ix (ix_XK (K := K) rfl) (pv 1) (pv 2) (fun _ _ => rfl)) (pa_cons (pe_ix (ix_XK (K := K) rfl) (pv 0) (pv 2) (fun _ _ => rfl)) pa_nil))) pa_nil))))
    (pss_cons (ps_setLc (i := 5) (own := [("here", 6), ("there", 7)]) (g := gTup K 2 (gCons (gName 6) (gCons (gName 7) gNil))) rfl sc_place_on.nd rfl rfl (sw_true rfl rfl rfl (by decide +kernel)) (pi_zipK (K := K) rfl (by rfl) T.m_zip (pa_cons (pv 0) (pa_cons (pv 1) pa_nil)))
      (blkOk_by (own := [("here", 6), ("there", 7)]) (N := N_place_on) (sc := defScope s_place_on) (by decide +kernel)) (fun _ _ _ _ _ => pg_tupK (K := K) (n := 2) rfl (by rfl) (pgs_cons (pg_name (i := 6) sc_place_on.nd rfl (Or.inl rfl)) (pgs_cons (pg_name (i := 7) sc_place_on.nd rfl (Or.inl rfl)) pgs_nil)))
      (fun _ _ _ _ _ => pts_nil) (fun _ _ _ _ _ => (pe_cal (c_plus (P := P) (w := w) (K := K) (mg := mg) (base := base) T) (hr.mono (by omega)) (by rfl) (pa_cons (pv 6) (pa_cons (pe_cal (c_times (P := P) (w := w) (K := K) (mg := mg) (base := base) T) (hr.mono (by omega)) (by rfl) (pa_cons (pv 4) (pa_cons (pe_cal (c_minus (P := P) (w := w) (K := K) (mg := mg) (base := base) T) (hr.mono (by omega)) (by rfl) (pa_cons (pv 7) (pa_cons (pv 6) pa_nil))) pa_nil))) pa_nil)))))
    (pss_cons (ps_asg (pv 3) (pg_sub (pv 5) (pv 2) set_list))
    (pss_one (ps_ret (pe_tup (pa_cons (pe_ix (ix_XK (K := K) rfl) (pv 5) pe_int (fun _ _ => rfl)) (pa_cons (pe_ix (ix_XK (K := K) rfl) (pv 5) pe_int (fun _ _ => rfl)) pa_nil)))))))), fun ds d hR => by
    obtain ⟨p, q, v, L, rfl, hp, hq, hL, hne, rfl⟩ := hR
    obtain ⟨s1, s2, s3, s4, s5, s6⟩ := shr_ok hL hp hq hne
    obtain ⟨x1, x2, x3, x4, x5, x6⟩ := mid_ok hp.x hq.x s6
    obtain ⟨y1, y2, _, y4, y5, y6⟩ := mid_ok hp.y hq.y s6
    have hs : shr v L p q = (L - co v p) / (co v q - co v p) := rfl
    unfold ptD
    cases v
    · walk_at "d"
      refine ⟨_, ⟨_, _, rfl, s1, x1, rfl⟩, ?_⟩
      walk_at "d"
      refine ⟨_, ⟨_, _, rfl, x2, x1, rfl⟩, ?_⟩
      walk_at "d"
      refine ⟨_, ⟨_, _, rfl, s2, s3, s4, s5, rfl⟩, ?_⟩
      rw [show ((fun p q : Rat => p - q) L p.1) / ((fun p q : Rat => p - q) q.1 p.1) = shr false L p q from rfl]
      have hsect : sect false L p q = setc false L (p.1 + shr false L p q * (q.1 - p.1), p.2 + shr false L p q * (q.2 - p.2)) := rfl
      rw [hsect]
      clear hsect hs
      generalize shr false L p q = t at *
      refine ws_seq (ws_newLc_ix (tg := [6, 7]) (by decide) (wi_zipT ?_))
      refine wa_cons (we_var rfl (wa_cons (we_var rfl (wa_nil ⟨_, _, rfl, [qd (p.1 + t * (q.1 - p.1)), qd (p.2 + t * (q.2 - p.2))], lenOk rfl, rfl, ?_, ?_⟩))))
      · intro i d y hd hy
        obtain ⟨a, b, ha, hb, rfl⟩ := zipD_get hd
        match i with
        | 0 =>
          cases ha; cases hb; cases hy
          refine wgc_tup (tg := [6] ++ ([7] ++ [])) rfl (wgcs_cons (wgc_name (wgcs_cons (wgc_name (wgcs_nil ?_)))))
          walk_at "d"
          refine ⟨_, ⟨_, _, rfl, x2, x1, rfl⟩, ?_⟩
          walk_at "d"
          refine ⟨_, ⟨_, _, rfl, x3, x4, rfl⟩, ?_⟩
          walk_at "d"
          refine ⟨_, ⟨_, _, rfl, x1, x5, rfl⟩, ?_⟩
          exact ⟨rfl, rfl⟩
        | 1 =>
          cases ha; cases hb; cases hy
          refine wgc_tup (tg := [6] ++ ([7] ++ [])) rfl (wgcs_cons (wgc_name (wgcs_cons (wgc_name (wgcs_nil ?_)))))
          walk_at "d"
          refine ⟨_, ⟨_, _, rfl, y2, y1, rfl⟩, ?_⟩
          walk_at "d"
          refine ⟨_, ⟨_, _, rfl, x3, y4, rfl⟩, ?_⟩
          walk_at "d"
          refine ⟨_, ⟨_, _, rfl, y1, y5, rfl⟩, ?_⟩
          exact ⟨rfl, rfl⟩
        | i + 2 => cases ha
      · intro a _
        walk_at "d"
        rfl
    · walk_at "d"
      refine ⟨_, ⟨_, _, rfl, s1, y1, rfl⟩, ?_⟩
      walk_at "d"
      refine ⟨_, ⟨_, _, rfl, y2, y1, rfl⟩, ?_⟩
      walk_at "d"
      refine ⟨_, ⟨_, _, rfl, s2, s3, s4, s5, rfl⟩, ?_⟩
      rw [show ((fun p q : Rat => p - q) L p.2) / ((fun p q : Rat => p - q) q.2 p.2) = shr true L p q from rfl]
      have hsect : sect true L p q = setc true L (p.1 + shr true L p q * (q.1 - p.1), p.2 + shr true L p q * (q.2 - p.2)) := rfl
      rw [hsect]
      clear hsect hs
      generalize shr true L p q = t at *
      refine ws_seq (ws_newLc_ix (tg := [6, 7]) (by decide) (wi_zipT ?_))
      refine wa_cons (we_var rfl (wa_cons (we_var rfl (wa_nil ⟨_, _, rfl, [qd (p.1 + t * (q.1 - p.1)), qd (p.2 + t * (q.2 - p.2))], lenOk rfl, rfl, ?_, ?_⟩))))
      · intro i d y hd hy
        obtain ⟨a, b, ha, hb, rfl⟩ := zipD_get hd
        match i with
        | 0 =>
          cases ha; cases hb; cases hy
          refine wgc_tup (tg := [6] ++ ([7] ++ [])) rfl (wgcs_cons (wgc_name (wgcs_cons (wgc_name (wgcs_nil ?_)))))
          walk_at "d"
          refine ⟨_, ⟨_, _, rfl, x2, x1, rfl⟩, ?_⟩
          walk_at "d"
          refine ⟨_, ⟨_, _, rfl, x3, x4, rfl⟩, ?_⟩
          walk_at "d"
          refine ⟨_, ⟨_, _, rfl, x1, x5, rfl⟩, ?_⟩
          exact ⟨rfl, rfl⟩
        | 1 =>
          cases ha; cases hb; cases hy
          refine wgc_tup (tg := [6] ++ ([7] ++ [])) rfl (wgcs_cons (wgc_name (wgcs_cons (wgc_name (wgcs_nil ?_)))))
          walk_at "d"
          refine ⟨_, ⟨_, _, rfl, y2, y1, rfl⟩, ?_⟩
          walk_at "d"
          refine ⟨_, ⟨_, _, rfl, x3, y4, rfl⟩, ?_⟩
          walk_at "d"
          refine ⟨_, ⟨_, _, rfl, y1, y5, rfl⟩, ?_⟩
          exact ⟨rfl, rfl⟩
        | i + 2 => cases ha
      · intro a _
        walk_at "d"
        rfl⟩
end K84

set_option Elab.async false
set_option linter.all false
set_option maxRecDepth 100000
set_option pp.deepTerms false
set_option pp.deepTerms.threshold 6
set_option maxHeartbeats 4000000
namespace K84
open PySem PySem.Spec PyProof.Rows L2 DS
open G84 (Pt co setc kept sect out outs lastP lastD cut)
open K77 (Bd)
-- the steps that need no thought: one, as many as there are
local macro_rules | `(tactic| walk_at "d1") => `(tactic| with_reducible first
  | refine ws_seq ?_ | refine ws_next ?_ | refine ws_retN ?_ | refine ws_ret ?_ | refine ws_if ?_ | refine ws_par ?_ | refine ws_setK ?_ | refine ws_newD ?_ | refine wp_cons ?_ | refine wp_nil ?_ | refine ws_set ?_ | refine ws_star ?_ | refine ws_setO rfl ?_ | apply ws_asg
  | refine we_var rfl ?_ | refine we_int ?_ | refine we_bl ?_ | refine we_str ?_ | refine we_non ?_ | refine we_kd ?_ | refine we_ixO rfl ?_
  | refine we_isi isg_int ?_ | refine we_isi isg_bool ?_ | refine we_isi isg_str ?_ | refine we_isi isg_list ?_ | refine we_isi isg_tuple ?_ | refine we_isi2 isg_list isg_tuple ?_ | refine we_isi2 isg_int isg_tuple ?_
  | refine we_inK ?_ | refine we_ixK ?_ | refine we_op ?_ | refine we_un ?_ | refine we_cb ?_ | refine we_tup ?_ | refine we_lst ?_ | refine we_andV ?_ | refine we_orV ?_ | refine we_notV ?_ | refine we_if ?_ | refine we_chain ?_ | refine we_sl ?_ | refine we_call ?_
  | refine wa_nil ?_ | refine wa_cons ?_ | refine wo_none ?_ | refine wo_some ?_ | refine wt_test ?_ | refine wt_B ?_ | refine wt_and ?_ | refine wt_or ?_ | refine wt_not ?_
  | refine wg_tup rfl ?_ | refine wgs_cons ?_ | refine wgs_nil ?_ | refine wg_name ?_
  | refine ⟨_, r2_int, ?_⟩ | refine ⟨_, r2_bl, ?_⟩ | refine ⟨_, r2_addI, ?_⟩ | refine ⟨_, r2_eqI, ?_⟩ | refine ⟨_, r2_neI, ?_⟩ | refine ⟨_, r2_eqS, ?_⟩ | refine ⟨_, r2_neS, ?_⟩ | refine ⟨_, r2_isN, ?_⟩ | refine ⟨_, r1_neg, ?_⟩
  | refine ⟨_, rc_absI, ?_⟩ | refine ⟨_, rc_intI, ?_⟩ | refine ⟨_, rc_intB, ?_⟩ | refine ⟨_, rc_max, ?_⟩ | refine ⟨_, rc_min, ?_⟩ | refine ⟨_, rc_lenL, ?_⟩ | refine ⟨_, rc_lenT, ?_⟩ | refine ⟨_, rc_listL, ?_⟩ | refine ⟨_, rc_listT, ?_⟩ | refine ⟨_, rc_tupL, ?_⟩ | refine ⟨_, rc_tupT, ?_⟩
  | refine ⟨_, rfl, ?_⟩ | refine ⟨_, _, rfl, ?_⟩ | refine ⟨_, ⟨_, rfl, rfl⟩, ?_⟩ | refine ⟨_, ⟨_, _, rfl, rfl⟩, ?_⟩)
local macro_rules | `(tactic| walk_at "d") => `(tactic| repeat (first | walk_at "d1" | refine ⟨lenOk rfl, ?_⟩ | refine ⟨0, _, _, _, rfl, rfl, rfl, ?_⟩ | refine ⟨_, r2_ixXL rfl, ?_⟩ | refine ⟨_, r2_ixXT rfl, ?_⟩ | refine ⟨_, r2_ixXT at0, ?_⟩ | refine ⟨_, r2_ixXT at1, ?_⟩ | refine ⟨_, r2_ixXL at0, ?_⟩ | refine ⟨_, r2_ixXL at1, ?_⟩))
-- a condition whose truth comes out by computation
local macro_rules | `(tactic| walk_at "b1") => `(tactic| first
  | refine ⟨fun _ => ?_, fun h => Bool.noConfusion (show true = false from h)⟩
  | refine ⟨fun h => Bool.noConfusion (show false = true from h), fun _ => ?_⟩)
local macro_rules | `(tactic| walk_at "db") => `(tactic| repeat (first | walk_at "d1" | refine ⟨lenOk rfl, ?_⟩ | refine ⟨0, _, _, _, rfl, rfl, rfl, ?_⟩ | refine ⟨_, r2_ixXL rfl, ?_⟩ | refine ⟨_, r2_ixXT rfl, ?_⟩ | refine ⟨_, r2_ixXT at0, ?_⟩ | refine ⟨_, r2_ixXT at1, ?_⟩ | refine ⟨_, r2_ixXL at0, ?_⟩ | refine ⟨_, r2_ixXL at1, ?_⟩ | walk_at "b1"))
-- how many arguments there are
local macro_rules | `(tactic| walk_at "len") => `(tactic| (intro _ _ h; first
  | (obtain ⟨_, e, _⟩ := h; subst e; rfl) | (obtain ⟨_, _, e, _⟩ := h; subst e; rfl) | (obtain ⟨_, _, _, e, _⟩ := h; subst e; rfl) | (obtain ⟨_, _, _, _, e, _⟩ := h; subst e; rfl) | (obtain ⟨_, _, _, _, _, e, _⟩ := h; subst e; rfl)))
local macro_rules | `(tactic| walk_at "leno") => `(tactic| (intro _ _ h; first
  | (obtain ⟨⟨_, e, _⟩, _⟩ := h; subst e; rfl) | (obtain ⟨⟨_, _, e, _⟩, _⟩ := h; subst e; rfl) | (obtain ⟨e, _⟩ := h; subst e; rfl) | (obtain ⟨_, e, _⟩ := h; subst e; rfl) | (obtain ⟨_, _, e, _⟩ := h; subst e; rfl) | (obtain ⟨_, _, _, e, _⟩ := h; subst e; rfl) | (obtain ⟨_, _, _, _, e, _⟩ := h; subst e; rfl)))

variable {P : Program} {w : World} {K : PySem.W.Frag} {mg : Str → Option Value} {base : Heap}
/-! ### cut_off -/
theorem out_len {v s : Bool} {L : Rat} {p q : Pt} : (out v s L p q).length ≤ 2 := by unfold out; split <;> split <;> simp
theorem outs_len {v s : Bool} {L : Rat} : ∀ {l : List Pt} {p : Pt}, (outs v s L p l).length ≤ 2 * l.length
  | [], _ => Nat.le_refl _
  | q :: r, p => by
    have h1 := out_len (v := v) (s := s) (L := L) (p := p) (q := q)
    have h2 := outs_len (v := v) (s := s) (L := L) (l := r) (p := q)
    simp only [outs, List.length_append, List.length_cons]
    omega
theorem outs_app {v s : Bool} {L : Rat} : ∀ {l m : List Pt} {p : Pt}, outs v s L p (l ++ m) = outs v s L p l ++ outs v s L (lastD p l) m
  | [], m, p => by rw [List.nil_append, G84.lastD_nil]; rfl
  | q :: r, m, p => by rw [List.cons_append, G84.lastD_cons]; simp only [outs, outs_app, List.append_assoc]
theorem cut_len {v s : Bool} {L : Rat} {l : List Pt} : (cut v s L l).length ≤ 2 * l.length := outs_len
theorem outs_take {v s : Bool} {L : Rat} {l : List Pt} {p : Pt} {i : Nat} {q : Pt} (h : l[i]? = some q) : outs v s L p (l.take (i + 1)) = outs v s L p (l.take i) ++ out v s L (lastD p (l.take i)) q := by
  rw [List.take_add_one, h, outs_app]
  simp [outs]
theorem last_take {l : List Pt} {p : Pt} : ∀ {i : Nat} {q : Pt}, l[i]? = some q → lastD p (l.take (i + 1)) = q := fun {i q} h => by
  rw [List.take_add_one, h, G84.lastD_app]
  rfl
theorem atI_last {ds : List PyData} {d : PyData} (h : ds.getLast? = some d) : atI ds (-1) = some d := by
  have hn : 0 < ds.length := by
    cases ds with
    | nil => cases h
    | cons => simp
  unfold atI
  rw [show ixN ds.length (-1) = some (ds.length - 1) by
    unfold ixN
    simp
    omega]
  show ds[ds.length - 1]? = some d
  rw [← List.getLast?_eq_getElem?]
  exact h
theorem lastP_get {l : List Pt} (h : l ≠ []) : l.getLast? = some (lastP l) := by
  unfold lastP
  rw [List.getLastD_eq_getLast?]
  cases hq : l.getLast? with
  | none => rw [List.getLast?_eq_none_iff] at hq; exact absurd hq h
  | some x => rfl
/-- the place ahead of one -/
theorem at_ahead {l : List Pt} {i : Nat} {q : Pt} (h : l[i]? = some q) : atI (l.map ptD) ((i : Int) - 1) = some (ptD (lastD (lastP l) (l.take i))) := by
  cases i with
  | zero =>
    have hn : l ≠ [] := fun z => by rw [z] at h; cases h
    rw [show ((0 : Nat) : Int) - 1 = -1 from rfl]
    refine atI_last ?_
    rw [List.getLast?_map, lastP_get hn]
    rfl
  | succ i =>
    have hi : i < l.length := by have := (List.getElem?_eq_some_iff.mp h).1; omega
    have hq : l[i]? = some l[i] := List.getElem?_eq_getElem hi
    rw [show ((i + 1 : Nat) : Int) - 1 = (i : Int) by omega, last_take hq]
    refine DS.atI_nat ?_
    rw [List.getElem?_map, hq]
    rfl
theorem ahead_mem {l : List Pt} {i : Nat} {q : Pt} (h : l[i]? = some q) : lastD (lastP l) (l.take i) ∈ l := by
  cases i with
  | zero =>
    have hn : l ≠ [] := fun z => by rw [z] at h; cases h
    exact List.mem_of_getLast? (lastP_get hn)
  | succ i =>
    have hi : i < l.length := by have := (List.getElem?_eq_some_iff.mp h).1; omega
    rw [last_take (List.getElem?_eq_getElem hi)]
    exact List.getElem_mem hi
theorem co_ne {v s : Bool} {L : Rat} {p q : Pt} (h : kept v s L p ≠ kept v s L q) : co v p ≠ co v q := fun z => h (by unfold kept; rw [z])
theorem r2_neBX {a b : Bool} : R2D K (rNeX K) (.bool a) (.bool b) (.bool (!decide (a = b))) := r2_neB
abbrev R_cut_off (ds : List PyData) (d : PyData) : Prop := ∃ (l : List Pt) (v s : Bool) (L : Rat), ds = [plD l, .int (aw v), qd L, .int (sw s)] ∧ (∀ p ∈ l, Vok p) ∧ Fq 0 20 L ∧ l.length ≤ 10000 ∧ d = plD (cut v s L l)
theorem c_cut_off (T : Top K w mg) : Cal P w K mg base "cut_off" 6 p_cut_off (spP K R_cut_off) :=
  T.h_cut_off.call (fun _ _ _ _ _ _ us hl => match us, hl with | [_, _, _, _], _ => rfl) fun f fd F m => fn_pure F sc_cut_off (by walk_at "len") fun cdv A outer s H E hr => ⟨_, (pss_cons (ps_set (i := 4) sc_cut_off.nd rfl (.inl rfl) (pe_lst pa_nil))
    (pss_cons (ps_for PassesOwn.never rfl (pi_enumK (K := K) rfl (by rfl) T.m_enumerate (pa_cons (pv 0) pa_nil)) (pg_tupK (K := K) (n := 2) rfl (by rfl) (pgs_cons (pg_name (i := 5) sc_cut_off.nd rfl (.inl rfl)) (pgs_cons (pg_name (i := 6) sc_cut_off.nd rfl (.inl rfl)) pgs_nil)))
    (pss_cons (ps_set (i := 7) sc_cut_off.nd rfl (.inl rfl) (pe_ix (ix_XK (K := K) rfl) (pv 0) (pe_op op_sub (pv 5) pe_int) (fun _ _ => rfl)))
    (pss_cons (ps_if (pt_cmpR (op_neXK (K := K) rfl hr.units) (pe_cal (c_is_kept (P := P) (w := w) (K := K) (mg := mg) (base := base) T) (hr.mono (by omega)) (by rfl) (pa_cons (pv 7) (pa_cons (pv 1) (pa_cons (pv 2) (pa_cons (pv 3) pa_nil))))) (pe_cal (c_is_kept (P := P) (w := w) (K := K) (mg := mg) (base := base) T) (hr.mono (by omega)) (by rfl) (pa_cons (pv 6) (pa_cons (pv 1) (pa_cons (pv 2) (pa_cons (pv 3) pa_nil))))) (nomark _)) (pss_one (ps_expr (pe_bm PySem.F.plainAttrs_list PySem.F.slot_list_append PySem.F.type_list_append mt_append (pv 4) (pa_cons (pe_cal (c_place_on (P := P) (w := w) (K := K) (mg := mg) (base := base) T) (hr.mono (by omega)) (by rfl) (pa_cons (pv 7) (pa_cons (pv 6) (pa_cons (pv 1) (pa_cons (pv 2) pa_nil))))) pa_nil)))) pss_nil)
    (pss_one (ps_if (pt_val (pe_cal (c_is_kept (P := P) (w := w) (K := K) (mg := mg) (base := base) T) (hr.mono (by omega)) (by rfl) (pa_cons (pv 6) (pa_cons (pv 1) (pa_cons (pv 2) (pa_cons (pv 3) pa_nil)))))) (pss_one (ps_expr (pe_bm PySem.F.plainAttrs_list PySem.F.slot_list_append PySem.F.type_list_append mt_append (pv 4) (pa_cons (pv 6) pa_nil)))) pss_nil)))))
    (pss_one (ps_ret (pv 4))))), fun ds d hR => by
    obtain ⟨l, v, s, L, rfl, hv, hL, hn, rfl⟩ := hR
    have hsL := hL.sq (by decide) (by decide)
    refine ws_seq (ws_newO ?_)
    walk_at "d"
    intro a ha
    refine ws_seq (ws_for (wi_enum ?_))
    walk_at "d"
    refine ⟨fun i ρ β => ∃ s5 s6 s7 : Slot, ρ = [.dat (plD l), .dat (.int (aw v)), .dat (qd L), .dat (.int (sw s)), .raw (.ref a), s5, s6, s7] ∧ β = [(a, .lst ((outs v s L (lastP l) (l.take i)).map ptD))], ⟨_, _, _, rfl, rfl⟩, ?_, ?_⟩
    · rintro i d ρ' β' hd ⟨s5, s6, s7, rfl, rfl⟩
      obtain ⟨x, hx, rfl⟩ := enD_get hd
      obtain ⟨q, hq, rfl⟩ : ∃ q, l[i]? = some q ∧ x = ptD q := by
        rw [List.getElem?_map] at hx
        cases h : l[i]? with
        | none => rw [h] at hx; cases hx
        | some q => rw [h] at hx; exact ⟨q, rfl, (Option.some.inj hx).symm⟩
      have hvq := hv q (List.mem_of_getElem? hq)
      have hah := at_ahead hq
      have hva := hv _ (ahead_mem hq)
      have htk := outs_take (v := v) (s := s) (L := L) (p := lastP l) hq
      generalize lastD (lastP l) (l.take i) = p at *
      have hlen := outs_len (v := v) (s := s) (L := L) (l := l.take i) (p := lastP l)
      rw [List.length_take] at hlen
      generalize outs v s L (lastP l) (l.take i) = acc at *
      walk_at "d"
      refine ⟨_, r2_ixXL hah, ?_⟩
      walk_at "d"
      refine ⟨_, ⟨p, v, s, L, rfl, hva.sx, hva.sy, hsL, rfl⟩, ?_⟩
      walk_at "d"
      refine ⟨_, ⟨q, v, s, L, rfl, hvq.sx, hvq.sy, hsL, rfl⟩, _, r2_neB, ?_⟩
      walk_at "d"
      have hlen2 : acc.length ≤ 20000 := by omega
      refine ⟨fun h => ?_, fun h => ?_⟩
      · have h : ¬ kept v s L p = kept v s L q := by simpa using h
        refine ws_appO (j := 0) rfl ⟨_, rfl⟩ ?_
        walk_at "d"
        refine ⟨_, ⟨p, q, v, L, rfl, hva, hvq, hL, co_ne h, rfl⟩, ?_⟩
        refine ⟨_, rfl, Nat.lt_of_le_of_lt (show (acc.map ptD).length ≤ 30000 by simp; omega) (by decide), ?_⟩
        walk_at "d"
        refine ⟨_, ⟨q, v, s, L, rfl, hvq.sx, hvq.sy, hsL, rfl⟩, ?_⟩
        walk_at "d"
        refine ⟨fun k => ?_, fun k => ?_⟩
        · refine ws_appO (j := 0) rfl ⟨_, rfl⟩ ?_
          walk_at "d"
          refine ⟨Nat.lt_of_le_of_lt (show (acc.map ptD ++ [ptD (sect v L p q)]).length ≤ 30000 by simp [hlen2]; omega) (by decide), _, _, _, rfl, ?_⟩
          rw [htk]
          show [(a, Oc.lst (acc.map ptD ++ [ptD (sect v L p q)] ++ [ptD q]))] = _
          cases kp : kept v s L p <;> rw [kp, k] at h <;> first | exact absurd h (by decide) | (simp [out, kp, k]; done)
        · walk_at "d"
          refine ⟨_, _, _, rfl, ?_⟩
          rw [htk]
          cases kp : kept v s L p <;> rw [kp, k] at h <;> first | exact absurd h (by decide) | (simp [out, kp, k]; done)
      · have h : kept v s L p = kept v s L q := by simpa using h
        walk_at "d"
        refine ⟨_, ⟨q, v, s, L, rfl, hvq.sx, hvq.sy, hsL, rfl⟩, ?_⟩
        walk_at "d"
        refine ⟨fun k => ?_, fun k => ?_⟩
        · refine ws_appO (j := 0) rfl ⟨_, rfl⟩ ?_
          walk_at "d"
          refine ⟨Nat.lt_of_le_of_lt (show (acc.map ptD).length ≤ 30000 by simp [hlen2]; omega) (by decide), _, _, _, rfl, ?_⟩
          rw [htk]
          show [(a, Oc.lst (acc.map ptD ++ [ptD q]))] = _
          cases kp : kept v s L p <;> rw [kp, k] at h <;> first | exact absurd h (by decide) | (simp [out, kp, k]; done)
        · walk_at "d"
          refine ⟨_, _, _, rfl, ?_⟩
          rw [htk]
          cases kp : kept v s L p <;> rw [kp, k] at h <;> first | exact absurd h (by decide) | (simp [out, kp, k]; done)
    · rintro ρ' β' ⟨s5, s6, s7, rfl, rfl⟩
      rw [show (enD (l.map ptD)).length = l.length by rw [enD_len, List.length_map], List.take_length]
      refine ws_frz (i := 4) (j := 0) rfl rfl (by simp) ?_
      walk_at "d"
      rfl⟩
end K84

set_option Elab.async false
set_option linter.all false
set_option maxRecDepth 100000
set_option pp.deepTerms false
set_option pp.deepTerms.threshold 6
set_option maxHeartbeats 4000000
namespace K84
open PySem PySem.Spec PyProof.Rows L2 DS
open G84 (Pt co setc kept sect out outs lastP lastD cut cyc ps cross)
open K77 (Bd)
-- the steps that need no thought: one, as many as there are
local macro_rules | `(tactic| walk_at "d1") => `(tactic| with_reducible first
  | refine ws_seq ?_ | refine ws_next ?_ | refine ws_retN ?_ | refine ws_ret ?_ | refine ws_if ?_ | refine ws_par ?_ | refine ws_setK ?_ | refine ws_newD ?_ | refine wp_cons ?_ | refine wp_nil ?_ | refine ws_set ?_ | refine ws_star ?_ | refine ws_setO rfl ?_ | apply ws_asg
  | refine we_var rfl ?_ | refine we_int ?_ | refine we_bl ?_ | refine we_str ?_ | refine we_non ?_ | refine we_kd ?_ | refine we_ixO rfl ?_
  | refine we_isi isg_int ?_ | refine we_isi isg_bool ?_ | refine we_isi isg_str ?_ | refine we_isi isg_list ?_ | refine we_isi isg_tuple ?_ | refine we_isi2 isg_list isg_tuple ?_ | refine we_isi2 isg_int isg_tuple ?_
  | refine we_inK ?_ | refine we_ixK ?_ | refine we_op ?_ | refine we_un ?_ | refine we_cb ?_ | refine we_tup ?_ | refine we_lst ?_ | refine we_andV ?_ | refine we_orV ?_ | refine we_notV ?_ | refine we_if ?_ | refine we_chain ?_ | refine we_sl ?_ | refine we_call ?_
  | refine wa_nil ?_ | refine wa_cons ?_ | refine wo_none ?_ | refine wo_some ?_ | refine wt_test ?_ | refine wt_B ?_ | refine wt_and ?_ | refine wt_or ?_ | refine wt_not ?_
  | refine wg_tup rfl ?_ | refine wgs_cons ?_ | refine wgs_nil ?_ | refine wg_name ?_
  | refine ⟨_, r2_int, ?_⟩ | refine ⟨_, r2_bl, ?_⟩ | refine ⟨_, r2_addI, ?_⟩ | refine ⟨_, r2_eqI, ?_⟩ | refine ⟨_, r2_neI, ?_⟩ | refine ⟨_, r2_eqS, ?_⟩ | refine ⟨_, r2_neS, ?_⟩ | refine ⟨_, r2_isN, ?_⟩ | refine ⟨_, r1_neg, ?_⟩
  | refine ⟨_, rc_absI, ?_⟩ | refine ⟨_, rc_intI, ?_⟩ | refine ⟨_, rc_intB, ?_⟩ | refine ⟨_, rc_max, ?_⟩ | refine ⟨_, rc_min, ?_⟩ | refine ⟨_, rc_lenL, ?_⟩ | refine ⟨_, rc_lenT, ?_⟩ | refine ⟨_, rc_listL, ?_⟩ | refine ⟨_, rc_listT, ?_⟩ | refine ⟨_, rc_tupL, ?_⟩ | refine ⟨_, rc_tupT, ?_⟩
  | refine ⟨_, rfl, ?_⟩ | refine ⟨_, _, rfl, ?_⟩ | refine ⟨_, ⟨_, rfl, rfl⟩, ?_⟩ | refine ⟨_, ⟨_, _, rfl, rfl⟩, ?_⟩)
local macro_rules | `(tactic| walk_at "d") => `(tactic| repeat (first | walk_at "d1" | refine ⟨lenOk rfl, ?_⟩ | refine ⟨0, _, _, _, rfl, rfl, rfl, ?_⟩ | refine ⟨_, r2_ixXL rfl, ?_⟩ | refine ⟨_, r2_ixXT rfl, ?_⟩ | refine ⟨_, r2_ixXT at0, ?_⟩ | refine ⟨_, r2_ixXT at1, ?_⟩ | refine ⟨_, r2_ixXL at0, ?_⟩ | refine ⟨_, r2_ixXL at1, ?_⟩))
-- a condition whose truth comes out by computation
local macro_rules | `(tactic| walk_at "b1") => `(tactic| first
  | refine ⟨fun _ => ?_, fun h => Bool.noConfusion (show true = false from h)⟩
  | refine ⟨fun h => Bool.noConfusion (show false = true from h), fun _ => ?_⟩)
local macro_rules | `(tactic| walk_at "db") => `(tactic| repeat (first | walk_at "d1" | refine ⟨lenOk rfl, ?_⟩ | refine ⟨0, _, _, _, rfl, rfl, rfl, ?_⟩ | refine ⟨_, r2_ixXL rfl, ?_⟩ | refine ⟨_, r2_ixXT rfl, ?_⟩ | refine ⟨_, r2_ixXT at0, ?_⟩ | refine ⟨_, r2_ixXT at1, ?_⟩ | refine ⟨_, r2_ixXL at0, ?_⟩ | refine ⟨_, r2_ixXL at1, ?_⟩ | walk_at "b1"))
-- how many arguments there are
local macro_rules | `(tactic| walk_at "len") => `(tactic| (intro _ _ h; first
  | (obtain ⟨_, e, _⟩ := h; subst e; rfl) | (obtain ⟨_, _, e, _⟩ := h; subst e; rfl) | (obtain ⟨_, _, _, e, _⟩ := h; subst e; rfl) | (obtain ⟨_, _, _, _, e, _⟩ := h; subst e; rfl) | (obtain ⟨_, _, _, _, _, e, _⟩ := h; subst e; rfl)))
local macro_rules | `(tactic| walk_at "leno") => `(tactic| (intro _ _ h; first
  | (obtain ⟨⟨_, e, _⟩, _⟩ := h; subst e; rfl) | (obtain ⟨⟨_, _, e, _⟩, _⟩ := h; subst e; rfl) | (obtain ⟨e, _⟩ := h; subst e; rfl) | (obtain ⟨_, e, _⟩ := h; subst e; rfl) | (obtain ⟨_, _, e, _⟩ := h; subst e; rfl) | (obtain ⟨_, _, _, e, _⟩ := h; subst e; rfl) | (obtain ⟨_, _, _, _, e, _⟩ := h; subst e; rfl)))

variable {P : Program} {w : World} {K : PySem.W.Frag} {mg : Str → Option Value} {base : Heap}
/-! ### between_lines -/
def r64 (c : Int) : Rat := ((64 * c : Int) : Rat)
theorem r64_ok {c : Int} (h : c.natAbs ≤ 10000) : Fq 0 20 (r64 c) := Fq.int (by have : (2 : Nat) ^ 20 = 1048576 := by decide
                                                                                omega)
theorem bd_of {n : Nat} {i : Int} (h : i.natAbs ≤ 100000) (l : 20 ≤ n := by decide) : Bd n i := Bd.mono (m := 20) (by unfold Bd; have : (2 : Nat) ^ 20 = 1048576 := by decide
                                                                                                                      omega) l
def btw (v : Bool) (c : Int) (l : List Pt) : List Pt := cut v false (r64 (c + 1)) (cut v true (r64 c) l)
abbrev R_between (ds : List PyData) (d : PyData) : Prop := ∃ (l : List Pt) (v : Bool) (c : Int), ds = [plD l, .int (aw v), .int c] ∧ c.natAbs ≤ 5000 ∧ (∀ p ∈ l, Vok p) ∧ (∀ p ∈ cut v true (r64 c) l, Vok p) ∧ l.length ≤ 1000 ∧ d = plD (btw v c l)
theorem c_between_lines (T : Top K w mg) : Cal P w K mg base "between_lines" 7 p_between_lines (spP K R_between) :=
  T.h_between_lines.call (fun _ _ _ _ _ _ us hl => match us, hl with | [_, _, _], _ => rfl) fun f fd F m => fn_pure F sc_between_lines (by walk_at "len") fun cdv A outer s H E hr => ⟨_, (pss_one (ps_ret (pe_cal (c_cut_off (P := P) (w := w) (K := K) (mg := mg) (base := base) T) (hr.mono (by omega)) (by rfl) (pa_cons (pe_cal (c_cut_off (P := P) (w := w) (K := K) (mg := mg) (base := base) T) (hr.mono (by omega)) (by rfl) (pa_cons (pv 0) (pa_cons (pv 1) (pa_cons (pe_op op_mulW (pe_KK (K := K) rfl T.k_CELL (by rfl)) (pv 2)) (pa_cons pe_int pa_nil))))) (pa_cons (pv 1) (pa_cons (pe_op op_mulW (pe_KK (K := K) rfl T.k_CELL (by rfl)) (pe_op (op_addXK (K := K) rfl) (pv 2) pe_int)) (pa_cons (pe_un un_neg pe_int) pa_nil))))))), fun ds d hR => by
    obtain ⟨l, v, c, rfl, hc, h1, h2, hn, rfl⟩ := hR
    walk_at "d"
    refine ⟨_, r2_intC (mulOk (m := 19) (n := 19) (bd_of (by decide)) (bd_of (by omega))), ?_⟩
    walk_at "d"
    refine ⟨_, ⟨l, v, true, r64 c, rfl, h1, r64_ok (by omega), by omega, rfl⟩, ?_⟩
    walk_at "d"
    refine ⟨_, r2_intC (mulOk (m := 19) (n := 19) (bd_of (by decide)) (bd_of (by omega))), ?_⟩
    walk_at "d"
    have := cut_len (v := v) (s := true) (L := r64 c) (l := l)
    exact ⟨_, ⟨_, v, false, r64 (c + 1), rfl, h2, r64_ok (by omega), by omega, rfl⟩, rfl⟩⟩
/-! ### share_of -/
/-- a polygon whose places have one base -/
structure Pl (D : Nat) (l : List Pt) : Prop where
  h0 : D ≠ 0
  h1 : D ≤ 2 ^ 500
  x : ∀ p ∈ l, Dv D p.1 ∧ Ab (2 ^ 50) p.1
  y : ∀ p ∈ l, Dv D p.2 ∧ Ab (2 ^ 50) p.2
theorem Pl.v {D : Nat} {l : List Pt} (h : Pl D l) : ∀ p ∈ l, Vok p := fun p hp => ⟨Fq.of h.h0 h.h1 (h.x p hp).1 (h.x p hp).2, Fq.of h.h0 h.h1 (h.y p hp).1 (h.y p hp).2⟩
theorem cross_ok {D : Nat} {l : List Pt} (h : Pl D l) {p q : Pt} (hp : p ∈ l) (hq : q ∈ l) : Dv (D * D) (cross p q) ∧ Ab (2 ^ 101) (cross p q) := by
  unfold cross
  refine ⟨((h.x p hp).1.mul (h.y q hq).1).sub ((h.y p hp).1.mul (h.x q hq).1), ?_⟩
  exact (((h.x p hp).2.mul (h.y q hq).2).sub ((h.y p hp).2.mul (h.x q hq).2)).mono (by decide)
theorem ps_take {h : Pt → Pt → Rat} {l : List Pt} {p : Pt} {i : Nat} {q : Pt} (e : l[i]? = some q) : ps h p (l.take (i + 1)) = ps h p (l.take i) + h (lastD p (l.take i)) q := by
  rw [List.take_add_one, e, G84.ps_app]
  simp [ps]
  grind
theorem part_ok {D : Nat} {l : List Pt} (h : Pl D l) : ∀ i, i ≤ l.length → Dv (D * D) (ps cross (lastP l) (l.take i)) ∧ Ab (i * 2 ^ 101) (ps cross (lastP l) (l.take i))
  | 0, _ => by
    simp only [List.take_zero, ps]
    exact ⟨Dv.int (D * D) 0, Ab.int (i := 0) (by simp)⟩
  | i + 1, hi => by
    have e : l[i]? = some l[i] := List.getElem?_eq_getElem (by omega)
    obtain ⟨h1, h2⟩ := part_ok h i (by omega)
    obtain ⟨h3, h4⟩ := cross_ok h (ahead_mem e) (List.mem_of_getElem? e)
    rw [ps_take e]
    exact ⟨h1.add h3, (h2.add h4).mono (by rw [Nat.add_mul]; omega)⟩
theorem part_fq {D : Nat} {l : List Pt} (h : Pl D l) (hn : l.length ≤ 10000) (i : Nat) (hi : i ≤ l.length) : Fq 1000 120 (ps cross (lastP l) (l.take i)) := by
  obtain ⟨h1, h2⟩ := part_ok h i hi
  refine Fq.of (Nat.mul_ne_zero h.h0 h.h0) (Nat.le_trans (Nat.mul_le_mul h.h1 h.h1) (by rw [← Nat.pow_add]; exact Nat.le_refl _)) h1 (h2.mono ?_)
  have : i * 2 ^ 101 ≤ 10000 * 2 ^ 101 := Nat.mul_le_mul (by omega) (Nat.le_refl _)
  exact Nat.le_trans this (by decide)
abbrev R_share_of (ds : List PyData) (d : PyData) : Prop := ∃ (l : List Pt) (D : Nat), ds = [plD l] ∧ Pl D l ∧ l.length ≤ 10000 ∧ d = qd (cyc cross l / 8192)
theorem c_share_of (T : Top K w mg) : Cal P w K mg base "share_of" 5 p_share_of (spP K R_share_of) :=
  T.h_share_of.call (fun _ _ _ _ _ _ us hl => match us, hl with | [_], _ => rfl) fun f fd F m => fn_pure F sc_share_of (by walk_at "len") fun cdv A outer s H E hr => ⟨_, (pss_cons (ps_set (i := 1) sc_share_of.nd rfl (.inl rfl) pe_int)
    (pss_cons (ps_for PassesOwn.never rfl (pi_enumK (K := K) rfl (by rfl) T.m_enumerate (pa_cons (pv 0) pa_nil)) (pg_tupK (K := K) (n := 2) rfl (by rfl) (pgs_cons (pg_name (i := 2) sc_share_of.nd rfl (.inl rfl)) (pgs_cons (pg_tupK (K := K) (n := 2) rfl (by rfl) (pgs_cons (pg_name (i := 3) sc_share_of.nd rfl (.inl rfl)) (pgs_cons (pg_name (i := 4) sc_share_of.nd rfl (.inl rfl)) pgs_nil))) pgs_nil)))
    (pss_cons (ps_set (i := 5) sc_share_of.nd rfl (.inl rfl) (pe_ix (ix_XK (K := K) rfl) (pv 0) (pe_op op_sub (pv 2) pe_int) (fun _ _ => rfl)))
    (pss_one (ps_set (i := 1) sc_share_of.nd rfl (.inl rfl) (pe_cal (c_plus (P := P) (w := w) (K := K) (mg := mg) (base := base) T) (hr.mono (by omega)) (by rfl) (pa_cons (pv 1) (pa_cons (pe_cal (c_minus (P := P) (w := w) (K := K) (mg := mg) (base := base) T) (hr.mono (by omega)) (by rfl) (pa_cons (pe_cal (c_times (P := P) (w := w) (K := K) (mg := mg) (base := base) T) (hr.mono (by omega)) (by rfl) (pa_cons (pe_ix (ix_XK (K := K) rfl) (pv 5) pe_int (fun _ _ => rfl)) (pa_cons (pv 4) pa_nil))) (pa_cons (pe_cal (c_times (P := P) (w := w) (K := K) (mg := mg) (base := base) T) (hr.mono (by omega)) (by rfl) (pa_cons (pe_ix (ix_XK (K := K) rfl) (pv 5) pe_int (fun _ _ => rfl)) (pa_cons (pv 3) pa_nil))) pa_nil))) pa_nil)))))))
    (pss_one (ps_ret (pe_cal (c_over (P := P) (w := w) (K := K) (mg := mg) (base := base) T) (hr.mono (by omega)) (by rfl) (pa_cons (pv 1) (pa_cons (pe_KK (K := K) rfl T.k_TWICE (by rfl)) pa_nil))))))), fun ds d hR => by
    obtain ⟨l, D, rfl, hl, hn, rfl⟩ := hR
    walk_at "d"
    refine ws_for (wi_enum ?_)
    walk_at "d"
    refine ⟨fun i ρ β => ∃ s2 s3 s4 s5 : Slot, ρ = [.dat (plD l), .dat (qd (ps cross (lastP l) (l.take i))), s2, s3, s4, s5] ∧ β = [], ⟨_, _, _, _, rfl, rfl⟩, ?_, ?_⟩
    · rintro i d ρ' β' hd ⟨s2, s3, s4, s5, rfl, rfl⟩
      obtain ⟨x, hx, rfl⟩ := enD_get hd
      obtain ⟨q, hq, rfl⟩ : ∃ q, l[i]? = some q ∧ x = ptD q := by
        rw [List.getElem?_map] at hx
        cases h : l[i]? with
        | none => rw [h] at hx; cases hx
        | some q => rw [h] at hx; exact ⟨q, rfl, (Option.some.inj hx).symm⟩
      have hi : i < l.length := (List.getElem?_eq_some_iff.mp hq).1
      have hvq := hl.v q (List.mem_of_getElem? hq)
      have hah := at_ahead hq
      have hva := hl.v _ (ahead_mem hq)
      have htk := ps_take (h := cross) (p := lastP l) hq
      have hf := part_fq hl hn i (by omega)
      generalize lastD (lastP l) (l.take i) = p at *
      generalize ps cross (lastP l) (l.take i) = acc at *
      unfold ptD
      walk_at "d"
      refine ⟨_, r2_ixXL hah, ?_⟩
      unfold ptD
      walk_at "d"
      refine ⟨_, ⟨_, _, rfl, hva.sx, hvq.sy, rfl⟩, ?_⟩
      walk_at "d"
      refine ⟨_, ⟨_, _, rfl, hva.sy, hvq.sx, rfl⟩, ?_⟩
      walk_at "d"
      have m1 := hva.x.mul hvq.y
      have m2 := hva.y.mul hvq.x
      refine ⟨_, ⟨_, _, rfl, m1.sq (by decide) (by decide), m2.sq (by decide) (by decide), rfl⟩, ?_⟩
      walk_at "d"
      have m3 := m1.sub m2
      refine ⟨_, ⟨_, _, rfl, hf.sq (by decide) (by decide), m3.sq (by decide) (by decide), rfl⟩, ?_⟩
      refine ⟨.dat (.int (i : Nat)), .dat (qd q.1), .dat (qd q.2), .dat (ptD p), ?_, rfl⟩
      rw [htk]
      rfl
    · rintro ρ' β' ⟨s2, s3, s4, s5, rfl, rfl⟩
      have hf := part_fq hl hn l.length (Nat.le_refl _)
      rw [show (enD (l.map ptD)).length = l.length by rw [enD_len, List.length_map]]
      walk_at "d"
      have h2 : Fq 0 20 ((8192 : Int) : Rat) := Fq.int (by decide)
      refine ⟨_, ⟨_, ((8192 : Int) : Rat), rfl, hf.sq (by decide) (by decide), h2.sq (by decide) (by decide), h2.sv (by decide), by decide, rfl⟩, ?_⟩
      rw [List.take_length]
      rfl⟩
end K84

set_option Elab.async false
set_option linter.all false
set_option maxRecDepth 100000
set_option pp.deepTerms false
set_option pp.deepTerms.threshold 6
set_option maxHeartbeats 4000000
namespace K84
open PySem PySem.Spec PyProof.Rows L2 DS
open G84 (Pt co setc kept sect out outs lastP lastD cut cyc ps cross)
open K77 (Bd)
-- the steps that need no thought: one, as many as there are
local macro_rules | `(tactic| walk_at "d1") => `(tactic| with_reducible first
  | refine ws_seq ?_ | refine ws_next ?_ | refine ws_retN ?_ | refine ws_ret ?_ | refine ws_if ?_ | refine ws_par ?_ | refine ws_setK ?_ | refine ws_newD ?_ | refine wp_cons ?_ | refine wp_nil ?_ | refine ws_set ?_ | refine ws_star ?_ | refine ws_setO rfl ?_ | apply ws_asg
  | refine we_var rfl ?_ | refine we_int ?_ | refine we_bl ?_ | refine we_str ?_ | refine we_non ?_ | refine we_kd ?_ | refine we_ixO rfl ?_
  | refine we_isi isg_int ?_ | refine we_isi isg_bool ?_ | refine we_isi isg_str ?_ | refine we_isi isg_list ?_ | refine we_isi isg_tuple ?_ | refine we_isi2 isg_list isg_tuple ?_ | refine we_isi2 isg_int isg_tuple ?_
  | refine we_inK ?_ | refine we_ixK ?_ | refine we_op ?_ | refine we_un ?_ | refine we_cb ?_ | refine we_tup ?_ | refine we_lst ?_ | refine we_andV ?_ | refine we_orV ?_ | refine we_notV ?_ | refine we_if ?_ | refine we_chain ?_ | refine we_sl ?_ | refine we_call ?_ | refine we_callD ?_ | refine we_rev ?_
  | refine wa_nil ?_ | refine wa_cons ?_ | refine wo_none ?_ | refine wo_some ?_ | refine wt_test ?_ | refine wt_B ?_ | refine wt_and ?_ | refine wt_or ?_ | refine wt_not ?_
  | refine wg_tup rfl ?_ | refine wgs_cons ?_ | refine wgs_nil ?_ | refine wg_name ?_
  | refine ⟨_, r2_int, ?_⟩ | refine ⟨_, r2_bl, ?_⟩ | refine ⟨_, r2_addI, ?_⟩ | refine ⟨_, r2_eqI, ?_⟩ | refine ⟨_, r2_neI, ?_⟩ | refine ⟨_, r2_eqS, ?_⟩ | refine ⟨_, r2_neS, ?_⟩ | refine ⟨_, r2_isN, ?_⟩ | refine ⟨_, r1_neg, ?_⟩
  | refine ⟨_, rc_absI, ?_⟩ | refine ⟨_, rc_intI, ?_⟩ | refine ⟨_, rc_intB, ?_⟩ | refine ⟨_, rc_max, ?_⟩ | refine ⟨_, rc_min, ?_⟩ | refine ⟨_, rc_lenL, ?_⟩ | refine ⟨_, rc_lenT, ?_⟩ | refine ⟨_, rc_listL, ?_⟩ | refine ⟨_, rc_listT, ?_⟩ | refine ⟨_, rc_tupL, ?_⟩ | refine ⟨_, rc_tupT, ?_⟩
  | refine ⟨_, rfl, ?_⟩ | refine ⟨_, _, rfl, ?_⟩ | refine ⟨_, ⟨_, rfl, rfl⟩, ?_⟩ | refine ⟨_, ⟨_, _, rfl, rfl⟩, ?_⟩)
local macro_rules | `(tactic| walk_at "d") => `(tactic| repeat (first | walk_at "d1" | refine ⟨lenOk rfl, ?_⟩ | refine ⟨0, _, _, _, rfl, rfl, rfl, ?_⟩ | refine ⟨_, r2_ixXL rfl, ?_⟩ | refine ⟨_, r2_ixXT rfl, ?_⟩ | refine ⟨_, r2_ixXT at0, ?_⟩ | refine ⟨_, r2_ixXT at1, ?_⟩ | refine ⟨_, r2_ixXL at0, ?_⟩ | refine ⟨_, r2_ixXL at1, ?_⟩))
-- a condition whose truth comes out by computation
local macro_rules | `(tactic| walk_at "b1") => `(tactic| first
  | refine ⟨fun _ => ?_, fun h => Bool.noConfusion (show true = false from h)⟩
  | refine ⟨fun h => Bool.noConfusion (show false = true from h), fun _ => ?_⟩)
local macro_rules | `(tactic| walk_at "db") => `(tactic| repeat (first | walk_at "d1" | refine ⟨lenOk rfl, ?_⟩ | refine ⟨0, _, _, _, rfl, rfl, rfl, ?_⟩ | refine ⟨_, r2_ixXL rfl, ?_⟩ | refine ⟨_, r2_ixXT rfl, ?_⟩ | refine ⟨_, r2_ixXT at0, ?_⟩ | refine ⟨_, r2_ixXT at1, ?_⟩ | refine ⟨_, r2_ixXL at0, ?_⟩ | refine ⟨_, r2_ixXL at1, ?_⟩ | walk_at "b1"))
-- how many arguments there are
local macro_rules | `(tactic| walk_at "len") => `(tactic| (intro _ _ h; first
  | (obtain ⟨_, e, _⟩ := h; subst e; rfl) | (obtain ⟨_, _, e, _⟩ := h; subst e; rfl) | (obtain ⟨_, _, _, e, _⟩ := h; subst e; rfl) | (obtain ⟨_, _, _, _, e, _⟩ := h; subst e; rfl) | (obtain ⟨_, _, _, _, _, e, _⟩ := h; subst e; rfl)))
local macro_rules | `(tactic| walk_at "leno") => `(tactic| (intro _ _ h; first
  | (obtain ⟨⟨_, e, _⟩, _⟩ := h; subst e; rfl) | (obtain ⟨⟨_, _, e, _⟩, _⟩ := h; subst e; rfl) | (obtain ⟨e, _⟩ := h; subst e; rfl) | (obtain ⟨_, e, _⟩ := h; subst e; rfl) | (obtain ⟨_, _, e, _⟩ := h; subst e; rfl) | (obtain ⟨_, _, _, e, _⟩ := h; subst e; rfl) | (obtain ⟨_, _, _, _, e, _⟩ := h; subst e; rfl)))

variable {P : Program} {w : World} {K : PySem.W.Frag} {mg : Str → Option Value} {base : Heap}
/-! ### the least, the greatest -/
def minI : List Int → Int
  | [] => 0
  | [a] => a
  | a :: r => min a (minI r)
def maxI : List Int → Int
  | [] => 0
  | [a] => a
  | a :: r => max a (maxI r)
theorem minI_ok : ∀ {l : List Int}, l ≠ [] → minI l ∈ l ∧ ∀ y ∈ l, minI l ≤ y
  | [], h => absurd rfl h
  | [a], _ => by simp [minI]
  | a :: b :: r, _ => by
    obtain ⟨h1, h2⟩ := minI_ok (l := b :: r) (by simp)
    have e : minI (a :: b :: r) = min a (minI (b :: r)) := rfl
    rw [e]
    refine ⟨?_, fun y hy => ?_⟩
    · by_cases h : a ≤ minI (b :: r)
      · rw [Int.min_eq_left h]; simp
      · rw [Int.min_eq_right (by omega)]; exact List.mem_cons_of_mem _ h1
    · rcases List.mem_cons.mp hy with rfl | hy
      · omega
      · have := h2 y hy; omega
theorem maxI_ok : ∀ {l : List Int}, l ≠ [] → maxI l ∈ l ∧ ∀ y ∈ l, y ≤ maxI l
  | [], h => absurd rfl h
  | [a], _ => by simp [maxI]
  | a :: b :: r, _ => by
    obtain ⟨h1, h2⟩ := maxI_ok (l := b :: r) (by simp)
    have e : maxI (a :: b :: r) = max a (maxI (b :: r)) := rfl
    rw [e]
    refine ⟨?_, fun y hy => ?_⟩
    · by_cases h : maxI (b :: r) ≤ a
      · rw [Int.max_eq_left h]; simp
      · rw [Int.max_eq_right (by omega)]; exact List.mem_cons_of_mem _ h1
    · rcases List.mem_cons.mp hy with rfl | hy
      · omega
      · have := h2 y hy; omega
/-! ### cell_range -/
def fl (q : Rat) : Int := (q / 64).floor
def ce (q : Rat) : Int := 0 - (q * (-1) / 64).floor
def rlo (qs : List Rat) : Int := minI (qs.map fl)
def rhi (qs : List Rat) : Int := maxI (qs.map ce)
def rgD (qs : List Rat) : PyData := .tuple [.int (rlo qs), .int (rhi qs)]
theorem cell64 : Fq 0 20 ((64 : Int) : Rat) := Fq.int (by decide)
theorem Fq.bd {n m : Nat} {q : Rat} (h : Fq n m q) (e1 : n < 4000) (e2 : m + n < 4000) : Bd 4000 q.num ∧ Bd 4000 q.den := by
  refine ⟨Nat.lt_of_le_of_lt h.num (Nat.pow_lt_pow_right (by decide) e2), ?_⟩
  have := h.den
  have h2 : 2 ^ n < 2 ^ 4000 := Nat.pow_lt_pow_right (by decide) e1
  unfold Bd
  omega
abbrev R_cell_range (ds : List PyData) (d : PyData) : Prop := ∃ qs : List Rat, ds = [.list (qs.map qd)] ∧ qs ≠ [] ∧ (∀ q ∈ qs, Fq 500 50 q) ∧ qs.length ≤ 10000 ∧ d = rgD qs
theorem get_map {α : Type} {f : α → PyData} {l : List α} {i : Nat} {d : PyData} (h : (l.map f)[i]? = some d) : ∃ x, l[i]? = some x ∧ d = f x := by
  rw [List.getElem?_map] at h
  cases e : l[i]? with
  | none => rw [e] at h; cases h
  | some x => rw [e] at h; exact ⟨x, rfl, (Option.some.inj h).symm⟩
theorem line10 {n : Nat} (h : n ≤ 100000) : n ≤ sizeLine := Nat.le_trans h (by decide)
theorem c_cell_range (T : Top K w mg) : Cal P w K mg base "cell_range" 6 p_cell_range (spP K R_cell_range) :=
  T.h_cell_range.call (fun _ _ _ _ _ _ us hl => match us, hl with | [_], _ => rfl) fun f fd F m => fn_pure F sc_cell_range (by walk_at "len") fun cdv A outer s H E hr => ⟨_, (pss_cons (ps_setLc (i := 1) (own := [("number", 3)]) (g := gName 3) rfl sc_cell_range.nd rfl rfl (sw_true rfl rfl rfl (by decide +kernel)) (pi_XK (K := K) rfl (pv 0))
      (blkOk_by (own := [("number", 3)]) (N := N_cell_range) (sc := defScope s_cell_range) (by decide +kernel)) (fun _ _ _ _ _ => pg_name (i := 3) sc_cell_range.nd rfl (Or.inl rfl))
      (fun _ _ _ _ _ => pts_nil) (fun _ _ _ _ _ => (pe_calD (cd_floor_of (P := P) (w := w) (K := K) (mg := mg) (base := base) T) (hr.mono (by omega)) (by rfl) (pa_cons (pe_cal (c_over (P := P) (w := w) (K := K) (mg := mg) (base := base) T) (hr.mono (by omega)) (by rfl) (pa_cons (pv 3) (pa_cons (pe_KK (K := K) rfl T.k_CELL (by rfl)) pa_nil))) pa_nil))))
    (pss_cons (ps_setLc (i := 2) (own := [("number", 3)]) (g := gName 3) rfl sc_cell_range.nd rfl rfl (sw_true rfl rfl rfl (by decide +kernel)) (pi_XK (K := K) rfl (pv 0))
      (blkOk_by (own := [("number", 3)]) (N := N_cell_range) (sc := defScope s_cell_range) (by decide +kernel)) (fun _ _ _ _ _ => pg_name (i := 3) sc_cell_range.nd rfl (Or.inl rfl))
      (fun _ _ _ _ _ => pts_nil) (fun _ _ _ _ _ => (pe_op op_sub pe_int (pe_calD (cd_floor_of (P := P) (w := w) (K := K) (mg := mg) (base := base) T) (hr.mono (by omega)) (by rfl) (pa_cons (pe_cal (c_over (P := P) (w := w) (K := K) (mg := mg) (base := base) T) (hr.mono (by omega)) (by rfl) (pa_cons (pe_cal (c_times (P := P) (w := w) (K := K) (mg := mg) (base := base) T) (hr.mono (by omega)) (by rfl) (pa_cons (pv 3) (pa_cons (pe_un un_neg pe_int) pa_nil))) (pa_cons (pe_KK (K := K) rfl T.k_CELL (by rfl)) pa_nil))) pa_nil)))))
    (pss_one (ps_ret (pe_tup (pa_cons (pe_callB (cr_minL (K := K) rfl rfl) (by rfl) T.m_min (by decide +kernel) (pa_cons (pv 1) pa_nil)) (pa_cons (pe_callB (cr_maxL (K := K) rfl rfl) (by rfl) T.m_max (by decide +kernel) (pa_cons (pv 2) pa_nil)) pa_nil))))))), fun ds d hR => by
    obtain ⟨qs, rfl, hne, hq, hn, rfl⟩ := hR
    have h64 := cell64
    have hm1 : Fq 0 20 ((-1 : Int) : Rat) := Fq.int (by decide)
    refine ws_seq (ws_set ?_)
    refine we_lc_ix (tg := [3]) (by decide) (wi_X (we_var rfl ⟨_, .inl rfl, (qs.map fl).map .int, line10 (by rw [List.length_map]; omega), by simp, ?_, ?_⟩))
    · intro i d y hd hy
      obtain ⟨q, e1, rfl⟩ := get_map hd
      obtain ⟨z, e2, rfl⟩ := get_map hy
      rw [List.getElem?_map, e1] at e2
      cases e2
      have hf := hq q (List.mem_of_getElem? e1)
      refine wgc_name ?_
      walk_at "d"
      refine ⟨_, ⟨_, _, rfl, hf.sq (by decide) (by decide), h64.sq (by decide) (by decide), h64.sv (by decide), by decide, rfl⟩, ?_⟩
      have hd := hf.div h64 (by decide)
      have hb := hd.bd (by decide) (by decide)
      walk_at "d"
      exact ⟨_, ⟨_, rfl, hb.1, hb.2, rfl⟩, rfl, rfl⟩
    refine ws_seq (ws_set ?_)
    refine we_lc_ix (tg := [3]) (by decide) (wi_X (we_var rfl ⟨_, .inl rfl, (qs.map ce).map .int, line10 (by rw [List.length_map]; omega), by simp, ?_, ?_⟩))
    · intro i d y hd hy
      obtain ⟨q, e1, rfl⟩ := get_map hd
      obtain ⟨z, e2, rfl⟩ := get_map hy
      rw [List.getElem?_map, e1] at e2
      cases e2
      have hf := hq q (List.mem_of_getElem? e1)
      refine wgc_name ?_
      walk_at "d"
      refine ⟨_, ⟨_, ((-1 : Int) : Rat), rfl, hf.sq (by decide) (by decide), hm1.sq (by decide) (by decide), rfl⟩, ?_⟩
      walk_at "d"
      have hf1 := hf.mul hm1
      refine ⟨_, ⟨_, _, rfl, hf1.sq (by decide) (by decide), h64.sq (by decide) (by decide), h64.sv (by decide), by decide, rfl⟩, ?_⟩
      have hd := hf1.div h64 (by decide)
      have hb := hd.bd (by decide) (by decide)
      walk_at "d"
      refine ⟨_, ⟨_, rfl, hb.1, hb.2, rfl⟩, ?_⟩
      walk_at "d"
      exact ⟨rfl, rfl⟩
    have m1 := minI_ok (l := qs.map fl) (by simpa using hne)
    have m2 := maxI_ok (l := qs.map ce) (by simpa using hne)
    walk_at "d"
    refine ⟨_, rc_minL m1.1 m1.2, ?_⟩
    walk_at "d"
    refine ⟨_, rc_maxL m2.1 m2.2, ?_⟩
    walk_at "d"
    rfl⟩
end K84

set_option Elab.async false
set_option linter.all false
set_option maxRecDepth 100000
set_option pp.deepTerms false
set_option pp.deepTerms.threshold 6
set_option maxHeartbeats 4000000
namespace K84
open PySem PySem.Spec PyProof.Rows L2 DS
open G84 (Pt co setc kept sect out outs lastP lastD cut cyc ps cross)
open K77 (Bd)
-- the steps that need no thought: one, as many as there are
local macro_rules | `(tactic| walk_at "d1") => `(tactic| with_reducible first
  | refine ws_seq ?_ | refine ws_next ?_ | refine ws_retN ?_ | refine ws_ret ?_ | refine ws_if ?_ | refine ws_par ?_ | refine ws_setK ?_ | refine ws_newD ?_ | refine wp_cons ?_ | refine wp_nil ?_ | refine ws_set ?_ | refine ws_star ?_ | refine ws_setO rfl ?_ | apply ws_asg
  | refine we_var rfl ?_ | refine we_int ?_ | refine we_bl ?_ | refine we_str ?_ | refine we_non ?_ | refine we_kd ?_ | refine we_ixO rfl ?_
  | refine we_isi isg_int ?_ | refine we_isi isg_bool ?_ | refine we_isi isg_str ?_ | refine we_isi isg_list ?_ | refine we_isi isg_tuple ?_ | refine we_isi2 isg_list isg_tuple ?_ | refine we_isi2 isg_int isg_tuple ?_
  | refine we_inK ?_ | refine we_ixK ?_ | refine we_op ?_ | refine we_un ?_ | refine we_cb ?_ | refine we_tup ?_ | refine we_lst ?_ | refine we_andV ?_ | refine we_orV ?_ | refine we_notV ?_ | refine we_if ?_ | refine we_chain ?_ | refine we_sl ?_ | refine we_call ?_ | refine we_callD ?_ | refine we_rev ?_
  | refine wa_nil ?_ | refine wa_cons ?_ | refine wo_none ?_ | refine wo_some ?_ | refine wt_test ?_ | refine wt_B ?_ | refine wt_and ?_ | refine wt_or ?_ | refine wt_not ?_
  | refine wg_tup rfl ?_ | refine wgs_cons ?_ | refine wgs_nil ?_ | refine wg_name ?_
  | refine ⟨_, r2_int, ?_⟩ | refine ⟨_, r2_bl, ?_⟩ | refine ⟨_, r2_addI, ?_⟩ | refine ⟨_, r2_eqI, ?_⟩ | refine ⟨_, r2_neI, ?_⟩ | refine ⟨_, r2_eqS, ?_⟩ | refine ⟨_, r2_neS, ?_⟩ | refine ⟨_, r2_isN, ?_⟩ | refine ⟨_, r1_neg, ?_⟩
  | refine ⟨_, rc_absI, ?_⟩ | refine ⟨_, rc_intI, ?_⟩ | refine ⟨_, rc_intB, ?_⟩ | refine ⟨_, rc_max, ?_⟩ | refine ⟨_, rc_min, ?_⟩ | refine ⟨_, rc_lenL, ?_⟩ | refine ⟨_, rc_lenT, ?_⟩ | refine ⟨_, rc_listL, ?_⟩ | refine ⟨_, rc_listT, ?_⟩ | refine ⟨_, rc_tupL, ?_⟩ | refine ⟨_, rc_tupT, ?_⟩
  | refine ⟨_, rfl, ?_⟩ | refine ⟨_, _, rfl, ?_⟩ | refine ⟨_, ⟨_, rfl, rfl⟩, ?_⟩ | refine ⟨_, ⟨_, _, rfl, rfl⟩, ?_⟩)
local macro_rules | `(tactic| walk_at "d") => `(tactic| repeat (first | walk_at "d1" | refine ⟨lenOk rfl, ?_⟩ | refine ⟨0, _, _, _, rfl, rfl, rfl, ?_⟩ | refine ⟨_, r2_ixXL rfl, ?_⟩ | refine ⟨_, r2_ixXT rfl, ?_⟩ | refine ⟨_, r2_ixXT at0, ?_⟩ | refine ⟨_, r2_ixXT at1, ?_⟩ | refine ⟨_, r2_ixXL at0, ?_⟩ | refine ⟨_, r2_ixXL at1, ?_⟩))
-- a condition whose truth comes out by computation
local macro_rules | `(tactic| walk_at "b1") => `(tactic| first
  | refine ⟨fun _ => ?_, fun h => Bool.noConfusion (show true = false from h)⟩
  | refine ⟨fun h => Bool.noConfusion (show false = true from h), fun _ => ?_⟩)
local macro_rules | `(tactic| walk_at "db") => `(tactic| repeat (first | walk_at "d1" | refine ⟨lenOk rfl, ?_⟩ | refine ⟨0, _, _, _, rfl, rfl, rfl, ?_⟩ | refine ⟨_, r2_ixXL rfl, ?_⟩ | refine ⟨_, r2_ixXT rfl, ?_⟩ | refine ⟨_, r2_ixXT at0, ?_⟩ | refine ⟨_, r2_ixXT at1, ?_⟩ | refine ⟨_, r2_ixXL at0, ?_⟩ | refine ⟨_, r2_ixXL at1, ?_⟩ | walk_at "b1"))
-- how many arguments there are
local macro_rules | `(tactic| walk_at "len") => `(tactic| (intro _ _ h; first
  | (obtain ⟨_, e, _⟩ := h; subst e; rfl) | (obtain ⟨_, _, e, _⟩ := h; subst e; rfl) | (obtain ⟨_, _, _, e, _⟩ := h; subst e; rfl) | (obtain ⟨_, _, _, _, e, _⟩ := h; subst e; rfl) | (obtain ⟨_, _, _, _, _, e, _⟩ := h; subst e; rfl)))
local macro_rules | `(tactic| walk_at "leno") => `(tactic| (intro _ _ h; first
  | (obtain ⟨⟨_, e, _⟩, _⟩ := h; subst e; rfl) | (obtain ⟨⟨_, _, e, _⟩, _⟩ := h; subst e; rfl) | (obtain ⟨e, _⟩ := h; subst e; rfl) | (obtain ⟨_, e, _⟩ := h; subst e; rfl) | (obtain ⟨_, _, e, _⟩ := h; subst e; rfl) | (obtain ⟨_, _, _, e, _⟩ := h; subst e; rfl) | (obtain ⟨_, _, _, _, e, _⟩ := h; subst e; rfl)))

variable {P : Program} {w : World} {K : PySem.W.Frag} {mg : Str → Option Value} {base : Heap}
/-! ### box_of, need_box -/
def xsO (l : List Pt) : List Rat := l.map (·.1)
def ysO (l : List Pt) : List Rat := l.map (·.2)
structure Bxo (ps : List (List Pt)) : Prop where
  v : ∀ l ∈ ps, ∀ p ∈ l, Vok p
  ne : ps.flatten ≠ []
  n : ps.flatten.length ≤ 1000
  m : ps.length ≤ 1000
def boxD (ps : List (List Pt)) : PyData := .tuple [rgD (xsO ps.flatten), rgD (ysO ps.flatten)]
theorem Bxo.xs {ps : List (List Pt)} (h : Bxo ps) : ∃ ds, ds = [PyData.list ((ps.map fun l => l.map fun p => qd p.1).flatten)] ∧ R_cell_range ds (rgD (xsO ps.flatten)) := by
  refine ⟨_, rfl, xsO ps.flatten, ?_, ?_, ?_, ?_, rfl⟩
  · unfold xsO
    rw [List.map_map]
    have e : (ps.map fun l => l.map fun p : Pt => qd p.1).flatten = ps.flatten.map (fun p : Pt => qd p.1) := (List.map_flatten (f := fun p : Pt => qd p.1) (L := ps)).symm
    rw [e]
    rfl
  · intro z; exact h.ne (by simpa [xsO] using z)
  · intro q hq
    obtain ⟨p, hp, rfl⟩ := List.mem_map.mp hq
    obtain ⟨l, hl, hp⟩ := List.mem_flatten.mp hp
    exact (h.v l hl p hp).x
  · have := h.n; unfold xsO; rw [List.length_map]; omega
theorem Bxo.ys {ps : List (List Pt)} (h : Bxo ps) : ∃ ds, ds = [PyData.list ((ps.map fun l => l.map fun p => qd p.2).flatten)] ∧ R_cell_range ds (rgD (ysO ps.flatten)) := by
  refine ⟨_, rfl, ysO ps.flatten, ?_, ?_, ?_, ?_, rfl⟩
  · unfold ysO
    rw [List.map_map]
    have e : (ps.map fun l => l.map fun p : Pt => qd p.2).flatten = ps.flatten.map (fun p : Pt => qd p.2) := (List.map_flatten (f := fun p : Pt => qd p.2) (L := ps)).symm
    rw [e]
    rfl
  · intro z; exact h.ne (by simpa [ysO] using z)
  · intro q hq
    obtain ⟨p, hp, rfl⟩ := List.mem_map.mp hq
    obtain ⟨l, hl, hp⟩ := List.mem_flatten.mp hp
    exact (h.v l hl p hp).y
  · have := h.n; unfold ysO; rw [List.length_map]; omega
theorem flat_len {ps : List (List Pt)} {f : Pt → PyData} : (ps.map fun l => l.map f).flatten.length = ps.flatten.length := by
  rw [← List.map_flatten, List.length_map]
abbrev R_box_of (ds : List PyData) (d : PyData) : Prop := ∃ (ps : List (List Pt)) (x : PyData), ds = [x] ∧ Row (ps.map plD) x ∧ Bxo ps ∧ d = boxD ps
theorem c_box_of (T : Top K w mg) : Cal P w K mg base "box_of" 7 p_box_of (spP K R_box_of) :=
  T.h_box_of.call (fun _ _ _ _ _ _ us hl => match us, hl with | [_], _ => rfl) fun f fd F m => fn_pure F sc_box_of (by walk_at "len") fun cdv A outer s H E hr => ⟨_, (pss_cons (ps_set (i := 1) sc_box_of.nd rfl (.inl rfl) (pe_cal (c_cell_range (P := P) (w := w) (K := K) (mg := mg) (base := base) T) (hr.mono (by omega)) (by rfl) (pa_cons (pe_lc2 (own := [("part", 3), ("x", 4), ("y", 5)]) (vs1 := [4, 5]) (g := gName 3) (g1 := gTup K 2 (gCons (gName 4) (gCons (gName 5) gNil))) rfl sc_box_of.nd (pi_XK (K := K) rfl (pv 0))
      (blkOk_by (own := [("part", 3), ("x", 4), ("y", 5)]) (N := N_box_of) (sc := defScope s_box_of) (by decide +kernel)) (by decide) (fun _ _ _ _ _ => pg_name (i := 3) sc_box_of.nd rfl (Or.inl rfl))
      (fun _ _ _ _ _ => pts_nil) (fun _ _ _ _ _ => (pi_XK (K := K) rfl (pv 3))) (fun _ _ _ _ _ => pg_tupK (K := K) (n := 2) rfl (by rfl) (pgs_cons (pg_name (i := 4) sc_box_of.nd rfl (Or.inl rfl)) (pgs_cons (pg_name (i := 5) sc_box_of.nd rfl (Or.inl rfl)) pgs_nil))) (fun _ _ _ _ _ => pts_nil) (fun _ _ _ _ _ => (pv 4))) pa_nil)))
    (pss_cons (ps_set (i := 2) sc_box_of.nd rfl (.inl rfl) (pe_cal (c_cell_range (P := P) (w := w) (K := K) (mg := mg) (base := base) T) (hr.mono (by omega)) (by rfl) (pa_cons (pe_lc2 (own := [("part", 3), ("x", 4), ("y", 5)]) (vs1 := [4, 5]) (g := gName 3) (g1 := gTup K 2 (gCons (gName 4) (gCons (gName 5) gNil))) rfl sc_box_of.nd (pi_XK (K := K) rfl (pv 0))
      (blkOk_by (own := [("part", 3), ("x", 4), ("y", 5)]) (N := N_box_of) (sc := defScope s_box_of) (by decide +kernel)) (by decide) (fun _ _ _ _ _ => pg_name (i := 3) sc_box_of.nd rfl (Or.inl rfl))
      (fun _ _ _ _ _ => pts_nil) (fun _ _ _ _ _ => (pi_XK (K := K) rfl (pv 3))) (fun _ _ _ _ _ => pg_tupK (K := K) (n := 2) rfl (by rfl) (pgs_cons (pg_name (i := 4) sc_box_of.nd rfl (Or.inl rfl)) (pgs_cons (pg_name (i := 5) sc_box_of.nd rfl (Or.inl rfl)) pgs_nil))) (fun _ _ _ _ _ => pts_nil) (fun _ _ _ _ _ => (pv 5))) pa_nil)))
    (pss_one (ps_ret (pe_tup (pa_cons (pv 1) (pa_cons (pv 2) pa_nil))))))), fun ds d hR => by
    obtain ⟨ps, x, rfl, hx, hb, rfl⟩ := hR
    have hbn := hb.n
    refine ws_seq (ws_set ?_)
    refine we_call ?_
    refine wa_cons ?_
    refine we_lc2 (tg := [3]) (tg1 := [4, 5]) (by decide) (by decide) (wi_X (we_var rfl ⟨_, row_iter hx, ps.map (fun l => l.map fun p => qd p.1), by simp, by rw [flat_len]; omega, ?_, ?_⟩))
    · intro i d ys hd hy
      obtain ⟨l, e1, rfl⟩ := get_map hd
      rw [List.getElem?_map, e1] at hy
      cases hy
      refine wgc_name ?_
      refine wi_X (we_var rfl ⟨_, .inl rfl, rfl, by simp, fun j d1 y hd1 hy1 => ?_⟩)
      obtain ⟨p, e2, rfl⟩ := get_map hd1
      rw [List.getElem?_map, e2] at hy1
      cases hy1
      refine wgc_tup (tg := [4] ++ ([5] ++ [])) rfl (wgcs_cons (wgc_name (wgcs_cons (wgc_name (wgcs_nil ?_)))))
      exact we_var rfl ⟨rfl, rfl⟩
    refine wa_nil ?_
    obtain ⟨_, rfl, hc⟩ := hb.xs
    refine ⟨_, hc, ?_⟩
    refine ws_seq (ws_set ?_)
    refine we_call ?_
    refine wa_cons ?_
    refine we_lc2 (tg := [3]) (tg1 := [4, 5]) (by decide) (by decide) (wi_X (we_var rfl ⟨_, row_iter hx, ps.map (fun l => l.map fun p => qd p.2), by simp, by rw [flat_len]; omega, ?_, ?_⟩))
    · intro i d ys hd hy
      obtain ⟨l, e1, rfl⟩ := get_map hd
      rw [List.getElem?_map, e1] at hy
      cases hy
      refine wgc_name ?_
      refine wi_X (we_var rfl ⟨_, .inl rfl, rfl, by simp, fun j d1 y hd1 hy1 => ?_⟩)
      obtain ⟨p, e2, rfl⟩ := get_map hd1
      rw [List.getElem?_map, e2] at hy1
      cases hy1
      refine wgc_tup (tg := [4] ++ ([5] ++ [])) rfl (wgcs_cons (wgc_name (wgcs_cons (wgc_name (wgcs_nil ?_)))))
      exact we_var rfl ⟨rfl, rfl⟩
    refine wa_nil ?_
    obtain ⟨_, rfl, hc⟩ := hb.ys
    refine ⟨_, hc, ?_⟩
    walk_at "d"
    rfl⟩
structure Bxs (ps : List (List Pt)) : Prop where
  b : Bxo ps
  s : (rlo (xsO ps.flatten)).natAbs ≤ 1000 ∧ (rhi (xsO ps.flatten)).natAbs ≤ 1000 ∧ (rlo (ysO ps.flatten)).natAbs ≤ 1000 ∧ (rhi (ysO ps.flatten)).natAbs ≤ 1000
  m : (rhi (xsO ps.flatten) - rlo (xsO ps.flatten)) * (rhi (ysO ps.flatten) - rlo (ysO ps.flatten)) ≤ 2000
abbrev R_need_box (ds : List PyData) (d : PyData) : Prop := ∃ (ps : List (List Pt)) (x : PyData), ds = [x] ∧ Row (ps.map plD) x ∧ Bxs ps ∧ d = boxD ps
theorem c_need_box (T : Top K w mg) : Cal P w K mg base "need_box" 8 p_need_box (spP K R_need_box) :=
  T.h_need_box.call (fun _ _ _ _ _ _ us hl => match us, hl with | [_], _ => rfl) fun f fd F m => fn_pure F sc_need_box (by walk_at "len") fun cdv A outer s H E hr => ⟨_, (pss_cons (ps_asg (pe_cal (c_box_of (P := P) (w := w) (K := K) (mg := mg) (base := base) T) (hr.mono (by omega)) (by rfl) (pa_cons (pv 0) pa_nil)) (pg_tupK (K := K) (n := 2) rfl (by rfl) (pgs_cons (pg_name (i := 1) sc_need_box.nd rfl (.inl rfl)) (pgs_cons (pg_name (i := 2) sc_need_box.nd rfl (.inl rfl)) pgs_nil))))
    (pss_cons (ps_set (i := 3) sc_need_box.nd rfl (.inl rfl) (pe_op op_mulW (pe_op op_sub (pe_ix (ix_XK (K := K) rfl) (pv 1) pe_int (fun _ _ => rfl)) (pe_ix (ix_XK (K := K) rfl) (pv 1) pe_int (fun _ _ => rfl))) (pe_op op_sub (pe_ix (ix_XK (K := K) rfl) (pv 2) pe_int (fun _ _ => rfl)) (pe_ix (ix_XK (K := K) rfl) (pv 2) pe_int (fun _ _ => rfl)))))
    (pss_cons (ps_if (pt_cmpR op_gt (pv 3) (pe_KK (K := K) rfl T.k_MOST_CELLS (by rfl)) (nomark _)) (pss_one ps_never) pss_nil)
    (pss_one (ps_ret (pe_tup (pa_cons (pv 1) (pa_cons (pv 2) pa_nil)))))))), fun ds d hR => by
    obtain ⟨ps, x, rfl, hx, hb, rfl⟩ := hR
    obtain ⟨s1, s2, s3, s4⟩ := hb.s
    have hm := hb.m
    walk_at "d"
    refine ⟨_, ⟨ps, x, rfl, hx, hb.b, rfl⟩, ?_⟩
    unfold boxD rgD
    walk_at "d"
    refine ⟨_, r2_intC (mulOk (m := 19) (n := 19) (bd_of (by omega)) (bd_of (by omega))), ?_⟩
    walk_at "d"
    rw [decide_eq_false (show ¬ (rhi (xsO ps.flatten) - rlo (xsO ps.flatten)) * (rhi (ysO ps.flatten) - rlo (ysO ps.flatten)) > 2000 by omega)]
    walk_at "db"
    rfl⟩
end K84

set_option Elab.async false
set_option linter.all false
set_option maxRecDepth 100000
set_option pp.deepTerms false
set_option pp.deepTerms.threshold 6
set_option maxHeartbeats 4000000
namespace K84
open PySem PySem.Spec PyProof.Rows L2 DS
open G84 (Pt co setc kept sect out outs lastP lastD cut cyc ps cross G)
open K77 (Bd)
-- the steps that need no thought: one, as many as there are
local macro_rules | `(tactic| walk_at "d1") => `(tactic| with_reducible first
  | refine ws_seq ?_ | refine ws_next ?_ | refine ws_retN ?_ | refine ws_ret ?_ | refine ws_if ?_ | refine ws_par ?_ | refine ws_setK ?_ | refine ws_newD ?_ | refine wp_cons ?_ | refine wp_nil ?_ | refine ws_newDK ?_ | refine ws_newDT ?_ | refine ws_set ?_ | refine ws_star ?_ | refine ws_setO rfl ?_ | apply ws_asg
  | refine we_var rfl ?_ | refine we_int ?_ | refine we_bl ?_ | refine we_str ?_ | refine we_non ?_ | refine we_kd ?_ | refine we_ixO rfl ?_
  | refine we_isi isg_int ?_ | refine we_isi isg_bool ?_ | refine we_isi isg_str ?_ | refine we_isi isg_list ?_ | refine we_isi isg_tuple ?_ | refine we_isi2 isg_list isg_tuple ?_ | refine we_isi2 isg_int isg_tuple ?_
  | refine we_inK ?_ | refine we_ixK ?_ | refine we_op ?_ | refine we_un ?_ | refine we_cb ?_ | refine we_tup ?_ | refine we_lst ?_ | refine we_andV ?_ | refine we_orV ?_ | refine we_notV ?_ | refine we_if ?_ | refine we_chain ?_ | refine we_sl ?_ | refine we_call ?_ | refine we_callD ?_ | refine we_rev ?_
  | refine wa_nil ?_ | refine wa_cons ?_ | refine wo_none ?_ | refine wo_some ?_ | refine wt_test ?_ | refine wt_B ?_ | refine wt_and ?_ | refine wt_or ?_ | refine wt_not ?_
  | refine wg_tup rfl ?_ | refine wgs_cons ?_ | refine wgs_nil ?_ | refine wg_name ?_
  | refine ⟨_, r2_int, ?_⟩ | refine ⟨_, r2_bl, ?_⟩ | refine ⟨_, r2_addI, ?_⟩ | refine ⟨_, r2_eqI, ?_⟩ | refine ⟨_, r2_neI, ?_⟩ | refine ⟨_, r2_eqS, ?_⟩ | refine ⟨_, r2_neS, ?_⟩ | refine ⟨_, r2_isN, ?_⟩ | refine ⟨_, r1_neg, ?_⟩
  | refine ⟨_, rc_absI, ?_⟩ | refine ⟨_, rc_intI, ?_⟩ | refine ⟨_, rc_intB, ?_⟩ | refine ⟨_, rc_max, ?_⟩ | refine ⟨_, rc_min, ?_⟩ | refine ⟨_, rc_lenL, ?_⟩ | refine ⟨_, rc_lenT, ?_⟩ | refine ⟨_, rc_listL, ?_⟩ | refine ⟨_, rc_listT, ?_⟩ | refine ⟨_, rc_tupL, ?_⟩ | refine ⟨_, rc_tupT, ?_⟩
  | refine ⟨_, rfl, ?_⟩ | refine ⟨_, _, rfl, ?_⟩ | refine ⟨_, ⟨_, rfl, rfl⟩, ?_⟩ | refine ⟨_, ⟨_, _, rfl, rfl⟩, ?_⟩)
local macro_rules | `(tactic| walk_at "d") => `(tactic| repeat (first | walk_at "d1" | refine ⟨lenOk rfl, ?_⟩ | refine ⟨0, _, _, _, rfl, rfl, rfl, ?_⟩ | refine ⟨_, r2_ixXL rfl, ?_⟩ | refine ⟨_, r2_ixXT rfl, ?_⟩ | refine ⟨_, r2_ixXT at0, ?_⟩ | refine ⟨_, r2_ixXT at1, ?_⟩ | refine ⟨_, r2_ixXL at0, ?_⟩ | refine ⟨_, r2_ixXL at1, ?_⟩))
-- a condition whose truth comes out by computation
local macro_rules | `(tactic| walk_at "b1") => `(tactic| first
  | refine ⟨fun _ => ?_, fun h => Bool.noConfusion (show true = false from h)⟩
  | refine ⟨fun h => Bool.noConfusion (show false = true from h), fun _ => ?_⟩)
local macro_rules | `(tactic| walk_at "db") => `(tactic| repeat (first | walk_at "d1" | refine ⟨lenOk rfl, ?_⟩ | refine ⟨0, _, _, _, rfl, rfl, rfl, ?_⟩ | refine ⟨_, r2_ixXL rfl, ?_⟩ | refine ⟨_, r2_ixXT rfl, ?_⟩ | refine ⟨_, r2_ixXT at0, ?_⟩ | refine ⟨_, r2_ixXT at1, ?_⟩ | refine ⟨_, r2_ixXL at0, ?_⟩ | refine ⟨_, r2_ixXL at1, ?_⟩ | walk_at "b1"))
-- how many arguments there are
local macro_rules | `(tactic| walk_at "len") => `(tactic| (intro _ _ h; first
  | (obtain ⟨_, e, _⟩ := h; subst e; rfl) | (obtain ⟨_, _, e, _⟩ := h; subst e; rfl) | (obtain ⟨_, _, _, e, _⟩ := h; subst e; rfl) | (obtain ⟨_, _, _, _, e, _⟩ := h; subst e; rfl) | (obtain ⟨_, _, _, _, _, e, _⟩ := h; subst e; rfl)))
local macro_rules | `(tactic| walk_at "leno") => `(tactic| (intro _ _ h; first
  | (obtain ⟨⟨_, e, _⟩, _⟩ := h; subst e; rfl) | (obtain ⟨⟨_, _, e, _⟩, _⟩ := h; subst e; rfl) | (obtain ⟨e, _⟩ := h; subst e; rfl) | (obtain ⟨_, e, _⟩ := h; subst e; rfl) | (obtain ⟨_, _, e, _⟩ := h; subst e; rfl) | (obtain ⟨_, _, _, e, _⟩ := h; subst e; rfl) | (obtain ⟨_, _, _, _, e, _⟩ := h; subst e; rfl)))

variable {P : Program} {w : World} {K : PySem.W.Frag} {mg : Str → Option Value} {base : Heap}
/-! ### row_shares -/
/-- a polygon of a base that may be cut -/
structure Pq (D : Nat) (l : List Pt) : Prop where
  g : Pg D l
  h0 : D ≠ 0
  h1 : D ≤ 2 ^ 411
theorem Pq.pl {D : Nat} {l : List Pt} (h : Pq D l) : Pl D l := ⟨h.h0, Nat.le_trans h.h1 (Nat.pow_le_pow_right (by decide) (by decide)), fun p hp => (h.g.v p hp).x, fun p hp => (h.g.v p hp).y⟩
theorem le20 {z : Int} (hz : z.natAbs ≤ 6000) : (64 * z).natAbs ≤ 2 ^ 20 := by
  have : (2 : Nat) ^ 20 = 1048576 := by decide
  omega
theorem Pq.cut {D : Nat} {l : List Pt} {v s : Bool} {z : Int} (hz : z.natAbs ≤ 6000) (h : Pq D l) : Pq D (G84.cut v s (r64 z) l) := ⟨h.g.cut (le20 hz), h.h0, h.h1⟩
theorem Pq.btw {D : Nat} {l : List Pt} {v : Bool} {z : Int} (hz : z.natAbs ≤ 5000) (h : Pq D l) : Pq D (btw v z l) := (h.cut (s := true) (z := z) (by omega)).cut (s := false) (z := z + 1) (by omega)
theorem btw_len {v : Bool} {z : Int} {l : List Pt} : (btw v z l).length ≤ 4 * l.length := by
  have h1 := cut_len (v := v) (s := true) (L := r64 z) (l := l)
  have h2 := cut_len (v := v) (s := false) (L := r64 (z + 1)) (l := G84.cut v true (r64 z) l)
  unfold btw
  omega
theorem sh_G {l : List Pt} {r c : Int} : cyc cross (btw false c (btw true r l)) / 8192 = G l r c := G84.share_cell
/-- lo, lo + 1, .., below hi -/
def rngI (lo hi : Int) : List Int := (List.range (hi - lo).toNat).map fun (k : Nat) => lo + (k : Int)
theorem mem_rngI {lo hi c : Int} : c ∈ rngI lo hi ↔ lo ≤ c ∧ c < hi := by
  unfold rngI
  rw [List.mem_map]
  constructor
  · rintro ⟨k, hk, rfl⟩
    rw [List.mem_range] at hk
    omega
  · rintro ⟨h1, h2⟩
    exact ⟨(c - lo).toNat, by rw [List.mem_range]; omega, by omega⟩
theorem rngD_I {lo hi : Int} : rngD lo (hi - lo).toNat = (rngI lo hi).map .int := by unfold rngD rngI; rw [List.map_map]; rfl
def rshE (l : List Pt) (r c : Int) : Key × PyData := (.inl c, qd (G l r c))
def rsh (l : List Pt) (c0 c1 r : Int) : List (Key × PyData) :=
  if btw true r l = [] then [] else (rngI (if c0 > rlo (xsO (btw true r l)) then c0 else rlo (xsO (btw true r l))) (if c1 < rhi (xsO (btw true r l)) then c1 else rhi (xsO (btw true r l)))).map (rshE l r)
theorem put_new {kvs : List (Key × PyData)} {k : Key} {v : PyData} (h : ∀ p ∈ kvs, p.1 ≠ k) : putP kvs k v = kvs ++ [(k, v)] := by
  unfold putP
  rw [if_neg]
  intro z
  rw [List.any_eq_true] at z
  obtain ⟨p, h1, h2⟩ := z
  exact h p h1 (of_decide_eq_true h2)
theorem plain_qd (q : Rat) : (qd q).plain = true := by
  rcases qd_cases q with ⟨e, _⟩ | ⟨e, _⟩ <;> rw [e] <;> rfl
theorem plain_pts : ∀ l : List Pt, PyData.plainAll (l.map ptD) = true
  | [] => rfl
  | p :: l => by
    have h1 := plain_qd p.1
    have h2 := plain_qd p.2
    simp only [List.map_cons, PyData.plainAll, ptD, PyData.plain, h1, h2, plain_pts l, Bool.and_self]
theorem eqv_lnil {r : List PyData} : PyData.eqv (.list r) (.list []) = r.isEmpty := by
  cases r <;> simp [PyData.eqv, PyData.eqvAll]
theorem eqv_pl {l : List Pt} : PyData.eqv (plD l) (.list []) = l.isEmpty := by unfold plD; rw [eqv_lnil]; cases l <;> rfl
theorem dep_lnil : PyData.depth (.list []) ≤ 64 := by simp [PyData.depth, PyData.depthAll]
abbrev R_row_shares (ds : List PyData) (d : PyData) : Prop := ∃ (l : List Pt) (c0 c1 r : Int) (D : Nat), ds = [plD l, .tuple [.int c0, .int c1], .int r] ∧ Pq D l ∧ l.length ≤ 12 ∧ r.natAbs ≤ 1000 ∧ c0.natAbs ≤ 1000 ∧ c1.natAbs ≤ 1000 ∧ d = dKD (rsh l c0 c1 r)
theorem fl_bd {q : Rat} (h : Ab (2 ^ 50) q) : (fl q).natAbs ≤ 2 ^ 50 := by
  have h1 := Rat.floor_le (q / 64)
  have h2 := Rat.lt_floor (x := q / 64)
  unfold Ab at h
  have e : (((2 : Nat) ^ 50 : Nat) : Rat) = 1125899906842624 := by rfl
  rw [e] at h
  have e64 : q / 64 * 64 = q := Rat.div_mul_cancel (by decide)
  have h3 : ((fl q : Int) : Rat) ≤ ((1125899906842624 : Int) : Rat) := by
    have : ((1125899906842624 : Int) : Rat) = 1125899906842624 := rfl
    unfold fl; grind
  have h4 : ((-1125899906842624 : Int) : Rat) ≤ ((fl q : Int) : Rat) := by
    have : ((-1125899906842624 : Int) : Rat) = -1125899906842624 := rfl
    unfold fl; grind
  have h5 := Rat.intCast_le_intCast.mp h3
  have h6 := Rat.intCast_le_intCast.mp h4
  have e2 : (2 : Nat) ^ 50 = 1125899906842624 := by decide
  omega
theorem ce_bd {q : Rat} (h : Ab (2 ^ 50) q) : (ce q).natAbs ≤ 2 ^ 50 := by
  have := fl_bd (q := q * (-1)) (by have e : q * (-1) = -q := by grind
                                    rw [e]; exact h.neg)
  unfold ce fl at *
  omega
theorem rlo_bd {qs : List Rat} (hne : qs ≠ []) (h : ∀ q ∈ qs, Ab (2 ^ 50) q) : (rlo qs).natAbs ≤ 2 ^ 50 := by
  obtain ⟨q, hq, e⟩ := List.mem_map.mp (minI_ok (l := qs.map fl) (by simpa using hne)).1
  unfold rlo; rw [← e]; exact fl_bd (h q hq)
theorem rhi_bd {qs : List Rat} (hne : qs ≠ []) (h : ∀ q ∈ qs, Ab (2 ^ 50) q) : (rhi qs).natAbs ≤ 2 ^ 50 := by
  obtain ⟨q, hq, e⟩ := List.mem_map.mp (maxI_ok (l := qs.map ce) (by simpa using hne)).1
  unfold rhi; rw [← e]; exact ce_bd (h q hq)
theorem range_get {n i : Nat} {α : Type} {f : Nat → α} (h : i < n) : ((List.range n).map f)[i]? = some (f i) := by rw [List.getElem?_map, List.getElem?_range h]; rfl
theorem c_row_shares (T : Top K w mg) : Cal P w K mg base "row_shares" 8 p_row_shares (spP K R_row_shares) :=
  T.h_row_shares.call (fun _ _ _ _ _ _ us hl => match us, hl with | [_, _, _], _ => rfl) fun f fd F m => fn_pure F sc_row_shares (by walk_at "len") fun cdv A outer s H E hr => ⟨_, (pss_cons (ps_set (i := 3) sc_row_shares.nd rfl (.inl rfl) (pe_cal (c_between_lines (P := P) (w := w) (K := K) (mg := mg) (base := base) T) (hr.mono (by omega)) (by rfl) (pa_cons (pv 0) (pa_cons pe_int (pa_cons (pv 2) pa_nil)))))
    (pss_cons (ps_if (pt_cmpR (op_eqXK (K := K) rfl hr.units) (pv 3) (pe_lst pa_nil) (nomark _)) (pss_one (ps_ret pe_dnewK)) pss_nil)
    (pss_cons (ps_asg (pe_cal (c_cell_range (P := P) (w := w) (K := K) (mg := mg) (base := base) T) (hr.mono (by omega)) (by rfl) (pa_cons (pe_lc (own := [("x", 8), ("y", 9)]) (g := gTup K 2 (gCons (gName 8) (gCons (gName 9) gNil))) rfl sc_row_shares.nd  (pi_XK (K := K) rfl (pv 3))
      (blkOk_by (own := [("x", 8), ("y", 9)]) (N := N_row_shares) (sc := defScope s_row_shares) (by decide +kernel)) (fun _ _ _ _ _ => pg_tupK (K := K) (n := 2) rfl (by rfl) (pgs_cons (pg_name (i := 8) sc_row_shares.nd rfl (Or.inl rfl)) (pgs_cons (pg_name (i := 9) sc_row_shares.nd rfl (Or.inl rfl)) pgs_nil)))
      (fun _ _ _ _ _ => pts_nil) (fun _ _ _ _ _ => (pv 8))) pa_nil)) (pg_tupK (K := K) (n := 2) rfl (by rfl) (pgs_cons (pg_name (i := 4) sc_row_shares.nd rfl (.inl rfl)) (pgs_cons (pg_name (i := 5) sc_row_shares.nd rfl (.inl rfl)) pgs_nil))))
    (pss_cons (ps_set (i := 6) sc_row_shares.nd rfl (.inl rfl) pe_dnewK)
    (pss_cons (ps_for PassesOwn.never rfl (pi_range2 (by rfl) T.m_range (pa_cons (pe_callB (call_max' rfl) (by rfl) T.m_max (by decide +kernel) (pa_cons (pv 4) (pa_cons (pe_ix (ix_XK (K := K) rfl) (pv 1) pe_int (fun _ _ => rfl)) pa_nil))) (pa_cons (pe_callB (call_min' rfl) (by rfl) T.m_min (by decide +kernel) (pa_cons (pv 5) (pa_cons (pe_ix (ix_XK (K := K) rfl) (pv 1) pe_int (fun _ _ => rfl)) pa_nil))) pa_nil))) (pg_name (i := 7) sc_row_shares.nd rfl (.inl rfl))
    (pss_one (ps_asg (pe_cal (c_share_of (P := P) (w := w) (K := K) (mg := mg) (base := base) T) (hr.mono (by omega)) (by rfl) (pa_cons (pe_cal (c_between_lines (P := P) (w := w) (K := K) (mg := mg) (base := base) T) (hr.mono (by omega)) (by rfl) (pa_cons (pv 3) (pa_cons pe_int (pa_cons (pv 7) pa_nil)))) pa_nil)) (pg_sub (pv 6) (pv 7) (set_dict (room1 hr))))))
    (pss_one (ps_ret (pv 6)))))))), fun ds d hR => by
    obtain ⟨l, c0, c1, r, D, rfl, hl, hn, hr1, hc0, hc1, rfl⟩ := hR
    have hs : Pq D (btw true r l) := hl.btw (by omega)
    have hsn := btw_len (v := true) (z := r) (l := l)
    have hS : rsh l c0 c1 r = if btw true r l = [] then [] else (rngI (if c0 > rlo (xsO (btw true r l)) then c0 else rlo (xsO (btw true r l))) (if c1 < rhi (xsO (btw true r l)) then c1 else rhi (xsO (btw true r l)))).map (rshE l r) := rfl
    have hG : ∀ c, cyc cross (btw false c (btw true r l)) / 8192 = G l r c := fun c => sh_G
    walk_at "d"
    refine ⟨_, ⟨l, true, r, rfl, by omega, hl.pl.v, (hl.cut (by omega)).pl.v, by omega, rfl⟩, ?_⟩
    rw [hS]
    clear hS
    generalize btw true r l = st at *
    walk_at "d"
    refine ⟨_, r2_eqE (plain_pts st) rfl (Nat.le_trans (Nat.min_le_right _ _) dep_lnil), ?_⟩
    rw [eqv_pl]
    cases hst : st with
    | nil =>
      walk_at "db"
      refine we_newDK ?_
      rfl
    | cons p0 t0 =>
      rw [if_neg (by simp), ← hst]
      have hne : st ≠ [] := by rw [hst]; simp
      have e0 : st.isEmpty = false := by rw [hst]; rfl
      clear hst
      rw [e0]
      walk_at "db"
      refine we_lc_ix (tg := [8] ++ ([9] ++ [])) (by decide) (wi_X (we_var rfl ⟨_, .inl rfl, st.map fun p => qd p.1, line10 (by rw [List.length_map]; omega), by simp, ?_, ?_⟩))
      · intro i d y hd hy
        obtain ⟨p, e1, rfl⟩ := get_map hd
        rw [List.getElem?_map, e1] at hy
        cases hy
        refine wgc_tup (tg := [8] ++ ([9] ++ [])) rfl (wgcs_cons (wgc_name (wgcs_cons (wgc_name (wgcs_nil ?_)))))
        exact we_var rfl ⟨rfl, rfl⟩
      refine wa_nil ⟨rgD (xsO st), ⟨xsO st, by unfold xsO; rw [List.map_map]; rfl, by simpa [xsO] using hne, ?_, by unfold xsO; rw [List.length_map]; omega, rfl⟩, ?_⟩
      · intro q hq
        obtain ⟨p, hp, rfl⟩ := List.mem_map.mp hq
        exact (hs.pl.v p hp).x
      unfold rgD
      walk_at "d"
      intro a ha
      refine ws_seq (ws_for (wi_rng2 ?_))
      walk_at "d"
      have hxs : xsO st ≠ [] := by simpa [xsO] using hne
      have hxa : ∀ q ∈ xsO st, Ab (2 ^ 50) q := fun q hq => by
        obtain ⟨p, hp, rfl⟩ := List.mem_map.mp hq
        exact (hs.g.v p hp).x.2
      have hf0 := rlo_bd hxs hxa
      have hb0 := rhi_bd hxs hxa
      generalize rlo (xsO st) = f0 at *
      generalize rhi (xsO st) = b0 at *
      have e2 : (2 : Nat) ^ 50 = 1125899906842624 := by decide
      have e3 : (2 : Int) ^ 62 = 4611686018427387904 := by decide
      have hlo : c0 ≤ (if c0 > f0 then c0 else f0) ∧ ((if c0 > f0 then c0 else f0) = c0 ∨ (if c0 > f0 then c0 else f0) = f0) := by split <;> omega
      have hhi : (if c1 < b0 then c1 else b0) ≤ c1 ∧ ((if c1 < b0 then c1 else b0) = c1 ∨ (if c1 < b0 then c1 else b0) = b0) := by split <;> omega
      generalize (if c0 > f0 then c0 else f0) = lo at *
      generalize (if c1 < b0 then c1 else b0) = hi at *
      refine ⟨⟨by omega, by omega, by omega, by omega⟩, fun i ρ β => ∃ s7 : Slot, ρ = [.dat (plD l), .dat (.tuple [.int c0, .int c1]), .dat (.int r), .dat (plD st), .dat (.int f0), .dat (.int b0), .raw (.ref a), s7, .no, .no] ∧ β = [(a, .dct ((List.range i).map fun (k : Nat) => rshE l r (lo + (k : Int))))], ⟨_, rfl, rfl⟩, ?_, ?_⟩
      · rintro i d ρ' β' hd ⟨s7, rfl, rfl⟩
        obtain ⟨hi1, rfl⟩ := rngD_get hd
        have hc5 : (lo + (i : Int)).natAbs ≤ 5000 := by omega
        refine wg_name ?_
        refine ws_putK rfl ?_
        walk_at "d"
        refine ⟨_, ⟨st, false, lo + (i : Int), rfl, hc5, hs.pl.v, (hs.cut (by omega)).pl.v, by omega, rfl⟩, ?_⟩
        walk_at "d"
        have hbn := btw_len (v := false) (z := lo + (i : Int)) (l := st)
        refine ⟨_, ⟨btw false (lo + (i : Int)) st, D, rfl, (hs.btw hc5).pl, by omega, rfl⟩, ?_⟩
        rw [hG]
        walk_at "d"
        refine ⟨0, .inl (lo + (i : Int)), _, rfl, rfl, by rw [List.length_map, List.length_range]; omega, .dat (.int (lo + (i : Int))), rfl, ?_⟩
        rw [put_new (fun p hp => by
          obtain ⟨k, hk, rfl⟩ := List.mem_map.mp hp
          rw [List.mem_range] at hk
          intro z
          unfold rshE at z
          injection z with z
          omega)]
        rw [List.range_succ, List.map_append]
        rfl
      · rintro ρ' β' ⟨s7, rfl, rfl⟩
        rw [rngD_len]
        refine ws_frzX (i := 6) (j := 0) rfl rfl (by simp) ?_
        walk_at "d"
        unfold rngI
        rw [List.map_map]
        rfl⟩
end K84

set_option Elab.async false
set_option linter.all false
set_option maxRecDepth 100000
set_option pp.deepTerms false
set_option pp.deepTerms.threshold 6
set_option maxHeartbeats 4000000
namespace K84
open PySem PySem.Spec PyProof.Rows L2 DS
open G84 (Pt co setc kept sect out outs lastP lastD cut cyc ps cross G)
open K77 (Bd)
-- the steps that need no thought: one, as many as there are
local macro_rules | `(tactic| walk_at "d1") => `(tactic| with_reducible first
  | refine ws_seq ?_ | refine ws_next ?_ | refine ws_retN ?_ | refine ws_ret ?_ | refine ws_if ?_ | refine ws_par ?_ | refine ws_setK ?_ | refine ws_newD ?_ | refine wp_cons ?_ | refine wp_nil ?_ | refine ws_newDK ?_ | refine ws_newDT ?_ | refine ws_set ?_ | refine ws_star ?_ | refine ws_setO rfl ?_ | apply ws_asg
  | refine we_var rfl ?_ | refine we_int ?_ | refine we_bl ?_ | refine we_str ?_ | refine we_non ?_ | refine we_kd ?_ | refine we_ixO rfl ?_
  | refine we_isi isg_int ?_ | refine we_isi isg_bool ?_ | refine we_isi isg_str ?_ | refine we_isi isg_list ?_ | refine we_isi isg_tuple ?_ | refine we_isi2 isg_list isg_tuple ?_ | refine we_isi2 isg_int isg_tuple ?_
  | refine we_inK ?_ | refine we_ixK ?_ | refine we_op ?_ | refine we_un ?_ | refine we_cb ?_ | refine we_tup ?_ | refine we_lst ?_ | refine we_andV ?_ | refine we_orV ?_ | refine we_notV ?_ | refine we_if ?_ | refine we_chain ?_ | refine we_sl ?_ | refine we_call ?_ | refine we_callD ?_ | refine we_rev ?_
  | refine wa_nil ?_ | refine wa_cons ?_ | refine wo_none ?_ | refine wo_some ?_ | refine wt_test ?_ | refine wt_B ?_ | refine wt_and ?_ | refine wt_or ?_ | refine wt_not ?_
  | refine wg_tup rfl ?_ | refine wgs_cons ?_ | refine wgs_nil ?_ | refine wg_name ?_
  | refine ⟨_, r2_int, ?_⟩ | refine ⟨_, r2_bl, ?_⟩ | refine ⟨_, r2_addI, ?_⟩ | refine ⟨_, r2_eqI, ?_⟩ | refine ⟨_, r2_neI, ?_⟩ | refine ⟨_, r2_eqS, ?_⟩ | refine ⟨_, r2_neS, ?_⟩ | refine ⟨_, r2_isN, ?_⟩ | refine ⟨_, r1_neg, ?_⟩
  | refine ⟨_, rc_absI, ?_⟩ | refine ⟨_, rc_intI, ?_⟩ | refine ⟨_, rc_intB, ?_⟩ | refine ⟨_, rc_max, ?_⟩ | refine ⟨_, rc_min, ?_⟩ | refine ⟨_, rc_lenL, ?_⟩ | refine ⟨_, rc_lenT, ?_⟩ | refine ⟨_, rc_listL, ?_⟩ | refine ⟨_, rc_listT, ?_⟩ | refine ⟨_, rc_tupL, ?_⟩ | refine ⟨_, rc_tupT, ?_⟩
  | refine ⟨_, rfl, ?_⟩ | refine ⟨_, _, rfl, ?_⟩ | refine ⟨_, ⟨_, rfl, rfl⟩, ?_⟩ | refine ⟨_, ⟨_, _, rfl, rfl⟩, ?_⟩)
local macro_rules | `(tactic| walk_at "d") => `(tactic| repeat (first | walk_at "d1" | refine ⟨lenOk rfl, ?_⟩ | refine ⟨0, _, _, _, rfl, rfl, rfl, ?_⟩ | refine ⟨_, r2_ixXL rfl, ?_⟩ | refine ⟨_, r2_ixXT rfl, ?_⟩ | refine ⟨_, r2_ixXT at0, ?_⟩ | refine ⟨_, r2_ixXT at1, ?_⟩ | refine ⟨_, r2_ixXL at0, ?_⟩ | refine ⟨_, r2_ixXL at1, ?_⟩))
-- a condition whose truth comes out by computation
local macro_rules | `(tactic| walk_at "b1") => `(tactic| first
  | refine ⟨fun _ => ?_, fun h => Bool.noConfusion (show true = false from h)⟩
  | refine ⟨fun h => Bool.noConfusion (show false = true from h), fun _ => ?_⟩)
local macro_rules | `(tactic| walk_at "db") => `(tactic| repeat (first | walk_at "d1" | refine ⟨lenOk rfl, ?_⟩ | refine ⟨0, _, _, _, rfl, rfl, rfl, ?_⟩ | refine ⟨_, r2_ixXL rfl, ?_⟩ | refine ⟨_, r2_ixXT rfl, ?_⟩ | refine ⟨_, r2_ixXT at0, ?_⟩ | refine ⟨_, r2_ixXT at1, ?_⟩ | refine ⟨_, r2_ixXL at0, ?_⟩ | refine ⟨_, r2_ixXL at1, ?_⟩ | walk_at "b1"))
-- how many arguments there are
local macro_rules | `(tactic| walk_at "len") => `(tactic| (intro _ _ h; first
  | (obtain ⟨_, e, _⟩ := h; subst e; rfl) | (obtain ⟨_, _, e, _⟩ := h; subst e; rfl) | (obtain ⟨_, _, _, e, _⟩ := h; subst e; rfl) | (obtain ⟨_, _, _, _, e, _⟩ := h; subst e; rfl) | (obtain ⟨_, _, _, _, _, e, _⟩ := h; subst e; rfl)))
local macro_rules | `(tactic| walk_at "leno") => `(tactic| (intro _ _ h; first
  | (obtain ⟨⟨_, e, _⟩, _⟩ := h; subst e; rfl) | (obtain ⟨⟨_, _, e, _⟩, _⟩ := h; subst e; rfl) | (obtain ⟨e, _⟩ := h; subst e; rfl) | (obtain ⟨_, e, _⟩ := h; subst e; rfl) | (obtain ⟨_, _, e, _⟩ := h; subst e; rfl) | (obtain ⟨_, _, _, e, _⟩ := h; subst e; rfl) | (obtain ⟨_, _, _, _, e, _⟩ := h; subst e; rfl)))

variable {P : Program} {w : World} {K : PySem.W.Frag} {mg : Str → Option Value} {base : Heap}
/-! ### greys -/
theorem val_map {l : List Pt} {r c : Int} : ∀ L : List Int, valP (L.map (rshE l r)) (.inl c) = if c ∈ L then some (qd (G l r c)) else none
  | [] => rfl
  | a :: L => by
    have ih := val_map (l := l) (r := r) (c := c) L
    unfold valP at ih ⊢
    rw [List.map_cons, List.find?_cons]
    by_cases h : a = c
    · subst h
      simp [rshE]
    · have h2 : decide ((rshE l r a).1 = (Sum.inl c : Key)) = false := decide_eq_false fun z => h (by unfold rshE at z; injection z)
      rw [h2]
      simp only [List.mem_cons]
      rw [ih]
      by_cases h3 : c ∈ L
      · rw [if_pos h3, if_pos (.inr h3)]
      · rw [if_neg h3, if_neg fun z => z.elim (fun z => h z.symm) h3]
theorem fl_le {q : Rat} {c : Int} : c ≤ fl q ↔ ((64 * c : Int) : Rat) ≤ q := by
  unfold fl
  rw [Rat.le_floor_iff, Rat.intCast_mul]
  have : ((64 : Int) : Rat) = 64 := rfl
  rw [this]
  constructor <;> intro h
  · have := Rat.mul_le_mul_of_nonneg_left h (show (0 : Rat) ≤ 64 by decide); grind
  · have h2 : (64 : Rat) * (c : Rat) ≤ 64 * (q / 64) := by grind
    exact Rat.le_of_mul_le_mul_left h2 (by decide)
theorem ce_le {q : Rat} {c : Int} : ce q ≤ c ↔ q ≤ ((64 * c : Int) : Rat) := by
  have h := fl_le (q := q * (-1)) (c := -c)
  have e : ((64 * -c : Int) : Rat) = -((64 * c : Int) : Rat) := by rw [← Rat.intCast_neg]; congr 1; omega
  rw [e] at h
  unfold ce fl at *
  constructor <;> intro k
  · have := h.mp (by omega); grind
  · have := h.mpr (by grind); omega
theorem xs_mem {l : List Pt} {p : Pt} (h : p ∈ l) : p.1 ∈ xsO l := List.mem_map.mpr ⟨p, h, rfl⟩
theorem ys_mem {l : List Pt} {p : Pt} (h : p ∈ l) : p.2 ∈ ysO l := List.mem_map.mpr ⟨p, h, rfl⟩
theorem rlo_le {qs : List Rat} {q : Rat} (h : q ∈ qs) : rlo qs ≤ fl q := (minI_ok (l := qs.map fl) (by intro z; rw [List.map_eq_nil_iff] at z; rw [z] at h; cases h)).2 _ (List.mem_map.mpr ⟨q, h, rfl⟩)
theorem le_rhi {qs : List Rat} {q : Rat} (h : q ∈ qs) : ce q ≤ rhi qs := (maxI_ok (l := qs.map ce) (by intro z; rw [List.map_eq_nil_iff] at z; rw [z] at h; cases h)).2 _ (List.mem_map.mpr ⟨q, h, rfl⟩)
theorem btw_nil {v : Bool} {c : Int} : btw v c [] = [] := rfl
theorem rsh_get {l : List Pt} {c0 c1 r c : Int} (h1 : c0 ≤ c) (h2 : c < c1) : (valP (rsh l c0 c1 r) (.inl c)).getD (.int 0) = qd (G l r c) := by
  have hG : cyc cross (btw false c (btw true r l)) / 8192 = G l r c := sh_G
  unfold rsh
  by_cases hs : btw true r l = []
  · rw [if_pos hs]
    rw [hs, btw_nil] at hG
    rw [← hG, show cyc cross [] / 8192 = ((0 : Int) : Rat) by rw [show cyc cross [] = 0 from rfl]; show (0 : Rat) / 8192 = 0; grind]
    rfl
  · rw [if_neg hs, val_map]
    generalize btw true r l = st at *
    by_cases hm : c ∈ rngI (if c0 > rlo (xsO st) then c0 else rlo (xsO st)) (if c1 < rhi (xsO st) then c1 else rhi (xsO st))
    · rw [if_pos hm]; rfl
    · rw [if_neg hm]
      have h0 : G l r c = 0 := by
        rw [← hG]
        refine G84.strip_zero G84.cast64 ?_
        rw [mem_rngI] at hm
        by_cases h3 : c < rlo (xsO st)
        · right
          intro p hp
          have := rlo_le (xs_mem hp)
          exact fl_le.mp (by omega)
        · left
          intro p hp
          have h4 := le_rhi (xs_mem hp)
          refine ce_le.mp ?_
          have : ¬ c < (if c1 < rhi (xsO st) then c1 else rhi (xsO st)) := fun z => hm ⟨by split <;> omega, z⟩
          split at this <;> omega
      rw [h0]
      rfl
/-- the grey of some polygons in a cell -/
def gs (ps : List (List Pt)) (r c : Int) : Rat := ps.foldl (fun a l => a + G l r c) 0
def cellL (ps : List (List Pt)) (r c : Int) : List PyData := if gs ps r c = 0 then [] else [.tuple [.int r, .int c, qd (gs ps r c)]]
def rowL (ps : List (List Pt)) (c0 c1 r : Int) : List PyData := (rngI c0 c1).flatMap (cellL ps r)
def canonL (ps : List (List Pt)) (c0 c1 r0 r1 : Int) : List PyData := (rngI r0 r1).flatMap (rowL ps c0 c1)
/-- polygons that may be asked for their greys -/
structure Gok (ps : List (List Pt)) : Prop where
  n : 1 ≤ ps.length ∧ ps.length ≤ 4
  l : ∀ l ∈ ps, 1 ≤ l.length ∧ l.length ≤ 12
  q : ∀ l ∈ ps, Pq (Dl l) l
  b : Bxs ps
theorem G_fq {l : List Pt} {D : Nat} {r c : Int} (h : Pq D l) (hn : l.length ≤ 12) (hr : r.natAbs ≤ 5000) (hc : c.natAbs ≤ 5000) : Fq 1020 120 (G l r c) := by
  rw [← sh_G]
  have h1 := btw_len (v := true) (z := r) (l := l)
  have h2 := btw_len (v := false) (z := c) (l := btw true r l)
  have hp := ((h.btw (v := true) hr).btw (v := false) hc).pl
  have hf := part_fq hp (by omega) _ (Nat.le_refl _)
  rw [List.take_length] at hf
  exact hf.div (Fq.int (i := 8192) (m := 20) (by decide)) (by decide)
theorem gs_fq {ps : List (List Pt)} {r c : Int} (h : ∀ l ∈ ps, Pq (Dl l) l ∧ l.length ≤ 12) (hr : r.natAbs ≤ 5000) (hc : c.natAbs ≤ 5000) : ∀ i, i ≤ ps.length → Fq (1020 * i) (121 * i) ((ps.take i).foldl (fun a l => a + G l r c) 0)
  | 0, _ => Fq.int (i := 0) (m := 0) (by decide)
  | i + 1, hi => by
    have e : ps[i]? = some ps[i] := List.getElem?_eq_getElem (by omega)
    have ih := gs_fq h hr hc i (by omega)
    obtain ⟨h1, h2⟩ := h ps[i] (List.getElem_mem _)
    rw [List.take_add_one, e, List.foldl_append]
    exact (ih.add (G_fq h1 h2 hr hc)).mono (by omega) (by omega)
theorem eqv_zero (q : Rat) : PyData.eqv (qd q) (.int 0) = decide (q = 0) := by
  rw [Bool.eq_iff_iff, decide_eq_true_eq]
  rcases qd_cases q with ⟨e, e1⟩ | ⟨e, e1⟩ <;> rw [e]
  · simp [PyData.eqv, Rat.num_eq_zero]
  · simp [PyData.eqv]
    intro z
    subst z
    exact e1 rfl
theorem shaped_qd (q : Rat) : SeqAt.shaped (qd q) = true := by rcases qd_cases q with ⟨e, e1⟩ | ⟨e, e1⟩ <;> rw [e] <;> rfl
theorem cellL_len {ps : List (List Pt)} {r c : Int} : (cellL ps r c).length ≤ 1 := by unfold cellL; split <;> simp
theorem fm_len {α : Type} {f : α → List PyData} {m : Nat} (h : ∀ a, (f a).length ≤ m) : ∀ L : List α, (L.flatMap f).length ≤ m * L.length
  | [] => by simp
  | a :: L => by rw [List.flatMap_cons, List.length_append, List.length_cons, Nat.mul_add]; have := h a; have := fm_len h L; omega
theorem rowL_len {ps : List (List Pt)} {c0 c1 r : Int} (h0 : c0.natAbs ≤ 1000) (h1 : c1.natAbs ≤ 1000) : (rowL ps c0 c1 r).length ≤ 2000 := by
  have h := fm_len (f := cellL ps r) (m := 1) (fun _ => cellL_len) (rngI c0 c1)
  unfold rowL
  have e : (rngI c0 c1).length = (c1 - c0).toNat := by unfold rngI; rw [List.length_map, List.length_range]
  omega
abbrev R_greys (ds : List PyData) (d : PyData) : Prop := ∃ (ps : List (List Pt)) (x : PyData), ds = [x] ∧ Row (ps.map plD) x ∧ Gok ps ∧
  d = .list (canonL ps (rlo (xsO ps.flatten)) (rhi (xsO ps.flatten)) (rlo (ysO ps.flatten)) (rhi (ysO ps.flatten)))
theorem c_greys (T : Top K w mg) : Cal P w K mg base "greys" 9 p_greys (spP K R_greys) :=
  T.h_greys.call (fun _ _ _ _ _ _ us hl => match us, hl with | [_], _ => rfl) fun f fd F m => fn_pure F sc_greys (by walk_at "len") fun cdv A outer s H E hr => ⟨_, (pss_cons (ps_expr (pe_cal (c_need_parts (P := P) (w := w) (K := K) (mg := mg) (base := base) T) (hr.mono (by omega)) (by rfl) (pa_cons (pv 0) pa_nil)))
    (pss_cons (ps_asg (pe_cal (c_need_box (P := P) (w := w) (K := K) (mg := mg) (base := base) T) (hr.mono (by omega)) (by rfl) (pa_cons (pv 0) pa_nil)) (pg_tupK (K := K) (n := 2) rfl (by rfl) (pgs_cons (pg_name (i := 1) sc_greys.nd rfl (.inr rfl)) (pgs_cons (pg_name (i := 2) sc_greys.nd rfl (.inl rfl)) pgs_nil))))
    (pss_cons (ps_set (i := 3) sc_greys.nd rfl (.inl rfl) (pe_lst pa_nil))
    (pss_cons (ps_for PassesOwn.never rfl (pi_range2 (by rfl) T.m_range (pa_cons (pe_ix (ix_XK (K := K) rfl) (pv 2) pe_int (fun _ _ => rfl)) (pa_cons (pe_ix (ix_XK (K := K) rfl) (pv 2) pe_int (fun _ _ => rfl)) pa_nil))) (pg_name (i := 4) sc_greys.nd rfl (.inr rfl))
    (pss_cons (ps_setLc (i := 5) (own := [("part", 9)]) (g := gName 9) rfl sc_greys.nd rfl rfl (sw_true rfl rfl rfl (by decide +kernel)) (pi_XK (K := K) rfl (pv 0))
      (blkOk_by (own := [("part", 9)]) (N := N_greys) (sc := defScope s_greys) (by decide +kernel)) (fun _ _ _ _ _ => pg_name (i := 9) sc_greys.nd rfl (Or.inl rfl))
      (fun _ _ _ _ _ => pts_nil) (fun _ _ _ _ _ => (pe_cal (c_row_shares (P := P) (w := w) (K := K) (mg := mg) (base := base) T) (hr.mono (by omega)) (by rfl) (pa_cons (pv 9) (pa_cons (pv 1) (pa_cons (pv 4) pa_nil))))))
    (pss_one (ps_for PassesOwn.never rfl (pi_range2 (by rfl) T.m_range (pa_cons (pe_ix (ix_XK (K := K) rfl) (pv 1) pe_int (fun _ _ => rfl)) (pa_cons (pe_ix (ix_XK (K := K) rfl) (pv 1) pe_int (fun _ _ => rfl)) pa_nil))) (pg_name (i := 6) sc_greys.nd rfl (.inl rfl))
    (pss_cons (ps_set (i := 7) sc_greys.nd rfl (.inl rfl) pe_int)
    (pss_cons (ps_for PassesOwn.never rfl (pi_XK (K := K) rfl (pv 5)) (pg_name (i := 8) sc_greys.nd rfl (.inl rfl))
    (pss_one (ps_set (i := 7) sc_greys.nd rfl (.inl rfl) (pe_cal (c_plus (P := P) (w := w) (K := K) (mg := mg) (base := base) T) (hr.mono (by omega)) (by rfl) (pa_cons (pv 7) (pa_cons (pe_dget2 (room1 hr) (pv 8) (pv 6) pe_int ⟨by rfl, by rfl, by rfl, by rfl⟩) pa_nil))))))
    (pss_one (ps_if (pt_cmpR (op_neXK (K := K) rfl hr.units) (pv 7) pe_int (nomark _)) (pss_one (ps_expr (pe_bm PySem.F.plainAttrs_list PySem.F.slot_list_append PySem.F.type_list_append mt_append (pv 3) (pa_cons (pe_tup (pa_cons (pv 4) (pa_cons (pv 6) (pa_cons (pv 7) pa_nil)))) pa_nil)))) pss_nil))))))))
    (pss_one (ps_ret (pv 3))))))), fun ds d hR => by
    obtain ⟨ps, x, rfl, hx, hg, rfl⟩ := hR
    obtain ⟨s1, s2, s3, s4⟩ := hg.b.s
    have hpq : ∀ l ∈ ps, Pq (Dl l) l ∧ l.length ≤ 12 := fun l hl => ⟨hg.q l hl, (hg.l l hl).2⟩
    have hn4 := hg.n.2
    refine ws_seq (ws_drop ?_)
    walk_at "d"
    refine ⟨_, ⟨ps, x, rfl, hx, hg.n, fun l hl => ⟨(hg.l l hl).1, by have := (hg.l l hl).2; omega⟩, rfl⟩, ?_⟩
    walk_at "d"
    refine ⟨_, ⟨ps, x, rfl, hx, hg.b, rfl⟩, ?_⟩
    unfold boxD rgD
    refine wg_tup rfl (wgs_cons (wg_name (wgs_cons (wg_name (wgs_nil ?_)))))
    refine ws_seq (ws_newO ?_)
    walk_at "d"
    generalize rlo (xsO ps.flatten) = c0 at *
    generalize rhi (xsO ps.flatten) = c1 at *
    generalize rlo (ysO ps.flatten) = r0 at *
    generalize rhi (ysO ps.flatten) = r1 at *
    intro a ha
    refine ws_seq (ws_for (wi_rng2 ?_))
    walk_at "d"
    have e3 : (2 : Int) ^ 62 = 4611686018427387904 := by decide
    refine ⟨⟨by omega, by omega, by omega, by omega⟩, fun i ρ β => ∃ s4 s5 s6 s7 s8 : Slot, ρ = [.dat x, .dat (.tuple [.int c0, .int c1]), .dat (.tuple [.int r0, .int r1]), .raw (.ref a), s4, s5, s6, s7, s8, .no] ∧ β = [(a, .lst ((List.range i).flatMap fun (k : Nat) => rowL ps c0 c1 (r0 + (k : Int))))], ⟨_, _, _, _, _, rfl, rfl⟩, ?_, ?_⟩
    · rintro i d ρ' β' hd ⟨s4, s5, s6, s7, s8, rfl, rfl⟩
      obtain ⟨hi1, rfl⟩ := rngD_get hd
      have hr5 : (r0 + (i : Int)).natAbs ≤ 1000 := by omega
      have hacc := fm_len (f := fun (k : Nat) => rowL ps c0 c1 (r0 + (k : Int))) (m := 2000) (fun _ => rowL_len s1 s2) (List.range i)
      rw [List.length_range] at hacc
      have hstep : ((List.range (i + 1)).flatMap fun (k : Nat) => rowL ps c0 c1 (r0 + (k : Int))) = ((List.range i).flatMap fun (k : Nat) => rowL ps c0 c1 (r0 + (k : Int))) ++ rowL ps c0 c1 (r0 + (i : Int)) := by
        rw [List.range_succ, List.flatMap_append]; simp
      generalize ((List.range i).flatMap fun (k : Nat) => rowL ps c0 c1 (r0 + (k : Int))) = acc at *
      generalize hrr : r0 + (i : Int) = r at *
      refine wg_name ?_
      refine ws_seq (ws_set ?_)
      refine we_lc_ix (tg := [9]) (by decide) (wi_X (we_var rfl ⟨_, row_iter hx, ps.map fun l => dKD (rsh l c0 c1 r), by rw [List.length_map]; exact line10 (by omega), by simp, ?_, ?_⟩))
      · intro i d y hd hy
        obtain ⟨l, e1, rfl⟩ := get_map hd
        rw [List.getElem?_map, e1] at hy
        cases hy
        have hl := List.mem_of_getElem? e1
        refine wgc_name ?_
        walk_at "d"
        exact ⟨_, ⟨l, c0, c1, r, Dl l, rfl, (hpq l hl).1, (hpq l hl).2, hr5, s1, s2, rfl⟩, rfl, rfl⟩
      refine ws_via (fun ρ β => ∃ s4 s5 s6 s7 s8 : Slot, ρ = [.dat x, .dat (.tuple [.int c0, .int c1]), .dat (.tuple [.int r0, .int r1]), .raw (.ref a), s4, s5, s6, s7, s8, .no] ∧ β = [(a, .lst (acc ++ (List.range (c1 - c0).toNat).flatMap fun (k : Nat) => cellL ps r (c0 + (k : Int))))]) ?_ ?_
      · refine ws_for (wi_rng2 ?_)
        walk_at "d"
        refine ⟨⟨by omega, by omega, by omega, by omega⟩, fun i ρ β => ∃ s6 s7 s8 : Slot, ρ = [.dat x, .dat (.tuple [.int c0, .int c1]), .dat (.tuple [.int r0, .int r1]), .raw (.ref a), .dat (.int r), .dat (.list (ps.map fun l => dKD (rsh l c0 c1 r))), s6, s7, s8, .no] ∧ β = [(a, .lst (acc ++ (List.range i).flatMap fun (k : Nat) => cellL ps r (c0 + (k : Int))))],
          ⟨_, _, _, rfl, by simp⟩, ?_, ?_⟩
        · rintro j d ρ' β' hd ⟨s6, s7, s8, rfl, rfl⟩
          obtain ⟨hj1, rfl⟩ := rngD_get hd
          have hc5 : (c0 + (j : Int)).natAbs ≤ 1000 := by omega
          have hc6 : c0 ≤ c0 + (j : Int) ∧ c0 + (j : Int) < c1 := by omega
          have hin := fm_len (f := fun (k : Nat) => cellL ps r (c0 + (k : Int))) (m := 1) (fun _ => cellL_len) (List.range j)
          rw [List.length_range] at hin
          have hstep2 : (acc ++ (List.range (j + 1)).flatMap fun (k : Nat) => cellL ps r (c0 + (k : Int))) = (acc ++ (List.range j).flatMap fun (k : Nat) => cellL ps r (c0 + (k : Int))) ++ cellL ps r (c0 + (j : Int)) := by
            rw [List.range_succ, List.flatMap_append, List.append_assoc]; simp
          generalize ((List.range j).flatMap fun (k : Nat) => cellL ps r (c0 + (k : Int))) = acc2 at *
          generalize hcc : c0 + (j : Int) = c at *
          refine wg_name ?_
          walk_at "d"
          refine ws_for (wi_X (we_var rfl ⟨_, .inl rfl, fun i ρ β => ∃ s8 : Slot, ρ = [.dat x, .dat (.tuple [.int c0, .int c1]), .dat (.tuple [.int r0, .int r1]), .raw (.ref a), .dat (.int r), .dat (.list (ps.map fun l => dKD (rsh l c0 c1 r))), .dat (.int c), .dat (qd ((ps.take i).foldl (fun a l => a + G l r c) 0)), s8, .no] ∧ β = [(a, .lst (acc ++ acc2))], ⟨_, rfl, rfl⟩, ?_, ?_⟩))
          · rintro k d ρ' β' hd ⟨s8, rfl, rfl⟩
            obtain ⟨l, e1, rfl⟩ := get_map hd
            have hl := List.mem_of_getElem? e1
            have hk := (List.getElem?_eq_some_iff.mp e1).1
            have f1 := gs_fq hpq (r := r) (c := c) (by omega) (by omega) k (by omega)
            have f2 := G_fq (r := r) (c := c) (hpq l hl).1 (hpq l hl).2 (by omega) (by omega)
            have hsum : (ps.take (k + 1)).foldl (fun a l => a + G l r c) 0 = (ps.take k).foldl (fun a l => a + G l r c) 0 + G l r c := by
              rw [List.take_add_one, e1, List.foldl_append]; rfl
            generalize (ps.take k).foldl (fun a l => a + G l r c) 0 = g0 at *
            refine wg_name ?_
            walk_at "d"
            refine we_getKd rfl ?_
            walk_at "d"
            refine ⟨.inl c, rfl, ?_⟩
            walk_at "d"
            rw [rsh_get hc6.1 hc6.2]
            refine ⟨_, ⟨_, _, rfl, (f1.mono (n' := 4080) (m' := 600) (by omega) (by omega)).sq (by decide) (by decide), f2.sq (by decide) (by decide), rfl⟩, ?_⟩
            refine ⟨.dat (dKD (rsh l c0 c1 r)), ?_, rfl⟩
            rw [hsum]
            rfl
          · rintro ρ' β' ⟨s8, rfl, rfl⟩
            rw [List.length_map, List.take_length]
            walk_at "d"
            refine ⟨_, r2_neD (shaped_qd _) rfl, ?_⟩
            rw [eqv_zero]
            have hcl : cellL ps r c = if gs ps r c = 0 then [] else [.tuple [.int r, .int c, qd (gs ps r c)]] := rfl
            have hgs : ps.foldl (fun a l => a + G l r c) 0 = gs ps r c := rfl
            rw [hgs]
            walk_at "d"
            refine ⟨fun h => ?_, fun h => ?_⟩
            · have h : ¬ gs ps r c = 0 := by simpa using h
              refine ws_appO (j := 0) rfl ⟨_, rfl⟩ ?_
              walk_at "d"
              refine ⟨Nat.lt_of_le_of_lt (show (acc ++ acc2).length ≤ 5000000 by rw [List.length_append]; omega) (by decide), _, _, _, rfl, ?_⟩
              rw [hstep2, hcl, if_neg h]
              rfl
            · have h : gs ps r c = 0 := by simpa using h
              walk_at "d"
              refine ⟨_, _, _, rfl, ?_⟩
              rw [hstep2, hcl, if_pos h, List.append_nil]
        · rintro ρ' β' ⟨s6, s7, s8, rfl, rfl⟩
          rw [rngD_len]
          exact ⟨_, _, _, _, _, rfl, rfl⟩
      · rintro ρ' β' ⟨s4, s5, s6, s7, s8, rfl, rfl⟩
        refine ⟨_, _, _, _, _, rfl, ?_⟩
        rw [hstep]
        unfold rowL rngI
        rw [List.flatMap_map]
    · rintro ρ' β' ⟨s4, s5, s6, s7, s8, rfl, rfl⟩
      rw [rngD_len]
      refine ws_frz (i := 3) (j := 0) rfl rfl (by simp) ?_
      walk_at "d"
      unfold canonL rngI
      rw [List.flatMap_map]⟩
end K84

set_option Elab.async false
set_option linter.all false
set_option maxRecDepth 100000
set_option pp.deepTerms false
set_option pp.deepTerms.threshold 6
set_option maxHeartbeats 4000000
namespace K84
open PySem PySem.Spec PyProof.Rows L2 DS
open G84 (Pt co setc kept sect out outs lastP lastD cut cyc ps cross G)
open K77 (Bd)
-- the steps that need no thought: one, as many as there are
local macro_rules | `(tactic| walk_at "d1") => `(tactic| with_reducible first
  | refine ws_seq ?_ | refine ws_next ?_ | refine ws_retN ?_ | refine ws_ret ?_ | refine ws_if ?_ | refine ws_par ?_ | refine ws_setK ?_ | refine ws_newD ?_ | refine wp_cons ?_ | refine wp_nil ?_ | refine ws_newDK ?_ | refine ws_newDT ?_ | refine ws_set ?_ | refine ws_star ?_ | refine ws_setO rfl ?_ | apply ws_asg
  | refine we_var rfl ?_ | refine we_int ?_ | refine we_bl ?_ | refine we_str ?_ | refine we_non ?_ | refine we_kd ?_ | refine we_ixO rfl ?_
  | refine we_isi isg_int ?_ | refine we_isi isg_bool ?_ | refine we_isi isg_str ?_ | refine we_isi isg_list ?_ | refine we_isi isg_tuple ?_ | refine we_isi2 isg_list isg_tuple ?_ | refine we_isi2 isg_int isg_tuple ?_
  | refine we_inK ?_ | refine we_ixK ?_ | refine we_op ?_ | refine we_un ?_ | refine we_cb ?_ | refine we_tup ?_ | refine we_lst ?_ | refine we_andV ?_ | refine we_orV ?_ | refine we_notV ?_ | refine we_if ?_ | refine we_chain ?_ | refine we_sl ?_ | refine we_call ?_ | refine we_callD ?_ | refine we_rev ?_
  | refine wa_nil ?_ | refine wa_cons ?_ | refine wo_none ?_ | refine wo_some ?_ | refine wt_test ?_ | refine wt_B ?_ | refine wt_and ?_ | refine wt_or ?_ | refine wt_not ?_
  | refine wg_tup rfl ?_ | refine wgs_cons ?_ | refine wgs_nil ?_ | refine wg_name ?_
  | refine ⟨_, r2_int, ?_⟩ | refine ⟨_, r2_bl, ?_⟩ | refine ⟨_, r2_addI, ?_⟩ | refine ⟨_, r2_eqI, ?_⟩ | refine ⟨_, r2_neI, ?_⟩ | refine ⟨_, r2_eqS, ?_⟩ | refine ⟨_, r2_neS, ?_⟩ | refine ⟨_, r2_isN, ?_⟩ | refine ⟨_, r1_neg, ?_⟩
  | refine ⟨_, rc_absI, ?_⟩ | refine ⟨_, rc_intI, ?_⟩ | refine ⟨_, rc_intB, ?_⟩ | refine ⟨_, rc_max, ?_⟩ | refine ⟨_, rc_min, ?_⟩ | refine ⟨_, rc_lenL, ?_⟩ | refine ⟨_, rc_lenT, ?_⟩ | refine ⟨_, rc_listL, ?_⟩ | refine ⟨_, rc_listT, ?_⟩ | refine ⟨_, rc_tupL, ?_⟩ | refine ⟨_, rc_tupT, ?_⟩
  | refine ⟨_, rfl, ?_⟩ | refine ⟨_, _, rfl, ?_⟩ | refine ⟨_, ⟨_, rfl, rfl⟩, ?_⟩ | refine ⟨_, ⟨_, _, rfl, rfl⟩, ?_⟩)
local macro_rules | `(tactic| walk_at "d") => `(tactic| repeat (first | walk_at "d1" | refine ⟨lenOk rfl, ?_⟩ | refine ⟨0, _, _, _, rfl, rfl, rfl, ?_⟩ | refine ⟨_, r2_ixXL rfl, ?_⟩ | refine ⟨_, r2_ixXT rfl, ?_⟩ | refine ⟨_, r2_ixXT at0, ?_⟩ | refine ⟨_, r2_ixXT at1, ?_⟩ | refine ⟨_, r2_ixXL at0, ?_⟩ | refine ⟨_, r2_ixXL at1, ?_⟩))
-- a condition whose truth comes out by computation
local macro_rules | `(tactic| walk_at "b1") => `(tactic| first
  | refine ⟨fun _ => ?_, fun h => Bool.noConfusion (show true = false from h)⟩
  | refine ⟨fun h => Bool.noConfusion (show false = true from h), fun _ => ?_⟩)
local macro_rules | `(tactic| walk_at "db") => `(tactic| repeat (first | walk_at "d1" | refine ⟨lenOk rfl, ?_⟩ | refine ⟨0, _, _, _, rfl, rfl, rfl, ?_⟩ | refine ⟨_, r2_ixXL rfl, ?_⟩ | refine ⟨_, r2_ixXT rfl, ?_⟩ | refine ⟨_, r2_ixXT at0, ?_⟩ | refine ⟨_, r2_ixXT at1, ?_⟩ | refine ⟨_, r2_ixXL at0, ?_⟩ | refine ⟨_, r2_ixXL at1, ?_⟩ | walk_at "b1"))
-- how many arguments there are
local macro_rules | `(tactic| walk_at "len") => `(tactic| (intro _ _ h; first
  | (obtain ⟨_, e, _⟩ := h; subst e; rfl) | (obtain ⟨_, _, e, _⟩ := h; subst e; rfl) | (obtain ⟨_, _, _, e, _⟩ := h; subst e; rfl) | (obtain ⟨_, _, _, _, e, _⟩ := h; subst e; rfl) | (obtain ⟨_, _, _, _, _, e, _⟩ := h; subst e; rfl)))
local macro_rules | `(tactic| walk_at "leno") => `(tactic| (intro _ _ h; first
  | (obtain ⟨⟨_, e, _⟩, _⟩ := h; subst e; rfl) | (obtain ⟨⟨_, _, e, _⟩, _⟩ := h; subst e; rfl) | (obtain ⟨e, _⟩ := h; subst e; rfl) | (obtain ⟨_, e, _⟩ := h; subst e; rfl) | (obtain ⟨_, _, e, _⟩ := h; subst e; rfl) | (obtain ⟨_, _, _, e, _⟩ := h; subst e; rfl) | (obtain ⟨_, _, _, _, e, _⟩ := h; subst e; rfl)))

variable {P : Program} {w : World} {K : PySem.W.Frag} {mg : Str → Option Value} {base : Heap}
/-! ### grey_of, grey_total -/
structure Gof (ps : List (List Pt)) : Prop where
  n : 1 ≤ ps.length ∧ ps.length ≤ 4
  l : ∀ l ∈ ps, 1 ≤ l.length ∧ l.length ≤ 12
  q : ∀ l ∈ ps, Pq (Dl l) l
abbrev R_grey_of (ds : List PyData) (d : PyData) : Prop := ∃ (ps : List (List Pt)) (x : PyData) (c r : Int), ds = [x, .int c, .int r] ∧ Row (ps.map plD) x ∧ Gof ps ∧ c.natAbs ≤ 5000 ∧ r.natAbs ≤ 5000 ∧ d = qd (gs ps r c)
theorem c_grey_of (T : Top K w mg) : Cal P w K mg base "grey_of" 9 p_grey_of (spP K R_grey_of) :=
  T.h_grey_of.call (fun _ _ _ _ _ _ us hl => match us, hl with | [_, _, _], _ => rfl) fun f fd F m => fn_pure F sc_grey_of (by walk_at "len") fun cdv A outer s H E hr => ⟨_, (pss_cons (ps_expr (pe_cal (c_need_parts (P := P) (w := w) (K := K) (mg := mg) (base := base) T) (hr.mono (by omega)) (by rfl) (pa_cons (pv 0) pa_nil)))
    (pss_cons (ps_for PassesOwn.never rfl (pi_XK (K := K) rfl (pe_tup (pa_cons (pv 1) (pa_cons (pv 2) pa_nil)))) (pg_name (i := 3) sc_grey_of.nd rfl (.inl rfl))
    (pss_one (ps_if (pt_not (pt_val (pe_cal (c_is_plain (P := P) (w := w) (K := K) (mg := mg) (base := base) T) (hr.mono (by omega)) (by rfl) (pa_cons (pv 3) pa_nil)))) (pss_one ps_never) pss_nil)))
    (pss_cons (ps_set (i := 4) sc_grey_of.nd rfl (.inl rfl) pe_int)
    (pss_cons (ps_for PassesOwn.never rfl (pi_XK (K := K) rfl (pv 0)) (pg_name (i := 5) sc_grey_of.nd rfl (.inl rfl))
    (pss_one (ps_set (i := 4) sc_grey_of.nd rfl (.inl rfl) (pe_cal (c_plus (P := P) (w := w) (K := K) (mg := mg) (base := base) T) (hr.mono (by omega)) (by rfl) (pa_cons (pv 4) (pa_cons (pe_cal (c_share_of (P := P) (w := w) (K := K) (mg := mg) (base := base) T) (hr.mono (by omega)) (by rfl) (pa_cons (pe_cal (c_between_lines (P := P) (w := w) (K := K) (mg := mg) (base := base) T) (hr.mono (by omega)) (by rfl) (pa_cons (pe_cal (c_between_lines (P := P) (w := w) (K := K) (mg := mg) (base := base) T) (hr.mono (by omega)) (by rfl) (pa_cons (pv 5) (pa_cons pe_int (pa_cons (pv 2) pa_nil)))) (pa_cons pe_int (pa_cons (pv 1) pa_nil)))) pa_nil)) pa_nil))))))
    (pss_one (ps_ret (pv 4))))))), fun ds d hR => by
    obtain ⟨ps, x, c, r, rfl, hx, hg, hc, hr, rfl⟩ := hR
    have hpq : ∀ l ∈ ps, Pq (Dl l) l ∧ l.length ≤ 12 := fun l hl => ⟨hg.q l hl, (hg.l l hl).2⟩
    have hn4 := hg.n.2
    refine ws_seq (ws_drop ?_)
    walk_at "d"
    refine ⟨_, ⟨ps, x, rfl, hx, hg.n, fun l hl => ⟨(hg.l l hl).1, by have := (hg.l l hl).2; omega⟩, rfl⟩, ?_⟩
    refine ws_seq (ws_for (wi_X ?_))
    walk_at "d"
    refine ⟨_, .inr rfl, fun i ρ β => ∃ s3 s4 s5 : Slot, ρ = [.dat x, .dat (.int c), .dat (.int r), s3, s4, s5] ∧ β = [], ⟨_, _, _, rfl, rfl⟩, ?_, ?_⟩
    · rintro i d ρ' β' hd ⟨s3, s4, s5, rfl, rfl⟩
      refine wg_name ?_
      have hd2 : ∃ z : Int, d = .int z := by
        rcases List.mem_cons.mp (List.mem_of_getElem? hd) with h | h
        · exact ⟨_, h⟩
        · rcases List.mem_cons.mp h with h | h
          · exact ⟨_, h⟩
          · cases h
      obtain ⟨z, rfl⟩ := hd2
      walk_at "db"
      exact ⟨_, _, _, rfl, rfl⟩
    rintro ρ' β' ⟨s3, s4, s5, rfl, rfl⟩
    walk_at "d"
    refine ws_for (wi_X (we_var rfl ⟨_, row_iter hx, fun i ρ β => ∃ s3 s5 : Slot, ρ = [.dat x, .dat (.int c), .dat (.int r), s3, .dat (qd ((ps.take i).foldl (fun a l => a + G l r c) 0)), s5] ∧ β = [], ⟨_, _, rfl, rfl⟩, ?_, ?_⟩))
    · rintro k d ρ' β' hd ⟨s3, s5, rfl, rfl⟩
      obtain ⟨l, e1, rfl⟩ := get_map hd
      have hl := List.mem_of_getElem? e1
      have hk := (List.getElem?_eq_some_iff.mp e1).1
      have f1 := gs_fq hpq (r := r) (c := c) hr hc k (by omega)
      have f2 := G_fq (r := r) (c := c) (hpq l hl).1 (hpq l hl).2 hr hc
      have hsum : (ps.take (k + 1)).foldl (fun a l => a + G l r c) 0 = (ps.take k).foldl (fun a l => a + G l r c) 0 + G l r c := by
        rw [List.take_add_one, e1, List.foldl_append]; rfl
      have hG : cyc cross (btw false c (btw true r l)) / 8192 = G l r c := sh_G
      generalize (ps.take k).foldl (fun a l => a + G l r c) 0 = g0 at *
      obtain ⟨hq, hn⟩ := hpq l hl
      have b1 := btw_len (v := true) (z := r) (l := l)
      have b2 := btw_len (v := false) (z := c) (l := btw true r l)
      have q1 := hq.btw (v := true) hr
      refine wg_name ?_
      walk_at "d"
      refine ⟨_, ⟨l, true, r, rfl, hr, hq.pl.v, (hq.cut (by omega)).pl.v, by omega, rfl⟩, ?_⟩
      walk_at "d"
      refine ⟨_, ⟨btw true r l, false, c, rfl, hc, q1.pl.v, (q1.cut (by omega)).pl.v, by omega, rfl⟩, ?_⟩
      walk_at "d"
      refine ⟨_, ⟨btw false c (btw true r l), _, rfl, (q1.btw hc).pl, by omega, rfl⟩, ?_⟩
      rw [hG]
      walk_at "d"
      refine ⟨_, ⟨_, _, rfl, (f1.mono (n' := 4080) (m' := 600) (by omega) (by omega)).sq (by decide) (by decide), f2.sq (by decide) (by decide), rfl⟩, ?_⟩
      refine ⟨s3, .dat (plD l), ?_, rfl⟩
      rw [hsum]
      rfl
    · rintro ρ' β' ⟨s3, s5, rfl, rfl⟩
      rw [List.length_map, List.take_length]
      walk_at "d"
      rfl⟩
def lnd (l : List Pt) : Rat := cyc cross l / 8192
def tot (ps : List (List Pt)) : Rat := ps.foldl (fun a l => a + lnd l) 0
theorem lnd_fq {l : List Pt} {D : Nat} (h : Pq D l) (hn : l.length ≤ 12) : Fq 1020 120 (lnd l) := by
  have hf := part_fq h.pl (by omega) _ (Nat.le_refl _)
  rw [List.take_length] at hf
  exact hf.div (Fq.int (i := 8192) (m := 20) (by decide)) (by decide)
theorem tot_fq {ps : List (List Pt)} (h : ∀ l ∈ ps, Pq (Dl l) l ∧ l.length ≤ 12) : ∀ i, i ≤ ps.length → Fq (1020 * i) (121 * i) ((ps.take i).foldl (fun a l => a + lnd l) 0)
  | 0, _ => Fq.int (i := 0) (m := 0) (by decide)
  | i + 1, hi => by
    have e : ps[i]? = some ps[i] := List.getElem?_eq_getElem (by omega)
    have ih := tot_fq h i (by omega)
    obtain ⟨h1, h2⟩ := h ps[i] (List.getElem_mem _)
    rw [List.take_add_one, e, List.foldl_append]
    exact (ih.add (lnd_fq h1 h2)).mono (by omega) (by omega)
abbrev R_grey_total (ds : List PyData) (d : PyData) : Prop := ∃ (ps : List (List Pt)) (x : PyData), ds = [x] ∧ Row (ps.map plD) x ∧ Gof ps ∧ d = qd (tot ps)
theorem c_grey_total (T : Top K w mg) : Cal P w K mg base "grey_total" 9 p_grey_total (spP K R_grey_total) :=
  T.h_grey_total.call (fun _ _ _ _ _ _ us hl => match us, hl with | [_], _ => rfl) fun f fd F m => fn_pure F sc_grey_total (by walk_at "len") fun cdv A outer s H E hr => ⟨_, (pss_cons (ps_expr (pe_cal (c_need_parts (P := P) (w := w) (K := K) (mg := mg) (base := base) T) (hr.mono (by omega)) (by rfl) (pa_cons (pv 0) pa_nil)))
    (pss_cons (ps_set (i := 1) sc_grey_total.nd rfl (.inl rfl) pe_int)
    (pss_cons (ps_for PassesOwn.never rfl (pi_XK (K := K) rfl (pv 0)) (pg_name (i := 2) sc_grey_total.nd rfl (.inl rfl))
    (pss_one (ps_set (i := 1) sc_grey_total.nd rfl (.inl rfl) (pe_cal (c_plus (P := P) (w := w) (K := K) (mg := mg) (base := base) T) (hr.mono (by omega)) (by rfl) (pa_cons (pv 1) (pa_cons (pe_cal (c_share_of (P := P) (w := w) (K := K) (mg := mg) (base := base) T) (hr.mono (by omega)) (by rfl) (pa_cons (pv 2) pa_nil)) pa_nil))))))
    (pss_one (ps_ret (pv 1)))))), fun ds d hR => by
    obtain ⟨ps, x, rfl, hx, hg, rfl⟩ := hR
    have hpq : ∀ l ∈ ps, Pq (Dl l) l ∧ l.length ≤ 12 := fun l hl => ⟨hg.q l hl, (hg.l l hl).2⟩
    have hn4 := hg.n.2
    refine ws_seq (ws_drop ?_)
    walk_at "d"
    refine ⟨_, ⟨ps, x, rfl, hx, hg.n, fun l hl => ⟨(hg.l l hl).1, by have := (hg.l l hl).2; omega⟩, rfl⟩, ?_⟩
    walk_at "d"
    refine ws_for (wi_X (we_var rfl ⟨_, row_iter hx, fun i ρ β => ∃ s2 : Slot, ρ = [.dat x, .dat (qd ((ps.take i).foldl (fun a l => a + lnd l) 0)), s2] ∧ β = [], ⟨_, rfl, rfl⟩, ?_, ?_⟩))
    · rintro k d ρ' β' hd ⟨s2, rfl, rfl⟩
      obtain ⟨l, e1, rfl⟩ := get_map hd
      have hl := List.mem_of_getElem? e1
      have hk := (List.getElem?_eq_some_iff.mp e1).1
      have f1 := tot_fq hpq k (by omega)
      have f2 := lnd_fq (hpq l hl).1 (hpq l hl).2
      have hsum : (ps.take (k + 1)).foldl (fun a l => a + lnd l) 0 = (ps.take k).foldl (fun a l => a + lnd l) 0 + lnd l := by
        rw [List.take_add_one, e1, List.foldl_append]; rfl
      generalize (ps.take k).foldl (fun a l => a + lnd l) 0 = g0 at *
      obtain ⟨hq, hn⟩ := hpq l hl
      refine wg_name ?_
      walk_at "d"
      refine ⟨_, ⟨l, _, rfl, hq.pl, by omega, rfl⟩, ?_⟩
      walk_at "d"
      refine ⟨_, ⟨_, lnd l, rfl, (f1.mono (n' := 4080) (m' := 600) (by omega) (by omega)).sq (by decide) (by decide), f2.sq (by decide) (by decide), rfl⟩, ?_⟩
      refine ⟨.dat (plD l), ?_, rfl⟩
      rw [hsum]
      rfl
    · rintro ρ' β' ⟨s2, rfl, rfl⟩
      rw [List.length_map, List.take_length]
      walk_at "d"
      rfl⟩
end K84

set_option Elab.async false
set_option linter.all false
set_option maxRecDepth 100000
set_option pp.deepTerms false
set_option pp.deepTerms.threshold 6
set_option maxHeartbeats 4000000
namespace K84
open PySem PySem.Spec PyProof.Rows L2 DS
open K77 (Nm Bd redT redB redD numD prt prt_ne prt_abs gcd_pos low_t low_b)
-- the steps that need no thought: one, as many as there are
local macro_rules | `(tactic| walk_at "d1") => `(tactic| with_reducible first
  | refine ws_seq ?_ | refine ws_next ?_ | refine ws_retN ?_ | refine ws_ret ?_ | refine ws_if ?_ | refine ws_par ?_ | refine ws_setK ?_ | refine ws_newD ?_ | refine wp_cons ?_ | refine wp_nil ?_ | refine ws_newDK ?_ | refine ws_newDT ?_ | refine ws_set ?_ | refine ws_star ?_ | refine ws_setO rfl ?_ | apply ws_asg
  | refine we_var rfl ?_ | refine we_int ?_ | refine we_bl ?_ | refine we_str ?_ | refine we_non ?_ | refine we_kd ?_ | refine we_ixO rfl ?_
  | refine we_isi isg_int ?_ | refine we_isi isg_bool ?_ | refine we_isi isg_str ?_ | refine we_isi isg_list ?_ | refine we_isi isg_tuple ?_ | refine we_isi2 isg_list isg_tuple ?_ | refine we_isi2 isg_int isg_tuple ?_
  | refine we_inK ?_ | refine we_ixK ?_ | refine we_op ?_ | refine we_un ?_ | refine we_cb ?_ | refine we_tup ?_ | refine we_lst ?_ | refine we_andV ?_ | refine we_orV ?_ | refine we_notV ?_ | refine we_if ?_ | refine we_chain ?_ | refine we_sl ?_ | refine we_call ?_ | refine we_callD ?_ | refine we_rev ?_
  | refine wa_nil ?_ | refine wa_cons ?_ | refine wo_none ?_ | refine wo_some ?_ | refine wt_test ?_ | refine wt_B ?_ | refine wt_and ?_ | refine wt_or ?_ | refine wt_not ?_
  | refine wg_tup rfl ?_ | refine wgs_cons ?_ | refine wgs_nil ?_ | refine wg_name ?_
  | refine ⟨_, r2_int, ?_⟩ | refine ⟨_, r2_bl, ?_⟩ | refine ⟨_, r2_addI, ?_⟩ | refine ⟨_, r2_eqI, ?_⟩ | refine ⟨_, r2_neI, ?_⟩ | refine ⟨_, r2_eqS, ?_⟩ | refine ⟨_, r2_neS, ?_⟩ | refine ⟨_, r2_isN, ?_⟩ | refine ⟨_, r1_neg, ?_⟩
  | refine ⟨_, rc_absI, ?_⟩ | refine ⟨_, rc_intI, ?_⟩ | refine ⟨_, rc_intB, ?_⟩ | refine ⟨_, rc_max, ?_⟩ | refine ⟨_, rc_min, ?_⟩ | refine ⟨_, rc_lenL, ?_⟩ | refine ⟨_, rc_lenT, ?_⟩ | refine ⟨_, rc_listL, ?_⟩ | refine ⟨_, rc_listT, ?_⟩ | refine ⟨_, rc_tupL, ?_⟩ | refine ⟨_, rc_tupT, ?_⟩
  | refine ⟨_, rfl, ?_⟩ | refine ⟨_, _, rfl, ?_⟩ | refine ⟨_, ⟨_, rfl, rfl⟩, ?_⟩ | refine ⟨_, ⟨_, _, rfl, rfl⟩, ?_⟩)
local macro_rules | `(tactic| walk_at "d") => `(tactic| repeat (first | walk_at "d1" | refine ⟨lenOk rfl, ?_⟩ | refine ⟨0, _, _, _, rfl, rfl, rfl, ?_⟩ | refine ⟨_, r2_ixXL rfl, ?_⟩ | refine ⟨_, r2_ixXT rfl, ?_⟩ | refine ⟨_, r2_ixXT at0, ?_⟩ | refine ⟨_, r2_ixXT at1, ?_⟩ | refine ⟨_, r2_ixXL at0, ?_⟩ | refine ⟨_, r2_ixXL at1, ?_⟩))
-- a condition whose truth comes out by computation
local macro_rules | `(tactic| walk_at "b1") => `(tactic| first
  | refine ⟨fun _ => ?_, fun h => Bool.noConfusion (show true = false from h)⟩
  | refine ⟨fun h => Bool.noConfusion (show false = true from h), fun _ => ?_⟩)
local macro_rules | `(tactic| walk_at "db") => `(tactic| repeat (first | walk_at "d1" | refine ⟨lenOk rfl, ?_⟩ | refine ⟨0, _, _, _, rfl, rfl, rfl, ?_⟩ | refine ⟨_, r2_ixXL rfl, ?_⟩ | refine ⟨_, r2_ixXT rfl, ?_⟩ | refine ⟨_, r2_ixXT at0, ?_⟩ | refine ⟨_, r2_ixXT at1, ?_⟩ | refine ⟨_, r2_ixXL at0, ?_⟩ | refine ⟨_, r2_ixXL at1, ?_⟩ | walk_at "b1"))
-- how many arguments there are
local macro_rules | `(tactic| walk_at "len") => `(tactic| (intro _ _ h; first
  | (obtain ⟨_, e, _⟩ := h; subst e; rfl) | (obtain ⟨_, _, e, _⟩ := h; subst e; rfl) | (obtain ⟨_, _, _, e, _⟩ := h; subst e; rfl) | (obtain ⟨_, _, _, _, e, _⟩ := h; subst e; rfl) | (obtain ⟨_, _, _, _, _, e, _⟩ := h; subst e; rfl)))
local macro_rules | `(tactic| walk_at "leno") => `(tactic| (intro _ _ h; first
  | (obtain ⟨⟨_, e, _⟩, _⟩ := h; subst e; rfl) | (obtain ⟨⟨_, _, e, _⟩, _⟩ := h; subst e; rfl) | (obtain ⟨e, _⟩ := h; subst e; rfl) | (obtain ⟨_, e, _⟩ := h; subst e; rfl) | (obtain ⟨_, _, e, _⟩ := h; subst e; rfl) | (obtain ⟨_, _, _, e, _⟩ := h; subst e; rfl) | (obtain ⟨_, _, _, _, e, _⟩ := h; subst e; rfl)))

variable {P : Program} {w : World} {K : PySem.W.Frag} {mg : Str → Option Value} {base : Heap}
/-! ### the law's cells and boxes -/
def cellOf (ns : List Int) (k : Nat) : Int := (ns[k]?).getD (8087 * k + 163)
abbrev R_cell (ds : List PyData) (d : PyData) : Prop := ∃ (ns : List Int) (k : Nat), ds = [.list (ns.map .int), .int k] ∧ k < 1000 ∧ d = .int (cellOf ns k)
theorem ints_at {ns : List Int} {k : Nat} (h : k < ns.length) : atI (ns.map PyData.int) k = some (.int ns[k]) := DS.atI_nat (by rw [List.getElem?_map, List.getElem?_eq_getElem h]; rfl)
theorem bdk {k : Nat} (h : k < 1000) : Bd 10 (k : Int) := by unfold Bd; omega
theorem c_L_cell (T : Top K w mg) : Cal P w K mg base "_law_cell" 1 p_L_cell (spP K R_cell) :=
  T.h_L_cell.call (fun _ _ _ _ _ _ us hl => match us, hl with | [_, _], _ => rfl) fun f fd F m => fn_pure F sc_L_cell (by walk_at "len") fun cdv A outer s H E hr => ⟨_, (pss_cons (ps_if (pt_cmpR op_lt (pv 1) (pe_callB (call_lenXK (K := K) rfl) (by rfl) T.m_len (by decide +kernel) (pa_cons (pv 0) pa_nil)) (nomark _)) (pss_one (ps_ret (pe_ix (ix_XK (K := K) rfl) (pv 0) (pv 1) (fun _ _ => rfl)))) pss_nil)
    (pss_one (ps_ret (pe_op (op_addXK (K := K) rfl) (pe_op op_mulW pe_int (pv 1)) pe_int)))), fun ds d hR => by
    obtain ⟨ns, k, rfl, hk, rfl⟩ := hR
    walk_at "d"
    rw [List.length_map]
    refine ⟨fun h => ?_, fun h => ?_⟩
    · have h : k < ns.length := by have := of_decide_eq_true h; omega
      walk_at "d"
      refine ⟨_, r2_ixXL (ints_at h), ?_⟩
      show PyData.int _ = .int (cellOf ns k)
      unfold cellOf
      rw [List.getElem?_eq_getElem h]
      rfl
    · have h : ¬ k < ns.length := by have := of_decide_eq_false h; omega
      walk_at "d"
      refine ⟨_, r2_intC (mulOk (m := 19) (n := 9) (show Bd 20 8087 by unfold Bd; decide) (bdk hk)), ?_⟩
      walk_at "d"
      unfold cellOf
      rw [List.getElem?_eq_none (by omega)]
      rfl⟩
def boxOf (cell : Int) : List PyData := [.int (if cell - 10 ^ 18 > 0 then cell - 10 ^ 18 else 0), .int (cell.fmod 2147483587), .int 0]
abbrev R_box (ds xs : List PyData) : Prop := ∃ cell : Int, ds = [.int cell] ∧ xs = boxOf cell
theorem c_L_box (T : Top K w mg) : Cal P w K mg base "_law_box" 1 p_L_box (spN K R_box) :=
  T.h_L_box.call (fun _ _ _ _ _ _ us hl => match us, hl with | [_], _ => rfl) fun f fd F m => fn_new F sc_L_box (by walk_at "len") fun cdv A outer s H E hr => ⟨_, (pss_one (ps_ret (pe_lst (pa_cons (pe_callB (call_max' rfl) (by rfl) T.m_max (by decide +kernel) (pa_cons pe_int (pa_cons (pe_op op_sub (pv 0) (pe_op op_pow pe_int pe_int)) pa_nil))) (pa_cons (pe_op op_modA (pe_callTy call_int1' (by rfl) T.m_int (by decide +kernel) (pa_cons (pv 0) pa_nil)) pe_int) (pa_cons pe_int pa_nil)))))), fun ds xs hR => by
    obtain ⟨cell, rfl, rfl⟩ := hR
    refine ⟨lenOk rfl, ?_⟩
    walk_at "d"
    refine ⟨_, r2_intC ⟨by decide, by decide, by decide⟩, ?_⟩
    walk_at "d"
    refine ⟨_, r2_intC (by decide), ?_⟩
    walk_at "d"
    rfl⟩
/-- a box of which at most m digits were taken beyond its number -/
def Bx (m : Nat) (bx : List PyData) : Prop := ∃ x y z : Int, bx = [.int x, .int y, .int z] ∧ 0 ≤ x ∧ 0 ≤ y ∧ y < 2147483648 ∧ 0 ≤ z ∧ z ≤ m
theorem Bx.mono {m n : Nat} {bx : List PyData} (h : Bx m bx) (l : m ≤ n) : Bx n bx := by
  obtain ⟨x, y, z, h1, h2, h3, h4, h5, h6⟩ := h
  exact ⟨x, y, z, h1, h2, h3, h4, h5, by omega⟩
theorem box_bx {cell : Int} : Bx 0 (boxOf cell) := ⟨_, _, _, rfl, by split <;> omega, Int.fmod_nonneg_of_pos _ (by decide), Int.lt_trans (Int.fmod_lt_of_pos _ (by decide)) (by decide), Int.le_refl _, Int.le_refl _⟩
/-- what a deed that takes at most c digits asks, promises -/
abbrev Pb (c : Nat) (bx : List PyData) : Prop := ∃ m, m + c ≤ 1000000 ∧ Bx m bx
abbrev Qb (c : Nat) (bx bx' : List PyData) : Prop := ∀ m, Bx m bx → Bx (m + c) bx'
abbrev PreT (bx ds : List PyData) : Prop := ∃ n : Nat, ds = [.int n] ∧ 1 ≤ n ∧ n ≤ 1000 ∧ Pb 1 bx
abbrev PostT (bx ds : List PyData) (d : PyData) (bx' : List PyData) : Prop := ∃ t n : Nat, ds = [.int n] ∧ d = .int t ∧ t < n ∧ Qb 1 bx bx'
theorem fmod_nat {i : Int} {n : Nat} (h : 1 ≤ n) : ∃ t : Nat, i.fmod n = t ∧ t < n := by
  have h1 : 0 ≤ i.fmod n := Int.fmod_nonneg_of_pos _ (by omega)
  have h2 : i.fmod n < n := Int.fmod_lt_of_pos _ (by omega)
  exact ⟨(i.fmod n).toNat, by omega, by omega⟩
theorem postT {n : Nat} {i : Int} {bx bx' : List PyData} (hn : 1 ≤ n) (h : Qb 1 bx bx') : PostT bx [.int n] (.int (i.fmod n)) bx' := by
  obtain ⟨t, e, ht⟩ := fmod_nat (i := i) hn
  exact ⟨t, n, rfl, by rw [e], ht, h⟩
theorem log2_small {n : Nat} (h : n ≤ 1000) : n.log2 < 9000 := by
  by_cases z : n = 0
  · subst z; decide
  · have := (Nat.log2_lt z).mpr (show n < 2 ^ 10 by omega)
    omega
theorem wide_of {i : Int} {n : Nat} (h0 : 0 ≤ i) (h : i < 2 ^ n) : Bd n i := by
  unfold Bd
  have : ((2 ^ n : Nat) : Int) = 2 ^ n := by norm_cast
  omega
theorem c_L_take (T : Top K w mg) : Cal P w K mg base "_law_take" 1 p_L_take (spO K PreT PostT) :=
  T.h_L_take.call (fun _ _ _ _ _ _ us hl => match us, hl with | [_, _], _ => rfl) fun f fd F m => fn_own F sc_L_take (by walk_at "leno") fun cdv A outer s H E hr => ⟨_, (pss_cons (ps_if (pt_cmpR op_gt (pe_ix (ix_XK (K := K) rfl) (pv 0) pe_int (fun _ _ => rfl)) pe_int (nomark _)) (pss_cons (ps_set (i := 2) sc_L_take.nd rfl (.inl rfl) (pe_op op_modA (pe_callTy call_int1' (by rfl) T.m_int (by decide +kernel) (pa_cons (pe_ix (ix_XK (K := K) rfl) (pv 0) pe_int (fun _ _ => rfl)) pa_nil)) (pv 1)))
    (pss_cons (ps_asg (pe_op op_fdivA (pe_ix (ix_XK (K := K) rfl) (pv 0) pe_int (fun _ _ => rfl)) (pv 1)) (pg_sub (pv 0) pe_int set_list))
    (pss_one (ps_ret (pv 2))))) pss_nil)
    (pss_cons (ps_asg (pe_op (op_addXK (K := K) rfl) (pe_ix (ix_XK (K := K) rfl) (pv 0) pe_int (fun _ _ => rfl)) pe_int) (pg_sub (pv 0) pe_int set_list))
    (pss_cons (ps_set (i := 3) sc_L_take.nd rfl (.inl rfl) (pe_op op_modA (pe_callTy call_int1' (by rfl) T.m_int (by decide +kernel) (pa_cons (pe_op op_pow (pe_op (op_addXK (K := K) rfl) (pe_op (op_addXK (K := K) rfl) (pe_ix (ix_XK (K := K) rfl) (pv 0) pe_int (fun _ _ => rfl)) (pe_op op_mulW pe_int (pe_ix (ix_XK (K := K) rfl) (pv 0) pe_int (fun _ _ => rfl)))) pe_int) pe_int) pa_nil)) pe_int))
    (pss_cons (ps_set (i := 4) sc_L_take.nd rfl (.inl rfl) (pe_op op_modA (pe_callTy call_int1' (by rfl) T.m_int (by decide +kernel) (pa_cons (pe_op op_pow (pe_op (op_addXK (K := K) rfl) (pe_op op_mulW (pe_ix (ix_XK (K := K) rfl) (pv 0) pe_int (fun _ _ => rfl)) (pe_ix (ix_XK (K := K) rfl) (pv 0) pe_int (fun _ _ => rfl))) pe_int) pe_int) pa_nil)) pe_int))
    (pss_one (ps_ret (pe_op op_modA (pe_op op_fdivA (pe_op (op_addXK (K := K) rfl) (pe_op op_mulW (pv 3) pe_int) (pv 4)) pe_int) (pv 1)))))))), fun b bx ds hR => by
    obtain ⟨n, rfl, hn, hn2, m, hm, x, y, z, rfl, hx, hy, hy2, hz, hz2⟩ := hR
    walk_at "d"
    refine ⟨fun h => ?_, fun h => ?_⟩
    · walk_at "d"
      refine ⟨_, r2_intC (by omega), ?_⟩
      walk_at "d"
      refine ⟨_, r2_intC ⟨by omega, ?_⟩, ?_⟩
      · rw [Int.natAbs_natCast]
        exact log2_small hn2
      walk_at "d"
      refine postT hn ?_
      rintro m' ⟨_, _, _, e, _, _, _, _, h6⟩
      cases e
      refine ⟨x.fdiv n, y, z, rfl, ?_, hy, hy2, hz, by omega⟩
      rw [Int.fdiv_eq_ediv_of_nonneg _ (by omega)]
      exact Int.ediv_nonneg hx (by omega)
    · walk_at "d"
      have hz1 : Bd 21 (z + 1) := by unfold Bd; omega
      have hy1 : Bd 31 y := by unfold Bd; omega
      have h7 : Bd 20 7001 := by unfold Bd; decide
      have hyz := hy1.mul hz1
      refine ⟨_, r2_intC (mulOk h7 hz1), ?_⟩
      walk_at "d"
      refine ⟨_, r2_intC ⟨by decide, by decide, by omega⟩, ?_⟩
      walk_at "d"
      refine ⟨_, r2_intC (by decide), ?_⟩
      walk_at "d"
      refine ⟨_, r2_intC (mulOk hy1 hz1), ?_⟩
      walk_at "d"
      refine ⟨_, r2_intC ⟨by decide, by decide, by unfold Bd at hyz; omega⟩, ?_⟩
      walk_at "d"
      refine ⟨_, r2_intC (by decide), ?_⟩
      walk_at "d"
      obtain ⟨u, hu, hul⟩ := fmod_nat (i := (y + 7001 * (z + 1) + 37) ^ Int.toNat 5) (n := 2147483647) (by decide)
      have hu1 : Bd 31 (u : Int) := by unfold Bd; omega
      have hb : Bd 31 2147483629 := by unfold Bd; decide
      refine ⟨_, r2_intC (mulOk (hu ▸ hu1) hb), ?_⟩
      walk_at "d"
      refine ⟨_, r2_intC ⟨by decide, by decide⟩, ?_⟩
      walk_at "d"
      refine ⟨_, r2_intC (by omega), ?_⟩
      walk_at "d"
      refine postT hn ?_
      rintro m' ⟨_, _, _, e, _, _, _, _, h6⟩
      cases e
      exact ⟨x, y, z + 1, rfl, hx, hy, hy2, by omega, by omega⟩⟩
/-! ### the law's own numbers -/
abbrev pT (a b : Int) : PyData := .tuple [.int a, .int b]
theorem qp_red {t b : Int} (hb : b ≠ 0) {q : Rat} (h : q * (b : Rat) = (t : Rat)) : qp q = pT (redT t b) (redB t b) := by
  rw [(red_rat hb h).1, (red_rat hb h).2]; rfl
abbrev R_low (ds : List PyData) (d : PyData) : Prop := ∃ (t b : Int) (q : Rat), ds = [.int t, .int b] ∧ b ≠ 0 ∧ Bd 900000 t ∧ Bd 8900 b ∧ q * (b : Rat) = (t : Rat) ∧ d = qp q
theorem c_L_low (T : Top K w mg) : Cal P w K mg base "_law_low" 1 p_L_low (spP K R_low) :=
  T.h_L_low.call (fun _ _ _ _ _ _ us hl => match us, hl with | [_, _], _ => rfl) fun f fd F m => fn_pure F sc_L_low (by walk_at "len") fun cdv A outer s H E hr => ⟨_, (pss_cons (ps_par (i := 2) (j := 3) (by rfl) sc_L_low.nd rfl rfl (by decide) rfl rfl (pa_cons (pe_callB call_abs' (by rfl) T.m_abs (by decide +kernel) (pa_cons (pv 0) pa_nil)) (pa_cons (pe_callB call_abs' (by rfl) T.m_abs (by decide +kernel) (pa_cons (pv 1) pa_nil)) pa_nil)) (by rfl))
    (pss_cons (ps_while PassesOwn.never (pt_cmpR op_gt (pv 3) pe_int (nomark _))
    (pss_one (ps_par (i := 2) (j := 3) (by rfl) sc_L_low.nd rfl rfl (by decide) rfl rfl (pa_cons (pv 3) (pa_cons (pe_op op_modA (pe_callTy call_int1' (by rfl) T.m_int (by decide +kernel) (pa_cons (pv 2) pa_nil)) (pv 3)) pa_nil)) (by rfl))))
    (pss_cons (ps_set (i := 4) sc_L_low.nd rfl (.inl rfl) (pe_ifExp (pt_cmpR op_gt (pv 1) pe_int (nomark _)) pe_int (pe_un un_neg pe_int)))
    (pss_one (ps_ret (pe_tup (pa_cons (pe_op op_fdivA (pe_op op_mulW (pv 4) (pv 0)) (pv 2)) (pa_cons (pe_op op_fdivA (pe_callB call_abs' (by rfl) T.m_abs (by decide +kernel) (pa_cons (pv 1) pa_nil)) (pv 2)) pa_nil)))))))), fun ds d hR => by
    obtain ⟨x, y, q, rfl, h0, hx, hy, hq, rfl⟩ := hR
    rw [qp_red h0 hq]
    walk_at "d"
    rw [abs_if x, abs_if y]
    refine ws_via (fun ρ' β' => β' = [] ∧ ρ' = [.dat (.int x), .dat (.int y), .dat (.int (Int.gcd x y)), .dat (.int 0), .no]) ?_ ?_
    · refine ws_while (fun m ρ β => ∃ a b : Nat, ρ = [.dat (.int x), .dat (.int y), .dat (.int a), .dat (.int b), .no] ∧ m = b ∧ Nat.gcd a b = Int.gcd x y ∧ β = []) y.natAbs ⟨x.natAbs, y.natAbs, rfl, rfl, rfl, rfl⟩ ?_
      rintro b ρ' β' ⟨a, _, rfl, rfl, hg, rfl⟩
      walk_at "d"
      refine ⟨fun h => ?_, fun h => ?_⟩
      · have hb : b ≠ 0 := fun z => by subst z; cases h
        walk_at "d"
        refine ⟨_, r2_intC (by omega), ?_⟩
        walk_at "d"
        refine ⟨a % b, Nat.mod_lt _ (by omega), b, a % b, ?_, rfl, ?_⟩
        · rw [Int.fmod_eq_emod_of_nonneg _ (by omega)]
          rfl
        · rw [Nat.gcd_comm, ← Nat.gcd_rec, Nat.gcd_comm]
          exact ⟨hg, rfl⟩
      · have hb : b = 0 := by
          simp at h
          omega
        subst hb
        rw [Nat.gcd_zero_right] at hg
        rw [hg]
        exact ⟨rfl, rfl⟩
    · rintro ρ' β' ⟨rfl, rfl⟩
      walk_at "d"
      have hgp := gcd_pos (t := x) h0
      have hgb : Bd 8900 (Int.gcd x y : Int) := hy.le (Nat.le_of_dvd (by omega) (Int.gcd_dvd_natAbs_right ..))
      have fin : ∀ sg : Int, sg = (if y > 0 then 1 else -1) → PyData.tuple [.int ((sg * x).fdiv (Int.gcd x y)), .int ((if y < 0 then -y else y).fdiv (Int.gcd x y))] = pT (redT x y) (redB x y) := fun sg e => by
        rw [e, low_t h0, abs_if y, low_b h0]
      refine ⟨fun h => ?_, fun h => ?_⟩
      all_goals
        walk_at "d"
        refine ⟨_, r2_intC (mulOk (bd8 (n := 8)) hx), ?_⟩
        walk_at "d"
        refine ⟨_, r2_intC (divOk (by omega) hgb), ?_⟩
        walk_at "d"
        refine ⟨_, r2_intC (divOk (by omega) hgb), ?_⟩
        walk_at "d"
      · exact fin 1 (by rw [if_pos (of_decide_eq_true h)])
      · exact fin (-1) (by rw [if_neg (of_decide_eq_false h)])⟩
abbrev R_lpair (ds : List PyData) (d : PyData) : Prop := ∃ q : Rat, ds = [qd q] ∧ d = qp q
theorem c_L_pair (T : Top K w mg) : Cal P w K mg base "_law_pair" 1 p_L_pair (spP K R_lpair) :=
  T.h_L_pair.call (fun _ _ _ _ _ _ us hl => match us, hl with | [_], _ => rfl) fun f fd F m => fn_pure F sc_L_pair (by walk_at "len") fun cdv A outer s H E hr => ⟨_, (pss_one (ps_ret (pe_ifExp (pt_val (pe_callB (call_isiXK (K := K) rfl) (by rfl) T.m_isinstance (by decide +kernel) (pa_cons (pv 0) (pa_cons (pe_ty "tuple" (by rfl) T.m_tuple (by decide +kernel)) pa_nil)))) (pv 0) (pe_tup (pa_cons (pv 0) (pa_cons pe_int pa_nil)))))), fun ds d hR => by
    obtain ⟨q, rfl, rfl⟩ := hR
    unfold qp
    rcases qd_cases q with ⟨e, h⟩ | ⟨e, h⟩ <;> rw [e] <;> walk_at "db"
    · rw [h]
    · rfl⟩
abbrev R_lnum (ds : List PyData) (d : PyData) : Prop := ∃ q : Rat, ds = [qp q] ∧ d = qd q
theorem c_L_num (T : Top K w mg) : Cal P w K mg base "_law_num" 1 p_L_num (spP K R_lnum) :=
  T.h_L_num.call (fun _ _ _ _ _ _ us hl => match us, hl with | [_], _ => rfl) fun f fd F m => fn_pure F sc_L_num (by walk_at "len") fun cdv A outer s H E hr => ⟨_, (pss_one (ps_ret (pe_ifExp (pt_cmpR (op_eqXK (K := K) rfl hr.units) (pe_ix (ix_XK (K := K) rfl) (pv 0) pe_int (fun _ _ => rfl)) pe_int (nomark _)) (pe_ix (ix_XK (K := K) rfl) (pv 0) pe_int (fun _ _ => rfl)) (pv 0)))), fun ds d hR => by
    obtain ⟨q, rfl, rfl⟩ := hR
    unfold qp
    walk_at "d"
    refine ⟨fun h => ?_, fun h => ?_⟩ <;> walk_at "d"
    · exact num_y h
    · exact num_n h⟩
abbrev R_l2 (f : Rat → Rat → Rat) (ds : List PyData) (d : PyData) : Prop := ∃ p q : Rat, ds = [qp p, qp q] ∧ Sq p ∧ Sq q ∧ d = qp (f p q)
abbrev R_lover (ds : List PyData) (d : PyData) : Prop := ∃ p q : Rat, ds = [qp p, qp q] ∧ Sq p ∧ Sq q ∧ Bd 4400 q.num ∧ q ≠ 0 ∧ d = qp (p / q)
abbrev R_lless (ds : List PyData) (d : PyData) : Prop := ∃ p q : Rat, ds = [qp p, qp q] ∧ Sq p ∧ Sq q ∧ d = .bool (decide (p < q))
theorem c_L_plus (T : Top K w mg) : Cal P w K mg base "_law_plus" 2 p_L_plus (spP K (R_l2 (fun p q => p + q))) :=
  T.h_L_plus.call (fun _ _ _ _ _ _ us hl => match us, hl with | [_, _], _ => rfl) fun f fd F m => fn_pure F sc_L_plus (by walk_at "len") fun cdv A outer s H E hr => ⟨_, (pss_one (ps_ret (pe_cal (c_L_low (P := P) (w := w) (K := K) (mg := mg) (base := base) T) (hr.mono (by omega)) (by rfl) (pa_cons (pe_op (op_addXK (K := K) rfl) (pe_op op_mulW (pe_ix (ix_XK (K := K) rfl) (pv 0) pe_int (fun _ _ => rfl)) (pe_ix (ix_XK (K := K) rfl) (pv 1) pe_int (fun _ _ => rfl))) (pe_op op_mulW (pe_ix (ix_XK (K := K) rfl) (pv 1) pe_int (fun _ _ => rfl)) (pe_ix (ix_XK (K := K) rfl) (pv 0) pe_int (fun _ _ => rfl)))) (pa_cons (pe_op op_mulW (pe_ix (ix_XK (K := K) rfl) (pv 0) pe_int (fun _ _ => rfl)) (pe_ix (ix_XK (K := K) rfl) (pv 1) pe_int (fun _ _ => rfl))) pa_nil))))), fun ds d hR => by
    obtain ⟨p, q, rfl, h1, h2, rfl⟩ := hR
    unfold qp
    walk_at "d"
    refine ⟨_, r2_intC (mulOk h1.t h2.b), ?_⟩
    walk_at "d"
    refine ⟨_, r2_intC (mulOk h2.t h1.b), ?_⟩
    walk_at "d"
    refine ⟨_, r2_intC (mulOk h1.b h2.b), ?_⟩
    walk_at "d"
    exact ⟨_, ⟨_, _, p + q, rfl, (denB h1 h2).1, ((h1.t.mul h2.b).add (h2.t.mul h1.b)).mono (by decide), (denB h1 h2).2, add_rat p q, rfl⟩, rfl⟩⟩
theorem c_L_minus (T : Top K w mg) : Cal P w K mg base "_law_minus" 2 p_L_minus (spP K (R_l2 (fun p q => p - q))) :=
  T.h_L_minus.call (fun _ _ _ _ _ _ us hl => match us, hl with | [_, _], _ => rfl) fun f fd F m => fn_pure F sc_L_minus (by walk_at "len") fun cdv A outer s H E hr => ⟨_, (pss_one (ps_ret (pe_cal (c_L_low (P := P) (w := w) (K := K) (mg := mg) (base := base) T) (hr.mono (by omega)) (by rfl) (pa_cons (pe_op op_sub (pe_op op_mulW (pe_ix (ix_XK (K := K) rfl) (pv 0) pe_int (fun _ _ => rfl)) (pe_ix (ix_XK (K := K) rfl) (pv 1) pe_int (fun _ _ => rfl))) (pe_op op_mulW (pe_ix (ix_XK (K := K) rfl) (pv 1) pe_int (fun _ _ => rfl)) (pe_ix (ix_XK (K := K) rfl) (pv 0) pe_int (fun _ _ => rfl)))) (pa_cons (pe_op op_mulW (pe_ix (ix_XK (K := K) rfl) (pv 0) pe_int (fun _ _ => rfl)) (pe_ix (ix_XK (K := K) rfl) (pv 1) pe_int (fun _ _ => rfl))) pa_nil))))), fun ds d hR => by
    obtain ⟨p, q, rfl, h1, h2, rfl⟩ := hR
    unfold qp
    walk_at "d"
    refine ⟨_, r2_intC (mulOk h1.t h2.b), ?_⟩
    walk_at "d"
    refine ⟨_, r2_intC (mulOk h2.t h1.b), ?_⟩
    walk_at "d"
    refine ⟨_, r2_intC (mulOk h1.b h2.b), ?_⟩
    walk_at "d"
    exact ⟨_, ⟨_, _, p - q, rfl, (denB h1 h2).1, ((h1.t.mul h2.b).sub (h2.t.mul h1.b)).mono (by decide), (denB h1 h2).2, sub_rat p q, rfl⟩, rfl⟩⟩
theorem c_L_times (T : Top K w mg) : Cal P w K mg base "_law_times" 2 p_L_times (spP K (R_l2 (fun p q => p * q))) :=
  T.h_L_times.call (fun _ _ _ _ _ _ us hl => match us, hl with | [_, _], _ => rfl) fun f fd F m => fn_pure F sc_L_times (by walk_at "len") fun cdv A outer s H E hr => ⟨_, (pss_one (ps_ret (pe_cal (c_L_low (P := P) (w := w) (K := K) (mg := mg) (base := base) T) (hr.mono (by omega)) (by rfl) (pa_cons (pe_op op_mulW (pe_ix (ix_XK (K := K) rfl) (pv 0) pe_int (fun _ _ => rfl)) (pe_ix (ix_XK (K := K) rfl) (pv 1) pe_int (fun _ _ => rfl))) (pa_cons (pe_op op_mulW (pe_ix (ix_XK (K := K) rfl) (pv 0) pe_int (fun _ _ => rfl)) (pe_ix (ix_XK (K := K) rfl) (pv 1) pe_int (fun _ _ => rfl))) pa_nil))))), fun ds d hR => by
    obtain ⟨p, q, rfl, h1, h2, rfl⟩ := hR
    unfold qp
    walk_at "d"
    refine ⟨_, r2_intC (mulOk h1.t h2.t), ?_⟩
    walk_at "d"
    refine ⟨_, r2_intC (mulOk h1.b h2.b), ?_⟩
    walk_at "d"
    exact ⟨_, ⟨_, _, p * q, rfl, (denB h1 h2).1, (h1.t.mul h2.t).mono (by decide), (denB h1 h2).2, mul_rat p q, rfl⟩, rfl⟩⟩
theorem c_L_over (T : Top K w mg) : Cal P w K mg base "_law_over" 2 p_L_over (spP K R_lover) :=
  T.h_L_over.call (fun _ _ _ _ _ _ us hl => match us, hl with | [_, _], _ => rfl) fun f fd F m => fn_pure F sc_L_over (by walk_at "len") fun cdv A outer s H E hr => ⟨_, (pss_one (ps_ret (pe_cal (c_L_low (P := P) (w := w) (K := K) (mg := mg) (base := base) T) (hr.mono (by omega)) (by rfl) (pa_cons (pe_op op_mulW (pe_ix (ix_XK (K := K) rfl) (pv 0) pe_int (fun _ _ => rfl)) (pe_ix (ix_XK (K := K) rfl) (pv 1) pe_int (fun _ _ => rfl))) (pa_cons (pe_op op_mulW (pe_ix (ix_XK (K := K) rfl) (pv 0) pe_int (fun _ _ => rfl)) (pe_ix (ix_XK (K := K) rfl) (pv 1) pe_int (fun _ _ => rfl))) pa_nil))))), fun ds d hR => by
    obtain ⟨p, q, rfl, h1, h2, hv, hc, rfl⟩ := hR
    unfold qp
    walk_at "d"
    refine ⟨_, r2_intC (mulOk h1.t h2.b), ?_⟩
    walk_at "d"
    refine ⟨_, r2_intC (mulOk h1.b h2.t), ?_⟩
    walk_at "d"
    exact ⟨_, ⟨_, _, p / q, rfl, Int.mul_ne_zero (denI p) (num_ne hc), (h1.t.mul h2.b).mono (by decide), (h1.b.mul hv).mono (by decide), div_rat p q hc, rfl⟩, rfl⟩⟩
theorem c_L_less (T : Top K w mg) : Cal P w K mg base "_law_less" 2 p_L_less (spP K R_lless) :=
  T.h_L_less.call (fun _ _ _ _ _ _ us hl => match us, hl with | [_, _], _ => rfl) fun f fd F m => fn_pure F sc_L_less (by walk_at "len") fun cdv A outer s H E hr => ⟨_, (pss_one (ps_ret (pe_cmpR op_lt (pe_op op_mulW (pe_ix (ix_XK (K := K) rfl) (pv 0) pe_int (fun _ _ => rfl)) (pe_ix (ix_XK (K := K) rfl) (pv 1) pe_int (fun _ _ => rfl))) (pe_op op_mulW (pe_ix (ix_XK (K := K) rfl) (pv 1) pe_int (fun _ _ => rfl)) (pe_ix (ix_XK (K := K) rfl) (pv 0) pe_int (fun _ _ => rfl))) (nomark _)))), fun ds d hR => by
    obtain ⟨p, q, rfl, h1, h2, rfl⟩ := hR
    unfold qp
    walk_at "d"
    refine ⟨_, r2_intC (mulOk h1.t h2.b), ?_⟩
    walk_at "d"
    refine ⟨_, r2_intC (mulOk h2.t h1.b), ?_⟩
    walk_at "d"
    rw [lt_rat]⟩
end K84

set_option Elab.async false
set_option linter.all false
set_option maxRecDepth 100000
set_option pp.deepTerms false
set_option pp.deepTerms.threshold 6
set_option maxHeartbeats 4000000
namespace K84
open PySem PySem.Spec PyProof.Rows L2 DS
-- the steps that need no thought: one, as many as there are
local macro_rules | `(tactic| walk_at "d1") => `(tactic| with_reducible first
  | refine ws_seq ?_ | refine ws_next ?_ | refine ws_retN ?_ | refine ws_ret ?_ | refine ws_if ?_ | refine ws_par ?_ | refine ws_setK ?_ | refine ws_newD ?_ | refine wp_cons ?_ | refine wp_nil ?_ | refine ws_newDK ?_ | refine ws_newDT ?_ | refine ws_set ?_ | refine ws_star ?_ | refine ws_setO rfl ?_ | apply ws_asg
  | refine we_var rfl ?_ | refine we_int ?_ | refine we_bl ?_ | refine we_str ?_ | refine we_non ?_ | refine we_kd ?_ | refine we_ixO rfl ?_
  | refine we_isi isg_int ?_ | refine we_isi isg_bool ?_ | refine we_isi isg_str ?_ | refine we_isi isg_list ?_ | refine we_isi isg_tuple ?_ | refine we_isi2 isg_list isg_tuple ?_ | refine we_isi2 isg_int isg_tuple ?_
  | refine we_inK ?_ | refine we_ixK ?_ | refine we_op ?_ | refine we_un ?_ | refine we_cb ?_ | refine we_tup ?_ | refine we_lst ?_ | refine we_andV ?_ | refine we_orV ?_ | refine we_notV ?_ | refine we_if ?_ | refine we_chain ?_ | refine we_sl ?_ | refine we_call ?_ | refine we_callD ?_ | refine we_rev ?_
  | refine wa_nil ?_ | refine wa_cons ?_ | refine wo_none ?_ | refine wo_some ?_ | refine wt_test ?_ | refine wt_B ?_ | refine wt_and ?_ | refine wt_or ?_ | refine wt_not ?_
  | refine wg_tup rfl ?_ | refine wgs_cons ?_ | refine wgs_nil ?_ | refine wg_name ?_
  | refine ⟨_, r2_int, ?_⟩ | refine ⟨_, r2_bl, ?_⟩ | refine ⟨_, r2_addI, ?_⟩ | refine ⟨_, r2_eqI, ?_⟩ | refine ⟨_, r2_neI, ?_⟩ | refine ⟨_, r2_eqS, ?_⟩ | refine ⟨_, r2_neS, ?_⟩ | refine ⟨_, r2_isN, ?_⟩ | refine ⟨_, r1_neg, ?_⟩
  | refine ⟨_, rc_absI, ?_⟩ | refine ⟨_, rc_intI, ?_⟩ | refine ⟨_, rc_intB, ?_⟩ | refine ⟨_, rc_max, ?_⟩ | refine ⟨_, rc_min, ?_⟩ | refine ⟨_, rc_lenL, ?_⟩ | refine ⟨_, rc_lenT, ?_⟩ | refine ⟨_, rc_listL, ?_⟩ | refine ⟨_, rc_listT, ?_⟩ | refine ⟨_, rc_tupL, ?_⟩ | refine ⟨_, rc_tupT, ?_⟩
  | refine ⟨_, rfl, ?_⟩ | refine ⟨_, _, rfl, ?_⟩ | refine ⟨_, ⟨_, rfl, rfl⟩, ?_⟩ | refine ⟨_, ⟨_, _, rfl, rfl⟩, ?_⟩)
local macro_rules | `(tactic| walk_at "d") => `(tactic| repeat (first | walk_at "d1" | refine ⟨lenOk rfl, ?_⟩ | refine ⟨0, _, _, _, rfl, rfl, rfl, ?_⟩ | refine ⟨_, r2_ixXL rfl, ?_⟩ | refine ⟨_, r2_ixXT rfl, ?_⟩ | refine ⟨_, r2_ixXT at0, ?_⟩ | refine ⟨_, r2_ixXT at1, ?_⟩ | refine ⟨_, r2_ixXL at0, ?_⟩ | refine ⟨_, r2_ixXL at1, ?_⟩))
-- a condition whose truth comes out by computation
local macro_rules | `(tactic| walk_at "b1") => `(tactic| first
  | refine ⟨fun _ => ?_, fun h => Bool.noConfusion (show true = false from h)⟩
  | refine ⟨fun h => Bool.noConfusion (show false = true from h), fun _ => ?_⟩)
local macro_rules | `(tactic| walk_at "db") => `(tactic| repeat (first | walk_at "d1" | refine ⟨lenOk rfl, ?_⟩ | refine ⟨0, _, _, _, rfl, rfl, rfl, ?_⟩ | refine ⟨_, r2_ixXL rfl, ?_⟩ | refine ⟨_, r2_ixXT rfl, ?_⟩ | refine ⟨_, r2_ixXT at0, ?_⟩ | refine ⟨_, r2_ixXT at1, ?_⟩ | refine ⟨_, r2_ixXL at0, ?_⟩ | refine ⟨_, r2_ixXL at1, ?_⟩ | walk_at "b1"))
-- how many arguments there are
local macro_rules | `(tactic| walk_at "len") => `(tactic| (intro _ _ h; first
  | (obtain ⟨_, e, _⟩ := h; subst e; rfl) | (obtain ⟨_, _, e, _⟩ := h; subst e; rfl) | (obtain ⟨_, _, _, e, _⟩ := h; subst e; rfl) | (obtain ⟨_, _, _, _, e, _⟩ := h; subst e; rfl) | (obtain ⟨_, _, _, _, _, e, _⟩ := h; subst e; rfl)))
local macro_rules | `(tactic| walk_at "leno") => `(tactic| (intro _ _ h; first
  | (obtain ⟨⟨_, e, _⟩, _⟩ := h; subst e; rfl) | (obtain ⟨⟨_, _, e, _⟩, _⟩ := h; subst e; rfl) | (obtain ⟨e, _⟩ := h; subst e; rfl) | (obtain ⟨_, e, _⟩ := h; subst e; rfl) | (obtain ⟨_, _, e, _⟩ := h; subst e; rfl) | (obtain ⟨_, _, _, e, _⟩ := h; subst e; rfl) | (obtain ⟨_, _, _, _, e, _⟩ := h; subst e; rfl)))

variable {P : Program} {w : World} {K : PySem.W.Frag} {mg : Str → Option Value} {base : Heap}
theorem pc_zero {x : Str} {k : Nat} {ps : List Str} {R : List PyData → PyData → Prop} {st : Stmt} (h : Has K mg x st [])
    (hb : ∀ (kV doc pm : Value) (an : Option Addr) (cdv ct : Value) (us : List Value), us.length = ps.length → bindArgs (PySem.W.fnOf x x (defArgs st) (defBody st) (defScope st) .none kV doc pm an cdv ct) ⟨us, []⟩ = pure (ps.zip us)) (hR : ∀ ds d, ¬ R ds d) : Cal P w K mg base x k ps (spP K R) :=
  h.call hb fun f fd F m => ⟨fun vs H Q E h => (by
      obtain ⟨_, _, _, _, _, h, _⟩ := h
      exact absurd h (hR _ _)), fun A outer s H args us vs Q E _ _ _ _ h => (by
      obtain ⟨_, _, _, _, _, h, _⟩ := h
      exact absurd h (hR _ _))⟩
/-! ### the law's own comparing: a thing with itself -/
inductive Nc : Nat → PyData → Prop
  | non {n : Nat} : Nc n .none
  | bl {n : Nat} {b : Bool} : Nc n (.bool b)
  | int {n : Nat} {i : Int} : Nc n (.int i)
  | lst {n : Nat} {ds : List PyData} : ds.length ≤ 5000000 → (∀ d ∈ ds, Nc n d) → Nc (n + 1) (.list ds)
  | tup {n : Nat} {ds : List PyData} : ds.length ≤ 5000000 → (∀ d ∈ ds, Nc n d) → Nc (n + 1) (.tuple ds)
abbrev R_same (m : Nat) (ds : List PyData) (d : PyData) : Prop := ∃ (n : Nat) (x : PyData), ds = [x, x] ∧ n < m ∧ Nc n x ∧ d = .bool true
--%%SPECIAL {('rec', '_law_same', '_law_same'): 'C', ('room', '_law_same', '_law_same'): 'hr'}
theorem c_L_same (T : Top K w mg) : ∀ m : Nat, Cal P w K mg base "_law_same" (m + 1) p_L_same (spP K (R_same m))
  | 0 => pc_zero T.h_L_same (fun _ _ _ _ _ _ us hl => match us, hl with | [_, _], _ => rfl) fun ds d ⟨_, _, _, h, _⟩ => absurd h (Nat.not_lt_zero _)
  | m + 1 => by
    have C := c_L_same T m
    exact T.h_L_same.call (fun _ _ _ _ _ _ us hl => match us, hl with | [_, _], _ => rfl) fun f fd F mm => fn_pure F sc_L_same (by walk_at "len") fun cdv A outer s H E hr => ⟨_, (pss_cons (ps_if (PW.pt (pw_or (pt_cmpR op_isNo (pv 1) pe_non (nomark _)) (pw_or1 (pt_val (pe_callB (call_isiXK (K := K) rfl) (by rfl) T.m_isinstance (by decide +kernel) (pa_cons (pv 1) (pa_cons (pe_ty "bool" (by rfl) T.m_bool (by decide +kernel)) pa_nil))))))) (pss_one (ps_ret (pe_ifExp (pt_cmpR op_isNo (pv 1) pe_non (nomark _)) (pe_cmpR op_isNo (pv 0) pe_non (nomark _)) (pe_and (pe_callB (call_isiXK (K := K) rfl) (by rfl) T.m_isinstance (by decide +kernel) (pa_cons (pv 0) (pa_cons (pe_ty "bool" (by rfl) T.m_bool (by decide +kernel)) pa_nil))) (pe_one (pe_cmpR (op_eqXK (K := K) rfl hr.units) (pe_cmpR op_isBl (pv 0) pe_bl (nomark _)) (pe_cmpR op_isBl (pv 1) pe_bl (nomark _)) (nomark _))))))) pss_nil)
    (pss_cons (ps_if (pt_val (pe_callB (call_isiXK (K := K) rfl) (by rfl) T.m_isinstance (by decide +kernel) (pa_cons (pv 1) (pa_cons (pe_ty "int" (by rfl) T.m_int (by decide +kernel)) pa_nil)))) (pss_one (ps_ret (pe_and (pe_callB (call_isiXK (K := K) rfl) (by rfl) T.m_isinstance (by decide +kernel) (pa_cons (pv 0) (pa_cons (pe_ty "int" (by rfl) T.m_int (by decide +kernel)) pa_nil))) (pe_and (pe_not (pe_callB (call_isiXK (K := K) rfl) (by rfl) T.m_isinstance (by decide +kernel) (pa_cons (pv 0) (pa_cons (pe_ty "bool" (by rfl) T.m_bool (by decide +kernel)) pa_nil)))) (pe_one (pe_cmpR (op_eqXK (K := K) rfl hr.units) (pe_op op_sub (pe_callTy call_int1' (by rfl) T.m_int (by decide +kernel) (pa_cons (pv 0) pa_nil)) (pv 1)) pe_int (nomark _))))))) pss_nil)
    (pss_cons (ps_if (pt_val (pe_callB (call_isiXK (K := K) rfl) (by rfl) T.m_isinstance (by decide +kernel) (pa_cons (pv 1) (pa_cons (pe_ty "str" (by rfl) T.m_str (by decide +kernel)) pa_nil)))) (pss_cons (ps_if (PW.pt (pw_or (pt_not (pt_val (pe_callB (call_isiXK (K := K) rfl) (by rfl) T.m_isinstance (by decide +kernel) (pa_cons (pv 0) (pa_cons (pe_ty "str" (by rfl) T.m_str (by decide +kernel)) pa_nil))))) (pw_or1 (pt_cmpR (op_neXK (K := K) rfl hr.units) (pe_callB (call_lenXK (K := K) rfl) (by rfl) T.m_len (by decide +kernel) (pa_cons (pv 0) pa_nil)) (pe_callB (call_lenXK (K := K) rfl) (by rfl) T.m_len (by decide +kernel) (pa_cons (pv 1) pa_nil)) (nomark _))))) (pss_one (ps_ret pe_bl)) pss_nil)
    (pss_one (ps_ret (pe_cmpR (op_eqXK (K := K) rfl hr.units) (pe_lc (own := [("k", 2)]) (g := gName 2) rfl sc_L_same.nd  (pi_range1 (by rfl) T.m_range (pa_cons (pe_callB (call_lenXK (K := K) rfl) (by rfl) T.m_len (by decide +kernel) (pa_cons (pv 1) pa_nil)) pa_nil))
      (blkOk_by (own := [("k", 2)]) (N := N_L_same) (sc := defScope s_L_same) (by decide +kernel)) (fun _ _ _ _ _ => pg_name (i := 2) sc_L_same.nd rfl (Or.inl rfl))
      (fun _ _ _ _ _ => (pts_one (pt_cmpR (op_neXK (K := K) rfl hr.units) (pe_slice (sl_XK (K := K) rfl) (pv 0) (po_some (pv 2)) (po_some (pe_op (op_addXK (K := K) rfl) (pv 2) pe_int))) (pe_ix (ix_XK (K := K) rfl) (pv 1) (pv 2) (fun _ _ => rfl)) (nomark _)))) (fun _ _ _ _ _ => (pv 2))) (pe_lst pa_nil) (nomark _))))) pss_nil)
    (pss_cons (ps_if (PW.pt (pw_or (pt_cmpR (op_neXK (K := K) rfl hr.units) (pe_callB (call_isiXK (K := K) rfl) (by rfl) T.m_isinstance (by decide +kernel) (pa_cons (pv 0) (pa_cons (pe_ty "list" (by rfl) T.m_list (by decide +kernel)) pa_nil))) (pe_callB (call_isiXK (K := K) rfl) (by rfl) T.m_isinstance (by decide +kernel) (pa_cons (pv 1) (pa_cons (pe_ty "list" (by rfl) T.m_list (by decide +kernel)) pa_nil))) (nomark _)) (pw_or1 (pt_cmpR (op_neXK (K := K) rfl hr.units) (pe_callB (call_isiXK (K := K) rfl) (by rfl) T.m_isinstance (by decide +kernel) (pa_cons (pv 0) (pa_cons (pe_ty "tuple" (by rfl) T.m_tuple (by decide +kernel)) pa_nil))) (pe_callB (call_isiXK (K := K) rfl) (by rfl) T.m_isinstance (by decide +kernel) (pa_cons (pv 1) (pa_cons (pe_ty "tuple" (by rfl) T.m_tuple (by decide +kernel)) pa_nil))) (nomark _))))) (pss_one (ps_ret pe_bl)) pss_nil)
    (pss_one (ps_ret (pe_and (pe_cmpR (op_eqXK (K := K) rfl hr.units) (pe_callB (call_lenXK (K := K) rfl) (by rfl) T.m_len (by decide +kernel) (pa_cons (pv 0) pa_nil)) (pe_callB (call_lenXK (K := K) rfl) (by rfl) T.m_len (by decide +kernel) (pa_cons (pv 1) pa_nil)) (nomark _)) (pe_one (pe_cmpR (op_eqXK (K := K) rfl hr.units) (pe_lc (own := [("k", 2)]) (g := gName 2) rfl sc_L_same.nd  (pi_range1 (by rfl) T.m_range (pa_cons (pe_callB (call_lenXK (K := K) rfl) (by rfl) T.m_len (by decide +kernel) (pa_cons (pv 1) pa_nil)) pa_nil))
      (blkOk_by (own := [("k", 2)]) (N := N_L_same) (sc := defScope s_L_same) (by decide +kernel)) (fun _ _ _ _ _ => pg_name (i := 2) sc_L_same.nd rfl (Or.inl rfl))
      (fun _ _ _ _ _ => (pts_one (pt_not (pt_val (pe_cal C hr (by rfl) (pa_cons (pe_ix (ix_XK (K := K) rfl) (pv 0) (pv 2) (fun _ _ => rfl)) (pa_cons (pe_ix (ix_XK (K := K) rfl) (pv 1) (pv 2) (fun _ _ => rfl)) pa_nil))))))) (fun _ _ _ _ _ => (pv 2))) (pe_lst pa_nil) (nomark _)))))))))), fun ds d hR => by
    obtain ⟨n, x, rfl, hn, hx, rfl⟩ := hR
    cases hx with
    | non => walk_at "db"; rfl
    | @bl n b =>
      cases b <;> walk_at "db" <;> (refine ⟨_, r2_isB, ?_⟩; walk_at "db"; refine ⟨_, r2_isB, ?_⟩; walk_at "db") <;> (first | rfl | skip)
      all_goals
        refine ⟨_, r2_eqB, ?_⟩
        walk_at "db"
        rfl
    | @int n i =>
      walk_at "db"
      rw [show decide (i - i = 0) = true from decide_eq_true (Int.sub_self i)]
    | @lst n ds hl hd =>
      walk_at "db"
      refine ⟨_, r2_neB, ?_⟩
      walk_at "db"
      refine ⟨_, r2_neB, ?_⟩
      walk_at "db"
      rw [show decide ((ds.length : Int) = ds.length) = true from decide_eq_true rfl]
      walk_at "db"
      refine we_lc_if (tg := [2]) (fun _ => false) id (by decide) (wi_rng1 ?_)
      walk_at "d"
      refine ⟨by omega, by omega, ?_⟩
      rw [Int.toNat_natCast]
      refine ⟨by rw [rngD_len]; exact Nat.le_trans hl (by decide), fun d hdm => ?_, ?_⟩
      · obtain ⟨i, hi⟩ := List.getElem?_of_mem hdm
        obtain ⟨hlt, rfl⟩ := rngD_get hi
        have hat : atI ds (0 + (i : Int)) = some ds[i] := by
          rw [Int.zero_add]
          exact DS.atI_nat (List.getElem?_eq_getElem hlt)
        refine wgc_name ?_
        walk_at "d"
        refine ⟨_, r2_ixXL hat, ?_⟩
        walk_at "d"
        refine ⟨_, r2_ixXL hat, ?_⟩
        walk_at "d"
        refine ⟨_, ⟨n, _, rfl, Nat.lt_of_succ_lt_succ hn, hd _ (List.getElem_mem hlt), rfl⟩, ?_⟩
        walk_at "d"
        exact ⟨rfl, rfl, fun z => nomatch z⟩
      walk_at "d"
      rw [List.filter_eq_nil_iff.mpr fun _ _ => Bool.false_ne_true]
      refine ⟨_, r2_eqE rfl rfl (Nat.le_trans (Nat.min_le_right _ _) dep_lnil), ?_⟩
      rw [show (List.map id ([] : List PyData)) = [] from rfl, eqv_lnil]
      walk_at "d"
      rfl
    | @tup n ds hl hd =>
      walk_at "db"
      refine ⟨_, r2_neB, ?_⟩
      walk_at "db"
      refine ⟨_, r2_neB, ?_⟩
      walk_at "db"
      rw [show decide ((ds.length : Int) = ds.length) = true from decide_eq_true rfl]
      walk_at "db"
      refine we_lc_if (tg := [2]) (fun _ => false) id (by decide) (wi_rng1 ?_)
      walk_at "d"
      refine ⟨by omega, by omega, ?_⟩
      rw [Int.toNat_natCast]
      refine ⟨by rw [rngD_len]; exact Nat.le_trans hl (by decide), fun d hdm => ?_, ?_⟩
      · obtain ⟨i, hi⟩ := List.getElem?_of_mem hdm
        obtain ⟨hlt, rfl⟩ := rngD_get hi
        have hat : atI ds (0 + (i : Int)) = some ds[i] := by
          rw [Int.zero_add]
          exact DS.atI_nat (List.getElem?_eq_getElem hlt)
        refine wgc_name ?_
        walk_at "d"
        refine ⟨_, r2_ixXT hat, ?_⟩
        walk_at "d"
        refine ⟨_, r2_ixXT hat, ?_⟩
        walk_at "d"
        refine ⟨_, ⟨n, _, rfl, Nat.lt_of_succ_lt_succ hn, hd _ (List.getElem_mem hlt), rfl⟩, ?_⟩
        walk_at "d"
        exact ⟨rfl, rfl, fun z => nomatch z⟩
      walk_at "d"
      rw [List.filter_eq_nil_iff.mpr fun _ _ => Bool.false_ne_true]
      refine ⟨_, r2_eqE rfl rfl (Nat.le_trans (Nat.min_le_right _ _) dep_lnil), ?_⟩
      rw [show (List.map id ([] : List PyData)) = [] from rfl, eqv_lnil]
      walk_at "d"
      rfl⟩
end K84

set_option Elab.async false
set_option linter.all false
set_option maxRecDepth 100000
set_option pp.deepTerms false
set_option pp.deepTerms.threshold 6
set_option maxHeartbeats 4000000
namespace K84
open PySem PySem.Spec PyProof.Rows L2 DS
open G84 (Pt under rowPart clampR onE)
open K77 (Bd)
-- the steps that need no thought: one, as many as there are
local macro_rules | `(tactic| walk_at "d1") => `(tactic| with_reducible first
  | refine ws_seq ?_ | refine ws_next ?_ | refine ws_retN ?_ | refine ws_ret ?_ | refine ws_if ?_ | refine ws_par ?_ | refine ws_setK ?_ | refine ws_newD ?_ | refine wp_cons ?_ | refine wp_nil ?_ | refine ws_newDK ?_ | refine ws_newDT ?_ | refine ws_set ?_ | refine ws_star ?_ | refine ws_setO rfl ?_ | apply ws_asg
  | refine we_var rfl ?_ | refine we_int ?_ | refine we_bl ?_ | refine we_str ?_ | refine we_non ?_ | refine we_kd ?_ | refine we_ixO rfl ?_
  | refine we_isi isg_int ?_ | refine we_isi isg_bool ?_ | refine we_isi isg_str ?_ | refine we_isi isg_list ?_ | refine we_isi isg_tuple ?_ | refine we_isi2 isg_list isg_tuple ?_ | refine we_isi2 isg_int isg_tuple ?_
  | refine we_inK ?_ | refine we_ixK ?_ | refine we_op ?_ | refine we_un ?_ | refine we_cb ?_ | refine we_tup ?_ | refine we_lst ?_ | refine we_andV ?_ | refine we_orV ?_ | refine we_notV ?_ | refine we_if ?_ | refine we_chain ?_ | refine we_sl ?_ | refine we_call ?_ | refine we_callD ?_ | refine we_rev ?_
  | refine wa_nil ?_ | refine wa_cons ?_ | refine wo_none ?_ | refine wo_some ?_ | refine wt_test ?_ | refine wt_B ?_ | refine wt_and ?_ | refine wt_or ?_ | refine wt_not ?_
  | refine wg_tup rfl ?_ | refine wgs_cons ?_ | refine wgs_nil ?_ | refine wg_name ?_
  | refine ⟨_, r2_int, ?_⟩ | refine ⟨_, r2_bl, ?_⟩ | refine ⟨_, r2_addI, ?_⟩ | refine ⟨_, r2_eqI, ?_⟩ | refine ⟨_, r2_neI, ?_⟩ | refine ⟨_, r2_eqS, ?_⟩ | refine ⟨_, r2_neS, ?_⟩ | refine ⟨_, r2_isN, ?_⟩ | refine ⟨_, r1_neg, ?_⟩
  | refine ⟨_, rc_absI, ?_⟩ | refine ⟨_, rc_intI, ?_⟩ | refine ⟨_, rc_intB, ?_⟩ | refine ⟨_, rc_max, ?_⟩ | refine ⟨_, rc_min, ?_⟩ | refine ⟨_, rc_lenL, ?_⟩ | refine ⟨_, rc_lenT, ?_⟩ | refine ⟨_, rc_listL, ?_⟩ | refine ⟨_, rc_listT, ?_⟩ | refine ⟨_, rc_tupL, ?_⟩ | refine ⟨_, rc_tupT, ?_⟩
  | refine ⟨_, rfl, ?_⟩ | refine ⟨_, _, rfl, ?_⟩ | refine ⟨_, ⟨_, rfl, rfl⟩, ?_⟩ | refine ⟨_, ⟨_, _, rfl, rfl⟩, ?_⟩)
local macro_rules | `(tactic| walk_at "d") => `(tactic| repeat (first | walk_at "d1" | refine ⟨lenOk rfl, ?_⟩ | refine ⟨0, _, _, _, rfl, rfl, rfl, ?_⟩ | refine ⟨_, r2_ixXL rfl, ?_⟩ | refine ⟨_, r2_ixXT rfl, ?_⟩ | refine ⟨_, r2_ixXT at0, ?_⟩ | refine ⟨_, r2_ixXT at1, ?_⟩ | refine ⟨_, r2_ixXL at0, ?_⟩ | refine ⟨_, r2_ixXL at1, ?_⟩))
-- a condition whose truth comes out by computation
local macro_rules | `(tactic| walk_at "b1") => `(tactic| first
  | refine ⟨fun _ => ?_, fun h => Bool.noConfusion (show true = false from h)⟩
  | refine ⟨fun h => Bool.noConfusion (show false = true from h), fun _ => ?_⟩)
local macro_rules | `(tactic| walk_at "db") => `(tactic| repeat (first | walk_at "d1" | refine ⟨lenOk rfl, ?_⟩ | refine ⟨0, _, _, _, rfl, rfl, rfl, ?_⟩ | refine ⟨_, r2_ixXL rfl, ?_⟩ | refine ⟨_, r2_ixXT rfl, ?_⟩ | refine ⟨_, r2_ixXT at0, ?_⟩ | refine ⟨_, r2_ixXT at1, ?_⟩ | refine ⟨_, r2_ixXL at0, ?_⟩ | refine ⟨_, r2_ixXL at1, ?_⟩ | walk_at "b1"))
-- how many arguments there are
local macro_rules | `(tactic| walk_at "len") => `(tactic| (intro _ _ h; first
  | (obtain ⟨_, e, _⟩ := h; subst e; rfl) | (obtain ⟨_, _, e, _⟩ := h; subst e; rfl) | (obtain ⟨_, _, _, e, _⟩ := h; subst e; rfl) | (obtain ⟨_, _, _, _, e, _⟩ := h; subst e; rfl) | (obtain ⟨_, _, _, _, _, e, _⟩ := h; subst e; rfl)))
local macro_rules | `(tactic| walk_at "leno") => `(tactic| (intro _ _ h; first
  | (obtain ⟨⟨_, e, _⟩, _⟩ := h; subst e; rfl) | (obtain ⟨⟨_, _, e, _⟩, _⟩ := h; subst e; rfl) | (obtain ⟨e, _⟩ := h; subst e; rfl) | (obtain ⟨_, e, _⟩ := h; subst e; rfl) | (obtain ⟨_, _, e, _⟩ := h; subst e; rfl) | (obtain ⟨_, _, _, e, _⟩ := h; subst e; rfl) | (obtain ⟨_, _, _, _, e, _⟩ := h; subst e; rfl)))

variable {P : Program} {w : World} {K : PySem.W.Frag} {mg : Str → Option Value} {base : Heap}
/-! ### _law_row_part -/
def ptP (p : Pt) : PyData := .tuple [qp p.1, qp p.2]
theorem Og.fx {p : Pt} (h : Og p) : Fq 3 10 p.1 := Fq.of (D := 6) (by decide) (by decide) h.x.1 (h.x.2.mono (by decide))
theorem Og.fy {p : Pt} (h : Og p) : Fq 3 10 p.2 := Fq.of (D := 6) (by decide) (by decide) h.y.1 (h.y.2.mono (by decide))
theorem qp_hi (r : Int) : PyData.tuple [.int (64 * r + 64), .int 1] = qp (r64 (r + 1)) := by
  unfold qp r64
  rw [Rat.num_intCast, Rat.den_intCast, Int.mul_add]
  rfl
theorem qp_lo (r : Int) : PyData.tuple [.int (64 * r), .int 1] = qp (r64 r) := rfl
theorem eqv_qp (p q : Rat) : PyData.eqv (qp p) (qp q) = decide (p = q) := by
  rw [Bool.eq_iff_iff, decide_eq_true_eq]
  unfold qp
  simp [PyData.eqv, PyData.eqvAll]
  constructor
  · rintro ⟨h1, h2⟩; exact Rat.ext h1 (by omega)
  · rintro rfl; exact ⟨rfl, rfl⟩
theorem shaped_qp (q : Rat) : SeqAt.shaped (qp q) = true := rfl
def rpD : Option (Pt × Pt) → PyData
  | none => .none
  | some (a, b) => .list [ptP a, ptP b]
abbrev R_row_part (ds : List PyData) (d : PyData) : Prop := ∃ (p q : Pt) (r : Int), ds = [ptP p, ptP q, .int r] ∧ Og p ∧ Og q ∧ r.natAbs ≤ 4000 ∧ d = rpD (rowPart (r64 r) (r64 (r + 1)) p q)
theorem slope_ok {p q : Pt} (hp : Og p) (hq : Og q) (h : p.2 ≠ q.2) : Sq (q.1 - p.1) ∧ Sq (q.2 - p.2) ∧ Bd 4400 (q.2 - p.2).num ∧ q.2 - p.2 ≠ 0 ∧ Fq 33 27 ((q.1 - p.1) / (q.2 - p.2)) := by
  have h1 := hq.fx.sub hp.fx
  have h2 := hq.fy.sub hp.fy
  have h0 : q.2 - p.2 ≠ 0 := by grind
  exact ⟨h1.sq (by decide) (by decide), h2.sq (by decide) (by decide), h2.sv (by decide), h0, h1.div h2 h0⟩
theorem end_ok {a y b t : Rat} (ha : Fq 3 10 a) (hy : Fq 3 20 y) (hb : Fq 3 10 b) (ht : Fq 33 27 t) : Sq a ∧ Sq y ∧ Sq b ∧ Sq t ∧ Sq (y - b) ∧ Sq (t * (y - b)) := by
  have h1 := hy.sub hb
  have h2 := ht.mul h1
  exact ⟨ha.sq (by decide) (by decide), hy.sq (by decide) (by decide), hb.sq (by decide) (by decide), ht.sq (by decide) (by decide), h1.sq (by decide) (by decide), h2.sq (by decide) (by decide)⟩
theorem clamp_ok {lo hi y : Rat} (hl : Fq 0 20 lo) (hh : Fq 0 20 hi) (hy : Fq 3 10 y) : Fq 3 20 (clampR lo hi y) := by
  unfold clampR
  split
  · exact hl.mono (by decide) (by decide)
  · split
    · exact hh.mono (by decide) (by decide)
    · exact hy.mono (by decide) (by decide)
theorem c_L_row_part (T : Top K w mg) : Cal P w K mg base "_law_row_part" 3 p_L_row_part (spP K R_row_part) :=
  T.h_L_row_part.call (fun _ _ _ _ _ _ us hl => match us, hl with | [_, _, _], _ => rfl) fun f fd F m => fn_pure F sc_L_row_part (by walk_at "len") fun cdv A outer s H E hr => ⟨_, (pss_cons (ps_par (i := 3) (j := 4) (by rfl) sc_L_row_part.nd rfl rfl (by decide) rfl rfl (pa_cons (pe_tup (pa_cons (pe_op op_mulW pe_int (pv 2)) (pa_cons pe_int pa_nil))) (pa_cons (pe_tup (pa_cons (pe_op (op_addXK (K := K) rfl) (pe_op op_mulW pe_int (pv 2)) pe_int) (pa_cons pe_int pa_nil))) pa_nil)) (by rfl))
    (pss_cons (ps_if (pt_cmpR (op_eqXK (K := K) rfl hr.units) (pe_ix (ix_XK (K := K) rfl) (pv 0) pe_int (fun _ _ => rfl)) (pe_ix (ix_XK (K := K) rfl) (pv 1) pe_int (fun _ _ => rfl)) (nomark _)) (pss_one (ps_ret pe_non)) pss_nil)
    (pss_cons (ps_set (i := 5) sc_L_row_part.nd rfl (.inl rfl) (pe_cal (c_L_over (P := P) (w := w) (K := K) (mg := mg) (base := base) T) (hr.mono (by omega)) (by rfl) (pa_cons (pe_cal (c_L_minus (P := P) (w := w) (K := K) (mg := mg) (base := base) T) (hr.mono (by omega)) (by rfl) (pa_cons (pe_ix (ix_XK (K := K) rfl) (pv 1) pe_int (fun _ _ => rfl)) (pa_cons (pe_ix (ix_XK (K := K) rfl) (pv 0) pe_int (fun _ _ => rfl)) pa_nil))) (pa_cons (pe_cal (c_L_minus (P := P) (w := w) (K := K) (mg := mg) (base := base) T) (hr.mono (by omega)) (by rfl) (pa_cons (pe_ix (ix_XK (K := K) rfl) (pv 1) pe_int (fun _ _ => rfl)) (pa_cons (pe_ix (ix_XK (K := K) rfl) (pv 0) pe_int (fun _ _ => rfl)) pa_nil))) pa_nil))))
    (pss_cons (ps_set (i := 6) sc_L_row_part.nd rfl (.inl rfl) (pe_lst pa_nil))
    (pss_cons (ps_for PassesOwn.never rfl (pi_XK (K := K) rfl (pe_lst (pa_cons (pv 0) (pa_cons (pv 1) pa_nil)))) (pg_name (i := 7) sc_L_row_part.nd rfl (.inl rfl))
    (pss_cons (ps_set (i := 8) sc_L_row_part.nd rfl (.inl rfl) (pe_ix (ix_XK (K := K) rfl) (pv 7) pe_int (fun _ _ => rfl)))
    (pss_cons (ps_set (i := 8) sc_L_row_part.nd rfl (.inl rfl) (pe_ifExp (pt_val (pe_cal (c_L_less (P := P) (w := w) (K := K) (mg := mg) (base := base) T) (hr.mono (by omega)) (by rfl) (pa_cons (pv 8) (pa_cons (pv 3) pa_nil)))) (pv 3) (pe_ifExp (pt_val (pe_cal (c_L_less (P := P) (w := w) (K := K) (mg := mg) (base := base) T) (hr.mono (by omega)) (by rfl) (pa_cons (pv 4) (pa_cons (pv 8) pa_nil)))) (pv 4) (pv 8))))
    (pss_one (ps_expr (pe_bm PySem.F.plainAttrs_list PySem.F.slot_list_append PySem.F.type_list_append mt_append (pv 6) (pa_cons (pe_tup (pa_cons (pe_cal (c_L_plus (P := P) (w := w) (K := K) (mg := mg) (base := base) T) (hr.mono (by omega)) (by rfl) (pa_cons (pe_ix (ix_XK (K := K) rfl) (pv 0) pe_int (fun _ _ => rfl)) (pa_cons (pe_cal (c_L_times (P := P) (w := w) (K := K) (mg := mg) (base := base) T) (hr.mono (by omega)) (by rfl) (pa_cons (pv 5) (pa_cons (pe_cal (c_L_minus (P := P) (w := w) (K := K) (mg := mg) (base := base) T) (hr.mono (by omega)) (by rfl) (pa_cons (pv 8) (pa_cons (pe_ix (ix_XK (K := K) rfl) (pv 0) pe_int (fun _ _ => rfl)) pa_nil))) pa_nil))) pa_nil))) (pa_cons (pv 8) pa_nil))) pa_nil)))))))
    (pss_one (ps_ret (pe_ifExp (pt_cmpR (op_eqXK (K := K) rfl hr.units) (pe_ix (ix_XK (K := K) rfl) (pe_ix (ix_XK (K := K) rfl) (pv 6) pe_int (fun _ _ => rfl)) pe_int (fun _ _ => rfl)) (pe_ix (ix_XK (K := K) rfl) (pe_ix (ix_XK (K := K) rfl) (pv 6) pe_int (fun _ _ => rfl)) pe_int (fun _ _ => rfl)) (nomark _)) pe_non (pv 6))))))))), fun ds d hR => by
    obtain ⟨p, q, r, rfl, hp, hq, hr, rfl⟩ := hR
    have hlo := r64_ok (c := r) (by omega)
    have hhi := r64_ok (c := r + 1) (by omega)
    unfold ptP
    walk_at "d"
    refine ⟨_, r2_intC (mulOk (m := 19) (n := 19) (bd_of (by decide)) (bd_of (by omega))), ?_⟩
    walk_at "d"
    refine ⟨_, r2_intC (mulOk (m := 19) (n := 19) (bd_of (by decide)) (bd_of (by omega))), ?_⟩
    walk_at "d"
    rw [qp_hi, qp_lo]
    refine ⟨_, r2_eqD (shaped_qp _) (shaped_qp _), ?_⟩
    rw [eqv_qp]
    have hR : rowPart (r64 r) (r64 (r + 1)) p q = if p.2 = q.2 then none else if clampR (r64 r) (r64 (r + 1)) p.2 = clampR (r64 r) (r64 (r + 1)) q.2 then none else some (onE p q (clampR (r64 r) (r64 (r + 1)) p.2), onE p q (clampR (r64 r) (r64 (r + 1)) q.2)) := rfl
    rw [hR]
    clear hR
    generalize r64 r = lo at *
    generalize r64 (r + 1) = hi at *
    walk_at "d"
    refine ⟨fun h => ?_, fun h => ?_⟩
    · have h : p.2 = q.2 := of_decide_eq_true h
      rw [if_pos h]
      walk_at "d"
      rfl
    have h : p.2 ≠ q.2 := of_decide_eq_false h
    rw [if_neg h]
    obtain ⟨s1, s2, s3, s4, s5⟩ := slope_ok hp hq h
    have px := hp.fx.sq (by decide) (by decide)
    have py := hp.fy.sq (by decide) (by decide)
    have qx := hq.fx.sq (by decide) (by decide)
    have qy := hq.fy.sq (by decide) (by decide)
    walk_at "d"
    refine ⟨_, ⟨_, _, rfl, qx, px, rfl⟩, ?_⟩
    walk_at "d"
    refine ⟨_, ⟨_, _, rfl, qy, py, rfl⟩, ?_⟩
    walk_at "d"
    refine ⟨_, ⟨_, _, rfl, s1, s2, s3, s4, rfl⟩, ?_⟩
    rw [show ((fun p q : Rat => p - q) q.1 p.1) / ((fun p q : Rat => p - q) q.2 p.2) = (q.1 - p.1) / (q.2 - p.2) from rfl]
    have hE : ∀ y, onE p q y = (p.1 + (q.1 - p.1) / (q.2 - p.2) * (y - p.2), y) := fun y => rfl
    generalize (q.1 - p.1) / (q.2 - p.2) = t at *
    refine ws_seq (ws_newO ?_)
    walk_at "d"
    intro a ha
    refine ws_seq (ws_for (wi_X ?_))
    walk_at "d"
    refine ⟨_, .inl rfl, fun i ρ β => ∃ s7 s8 : Slot, ρ = [.dat (.tuple [qp p.1, qp p.2]), .dat (.tuple [qp q.1, qp q.2]), .dat (.int r), .dat (qp lo), .dat (qp hi), .dat (qp t), .raw (.ref a), s7, s8] ∧ β = [(a, .lst (([p, q].take i).map fun z => ptP (onE p q (clampR lo hi z.2))))], ⟨_, _, rfl, rfl⟩, ?_, ?_⟩
    · rintro i d ρ' β' hd ⟨s7, s8, rfl, rfl⟩
      obtain ⟨z, hz, hzo, rfl⟩ : ∃ z, [p, q][i]? = some z ∧ Og z ∧ d = .tuple [qp z.1, qp z.2] := by
        match i with
        | 0 => cases hd; exact ⟨p, rfl, hp, rfl⟩
        | 1 => cases hd; exact ⟨q, rfl, hq, rfl⟩
        | i + 2 => cases hd
      have htk : ([p, q].take (i + 1)).map (fun z => ptP (onE p q (clampR lo hi z.2))) = ([p, q].take i).map (fun z => ptP (onE p q (clampR lo hi z.2))) ++ [ptP (onE p q (clampR lo hi z.2))] := by
        rw [List.take_add_one, hz, List.map_append]; rfl
      have hlen : (([p, q].take i).map (fun z => ptP (onE p q (clampR lo hi z.2)))).length ≤ 2 := by rw [List.length_map, List.length_take]; simp; omega
      rw [hE] at htk
      generalize ([p, q].take i).map (fun z => ptP (onE p q (clampR lo hi z.2))) = acc at *
      have hlos := hlo.sq (by decide) (by decide)
      have hhis := hhi.sq (by decide) (by decide)
      have zx := hzo.fx.sq (by decide) (by decide)
      have zy := hzo.fy.sq (by decide) (by decide)
      have hy := clamp_ok hlo hhi hzo.fy
      obtain ⟨e1, e2, e3, e4, e5, e6⟩ := end_ok hp.fx hy hp.fy s5
      have hc : clampR lo hi z.2 = if z.2 < lo then lo else if hi < z.2 then hi else z.2 := rfl
      refine wg_name ?_
      refine ws_seq (ws_set ?_)
      refine we_op (we_var rfl (we_int ⟨_, r2_ixXT at1, ?_⟩))
      refine ws_cut (fun ρ β => ρ = [.dat (.tuple [qp p.1, qp p.2]), .dat (.tuple [qp q.1, qp q.2]), .dat (.int r), .dat (qp lo), .dat (qp hi), .dat (qp t), .raw (.ref a), .dat (.tuple [qp z.1, qp z.2]), .dat (qp (clampR lo hi z.2))] ∧ β = [(a, .lst acc)]) ?_ ?_
      · walk_at "d"
        refine ⟨_, ⟨_, _, rfl, zy, hlos, rfl⟩, ?_⟩
        walk_at "d"
        refine ⟨fun h => ?_, fun h => ?_⟩
        · have h : z.2 < lo := of_decide_eq_true h
          walk_at "d"
          rw [hc, if_pos h]
          exact ⟨rfl, rfl⟩
        · have h : ¬ z.2 < lo := of_decide_eq_false h
          walk_at "d"
          refine ⟨_, ⟨_, _, rfl, hhis, zy, rfl⟩, ?_⟩
          walk_at "d"
          refine ⟨fun h2 => ?_, fun h2 => ?_⟩
          · have h2 : hi < z.2 := of_decide_eq_true h2
            walk_at "d"
            rw [hc, if_neg h, if_pos h2]
            exact ⟨rfl, rfl⟩
          · have h2 : ¬ hi < z.2 := of_decide_eq_false h2
            walk_at "d"
            rw [hc, if_neg h, if_neg h2]
            exact ⟨rfl, rfl⟩
      · rintro ρ' β' ⟨rfl, rfl⟩
        clear hc
        generalize clampR lo hi z.2 = Y at *
        refine ws_appO (j := 0) rfl ⟨_, rfl⟩ ?_
        walk_at "d"
        refine ⟨_, ⟨_, _, rfl, e2, e3, rfl⟩, ?_⟩
        walk_at "d"
        refine ⟨_, ⟨_, _, rfl, e4, e5, rfl⟩, ?_⟩
        walk_at "d"
        refine ⟨_, ⟨_, _, rfl, e1, e6, rfl⟩, ?_⟩
        walk_at "d"
        refine ⟨Nat.lt_of_le_of_lt hlen (by decide), _, _, rfl, ?_⟩
        rw [htk]
        rfl
    · rintro ρ' β' ⟨s7, s8, rfl, rfl⟩
      refine ws_frz (i := 6) (j := 0) rfl rfl (by simp) ?_
      rw [show (([p, q].take [PyData.tuple [qp p.1, qp p.2], .tuple [qp q.1, qp q.2]].length).map fun z => ptP (onE p q (clampR lo hi z.2))) = [ptP (onE p q (clampR lo hi p.2)), ptP (onE p q (clampR lo hi q.2))] from rfl]
      unfold ptP
      walk_at "d"
      refine ⟨_, r2_eqD (shaped_qp _) (shaped_qp _), ?_⟩
      rw [eqv_qp]
      have e2 : ∀ y, (onE p q y).2 = y := fun _ => rfl
      rw [e2, e2]
      walk_at "d"
      refine ⟨fun h => ?_, fun h => ?_⟩
      · rw [if_pos (of_decide_eq_true h)]
        walk_at "d"
        rfl
      · rw [if_neg (of_decide_eq_false h)]
        walk_at "d"
        rfl⟩
end K84

set_option Elab.async false
set_option linter.all false
set_option maxRecDepth 100000
set_option pp.deepTerms false
set_option pp.deepTerms.threshold 6
set_option maxHeartbeats 4000000
namespace K84
open PySem PySem.Spec PyProof.Rows L2 DS
open G84 (Pt under rowPart clampR onE)
open K77 (Bd)
-- the steps that need no thought: one, as many as there are
local macro_rules | `(tactic| walk_at "d1") => `(tactic| with_reducible first
  | refine ws_seq ?_ | refine ws_next ?_ | refine ws_retN ?_ | refine ws_ret ?_ | refine ws_if ?_ | refine ws_par ?_ | refine ws_par3 ?_ | refine ws_setK ?_ | refine ws_newD ?_ | refine wp_cons ?_ | refine wp_nil ?_ | refine ws_newDK ?_ | refine ws_newDT ?_ | refine ws_set ?_ | refine ws_star ?_ | refine ws_setO rfl ?_ | apply ws_asg
  | refine we_var rfl ?_ | refine we_int ?_ | refine we_bl ?_ | refine we_str ?_ | refine we_non ?_ | refine we_kd ?_ | refine we_ixO rfl ?_
  | refine we_isi isg_int ?_ | refine we_isi isg_bool ?_ | refine we_isi isg_str ?_ | refine we_isi isg_list ?_ | refine we_isi isg_tuple ?_ | refine we_isi2 isg_list isg_tuple ?_ | refine we_isi2 isg_int isg_tuple ?_
  | refine we_inK ?_ | refine we_ixK ?_ | refine we_op ?_ | refine we_un ?_ | refine we_cb ?_ | refine we_tup ?_ | refine we_lst ?_ | refine we_andV ?_ | refine we_orV ?_ | refine we_notV ?_ | refine we_if ?_ | refine we_chain ?_ | refine we_sl ?_ | refine we_call ?_ | refine we_callD ?_ | refine we_rev ?_
  | refine wa_nil ?_ | refine wa_cons ?_ | refine wo_none ?_ | refine wo_some ?_ | refine wt_test ?_ | refine wt_B ?_ | refine wt_and ?_ | refine wt_or ?_ | refine wt_not ?_
  | refine wg_tup rfl ?_ | refine wgs_cons ?_ | refine wgs_nil ?_ | refine wg_name ?_
  | refine ⟨_, r2_int, ?_⟩ | refine ⟨_, r2_bl, ?_⟩ | refine ⟨_, r2_addI, ?_⟩ | refine ⟨_, r2_eqI, ?_⟩ | refine ⟨_, r2_neI, ?_⟩ | refine ⟨_, r2_eqS, ?_⟩ | refine ⟨_, r2_neS, ?_⟩ | refine ⟨_, r2_isN, ?_⟩ | refine ⟨_, r1_neg, ?_⟩
  | refine ⟨_, rc_absI, ?_⟩ | refine ⟨_, rc_intI, ?_⟩ | refine ⟨_, rc_intB, ?_⟩ | refine ⟨_, rc_max, ?_⟩ | refine ⟨_, rc_min, ?_⟩ | refine ⟨_, rc_lenL, ?_⟩ | refine ⟨_, rc_lenT, ?_⟩ | refine ⟨_, rc_listL, ?_⟩ | refine ⟨_, rc_listT, ?_⟩ | refine ⟨_, rc_tupL, ?_⟩ | refine ⟨_, rc_tupT, ?_⟩
  | refine ⟨_, rfl, ?_⟩ | refine ⟨_, _, rfl, ?_⟩ | refine ⟨_, ⟨_, rfl, rfl⟩, ?_⟩ | refine ⟨_, ⟨_, _, rfl, rfl⟩, ?_⟩)
local macro_rules | `(tactic| walk_at "d") => `(tactic| repeat (first | walk_at "d1" | refine ⟨lenOk rfl, ?_⟩ | refine ⟨0, _, _, _, rfl, rfl, rfl, ?_⟩ | refine ⟨_, r2_ixXL rfl, ?_⟩ | refine ⟨_, r2_ixXT rfl, ?_⟩ | refine ⟨_, r2_ixXT at0, ?_⟩ | refine ⟨_, r2_ixXT at1, ?_⟩ | refine ⟨_, r2_ixXL at0, ?_⟩ | refine ⟨_, r2_ixXL at1, ?_⟩))
-- a condition whose truth comes out by computation
local macro_rules | `(tactic| walk_at "b1") => `(tactic| first
  | refine ⟨fun _ => ?_, fun h => Bool.noConfusion (show true = false from h)⟩
  | refine ⟨fun h => Bool.noConfusion (show false = true from h), fun _ => ?_⟩)
local macro_rules | `(tactic| walk_at "db") => `(tactic| repeat (first | walk_at "d1" | refine ⟨lenOk rfl, ?_⟩ | refine ⟨0, _, _, _, rfl, rfl, rfl, ?_⟩ | refine ⟨_, r2_ixXL rfl, ?_⟩ | refine ⟨_, r2_ixXT rfl, ?_⟩ | refine ⟨_, r2_ixXT at0, ?_⟩ | refine ⟨_, r2_ixXT at1, ?_⟩ | refine ⟨_, r2_ixXL at0, ?_⟩ | refine ⟨_, r2_ixXL at1, ?_⟩ | walk_at "b1"))
-- how many arguments there are
local macro_rules | `(tactic| walk_at "len") => `(tactic| (intro _ _ h; first
  | (obtain ⟨_, e, _⟩ := h; subst e; rfl) | (obtain ⟨_, _, e, _⟩ := h; subst e; rfl) | (obtain ⟨_, _, _, e, _⟩ := h; subst e; rfl) | (obtain ⟨_, _, _, _, e, _⟩ := h; subst e; rfl) | (obtain ⟨_, _, _, _, _, e, _⟩ := h; subst e; rfl)))
local macro_rules | `(tactic| walk_at "leno") => `(tactic| (intro _ _ h; first
  | (obtain ⟨⟨_, e, _⟩, _⟩ := h; subst e; rfl) | (obtain ⟨⟨_, _, e, _⟩, _⟩ := h; subst e; rfl) | (obtain ⟨e, _⟩ := h; subst e; rfl) | (obtain ⟨_, e, _⟩ := h; subst e; rfl) | (obtain ⟨_, _, e, _⟩ := h; subst e; rfl) | (obtain ⟨_, _, _, e, _⟩ := h; subst e; rfl) | (obtain ⟨_, _, _, _, e, _⟩ := h; subst e; rfl)))

variable {P : Program} {w : World} {K : PySem.W.Frag} {mg : Str → Option Value} {base : Heap}
/-! ### _law_under -/
abbrev R_under (ds : List PyData) (d : PyData) : Prop := ∃ (p q : Pt) (L : Rat), ds = [ptP p, ptP q, qp L] ∧ Vok p ∧ Vok q ∧ Fq 0 20 L ∧ d = qp (under L p q)
theorem one_ok : Fq 0 20 ((1 : Int) : Rat) := Fq.int (by decide)
theorem two_ok : Fq 0 20 ((2 : Int) : Rat) := Fq.int (by decide)
theorem c_L_under (T : Top K w mg) : Cal P w K mg base "_law_under" 3 p_L_under (spP K R_under) :=
  T.h_L_under.call (fun _ _ _ _ _ _ us hl => match us, hl with | [_, _, _], _ => rfl) fun f fd F m => fn_pure F sc_L_under (by walk_at "len") fun cdv A outer s H E hr => ⟨_, (pss_cons (ps_par3 (i := 3) (j := 4) (l := 5) (by rfl) sc_L_under.nd rfl rfl rfl (by decide) (by decide) (by decide) rfl rfl rfl (pa_cons (pe_ix (ix_XK (K := K) rfl) (pv 0) pe_int (fun _ _ => rfl)) (pa_cons (pe_ix (ix_XK (K := K) rfl) (pv 1) pe_int (fun _ _ => rfl)) (pa_cons (pe_cal (c_L_minus (P := P) (w := w) (K := K) (mg := mg) (base := base) T) (hr.mono (by omega)) (by rfl) (pa_cons (pe_ix (ix_XK (K := K) rfl) (pv 1) pe_int (fun _ _ => rfl)) (pa_cons (pe_ix (ix_XK (K := K) rfl) (pv 0) pe_int (fun _ _ => rfl)) pa_nil))) pa_nil))) (by rfl))
    (pss_cons (ps_if (PW.pt (pw_and (pt_not (pt_val (pe_cal (c_L_less (P := P) (w := w) (K := K) (mg := mg) (base := base) T) (hr.mono (by omega)) (by rfl) (pa_cons (pv 2) (pa_cons (pv 3) pa_nil))))) (pw_and1 (pt_not (pt_val (pe_cal (c_L_less (P := P) (w := w) (K := K) (mg := mg) (base := base) T) (hr.mono (by omega)) (by rfl) (pa_cons (pv 2) (pa_cons (pv 4) pa_nil)))))))) (pss_one (ps_ret (pe_cal (c_L_times (P := P) (w := w) (K := K) (mg := mg) (base := base) T) (hr.mono (by omega)) (by rfl) (pa_cons (pv 5) (pa_cons (pe_cal (c_L_over (P := P) (w := w) (K := K) (mg := mg) (base := base) T) (hr.mono (by omega)) (by rfl) (pa_cons (pe_cal (c_L_plus (P := P) (w := w) (K := K) (mg := mg) (base := base) T) (hr.mono (by omega)) (by rfl) (pa_cons (pv 3) (pa_cons (pv 4) pa_nil))) (pa_cons (pe_tup (pa_cons pe_int (pa_cons pe_int pa_nil))) pa_nil))) pa_nil))))) pss_nil)
    (pss_cons (ps_if (PW.pt (pw_and (pt_not (pt_val (pe_cal (c_L_less (P := P) (w := w) (K := K) (mg := mg) (base := base) T) (hr.mono (by omega)) (by rfl) (pa_cons (pv 3) (pa_cons (pv 2) pa_nil))))) (pw_and1 (pt_not (pt_val (pe_cal (c_L_less (P := P) (w := w) (K := K) (mg := mg) (base := base) T) (hr.mono (by omega)) (by rfl) (pa_cons (pv 4) (pa_cons (pv 2) pa_nil)))))))) (pss_one (ps_ret (pe_cal (c_L_times (P := P) (w := w) (K := K) (mg := mg) (base := base) T) (hr.mono (by omega)) (by rfl) (pa_cons (pv 5) (pa_cons (pv 2) pa_nil))))) pss_nil)
    (pss_cons (ps_set (i := 6) sc_L_under.nd rfl (.inl rfl) (pe_cal (c_L_over (P := P) (w := w) (K := K) (mg := mg) (base := base) T) (hr.mono (by omega)) (by rfl) (pa_cons (pe_cal (c_L_minus (P := P) (w := w) (K := K) (mg := mg) (base := base) T) (hr.mono (by omega)) (by rfl) (pa_cons (pv 2) (pa_cons (pv 3) pa_nil))) (pa_cons (pe_cal (c_L_minus (P := P) (w := w) (K := K) (mg := mg) (base := base) T) (hr.mono (by omega)) (by rfl) (pa_cons (pv 4) (pa_cons (pv 3) pa_nil))) pa_nil))))
    (pss_cons (ps_set (i := 7) sc_L_under.nd rfl (.inl rfl) (pe_cal (c_L_minus (P := P) (w := w) (K := K) (mg := mg) (base := base) T) (hr.mono (by omega)) (by rfl) (pa_cons (pe_tup (pa_cons pe_int (pa_cons pe_int pa_nil))) (pa_cons (pv 6) pa_nil))))
    (pss_cons (ps_if (pt_val (pe_cal (c_L_less (P := P) (w := w) (K := K) (mg := mg) (base := base) T) (hr.mono (by omega)) (by rfl) (pa_cons (pv 3) (pa_cons (pv 2) pa_nil)))) (pss_one (ps_set (i := 8) sc_L_under.nd rfl (.inl rfl) (pe_cal (c_L_plus (P := P) (w := w) (K := K) (mg := mg) (base := base) T) (hr.mono (by omega)) (by rfl) (pa_cons (pe_cal (c_L_times (P := P) (w := w) (K := K) (mg := mg) (base := base) T) (hr.mono (by omega)) (by rfl) (pa_cons (pv 6) (pa_cons (pe_cal (c_L_over (P := P) (w := w) (K := K) (mg := mg) (base := base) T) (hr.mono (by omega)) (by rfl) (pa_cons (pe_cal (c_L_plus (P := P) (w := w) (K := K) (mg := mg) (base := base) T) (hr.mono (by omega)) (by rfl) (pa_cons (pv 3) (pa_cons (pv 2) pa_nil))) (pa_cons (pe_tup (pa_cons pe_int (pa_cons pe_int pa_nil))) pa_nil))) pa_nil))) (pa_cons (pe_cal (c_L_times (P := P) (w := w) (K := K) (mg := mg) (base := base) T) (hr.mono (by omega)) (by rfl) (pa_cons (pv 7) (pa_cons (pv 2) pa_nil))) pa_nil))))) (pss_one (ps_set (i := 8) sc_L_under.nd rfl (.inl rfl) (pe_cal (c_L_plus (P := P) (w := w) (K := K) (mg := mg) (base := base) T) (hr.mono (by omega)) (by rfl) (pa_cons (pe_cal (c_L_times (P := P) (w := w) (K := K) (mg := mg) (base := base) T) (hr.mono (by omega)) (by rfl) (pa_cons (pv 6) (pa_cons (pv 2) pa_nil))) (pa_cons (pe_cal (c_L_times (P := P) (w := w) (K := K) (mg := mg) (base := base) T) (hr.mono (by omega)) (by rfl) (pa_cons (pv 7) (pa_cons (pe_cal (c_L_over (P := P) (w := w) (K := K) (mg := mg) (base := base) T) (hr.mono (by omega)) (by rfl) (pa_cons (pe_cal (c_L_plus (P := P) (w := w) (K := K) (mg := mg) (base := base) T) (hr.mono (by omega)) (by rfl) (pa_cons (pv 2) (pa_cons (pv 4) pa_nil))) (pa_cons (pe_tup (pa_cons pe_int (pa_cons pe_int pa_nil))) pa_nil))) pa_nil))) pa_nil))))))
    (pss_one (ps_ret (pe_cal (c_L_times (P := P) (w := w) (K := K) (mg := mg) (base := base) T) (hr.mono (by omega)) (by rfl) (pa_cons (pv 5) (pa_cons (pv 8) pa_nil))))))))))), fun ds d hR => by
    obtain ⟨p, q, L, rfl, hp, hq, hL, rfl⟩ := hR
    have o1 := one_ok.sq (by decide) (by decide)
    have o2 := two_ok.sq (by decide) (by decide)
    have o2v := two_ok.sv (by decide)
    have hLs := hL.sq (by decide) (by decide)
    have fh := hq.y.sub hp.y
    have sh := fh.sq (by decide) (by decide)
    have fab := hp.x.add hq.x
    have f1 := fab.div two_ok (by decide)
    have fla := hL.sub hp.x
    have fba := hq.x.sub hp.x
    have hU : under L p q = if ¬ L < p.1 ∧ ¬ L < q.1 then (q.2 - p.2) * ((p.1 + q.1) / 2)
      else if ¬ p.1 < L ∧ ¬ q.1 < L then (q.2 - p.2) * L
      else if p.1 < L then (q.2 - p.2) * ((L - p.1) / (q.1 - p.1) * ((p.1 + L) / 2) + (1 - (L - p.1) / (q.1 - p.1)) * L)
      else (q.2 - p.2) * ((L - p.1) / (q.1 - p.1) * L + (1 - (L - p.1) / (q.1 - p.1)) * ((L + q.1) / 2)) := rfl
    rw [hU]
    clear hU
    unfold ptP
    walk_at "d"
    refine ⟨_, ⟨_, _, rfl, hq.sy, hp.sy, rfl⟩, ?_⟩
    walk_at "d"
    refine ⟨_, _, _, rfl, ?_⟩
    have b1 : ∀ {a b : Rat}, (!decide (a < b)) = true → ¬ a < b := fun h => by simpa using h
    have b0 : ∀ {a b : Rat}, (!decide (a < b)) = false → a < b := fun h => by simpa using h
    refine ws_cut (fun ρ β => ¬ (¬ L < p.1 ∧ ¬ L < q.1) ∧ ρ = [.dat (.tuple [qp p.1, qp p.2]), .dat (.tuple [qp q.1, qp q.2]), .dat (qp L), .dat (qp p.1), .dat (qp q.1), .dat (qp (q.2 - p.2)), .no, .no, .no] ∧ β = []) ?_ ?_
    · walk_at "d"
      refine ⟨_, ⟨_, _, rfl, hLs, hp.sx, rfl⟩, ?_⟩
      walk_at "d"
      refine ⟨fun h1 => ?_, fun h1 => ⟨fun z => (nomatch z), fun _ => ?_⟩⟩
      · walk_at "d"
        refine ⟨_, ⟨_, _, rfl, hLs, hq.sx, rfl⟩, ?_⟩
        walk_at "d"
        refine ⟨fun h2 => ?_, fun h2 => ?_⟩
        · rw [if_pos ⟨b1 h1, b1 h2⟩]
          walk_at "d"
          refine ⟨_, ⟨_, _, rfl, hp.sx, hq.sx, rfl⟩, ?_⟩
          walk_at "d"
          refine ⟨_, ⟨_, ((2 : Int) : Rat), rfl, fab.sq (by decide) (by decide), o2, o2v, by decide, rfl⟩, ?_⟩
          walk_at "d"
          refine ⟨_, ⟨_, _, rfl, sh, f1.sq (by decide) (by decide), rfl⟩, ?_⟩
          rfl
        · walk_at "d"
          exact ⟨fun z => z.2 (b0 h2), rfl, rfl⟩
      · walk_at "d"
        exact ⟨fun z => z.1 (b0 h1), rfl, rfl⟩
    rintro ρ' β' ⟨n1, rfl, rfl⟩
    rw [if_neg n1]
    refine ws_cut (fun ρ β => ¬ (¬ p.1 < L ∧ ¬ q.1 < L) ∧ ρ = [.dat (.tuple [qp p.1, qp p.2]), .dat (.tuple [qp q.1, qp q.2]), .dat (qp L), .dat (qp p.1), .dat (qp q.1), .dat (qp (q.2 - p.2)), .no, .no, .no] ∧ β = []) ?_ ?_
    · walk_at "d"
      refine ⟨_, ⟨_, _, rfl, hp.sx, hLs, rfl⟩, ?_⟩
      walk_at "d"
      refine ⟨fun h1 => ?_, fun h1 => ⟨fun z => (nomatch z), fun _ => ?_⟩⟩
      · walk_at "d"
        refine ⟨_, ⟨_, _, rfl, hq.sx, hLs, rfl⟩, ?_⟩
        walk_at "d"
        refine ⟨fun h2 => ?_, fun h2 => ?_⟩
        · rw [if_pos ⟨b1 h1, b1 h2⟩]
          walk_at "d"
          refine ⟨_, ⟨_, _, rfl, sh, hLs, rfl⟩, ?_⟩
          rfl
        · walk_at "d"
          exact ⟨fun z => z.2 (b0 h2), rfl, rfl⟩
      · walk_at "d"
        exact ⟨fun z => z.1 (b0 h1), rfl, rfl⟩
    rintro ρ' β' ⟨n2, rfl, rfl⟩
    rw [if_neg n2]
    have hne : q.1 - p.1 ≠ 0 := by
      intro z
      have e : q.1 = p.1 := by grind
      rw [e] at n1 n2
      grind
    have fs := fla.div fba hne
    have ss := fs.sq (by decide) (by decide)
    have fr := one_ok.sub fs
    have sr := fr.sq (by decide) (by decide)
    have fpl := hp.x.add hL
    have spl := fpl.sq (by decide) (by decide)
    have fm1 := fpl.div two_ok (by decide)
    have sm1 := fm1.sq (by decide) (by decide)
    have fm2 := fs.mul fm1
    have sm2 := fm2.sq (by decide) (by decide)
    have fm3 := fr.mul hL
    have sm3 := fm3.sq (by decide) (by decide)
    have sm4 := (fm2.add fm3).sq (by decide) (by decide)
    have fql := hL.add hq.x
    have sql := fql.sq (by decide) (by decide)
    have fn1 := fql.div two_ok (by decide)
    have sn1 := fn1.sq (by decide) (by decide)
    have fn2 := fs.mul hL
    have sn2 := fn2.sq (by decide) (by decide)
    have fn3 := fr.mul fn1
    have sn3 := fn3.sq (by decide) (by decide)
    have sn4 := (fn2.add fn3).sq (by decide) (by decide)
    walk_at "d"
    refine ⟨_, ⟨_, _, rfl, hLs, hp.sx, rfl⟩, ?_⟩
    walk_at "d"
    refine ⟨_, ⟨_, _, rfl, hq.sx, hp.sx, rfl⟩, ?_⟩
    walk_at "d"
    refine ⟨_, ⟨_, _, rfl, fla.sq (by decide) (by decide), fba.sq (by decide) (by decide), fba.sv (by decide), hne, rfl⟩, ?_⟩
    walk_at "d"
    refine ⟨_, ⟨((1 : Int) : Rat), _, rfl, o1, ss, rfl⟩, ?_⟩
    walk_at "d"
    refine ⟨_, ⟨_, _, rfl, hp.sx, hLs, rfl⟩, ?_⟩
    walk_at "d"
    refine ⟨fun h5 => ?_, fun h5 => ?_⟩
    · have h5 : p.1 < L := of_decide_eq_true h5
      rw [if_pos h5]
      walk_at "d"
      refine ⟨_, ⟨_, _, rfl, hp.sx, hLs, rfl⟩, ?_⟩
      walk_at "d"
      refine ⟨_, ⟨_, ((2 : Int) : Rat), rfl, spl, o2, o2v, by decide, rfl⟩, ?_⟩
      walk_at "d"
      refine ⟨_, ⟨_, _, rfl, ss, sm1, rfl⟩, ?_⟩
      walk_at "d"
      refine ⟨_, ⟨_, _, rfl, sr, hLs, rfl⟩, ?_⟩
      walk_at "d"
      refine ⟨_, ⟨_, _, rfl, sm2, sm3, rfl⟩, ?_⟩
      walk_at "d"
      refine ⟨_, ⟨_, _, rfl, sh, sm4, rfl⟩, ?_⟩
      rfl
    · have h5 : ¬ p.1 < L := of_decide_eq_false h5
      rw [if_neg h5]
      walk_at "d"
      refine ⟨_, ⟨_, _, rfl, ss, hLs, rfl⟩, ?_⟩
      walk_at "d"
      refine ⟨_, ⟨_, _, rfl, hLs, hq.sx, rfl⟩, ?_⟩
      walk_at "d"
      refine ⟨_, ⟨_, ((2 : Int) : Rat), rfl, sql, o2, o2v, by decide, rfl⟩, ?_⟩
      walk_at "d"
      refine ⟨_, ⟨_, _, rfl, sr, sn1, rfl⟩, ?_⟩
      walk_at "d"
      refine ⟨_, ⟨_, _, rfl, sn2, sn3, rfl⟩, ?_⟩
      walk_at "d"
      refine ⟨_, ⟨_, _, rfl, sh, sn4, rfl⟩, ?_⟩
      rfl⟩
end K84

set_option Elab.async false
set_option linter.all false
set_option maxRecDepth 100000
set_option pp.deepTerms false
set_option pp.deepTerms.threshold 6
set_option maxHeartbeats 4000000
namespace K84
open PySem PySem.Spec PyProof.Rows L2 DS
open G84 (Pt under rowPart clampR onE edge ps cyc lastP lastD G)
open K77 (Bd)
-- the steps that need no thought: one, as many as there are
local macro_rules | `(tactic| walk_at "d1") => `(tactic| with_reducible first
  | refine ws_seq ?_ | refine ws_next ?_ | refine ws_retN ?_ | refine ws_ret ?_ | refine ws_if ?_ | refine ws_par ?_ | refine ws_par3 ?_ | refine ws_setK ?_ | refine ws_newD ?_ | refine wp_cons ?_ | refine wp_nil ?_ | refine ws_newDK ?_ | refine ws_newDT ?_ | refine ws_set ?_ | refine ws_star ?_ | refine ws_setO rfl ?_ | apply ws_asg
  | refine we_var rfl ?_ | refine we_int ?_ | refine we_bl ?_ | refine we_str ?_ | refine we_non ?_ | refine we_kd ?_ | refine we_ixO rfl ?_
  | refine we_isi isg_int ?_ | refine we_isi isg_bool ?_ | refine we_isi isg_str ?_ | refine we_isi isg_list ?_ | refine we_isi isg_tuple ?_ | refine we_isi2 isg_list isg_tuple ?_ | refine we_isi2 isg_int isg_tuple ?_
  | refine we_inK ?_ | refine we_ixK ?_ | refine we_op ?_ | refine we_un ?_ | refine we_cb ?_ | refine we_tup ?_ | refine we_lst ?_ | refine we_andV ?_ | refine we_orV ?_ | refine we_notV ?_ | refine we_if ?_ | refine we_chain ?_ | refine we_sl ?_ | refine we_call ?_ | refine we_callD ?_ | refine we_rev ?_
  | refine wa_nil ?_ | refine wa_cons ?_ | refine wo_none ?_ | refine wo_some ?_ | refine wt_test ?_ | refine wt_B ?_ | refine wt_and ?_ | refine wt_or ?_ | refine wt_not ?_
  | refine wg_tup rfl ?_ | refine wgs_cons ?_ | refine wgs_nil ?_ | refine wg_name ?_
  | refine ⟨_, r2_int, ?_⟩ | refine ⟨_, r2_bl, ?_⟩ | refine ⟨_, r2_addI, ?_⟩ | refine ⟨_, r2_eqI, ?_⟩ | refine ⟨_, r2_neI, ?_⟩ | refine ⟨_, r2_eqS, ?_⟩ | refine ⟨_, r2_neS, ?_⟩ | refine ⟨_, r2_isN, ?_⟩ | refine ⟨_, r1_neg, ?_⟩
  | refine ⟨_, rc_absI, ?_⟩ | refine ⟨_, rc_intI, ?_⟩ | refine ⟨_, rc_intB, ?_⟩ | refine ⟨_, rc_max, ?_⟩ | refine ⟨_, rc_min, ?_⟩ | refine ⟨_, rc_lenL, ?_⟩ | refine ⟨_, rc_lenT, ?_⟩ | refine ⟨_, rc_listL, ?_⟩ | refine ⟨_, rc_listT, ?_⟩ | refine ⟨_, rc_tupL, ?_⟩ | refine ⟨_, rc_tupT, ?_⟩
  | refine ⟨_, rfl, ?_⟩ | refine ⟨_, _, rfl, ?_⟩ | refine ⟨_, ⟨_, rfl, rfl⟩, ?_⟩ | refine ⟨_, ⟨_, _, rfl, rfl⟩, ?_⟩)
local macro_rules | `(tactic| walk_at "d") => `(tactic| repeat (first | walk_at "d1" | refine ⟨lenOk rfl, ?_⟩ | refine ⟨0, _, _, _, rfl, rfl, rfl, ?_⟩ | refine ⟨_, r2_ixXL rfl, ?_⟩ | refine ⟨_, r2_ixXT rfl, ?_⟩ | refine ⟨_, r2_ixXT at0, ?_⟩ | refine ⟨_, r2_ixXT at1, ?_⟩ | refine ⟨_, r2_ixXL at0, ?_⟩ | refine ⟨_, r2_ixXL at1, ?_⟩))
-- a condition whose truth comes out by computation
local macro_rules | `(tactic| walk_at "b1") => `(tactic| first
  | refine ⟨fun _ => ?_, fun h => Bool.noConfusion (show true = false from h)⟩
  | refine ⟨fun h => Bool.noConfusion (show false = true from h), fun _ => ?_⟩)
local macro_rules | `(tactic| walk_at "db") => `(tactic| repeat (first | walk_at "d1" | refine ⟨lenOk rfl, ?_⟩ | refine ⟨0, _, _, _, rfl, rfl, rfl, ?_⟩ | refine ⟨_, r2_ixXL rfl, ?_⟩ | refine ⟨_, r2_ixXT rfl, ?_⟩ | refine ⟨_, r2_ixXT at0, ?_⟩ | refine ⟨_, r2_ixXT at1, ?_⟩ | refine ⟨_, r2_ixXL at0, ?_⟩ | refine ⟨_, r2_ixXL at1, ?_⟩ | walk_at "b1"))
-- how many arguments there are
local macro_rules | `(tactic| walk_at "len") => `(tactic| (intro _ _ h; first
  | (obtain ⟨_, e, _⟩ := h; subst e; rfl) | (obtain ⟨_, _, e, _⟩ := h; subst e; rfl) | (obtain ⟨_, _, _, e, _⟩ := h; subst e; rfl) | (obtain ⟨_, _, _, _, e, _⟩ := h; subst e; rfl) | (obtain ⟨_, _, _, _, _, e, _⟩ := h; subst e; rfl)))
local macro_rules | `(tactic| walk_at "leno") => `(tactic| (intro _ _ h; first
  | (obtain ⟨⟨_, e, _⟩, _⟩ := h; subst e; rfl) | (obtain ⟨⟨_, _, e, _⟩, _⟩ := h; subst e; rfl) | (obtain ⟨e, _⟩ := h; subst e; rfl) | (obtain ⟨_, e, _⟩ := h; subst e; rfl) | (obtain ⟨_, _, e, _⟩ := h; subst e; rfl) | (obtain ⟨_, _, _, e, _⟩ := h; subst e; rfl) | (obtain ⟨_, _, _, _, e, _⟩ := h; subst e; rfl)))

variable {P : Program} {w : World} {K : PySem.W.Frag} {mg : Str → Option Value} {base : Heap}
/-! ### _law_cell_range -/
theorem fl_div (q : Rat) : q.num.fdiv (64 * (q.den : Int)) = fl q := by
  have hd := q.den_pos
  have key : ∀ n : Int, n ≤ q.num.fdiv (64 * (q.den : Int)) ↔ n ≤ fl q := fun n => by
    rw [fl_le, Int.fdiv_eq_ediv_of_nonneg _ (by omega), Int.le_ediv_iff_mul_le (by omega), Rat.le_iff, Rat.num_intCast, Rat.den_intCast]
    have e : n * (64 * (q.den : Int)) = 64 * n * (q.den : Int) := by rw [← Int.mul_assoc, Int.mul_comm n 64]
    rw [e]
    simp
  have h1 := (key (q.num.fdiv (64 * (q.den : Int)))).mp (Int.le_refl _)
  have h2 := (key (fl q)).mpr (Int.le_refl _)
  omega
def llo (qs : List Rat) : Int := minI (qs.map fl)
def lhi (qs : List Rat) : Int := maxI (qs.map fl) + 1
abbrev R_lcr (ds : List PyData) (d : PyData) : Prop := ∃ qs : List Rat, ds = [.list (qs.map qp)] ∧ qs ≠ [] ∧ (∀ q ∈ qs, Fq 3 10 q) ∧ qs.length ≤ 1000 ∧ d = .tuple [.int (llo qs), .int (lhi qs)]
theorem c_L_cell_range (T : Top K w mg) : Cal P w K mg base "_law_cell_range" 1 p_L_cell_range (spP K R_lcr) :=
  T.h_L_cell_range.call (fun _ _ _ _ _ _ us hl => match us, hl with | [_], _ => rfl) fun f fd F m => fn_pure F sc_L_cell_range (by walk_at "len") fun cdv A outer s H E hr => ⟨_, (pss_cons (ps_setLc (i := 1) (own := [("number", 2)]) (g := gName 2) rfl sc_L_cell_range.nd rfl rfl (sw_true rfl rfl rfl (by decide +kernel)) (pi_XK (K := K) rfl (pv 0))
      (blkOk_by (own := [("number", 2)]) (N := N_L_cell_range) (sc := defScope s_L_cell_range) (by decide +kernel)) (fun _ _ _ _ _ => pg_name (i := 2) sc_L_cell_range.nd rfl (Or.inl rfl))
      (fun _ _ _ _ _ => pts_nil) (fun _ _ _ _ _ => (pe_op op_fdivA (pe_ix (ix_XK (K := K) rfl) (pv 2) pe_int (fun _ _ => rfl)) (pe_op op_mulW pe_int (pe_ix (ix_XK (K := K) rfl) (pv 2) pe_int (fun _ _ => rfl))))))
    (pss_one (ps_ret (pe_tup (pa_cons (pe_callB (cr_minL (K := K) rfl rfl) (by rfl) T.m_min (by decide +kernel) (pa_cons (pv 1) pa_nil)) (pa_cons (pe_op (op_addXK (K := K) rfl) (pe_callB (cr_maxL (K := K) rfl rfl) (by rfl) T.m_max (by decide +kernel) (pa_cons (pv 1) pa_nil)) pe_int) pa_nil)))))), fun ds d hR => by
    obtain ⟨qs, rfl, hne, hq, hn, rfl⟩ := hR
    refine ws_seq (ws_set ?_)
    refine we_lc_ix (tg := [2]) (by decide) (wi_X (we_var rfl ⟨_, .inl rfl, (qs.map fl).map .int, line10 (by rw [List.length_map]; omega), by simp, ?_, ?_⟩))
    · intro i d y hd hy
      obtain ⟨q, e1, rfl⟩ := get_map hd
      obtain ⟨z, e2, rfl⟩ := get_map hy
      rw [List.getElem?_map, e1] at e2
      cases e2
      have hf := hq q (List.mem_of_getElem? e1)
      have hb := (hf.bd (by decide) (by decide)).2
      refine wgc_name ?_
      unfold qp
      walk_at "d"
      refine ⟨_, r2_intC (mulOk (m := 7) (n := 3999) bd8 hb), ?_⟩
      walk_at "d"
      have hb64 : Bd 4008 (64 * (q.den : Int)) := (bd8 (n := 8)).mul hb
      have hn0 : 64 * (q.den : Int) ≠ 0 := by have := q.den_pos; omega
      refine ⟨_, r2_intC (divOk hn0 hb64), ?_⟩
      rw [fl_div]
      exact ⟨rfl, rfl⟩
    have m1 := minI_ok (l := qs.map fl) (by simpa using hne)
    have m2 := maxI_ok (l := qs.map fl) (by simpa using hne)
    walk_at "d"
    refine ⟨_, rc_minL m1.1 m1.2, ?_⟩
    walk_at "d"
    refine ⟨_, rc_maxL m2.1 m2.2, ?_⟩
    walk_at "d"
    rfl⟩
/-! ### _law_greys -/
def plP (l : List Pt) : PyData := .list (l.map ptP)
theorem at_aheadF {f : Pt → PyData} {l : List Pt} {i : Nat} {q : Pt} (h : l[i]? = some q) : atI (l.map f) ((i : Int) - 1) = some (f (lastD (lastP l) (l.take i))) := by
  cases i with
  | zero =>
    have hn : l ≠ [] := fun z => by rw [z] at h; cases h
    rw [show ((0 : Nat) : Int) - 1 = -1 from rfl]
    refine atI_last ?_
    rw [List.getLast?_map, lastP_get hn]
    rfl
  | succ i =>
    have hi : i < l.length := by have := (List.getElem?_eq_some_iff.mp h).1; omega
    have hq : l[i]? = some l[i] := List.getElem?_eq_getElem hi
    rw [show ((i + 1 : Nat) : Int) - 1 = (i : Int) by omega, last_take hq]
    refine DS.atI_nat ?_
    rw [List.getElem?_map, hq]
    rfl
/-- a polygon of the law -/
structure Lg (l : List Pt) : Prop where
  n : 1 ≤ l.length ∧ l.length ≤ 6
  o : ∀ p ∈ l, Og p
  s : ∀ p ∈ l, Ab 700 p.1 ∧ Ab 700 p.2
theorem Lg.pq {l : List Pt} (h : Lg l) : Pq (Dl l) l := ⟨og_pg h.o, Dl_ne, Dl_le h.o (by have := h.n; omega)⟩
theorem og_fl {q : Rat} (h : Ab 1000 q) : -16 ≤ fl q ∧ fl q ≤ 15 ∧ -15 ≤ ce q ∧ ce q ≤ 16 := by
  unfold Ab at h
  have e : ((1000 : Nat) : Rat) = 1000 := rfl
  rw [e] at h
  have c1 : ((64 * (-16) : Int) : Rat) = -1024 := rfl
  have c2 : ((64 * 16 : Int) : Rat) = 1024 := rfl
  refine ⟨fl_le.mpr (by rw [c1]; grind), ?_, ?_, ce_le.mpr (by rw [c2]; grind)⟩
  · have : ¬ 16 ≤ fl q := fun z => by have := fl_le.mp z; rw [c2] at this; grind
    omega
  · have : ¬ ce q ≤ -16 := fun z => by have := ce_le.mp z; rw [c1] at this; grind
    omega
theorem Lg.x {l : List Pt} (h : Lg l) : -16 ≤ llo (xsO l) ∧ llo (xsO l) < lhi (xsO l) ∧ lhi (xsO l) ≤ 16 := by
  have hn : xsO l ≠ [] := by intro z; have := h.n.1; simp [xsO] at z; subst z; simp at this
  obtain ⟨m1, m2⟩ := minI_ok (l := (xsO l).map fl) (by simpa using hn)
  obtain ⟨m3, m4⟩ := maxI_ok (l := (xsO l).map fl) (by simpa using hn)
  obtain ⟨q, hq, e1⟩ := List.mem_map.mp m1
  obtain ⟨q2, hq2, e2⟩ := List.mem_map.mp m3
  obtain ⟨p, hp, rfl⟩ := List.mem_map.mp hq
  obtain ⟨p2, hp2, rfl⟩ := List.mem_map.mp hq2
  have g1 := og_fl (h.o p hp).x.2
  have g2 := og_fl (h.o p2 hp2).x.2
  have g3 := m4 _ m1
  unfold llo lhi
  omega
theorem Lg.y {l : List Pt} (h : Lg l) : -16 ≤ llo (ysO l) ∧ llo (ysO l) < lhi (ysO l) ∧ lhi (ysO l) ≤ 16 := by
  have hn : ysO l ≠ [] := by intro z; have := h.n.1; simp [ysO] at z; subst z; simp at this
  obtain ⟨m1, m2⟩ := minI_ok (l := (ysO l).map fl) (by simpa using hn)
  obtain ⟨m3, m4⟩ := maxI_ok (l := (ysO l).map fl) (by simpa using hn)
  obtain ⟨q, hq, e1⟩ := List.mem_map.mp m1
  obtain ⟨q2, hq2, e2⟩ := List.mem_map.mp m3
  obtain ⟨p, hp, rfl⟩ := List.mem_map.mp hq
  obtain ⟨p2, hp2, rfl⟩ := List.mem_map.mp hq2
  have g1 := og_fl (h.o p hp).y.2
  have g2 := og_fl (h.o p2 hp2).y.2
  have g3 := m4 _ m1
  unfold llo lhi
  omega
def gcell (l : List Pt) (k : Int × Int) : List Key × PyData := (pK k, qp (G l k.1 k.2))
def boxL (l : List Pt) : List (Int × Int) := (rngI (llo (ysO l)) (lhi (ysO l))).flatMap fun r => (rngI (llo (xsO l)) (lhi (xsO l))).map fun c => (r, c)
abbrev R_lgreys (ds : List PyData) (d : PyData) : Prop := ∃ l : List Pt, ds = [plP l] ∧ Lg l ∧ d = dTD ((boxL l).map (gcell l))
theorem lcr_x {l : List Pt} (h : Lg l) : R_lcr [.list (l.map fun p => qp p.1)] (.tuple [.int (llo (xsO l)), .int (lhi (xsO l))]) := by
  refine ⟨xsO l, by unfold xsO; rw [List.map_map]; rfl, ?_, ?_, ?_, rfl⟩
  · intro z; have := h.n.1; simp [xsO] at z; subst z; simp at this
  · intro q hq
    obtain ⟨p, hp, rfl⟩ := List.mem_map.mp hq
    exact (h.o p hp).fx
  · have := h.n.2; unfold xsO; rw [List.length_map]; omega
theorem lcr_y {l : List Pt} (h : Lg l) : R_lcr [.list (l.map fun p => qp p.2)] (.tuple [.int (llo (ysO l)), .int (lhi (ysO l))]) := by
  refine ⟨ysO l, by unfold ysO; rw [List.map_map]; rfl, ?_, ?_, ?_, rfl⟩
  · intro z; have := h.n.1; simp [ysO] at z; subst z; simp at this
  · intro q hq
    obtain ⟨p, hp, rfl⟩ := List.mem_map.mp hq
    exact (h.o p hp).fy
  · have := h.n.2; unfold ysO; rw [List.length_map]; omega
theorem put_newT {kvs : List (List Key × PyData)} {k : List Key} {v : PyData} (h : ∀ p ∈ kvs, p.1 ≠ k) : putT kvs k v = kvs ++ [(k, v)] := by
  unfold putT
  rw [if_neg]
  intro z
  rw [List.any_eq_true] at z
  obtain ⟨p, h1, h2⟩ := z
  exact h p h1 (of_decide_eq_true h2)
theorem pK_inj {a b : Int × Int} (h : pK a = pK b) : a = b := by
  unfold pK at h
  simp at h
  exact Prod.ext h.1 h.2
def edgesL (l : List Pt) (r : Int) : List PyData := (List.range l.length).map fun k => rpD (rowPart (r64 r) (r64 (r + 1)) (lastD (lastP l) (l.take k)) (l.getD k (0, 0)))
theorem edgesL_get {l : List Pt} {r : Int} {k : Nat} {d : PyData} (h : (edgesL l r)[k]? = some d) : ∃ q, l[k]? = some q ∧ d = rpD (rowPart (r64 r) (r64 (r + 1)) (lastD (lastP l) (l.take k)) q) := by
  unfold edgesL at h
  rw [List.getElem?_map] at h
  by_cases hk : k < l.length
  · rw [List.getElem?_range hk] at h
    have hq : l[k]? = some l[k] := List.getElem?_eq_getElem hk
    refine ⟨l[k], hq, ?_⟩
    have := Option.some.inj h
    rw [← this]
    simp [List.getD_eq_getElem?_getD, hq]
  · rw [List.getElem?_eq_none (by rw [List.length_range]; omega)] at h; cases h
theorem edgesL_len {l : List Pt} {r : Int} : (edgesL l r).length = l.length := by unfold edgesL; rw [List.length_map, List.length_range]
theorem eu_none {r c : Int} {p q : Pt} (h : rowPart (r64 r) (r64 (r + 1)) p q = none) : eu r c p q = 0 := by
  unfold eu edge; unfold r64 at h; rw [h]
theorem eu_some {r c : Int} {p q A B : Pt} (h : rowPart (r64 r) (r64 (r + 1)) p q = some (A, B)) : eu r c p q = under (r64 c) A B := by
  unfold eu edge; unfold r64 at h; rw [h]; rfl
theorem qp_zero : PyData.tuple [.int 0, .int 1] = qp 0 := rfl
theorem qp_cell (c : Int) : PyData.tuple [.int (64 * c), .int 1] = qp (r64 c) := rfl
theorem c_L_greys (T : Top K w mg) : Cal P w K mg base "_law_greys" 4 p_L_greys (spP K R_lgreys) :=
  T.h_L_greys.call (fun _ _ _ _ _ _ us hl => match us, hl with | [_], _ => rfl) fun f fd F m => fn_pure F sc_L_greys (by walk_at "len") fun cdv A outer s H E hr => ⟨_, (pss_cons (ps_asg (pe_cal (c_L_cell_range (P := P) (w := w) (K := K) (mg := mg) (base := base) T) (hr.mono (by omega)) (by rfl) (pa_cons (pe_lc (own := [("x", 12), ("y", 13)]) (g := gTup K 2 (gCons (gName 12) (gCons (gName 13) gNil))) rfl sc_L_greys.nd  (pi_XK (K := K) rfl (pv 0))
      (blkOk_by (own := [("x", 12), ("y", 13)]) (N := N_L_greys) (sc := defScope s_L_greys) (by decide +kernel)) (fun _ _ _ _ _ => pg_tupK (K := K) (n := 2) rfl (by rfl) (pgs_cons (pg_name (i := 12) sc_L_greys.nd rfl (Or.inl rfl)) (pgs_cons (pg_name (i := 13) sc_L_greys.nd rfl (Or.inl rfl)) pgs_nil)))
      (fun _ _ _ _ _ => pts_nil) (fun _ _ _ _ _ => (pv 12))) pa_nil)) (pg_tupK (K := K) (n := 2) rfl (by rfl) (pgs_cons (pg_name (i := 1) sc_L_greys.nd rfl (.inl rfl)) (pgs_cons (pg_name (i := 2) sc_L_greys.nd rfl (.inl rfl)) pgs_nil))))
    (pss_cons (ps_set (i := 3) sc_L_greys.nd rfl (.inl rfl) pe_dnewT)
    (pss_cons (ps_asg (pe_cal (c_L_cell_range (P := P) (w := w) (K := K) (mg := mg) (base := base) T) (hr.mono (by omega)) (by rfl) (pa_cons (pe_lc (own := [("x", 12), ("y", 13)]) (g := gTup K 2 (gCons (gName 12) (gCons (gName 13) gNil))) rfl sc_L_greys.nd  (pi_XK (K := K) rfl (pv 0))
      (blkOk_by (own := [("x", 12), ("y", 13)]) (N := N_L_greys) (sc := defScope s_L_greys) (by decide +kernel)) (fun _ _ _ _ _ => pg_tupK (K := K) (n := 2) rfl (by rfl) (pgs_cons (pg_name (i := 12) sc_L_greys.nd rfl (Or.inl rfl)) (pgs_cons (pg_name (i := 13) sc_L_greys.nd rfl (Or.inl rfl)) pgs_nil)))
      (fun _ _ _ _ _ => pts_nil) (fun _ _ _ _ _ => (pv 13))) pa_nil)) (pg_tupK (K := K) (n := 2) rfl (by rfl) (pgs_cons (pg_name (i := 4) sc_L_greys.nd rfl (.inl rfl)) (pgs_cons (pg_name (i := 5) sc_L_greys.nd rfl (.inl rfl)) pgs_nil))))
    (pss_cons (ps_for PassesOwn.never rfl (pi_range2 (by rfl) T.m_range (pa_cons (pv 4) (pa_cons (pv 5) pa_nil))) (pg_name (i := 6) sc_L_greys.nd rfl (.inr rfl))
    (pss_cons (ps_setLc (i := 7) (own := [("k", 14)]) (g := gName 14) rfl sc_L_greys.nd rfl rfl (sw_true rfl rfl rfl (by decide +kernel)) (pi_range1 (by rfl) T.m_range (pa_cons (pe_callB (call_lenXK (K := K) rfl) (by rfl) T.m_len (by decide +kernel) (pa_cons (pv 0) pa_nil)) pa_nil))
      (blkOk_by (own := [("k", 14)]) (N := N_L_greys) (sc := defScope s_L_greys) (by decide +kernel)) (fun _ _ _ _ _ => pg_name (i := 14) sc_L_greys.nd rfl (Or.inl rfl))
      (fun _ _ _ _ _ => pts_nil) (fun _ _ _ _ _ => (pe_cal (c_L_row_part (P := P) (w := w) (K := K) (mg := mg) (base := base) T) (hr.mono (by omega)) (by rfl) (pa_cons (pe_ix (ix_XK (K := K) rfl) (pv 0) (pe_op op_sub (pv 14) pe_int) (fun _ _ => rfl)) (pa_cons (pe_ix (ix_XK (K := K) rfl) (pv 0) (pv 14) (fun _ _ => rfl)) (pa_cons (pv 6) pa_nil))))))
    (pss_cons (ps_set (i := 8) sc_L_greys.nd rfl (.inl rfl) (pe_lst pa_nil))
    (pss_cons (ps_for PassesOwn.never rfl (pi_range2 (by rfl) T.m_range (pa_cons (pv 1) (pa_cons (pe_op (op_addXK (K := K) rfl) (pv 2) pe_int) pa_nil))) (pg_name (i := 9) sc_L_greys.nd rfl (.inl rfl))
    (pss_cons (ps_set (i := 10) sc_L_greys.nd rfl (.inl rfl) (pe_tup (pa_cons pe_int (pa_cons pe_int pa_nil))))
    (pss_cons (ps_for PassesOwn.never rfl (pi_XK (K := K) rfl (pv 7)) (pg_name (i := 11) sc_L_greys.nd rfl (.inl rfl))
    (pss_one (ps_if (pt_cmpR op_notNo (pv 11) pe_non (nomark _)) (pss_one (ps_set (i := 10) sc_L_greys.nd rfl (.inl rfl) (pe_cal (c_L_plus (P := P) (w := w) (K := K) (mg := mg) (base := base) T) (hr.mono (by omega)) (by rfl) (pa_cons (pv 10) (pa_cons (pe_cal (c_L_under (P := P) (w := w) (K := K) (mg := mg) (base := base) T) (hr.mono (by omega)) (by rfl) (pa_cons (pe_ix (ix_XK (K := K) rfl) (pv 11) pe_int (fun _ _ => rfl)) (pa_cons (pe_ix (ix_XK (K := K) rfl) (pv 11) pe_int (fun _ _ => rfl)) (pa_cons (pe_tup (pa_cons (pe_op op_mulW pe_int (pv 9)) (pa_cons pe_int pa_nil))) pa_nil)))) pa_nil))))) pss_nil)))
    (pss_one (ps_expr (pe_bm PySem.F.plainAttrs_list PySem.F.slot_list_append PySem.F.type_list_append mt_append (pv 8) (pa_cons (pv 10) pa_nil)))))))
    (pss_one (ps_for PassesOwn.never rfl (pi_range2 (by rfl) T.m_range (pa_cons (pv 1) (pa_cons (pv 2) pa_nil))) (pg_name (i := 9) sc_L_greys.nd rfl (.inl rfl))
    (pss_one (ps_asg (pe_cal (c_L_over (P := P) (w := w) (K := K) (mg := mg) (base := base) T) (hr.mono (by omega)) (by rfl) (pa_cons (pe_cal (c_L_minus (P := P) (w := w) (K := K) (mg := mg) (base := base) T) (hr.mono (by omega)) (by rfl) (pa_cons (pe_ix (ix_XK (K := K) rfl) (pv 8) (pe_op (op_addXK (K := K) rfl) (pe_op op_sub (pv 9) (pv 1)) pe_int) (fun _ _ => rfl)) (pa_cons (pe_ix (ix_XK (K := K) rfl) (pv 8) (pe_op op_sub (pv 9) (pv 1)) (fun _ _ => rfl)) pa_nil))) (pa_cons (pe_tup (pa_cons pe_int (pa_cons pe_int pa_nil))) pa_nil))) (pg_sub (pv 3) (pe_tup (pa_cons (pv 6) (pa_cons (pv 9) pa_nil))) (set_dict (room1 hr)))))))))))
    (pss_one (ps_ret (pv 3))))))), fun ds d hR => by
    obtain ⟨l, rfl, hl, rfl⟩ := hR
    obtain ⟨x1, x2, x3⟩ := hl.x
    obtain ⟨y1, y2, y3⟩ := hl.y
    have hn6 := hl.n.2
    have hpq := hl.pq
    unfold boxL
    refine ws_seq ?_
    apply ws_asg
    refine we_call (wa_cons ?_)
    refine we_lc_ix (tg := [12] ++ ([13] ++ [])) (by decide) (wi_X (we_var rfl ⟨_, .inl rfl, l.map fun p => qp p.1, line10 (by rw [List.length_map]; omega), by simp, ?_, ?_⟩))
    · intro i d y hd hy
      obtain ⟨p, e1, rfl⟩ := get_map hd
      rw [List.getElem?_map, e1] at hy
      cases hy
      refine wgc_tup (tg := [12] ++ ([13] ++ [])) rfl (wgcs_cons (wgc_name (wgcs_cons (wgc_name (wgcs_nil ?_)))))
      exact we_var rfl ⟨rfl, rfl⟩
    refine wa_nil ⟨_, lcr_x hl, ?_⟩
    walk_at "d"
    intro a ha
    refine ws_seq ?_
    apply ws_asg
    refine we_call (wa_cons ?_)
    refine we_lc_ix (tg := [12] ++ ([13] ++ [])) (by decide) (wi_X (we_var rfl ⟨_, .inl rfl, l.map fun p => qp p.2, line10 (by rw [List.length_map]; omega), by simp, ?_, ?_⟩))
    · intro i d y hd hy
      obtain ⟨p, e1, rfl⟩ := get_map hd
      rw [List.getElem?_map, e1] at hy
      cases hy
      refine wgc_tup (tg := [12] ++ ([13] ++ [])) rfl (wgcs_cons (wgc_name (wgcs_cons (wgc_name (wgcs_nil ?_)))))
      exact we_var rfl ⟨rfl, rfl⟩
    refine wa_nil ⟨_, lcr_y hl, ?_⟩
    refine wg_tup rfl (wgs_cons (wg_name (wgs_cons (wg_name (wgs_nil ?_)))))
    generalize llo (xsO l) = c0 at *
    generalize lhi (xsO l) = c1 at *
    generalize llo (ysO l) = r0 at *
    generalize lhi (ysO l) = r1 at *
    have e3 : (2 : Int) ^ 62 = 4611686018427387904 := by decide
    refine ws_seq (ws_for (wi_rng2 ?_))
    walk_at "d"
    refine ⟨⟨by omega, by omega, by omega, by omega⟩, fun i ρ β => ∃ s6 s7 s8 s9 s10 s11 : Slot, ρ = [.dat (plP l), .dat (.int c0), .dat (.int c1), .raw (.ref a), .dat (.int r0), .dat (.int r1), s6, s7, s8, s9, s10, s11, .no, .no, .no] ∧
      β = [(a, .dcT (((List.range i).flatMap fun (k : Nat) => (rngI c0 c1).map fun c => (r0 + (k : Int), c)).map (gcell l)))], ⟨_, _, _, _, _, _, rfl, rfl⟩, ?_, ?_⟩
    · rintro i d ρ' β' hd ⟨s6, s7, s8, s9, s10, s11, rfl, rfl⟩
      obtain ⟨hi1, rfl⟩ := rngD_get hd
      have hr4 : (r0 + (i : Int)).natAbs ≤ 4000 := by omega
      have hstep : ((List.range (i + 1)).flatMap fun (k : Nat) => (rngI c0 c1).map fun c => (r0 + (k : Int), c)) = ((List.range i).flatMap fun (k : Nat) => (rngI c0 c1).map fun c => (r0 + (k : Int), c)) ++ (rngI c0 c1).map fun c => (r0 + (i : Int), c) := by
        rw [List.range_succ, List.flatMap_append]; simp
      have hold : ∀ k ∈ ((List.range i).flatMap fun (k : Nat) => (rngI c0 c1).map fun c => (r0 + (k : Int), c)), k.1 < r0 + (i : Int) := fun k hk => by
        obtain ⟨m, hm, hk⟩ := List.mem_flatMap.mp hk
        obtain ⟨c, _, rfl⟩ := List.mem_map.mp hk
        rw [List.mem_range] at hm
        show r0 + (m : Int) < r0 + (i : Int)
        omega
      have hlen : ((List.range i).flatMap fun (k : Nat) => (rngI c0 c1).map fun c => (r0 + (k : Int), c)).length ≤ 32 * i := by
        have h := fm_len (f := fun (k : Nat) => ((rngI c0 c1).map fun c => PyData.tuple [.int (r0 + (k : Int)), .int c])) (m := 32) (fun _ => by rw [List.length_map]; unfold rngI; rw [List.length_map, List.length_range]; omega) (List.range i)
        rw [List.length_range] at h
        refine Nat.le_trans (Nat.le_of_eq ?_) h
        simp [List.length_flatMap]
      generalize ((List.range i).flatMap fun (k : Nat) => (rngI c0 c1).map fun c => (r0 + (k : Int), c)) = acc at *
      generalize r0 + (i : Int) = r at *
      refine wg_name ?_
      refine ws_seq (ws_set ?_)
      refine we_lc_ix (tg := [14]) (by decide) (wi_rng1 ?_)
      walk_at "d"
      rw [List.length_map, Int.toNat_natCast]
      refine ⟨by omega, by omega, edgesL l r, by rw [rngD_len]; exact line10 (by omega), by rw [edgesL_len, rngD_len], ?_, ?_⟩
      · intro k d y hd hy
        obtain ⟨hk, rfl⟩ := rngD_get hd
        obtain ⟨q, hq, rfl⟩ := edgesL_get hy
        have hah := at_aheadF (f := ptP) hq
        have hat : atI (l.map ptP) (0 + (k : Int)) = some (ptP q) := by rw [Int.zero_add]; exact DS.atI_nat (by rw [List.getElem?_map, hq]; rfl)
        have hop := hl.o _ (ahead_in hq)
        have hoq := hl.o q (List.mem_of_getElem? hq)
        rw [show (k : Int) - 1 = (0 + (k : Int)) - 1 by omega] at hah
        refine wgc_name ?_
        walk_at "d"
        refine ⟨_, r2_ixXL hah, ?_⟩
        walk_at "d"
        refine ⟨_, r2_ixXL hat, ?_⟩
        walk_at "d"
        exact ⟨_, ⟨_, q, r, rfl, hop, hoq, hr4, rfl⟩, rfl, rfl⟩
      refine ws_seq (ws_newO ?_)
      walk_at "d"
      intro b hb
      refine ws_seq (ws_for (wi_rng2 ?_))
      walk_at "d"
      refine ⟨⟨by omega, by omega, by omega, by omega⟩, fun j ρ β => ∃ s9 s10 s11 : Slot, ρ = [.dat (plP l), .dat (.int c0), .dat (.int c1), .raw (.ref a), .dat (.int r0), .dat (.int r1), .dat (.int r), .dat (.list (edgesL l r)), .raw (.ref b), s9, s10, s11, .no, .no, .no] ∧
        β = [(a, .dcT (acc.map (gcell l))), (b, .lst ((List.range j).map fun (m : Nat) => qp (su l r (c0 + (m : Int)))))], ⟨_, _, _, rfl, rfl⟩, ?_, ?_⟩
      · rintro j d ρ' β' hd ⟨s9, s10, s11, rfl, rfl⟩
        obtain ⟨hj1, rfl⟩ := rngD_get hd
        have hc4 : (c0 + (j : Int)).natAbs ≤ 4000 := by omega
        have hst2 : ((List.range (j + 1)).map fun (m : Nat) => qp (su l r (c0 + (m : Int)))) = ((List.range j).map fun (m : Nat) => qp (su l r (c0 + (m : Int)))) ++ [qp (su l r (c0 + (j : Int)))] := by
          rw [List.range_succ, List.map_append]; rfl
        have hl2 : ((List.range j).map fun (m : Nat) => qp (su l r (c0 + (m : Int)))).length ≤ 100 := by rw [List.length_map, List.length_range]; omega
        generalize ((List.range j).map fun (m : Nat) => qp (su l r (c0 + (m : Int)))) = sm at *
        generalize c0 + (j : Int) = c at *
        refine wg_name ?_
        walk_at "d"
        rw [qp_zero]
        refine ws_for (wi_X (we_var rfl ⟨_, .inl rfl, fun k ρ β => ∃ s11 : Slot, ρ = [.dat (plP l), .dat (.int c0), .dat (.int c1), .raw (.ref a), .dat (.int r0), .dat (.int r1), .dat (.int r), .dat (.list (edgesL l r)), .raw (.ref b), .dat (.int c), .dat (qp (ps (eu r c) (lastP l) (l.take k))), s11, .no, .no, .no] ∧
          β = [(a, .dcT (acc.map (gcell l))), (b, .lst sm)], ⟨_, rfl, rfl⟩, ?_, ?_⟩))
        · rintro k d ρ' β' hd ⟨s11, rfl, rfl⟩
          obtain ⟨q, hq, rfl⟩ := edgesL_get hd
          have hk := (List.getElem?_eq_some_iff.mp hq).1
          have htk := ps_take' (h := eu r c) (p := lastP l) hq
          have f1 := su_fq hpq.g hpq.h0 hpq.h1 (by omega) hr4 hc4 k (by omega)
          have vp := hpq.g.v _ (ahead_in hq)
          have vq := hpq.g.v _ (List.mem_of_getElem? hq)
          have hln := eall_get hpq.g.e hq
          obtain ⟨g1, g2⟩ := eu_ok hpq.h0 hpq.h1 hr4 hc4 vp vq hln
          generalize lastD (lastP l) (l.take k) = p at *
          generalize ps (eu r c) (lastP l) (l.take k) = t0 at *
          refine wg_name ?_
          cases hrp : rowPart (r64 r) (r64 (r + 1)) p q with
          | none =>
            rw [eu_none hrp] at htk
            have e0 : t0 + 0 = t0 := by grind
            rw [e0] at htk
            walk_at "d"
            refine ⟨_, r2_notN, ?_⟩
            walk_at "db"
            refine ⟨.dat (rpD none), ?_, rfl⟩
            rw [htk]
            rfl
          | some x =>
            obtain ⟨A, B⟩ := x
            rw [eu_some hrp] at htk g1 g2
            obtain ⟨va, vb, _⟩ := row_ln hr4 vp vq hln hrp
            have h500 : Dl l ≤ 2 ^ 500 := hpq.pl.h1
            have oka : Vok A := ⟨Fq.of hpq.h0 h500 va.x.1 va.x.2, Fq.of hpq.h0 h500 va.y.1 va.y.2⟩
            have okb : Vok B := ⟨Fq.of hpq.h0 h500 vb.x.1 vb.x.2, Fq.of hpq.h0 h500 vb.y.1 vb.y.2⟩
            have fu : Fq 823 3000 (under (r64 c) A B) := Fq.of (Nat.mul_ne_zero hpq.h0 (Nat.mul_ne_zero (by decide) hpq.h0)) (by
              refine Nat.le_trans (Nat.mul_le_mul hpq.h1 (Nat.mul_le_mul (Nat.le_refl 2) hpq.h1)) ?_
              rw [show (2 : Nat) * 2 ^ 411 = 2 ^ 412 from (Nat.pow_succ').symm, ← Nat.pow_add]
              exact Nat.le_refl _) g1 g2
            unfold rpD
            walk_at "d"
            refine ⟨_, r2_notN, ?_⟩
            walk_at "db"
            refine ⟨_, r2_intC (mulOk (m := 19) (n := 19) (bd_of (by decide)) (bd_of (by omega))), ?_⟩
            walk_at "d"
            rw [qp_cell]
            refine ⟨_, ⟨A, B, _, rfl, oka, okb, r64_ok (by omega), rfl⟩, ?_⟩
            walk_at "d"
            refine ⟨_, ⟨_, _, rfl, f1.sq (by decide) (by decide), fu.sq (by decide) (by decide), rfl⟩, ?_⟩
            refine ⟨.dat (.list [ptP A, ptP B]), ?_, rfl⟩
            rw [htk]
            rfl
        · rintro ρ' β' ⟨s11, rfl, rfl⟩
          rw [edgesL_len, List.take_length]
          refine ws_appO (j := 1) rfl ⟨_, rfl⟩ ?_
          walk_at "d"
          refine ⟨Nat.lt_of_le_of_lt hl2 (by decide), _, _, _, rfl, ?_⟩
          rw [hst2]
          rfl
      · rintro ρ' β' ⟨s9, s10, s11, rfl, rfl⟩
        rw [rngD_len]
        refine ws_frz (i := 8) (j := 1) rfl rfl (by simp) ?_
        have hsm : ∀ m : Nat, m ≤ (c1 - c0).toNat → ((List.range (c1 + 1 - c0).toNat).map fun (m : Nat) => qp (su l r (c0 + (m : Int))))[m]? = some (qp (su l r (c0 + (m : Int)))) := fun m hm => range_get (by omega)
        generalize ((List.range (c1 + 1 - c0).toNat).map fun (m : Nat) => qp (su l r (c0 + (m : Int)))) = sm at *
        refine ws_via (fun ρ β => ∃ s6 s7 s8 s9 s10 s11 : Slot, ρ = [.dat (plP l), .dat (.int c0), .dat (.int c1), .raw (.ref a), .dat (.int r0), .dat (.int r1), s6, s7, s8, s9, s10, s11, .no, .no, .no] ∧
          β = [(a, .dcT ((acc ++ (List.range (c1 - c0).toNat).map fun (m : Nat) => (r, c0 + (m : Int))).map (gcell l)))]) ?_ ?_
        · refine ws_for (wi_rng2 ?_)
          walk_at "d"
          refine ⟨⟨by omega, by omega, by omega, by omega⟩, fun j ρ β => ∃ s9 : Slot, ρ = [.dat (plP l), .dat (.int c0), .dat (.int c1), .raw (.ref a), .dat (.int r0), .dat (.int r1), .dat (.int r), .dat (.list (edgesL l r)), .dat (.list sm), s9, s10, s11, .no, .no, .no] ∧
            β = [(a, .dcT ((acc ++ (List.range j).map fun (m : Nat) => (r, c0 + (m : Int))).map (gcell l)))], ⟨_, rfl, by simp⟩, ?_, ?_⟩
          · rintro j d ρ' β' hd ⟨s9, rfl, rfl⟩
            obtain ⟨hj1, rfl⟩ := rngD_get hd
            have h1 := hsm (j + 1) (by omega)
            have h0 := hsm j (by omega)
            have hi0 : atI sm (c0 + (j : Int) - c0) = some (qp (su l r (c0 + (j : Int)))) := by
              rw [show c0 + (j : Int) - c0 = (j : Int) by omega]; exact DS.atI_nat h0
            have hi1 : atI sm (c0 + (j : Int) - c0 + 1) = some (qp (su l r (c0 + (j : Int) + 1))) := by
              rw [show c0 + (j : Int) - c0 + 1 = ((j + 1 : Nat) : Int) by omega, show c0 + (j : Int) + 1 = c0 + ((j + 1 : Nat) : Int) by omega]; exact DS.atI_nat h1
            have f1 := su_fq (c := c0 + (j : Int) + 1) hpq.g hpq.h0 hpq.h1 (by omega) hr4 (by omega) l.length (Nat.le_refl _)
            have f0 := su_fq (c := c0 + (j : Int)) hpq.g hpq.h0 hpq.h1 (by omega) hr4 (by omega) l.length (Nat.le_refl _)
            rw [List.take_length] at f1 f0
            have hG := su_G (l := l) (r := r) (c := c0 + (j : Int))
            have f4 : Fq 0 20 ((4096 : Int) : Rat) := Fq.int (by decide)
            have hst3 : (acc ++ (List.range (j + 1)).map fun (m : Nat) => (r, c0 + (m : Int))).map (gcell l) = (acc ++ (List.range j).map fun (m : Nat) => (r, c0 + (m : Int))).map (gcell l) ++ [(pK (r, c0 + (j : Int)), qp ((su l r (c0 + (j : Int) + 1) - su l r (c0 + (j : Int))) / 4096))] := by
              rw [hG, List.range_succ, List.map_append (f := fun (m : Nat) => (r, c0 + (m : Int))), ← List.append_assoc, List.map_append (f := gcell l) (l₂ := [_].map _)]
              rfl
            have fm := f1.sub f0
            refine wg_name ?_
            refine ws_putT rfl ?_
            walk_at "d"
            refine ⟨_, r2_ixXL hi1, ?_⟩
            walk_at "d"
            refine ⟨_, r2_ixXL hi0, ?_⟩
            walk_at "d"
            refine ⟨_, ⟨_, _, rfl, f1.sq (by decide) (by decide), f0.sq (by decide) (by decide), rfl⟩, ?_⟩
            walk_at "d"
            refine ⟨_, ⟨_, ((4096 : Int) : Rat), rfl, fm.sq (by decide) (by decide), f4.sq (by decide) (by decide), f4.sv (by decide), by decide, rfl⟩, ?_⟩
            refine wa_cons (we_var rfl (wa_cons (we_var rfl (wa_nil ?_))))
            refine ⟨0, pK (r, c0 + (j : Int)), _, rfl, Nat.le_of_ble_eq_true rfl, rfl, ?_, .dat (.int (c0 + (j : Int))), rfl, ?_⟩
            · rw [List.length_map, List.length_append, List.length_map, List.length_range]; omega
            · rw [put_newT (fun p hp => by
                obtain ⟨k, hk, rfl⟩ := List.mem_map.mp hp
                intro z
                have z := pK_inj z
                rcases List.mem_append.mp hk with hk | hk
                · have := hold k hk
                  rw [z] at this
                  simp at this
                · obtain ⟨m, hm, rfl⟩ := List.mem_map.mp hk
                  rw [List.mem_range] at hm
                  injection z with _ z
                  omega)]
              rw [hst3]
              rfl
          · rintro ρ' β' ⟨s9, rfl, rfl⟩
            rw [rngD_len]
            exact ⟨_, _, _, _, _, _, rfl, rfl⟩
        · rintro ρ' β' ⟨s6, s7, s8, s9, s10, s11, rfl, rfl⟩
          refine ⟨_, _, _, _, _, _, rfl, ?_⟩
          rw [hstep]
          unfold rngI
          rw [List.map_map (l := List.range _)]
          rfl
    · rintro ρ' β' ⟨s6, s7, s8, s9, s10, s11, rfl, rfl⟩
      rw [rngD_len]
      refine ws_frzX (i := 3) (j := 0) rfl rfl (by simp) ?_
      walk_at "d"
      rw [show ((rngI r0 r1).flatMap fun r => (rngI c0 c1).map fun c => (r, c)) = (List.range (r1 - r0).toNat).flatMap fun (k : Nat) => (rngI c0 c1).map fun c => (r0 + (k : Int), c) by
        rw [show rngI r0 r1 = (List.range (r1 - r0).toNat).map fun (k : Nat) => r0 + (k : Int) from rfl, List.flatMap_map]]
      rfl⟩
end K84

set_option Elab.async false
set_option linter.all false
set_option maxRecDepth 100000
set_option pp.deepTerms false
set_option pp.deepTerms.threshold 6
set_option maxHeartbeats 4000000
namespace K84
open PySem PySem.Spec PyProof.Rows L2 DS
open G84 (Pt G)
open K77 (Bd)
-- the steps that need no thought: one, as many as there are
local macro_rules | `(tactic| walk_at "d1") => `(tactic| with_reducible first
  | refine ws_seq ?_ | refine ws_next ?_ | refine ws_retN ?_ | refine ws_ret ?_ | refine ws_if ?_ | refine ws_par ?_ | refine ws_par3 ?_ | refine ws_setK ?_ | refine ws_newD ?_ | refine wp_cons ?_ | refine wp_nil ?_ | refine ws_newDK ?_ | refine ws_newDT ?_ | refine ws_set ?_ | refine ws_star ?_ | refine ws_setO rfl ?_ | apply ws_asg
  | refine we_var rfl ?_ | refine we_int ?_ | refine we_bl ?_ | refine we_str ?_ | refine we_non ?_ | refine we_kd ?_ | refine we_ixO rfl ?_
  | refine we_isi isg_int ?_ | refine we_isi isg_bool ?_ | refine we_isi isg_str ?_ | refine we_isi isg_list ?_ | refine we_isi isg_tuple ?_ | refine we_isi2 isg_list isg_tuple ?_ | refine we_isi2 isg_int isg_tuple ?_
  | refine we_inK ?_ | refine we_ixK ?_ | refine we_op ?_ | refine we_un ?_ | refine we_cb ?_ | refine we_tup ?_ | refine we_lst ?_ | refine we_andV ?_ | refine we_orV ?_ | refine we_notV ?_ | refine we_if ?_ | refine we_chain ?_ | refine we_sl ?_ | refine we_call ?_ | refine we_callD ?_ | refine we_rev ?_
  | refine wa_nil ?_ | refine wa_cons ?_ | refine wo_none ?_ | refine wo_some ?_ | refine wt_test ?_ | refine wt_B ?_ | refine wt_and ?_ | refine wt_or ?_ | refine wt_not ?_
  | refine wg_tup rfl ?_ | refine wgs_cons ?_ | refine wgs_nil ?_ | refine wg_name ?_
  | refine ⟨_, r2_int, ?_⟩ | refine ⟨_, r2_bl, ?_⟩ | refine ⟨_, r2_addI, ?_⟩ | refine ⟨_, r2_eqI, ?_⟩ | refine ⟨_, r2_neI, ?_⟩ | refine ⟨_, r2_eqS, ?_⟩ | refine ⟨_, r2_neS, ?_⟩ | refine ⟨_, r2_isN, ?_⟩ | refine ⟨_, r1_neg, ?_⟩
  | refine ⟨_, rc_absI, ?_⟩ | refine ⟨_, rc_intI, ?_⟩ | refine ⟨_, rc_intB, ?_⟩ | refine ⟨_, rc_max, ?_⟩ | refine ⟨_, rc_min, ?_⟩ | refine ⟨_, rc_lenL, ?_⟩ | refine ⟨_, rc_lenT, ?_⟩ | refine ⟨_, rc_listL, ?_⟩ | refine ⟨_, rc_listT, ?_⟩ | refine ⟨_, rc_tupL, ?_⟩ | refine ⟨_, rc_tupT, ?_⟩
  | refine ⟨_, rfl, ?_⟩ | refine ⟨_, _, rfl, ?_⟩ | refine ⟨_, ⟨_, rfl, rfl⟩, ?_⟩ | refine ⟨_, ⟨_, _, rfl, rfl⟩, ?_⟩)
local macro_rules | `(tactic| walk_at "d") => `(tactic| repeat (first | walk_at "d1" | refine ⟨lenOk rfl, ?_⟩ | refine ⟨0, _, _, _, rfl, rfl, rfl, ?_⟩ | refine ⟨_, r2_ixXL rfl, ?_⟩ | refine ⟨_, r2_ixXT rfl, ?_⟩ | refine ⟨_, r2_ixXT at0, ?_⟩ | refine ⟨_, r2_ixXT at1, ?_⟩ | refine ⟨_, r2_ixXL at0, ?_⟩ | refine ⟨_, r2_ixXL at1, ?_⟩))
-- a condition whose truth comes out by computation
local macro_rules | `(tactic| walk_at "b1") => `(tactic| first
  | refine ⟨fun _ => ?_, fun h => Bool.noConfusion (show true = false from h)⟩
  | refine ⟨fun h => Bool.noConfusion (show false = true from h), fun _ => ?_⟩)
local macro_rules | `(tactic| walk_at "db") => `(tactic| repeat (first | walk_at "d1" | refine ⟨lenOk rfl, ?_⟩ | refine ⟨0, _, _, _, rfl, rfl, rfl, ?_⟩ | refine ⟨_, r2_ixXL rfl, ?_⟩ | refine ⟨_, r2_ixXT rfl, ?_⟩ | refine ⟨_, r2_ixXT at0, ?_⟩ | refine ⟨_, r2_ixXT at1, ?_⟩ | refine ⟨_, r2_ixXL at0, ?_⟩ | refine ⟨_, r2_ixXL at1, ?_⟩ | walk_at "b1"))
-- how many arguments there are
local macro_rules | `(tactic| walk_at "len") => `(tactic| (intro _ _ h; first
  | (obtain ⟨_, e, _⟩ := h; subst e; rfl) | (obtain ⟨_, _, e, _⟩ := h; subst e; rfl) | (obtain ⟨_, _, _, e, _⟩ := h; subst e; rfl) | (obtain ⟨_, _, _, _, e, _⟩ := h; subst e; rfl) | (obtain ⟨_, _, _, _, _, e, _⟩ := h; subst e; rfl)))
local macro_rules | `(tactic| walk_at "leno") => `(tactic| (intro _ _ h; first
  | (obtain ⟨⟨_, e, _⟩, _⟩ := h; subst e; rfl) | (obtain ⟨⟨_, _, e, _⟩, _⟩ := h; subst e; rfl) | (obtain ⟨e, _⟩ := h; subst e; rfl) | (obtain ⟨_, e, _⟩ := h; subst e; rfl) | (obtain ⟨_, _, e, _⟩ := h; subst e; rfl) | (obtain ⟨_, _, _, e, _⟩ := h; subst e; rfl) | (obtain ⟨_, _, _, _, e, _⟩ := h; subst e; rfl)))

variable {P : Program} {w : World} {K : PySem.W.Frag} {mg : Str → Option Value} {base : Heap}
/-! ### cells in order -/
def lexLt (p q : Int × Int) : Prop := p.1 < q.1 ∨ (p.1 = q.1 ∧ p.2 < q.2)
theorem sorted_uniq : ∀ {L M : List (Int × Int)}, L.Pairwise lexLt → M.Pairwise lexLt → (∀ k, k ∈ L ↔ k ∈ M) → L = M
  | [], [], _, _, _ => rfl
  | [], b :: M, _, _, h => by have := (h b).mpr (by simp); cases this
  | a :: L, [], _, _, h => by have := (h a).mp (by simp); cases this
  | a :: L, b :: M, h1, h2, h => by
    obtain ⟨p1, p2⟩ := List.pairwise_cons.mp h1
    obtain ⟨q1, q2⟩ := List.pairwise_cons.mp h2
    have e : a = b := by
      rcases List.mem_cons.mp ((h a).mp (by simp)) with z | z
      · exact z
      · rcases List.mem_cons.mp ((h b).mpr (by simp)) with y | y
        · exact y.symm
        · have := q1 a z
          have := p1 b y
          unfold lexLt at *
          omega
    subst e
    rw [sorted_uniq p2 q2 fun k => ?_]
    constructor
    · intro hk
      rcases List.mem_cons.mp ((h k).mp (by simp [hk])) with z | z
      · subst z; have := p1 k hk; unfold lexLt at this; omega
      · exact z
    · intro hk
      rcases List.mem_cons.mp ((h k).mpr (by simp [hk])) with z | z
      · subst z; have := q1 k hk; unfold lexLt at this; omega
      · exact z
def cellsB (c0 c1 r0 r1 : Int) : List (Int × Int) := (rngI r0 r1).flatMap fun r => (rngI c0 c1).map fun c => (r, c)
theorem mem_cellsB {c0 c1 r0 r1 : Int} {k : Int × Int} : k ∈ cellsB c0 c1 r0 r1 ↔ (r0 ≤ k.1 ∧ k.1 < r1) ∧ c0 ≤ k.2 ∧ k.2 < c1 := by
  unfold cellsB
  rw [List.mem_flatMap]
  constructor
  · rintro ⟨r, hr, hk⟩
    obtain ⟨c, hc, rfl⟩ := List.mem_map.mp hk
    exact ⟨mem_rngI.mp hr, mem_rngI.mp hc⟩
  · rintro ⟨h1, h2⟩
    exact ⟨k.1, mem_rngI.mpr h1, List.mem_map.mpr ⟨k.2, mem_rngI.mpr h2, rfl⟩⟩
theorem rngI_sorted {lo hi : Int} : (rngI lo hi).Pairwise (· < ·) := by
  unfold rngI
  rw [List.pairwise_map]
  exact List.pairwise_lt_range.imp (by intro a b h; omega)
theorem cellsB_sorted {c0 c1 r0 r1 : Int} : (cellsB c0 c1 r0 r1).Pairwise lexLt := by
  unfold cellsB
  rw [List.pairwise_flatMap]
  refine ⟨fun r _ => ?_, rngI_sorted.imp fun {a b} h x hx y hy => ?_⟩
  · rw [List.pairwise_map]
    exact rngI_sorted.imp fun {a b} h => .inr ⟨rfl, h⟩
  · obtain ⟨c, _, rfl⟩ := List.mem_map.mp hx
    obtain ⟨d, _, rfl⟩ := List.mem_map.mp hy
    exact .inl h
theorem boxL_eq {l : List Pt} : boxL l = cellsB (llo (xsO l)) (lhi (xsO l)) (llo (ysO l)) (lhi (ysO l)) := rfl
/-- where something is grey -/
def nzb (g : Int × Int → Rat) (k : Int × Int) : Bool := decide (g k ≠ 0)
def nzD (g : Int × Int → Rat) (k : Int × Int) : PyData := .tuple [.int k.1, .int k.2, qd (g k)]
/-- the cells that aren't 0, in order -/
def canF (g : Int × Int → Rat) (Z : List (Int × Int)) : List PyData := (Z.filter (nzb g)).map (nzD g)
theorem canF_uniq {g : Int × Int → Rat} {Z Y : List (Int × Int)} (h1 : Z.Pairwise lexLt) (h2 : Y.Pairwise lexLt) (h3 : ∀ k, g k ≠ 0 → k ∈ Z) (h4 : ∀ k, g k ≠ 0 → k ∈ Y) : canF g Z = canF g Y := by
  unfold canF
  rw [sorted_uniq (h1.filter _) (h2.filter _) fun k => ?_]
  simp only [List.mem_filter, nzb, decide_eq_true_eq]
  exact ⟨fun h => ⟨h4 k h.2, h.2⟩, fun h => ⟨h3 k h.2, h.2⟩⟩
def gsK (ps : List (List Pt)) (k : Int × Int) : Rat := gs ps k.1 k.2
theorem canonL_eq {ps : List (List Pt)} {c0 c1 r0 r1 : Int} : canonL ps c0 c1 r0 r1 = canF (gsK ps) (cellsB c0 c1 r0 r1) := by
  unfold canonL canF cellsB rowL
  rw [List.filter_flatMap, List.map_flatMap]
  congr 1
  funext r
  rw [List.filter_map, List.map_map]
  generalize rngI c0 c1 = L
  induction L with
  | nil => rfl
  | cons c L ih =>
    rw [List.flatMap_cons, ih, List.filter_cons]
    unfold cellL
    by_cases h : gs ps r c = 0
    · rw [if_pos h, if_neg (by simp [nzb, gsK, h])]; rfl
    · rw [if_neg h, if_pos (by simp [nzb, gsK, h])]; rfl
theorem foldl_zero {α : Type} {f : α → Rat} : ∀ {ps : List α} {a : Rat}, (∀ l ∈ ps, f l = 0) → ps.foldl (fun a l => a + f l) a = a
  | [], a, _ => rfl
  | l :: ps, a, h => by
    rw [List.foldl_cons, h l (by simp), foldl_zero fun x hx => h x (by simp [hx])]
    grind
theorem gs_some {ps : List (List Pt)} {k : Int × Int} (h : gsK ps k ≠ 0) : ∃ l ∈ ps, G l k.1 k.2 ≠ 0 := by
  refine Classical.byContradiction fun hn => h ?_
  refine foldl_zero fun l hl => ?_
  exact Classical.byContradiction fun z => hn ⟨l, hl, z⟩
/-- what is grey lies in the law's box -/
theorem in_box {l : List Pt} {k : Int × Int} (h : G l k.1 k.2 ≠ 0) : k ∈ boxL l := by
  rw [boxL_eq, mem_cellsB]
  have lo : ∀ {qs : List Rat} {q : Rat}, q ∈ qs → llo qs ≤ fl q := fun {qs q} hq => (minI_ok (l := qs.map fl) (by intro z; rw [List.map_eq_nil_iff] at z; rw [z] at hq; cases hq)).2 _ (List.mem_map.mpr ⟨q, hq, rfl⟩)
  have hi : ∀ {qs : List Rat} {q : Rat}, q ∈ qs → fl q < lhi qs := fun {qs q} hq => by
    have := (maxI_ok (l := qs.map fl) (by intro z; rw [List.map_eq_nil_iff] at z; rw [z] at hq; cases hq)).2 _ (List.mem_map.mpr ⟨q, hq, rfl⟩)
    unfold lhi; omega
  have up : ∀ {q : Rat} {c : Int}, fl q < c → q ≤ ((64 * c : Int) : Rat) := fun {q c} hq => by
    rcases Rat.le_total (a := q) (b := ((64 * c : Int) : Rat)) with z | z
    · exact z
    · have := fl_le.mpr z; omega
  refine ⟨⟨Int.not_lt.mp fun z => h ?_, Int.lt_of_not_ge fun z => h ?_⟩, Int.not_lt.mp fun z => h ?_, Int.lt_of_not_ge fun z => h ?_⟩
  · exact G84.G_row_lo fun p hp => fl_le.mp (by have := lo (ys_mem hp); omega)
  · exact G84.G_row_hi fun p hp => up (by have := hi (ys_mem hp); omega)
  · exact G84.G_col_lo fun p hp => fl_le.mp (by have := lo (xs_mem hp); omega)
  · exact G84.G_col_hi fun p hp => up (by have := hi (xs_mem hp); omega)
/-- and in the program's -/
theorem in_prog {ps : List (List Pt)} {k : Int × Int} (h : gsK ps k ≠ 0) : k ∈ cellsB (rlo (xsO ps.flatten)) (rhi (xsO ps.flatten)) (rlo (ysO ps.flatten)) (rhi (ysO ps.flatten)) := by
  obtain ⟨l, hl, h⟩ := gs_some h
  have hm : ∀ p ∈ l, p ∈ ps.flatten := fun p hp => List.mem_flatten.mpr ⟨l, hl, hp⟩
  rw [mem_cellsB]
  refine ⟨⟨Int.not_lt.mp fun z => h ?_, Int.lt_of_not_ge fun z => h ?_⟩, Int.not_lt.mp fun z => h ?_, Int.lt_of_not_ge fun z => h ?_⟩
  · exact G84.G_row_lo fun p hp => fl_le.mp (by have := rlo_le (ys_mem (hm p hp)); omega)
  · exact G84.G_row_hi fun p hp => ce_le.mp (by have := le_rhi (ys_mem (hm p hp)); omega)
  · exact G84.G_col_lo fun p hp => fl_le.mp (by have := rlo_le (xs_mem (hm p hp)); omega)
  · exact G84.G_col_hi fun p hp => ce_le.mp (by have := le_rhi (xs_mem (hm p hp)); omega)
def canP (ps : List (List Pt)) : List PyData := canonL ps (rlo (xsO ps.flatten)) (rhi (xsO ps.flatten)) (rlo (ysO ps.flatten)) (rhi (ysO ps.flatten))
theorem canP_any {ps : List (List Pt)} {Z : List (Int × Int)} (h1 : Z.Pairwise lexLt) (h3 : ∀ k, gsK ps k ≠ 0 → k ∈ Z) : canF (gsK ps) Z = canP ps := by
  unfold canP
  rw [canonL_eq]
  exact canF_uniq h1 cellsB_sorted h3 fun k h => in_prog h
/-! ### a dict of cells -/
def insK (U : List (Int × Int)) (k : Int × Int) : List (Int × Int) := if k ∈ U then U else U ++ [k]
def dcF (U : List (Int × Int)) (f : Int × Int → Rat) : List (List Key × PyData) := U.map fun k => (pK k, qp (f k))
theorem valT_dc {f : Int × Int → Rat} {k : Int × Int} : ∀ U : List (Int × Int), valT (dcF U f) (pK k) = if k ∈ U then some (qp (f k)) else none
  | [] => rfl
  | a :: U => by
    have ih := valT_dc (f := f) (k := k) U
    unfold valT dcF at ih ⊢
    rw [List.map_cons, List.find?_cons]
    by_cases h : a = k
    · subst h
      simp
    · have h2 : decide (pK a = pK k) = false := decide_eq_false fun z => h (pK_inj z)
      simp only [h2, List.mem_cons]
      rw [ih]
      by_cases h3 : k ∈ U
      · rw [if_pos h3, if_pos (.inr h3)]
      · rw [if_neg h3, if_neg fun z => z.elim (fun z => h z.symm) h3]
theorem putT_dc {f : Int × Int → Rat} {U : List (Int × Int)} {k : Int × Int} {y : Rat} : putT (dcF U f) (pK k) (qp y) = dcF (insK U k) (fun j => if j = k then y else f j) := by
  have hany : ((dcF U f).any fun kv => decide (kv.1 = pK k)) = decide (k ∈ U) := by
    rw [Bool.eq_iff_iff, List.any_eq_true, decide_eq_true_eq]
    constructor
    · rintro ⟨p, hp, e⟩
      obtain ⟨j, hj, rfl⟩ := List.mem_map.mp hp
      have := pK_inj (of_decide_eq_true e)
      subst this; exact hj
    · intro h
      exact ⟨_, List.mem_map.mpr ⟨k, h, rfl⟩, decide_eq_true rfl⟩
  unfold putT
  rw [hany]
  unfold insK
  by_cases h : k ∈ U
  · rw [if_pos (decide_eq_true h), if_pos h]
    unfold dcF
    rw [List.map_map]
    refine List.map_congr_left fun j hj => ?_
    by_cases e : j = k
    · subst e; simp
    · have e2 : ¬ pK j = pK k := fun z => e (pK_inj z)
      simp [e, e2]
  · rw [if_neg (by rw [decide_eq_false h]; exact Bool.false_ne_true), if_neg h]
    unfold dcF
    rw [List.map_append]
    congr 1
    · refine List.map_congr_left fun j hj => ?_
      have e : ¬ j = k := fun z => h (by rw [← z]; exact hj)
      simp [e]
    · simp
theorem mem_insK {U : List (Int × Int)} {k j : Int × Int} : j ∈ insK U k ↔ j ∈ U ∨ j = k := by
  unfold insK
  by_cases h : k ∈ U
  · rw [if_pos h]
    constructor
    · exact .inl
    · rintro (z | rfl)
      · exact z
      · exact h
  · rw [if_neg h]; simp
theorem nodup_insK {U : List (Int × Int)} {k : Int × Int} (h : U.Nodup) : (insK U k).Nodup := by
  unfold insK
  by_cases e : k ∈ U
  · rw [if_pos e]; exact h
  · rw [if_neg e, List.nodup_append]
    exact ⟨h, by simp, fun a ha b hb z => e (by simp at hb; rw [← hb, ← z]; exact ha)⟩
theorem len_insK {U : List (Int × Int)} {k : Int × Int} : (insK U k).length ≤ U.length + 1 := by unfold insK; split <;> simp
theorem dcF_congr {U : List (Int × Int)} {f g : Int × Int → Rat} (h : ∀ k ∈ U, f k = g k) : dcF U f = dcF U g := List.map_congr_left fun k hk => by rw [h k hk]
end K84

set_option Elab.async false
set_option linter.all false
set_option maxRecDepth 100000
set_option pp.deepTerms false
set_option pp.deepTerms.threshold 6
set_option maxHeartbeats 4000000
namespace K84
open PySem PySem.Spec PyProof.Rows L2 DS
open G84 (Pt G)
open K77 (Bd)
-- the steps that need no thought: one, as many as there are
local macro_rules | `(tactic| walk_at "d1") => `(tactic| with_reducible first
  | refine ws_seq ?_ | refine ws_next ?_ | refine ws_retN ?_ | refine ws_ret ?_ | refine ws_if ?_ | refine ws_par ?_ | refine ws_par3 ?_ | refine ws_setK ?_ | refine ws_newD ?_ | refine wp_cons ?_ | refine wp_nil ?_ | refine ws_newDK ?_ | refine ws_newDT ?_ | refine ws_set ?_ | refine ws_star ?_ | refine ws_setO rfl ?_ | apply ws_asg
  | refine we_var rfl ?_ | refine we_int ?_ | refine we_bl ?_ | refine we_str ?_ | refine we_non ?_ | refine we_kd ?_ | refine we_ixO rfl ?_
  | refine we_isi isg_int ?_ | refine we_isi isg_bool ?_ | refine we_isi isg_str ?_ | refine we_isi isg_list ?_ | refine we_isi isg_tuple ?_ | refine we_isi2 isg_list isg_tuple ?_ | refine we_isi2 isg_int isg_tuple ?_
  | refine we_inK ?_ | refine we_ixK ?_ | refine we_op ?_ | refine we_un ?_ | refine we_cb ?_ | refine we_tup ?_ | refine we_lst ?_ | refine we_andV ?_ | refine we_orV ?_ | refine we_notV ?_ | refine we_if ?_ | refine we_chain ?_ | refine we_sl ?_ | refine we_call ?_ | refine we_callD ?_ | refine we_rev ?_
  | refine wa_nil ?_ | refine wa_cons ?_ | refine wo_none ?_ | refine wo_some ?_ | refine wt_test ?_ | refine wt_B ?_ | refine wt_and ?_ | refine wt_or ?_ | refine wt_not ?_
  | refine wg_tup rfl ?_ | refine wgs_cons ?_ | refine wgs_nil ?_ | refine wg_name ?_
  | refine ⟨_, r2_int, ?_⟩ | refine ⟨_, r2_bl, ?_⟩ | refine ⟨_, r2_addI, ?_⟩ | refine ⟨_, r2_eqI, ?_⟩ | refine ⟨_, r2_neI, ?_⟩ | refine ⟨_, r2_eqS, ?_⟩ | refine ⟨_, r2_neS, ?_⟩ | refine ⟨_, r2_isN, ?_⟩ | refine ⟨_, r1_neg, ?_⟩
  | refine ⟨_, rc_absI, ?_⟩ | refine ⟨_, rc_intI, ?_⟩ | refine ⟨_, rc_intB, ?_⟩ | refine ⟨_, rc_max, ?_⟩ | refine ⟨_, rc_min, ?_⟩ | refine ⟨_, rc_lenL, ?_⟩ | refine ⟨_, rc_lenT, ?_⟩ | refine ⟨_, rc_listL, ?_⟩ | refine ⟨_, rc_listT, ?_⟩ | refine ⟨_, rc_tupL, ?_⟩ | refine ⟨_, rc_tupT, ?_⟩
  | refine ⟨_, rfl, ?_⟩ | refine ⟨_, _, rfl, ?_⟩ | refine ⟨_, ⟨_, rfl, rfl⟩, ?_⟩ | refine ⟨_, ⟨_, _, rfl, rfl⟩, ?_⟩)
local macro_rules | `(tactic| walk_at "d") => `(tactic| repeat (first | walk_at "d1" | refine ⟨lenOk rfl, ?_⟩ | refine ⟨0, _, _, _, rfl, rfl, rfl, ?_⟩ | refine ⟨_, r2_ixXL rfl, ?_⟩ | refine ⟨_, r2_ixXT rfl, ?_⟩ | refine ⟨_, r2_ixXT at0, ?_⟩ | refine ⟨_, r2_ixXT at1, ?_⟩ | refine ⟨_, r2_ixXL at0, ?_⟩ | refine ⟨_, r2_ixXL at1, ?_⟩))
-- a condition whose truth comes out by computation
local macro_rules | `(tactic| walk_at "b1") => `(tactic| first
  | refine ⟨fun _ => ?_, fun h => Bool.noConfusion (show true = false from h)⟩
  | refine ⟨fun h => Bool.noConfusion (show false = true from h), fun _ => ?_⟩)
local macro_rules | `(tactic| walk_at "db") => `(tactic| repeat (first | walk_at "d1" | refine ⟨lenOk rfl, ?_⟩ | refine ⟨0, _, _, _, rfl, rfl, rfl, ?_⟩ | refine ⟨_, r2_ixXL rfl, ?_⟩ | refine ⟨_, r2_ixXT rfl, ?_⟩ | refine ⟨_, r2_ixXT at0, ?_⟩ | refine ⟨_, r2_ixXT at1, ?_⟩ | refine ⟨_, r2_ixXL at0, ?_⟩ | refine ⟨_, r2_ixXL at1, ?_⟩ | walk_at "b1"))
-- how many arguments there are
local macro_rules | `(tactic| walk_at "len") => `(tactic| (intro _ _ h; first
  | (obtain ⟨_, e, _⟩ := h; subst e; rfl) | (obtain ⟨_, _, e, _⟩ := h; subst e; rfl) | (obtain ⟨_, _, _, e, _⟩ := h; subst e; rfl) | (obtain ⟨_, _, _, _, e, _⟩ := h; subst e; rfl) | (obtain ⟨_, _, _, _, _, e, _⟩ := h; subst e; rfl)))
local macro_rules | `(tactic| walk_at "leno") => `(tactic| (intro _ _ h; first
  | (obtain ⟨⟨_, e, _⟩, _⟩ := h; subst e; rfl) | (obtain ⟨⟨_, _, e, _⟩, _⟩ := h; subst e; rfl) | (obtain ⟨e, _⟩ := h; subst e; rfl) | (obtain ⟨_, e, _⟩ := h; subst e; rfl) | (obtain ⟨_, _, e, _⟩ := h; subst e; rfl) | (obtain ⟨_, _, _, e, _⟩ := h; subst e; rfl) | (obtain ⟨_, _, _, _, e, _⟩ := h; subst e; rfl)))

variable {P : Program} {w : World} {K : PySem.W.Frag} {mg : Str → Option Value} {base : Heap}
/-! ### _law_added -/
def tbD (l : List Pt) : PyData := dTD ((boxL l).map (gcell l))
abbrev R_added (ds : List PyData) (d : PyData) : Prop := ∃ ps : List (List Pt), ds = [.list (ps.map tbD)] ∧ (∀ l ∈ ps, Lg l) ∧ ps.length ≤ 3 ∧ d = .list (canP ps)
def vK (ps : List (List Pt)) (l : List Pt) (t j : Nat) (k : Int × Int) : Rat := gsK (ps.take t) k + (if k ∈ (boxL l).take j then G l k.1 k.2 else 0)
theorem boxL_sorted {l : List Pt} : (boxL l).Pairwise lexLt := by rw [boxL_eq]; exact cellsB_sorted
theorem lex_ne {p q : Int × Int} (h : lexLt p q) : p ≠ q := fun z => by subst z; unfold lexLt at h; omega
theorem boxL_nodup {l : List Pt} : (boxL l).Nodup := boxL_sorted.imp lex_ne
theorem boxL_small {l : List Pt} (h : Lg l) {k : Int × Int} (hk : k ∈ boxL l) : k.1.natAbs ≤ 16 ∧ k.2.natAbs ≤ 16 := by
  rw [boxL_eq, mem_cellsB] at hk
  obtain ⟨x1, x2, x3⟩ := h.x
  obtain ⟨y1, y2, y3⟩ := h.y
  omega
theorem boxL_len {l : List Pt} (h : Lg l) : (boxL l).length ≤ 1024 := by
  obtain ⟨x1, x2, x3⟩ := h.x
  obtain ⟨y1, y2, y3⟩ := h.y
  unfold boxL
  have h2 := fm_len (f := fun (r : Int) => ((rngI (llo (xsO l)) (lhi (xsO l))).map fun c => PyData.tuple [.int r, .int c])) (m := 32) (fun _ => by rw [List.length_map]; unfold rngI; rw [List.length_map, List.length_range]; omega) (rngI (llo (ysO l)) (lhi (ysO l)))
  have e : (rngI (llo (ysO l)) (lhi (ysO l))).length ≤ 32 := by unfold rngI; rw [List.length_map, List.length_range]; omega
  have e2 : (((rngI (llo (ysO l)) (lhi (ysO l))).flatMap fun r => (rngI (llo (xsO l)) (lhi (xsO l))).map fun c => (r, c))).length = ((rngI (llo (ysO l)) (lhi (ysO l))).flatMap fun (r : Int) => ((rngI (llo (xsO l)) (lhi (xsO l))).map fun c => PyData.tuple [.int r, .int c])).length := by simp [List.length_flatMap]
  rw [e2]
  omega
theorem take_nodup {α : Type} {L : List α} (h : L.Nodup) {j : Nat} {k : α} (e : L[j]? = some k) : k ∉ L.take j := fun z => by
  obtain ⟨i, hi, e2⟩ := List.getElem_of_mem z
  rw [List.length_take] at hi
  rw [List.getElem_take] at e2
  obtain ⟨hj, e3⟩ := List.getElem?_eq_some_iff.mp e
  have := (List.getElem_inj (h₀ := by omega) (h₁ := hj) h).mp (e2.trans e3.symm)
  omega
theorem gsK_fq {ps : List (List Pt)} (h : ∀ l ∈ ps, Lg l) (hn : ps.length ≤ 3) {k : Int × Int} (hk : k.1.natAbs ≤ 5000 ∧ k.2.natAbs ≤ 5000) (t : Nat) (ht : t ≤ ps.length) : Fq 3060 400 (gsK (ps.take t) k) :=
  (gs_fq (ps := ps) (fun l hl => ⟨(h l hl).pq, by have := (h l hl).n; omega⟩) hk.1 hk.2 t ht).mono (by omega) (by omega)
theorem gsK_next {ps : List (List Pt)} {t : Nat} {l : List Pt} (e : ps[t]? = some l) {k : Int × Int} : gsK (ps.take (t + 1)) k = gsK (ps.take t) k + G l k.1 k.2 := by
  unfold gsK gs
  rw [List.take_add_one, e, List.foldl_append]
  rfl
/-- the states of the two walks -/
structure Sta (ps : List (List Pt)) (l : List Pt) (t j : Nat) (U : List (Int × Int)) : Prop where
  nd : U.Nodup
  mem : ∀ k, k ∈ U ↔ (∃ x ∈ ps.take t, k ∈ boxL x) ∨ k ∈ (boxL l).take j
  len : U.length ≤ 1100 * t + j
theorem Sta.next {ps : List (List Pt)} {l : List Pt} {t j : Nat} {U : List (Int × Int)} (h : Sta ps l t j U) {k : Int × Int} (e : (boxL l)[j]? = some k) : Sta ps l t (j + 1) (insK U k) where
  nd := nodup_insK h.nd
  mem := fun i => by
    rw [mem_insK, h.mem, List.take_add_one, e]
    simp [or_assoc]
  len := by have := len_insK (U := U) (k := k); have := h.len; omega
theorem Sta.table {ps : List (List Pt)} {l l2 : List Pt} {t : Nat} {U : List (Int × Int)} (e : ps[t]? = some l) (hb : (boxL l).length ≤ 1024) (h : Sta ps l t (boxL l).length U) : Sta ps l2 (t + 1) 0 U where
  nd := h.nd
  mem := fun i => by
    rw [h.mem, List.take_length, List.take_zero, List.take_add_one, e]
    simp only [Option.toList, List.mem_append, List.mem_singleton, List.not_mem_nil, or_false]
    constructor
    · rintro (⟨x, hx, hi⟩ | hi)
      · exact ⟨x, .inl hx, hi⟩
      · exact ⟨l, .inr rfl, hi⟩
    · rintro ⟨x, hx | rfl, hi⟩
      · exact .inl ⟨x, hx, hi⟩
      · exact .inr hi
  len := by have := h.len; omega
theorem vK_zero {ps : List (List Pt)} {l : List Pt} {t : Nat} {k : Int × Int} : vK ps l t 0 k = gsK (ps.take t) k := by unfold vK; simp; grind
theorem vK_all {ps : List (List Pt)} {l : List Pt} {t : Nat} {k : Int × Int} (e : ps[t]? = some l) : vK ps l t (boxL l).length k = gsK (ps.take (t + 1)) k := by
  unfold vK
  rw [List.take_length, gsK_next e]
  by_cases h : k ∈ boxL l
  · rw [if_pos h]
  · rw [if_neg h, Classical.byContradiction fun z => h (in_box (l := l) (k := k) z)]
/-- what stood there, or nought -/
theorem old_at {ps : List (List Pt)} {l : List Pt} {t j : Nat} {U : List (Int × Int)} (h : Sta ps l t j U) {k : Int × Int} (e : (boxL l)[j]? = some k) :
    (valT (dcF U (vK ps l t j)) (pK k)).getD (qp 0) = qp (gsK (ps.take t) k) := by
  have hk := take_nodup boxL_nodup e
  rw [valT_dc]
  by_cases hu : k ∈ U
  · rw [if_pos hu]
    show qp (vK ps l t j k) = _
    unfold vK
    rw [if_neg hk]
    rw [show gsK (ps.take t) k + 0 = gsK (ps.take t) k by grind]
  · rw [if_neg hu]
    show qp 0 = _
    rw [show gsK (ps.take t) k = 0 from Classical.byContradiction fun z => by
      obtain ⟨x, hx, hg⟩ := gs_some z
      exact hu ((h.mem k).mpr (.inl ⟨x, hx, in_box hg⟩))]
theorem new_at {ps : List (List Pt)} {l : List Pt} {t j : Nat} {U : List (Int × Int)} {k : Int × Int} (e : (boxL l)[j]? = some k) :
    dcF (insK U k) (fun i => if i = k then gsK (ps.take t) k + G l k.1 k.2 else vK ps l t j i) = dcF (insK U k) (vK ps l t (j + 1)) := dcF_congr fun i hi => by
  have hk := take_nodup boxL_nodup e
  have hm : ∀ i, i ∈ (boxL l).take (j + 1) ↔ i ∈ (boxL l).take j ∨ i = k := fun i => by rw [List.take_add_one, e]; simp
  by_cases h : i = k
  · subst h
    rw [if_pos rfl]
    unfold vK
    rw [if_pos ((hm i).mpr (.inr rfl))]
  · rw [if_neg h]
    unfold vK
    by_cases h2 : i ∈ (boxL l).take j
    · rw [if_pos h2, if_pos ((hm i).mpr (.inl h2))]
    · rw [if_neg h2, if_neg fun z => (hm i).mp z |>.elim h2 h]
theorem gcell_dc {l : List Pt} : (boxL l).map (gcell l) = dcF (boxL l) (fun k => G l k.1 k.2) := rfl
def cD (g : Int × Int → Rat) : PyData → Bool
  | .tuple [.int r, .int c] => nzb g (r, c)
  | _ => false
def fD (g : Int × Int → Rat) : PyData → PyData
  | .tuple [.int r, .int c] => nzD g (r, c)
  | _ => .none
theorem filt_D {g : Int × Int → Rat} : ∀ zs : List (Int × Int), ((zs.map pPD).filter (cD g)).map (fD g) = canF g zs
  | [] => rfl
  | k :: zs => by
    have ih := filt_D (g := g) zs
    unfold canF at ih ⊢
    rw [List.map_cons, List.filter_cons, List.filter_cons]
    have e : cD g (pPD k) = nzb g k := rfl
    rw [e]
    by_cases h : nzb g k = true
    · rw [if_pos h, if_pos h, List.map_cons, List.map_cons, ih]; rfl
    · rw [if_neg h, if_neg h, ih]
theorem lex_lt {zs : List (Int × Int)} (h : zs.Pairwise lexLe) (hn : zs.Nodup) : zs.Pairwise lexLt := by
  refine (h.and hn).imp fun {p q} ⟨h1, h2⟩ => ?_
  unfold lexLe at h1
  unfold lexLt
  have : ¬ (p.1 = q.1 ∧ p.2 = q.2) := fun z => h2 (Prod.ext z.1 z.2)
  omega
theorem c_L_added (T : Top K w mg) : Cal P w K mg base "_law_added" 3 p_L_added (spP K R_added) :=
  T.h_L_added.call (fun _ _ _ _ _ _ us hl => match us, hl with | [_], _ => rfl) fun f fd F m => fn_pure F sc_L_added (by walk_at "len") fun cdv A outer s H E hr => ⟨_, (pss_cons (ps_set (i := 1) sc_L_added.nd rfl (.inr rfl) pe_dnewT)
    (pss_cons (ps_for PassesOwn.never rfl (pi_XK (K := K) rfl (pv 0)) (pg_name (i := 2) sc_L_added.nd rfl (.inl rfl))
    (pss_one (ps_forK (ps_for PassesOwn.never rfl (pi_keys (pv 2)) (pg_name (i := 3) sc_L_added.nd rfl (.inl rfl))
    (pss_one (ps_asg (pe_cal (c_L_plus (P := P) (w := w) (K := K) (mg := mg) (base := base) T) (hr.mono (by omega)) (by rfl) (pa_cons (pe_dget2 (room1 hr) (pv 1) (pv 3) (pe_tup (pa_cons pe_int (pa_cons pe_int pa_nil))) ⟨by rfl, by rfl, by rfl, by rfl⟩) (pa_cons (pe_dget (room1 hr) (pv 2) (pv 3) (fun _ _ => rfl)) pa_nil))) (pg_sub (pv 1) (pv 3) (set_dict (room1 hr)))))))))
    (pss_one (ps_ret (pe_lc (own := [("row", 4), ("column", 5)]) (g := gTup K 2 (gCons (gName 4) (gCons (gName 5) gNil))) rfl sc_L_added.nd  (pi_XK (K := K) rfl (pe_callB (cr_sortedK (K := K) rfl) (by rfl) T.m_sorted (by decide +kernel) (pa_cons (pe_callTy (call_listDT rfl) (by rfl) T.m_list (by decide +kernel) (pa_cons (pv 1) pa_nil)) pa_nil)))
      (blkOk_by (own := [("row", 4), ("column", 5)]) (N := N_L_added) (sc := defScope s_L_added) (by decide +kernel)) (fun _ _ _ _ _ => pg_tupK (K := K) (n := 2) rfl (by rfl) (pgs_cons (pg_name (i := 4) sc_L_added.nd rfl (Or.inl rfl)) (pgs_cons (pg_name (i := 5) sc_L_added.nd rfl (Or.inl rfl)) pgs_nil)))
      (fun _ _ _ _ _ => (pts_one (pt_cmpR (op_neXK (K := K) rfl hr.units) (pe_ix (ix_XK (K := K) rfl) (pe_dget (room1 hr) (pv 1) (pe_tup (pa_cons (pv 4) (pa_cons (pv 5) pa_nil))) (fun _ _ => rfl)) pe_int (fun _ _ => rfl)) pe_int (nomark _)))) (fun _ _ _ _ _ => (pe_tup (pa_cons (pv 4) (pa_cons (pv 5) (pa_cons (pe_cal (c_L_num (P := P) (w := w) (K := K) (mg := mg) (base := base) T) (hr.mono (by omega)) (by rfl) (pa_cons (pe_dget (room1 hr) (pv 1) (pe_tup (pa_cons (pv 4) (pa_cons (pv 5) pa_nil))) (fun _ _ => rfl)) pa_nil)) pa_nil)))))))))), fun ds d hR => by
    obtain ⟨ps, rfl, hl, hn, rfl⟩ := hR
    walk_at "d"
    intro a ha
    refine ws_seq (ws_for (wi_X (we_var rfl ⟨_, .inl rfl, fun t ρ β => ∃ (s2 s3 : Slot) (U : List (Int × Int)), Sta ps [] t 0 U ∧ ρ = [.dat (.list (ps.map tbD)), .raw (.ref a), s2, s3, .no, .no] ∧ β = [(a, .dcT (dcF U (gsK (ps.take t))))],
      ⟨_, _, [], ⟨List.nodup_nil, fun k => by simp, by simp⟩, rfl, rfl⟩, ?_, ?_⟩)))
    · rintro t d ρ' β' hd ⟨s2, s3, U, hU, rfl, rfl⟩
      obtain ⟨l, e1, rfl⟩ := get_map hd
      have hll := hl l (List.mem_of_getElem? e1)
      have ht := (List.getElem?_eq_some_iff.mp e1).1
      have hbl := boxL_len hll
      have hU2 : Sta ps l t 0 U := ⟨hU.nd, fun k => by rw [hU.mem]; simp, hU.len⟩
      have e0 : dcF U (gsK (ps.take t)) = dcF U (vK ps l t 0) := dcF_congr fun k _ => vK_zero.symm
      rw [e0]
      clear hU e0
      refine wg_name ?_
      refine ws_forKeys (kvs := (boxL l).map (gcell l)) rfl (fun j ρ β => ∃ (s3 : Slot) (U : List (Int × Int)), Sta ps l t j U ∧ ρ = [.dat (.list (ps.map tbD)), .raw (.ref a), .dat (tbD l), s3, .no, .no] ∧ β = [(a, .dcT (dcF U (vK ps l t j)))]) ⟨_, U, hU2, rfl, rfl⟩ ?_ ?_
      · rintro j p ρ' β' hp ⟨s3, U, hU, rfl, rfl⟩
        obtain ⟨k, ek, rfl⟩ : ∃ k, (boxL l)[j]? = some k ∧ p = gcell l k := by
          rw [List.getElem?_map] at hp
          cases h : (boxL l)[j]? with
          | none => rw [h] at hp; cases hp
          | some k => rw [h] at hp; exact ⟨k, rfl, (Option.some.inj hp).symm⟩
        have hkm := List.mem_of_getElem? ek
        have hks := boxL_small hll hkm
        have hold := old_at hU ek
        have hnew := new_at (ps := ps) (t := t) (U := U) ek
        have fg := gsK_fq hl hn (k := k) (by omega) t (by omega)
        have fG := G_fq (r := k.1) (c := k.2) hll.pq (by have := hll.n; omega) (by omega) (by omega)
        have hUl := hU.len
        have hjl : j < (boxL l).length := (List.getElem?_eq_some_iff.mp ek).1
        refine ws_putTk rfl rfl ?_
        refine we_call (wa_cons (we_getTk (j := 0) rfl rfl rfl ?_))
        walk_at "d"
        refine ⟨rfl, ?_⟩
        refine wa_cons (we_ixTd (ks := pK k) (kvs := (boxL l).map (gcell l)) (d := qp (G l k.1 k.2)) rfl rfl (by rw [gcell_dc, valT_dc, if_pos hkm]) (wa_nil ?_))
        rw [show (gcell l k).1 = pK k from rfl, qp_zero, hold]
        refine ⟨_, ⟨_, _, rfl, fg.sq (by decide) (by decide), fG.sq (by decide) (by decide), rfl⟩, ?_⟩
        refine ⟨0, _, rfl, by unfold dcF; rw [List.length_map]; omega, .key (pK k), insK U k, hU.next ek, rfl, ?_⟩
        rw [putT_dc]
        show [(a, Oc.dcT (dcF (insK U k) (fun i => if i = k then gsK (ps.take t) k + G l k.1 k.2 else vK ps l t j i)))] = _
        rw [hnew]
      · rintro ρ' β' ⟨s3, U, hU, rfl, rfl⟩
        rw [List.length_map] at hU ⊢
        have hU3 := hU.table (l2 := []) e1 hbl
        refine ⟨_, _, U, hU3, rfl, ?_⟩
        rw [dcF_congr fun k _ => vK_all (k := k) e1]
    rintro ρ' β' ⟨s2, s3, U, hU, rfl, rfl⟩
    rw [List.length_map, List.take_length] at *
    refine ws_ret ?_
    refine we_lc_if (tg := [4] ++ ([5] ++ [])) (cD (gsK ps)) (fD (gsK ps)) (by decide) (wi_X (we_sortedKeys (j := 0) (ps := U) rfl rfl (by unfold dcF; rw [List.map_map]; rfl) fun zs hz1 hz2 => ⟨_, .inl rfl, ?_, ?_, ?_⟩))
    · have h1 := hz1.length_eq
      have h2 := hU.len
      rw [List.length_map]
      exact line10 (by omega)
    · intro d hd
      obtain ⟨k, hk, rfl⟩ := List.mem_map.mp hd
      have hku : k ∈ U := hz1.mem_iff.mp hk
      have hval : valT (dcF U (gsK ps)) (pK k) = some (qp (gsK ps k)) := by rw [valT_dc, if_pos hku]
      refine wgc_tup (tg := [4] ++ ([5] ++ [])) rfl (wgcs_cons (wgc_name (wgcs_cons (wgc_name (wgcs_nil ?_)))))
      have hb : (!decide ((gsK ps k).num = 0)) = cD (gsK ps) (pPD k) := by
        show _ = decide (gsK ps k ≠ 0)
        by_cases h : gsK ps k = 0
        · rw [h]; rfl
        · rw [decide_eq_true h, decide_eq_false (num_ne h)]; rfl
      refine wt_test (we_op (we_op (we_ixTO (j := 0) rfl (wa_cons (we_var rfl (wa_cons (we_var rfl (wa_nil ⟨pK k, _, _, rfl, Nat.le_of_ble_eq_true rfl, rfl, hval, ?_⟩))))))))
      rw [show qp (gsK ps k) = .tuple [.int (gsK ps k).num, .int (gsK ps k).den] from rfl]
      walk_at "d"
      refine ⟨hb, rfl, fun hbt => ?_⟩
      walk_at "d"
      refine we_ixTO (j := 0) rfl (wa_cons (we_var rfl (wa_cons (we_var rfl (wa_nil ⟨pK k, _, _, rfl, Nat.le_of_ble_eq_true rfl, rfl, hval, ?_⟩)))))
      walk_at "d"
      exact ⟨rfl, rfl⟩
    · rw [filt_D, canP_any (lex_lt hz2 (hz1.nodup_iff.mpr hU.nd)) fun k h => hz1.mem_iff.mpr ((hU.mem k).mpr ?_)]
      obtain ⟨l, hl2, hg⟩ := gs_some h
      rw [List.take_length]
      exact .inl ⟨l, hl2, in_box hg⟩⟩
end K84

set_option Elab.async false
set_option linter.all false
set_option maxRecDepth 100000
set_option pp.deepTerms false
set_option pp.deepTerms.threshold 6
set_option maxHeartbeats 4000000
namespace K84
open PySem PySem.Spec PyProof.Rows L2 DS
open G84 (Pt G cyc cross lastP lastD ps)
open K77 (Bd)
-- the steps that need no thought: one, as many as there are
local macro_rules | `(tactic| walk_at "d1") => `(tactic| with_reducible first
  | refine ws_seq ?_ | refine ws_next ?_ | refine ws_retN ?_ | refine ws_ret ?_ | refine ws_if ?_ | refine ws_par ?_ | refine ws_par3 ?_ | refine ws_setK ?_ | refine ws_newD ?_ | refine wp_cons ?_ | refine wp_nil ?_ | refine ws_newDK ?_ | refine ws_newDT ?_ | refine ws_set ?_ | refine ws_star ?_ | refine ws_setO rfl ?_ | apply ws_asg
  | refine we_var rfl ?_ | refine we_int ?_ | refine we_bl ?_ | refine we_str ?_ | refine we_non ?_ | refine we_kd ?_ | refine we_ixO rfl ?_
  | refine we_isi isg_int ?_ | refine we_isi isg_bool ?_ | refine we_isi isg_str ?_ | refine we_isi isg_list ?_ | refine we_isi isg_tuple ?_ | refine we_isi2 isg_list isg_tuple ?_ | refine we_isi2 isg_int isg_tuple ?_
  | refine we_inK ?_ | refine we_ixK ?_ | refine we_op ?_ | refine we_un ?_ | refine we_cb ?_ | refine we_tup ?_ | refine we_lst ?_ | refine we_andV ?_ | refine we_orV ?_ | refine we_notV ?_ | refine we_if ?_ | refine we_chain ?_ | refine we_sl ?_ | refine we_call ?_ | refine we_callD ?_ | refine we_rev ?_
  | refine wa_nil ?_ | refine wa_cons ?_ | refine wo_none ?_ | refine wo_some ?_ | refine wt_test ?_ | refine wt_B ?_ | refine wt_and ?_ | refine wt_or ?_ | refine wt_not ?_
  | refine wg_tup rfl ?_ | refine wgs_cons ?_ | refine wgs_nil ?_ | refine wg_name ?_
  | refine ⟨_, r2_int, ?_⟩ | refine ⟨_, r2_bl, ?_⟩ | refine ⟨_, r2_addI, ?_⟩ | refine ⟨_, r2_eqI, ?_⟩ | refine ⟨_, r2_neI, ?_⟩ | refine ⟨_, r2_eqS, ?_⟩ | refine ⟨_, r2_neS, ?_⟩ | refine ⟨_, r2_isN, ?_⟩ | refine ⟨_, r1_neg, ?_⟩
  | refine ⟨_, rc_absI, ?_⟩ | refine ⟨_, rc_intI, ?_⟩ | refine ⟨_, rc_intB, ?_⟩ | refine ⟨_, rc_max, ?_⟩ | refine ⟨_, rc_min, ?_⟩ | refine ⟨_, rc_lenL, ?_⟩ | refine ⟨_, rc_lenT, ?_⟩ | refine ⟨_, rc_listL, ?_⟩ | refine ⟨_, rc_listT, ?_⟩ | refine ⟨_, rc_tupL, ?_⟩ | refine ⟨_, rc_tupT, ?_⟩
  | refine ⟨_, rfl, ?_⟩ | refine ⟨_, _, rfl, ?_⟩ | refine ⟨_, ⟨_, rfl, rfl⟩, ?_⟩ | refine ⟨_, ⟨_, _, rfl, rfl⟩, ?_⟩)
local macro_rules | `(tactic| walk_at "d") => `(tactic| repeat (first | walk_at "d1" | refine ⟨lenOk rfl, ?_⟩ | refine ⟨0, _, _, _, rfl, rfl, rfl, ?_⟩ | refine ⟨_, r2_ixXL rfl, ?_⟩ | refine ⟨_, r2_ixXT rfl, ?_⟩ | refine ⟨_, r2_ixXT at0, ?_⟩ | refine ⟨_, r2_ixXT at1, ?_⟩ | refine ⟨_, r2_ixXL at0, ?_⟩ | refine ⟨_, r2_ixXL at1, ?_⟩))
-- a condition whose truth comes out by computation
local macro_rules | `(tactic| walk_at "b1") => `(tactic| first
  | refine ⟨fun _ => ?_, fun h => Bool.noConfusion (show true = false from h)⟩
  | refine ⟨fun h => Bool.noConfusion (show false = true from h), fun _ => ?_⟩)
local macro_rules | `(tactic| walk_at "db") => `(tactic| repeat (first | walk_at "d1" | refine ⟨lenOk rfl, ?_⟩ | refine ⟨0, _, _, _, rfl, rfl, rfl, ?_⟩ | refine ⟨_, r2_ixXL rfl, ?_⟩ | refine ⟨_, r2_ixXT rfl, ?_⟩ | refine ⟨_, r2_ixXT at0, ?_⟩ | refine ⟨_, r2_ixXT at1, ?_⟩ | refine ⟨_, r2_ixXL at0, ?_⟩ | refine ⟨_, r2_ixXL at1, ?_⟩ | walk_at "b1"))
-- how many arguments there are
local macro_rules | `(tactic| walk_at "len") => `(tactic| (intro _ _ h; first
  | (obtain ⟨_, e, _⟩ := h; subst e; rfl) | (obtain ⟨_, _, e, _⟩ := h; subst e; rfl) | (obtain ⟨_, _, _, e, _⟩ := h; subst e; rfl) | (obtain ⟨_, _, _, _, e, _⟩ := h; subst e; rfl) | (obtain ⟨_, _, _, _, _, e, _⟩ := h; subst e; rfl)))
local macro_rules | `(tactic| walk_at "leno") => `(tactic| (intro _ _ h; first
  | (obtain ⟨⟨_, e, _⟩, _⟩ := h; subst e; rfl) | (obtain ⟨⟨_, _, e, _⟩, _⟩ := h; subst e; rfl) | (obtain ⟨e, _⟩ := h; subst e; rfl) | (obtain ⟨_, e, _⟩ := h; subst e; rfl) | (obtain ⟨_, _, e, _⟩ := h; subst e; rfl) | (obtain ⟨_, _, _, e, _⟩ := h; subst e; rfl) | (obtain ⟨_, _, _, _, e, _⟩ := h; subst e; rfl)))

variable {P : Program} {w : World} {K : PySem.W.Frag} {mg : Str → Option Value} {base : Heap}
/-! ### deeds on a box -/
theorem wa_mono {ta : TA} {ρ : List Slot} {β : Bt} {P P' : List PyData → Bt → Prop} (h : WA K ta ρ β P) (f : ∀ d β2, P d β2 → P' d β2) : WA K ta ρ β P' := fun os H σ Q hk hs q => h os H σ Q hk hs fun v H2 d β2 p => q v H2 d β2 (f d β2 p)
abbrev PreB (c : Nat) (A : List PyData → Prop) (bx ds : List PyData) : Prop := A ds ∧ Pb c bx
abbrev PostB (c : Nat) (B : List PyData → PyData → Prop) (bx ds : List PyData) (d : PyData) (bx' : List PyData) : Prop := B ds d ∧ Qb c bx bx'
theorem pb_min {c : Nat} {bx : List PyData} (h : Pb c bx) : ∃ m, m + c ≤ 1000000 ∧ Bx m bx ∧ ∀ bx', Bx (m + c) bx' → Qb c bx bx' := by
  obtain ⟨m, hm, x, y, z, rfl, h1, h2, h3, h4, h5⟩ := h
  refine ⟨z.toNat, by omega, ⟨x, y, z, rfl, h1, h2, h3, h4, by omega⟩, fun bx' hb m0 h0 => ?_⟩
  obtain ⟨_, _, _, e, _, _, _, _, h6⟩ := h0
  cases e
  exact hb.mono (by omega)
theorem we_take {ρ : List Slot} {i m : Nat} {b : Addr} {bx : List PyData} {γ : Bt} {ta : TA} {Q : PyData → Bt → Prop} (hi : ρ[i]? = some (.raw (.ref b))) (hB : Bx m bx) (hm : m + 1 ≤ 1000000)
    (h : WA K ta ρ ((b, .lst bx) :: γ) fun ds β1 => ∃ n : Nat, ds = [.int n] ∧ (1 ≤ n ∧ n ≤ 1000) ∧ β1 = (b, .lst bx) :: γ ∧ ∀ (t : Nat) bx', t < n → Bx (m + 1) bx' → Q (.int t) ((b, .lst bx') :: γ)) : WE K (tCall (spO K PreT PostT) [] EN (tCons (tVar i) ta)) ρ ((b, .lst bx) :: γ) Q := by
  refine we_callO hi (wa_mono h ?_)
  rintro _ _ ⟨n, rfl, hn, rfl, h⟩
  refine ⟨0, bx, rfl, ⟨n, rfl, hn.1, hn.2, m, hm, hB⟩, ?_⟩
  rintro d bx' ⟨t, n', e, rfl, ht, hQ⟩
  have e : n = n' := by
    injection e with e
    injection e with e
    omega
  subst e
  exact h t bx' ht (hQ m hB)
theorem we_box {ρ : List Slot} {i c : Nat} {b : Addr} {β : Bt} {ta : TA} {A : List PyData → Prop} {B : List PyData → PyData → Prop} {Q : PyData → Bt → Prop} (hi : ρ[i]? = some (.raw (.ref b)))
    (h : WA K ta ρ β fun ds β1 => ∃ (m : Nat) (bx : List PyData) (γ : Bt), β1 = (b, .lst bx) :: γ ∧ Bx m bx ∧ m + c ≤ 1000000 ∧ A ds ∧ ∀ d bx', B ds d → Bx (m + c) bx' → Q d ((b, .lst bx') :: γ)) : WE K (tCall (spO K (PreB c A) (PostB c B)) [] EN (tCons (tVar i) ta)) ρ β Q := by
  refine we_callO hi (wa_mono h ?_)
  rintro ds _ ⟨m, bx, γ, rfl, hB, hm, hA, h⟩
  refine ⟨0, bx, rfl, ⟨hA, m, hm, hB⟩, ?_⟩
  rintro d bx' ⟨hb, hQ⟩
  exact h d bx' hb (hQ m hB)
theorem ws_end {t : TS} {ρ : List Slot} {β : Bt} {E : Out} (h : WS K t ρ β { E with nx := fun ρ1 β1 => WS K tNext ρ1 β1 E }) : WS K t ρ β E := ws_seq (u := tNext) h
/-! ### places -/
def B_place (_ : List PyData) (d : PyData) : Prop := ∃ p : Pt, d = ptP p ∧ Og p ∧ Ab 700 p.1 ∧ Ab 700 p.2
abbrev Pre_place := PreB 3 (fun ds => ∃ far : Nat, ds = [.int far] ∧ far ≤ 100)
abbrev Post_place := PostB 3 B_place
theorem og_int {x y : Int} (hx : x.natAbs ≤ 1000) (hy : y.natAbs ≤ 1000) : Og ((x : Rat), (y : Rat)) := ⟨⟨Dv.int 6 x, Ab.int hx⟩, ⟨Dv.int 6 y, Ab.int hy⟩⟩
theorem pt_int {x y : Int} : PyData.tuple [.tuple [.int x, .int 1], .tuple [.int y, .int 1]] = ptP ((x : Rat), (y : Rat)) := rfl
theorem og_frac {x y : Int} (hx : x.natAbs ≤ 1000) (hy : y.natAbs ≤ 1000) : Og ((x : Rat) / ((2 : Int) : Rat), (y : Rat) / ((3 : Int) : Rat)) := by
  have e2 : ((2 : Int) : Rat) * ((x : Rat) / ((2 : Int) : Rat)) = (x : Rat) := by
    have h : ((2 : Int) : Rat) = 2 := rfl
    rw [h]; grind
  have e3 : ((3 : Int) : Rat) * ((y : Rat) / ((3 : Int) : Rat)) = (y : Rat) := by
    have h : ((3 : Int) : Rat) = 3 := rfl
    rw [h]; grind
  exact ⟨⟨Dv.quot (D := 6) (by decide) (by decide) e2, Ab.quot (by decide) hx e2⟩, ⟨Dv.quot (D := 6) (by decide) (by decide) e3, Ab.quot (by decide) hy e3⟩⟩
theorem ab_frac {x y : Int} (hx : x.natAbs ≤ 700) (hy : y.natAbs ≤ 700) : Ab 700 ((x : Rat) / ((2 : Int) : Rat)) ∧ Ab 700 ((y : Rat) / ((3 : Int) : Rat)) := by
  have e2 : ((2 : Int) : Rat) * ((x : Rat) / ((2 : Int) : Rat)) = (x : Rat) := by
    have h : ((2 : Int) : Rat) = 2 := rfl
    rw [h]; grind
  have e3 : ((3 : Int) : Rat) * ((y : Rat) / ((3 : Int) : Rat)) = (y : Rat) := by
    have h : ((3 : Int) : Rat) = 3 := rfl
    rw [h]; grind
  exact ⟨Ab.quot (by decide) hx e2, Ab.quot (by decide) hy e3⟩
theorem quot_mul {x b : Int} (hb : b ≠ 0) : (x : Rat) / (b : Rat) * (b : Rat) = (x : Rat) := Rat.div_mul_cancel fun z => hb (Rat.intCast_eq_zero_iff.mp z)
theorem c_L_place (T : Top K w mg) : Cal P w K mg base "_law_place" 4 p_L_place (spO K Pre_place Post_place) :=
  T.h_L_place.call (fun _ _ _ _ _ _ us hl => match us, hl with | [_, _], _ => rfl) fun f fd F m => fn_own F sc_L_place (by walk_at "leno") fun cdv A outer s H E hr => ⟨_, (pss_cons (ps_par (i := 2) (j := 3) (by rfl) sc_L_place.nd rfl rfl (by decide) rfl rfl (pa_cons (pe_op op_sub (pe_cal (c_L_take (P := P) (w := w) (K := K) (mg := mg) (base := base) T) (hr.mono (by omega)) (by rfl) (pa_cons (pv 0) (pa_cons (pe_op (op_addXK (K := K) rfl) (pe_op op_mulW pe_int (pv 1)) pe_int) pa_nil))) (pv 1)) (pa_cons (pe_op op_sub (pe_cal (c_L_take (P := P) (w := w) (K := K) (mg := mg) (base := base) T) (hr.mono (by omega)) (by rfl) (pa_cons (pv 0) (pa_cons (pe_op (op_addXK (K := K) rfl) (pe_op op_mulW pe_int (pv 1)) pe_int) pa_nil))) (pv 1)) pa_nil)) (by rfl))
    (pss_cons (ps_set (i := 4) sc_L_place.nd rfl (.inl rfl) (pe_cal (c_L_take (P := P) (w := w) (K := K) (mg := mg) (base := base) T) (hr.mono (by omega)) (by rfl) (pa_cons (pv 0) (pa_cons pe_int pa_nil))))
    (pss_cons (ps_if (pt_cmpR (op_eqXK (K := K) rfl hr.units) (pv 4) pe_int (nomark _)) (pss_one (ps_ret (pe_tup (pa_cons (pe_tup (pa_cons (pe_op op_mulW pe_int (pe_op op_fdivA (pv 2) pe_int)) (pa_cons pe_int pa_nil))) (pa_cons (pe_tup (pa_cons (pe_op op_mulW pe_int (pe_op op_fdivA (pv 3) pe_int)) (pa_cons pe_int pa_nil))) pa_nil))))) pss_nil)
    (pss_cons (ps_if (pt_cmpR (op_eqXK (K := K) rfl hr.units) (pv 4) pe_int (nomark _)) (pss_one (ps_ret (pe_tup (pa_cons (pe_cal (c_L_low (P := P) (w := w) (K := K) (mg := mg) (base := base) T) (hr.mono (by omega)) (by rfl) (pa_cons (pe_op (op_addXK (K := K) rfl) (pe_op op_mulW pe_int (pv 2)) pe_int) (pa_cons pe_int pa_nil))) (pa_cons (pe_cal (c_L_low (P := P) (w := w) (K := K) (mg := mg) (base := base) T) (hr.mono (by omega)) (by rfl) (pa_cons (pv 3) (pa_cons pe_int pa_nil))) pa_nil))))) pss_nil)
    (pss_one (ps_ret (pe_tup (pa_cons (pe_tup (pa_cons (pv 2) (pa_cons pe_int pa_nil))) (pa_cons (pe_tup (pa_cons (pv 3) (pa_cons pe_int pa_nil))) pa_nil))))))))), fun b bx ds hR => by
    obtain ⟨⟨far, rfl, hfar⟩, hp⟩ := hR
    obtain ⟨m, hm, hB, hQ⟩ := pb_min hp
    have hf : Bd 8 (far : Int) := by unfold Bd; omega
    walk_at "d"
    refine we_take rfl hB (by omega) ?_
    walk_at "d"
    refine ⟨_, r2_intC (mulOk (bd8 (n := 8)) hf), ?_⟩
    walk_at "d"
    refine ⟨show 1 ≤ 2 * far + 1 ∧ 2 * far + 1 ≤ 1000 by omega, rfl, fun t bx ht hB => ?_⟩
    have ht : t < 2 * far + 1 := ht
    walk_at "d"
    refine we_take rfl hB (by omega) ?_
    walk_at "d"
    refine ⟨_, r2_intC (mulOk (bd8 (n := 8)) hf), ?_⟩
    walk_at "d"
    refine ⟨show 1 ≤ 2 * far + 1 ∧ 2 * far + 1 ≤ 1000 by omega, rfl, fun u bx hu hB => ?_⟩
    have hu : u < 2 * far + 1 := hu
    walk_at "d"
    have hx : ((t : Int) - (far : Int)).natAbs ≤ 100 := by omega
    have hy : ((u : Int) - (far : Int)).natAbs ≤ 100 := by omega
    generalize (t : Int) - (far : Int) = x at *
    generalize (u : Int) - (far : Int) = y at *
    refine we_take rfl hB (by omega) ?_
    walk_at "d"
    refine ⟨by first | decide | omega, rfl, fun v bx hv hB => ?_⟩
    have hv : v < 5 := hv
    walk_at "d"
    have hQ := hQ _ (hB.mono (by omega))
    have hbx : Bd 12 x := by unfold Bd; omega
    refine ⟨fun h => ?_, fun h => ?_⟩
    · have h1 : x.fdiv 64 = x / 64 := Int.fdiv_eq_ediv_of_nonneg _ (by decide)
      have h2 : y.fdiv 64 = y / 64 := Int.fdiv_eq_ediv_of_nonneg _ (by decide)
      walk_at "d"
      refine ⟨_, r2_intC ⟨by decide, by decide⟩, ?_⟩
      walk_at "d"
      refine ⟨_, r2_intC (mulOk (m := 19) (n := 19) (bd_of (by decide)) (bd_of (by omega))), ?_⟩
      walk_at "d"
      refine ⟨_, r2_intC ⟨by decide, by decide⟩, ?_⟩
      walk_at "d"
      refine ⟨_, r2_intC (mulOk (m := 19) (n := 19) (bd_of (by decide)) (bd_of (by omega))), ?_⟩
      walk_at "d"
      rw [pt_int]
      exact ⟨⟨_, rfl, og_int (by omega) (by omega), Ab.int (by omega), Ab.int (by omega)⟩, hQ⟩
    walk_at "d"
    refine ⟨fun h => ?_, fun h => ?_⟩
    · walk_at "d"
      refine ⟨_, r2_intC (mulOk (bd8 (n := 8)) hbx), ?_⟩
      walk_at "d"
      refine ⟨_, ⟨2 * x + 1, 2, _, rfl, by decide, by unfold Bd; have : 1000 < 2 ^ 900000 := Nat.lt_of_lt_of_le (show 1000 < 2 ^ 10 by decide) (Nat.pow_le_pow_right (by decide) (by decide)); omega, bd8, quot_mul (by decide), rfl⟩, ?_⟩
      walk_at "d"
      refine ⟨_, ⟨y, 3, _, rfl, by decide, by unfold Bd; have : 1000 < 2 ^ 900000 := Nat.lt_of_lt_of_le (show 1000 < 2 ^ 10 by decide) (Nat.pow_le_pow_right (by decide) (by decide)); omega, bd8, quot_mul (by decide), rfl⟩, ?_⟩
      walk_at "d"
      exact ⟨⟨_, rfl, og_frac (x := 2 * x + 1) (y := y) (by omega) (by omega), ab_frac (x := 2 * x + 1) (y := y) (by omega) (by omega)⟩, hQ⟩
    · walk_at "d"
      rw [pt_int]
      exact ⟨⟨_, rfl, og_int (by omega) (by omega), Ab.int (by omega), Ab.int (by omega)⟩, hQ⟩⟩
end K84

set_option Elab.async false
set_option linter.all false
set_option maxRecDepth 100000
set_option pp.deepTerms false
set_option pp.deepTerms.threshold 6
set_option maxHeartbeats 4000000
namespace K84
open PySem PySem.Spec PyProof.Rows L2 DS
open G84 (Pt G cyc cross lastP lastD ps)
open K77 (Bd)
-- the steps that need no thought: one, as many as there are
local macro_rules | `(tactic| walk_at "d1") => `(tactic| with_reducible first
  | refine ws_seq ?_ | refine ws_next ?_ | refine ws_retN ?_ | refine ws_ret ?_ | refine ws_if ?_ | refine ws_par ?_ | refine ws_par3 ?_ | refine ws_setK ?_ | refine ws_newD ?_ | refine wp_cons ?_ | refine wp_nil ?_ | refine ws_newDK ?_ | refine ws_newDT ?_ | refine ws_set ?_ | refine ws_star ?_ | refine ws_setO rfl ?_ | apply ws_asg
  | refine we_var rfl ?_ | refine we_int ?_ | refine we_bl ?_ | refine we_str ?_ | refine we_non ?_ | refine we_kd ?_ | refine we_ixO rfl ?_
  | refine we_isi isg_int ?_ | refine we_isi isg_bool ?_ | refine we_isi isg_str ?_ | refine we_isi isg_list ?_ | refine we_isi isg_tuple ?_ | refine we_isi2 isg_list isg_tuple ?_ | refine we_isi2 isg_int isg_tuple ?_
  | refine we_inK ?_ | refine we_ixK ?_ | refine we_op ?_ | refine we_un ?_ | refine we_cb ?_ | refine we_tup ?_ | refine we_lst ?_ | refine we_andV ?_ | refine we_orV ?_ | refine we_notV ?_ | refine we_if ?_ | refine we_chain ?_ | refine we_sl ?_ | refine we_call ?_ | refine we_callD ?_ | refine we_rev ?_
  | refine wa_nil ?_ | refine wa_cons ?_ | refine wo_none ?_ | refine wo_some ?_ | refine wt_test ?_ | refine wt_B ?_ | refine wt_and ?_ | refine wt_or ?_ | refine wt_not ?_
  | refine wg_tup rfl ?_ | refine wgs_cons ?_ | refine wgs_nil ?_ | refine wg_name ?_
  | refine ⟨_, r2_int, ?_⟩ | refine ⟨_, r2_bl, ?_⟩ | refine ⟨_, r2_addI, ?_⟩ | refine ⟨_, r2_eqI, ?_⟩ | refine ⟨_, r2_neI, ?_⟩ | refine ⟨_, r2_eqS, ?_⟩ | refine ⟨_, r2_neS, ?_⟩ | refine ⟨_, r2_isN, ?_⟩ | refine ⟨_, r1_neg, ?_⟩
  | refine ⟨_, rc_absI, ?_⟩ | refine ⟨_, rc_intI, ?_⟩ | refine ⟨_, rc_intB, ?_⟩ | refine ⟨_, rc_max, ?_⟩ | refine ⟨_, rc_min, ?_⟩ | refine ⟨_, rc_lenL, ?_⟩ | refine ⟨_, rc_lenT, ?_⟩ | refine ⟨_, rc_listL, ?_⟩ | refine ⟨_, rc_listT, ?_⟩ | refine ⟨_, rc_tupL, ?_⟩ | refine ⟨_, rc_tupT, ?_⟩
  | refine ⟨_, rfl, ?_⟩ | refine ⟨_, _, rfl, ?_⟩ | refine ⟨_, ⟨_, rfl, rfl⟩, ?_⟩ | refine ⟨_, ⟨_, _, rfl, rfl⟩, ?_⟩)
local macro_rules | `(tactic| walk_at "d") => `(tactic| repeat (first | walk_at "d1" | refine ⟨lenOk rfl, ?_⟩ | refine ⟨0, _, _, _, rfl, rfl, rfl, ?_⟩ | refine ⟨_, r2_ixXL rfl, ?_⟩ | refine ⟨_, r2_ixXT rfl, ?_⟩ | refine ⟨_, r2_ixXT at0, ?_⟩ | refine ⟨_, r2_ixXT at1, ?_⟩ | refine ⟨_, r2_ixXL at0, ?_⟩ | refine ⟨_, r2_ixXL at1, ?_⟩))
-- a condition whose truth comes out by computation
local macro_rules | `(tactic| walk_at "b1") => `(tactic| first
  | refine ⟨fun _ => ?_, fun h => Bool.noConfusion (show true = false from h)⟩
  | refine ⟨fun h => Bool.noConfusion (show false = true from h), fun _ => ?_⟩)
local macro_rules | `(tactic| walk_at "db") => `(tactic| repeat (first | walk_at "d1" | refine ⟨lenOk rfl, ?_⟩ | refine ⟨0, _, _, _, rfl, rfl, rfl, ?_⟩ | refine ⟨_, r2_ixXL rfl, ?_⟩ | refine ⟨_, r2_ixXT rfl, ?_⟩ | refine ⟨_, r2_ixXT at0, ?_⟩ | refine ⟨_, r2_ixXT at1, ?_⟩ | refine ⟨_, r2_ixXL at0, ?_⟩ | refine ⟨_, r2_ixXL at1, ?_⟩ | walk_at "b1"))
-- how many arguments there are
local macro_rules | `(tactic| walk_at "len") => `(tactic| (intro _ _ h; first
  | (obtain ⟨_, e, _⟩ := h; subst e; rfl) | (obtain ⟨_, _, e, _⟩ := h; subst e; rfl) | (obtain ⟨_, _, _, e, _⟩ := h; subst e; rfl) | (obtain ⟨_, _, _, _, e, _⟩ := h; subst e; rfl) | (obtain ⟨_, _, _, _, _, e, _⟩ := h; subst e; rfl)))
local macro_rules | `(tactic| walk_at "leno") => `(tactic| (intro _ _ h; first
  | (obtain ⟨⟨_, e, _⟩, _⟩ := h; subst e; rfl) | (obtain ⟨⟨_, _, e, _⟩, _⟩ := h; subst e; rfl) | (obtain ⟨e, _⟩ := h; subst e; rfl) | (obtain ⟨_, e, _⟩ := h; subst e; rfl) | (obtain ⟨_, _, e, _⟩ := h; subst e; rfl) | (obtain ⟨_, _, _, e, _⟩ := h; subst e; rfl) | (obtain ⟨_, _, _, _, e, _⟩ := h; subst e; rfl)))

variable {P : Program} {w : World} {K : PySem.W.Frag} {mg : Str → Option Value} {base : Heap}
/-! ### _law_told, _law_land -/
abbrev R_told (ds : List PyData) (d : PyData) : Prop := ∃ l : List Pt, ds = [plP l] ∧ l.length ≤ 1000 ∧ d = plD l
theorem c_L_told (T : Top K w mg) : Cal P w K mg base "_law_told" 2 p_L_told (spP K R_told) :=
  T.h_L_told.call (fun _ _ _ _ _ _ us hl => match us, hl with | [_], _ => rfl) fun f fd F m => fn_pure F sc_L_told (by walk_at "len") fun cdv A outer s H E hr => ⟨_, (pss_one (ps_ret (pe_lc (own := [("x", 1), ("y", 2)]) (g := gTup K 2 (gCons (gName 1) (gCons (gName 2) gNil))) rfl sc_L_told.nd  (pi_XK (K := K) rfl (pv 0))
      (blkOk_by (own := [("x", 1), ("y", 2)]) (N := N_L_told) (sc := defScope s_L_told) (by decide +kernel)) (fun _ _ _ _ _ => pg_tupK (K := K) (n := 2) rfl (by rfl) (pgs_cons (pg_name (i := 1) sc_L_told.nd rfl (Or.inl rfl)) (pgs_cons (pg_name (i := 2) sc_L_told.nd rfl (Or.inl rfl)) pgs_nil)))
      (fun _ _ _ _ _ => pts_nil) (fun _ _ _ _ _ => (pe_tup (pa_cons (pe_cal (c_L_num (P := P) (w := w) (K := K) (mg := mg) (base := base) T) (hr.mono (by omega)) (by rfl) (pa_cons (pv 1) pa_nil)) (pa_cons (pe_cal (c_L_num (P := P) (w := w) (K := K) (mg := mg) (base := base) T) (hr.mono (by omega)) (by rfl) (pa_cons (pv 2) pa_nil)) pa_nil))))))), fun ds d hR => by
    obtain ⟨l, rfl, hn, rfl⟩ := hR
    refine ws_ret ?_
    refine we_lc_ix (tg := [1] ++ ([2] ++ [])) (by decide) (wi_X (we_var rfl ⟨_, .inl rfl, l.map ptD, line10 (by rw [List.length_map]; omega), by simp, ?_, rfl⟩))
    intro i d y hd hy
    obtain ⟨p, e1, rfl⟩ := get_map hd
    rw [List.getElem?_map, e1] at hy
    cases hy
    refine wgc_tup (tg := [1] ++ ([2] ++ [])) rfl (wgcs_cons (wgc_name (wgcs_cons (wgc_name (wgcs_nil ?_)))))
    walk_at "d"
    exact ⟨rfl, rfl⟩⟩
abbrev R_land (ds : List PyData) (d : PyData) : Prop := ∃ l : List Pt, ds = [plP l] ∧ Lg l ∧ d = qp (lnd l)
theorem c_L_land (T : Top K w mg) : Cal P w K mg base "_law_land" 3 p_L_land (spP K R_land) :=
  T.h_L_land.call (fun _ _ _ _ _ _ us hl => match us, hl with | [_], _ => rfl) fun f fd F m => fn_pure F sc_L_land (by walk_at "len") fun cdv A outer s H E hr => ⟨_, (pss_cons (ps_set (i := 1) sc_L_land.nd rfl (.inl rfl) (pe_tup (pa_cons pe_int (pa_cons pe_int pa_nil))))
    (pss_cons (ps_for PassesOwn.never rfl (pi_range1 (by rfl) T.m_range (pa_cons (pe_callB (call_lenXK (K := K) rfl) (by rfl) T.m_len (by decide +kernel) (pa_cons (pv 0) pa_nil)) pa_nil)) (pg_name (i := 2) sc_L_land.nd rfl (.inl rfl))
    (pss_cons (ps_asg (pe_tup (pa_cons (pe_ix (ix_XK (K := K) rfl) (pv 0) (pe_op op_sub (pv 2) pe_int) (fun _ _ => rfl)) (pa_cons (pe_ix (ix_XK (K := K) rfl) (pv 0) (pv 2) (fun _ _ => rfl)) pa_nil))) (pg_tupK (K := K) (n := 2) rfl (by rfl) (pgs_cons (pg_tupK (K := K) (n := 2) rfl (by rfl) (pgs_cons (pg_name (i := 3) sc_L_land.nd rfl (.inl rfl)) (pgs_cons (pg_name (i := 4) sc_L_land.nd rfl (.inl rfl)) pgs_nil))) (pgs_cons (pg_tupK (K := K) (n := 2) rfl (by rfl) (pgs_cons (pg_name (i := 5) sc_L_land.nd rfl (.inl rfl)) (pgs_cons (pg_name (i := 6) sc_L_land.nd rfl (.inl rfl)) pgs_nil))) pgs_nil))))
    (pss_one (ps_set (i := 1) sc_L_land.nd rfl (.inl rfl) (pe_cal (c_L_plus (P := P) (w := w) (K := K) (mg := mg) (base := base) T) (hr.mono (by omega)) (by rfl) (pa_cons (pv 1) (pa_cons (pe_cal (c_L_minus (P := P) (w := w) (K := K) (mg := mg) (base := base) T) (hr.mono (by omega)) (by rfl) (pa_cons (pe_cal (c_L_times (P := P) (w := w) (K := K) (mg := mg) (base := base) T) (hr.mono (by omega)) (by rfl) (pa_cons (pv 3) (pa_cons (pv 6) pa_nil))) (pa_cons (pe_cal (c_L_times (P := P) (w := w) (K := K) (mg := mg) (base := base) T) (hr.mono (by omega)) (by rfl) (pa_cons (pv 4) (pa_cons (pv 5) pa_nil))) pa_nil))) pa_nil)))))))
    (pss_one (ps_ret (pe_cal (c_L_over (P := P) (w := w) (K := K) (mg := mg) (base := base) T) (hr.mono (by omega)) (by rfl) (pa_cons (pv 1) (pa_cons (pe_tup (pa_cons pe_int (pa_cons pe_int pa_nil))) pa_nil))))))), fun ds d hR => by
    obtain ⟨l, rfl, hl, rfl⟩ := hR
    have hpl := hl.pq.pl
    have hn := hl.n.2
    walk_at "d"
    rw [qp_zero]
    refine ws_for (wi_rng1 ?_)
    walk_at "d"
    rw [List.length_map, Int.toNat_natCast]
    refine ⟨by omega, by omega, fun i ρ β => ∃ s2 s3 s4 s5 s6 : Slot, ρ = [.dat (plP l), .dat (qp (ps cross (lastP l) (l.take i))), s2, s3, s4, s5, s6] ∧ β = [], ⟨_, _, _, _, _, rfl, rfl⟩, ?_, ?_⟩
    · rintro i d ρ' β' hd ⟨s2, s3, s4, s5, s6, rfl, rfl⟩
      obtain ⟨hi, rfl⟩ := rngD_get hd
      have hq : l[i]? = some l[i] := List.getElem?_eq_getElem hi
      have hah := at_aheadF (f := ptP) hq
      have hat : atI (l.map ptP) (0 + (i : Int)) = some (ptP l[i]) := by rw [Int.zero_add]; exact DS.atI_nat (by rw [List.getElem?_map, hq]; rfl)
      rw [show (i : Int) - 1 = (0 + (i : Int)) - 1 by omega] at hah
      have hvq := hpl.v _ (List.mem_of_getElem? hq)
      have hva := hpl.v _ (ahead_mem hq)
      have htk := ps_take (h := cross) (p := lastP l) hq
      have hf := part_fq hpl (by omega) i (by omega)
      generalize l[i] = q at *
      generalize lastD (lastP l) (l.take i) = p at *
      generalize ps cross (lastP l) (l.take i) = acc at *
      refine wg_name ?_
      refine ws_seq ?_
      apply ws_asg
      walk_at "d"
      refine ⟨_, r2_ixXL hah, ?_⟩
      walk_at "d"
      refine ⟨_, r2_ixXL hat, ?_⟩
      unfold ptP
      walk_at "d"
      refine ⟨_, ⟨_, _, rfl, hva.sx, hvq.sy, rfl⟩, ?_⟩
      walk_at "d"
      refine ⟨_, ⟨_, _, rfl, hva.sy, hvq.sx, rfl⟩, ?_⟩
      walk_at "d"
      have m1 := hva.x.mul hvq.y
      have m2 := hva.y.mul hvq.x
      refine ⟨_, ⟨_, _, rfl, m1.sq (by decide) (by decide), m2.sq (by decide) (by decide), rfl⟩, ?_⟩
      walk_at "d"
      have m3 := m1.sub m2
      refine ⟨_, ⟨_, _, rfl, hf.sq (by decide) (by decide), m3.sq (by decide) (by decide), rfl⟩, ?_⟩
      refine ⟨.dat (.int (0 + (i : Int))), .dat (qp p.1), .dat (qp p.2), .dat (qp q.1), .dat (qp q.2), ?_, rfl⟩
      rw [htk]
      rfl
    · rintro ρ' β' ⟨s2, s3, s4, s5, s6, rfl, rfl⟩
      have hf := part_fq hpl (by omega) l.length (Nat.le_refl _)
      rw [rngD_len]
      walk_at "d"
      have h2 : Fq 0 20 ((8192 : Int) : Rat) := Fq.int (by decide)
      refine ⟨_, ⟨_, ((8192 : Int) : Rat), rfl, hf.sq (by decide) (by decide), h2.sq (by decide) (by decide), h2.sv (by decide), by decide, rfl⟩, ?_⟩
      rw [List.take_length]
      rfl⟩
/-! ### polygons -/
def B_poly (_ : List PyData) (d : PyData) : Prop := ∃ l : List Pt, d = plP l ∧ Lg l
abbrev Pre_poly := PreB 30 (fun ds => ds = [])
abbrev Post_poly := PostB 30 B_poly
def pI (x y : Int) : Pt := ((x : Rat), (y : Rat))
theorem lg_four {a b c e : Int} (ha : a.natAbs ≤ 700) (hb : b.natAbs ≤ 700) (hc : c.natAbs ≤ 700) (he : e.natAbs ≤ 700) : Lg [pI a b, pI c b, pI c e, pI a e] := by
  refine ⟨by simp, fun p hp => ?_, fun p hp => ?_⟩
  · simp at hp
    rcases hp with rfl | rfl | rfl | rfl <;> exact og_int (by omega) (by omega)
  · simp at hp
    rcases hp with rfl | rfl | rfl | rfl <;> exact ⟨Ab.int (by assumption), Ab.int (by assumption)⟩
theorem Lg.rev {l : List Pt} (h : Lg l) : Lg l.reverse := ⟨by rw [List.length_reverse]; exact h.n, fun p hp => h.o p (by simpa using hp), fun p hp => h.s p (by simpa using hp)⟩
theorem c_L_polygon (T : Top K w mg) : Cal P w K mg base "_law_polygon" 5 p_L_polygon (spO K Pre_poly Post_poly) :=
  T.h_L_polygon.call (fun _ _ _ _ _ _ us hl => match us, hl with | [_], _ => rfl) fun f fd F m => fn_own F sc_L_polygon (by walk_at "leno") fun cdv A outer s H E hr => ⟨_, (pss_cons (ps_set (i := 1) sc_L_polygon.nd rfl (.inr rfl) (pe_ix (ix_XK (K := K) rfl) (pe_lst (pa_cons pe_int (pa_cons pe_int (pa_cons pe_int pa_nil)))) (pe_cal (c_L_take (P := P) (w := w) (K := K) (mg := mg) (base := base) T) (hr.mono (by omega)) (by rfl) (pa_cons (pv 0) (pa_cons pe_int pa_nil))) (fun _ _ => rfl)))
    (pss_cons (ps_set (i := 2) sc_L_polygon.nd rfl (.inl rfl) (pe_cal (c_L_take (P := P) (w := w) (K := K) (mg := mg) (base := base) T) (hr.mono (by omega)) (by rfl) (pa_cons (pv 0) (pa_cons pe_int pa_nil))))
    (pss_cons (ps_if (pt_cmpR (op_eqXK (K := K) rfl hr.units) (pv 2) pe_int (nomark _)) (pss_cons (ps_set (i := 3) sc_L_polygon.nd rfl (.inl rfl) (pe_op (op_addXK (K := K) rfl) (pe_op op_mulW pe_int (pe_op op_sub (pe_cal (c_L_take (P := P) (w := w) (K := K) (mg := mg) (base := base) T) (hr.mono (by omega)) (by rfl) (pa_cons (pv 0) (pa_cons pe_int pa_nil))) pe_int)) (pe_ix (ix_XK (K := K) rfl) (pe_lst (pa_cons pe_int (pa_cons pe_int pa_nil))) (pe_cal (c_L_take (P := P) (w := w) (K := K) (mg := mg) (base := base) T) (hr.mono (by omega)) (by rfl) (pa_cons (pv 0) (pa_cons pe_int pa_nil))) (fun _ _ => rfl))))
    (pss_cons (ps_set (i := 4) sc_L_polygon.nd rfl (.inl rfl) (pe_op (op_addXK (K := K) rfl) (pe_op op_mulW pe_int (pe_op op_sub (pe_cal (c_L_take (P := P) (w := w) (K := K) (mg := mg) (base := base) T) (hr.mono (by omega)) (by rfl) (pa_cons (pv 0) (pa_cons pe_int pa_nil))) pe_int)) (pe_ix (ix_XK (K := K) rfl) (pe_lst (pa_cons pe_int (pa_cons pe_int pa_nil))) (pe_cal (c_L_take (P := P) (w := w) (K := K) (mg := mg) (base := base) T) (hr.mono (by omega)) (by rfl) (pa_cons (pv 0) (pa_cons pe_int pa_nil))) (fun _ _ => rfl))))
    (pss_cons (ps_par (i := 5) (j := 6) (by rfl) sc_L_polygon.nd rfl rfl (by decide) rfl rfl (pa_cons (pe_op (op_addXK (K := K) rfl) (pv 3) (pe_ix (ix_XK (K := K) rfl) (pe_lst (pa_cons pe_int (pa_cons (pe_op (op_addXK (K := K) rfl) pe_int (pe_cal (c_L_take (P := P) (w := w) (K := K) (mg := mg) (base := base) T) (hr.mono (by omega)) (by rfl) (pa_cons (pv 0) (pa_cons pe_int pa_nil)))) pa_nil))) (pe_cal (c_L_take (P := P) (w := w) (K := K) (mg := mg) (base := base) T) (hr.mono (by omega)) (by rfl) (pa_cons (pv 0) (pa_cons pe_int pa_nil))) (fun _ _ => rfl))) (pa_cons (pe_op (op_addXK (K := K) rfl) (pv 4) (pe_ix (ix_XK (K := K) rfl) (pe_lst (pa_cons pe_int (pa_cons (pe_op (op_addXK (K := K) rfl) pe_int (pe_cal (c_L_take (P := P) (w := w) (K := K) (mg := mg) (base := base) T) (hr.mono (by omega)) (by rfl) (pa_cons (pv 0) (pa_cons pe_int pa_nil)))) pa_nil))) (pe_cal (c_L_take (P := P) (w := w) (K := K) (mg := mg) (base := base) T) (hr.mono (by omega)) (by rfl) (pa_cons (pv 0) (pa_cons pe_int pa_nil))) (fun _ _ => rfl))) pa_nil)) (by rfl))
    (pss_cons (ps_set (i := 7) sc_L_polygon.nd rfl (.inl rfl) (pe_lst (pa_cons (pe_tup (pa_cons (pe_tup (pa_cons (pv 3) (pa_cons pe_int pa_nil))) (pa_cons (pe_tup (pa_cons (pv 4) (pa_cons pe_int pa_nil))) pa_nil))) (pa_cons (pe_tup (pa_cons (pe_tup (pa_cons (pv 5) (pa_cons pe_int pa_nil))) (pa_cons (pe_tup (pa_cons (pv 4) (pa_cons pe_int pa_nil))) pa_nil))) (pa_cons (pe_tup (pa_cons (pe_tup (pa_cons (pv 5) (pa_cons pe_int pa_nil))) (pa_cons (pe_tup (pa_cons (pv 6) (pa_cons pe_int pa_nil))) pa_nil))) (pa_cons (pe_tup (pa_cons (pe_tup (pa_cons (pv 3) (pa_cons pe_int pa_nil))) (pa_cons (pe_tup (pa_cons (pv 6) (pa_cons pe_int pa_nil))) pa_nil))) pa_nil))))))
    (pss_one (ps_ret (pe_ifExp (pt_cmpR op_gt (pe_cal (c_L_take (P := P) (w := w) (K := K) (mg := mg) (base := base) T) (hr.mono (by omega)) (by rfl) (pa_cons (pv 0) (pa_cons pe_int pa_nil))) pe_int (nomark _)) (pv 7) (pe_revK (K := K) rfl (pv 7))))))))) pss_nil)
    (pss_cons (ps_if (pt_cmpR (op_eqXK (K := K) rfl hr.units) (pv 2) pe_int (nomark _)) (pss_one (ps_ret (pe_lc (own := [("k", 8)]) (g := gName 8) rfl sc_L_polygon.nd  (pi_range1 (by rfl) T.m_range (pa_cons (pe_op (op_addXK (K := K) rfl) pe_int (pe_cal (c_L_take (P := P) (w := w) (K := K) (mg := mg) (base := base) T) (hr.mono (by omega)) (by rfl) (pa_cons (pv 0) (pa_cons pe_int pa_nil)))) pa_nil))
      (blkOk_by (own := [("k", 8)]) (N := N_L_polygon) (sc := defScope s_L_polygon) (by decide +kernel)) (fun _ _ _ _ _ => pg_name (i := 8) sc_L_polygon.nd rfl (Or.inl rfl))
      (fun _ _ _ _ _ => pts_nil) (fun _ _ _ _ _ => (pe_cal (c_L_place (P := P) (w := w) (K := K) (mg := mg) (base := base) T) (hr.mono (by omega)) (by rfl) (pa_cons (pv 0) (pa_cons pe_int pa_nil))))))) pss_nil)
    (pss_one (ps_ret (pe_lc (own := [("k", 8)]) (g := gName 8) rfl sc_L_polygon.nd  (pi_range1 (by rfl) T.m_range (pa_cons (pe_op (op_addXK (K := K) rfl) pe_int (pe_cal (c_L_take (P := P) (w := w) (K := K) (mg := mg) (base := base) T) (hr.mono (by omega)) (by rfl) (pa_cons (pv 0) (pa_cons pe_int pa_nil)))) pa_nil))
      (blkOk_by (own := [("k", 8)]) (N := N_L_polygon) (sc := defScope s_L_polygon) (by decide +kernel)) (fun _ _ _ _ _ => pg_name (i := 8) sc_L_polygon.nd rfl (Or.inl rfl))
      (fun _ _ _ _ _ => pts_nil) (fun _ _ _ _ _ => (pe_cal (c_L_place (P := P) (w := w) (K := K) (mg := mg) (base := base) T) (hr.mono (by omega)) (by rfl) (pa_cons (pv 0) (pa_cons (pv 1) pa_nil))))))))))), fun b bx ds hR => by
    obtain ⟨rfl, hp⟩ := hR
    obtain ⟨m, hm, hB, hQ⟩ := pb_min hp
    have two : ∀ {x y : PyData} {v : Nat}, v < 2 → atI [x, y] (v : Int) = some (if v = 0 then x else y) := fun {x y v} h => by
      match v, h with
      | 0, _ => rfl
      | 1, _ => rfl
    walk_at "d"
    refine we_take rfl hB (by omega) ?_
    walk_at "d"
    refine ⟨by decide, rfl, fun t bx ht hB => ?_⟩
    have ht : t < 3 := ht
    obtain ⟨far, hfar, hat⟩ : ∃ far : Nat, far ≤ 100 ∧ atI [PyData.int 40, .int 100, .int 100] (t : Int) = some (.int far) := by
      match t, ht with
      | 0, _ => exact ⟨40, by decide, rfl⟩
      | 1, _ => exact ⟨100, by decide, rfl⟩
      | 2, _ => exact ⟨100, by decide, rfl⟩
    refine ⟨_, r2_ixXL hat, ?_⟩
    walk_at "d"
    refine we_take rfl hB (by omega) ?_
    walk_at "d"
    refine ⟨by first | decide | omega, rfl, fun w2 bx hw2 hB => ?_⟩
    have hw2 : w2 < 5 := hw2
    walk_at "d"
    refine ⟨fun h => ?_, fun h => ?_⟩
    · walk_at "d"
      refine we_take rfl hB (by omega) ?_
      walk_at "d"
      refine ⟨by first | decide | omega, rfl, fun t1 bx ht1 hB => ?_⟩
      have ht1 : t1 < 3 := ht1
      walk_at "d"
      refine ⟨_, r2_intC (mulOk (m := 19) (n := 19) (bd_of (by decide)) (bd_of (by omega))), ?_⟩
      walk_at "d"
      refine we_take rfl hB (by omega) ?_
      walk_at "d"
      refine ⟨by first | decide | omega, rfl, fun t2 bx ht2 hB => ?_⟩
      have ht2 : t2 < 2 := ht2
      walk_at "d"
      refine ⟨_, r2_ixXL (two ht2), ?_⟩
      obtain ⟨z2, hz2, e2⟩ : ∃ z : Int, (0 ≤ z ∧ z ≤ 10) ∧ (if t2 = 0 then PyData.int 0 else .int 10) = .int z := by split <;> exact ⟨_, by omega, rfl⟩
      rw [e2]
      walk_at "d"
      refine we_take rfl hB (by omega) ?_
      walk_at "d"
      refine ⟨by first | decide | omega, rfl, fun t3 bx ht3 hB => ?_⟩
      have ht3 : t3 < 3 := ht3
      walk_at "d"
      refine ⟨_, r2_intC (mulOk (m := 19) (n := 19) (bd_of (by decide)) (bd_of (by omega))), ?_⟩
      walk_at "d"
      refine we_take rfl hB (by omega) ?_
      walk_at "d"
      refine ⟨by first | decide | omega, rfl, fun t4 bx ht4 hB => ?_⟩
      have ht4 : t4 < 2 := ht4
      walk_at "d"
      refine ⟨_, r2_ixXL (two ht4), ?_⟩
      obtain ⟨z4, hz4, e4⟩ : ∃ z : Int, (0 ≤ z ∧ z ≤ 20) ∧ (if t4 = 0 then PyData.int 0 else .int 20) = .int z := by split <;> exact ⟨_, by omega, rfl⟩
      rw [e4]
      walk_at "d"
      have hx : (64 * ((t1 : Int) - 1) + z2).natAbs ≤ 80 := by omega
      have hy : (64 * ((t3 : Int) - 1) + z4).natAbs ≤ 90 := by omega
      generalize 64 * ((t1 : Int) - 1) + z2 = x0 at *
      generalize 64 * ((t3 : Int) - 1) + z4 = y0 at *
      refine we_take rfl hB (by omega) ?_
      walk_at "d"
      refine ⟨by first | decide | omega, rfl, fun t5 bx ht5 hB => ?_⟩
      have ht5 : t5 < 140 := ht5
      walk_at "d"
      refine we_take rfl hB (by omega) ?_
      walk_at "d"
      refine ⟨by first | decide | omega, rfl, fun t6 bx ht6 hB => ?_⟩
      have ht6 : t6 < 2 := ht6
      walk_at "d"
      refine ⟨_, r2_ixXL (two ht6), ?_⟩
      obtain ⟨z6, hz6, e6⟩ : ∃ z : Int, (0 ≤ z ∧ z ≤ 140) ∧ (if t6 = 0 then PyData.int 64 else .int (1 + (t5 : Int))) = .int z := by split <;> exact ⟨_, by omega, rfl⟩
      rw [e6]
      walk_at "d"
      refine we_take rfl hB (by omega) ?_
      walk_at "d"
      refine ⟨by first | decide | omega, rfl, fun t7 bx ht7 hB => ?_⟩
      have ht7 : t7 < 140 := ht7
      walk_at "d"
      refine we_take rfl hB (by omega) ?_
      walk_at "d"
      refine ⟨by first | decide | omega, rfl, fun t8 bx ht8 hB => ?_⟩
      have ht8 : t8 < 2 := ht8
      walk_at "d"
      refine ⟨_, r2_ixXL (two ht8), ?_⟩
      obtain ⟨z8, hz8, e8⟩ : ∃ z : Int, (0 ≤ z ∧ z ≤ 140) ∧ (if t8 = 0 then PyData.int 64 else .int (1 + (t7 : Int))) = .int z := by split <;> exact ⟨_, by omega, rfl⟩
      rw [e8]
      walk_at "d"
      refine we_take rfl hB (by omega) ?_
      walk_at "d"
      refine ⟨by first | decide | omega, rfl, fun t9 bx ht9 hB => ?_⟩
      have ht9 : t9 < 3 := ht9
      walk_at "d"
      have hL := lg_four (a := x0) (b := y0) (c := x0 + z6) (e := y0 + z8) (by omega) (by omega) (by omega) (by omega)
      refine ⟨fun h9 => ?_, fun h9 => ?_⟩
      · walk_at "d"
        exact ⟨⟨_, rfl, hL⟩, hQ _ (hB.mono (by omega))⟩
      · walk_at "d"
        exact ⟨⟨_, rfl, hL.rev⟩, hQ _ (hB.mono (by omega))⟩
    walk_at "d"
    refine ⟨fun h => ?_, fun h => ?_⟩
    · refine ws_ret ?_
      refine we_lc (tg := [8]) (by decide) (wi_rng1 ?_)
      walk_at "d"
      refine we_take rfl hB (by omega) ?_
      walk_at "d"
      refine ⟨by decide, rfl, fun t bx ht hB => ?_⟩
      have ht : t < 3 := ht
      walk_at "d"
      rw [show ((1 : Int) + (t : Int)).toNat = 1 + t by omega]
      refine ⟨by omega, by omega, fun i acc β => ∃ (l : List Pt) (bx : List PyData), acc = l.map ptP ∧ l.length = i ∧ (∀ p ∈ l, Og p ∧ Ab 700 p.1 ∧ Ab 700 p.2) ∧ Bx (m + 3 + 3 * i) bx ∧ β = [(b, .lst bx)], ⟨[], bx, rfl, rfl, (fun _ h => by cases h), hB.mono (by omega), rfl⟩, ?_, by rw [rngD_len]; exact line10 (by omega), ?_⟩
      · rintro i d acc β' hd ⟨l, bx, rfl, hl, ho, hB, rfl⟩ _
        obtain ⟨hi, rfl⟩ := rngD_get hd
        refine wgc_name ?_
        refine wt_yes ⟨fun _ => ?_, fun z => nomatch z⟩
        refine we_box rfl ?_
        walk_at "d"
        refine ⟨_, _, _, rfl, hB, by omega, ⟨20, rfl, by omega⟩, fun d1 bx hw hB => ?_⟩
        obtain ⟨p, rfl, hp⟩ := hw
        refine ⟨l ++ [p], bx, by rw [List.map_append]; rfl, by simp [hl], fun x hx => ?_, hB.mono (by omega), rfl⟩
        rcases List.mem_append.mp hx with hx | hx
        · exact ho x hx
        · simp at hx; subst hx; exact hp
      · rintro acc β' ⟨l, bx, rfl, hl, ho, hB, rfl⟩ _
        rw [rngD_len] at hl
        exact ⟨bx, rfl, ⟨l, rfl, ⟨by omega, fun p hp => (ho p hp).1, fun p hp => (ho p hp).2⟩⟩, hQ _ (hB.mono (by rw [rngD_len]; omega))⟩
    · refine ws_next (ws_ret ?_)
      refine we_lc (tg := [8]) (by decide) (wi_rng1 ?_)
      walk_at "d"
      refine we_take rfl hB (by omega) ?_
      walk_at "d"
      refine ⟨by decide, rfl, fun t bx ht hB => ?_⟩
      have ht : t < 4 := ht
      walk_at "d"
      rw [show ((3 : Int) + (t : Int)).toNat = 3 + t by omega]
      refine ⟨by omega, by omega, fun i acc β => ∃ (l : List Pt) (bx : List PyData), acc = l.map ptP ∧ l.length = i ∧ (∀ p ∈ l, Og p ∧ Ab 700 p.1 ∧ Ab 700 p.2) ∧ Bx (m + 3 + 3 * i) bx ∧ β = [(b, .lst bx)], ⟨[], bx, rfl, rfl, (fun _ h => by cases h), hB.mono (by omega), rfl⟩, ?_, by rw [rngD_len]; exact line10 (by omega), ?_⟩
      · rintro i d acc β' hd ⟨l, bx, rfl, hl, ho, hB, rfl⟩ _
        obtain ⟨hi, rfl⟩ := rngD_get hd
        refine wgc_name ?_
        refine wt_yes ⟨fun _ => ?_, fun z => nomatch z⟩
        refine we_box rfl ?_
        walk_at "d"
        refine ⟨_, _, _, rfl, hB, by omega, ⟨far, rfl, by omega⟩, fun d1 bx hw hB => ?_⟩
        obtain ⟨p, rfl, hp⟩ := hw
        refine ⟨l ++ [p], bx, by rw [List.map_append]; rfl, by simp [hl], fun x hx => ?_, hB.mono (by omega), rfl⟩
        rcases List.mem_append.mp hx with hx | hx
        · exact ho x hx
        · simp at hx; subst hx; exact hp
      · rintro acc β' ⟨l, bx, rfl, hl, ho, hB, rfl⟩ _
        rw [rngD_len] at hl
        exact ⟨bx, rfl, ⟨l, rfl, ⟨by omega, fun p hp => (ho p hp).1, fun p hp => (ho p hp).2⟩⟩, hQ _ (hB.mono (by rw [rngD_len]; omega))⟩⟩
end K84

set_option Elab.async false
set_option linter.all false
set_option maxRecDepth 100000
set_option pp.deepTerms false
set_option pp.deepTerms.threshold 6
set_option maxHeartbeats 4000000
namespace K84
open PySem PySem.Spec PyProof.Rows L2 DS
open G84 (Pt G cyc cross lastP lastD ps)
open K77 (Bd)
/-! ### polygons of the law are polygons that may be asked -/
theorem lo_box {qs : List Rat} (hn : qs ≠ []) (h : ∀ q ∈ qs, Ab 1000 q) : -16 ≤ rlo qs ∧ rlo qs ≤ 16 := by
  obtain ⟨m1, _⟩ := minI_ok (l := qs.map fl) (by simpa using hn)
  obtain ⟨q, hq, e⟩ := List.mem_map.mp m1
  have := og_fl (h q hq)
  unfold rlo
  omega
theorem hi_box {qs : List Rat} (hn : qs ≠ []) (h : ∀ q ∈ qs, Ab 1000 q) : -16 ≤ rhi qs ∧ rhi qs ≤ 16 := by
  obtain ⟨m1, _⟩ := maxI_ok (l := qs.map ce) (by simpa using hn)
  obtain ⟨q, hq, e⟩ := List.mem_map.mp m1
  have := og_fl (h q hq)
  unfold rhi
  omega
theorem flat_le {m : Nat} : ∀ {ps : List (List Pt)}, (∀ l ∈ ps, l.length ≤ m) → ps.flatten.length ≤ m * ps.length
  | [], _ => by simp
  | l :: ps, h => by
    have h1 := h l (by simp)
    have h2 := flat_le (ps := ps) fun x hx => h x (by simp [hx])
    rw [List.flatten_cons, List.length_append, List.length_cons, Nat.mul_add]
    omega
structure Os (ps : List (List Pt)) : Prop where
  n : 1 ≤ ps.length ∧ ps.length ≤ 4
  l : ∀ l ∈ ps, 1 ≤ l.length ∧ l.length ≤ 12
  o : ∀ l ∈ ps, ∀ p ∈ l, Og p
theorem Os.q {ps : List (List Pt)} (h : Os ps) {l : List Pt} (hl : l ∈ ps) : Pq (Dl l) l := ⟨og_pg (h.o l hl), Dl_ne, Dl_le (h.o l hl) (h.l l hl).2⟩
theorem Os.ne {ps : List (List Pt)} (h : Os ps) : ps.flatten ≠ [] := fun z => by
  match ps, h with
  | [], h => have := h.n.1; simp at this
  | l :: ps, h =>
    have := (h.l l (by simp)).1
    rw [List.flatten_cons] at z
    have := (List.append_eq_nil_iff.mp z).1
    subst this
    simp at *
theorem Os.x {ps : List (List Pt)} (h : Os ps) : xsO ps.flatten ≠ [] ∧ ∀ q ∈ xsO ps.flatten, Ab 1000 q := ⟨fun z => h.ne (List.map_eq_nil_iff.mp z), fun q hq => by
  obtain ⟨p, hp, rfl⟩ := List.mem_map.mp hq
  obtain ⟨l, hl, hp⟩ := List.mem_flatten.mp hp
  exact (h.o l hl p hp).x.2⟩
theorem Os.y {ps : List (List Pt)} (h : Os ps) : ysO ps.flatten ≠ [] ∧ ∀ q ∈ ysO ps.flatten, Ab 1000 q := ⟨fun z => h.ne (List.map_eq_nil_iff.mp z), fun q hq => by
  obtain ⟨p, hp, rfl⟩ := List.mem_map.mp hq
  obtain ⟨l, hl, hp⟩ := List.mem_flatten.mp hp
  exact (h.o l hl p hp).y.2⟩
theorem area_le {a b : Int} (ha : a.natAbs ≤ 32) (hb : b.natAbs ≤ 32) : a * b ≤ 2000 := by
  have : (a * b).natAbs ≤ 32 * 32 := by rw [Int.natAbs_mul]; exact Nat.mul_le_mul ha hb
  omega
theorem Os.gok {ps : List (List Pt)} (h : Os ps) : Gok ps := by
  have x1 := lo_box h.x.1 h.x.2
  have x2 := hi_box h.x.1 h.x.2
  have y1 := lo_box h.y.1 h.y.2
  have y2 := hi_box h.y.1 h.y.2
  have hf := flat_le (m := 12) fun l hl => (h.l l hl).2
  have hn := h.n
  exact ⟨h.n, h.l, fun l hl => h.q hl, ⟨fun l hl p hp => (h.q hl).pl.v p hp, h.ne, by omega, by omega⟩, by omega, area_le (by omega) (by omega)⟩
theorem Os.gof {ps : List (List Pt)} (h : Os ps) : Gof ps := ⟨h.n, h.l, fun l hl => h.q hl⟩
theorem os_lg {ps : List (List Pt)} (hn : 1 ≤ ps.length ∧ ps.length ≤ 3) (h : ∀ l ∈ ps, Lg l) : Os ps := ⟨by omega, fun l hl => by have := (h l hl).n; omega, fun l hl => (h l hl).o⟩
/-! ### the cells that are grey -/
def cel (ps : List (List Pt)) : List (Int × Int) := (cellsB (rlo (xsO ps.flatten)) (rhi (xsO ps.flatten)) (rlo (ysO ps.flatten)) (rhi (ysO ps.flatten))).filter (nzb (gsK ps))
theorem canP_cel {ps : List (List Pt)} : canP ps = (cel ps).map (nzD (gsK ps)) := by
  unfold canP
  rw [canonL_eq]
  rfl
theorem mem_cel {ps : List (List Pt)} {k : Int × Int} : k ∈ cel ps ↔ gsK ps k ≠ 0 := by
  unfold cel
  rw [List.mem_filter]
  exact ⟨fun h => of_decide_eq_true h.2, fun h => ⟨in_prog h, decide_eq_true h⟩⟩
theorem cel_sorted {ps : List (List Pt)} : (cel ps).Pairwise lexLt := cellsB_sorted.filter _
theorem cel_small {ps : List (List Pt)} (h : Os ps) {k : Int × Int} (hk : k ∈ cel ps) : k.1.natAbs ≤ 16 ∧ k.2.natAbs ≤ 16 := by
  have x1 := lo_box h.x.1 h.x.2
  have x2 := hi_box h.x.1 h.x.2
  have y1 := lo_box h.y.1 h.y.2
  have y2 := hi_box h.y.1 h.y.2
  have := mem_cellsB.mp (List.mem_filter.mp hk).1
  omega
theorem cells_len {c0 c1 r0 r1 : Int} (h1 : c1 - c0 ≤ 32) (h2 : r1 - r0 ≤ 32) : (cellsB c0 c1 r0 r1).length ≤ 1024 := by
  have h3 := fm_len (f := fun (r : Int) => ((rngI c0 c1).map fun c => PyData.tuple [.int r, .int c])) (m := 32) (fun _ => by rw [List.length_map]; unfold rngI; rw [List.length_map, List.length_range]; omega) (rngI r0 r1)
  have e : (rngI r0 r1).length ≤ 32 := by unfold rngI; rw [List.length_map, List.length_range]; omega
  have e2 : (cellsB c0 c1 r0 r1).length = ((rngI r0 r1).flatMap fun (r : Int) => ((rngI c0 c1).map fun c => PyData.tuple [.int r, .int c])).length := by
    unfold cellsB
    simp [List.length_flatMap]
  rw [e2]
  omega
theorem cel_len {ps : List (List Pt)} (h : Os ps) : (cel ps).length ≤ 1024 := by
  have x1 := lo_box h.x.1 h.x.2
  have x2 := hi_box h.x.1 h.x.2
  have y1 := lo_box h.y.1 h.y.2
  have y2 := hi_box h.y.1 h.y.2
  exact Nat.le_trans (List.length_filter_le _ _) (cells_len (by omega) (by omega))
theorem canP_of {qs : List (List Pt)} {Z : List (Int × Int)} (h1 : Z.Pairwise lexLt) (h2 : ∀ k, gsK qs k ≠ 0 ↔ k ∈ Z) : canP qs = Z.map (nzD (gsK qs)) := by
  rw [← canP_any h1 fun k h => (h2 k).mp h]
  unfold canF
  rw [List.filter_eq_self.mpr fun k hk => show nzb (gsK qs) k = true from decide_eq_true ((h2 k).mpr hk)]
theorem foldl_map_G {f : List Pt → List Pt} {g : List Pt → Rat} {h : List Pt → Rat} (e : ∀ l, h (f l) = g l) : ∀ {ps : List (List Pt)} {a : Rat}, (ps.map f).foldl (fun a l => a + h l) a = ps.foldl (fun a l => a + g l) a
  | [], a => rfl
  | l :: ps, a => by
    rw [List.map_cons, List.foldl_cons, List.foldl_cons, e]
    exact foldl_map_G e
/-- moved by whole cells -/
def mvP (e n : Int) (l : List Pt) : List Pt := l.map (G84.mv ((64 * e : Int) : Rat) ((64 * n : Int) : Rat))
def shD (e n : Int) (g : Int × Int → Rat) (k : Int × Int) : PyData := .tuple [.int (k.1 + n), .int (k.2 + e), qd (g k)]
theorem gsK_mv {ps : List (List Pt)} {e n : Int} {k : Int × Int} : gsK (ps.map (mvP e n)) (k.1 + n, k.2 + e) = gsK ps k := foldl_map_G fun l => G84.G_mv
theorem canP_mv {ps : List (List Pt)} {e n : Int} : canP (ps.map (mvP e n)) = (cel ps).map (shD e n (gsK ps)) := by
  rw [canP_of (Z := (cel ps).map fun k => (k.1 + n, k.2 + e)) ?_ ?_]
  · rw [List.map_map]
    refine List.map_congr_left fun k _ => ?_
    show PyData.tuple [.int (k.1 + n), .int (k.2 + e), qd (gsK (ps.map (mvP e n)) (k.1 + n, k.2 + e))] = _
    rw [gsK_mv]
    rfl
  · rw [List.pairwise_map]
    refine cel_sorted.imp fun {a b} h => ?_
    unfold lexLt at *
    simp only
    omega
  · intro k
    have hk : k = ((k.1 - n) + n, (k.2 - e) + e) := by ext <;> simp
    have hg : gsK (ps.map (mvP e n)) k = gsK ps (k.1 - n, k.2 - e) := by
      conv => lhs; rw [hk]
      exact gsK_mv (k := (k.1 - n, k.2 - e))
    rw [hg, ← mem_cel, List.mem_map]
    constructor
    · exact fun h => ⟨_, h, hk.symm⟩
    · rintro ⟨j, hj, rfl⟩
      simpa using hj
theorem foldl_neg {f : List Pt → Rat} : ∀ {ps : List (List Pt)} {a : Rat}, ps.foldl (fun a l => a + -f l) (-a) = -ps.foldl (fun a l => a + f l) a
  | [], a => rfl
  | l :: ps, a => by
    rw [List.foldl_cons, List.foldl_cons, ← foldl_neg]
    congr 1
    grind
/-- the other way round -/
def ngD (g : Int × Int → Rat) (k : Int × Int) : PyData := .tuple [.int k.1, .int k.2, qd (0 - g k)]
theorem gsK_rev {ps : List (List Pt)} {k : Int × Int} : gsK (ps.map List.reverse) k = 0 - gsK ps k := by
  have h1 : gsK (ps.map List.reverse) k = ps.foldl (fun a l => a + -G l k.1 k.2) (-0) := foldl_map_G fun l => G84.G_rev
  rw [h1, foldl_neg]
  unfold gsK gs
  grind
theorem canP_rev {ps : List (List Pt)} : canP (ps.map List.reverse) = (cel ps).map (ngD (gsK ps)) := by
  rw [canP_of cel_sorted fun k => ?_]
  · refine List.map_congr_left fun k _ => ?_
    unfold nzD ngD
    rw [gsK_rev]
  · rw [mem_cel, gsK_rev]
    constructor
    · intro h z; rw [z] at h; exact h (by grind)
    · intro h z; exact h (by grind)
theorem canP_congr {ps qs : List (List Pt)} (h : ∀ k, gsK qs k = gsK ps k) : canP qs = canP ps := by
  have e : gsK qs = gsK ps := funext h
  rw [canP_of cel_sorted fun k => by rw [e, mem_cel], e, canP_cel]
def pcA (l : List Pt) (i j : Nat) : List Pt := (l.take (j + 1)).drop i
def pcB (l : List Pt) (i j : Nat) : List Pt := l.drop j ++ l.take (i + 1)
theorem foldl_add {f : List Pt → Rat} : ∀ {ps : List (List Pt)} {a : Rat}, ps.foldl (fun a l => a + f l) a = a + ps.foldl (fun a l => a + f l) 0
  | [], a => by show a = a + 0; grind
  | l :: ps, a => by
    rw [List.foldl_cons, List.foldl_cons, foldl_add (a := a + f l), foldl_add (a := 0 + f l)]
    grind
theorem canP_cut {l : List Pt} {ps : List (List Pt)} {i j : Nat} (hij : i ≤ j) (hj : j < l.length) : canP (pcA l i j :: pcB l i j :: ps) = canP (l :: ps) := canP_congr fun k => by
  have := G84.G_cut2 (r := k.1) (c := k.2) hij hj
  unfold gsK gs pcA pcB
  rw [List.foldl_cons, List.foldl_cons, List.foldl_cons, foldl_add, foldl_add (a := 0 + G l k.1 k.2), ← this]
  grind
theorem pc_len {l : List Pt} {i j : Nat} (hij : i ≤ j) (hj : j < l.length) : 1 ≤ (pcA l i j).length ∧ (pcA l i j).length ≤ l.length ∧ 1 ≤ (pcB l i j).length ∧ (pcB l i j).length ≤ 2 * l.length := by
  unfold pcA pcB
  rw [List.length_append, List.length_drop, List.length_drop, List.length_take, List.length_take]
  omega
theorem pcA_mem {l : List Pt} {i j : Nat} {p : Pt} (h : p ∈ pcA l i j) : p ∈ l := List.mem_of_mem_take (List.mem_of_mem_drop h)
theorem pcB_mem {l : List Pt} {i j : Nat} {p : Pt} (h : p ∈ pcB l i j) : p ∈ l := by
  rcases List.mem_append.mp h with h | h
  · exact List.mem_of_mem_drop h
  · exact List.mem_of_mem_take h
theorem og_mv {p : Pt} {e n : Int} (h : Og p) (hs : Ab 700 p.1 ∧ Ab 700 p.2) (he : e.natAbs ≤ 4) (hn : n.natAbs ≤ 4) : Og (G84.mv ((64 * e : Int) : Rat) ((64 * n : Int) : Rat) p) :=
  ⟨⟨h.x.1.add (Dv.int 6 _), (hs.1.add (Ab.int (M := 256) (by omega))).mono (by decide)⟩, ⟨h.y.1.add (Dv.int 6 _), (hs.2.add (Ab.int (M := 256) (by omega))).mono (by decide)⟩⟩
theorem os_mv {ps : List (List Pt)} {e n : Int} (hn : 1 ≤ ps.length ∧ ps.length ≤ 3) (h : ∀ l ∈ ps, Lg l) (he : e.natAbs ≤ 4) (hm : n.natAbs ≤ 4) : Os (ps.map (mvP e n)) := by
  refine ⟨by rw [List.length_map]; omega, fun l hl => ?_, fun l hl p hp => ?_⟩
  · obtain ⟨l, hl0, rfl⟩ := List.mem_map.mp hl
    have := (h l hl0).n
    unfold mvP
    rw [List.length_map]
    omega
  · obtain ⟨l, hl0, rfl⟩ := List.mem_map.mp hl
    obtain ⟨p, hp0, rfl⟩ := List.mem_map.mp hp
    exact og_mv ((h l hl0).o p hp0) ((h l hl0).s p hp0) he hm
theorem os_rev {ps : List (List Pt)} (hn : 1 ≤ ps.length ∧ ps.length ≤ 3) (h : ∀ l ∈ ps, Lg l) : Os (ps.map List.reverse) := os_lg (by rw [List.length_map]; exact hn) fun l hl => by
  obtain ⟨l, hl0, rfl⟩ := List.mem_map.mp hl
  exact (h l hl0).rev
theorem os_cut {l : List Pt} {ps : List (List Pt)} {i j : Nat} (hij : i ≤ j) (hj : j < l.length) (hn : ps.length ≤ 2) (h : ∀ x ∈ l :: ps, Lg x) : Os (pcA l i j :: pcB l i j :: ps) := by
  have hl := h l (by simp)
  have hp := pc_len hij hj
  have := hl.n
  refine ⟨by simp; omega, fun x hx => ?_, fun x hx p hx2 => ?_⟩
  · rcases List.mem_cons.mp hx with rfl | hx
    · omega
    rcases List.mem_cons.mp hx with rfl | hx
    · omega
    · have := (h x (by simp [hx])).n; omega
  · rcases List.mem_cons.mp hx with rfl | hx
    · exact hl.o _ (pcA_mem hx2)
    rcases List.mem_cons.mp hx with rfl | hx
    · exact hl.o _ (pcB_mem hx2)
    · exact (h x (by simp [hx])).o p hx2
/-! ### things that may be compared -/
theorem nc_qd {n : Nat} {q : Rat} : Nc (n + 1) (qd q) := by
  unfold qd K77.numD
  split
  · exact .int
  · refine .tup (Nat.le_of_ble_eq_true rfl) fun d hd => ?_
    simp at hd
    rcases hd with rfl | rfl <;> exact .int
theorem nc_cell {a b : Int} {q : Rat} : Nc 2 (.tuple [.int a, .int b, qd q]) := .tup (Nat.le_of_ble_eq_true rfl) fun d hd => by
  simp at hd
  rcases hd with rfl | rfl | rfl
  · exact .int
  · exact .int
  · exact nc_qd
theorem nc_cells {Z : List (Int × Int)} {f : Int × Int → PyData} (hn : Z.length ≤ 1024) (h : ∀ k, Nc 2 (f k)) : Nc 3 (.list (Z.map f)) := .lst (by rw [List.length_map]; exact Nat.le_trans hn (Nat.le_of_ble_eq_true rfl)) fun d hd => by
  obtain ⟨k, _, rfl⟩ := List.mem_map.mp hd
  exact h k
theorem nc_plD {l : List Pt} (hn : l.length ≤ 100) : Nc 3 (plD l) := .lst (by rw [List.length_map]; exact Nat.le_trans hn (Nat.le_of_ble_eq_true rfl)) fun d hd => by
  obtain ⟨p, _, rfl⟩ := List.mem_map.mp hd
  refine .tup (Nat.le_of_ble_eq_true rfl) fun d hd => ?_
  simp at hd
  rcases hd with rfl | rfl <;> exact nc_qd
theorem nc_polys {ps : List (List Pt)} (hn : ps.length ≤ 100) (h : ∀ l ∈ ps, l.length ≤ 100) : Nc 4 (.list (ps.map plD)) := .lst (by rw [List.length_map]; exact Nat.le_trans hn (Nat.le_of_ble_eq_true rfl)) fun d hd => by
  obtain ⟨l, hl, rfl⟩ := List.mem_map.mp hd
  exact nc_plD (h l hl)
end K84

set_option Elab.async false
set_option linter.all false
set_option maxRecDepth 100000
set_option pp.deepTerms false
set_option pp.deepTerms.threshold 6
set_option maxHeartbeats 4000000
namespace K84
open PySem PySem.Spec PyProof.Rows L2 DS
open G84 (Pt G cyc cross lastP lastD ps)
open K77 (Bd)
-- the steps that need no thought: one, as many as there are
local macro_rules | `(tactic| walk_at "d1") => `(tactic| with_reducible first
  | refine ws_seq ?_ | refine ws_next ?_ | refine ws_retN ?_ | refine ws_ret ?_ | refine ws_if ?_ | refine ws_par ?_ | refine ws_par3 ?_ | refine ws_setK ?_ | refine ws_newD ?_ | refine wp_cons ?_ | refine wp_nil ?_ | refine ws_newDK ?_ | refine ws_newDT ?_ | refine ws_set ?_ | refine ws_star ?_ | refine ws_setO rfl ?_ | apply ws_asg
  | refine we_var rfl ?_ | refine we_int ?_ | refine we_bl ?_ | refine we_str ?_ | refine we_non ?_ | refine we_kd ?_ | refine we_ixO rfl ?_
  | refine we_isi isg_int ?_ | refine we_isi isg_bool ?_ | refine we_isi isg_str ?_ | refine we_isi isg_list ?_ | refine we_isi isg_tuple ?_ | refine we_isi2 isg_list isg_tuple ?_ | refine we_isi2 isg_int isg_tuple ?_
  | refine we_inK ?_ | refine we_ixK ?_ | refine we_op ?_ | refine we_un ?_ | refine we_cb ?_ | refine we_tup ?_ | refine we_lst ?_ | refine we_andV ?_ | refine we_orV ?_ | refine we_notV ?_ | refine we_if ?_ | refine we_chain ?_ | refine we_sl ?_ | refine we_call ?_ | refine we_callD ?_ | refine we_rev ?_
  | refine wa_nil ?_ | refine wa_cons ?_ | refine wo_none ?_ | refine wo_some ?_ | refine wt_test ?_ | refine wt_B ?_ | refine wt_and ?_ | refine wt_or ?_ | refine wt_not ?_
  | refine wg_tup rfl ?_ | refine wgs_cons ?_ | refine wgs_nil ?_ | refine wg_name ?_
  | refine ⟨_, r2_int, ?_⟩ | refine ⟨_, r2_bl, ?_⟩ | refine ⟨_, r2_addI, ?_⟩ | refine ⟨_, r2_eqI, ?_⟩ | refine ⟨_, r2_neI, ?_⟩ | refine ⟨_, r2_eqS, ?_⟩ | refine ⟨_, r2_neS, ?_⟩ | refine ⟨_, r2_isN, ?_⟩ | refine ⟨_, r1_neg, ?_⟩
  | refine ⟨_, rc_absI, ?_⟩ | refine ⟨_, rc_intI, ?_⟩ | refine ⟨_, rc_intB, ?_⟩ | refine ⟨_, rc_max, ?_⟩ | refine ⟨_, rc_min, ?_⟩ | refine ⟨_, rc_lenL, ?_⟩ | refine ⟨_, rc_lenT, ?_⟩ | refine ⟨_, rc_listL, ?_⟩ | refine ⟨_, rc_listT, ?_⟩ | refine ⟨_, rc_tupL, ?_⟩ | refine ⟨_, rc_tupT, ?_⟩
  | refine ⟨_, rfl, ?_⟩ | refine ⟨_, _, rfl, ?_⟩ | refine ⟨_, ⟨_, rfl, rfl⟩, ?_⟩ | refine ⟨_, ⟨_, _, rfl, rfl⟩, ?_⟩)
local macro_rules | `(tactic| walk_at "d") => `(tactic| repeat (first | walk_at "d1" | refine ⟨lenOk rfl, ?_⟩ | refine ⟨0, _, _, _, rfl, rfl, rfl, ?_⟩ | refine ⟨_, r2_ixXL rfl, ?_⟩ | refine ⟨_, r2_ixXT rfl, ?_⟩ | refine ⟨_, r2_ixXT at0, ?_⟩ | refine ⟨_, r2_ixXT at1, ?_⟩ | refine ⟨_, r2_ixXL at0, ?_⟩ | refine ⟨_, r2_ixXL at1, ?_⟩))
-- a condition whose truth comes out by computation
local macro_rules | `(tactic| walk_at "b1") => `(tactic| first
  | refine ⟨fun _ => ?_, fun h => Bool.noConfusion (show true = false from h)⟩
  | refine ⟨fun h => Bool.noConfusion (show false = true from h), fun _ => ?_⟩)
local macro_rules | `(tactic| walk_at "db") => `(tactic| repeat (first | walk_at "d1" | refine ⟨lenOk rfl, ?_⟩ | refine ⟨0, _, _, _, rfl, rfl, rfl, ?_⟩ | refine ⟨_, r2_ixXL rfl, ?_⟩ | refine ⟨_, r2_ixXT rfl, ?_⟩ | refine ⟨_, r2_ixXT at0, ?_⟩ | refine ⟨_, r2_ixXT at1, ?_⟩ | refine ⟨_, r2_ixXL at0, ?_⟩ | refine ⟨_, r2_ixXL at1, ?_⟩ | walk_at "b1"))
-- how many arguments there are
local macro_rules | `(tactic| walk_at "len") => `(tactic| (intro _ _ h; first
  | (obtain ⟨_, e, _⟩ := h; subst e; rfl) | (obtain ⟨_, _, e, _⟩ := h; subst e; rfl) | (obtain ⟨_, _, _, e, _⟩ := h; subst e; rfl) | (obtain ⟨_, _, _, _, e, _⟩ := h; subst e; rfl) | (obtain ⟨_, _, _, _, _, e, _⟩ := h; subst e; rfl)))
local macro_rules | `(tactic| walk_at "leno") => `(tactic| (intro _ _ h; first
  | (obtain ⟨⟨_, e, _⟩, _⟩ := h; subst e; rfl) | (obtain ⟨⟨_, _, e, _⟩, _⟩ := h; subst e; rfl) | (obtain ⟨e, _⟩ := h; subst e; rfl) | (obtain ⟨_, e, _⟩ := h; subst e; rfl) | (obtain ⟨_, _, e, _⟩ := h; subst e; rfl) | (obtain ⟨_, _, _, e, _⟩ := h; subst e; rfl) | (obtain ⟨_, _, _, _, e, _⟩ := h; subst e; rfl)))
-- the same, but no new local
local macro_rules | `(tactic| walk_at "dn1") => `(tactic| with_reducible first
  | refine ws_seq ?_ | refine ws_next ?_ | refine ws_retN ?_ | refine ws_ret ?_ | refine ws_if ?_ | refine ws_par ?_ | refine ws_par3 ?_ | refine ws_setK ?_ | refine ws_newD ?_ | refine wp_cons ?_ | refine wp_nil ?_ | refine ws_newDK ?_ | refine ws_newDT ?_ | refine ws_star ?_ | refine ws_setO rfl ?_
  | refine we_var rfl ?_ | refine we_int ?_ | refine we_bl ?_ | refine we_str ?_ | refine we_non ?_ | refine we_kd ?_ | refine we_ixO rfl ?_
  | refine we_isi isg_int ?_ | refine we_isi isg_bool ?_ | refine we_isi isg_str ?_ | refine we_isi isg_list ?_ | refine we_isi isg_tuple ?_ | refine we_isi2 isg_list isg_tuple ?_ | refine we_isi2 isg_int isg_tuple ?_
  | refine we_inK ?_ | refine we_ixK ?_ | refine we_op ?_ | refine we_un ?_ | refine we_cb ?_ | refine we_tup ?_ | refine we_lst ?_ | refine we_andV ?_ | refine we_orV ?_ | refine we_notV ?_ | refine we_if ?_ | refine we_chain ?_ | refine we_sl ?_ | refine we_call ?_ | refine we_callD ?_ | refine we_rev ?_
  | refine wa_nil ?_ | refine wa_cons ?_ | refine wo_none ?_ | refine wo_some ?_ | refine wt_test ?_ | refine wt_B ?_ | refine wt_and ?_ | refine wt_or ?_ | refine wt_not ?_
  | refine wg_tup rfl ?_ | refine wgs_cons ?_ | refine wgs_nil ?_ | refine wg_name ?_
  | refine ⟨_, r2_int, ?_⟩ | refine ⟨_, r2_bl, ?_⟩ | refine ⟨_, r2_addI, ?_⟩ | refine ⟨_, r2_eqI, ?_⟩ | refine ⟨_, r2_neI, ?_⟩ | refine ⟨_, r2_eqS, ?_⟩ | refine ⟨_, r2_neS, ?_⟩ | refine ⟨_, r2_isN, ?_⟩ | refine ⟨_, r1_neg, ?_⟩
  | refine ⟨_, rc_absI, ?_⟩ | refine ⟨_, rc_intI, ?_⟩ | refine ⟨_, rc_intB, ?_⟩ | refine ⟨_, rc_max, ?_⟩ | refine ⟨_, rc_min, ?_⟩ | refine ⟨_, rc_lenL, ?_⟩ | refine ⟨_, rc_lenT, ?_⟩ | refine ⟨_, rc_listL, ?_⟩ | refine ⟨_, rc_listT, ?_⟩ | refine ⟨_, rc_tupL, ?_⟩ | refine ⟨_, rc_tupT, ?_⟩
  | refine ⟨_, rfl, ?_⟩ | refine ⟨_, _, rfl, ?_⟩ | refine ⟨_, ⟨_, rfl, rfl⟩, ?_⟩ | refine ⟨_, ⟨_, _, rfl, rfl⟩, ?_⟩)
local macro_rules | `(tactic| walk_at "dn") => `(tactic| repeat (first | walk_at "dn1" | refine ⟨lenOk rfl, ?_⟩ | refine ⟨0, _, _, _, rfl, rfl, rfl, ?_⟩ | refine ⟨_, r2_ixXL rfl, ?_⟩ | refine ⟨_, r2_ixXT rfl, ?_⟩ | refine ⟨_, r2_ixXT at0, ?_⟩ | refine ⟨_, r2_ixXT at1, ?_⟩ | refine ⟨_, r2_ixXL at0, ?_⟩ | refine ⟨_, r2_ixXL at1, ?_⟩))

variable {P : Program} {w : World} {K : PySem.W.Frag} {mg : Str → Option Value} {base : Heap}
/-! ### slices -/
theorem cut_from {ds : List PyData} {k : Nat} (h : k ≤ ds.length) : DS.cutD ds (some (k : Int)) none = ds.drop k := by
  unfold DS.cutD
  rw [HT.sIx_nat, HT.sIx_none, Nat.min_eq_left h]
  exact List.take_of_length_le (by rw [List.length_drop]; omega)
theorem cut_to {ds : List PyData} {k : Nat} (h : k ≤ ds.length) : DS.cutD ds none (some (k : Int)) = ds.take k := by
  unfold DS.cutD
  rw [HT.sIx_nat, HT.sIx_none, Nat.min_eq_left h]
  rfl
theorem cut_mid {ds : List PyData} {i j : Nat} (hij : i ≤ j) (h : j ≤ ds.length) : DS.cutD ds (some (i : Int)) (some (j : Int)) = (ds.take j).drop i := by
  unfold DS.cutD
  rw [HT.sIx_nat, HT.sIx_nat, Nat.min_eq_left h, Nat.min_eq_left (by omega), List.drop_take]
/-! ### _law_turned_right -/
--%%SPECIAL {('rec', '_law_turned_right', '_law_same'): '(c_L_same (P := P) (w := w) (K := K) (mg := mg) (base := base) T 6)'}
def A_tr (ds : List PyData) : Prop := ∃ ps : List (List Pt), ds = [.list (ps.map plP), .list (canP ps)] ∧ (1 ≤ ps.length ∧ ps.length ≤ 3) ∧ ∀ l ∈ ps, Lg l
abbrev Pre_tr := PreB 4 A_tr
abbrev Post_tr := PostB 4 (fun _ d => d = .bool true)
theorem c_L_turned_right (T : Top K w mg) : Cal P w K mg base "_law_turned_right" 10 p_L_turned_right (spO K Pre_tr Post_tr) :=
  T.h_L_turned_right.call (fun _ _ _ _ _ _ us hl => match us, hl with | [_, _, _], _ => rfl) fun f fd F m => fn_own F sc_L_turned_right (by walk_at "leno") fun cdv A outer s H E hr => ⟨_, (pss_cons (ps_asg (pe_tup (pa_cons (pe_op op_sub (pe_cal (c_L_take (P := P) (w := w) (K := K) (mg := mg) (base := base) T) (hr.mono (by omega)) (by rfl) (pa_cons (pv 0) (pa_cons pe_int pa_nil))) pe_int) (pa_cons (pe_op op_sub (pe_cal (c_L_take (P := P) (w := w) (K := K) (mg := mg) (base := base) T) (hr.mono (by omega)) (by rfl) (pa_cons (pv 0) (pa_cons pe_int pa_nil))) pe_int) pa_nil))) (pg_tupK (K := K) (n := 2) rfl (by rfl) (pgs_cons (pg_name (i := 3) sc_L_turned_right.nd rfl (.inr rfl)) (pgs_cons (pg_name (i := 4) sc_L_turned_right.nd rfl (.inr rfl)) pgs_nil))))
    (pss_cons (ps_set (i := 5) sc_L_turned_right.nd rfl (.inl rfl) (pe_lst pa_nil))
    (pss_cons (ps_for PassesOwn.never rfl (pi_XK (K := K) rfl (pv 1)) (pg_name (i := 6) sc_L_turned_right.nd rfl (.inl rfl))
    (pss_one (ps_expr (pe_bm PySem.F.plainAttrs_list PySem.F.slot_list_append PySem.F.type_list_append mt_append (pv 5) (pa_cons (pe_lc (own := [("x", 12), ("y", 13)]) (g := gTup K 2 (gCons (gName 12) (gCons (gName 13) gNil))) rfl sc_L_turned_right.nd  (pi_XK (K := K) rfl (pv 6))
      (blkOk_by (own := [("x", 12), ("y", 13)]) (N := N_L_turned_right) (sc := defScope s_L_turned_right) (by decide +kernel)) (fun _ _ _ _ _ => pg_tupK (K := K) (n := 2) rfl (by rfl) (pgs_cons (pg_name (i := 12) sc_L_turned_right.nd rfl (Or.inl rfl)) (pgs_cons (pg_name (i := 13) sc_L_turned_right.nd rfl (Or.inl rfl)) pgs_nil)))
      (fun _ _ _ _ _ => pts_nil) (fun _ _ _ _ _ => (pe_tup (pa_cons (pe_cal (c_L_num (P := P) (w := w) (K := K) (mg := mg) (base := base) T) (hr.mono (by omega)) (by rfl) (pa_cons (pe_cal (c_L_plus (P := P) (w := w) (K := K) (mg := mg) (base := base) T) (hr.mono (by omega)) (by rfl) (pa_cons (pv 12) (pa_cons (pe_tup (pa_cons (pe_op op_mulW pe_int (pv 3)) (pa_cons pe_int pa_nil))) pa_nil))) pa_nil)) (pa_cons (pe_cal (c_L_num (P := P) (w := w) (K := K) (mg := mg) (base := base) T) (hr.mono (by omega)) (by rfl) (pa_cons (pe_cal (c_L_plus (P := P) (w := w) (K := K) (mg := mg) (base := base) T) (hr.mono (by omega)) (by rfl) (pa_cons (pv 13) (pa_cons (pe_tup (pa_cons (pe_op op_mulW pe_int (pv 4)) (pa_cons pe_int pa_nil))) pa_nil))) pa_nil)) pa_nil))))) pa_nil)))))
    (pss_cons (ps_if (pt_not (pt_val (pe_cal (c_L_same (P := P) (w := w) (K := K) (mg := mg) (base := base) T 6) (hr.mono (by omega)) (by rfl) (pa_cons (pe_cal (c_greys (P := P) (w := w) (K := K) (mg := mg) (base := base) T) (hr.mono (by omega)) (by rfl) (pa_cons (pv 5) pa_nil)) (pa_cons (pe_lc (own := [("row", 14), ("column", 15), ("grey", 16)]) (g := gTup K 3 (gCons (gName 14) (gCons (gName 15) (gCons (gName 16) gNil)))) rfl sc_L_turned_right.nd  (pi_XK (K := K) rfl (pv 2))
      (blkOk_by (own := [("row", 14), ("column", 15), ("grey", 16)]) (N := N_L_turned_right) (sc := defScope s_L_turned_right) (by decide +kernel)) (fun _ _ _ _ _ => pg_tupK (K := K) (n := 3) rfl (by rfl) (pgs_cons (pg_name (i := 14) sc_L_turned_right.nd rfl (Or.inl rfl)) (pgs_cons (pg_name (i := 15) sc_L_turned_right.nd rfl (Or.inl rfl)) (pgs_cons (pg_name (i := 16) sc_L_turned_right.nd rfl (Or.inl rfl)) pgs_nil))))
      (fun _ _ _ _ _ => pts_nil) (fun _ _ _ _ _ => (pe_tup (pa_cons (pe_op (op_addXK (K := K) rfl) (pv 14) (pv 4)) (pa_cons (pe_op (op_addXK (K := K) rfl) (pv 15) (pv 3)) (pa_cons (pv 16) pa_nil)))))) pa_nil))))) (pss_one (ps_ret pe_bl)) pss_nil)
    (pss_cons (ps_set (i := 7) sc_L_turned_right.nd rfl (.inl rfl) (pe_cal (c_greys (P := P) (w := w) (K := K) (mg := mg) (base := base) T) (hr.mono (by omega)) (by rfl) (pa_cons (pe_lc (own := [("part", 6)]) (g := gName 6) rfl sc_L_turned_right.nd  (pi_XK (K := K) rfl (pv 1))
      (blkOk_by (own := [("part", 6)]) (N := N_L_turned_right) (sc := defScope s_L_turned_right) (by decide +kernel)) (fun _ _ _ _ _ => pg_name (i := 6) sc_L_turned_right.nd rfl (Or.inl rfl))
      (fun _ _ _ _ _ => pts_nil) (fun _ _ _ _ _ => (pe_cal (c_L_told (P := P) (w := w) (K := K) (mg := mg) (base := base) T) (hr.mono (by omega)) (by rfl) (pa_cons (pe_revK (K := K) rfl (pv 6)) pa_nil)))) pa_nil)))
    (pss_cons (ps_if (pt_not (pt_val (pe_cal (c_L_same (P := P) (w := w) (K := K) (mg := mg) (base := base) T 6) (hr.mono (by omega)) (by rfl) (pa_cons (pv 7) (pa_cons (pe_lc (own := [("row", 14), ("column", 15), ("grey", 16)]) (g := gTup K 3 (gCons (gName 14) (gCons (gName 15) (gCons (gName 16) gNil)))) rfl sc_L_turned_right.nd  (pi_XK (K := K) rfl (pv 2))
      (blkOk_by (own := [("row", 14), ("column", 15), ("grey", 16)]) (N := N_L_turned_right) (sc := defScope s_L_turned_right) (by decide +kernel)) (fun _ _ _ _ _ => pg_tupK (K := K) (n := 3) rfl (by rfl) (pgs_cons (pg_name (i := 14) sc_L_turned_right.nd rfl (Or.inl rfl)) (pgs_cons (pg_name (i := 15) sc_L_turned_right.nd rfl (Or.inl rfl)) (pgs_cons (pg_name (i := 16) sc_L_turned_right.nd rfl (Or.inl rfl)) pgs_nil))))
      (fun _ _ _ _ _ => pts_nil) (fun _ _ _ _ _ => (pe_tup (pa_cons (pv 14) (pa_cons (pv 15) (pa_cons (pe_cal (c_L_num (P := P) (w := w) (K := K) (mg := mg) (base := base) T) (hr.mono (by omega)) (by rfl) (pa_cons (pe_cal (c_L_minus (P := P) (w := w) (K := K) (mg := mg) (base := base) T) (hr.mono (by omega)) (by rfl) (pa_cons (pe_tup (pa_cons pe_int (pa_cons pe_int pa_nil))) (pa_cons (pe_cal (c_L_pair (P := P) (w := w) (K := K) (mg := mg) (base := base) T) (hr.mono (by omega)) (by rfl) (pa_cons (pv 16) pa_nil)) pa_nil))) pa_nil)) pa_nil)))))) pa_nil))))) (pss_one (ps_ret pe_bl)) pss_nil)
    (pss_cons (ps_set (i := 6) sc_L_turned_right.nd rfl (.inl rfl) (pe_ix (ix_XK (K := K) rfl) (pv 1) pe_int (fun _ _ => rfl)))
    (pss_cons (ps_par (i := 8) (j := 9) (by rfl) sc_L_turned_right.nd rfl rfl (by decide) rfl rfl (pa_cons (pe_cal (c_L_take (P := P) (w := w) (K := K) (mg := mg) (base := base) T) (hr.mono (by omega)) (by rfl) (pa_cons (pv 0) (pa_cons (pe_callB (call_lenXK (K := K) rfl) (by rfl) T.m_len (by decide +kernel) (pa_cons (pv 6) pa_nil)) pa_nil))) (pa_cons (pe_cal (c_L_take (P := P) (w := w) (K := K) (mg := mg) (base := base) T) (hr.mono (by omega)) (by rfl) (pa_cons (pv 0) (pa_cons (pe_callB (call_lenXK (K := K) rfl) (by rfl) T.m_len (by decide +kernel) (pa_cons (pv 6) pa_nil)) pa_nil))) pa_nil)) (by rfl))
    (pss_cons (ps_par (i := 8) (j := 9) (by rfl) sc_L_turned_right.nd rfl rfl (by decide) rfl rfl (pa_cons (pe_callB (call_min' rfl) (by rfl) T.m_min (by decide +kernel) (pa_cons (pv 8) (pa_cons (pv 9) pa_nil))) (pa_cons (pe_callB (call_max' rfl) (by rfl) T.m_max (by decide +kernel) (pa_cons (pv 8) (pa_cons (pv 9) pa_nil))) pa_nil)) (by rfl))
    (pss_cons (ps_set (i := 10) sc_L_turned_right.nd rfl (.inl rfl) (pe_lst (pa_cons (pe_slice (sl_XK (K := K) rfl) (pv 6) (po_some (pv 8)) (po_some (pe_op (op_addXK (K := K) rfl) (pv 9) pe_int))) (pa_cons (pe_op (op_addXK (K := K) rfl) (pe_slice (sl_XK (K := K) rfl) (pv 6) (po_some (pv 9)) po_none) (pe_slice (sl_XK (K := K) rfl) (pv 6) po_none (po_some (pe_op (op_addXK (K := K) rfl) (pv 8) pe_int)))) pa_nil))))
    (pss_cons (ps_set (i := 11) sc_L_turned_right.nd rfl (.inl rfl) (pe_cal (c_greys (P := P) (w := w) (K := K) (mg := mg) (base := base) T) (hr.mono (by omega)) (by rfl) (pa_cons (pe_callTy (call_tupXK (K := K) rfl) (by rfl) T.m_tuple (by decide +kernel) (pa_cons (pe_lc (own := [("piece", 17)]) (g := gName 17) rfl sc_L_turned_right.nd  (pi_XK (K := K) rfl (pe_op (op_addXK (K := K) rfl) (pv 10) (pe_slice (sl_XK (K := K) rfl) (pv 1) (po_some pe_int) po_none)))
      (blkOk_by (own := [("piece", 17)]) (N := N_L_turned_right) (sc := defScope s_L_turned_right) (by decide +kernel)) (fun _ _ _ _ _ => pg_name (i := 17) sc_L_turned_right.nd rfl (Or.inl rfl))
      (fun _ _ _ _ _ => pts_nil) (fun _ _ _ _ _ => (pe_cal (c_L_told (P := P) (w := w) (K := K) (mg := mg) (base := base) T) (hr.mono (by omega)) (by rfl) (pa_cons (pv 17) pa_nil)))) pa_nil)) pa_nil)))
    (pss_one (ps_ret (pe_cal (c_L_same (P := P) (w := w) (K := K) (mg := mg) (base := base) T 6) (hr.mono (by omega)) (by rfl) (pa_cons (pv 11) (pa_cons (pv 2) pa_nil)))))))))))))))), fun b bx ds hR => by
    obtain ⟨⟨pp, rfl, hn, hl⟩, hp⟩ := hR
    obtain ⟨m, hm, hB, hQ⟩ := pb_min hp
    have hos := os_lg hn hl
    have hcl := cel_len hos
    rw [canP_cel]
    walk_at "d"
    refine we_take rfl hB (by omega) ?_
    walk_at "d"
    refine ⟨by decide, rfl, fun t1 bx ht1 hB => ?_⟩
    have ht1 : t1 < 9 := ht1
    walk_at "d"
    refine we_take rfl hB (by omega) ?_
    walk_at "d"
    refine ⟨by decide, rfl, fun t2 bx ht2 hB => ?_⟩
    have ht2 : t2 < 9 := ht2
    walk_at "dn"
    have he4 : ((t1 : Int) - 4).natAbs ≤ 4 := by omega
    have hn4 : ((t2 : Int) - 4).natAbs ≤ 4 := by omega
    generalize (t1 : Int) - 4 = e at *
    generalize (t2 : Int) - 4 = n at *
    refine ws_newO ?_
    walk_at "d"
    intro b2 hb2
    walk_at "d"
    refine ws_for (wi_X ?_)
    refine we_var rfl ?_
    have hmv : ∀ l : List Pt, (mvP e n l).map ptD = l.map (fun p => PyData.tuple [qd (p.1 + r64 e), qd (p.2 + r64 n)]) := fun l => by unfold mvP; rw [List.map_map]; rfl
    refine ⟨_, .inl rfl, fun i ρ β => ∃ s6 : Slot, ρ = [.raw (.ref b), .dat (.list (pp.map plP)), .dat (.list ((cel pp).map (nzD (gsK pp)))), .dat (.int e), .dat (.int n), .raw (.ref b2), s6, .no, .no, .no, .no, .no, .no, .no, .no, .no, .no, .no] ∧ β = [(b, .lst bx), (b2, .lst ((pp.take i).map fun l => plD (mvP e n l)))], ⟨_, rfl, rfl⟩, ?_, ?_⟩
    · rintro i d ρ' β' hd ⟨s6, rfl, rfl⟩
      obtain ⟨l, e1, rfl⟩ := get_map hd
      have hlg := hl l (List.mem_of_getElem? e1)
      have hn6 := hlg.n.2
      have hi := (List.getElem?_eq_some_iff.mp e1).1
      have hst : ((pp.take (i + 1)).map fun l => plD (mvP e n l)) = ((pp.take i).map fun l => plD (mvP e n l)) ++ [plD (mvP e n l)] := by
        rw [List.take_add_one, e1, List.map_append]; rfl
      have hlt : ((pp.take i).map fun l => plD (mvP e n l)).length ≤ 10 := by rw [List.length_map, List.length_take]; omega
      generalize ((pp.take i).map fun l => plD (mvP e n l)) = acc at *
      refine wg_name ?_
      refine ws_appO (j := 1) rfl ⟨_, rfl⟩ ?_
      refine we_lc_ix (tg := [12] ++ ([13] ++ [])) (by decide) (wi_X (we_var rfl ⟨_, .inl rfl, l.map fun p => PyData.tuple [qd (p.1 + r64 e), qd (p.2 + r64 n)], line10 (by rw [List.length_map]; omega), by simp, ?_, ?_⟩))
      · intro j d y hd hy
        obtain ⟨p, e2, rfl⟩ := get_map hd
        rw [List.getElem?_map, e2] at hy
        cases hy
        have ho := hlg.o p (List.mem_of_getElem? e2)
        have f1 := ho.fx
        have f2 := ho.fy
        have g1 : Fq 0 20 (r64 e) := Fq.int (by have : (2 : Nat) ^ 20 = 1048576 := by decide
                                                omega)
        have g2 : Fq 0 20 (r64 n) := Fq.int (by have : (2 : Nat) ^ 20 = 1048576 := by decide
                                                omega)
        refine wgc_tup (tg := [12] ++ ([13] ++ [])) rfl (wgcs_cons (wgc_name (wgcs_cons (wgc_name (wgcs_nil ?_)))))
        walk_at "d"
        refine ⟨_, r2_intC (mulOk (m := 19) (n := 19) (bd_of (by decide)) (bd_of (by omega))), ?_⟩
        walk_at "d"
        rw [qp_cell]
        refine ⟨_, ⟨_, _, rfl, f1.sq (by decide) (by decide), g1.sq (by decide) (by decide), rfl⟩, ?_⟩
        walk_at "d"
        refine ⟨_, r2_intC (mulOk (m := 19) (n := 19) (bd_of (by decide)) (bd_of (by omega))), ?_⟩
        walk_at "d"
        rw [qp_cell]
        refine ⟨_, ⟨_, _, rfl, f2.sq (by decide) (by decide), g2.sq (by decide) (by decide), rfl⟩, ?_⟩
        walk_at "d"
        exact ⟨rfl, rfl⟩
      walk_at "d"
      rw [← hmv l]
      refine ⟨Nat.lt_of_le_of_lt hlt (by decide), _, rfl, ?_⟩
      rw [hst]
      rfl
    rintro ρ' β' ⟨s6, rfl, rfl⟩
    rw [List.length_map, List.take_length]
    have hbb : b2 ≠ b := fun z => hb2 (by rw [z]; simp [dom])
    refine ws_frz (i := 5) (j := 1) rfl rfl (by simpa using hbb) ?_
    have hr1 : Row ((pp.map (mvP e n)).map plD) (.list (pp.map fun l => plD (mvP e n l))) := by rw [List.map_map]; exact .l
    generalize (.list (pp.map fun l => plD (mvP e n l)) : PyData) = mvd at hr1
    walk_at "d"
    refine ⟨.list ((cel pp).map (shD e n (gsK pp))), ⟨pp.map (mvP e n), _, rfl, hr1, (os_mv hn hl he4 hn4).gok, by rw [← canP_mv]; rfl⟩, ?_⟩
    refine wa_cons ?_
    refine we_lc_ix (tg := [14] ++ ([15] ++ ([16] ++ []))) (by decide) (wi_X (we_var rfl ⟨_, .inl rfl, (cel pp).map (shD e n (gsK pp)), line10 (by rw [List.length_map]; omega), by simp, ?_, ?_⟩))
    · intro j d y hd hy
      obtain ⟨k, e2, rfl⟩ := get_map hd
      rw [List.getElem?_map, e2] at hy
      cases hy
      refine wgc_tup (tg := [14] ++ ([15] ++ ([16] ++ []))) rfl (wgcs_cons (wgc_name (wgcs_cons (wgc_name (wgcs_cons (wgc_name (wgcs_nil ?_)))))))
      walk_at "d"
      exact ⟨rfl, rfl⟩
    walk_at "d"
    refine ⟨_, ⟨3, _, rfl, by decide, nc_cells hcl fun _ => nc_cell, rfl⟩, ?_⟩
    walk_at "db"
    -- the other way round
    refine we_lc_ix (tg := [6]) (by decide) (wi_X (we_var rfl ⟨_, .inl rfl, pp.map fun l => plD l.reverse, line10 (by rw [List.length_map]; omega), by simp, ?_, ?_⟩))
    · intro j d y hd hy
      obtain ⟨l, e2, rfl⟩ := get_map hd
      rw [List.getElem?_map, e2] at hy
      cases hy
      have hlg := hl l (List.mem_of_getElem? e2)
      have hn6 := hlg.n.2
      refine wgc_name ?_
      walk_at "d"
      refine ⟨_, ⟨l.reverse, by unfold plP; rw [List.map_reverse], by rw [List.length_reverse]; omega, rfl⟩, ?_⟩
      exact ⟨rfl, rfl⟩
    have hr2 : Row ((pp.map List.reverse).map plD) (.list (pp.map fun l => plD l.reverse)) := by rw [List.map_map]; exact .l
    generalize (.list (pp.map fun l => plD l.reverse) : PyData) = rvd at hr2
    walk_at "d"
    refine ⟨.list ((cel pp).map (ngD (gsK pp))), ⟨pp.map List.reverse, _, rfl, hr2, (os_rev hn hl).gok, by rw [← canP_rev]; rfl⟩, ?_⟩
    walk_at "d"
    refine we_lc_ix (tg := [14] ++ ([15] ++ ([16] ++ []))) (by decide) (wi_X (we_var rfl ⟨_, .inl rfl, (cel pp).map (ngD (gsK pp)), line10 (by rw [List.length_map]; omega), by simp, ?_, ?_⟩))
    · intro j d y hd hy
      obtain ⟨k, e2, rfl⟩ := get_map hd
      rw [List.getElem?_map, e2] at hy
      cases hy
      have hf := gsK_fq hl hn.2 (k := k) (by have := cel_small hos (List.mem_of_getElem? e2); omega) _ (Nat.le_refl _)
      rw [List.take_length] at hf
      refine wgc_tup (tg := [14] ++ ([15] ++ ([16] ++ []))) rfl (wgcs_cons (wgc_name (wgcs_cons (wgc_name (wgcs_cons (wgc_name (wgcs_nil ?_)))))))
      walk_at "d"
      rw [qp_zero]
      refine ⟨_, ⟨_, _, rfl, (Fq.int (i := 0) (m := 20) (by decide)).sq (by decide) (by decide), hf.sq (by decide) (by decide), rfl⟩, ?_⟩
      walk_at "d"
      exact ⟨rfl, rfl⟩
    walk_at "d"
    refine ⟨_, ⟨3, _, rfl, by decide, nc_cells hcl fun _ => nc_cell, rfl⟩, ?_⟩
    walk_at "db"
    -- cut in two
    obtain ⟨l, ps2, rfl⟩ : ∃ l ps2, pp = l :: ps2 := by
      cases pp with
      | nil => simp at hn
      | cons l ps2 => exact ⟨l, ps2, rfl⟩
    have hlg := hl l (by simp)
    have hln := hlg.n
    have hn2 : ps2.length ≤ 2 := by have := hn.2; rw [List.length_cons] at this; omega
    rw [List.map_cons]
    walk_at "d"
    refine we_take rfl hB (by omega) ?_
    walk_at "d"
    rw [List.length_map]
    refine ⟨by omega, rfl, fun t3 bx ht3 hB => ?_⟩
    walk_at "d"
    refine we_take rfl hB (by omega) ?_
    walk_at "d"
    rw [List.length_map]
    refine ⟨by omega, rfl, fun t4 bx ht4 hB => ?_⟩
    walk_at "d"
    have ht3 : t3 < l.length := ht3
    have ht4 : t4 < l.length := ht4
    obtain ⟨i, j, e1, e2, hij, hj⟩ : ∃ i j : Nat, (if (t4 : Int) < (t3 : Int) then (t4 : Int) else (t3 : Int)) = (i : Int) ∧ (if (t4 : Int) > (t3 : Int) then (t4 : Int) else (t3 : Int)) = (j : Int) ∧ i ≤ j ∧ j < l.length := by
      by_cases h : (t4 : Int) < (t3 : Int)
      · exact ⟨t4, t3, by rw [if_pos h], by rw [if_neg (by omega)], by omega, ht3⟩
      · by_cases h2 : (t4 : Int) > (t3 : Int)
        · exact ⟨t3, t4, by rw [if_neg h], by rw [if_pos h2], by omega, ht4⟩
        · exact ⟨t3, t4, by rw [if_neg h], by rw [if_neg h2]; omega, by omega, ht4⟩
    rw [e1, e2]
    have hA : DS.cutD (l.map ptP) (some (i : Int)) (some ((j : Int) + 1)) = (pcA l i j).map ptP := by
      rw [show (j : Int) + 1 = ((j + 1 : Nat) : Int) by omega, cut_mid (by omega) (by rw [List.length_map]; omega)]
      unfold pcA
      rw [List.map_drop, List.map_take]
    have hB1 : DS.cutD (l.map ptP) (some (j : Int)) none = (l.drop j).map ptP := by
      rw [cut_from (by rw [List.length_map]; omega), List.map_drop]
    have hB2 : DS.cutD (l.map ptP) none (some ((i : Int) + 1)) = (l.take (i + 1)).map ptP := by
      rw [show (i : Int) + 1 = ((i + 1 : Nat) : Int) by omega, cut_to (by rw [List.length_map]; omega), List.map_take]
    have hpl := pc_len hij hj
    refine ⟨_, rs_XL (ds := l.map ptP), ?_⟩
    rw [hA]
    walk_at "d"
    refine ⟨_, rs_XL (ds := l.map ptP), ?_⟩
    rw [hB1]
    walk_at "d"
    refine ⟨_, rs_XL (ds := l.map ptP), ?_⟩
    rw [hB2]
    refine ⟨_, r2_addL (line10 (by rw [List.length_map, List.length_map, List.length_drop, List.length_take]; omega)), ?_⟩
    rw [← List.map_append, show l.drop j ++ l.take (i + 1) = pcB l i j from rfl]
    walk_at "d"
    refine we_lc_ix (tg := [17]) (by decide) (wi_X ?_)
    walk_at "d"
    refine ⟨_, rs_XL (ds := plP l :: ps2.map plP), ?_⟩
    rw [cut_one]
    refine ⟨_, r2_addL (line10 (by simp; omega)), ?_⟩
    refine ⟨(pcA l i j :: pcB l i j :: ps2).map plP, .inl rfl, (pcA l i j :: pcB l i j :: ps2).map plD, line10 (by rw [List.length_map]; simp; omega), by simp, ?_, ?_⟩
    · intro j2 d y hd hy
      obtain ⟨x, e2, rfl⟩ := get_map hd
      rw [List.getElem?_map, e2] at hy
      cases hy
      refine wgc_name ?_
      walk_at "d"
      have hx := (os_cut hij hj hn2 hl).l x (List.mem_of_getElem? e2)
      exact ⟨_, ⟨x, rfl, by omega, rfl⟩, rfl, rfl⟩
    walk_at "d"
    refine ⟨.list ((cel (l :: ps2)).map (nzD (gsK (l :: ps2)))), ⟨pcA l i j :: pcB l i j :: ps2, _, rfl, .t, (os_cut hij hj hn2 hl).gok, by rw [← canP_cel, ← canP_cut hij hj]; rfl⟩, ?_⟩
    walk_at "d"
    refine ⟨_, ⟨3, _, rfl, by decide, nc_cells hcl fun _ => nc_cell, rfl⟩, ?_⟩
    exact ⟨bx, rfl, rfl, hQ _ (hB.mono (by omega))⟩⟩
end K84

set_option Elab.async false
set_option linter.all false
set_option maxRecDepth 100000
set_option pp.deepTerms false
set_option pp.deepTerms.threshold 6
set_option maxHeartbeats 4000000
namespace K84
open PySem PySem.Spec PyProof.Rows L2 DS
open G84 (Pt G cyc cross lastP lastD ps sumR)
open K77 (Bd)
/-! ### all greys together are the land -/
def sumL {α : Type} (f : α → Rat) : List α → Rat
  | [] => 0
  | x :: r => f x + sumL f r
theorem sumL_app {α : Type} {f : α → Rat} : ∀ {a b : List α}, sumL f (a ++ b) = sumL f a + sumL f b
  | [], b => by show sumL f b = 0 + sumL f b; grind
  | x :: a, b => by
    rw [List.cons_append]
    show f x + sumL f (a ++ b) = f x + sumL f a + sumL f b
    rw [sumL_app]; grind
theorem sumL_congr {α : Type} {f g : α → Rat} : ∀ {a : List α}, (∀ x ∈ a, f x = g x) → sumL f a = sumL g a
  | [], _ => rfl
  | x :: a, h => by
    show f x + sumL f a = g x + sumL g a
    rw [h x (by simp), sumL_congr fun y hy => h y (by simp [hy])]
theorem sumL_zero {α : Type} : ∀ {a : List α}, sumL (fun _ => (0 : Rat)) a = 0
  | [] => rfl
  | x :: a => by
    show (0 : Rat) + sumL (fun _ => (0 : Rat)) a = 0
    rw [sumL_zero]; grind
theorem sumL_add {α : Type} {f g : α → Rat} : ∀ {a : List α}, sumL (fun x => f x + g x) a = sumL f a + sumL g a
  | [] => by show (0 : Rat) = 0 + 0; grind
  | x :: a => by
    show f x + g x + sumL (fun x => f x + g x) a = f x + sumL f a + (g x + sumL g a)
    rw [sumL_add]; grind
theorem sumL_map {α β : Type} {f : β → Rat} {g : α → β} : ∀ {a : List α}, sumL f (a.map g) = sumL (fun x => f (g x)) a
  | [] => rfl
  | x :: a => by
    rw [List.map_cons]
    show f (g x) + sumL f (a.map g) = f (g x) + sumL (fun x => f (g x)) a
    rw [sumL_map]
theorem sumL_flat {α β : Type} {f : β → Rat} {g : α → List β} : ∀ {a : List α}, sumL f (a.flatMap g) = sumL (fun x => sumL f (g x)) a
  | [] => rfl
  | x :: a => by
    rw [List.flatMap_cons, sumL_app, sumL_flat]
    rfl
theorem sumL_filter {α : Type} {f : α → Rat} {p : α → Bool} (h : ∀ x, p x = false → f x = 0) : ∀ {a : List α}, sumL f (a.filter p) = sumL f a
  | [] => rfl
  | x :: a => by
    rw [List.filter_cons]
    cases hp : p x
    · rw [if_neg Bool.false_ne_true, sumL_filter h]
      show sumL f a = f x + sumL f a
      rw [h x hp]; grind
    · rw [if_pos rfl]
      show f x + sumL f (a.filter p) = f x + sumL f a
      rw [sumL_filter h]
theorem sumL_rng {f : Int → Rat} {lo hi : Int} : sumL f (rngI lo hi) = sumR lo (hi - lo).toNat f := by
  unfold rngI
  rw [sumL_map]
  generalize (hi - lo).toNat = n
  induction n with
  | zero => rfl
  | succ n ih =>
    rw [List.range_succ, sumL_app, ih]
    show sumR lo n f + (f (lo + (n : Int)) + 0) = sumR lo n f + f (lo + (n : Int))
    grind
theorem sumL_cells {f : Int × Int → Rat} {c0 c1 r0 r1 : Int} : sumL f (cellsB c0 c1 r0 r1) = sumR r0 (r1 - r0).toNat fun r => sumR c0 (c1 - c0).toNat fun c => f (r, c) := by
  unfold cellsB
  rw [sumL_flat, sumL_rng]
  congr 1
  funext r
  rw [sumL_map, sumL_rng]
theorem foldl_sumL {α : Type} {f : α → Rat} : ∀ {l : List α} {a : Rat}, l.foldl (fun a x => a + f x) a = a + sumL f l
  | [], a => by show a = a + 0; grind
  | x :: l, a => by
    rw [List.foldl_cons, foldl_sumL]
    show a + f x + sumL f l = a + (f x + sumL f l)
    grind
theorem sumL_swap {α β : Type} {f : α → β → Rat} {b : List β} : ∀ {a : List α}, sumL (fun y => sumL (fun x => f x y) a) b = sumL (fun x => sumL (f x) b) a
  | [] => sumL_zero
  | x :: a => by
    show sumL (fun y => f x y + sumL (fun x => f x y) a) b = sumL (f x) b + sumL (fun x => sumL (f x) b) a
    rw [sumL_add, sumL_swap]
theorem all_land {ps : List (List Pt)} : sumL (gsK ps) (cel ps) = tot ps := by
  unfold cel
  rw [sumL_filter fun k hk => by
    unfold nzb at hk
    exact Classical.not_not.mp (of_decide_eq_false hk)]
  have e : gsK ps = fun k => sumL (fun l => G l k.1 k.2) ps := funext fun k => by
    unfold gsK gs
    rw [foldl_sumL]; grind
  rw [e, sumL_swap]
  unfold tot
  rw [foldl_sumL]
  have h0 : ∀ x : Rat, 0 + x = x := fun x => by grind
  rw [h0]
  refine sumL_congr fun l hl => ?_
  rw [sumL_cells]
  unfold lnd
  have hm : ∀ p ∈ l, p ∈ ps.flatten := fun p hp => List.mem_flatten.mpr ⟨l, hl, hp⟩
  by_cases hle : l = []
  · subst hle
    refine Eq.trans (Eq.trans (G84.sumR_congr (g := fun _ => 0) fun r _ _ => Eq.trans (G84.sumR_congr (g := fun _ => 0) fun c _ _ => ?_) G84.sumR_zero) G84.sumR_zero) ?_
    · exact G84.G_zero fun P Q h _ => by cases h
    · show (0 : Rat) = (0 : Rat) / 8192
      grind
  · obtain ⟨p0, hp0⟩ : ∃ p, p ∈ l := List.exists_mem_of_ne_nil l hle
    refine G84.G_total fun p hp => ?_
    have x1 := rlo_le (xs_mem (hm p hp))
    have x2 := le_rhi (xs_mem (hm p hp))
    have y1 := rlo_le (ys_mem (hm p hp))
    have y2 := le_rhi (ys_mem (hm p hp))
    have a1 := fl_le.mp x1
    have a2 := ce_le.mp x2
    have a3 := fl_le.mp y1
    have a4 := ce_le.mp y2
    have hx : fl p.1 ≤ ce p.1 := by
      have h1 : ((64 * fl p.1 : Int) : Rat) ≤ p.1 := fl_le.mp (Int.le_refl _)
      have h2 : p.1 ≤ ((64 * ce p.1 : Int) : Rat) := ce_le.mp (Int.le_refl _)
      have := Rat.intCast_le_intCast.mp (Rat.le_trans h1 h2)
      omega
    have hy : fl p.2 ≤ ce p.2 := by
      have h1 : ((64 * fl p.2 : Int) : Rat) ≤ p.2 := fl_le.mp (Int.le_refl _)
      have h2 : p.2 ≤ ((64 * ce p.2 : Int) : Rat) := ce_le.mp (Int.le_refl _)
      have := Rat.intCast_le_intCast.mp (Rat.le_trans h1 h2)
      omega
    generalize rlo (xsO ps.flatten) = c0 at *
    generalize rhi (xsO ps.flatten) = c1 at *
    generalize rlo (ysO ps.flatten) = r0 at *
    generalize rhi (ysO ps.flatten) = r1 at *
    rw [show r0 + ((r1 - r0).toNat : Int) = r1 by omega, show c0 + ((c1 - c0).toNat : Int) = c1 by omega]
    exact ⟨⟨a3, a4⟩, a1, a2⟩
/-! ### one base for all greys -/
def bsE (l : List Pt) : Nat := Dl l * (2 * Dl l) * 4096
def bsP : List (List Pt) → Nat
  | [] => 1
  | l :: ps => bsE l * bsP ps
theorem bsE_ne {l : List Pt} : bsE l ≠ 0 := Nat.mul_ne_zero (Nat.mul_ne_zero Dl_ne (Nat.mul_ne_zero (by decide) Dl_ne)) (by decide)
theorem bsP_ne : ∀ {ps : List (List Pt)}, bsP ps ≠ 0
  | [] => by decide
  | l :: ps => Nat.mul_ne_zero bsE_ne bsP_ne
theorem bsE_le {l : List Pt} (h : Lg l) : bsE l ≤ 2 ^ 835 := by
  have h1 := h.pq.h1
  unfold bsE
  refine Nat.le_trans (Nat.mul_le_mul (Nat.mul_le_mul h1 (Nat.mul_le_mul (Nat.le_refl 2) h1)) (show 4096 ≤ 2 ^ 12 by decide)) ?_
  rw [show (2 : Nat) * 2 ^ 411 = 2 ^ 412 from (Nat.pow_succ').symm, ← Nat.pow_add, ← Nat.pow_add]
  exact Nat.le_refl _
theorem bsP_le : ∀ {ps : List (List Pt)}, (∀ l ∈ ps, Lg l) → bsP ps ≤ 2 ^ (835 * ps.length)
  | [], _ => by simp [bsP]
  | l :: ps, h => by
    rw [List.length_cons, Nat.mul_add, Nat.mul_one, Nat.add_comm, Nat.pow_add]
    exact Nat.mul_le_mul (bsE_le (h l (by simp))) (bsP_le fun x hx => h x (by simp [hx]))
theorem dv_4096 {D : Nat} {q : Rat} (h : Dv D q) : Dv (D * 4096) (q / 4096) := by
  obtain ⟨z, hz⟩ := h
  refine ⟨z, ?_⟩
  rw [← hz, Rat.natCast_mul]
  have : ((4096 : Nat) : Rat) = 4096 := rfl
  rw [this]
  grind
theorem G_dv {l : List Pt} (h : Lg l) {r c : Int} (hr : r.natAbs ≤ 3000) (hc : c.natAbs ≤ 3000) : Dv (bsE l) (G l r c) := by
  have hq := h.pq
  have h1 := (su_ok hq.g hq.h0 hq.h1 (r := r) (c := c) (by omega) (by omega) l.length (Nat.le_refl _)).1
  have h2 := (su_ok hq.g hq.h0 hq.h1 (r := r) (c := c + 1) (by omega) (by omega) l.length (Nat.le_refl _)).1
  rw [List.take_length] at h1 h2
  rw [← su_G]
  exact dv_4096 (h2.sub h1)
theorem gs_dv {ps : List (List Pt)} {r c : Int} (hr : r.natAbs ≤ 3000) (hc : c.natAbs ≤ 3000) : (∀ l ∈ ps, Lg l) → Dv (bsP ps) (sumL (fun l => G l r c) ps) := by
  induction ps with
  | nil => intro _; exact Dv.int 1 0
  | cons l ps ih =>
    intro h
    exact ((G_dv (h l (by simp)) hr hc).mono ⟨bsP ps, rfl⟩).add ((ih fun x hx => h x (by simp [hx])).mono ⟨bsE l, Nat.mul_comm _ _⟩)
theorem gsK_sum {ps : List (List Pt)} {k : Int × Int} : gsK ps k = sumL (fun l => G l k.1 k.2) ps := by
  unfold gsK gs
  rw [foldl_sumL]; grind
theorem sum_ok {ps : List (List Pt)} (hn : ps.length ≤ 3) (h : ∀ l ∈ ps, Lg l) : ∀ {Z : List (Int × Int)}, (∀ k ∈ Z, k.1.natAbs ≤ 3000 ∧ k.2.natAbs ≤ 3000) → Dv (bsP ps) (sumL (gsK ps) Z) ∧ Ab (Z.length * 2 ^ 400) (sumL (gsK ps) Z)
  | [], _ => ⟨Dv.int _ 0, Ab.int (i := 0) (by simp)⟩
  | k :: Z, hz => by
    obtain ⟨h1, h2⟩ := sum_ok hn h (Z := Z) fun x hx => hz x (by simp [hx])
    have hk := hz k (by simp)
    have hf := gsK_fq h hn (k := k) (by omega) _ (Nat.le_refl _)
    rw [List.take_length] at hf
    have hd := gs_dv hk.1 hk.2 h
    rw [← gsK_sum] at hd
    exact ⟨hd.add h1, (hf.ab.add h2).mono (by rw [List.length_cons, Nat.add_mul]; omega)⟩
theorem sum_fq {ps : List (List Pt)} (hn : ps.length ≤ 3) (h : ∀ l ∈ ps, Lg l) {Z : List (Int × Int)} (hz : ∀ k ∈ Z, k.1.natAbs ≤ 3000 ∧ k.2.natAbs ≤ 3000) (hl : Z.length ≤ 1024) : Fq 2505 410 (sumL (gsK ps) Z) := by
  obtain ⟨h1, h2⟩ := sum_ok hn h hz
  refine Fq.of bsP_ne (Nat.le_trans (bsP_le h) (pow_le (by omega))) h1 (h2.mono ?_)
  refine Nat.le_trans (Nat.mul_le_mul (show Z.length ≤ 2 ^ 10 by exact hl) (Nat.le_refl _)) ?_
  rw [← Nat.pow_add]
  exact Nat.le_refl _
/-! ### looking a cell up -/
def cAt (r c : Int) : PyData → Bool
  | .tuple [.int a, .int b, _] => decide (a = r) && decide (b = c)
  | _ => false
def third : PyData → PyData
  | .tuple [_, _, x] => x
  | _ => .none
theorem look {g : Int × Int → Rat} {r c : Int} : ∀ {Z : List (Int × Int)}, (∃ rest, ((Z.map (nzD g)).filter (cAt r c)).map third = qd (g (r, c)) :: rest) ∨ ((r, c) ∉ Z ∧ ((Z.map (nzD g)).filter (cAt r c)).map third = [])
  | [] => .inr ⟨fun h => (by cases h), rfl⟩
  | k :: Z => by
    have ih := look (g := g) (r := r) (c := c) (Z := Z)
    rw [List.map_cons, List.filter_cons]
    have e : cAt r c (nzD g k) = (decide (k.1 = r) && decide (k.2 = c)) := rfl
    rw [e]
    by_cases h : k.1 = r ∧ k.2 = c
    · obtain ⟨rfl, rfl⟩ := h
      rw [if_pos (by simp)]
      exact .inl ⟨_, rfl⟩
    · rw [if_neg (by simpa using h)]
      rcases ih with ih | ⟨h1, h2⟩
      · exact .inl ih
      · refine .inr ⟨fun z => ?_, h2⟩
        rcases List.mem_cons.mp z with z | z
        · exact h ⟨by rw [← z], by rw [← z]⟩
        · exact h1 z
theorem look_at {ps : List (List Pt)} {r c : Int} : ∃ rest, (((cel ps).map (nzD (gsK ps))).filter (cAt r c)).map third ++ [.int 0] = qd (gs ps r c) :: rest := by
  rcases look (g := gsK ps) (r := r) (c := c) (Z := cel ps) with ⟨rest, h⟩ | ⟨h1, h2⟩
  · rw [h]
    exact ⟨_, rfl⟩
  · rw [h2]
    have : gsK ps (r, c) = 0 := Classical.not_not.mp fun z => h1 (mem_cel.mpr z)
    have e : gs ps r c = 0 := this
    rw [e]
    exact ⟨[], rfl⟩
end K84

set_option Elab.async false
set_option linter.all false
set_option maxRecDepth 100000
set_option pp.deepTerms false
set_option pp.deepTerms.threshold 6
set_option maxHeartbeats 4000000
namespace K84
open PySem PySem.Spec PyProof.Rows L2 DS
open G84 (Pt G cyc cross lastP lastD ps)
open K77 (Bd)
-- the steps that need no thought: one, as many as there are
local macro_rules | `(tactic| walk_at "d1") => `(tactic| with_reducible first
  | refine ws_seq ?_ | refine ws_next ?_ | refine ws_retN ?_ | refine ws_ret ?_ | refine ws_if ?_ | refine ws_par ?_ | refine ws_par3 ?_ | refine ws_setK ?_ | refine ws_newD ?_ | refine wp_cons ?_ | refine wp_nil ?_ | refine ws_newDK ?_ | refine ws_newDT ?_ | refine ws_set ?_ | refine ws_star ?_ | refine ws_setO rfl ?_ | apply ws_asg
  | refine we_var rfl ?_ | refine we_int ?_ | refine we_bl ?_ | refine we_str ?_ | refine we_non ?_ | refine we_kd ?_ | refine we_ixO rfl ?_
  | refine we_isi isg_int ?_ | refine we_isi isg_bool ?_ | refine we_isi isg_str ?_ | refine we_isi isg_list ?_ | refine we_isi isg_tuple ?_ | refine we_isi2 isg_list isg_tuple ?_ | refine we_isi2 isg_int isg_tuple ?_
  | refine we_inK ?_ | refine we_ixK ?_ | refine we_op ?_ | refine we_un ?_ | refine we_cb ?_ | refine we_tup ?_ | refine we_lst ?_ | refine we_andV ?_ | refine we_orV ?_ | refine we_notV ?_ | refine we_if ?_ | refine we_chain ?_ | refine we_sl ?_ | refine we_call ?_ | refine we_callD ?_ | refine we_rev ?_
  | refine wa_nil ?_ | refine wa_cons ?_ | refine wo_none ?_ | refine wo_some ?_ | refine wt_test ?_ | refine wt_B ?_ | refine wt_and ?_ | refine wt_or ?_ | refine wt_not ?_
  | refine wg_tup rfl ?_ | refine wgs_cons ?_ | refine wgs_nil ?_ | refine wg_name ?_
  | refine ⟨_, r2_int, ?_⟩ | refine ⟨_, r2_bl, ?_⟩ | refine ⟨_, r2_addI, ?_⟩ | refine ⟨_, r2_eqI, ?_⟩ | refine ⟨_, r2_neI, ?_⟩ | refine ⟨_, r2_eqS, ?_⟩ | refine ⟨_, r2_neS, ?_⟩ | refine ⟨_, r2_isN, ?_⟩ | refine ⟨_, r1_neg, ?_⟩
  | refine ⟨_, rc_absI, ?_⟩ | refine ⟨_, rc_intI, ?_⟩ | refine ⟨_, rc_intB, ?_⟩ | refine ⟨_, rc_max, ?_⟩ | refine ⟨_, rc_min, ?_⟩ | refine ⟨_, rc_lenL, ?_⟩ | refine ⟨_, rc_lenT, ?_⟩ | refine ⟨_, rc_listL, ?_⟩ | refine ⟨_, rc_listT, ?_⟩ | refine ⟨_, rc_tupL, ?_⟩ | refine ⟨_, rc_tupT, ?_⟩
  | refine ⟨_, rfl, ?_⟩ | refine ⟨_, _, rfl, ?_⟩ | refine ⟨_, ⟨_, rfl, rfl⟩, ?_⟩ | refine ⟨_, ⟨_, _, rfl, rfl⟩, ?_⟩)
local macro_rules | `(tactic| walk_at "d") => `(tactic| repeat (first | walk_at "d1" | refine ⟨lenOk rfl, ?_⟩ | refine ⟨0, _, _, _, rfl, rfl, rfl, ?_⟩ | refine ⟨_, r2_ixXL rfl, ?_⟩ | refine ⟨_, r2_ixXT rfl, ?_⟩ | refine ⟨_, r2_ixXT at0, ?_⟩ | refine ⟨_, r2_ixXT at1, ?_⟩ | refine ⟨_, r2_ixXL at0, ?_⟩ | refine ⟨_, r2_ixXL at1, ?_⟩))
-- a condition whose truth comes out by computation
local macro_rules | `(tactic| walk_at "b1") => `(tactic| first
  | refine ⟨fun _ => ?_, fun h => Bool.noConfusion (show true = false from h)⟩
  | refine ⟨fun h => Bool.noConfusion (show false = true from h), fun _ => ?_⟩)
local macro_rules | `(tactic| walk_at "db") => `(tactic| repeat (first | walk_at "d1" | refine ⟨lenOk rfl, ?_⟩ | refine ⟨0, _, _, _, rfl, rfl, rfl, ?_⟩ | refine ⟨_, r2_ixXL rfl, ?_⟩ | refine ⟨_, r2_ixXT rfl, ?_⟩ | refine ⟨_, r2_ixXT at0, ?_⟩ | refine ⟨_, r2_ixXT at1, ?_⟩ | refine ⟨_, r2_ixXL at0, ?_⟩ | refine ⟨_, r2_ixXL at1, ?_⟩ | walk_at "b1"))
-- how many arguments there are
local macro_rules | `(tactic| walk_at "len") => `(tactic| (intro _ _ h; first
  | (obtain ⟨_, e, _⟩ := h; subst e; rfl) | (obtain ⟨_, _, e, _⟩ := h; subst e; rfl) | (obtain ⟨_, _, _, e, _⟩ := h; subst e; rfl) | (obtain ⟨_, _, _, _, e, _⟩ := h; subst e; rfl) | (obtain ⟨_, _, _, _, _, e, _⟩ := h; subst e; rfl)))
local macro_rules | `(tactic| walk_at "leno") => `(tactic| (intro _ _ h; first
  | (obtain ⟨⟨_, e, _⟩, _⟩ := h; subst e; rfl) | (obtain ⟨⟨_, _, e, _⟩, _⟩ := h; subst e; rfl) | (obtain ⟨e, _⟩ := h; subst e; rfl) | (obtain ⟨_, e, _⟩ := h; subst e; rfl) | (obtain ⟨_, _, e, _⟩ := h; subst e; rfl) | (obtain ⟨_, _, _, e, _⟩ := h; subst e; rfl) | (obtain ⟨_, _, _, _, e, _⟩ := h; subst e; rfl)))
-- the same, but no new local
local macro_rules | `(tactic| walk_at "dn1") => `(tactic| with_reducible first
  | refine ws_seq ?_ | refine ws_next ?_ | refine ws_retN ?_ | refine ws_ret ?_ | refine ws_if ?_ | refine ws_par ?_ | refine ws_par3 ?_ | refine ws_setK ?_ | refine ws_newD ?_ | refine wp_cons ?_ | refine wp_nil ?_ | refine ws_newDK ?_ | refine ws_newDT ?_ | refine ws_star ?_ | refine ws_setO rfl ?_
  | refine we_var rfl ?_ | refine we_int ?_ | refine we_bl ?_ | refine we_str ?_ | refine we_non ?_ | refine we_kd ?_ | refine we_ixO rfl ?_
  | refine we_isi isg_int ?_ | refine we_isi isg_bool ?_ | refine we_isi isg_str ?_ | refine we_isi isg_list ?_ | refine we_isi isg_tuple ?_ | refine we_isi2 isg_list isg_tuple ?_ | refine we_isi2 isg_int isg_tuple ?_
  | refine we_inK ?_ | refine we_ixK ?_ | refine we_op ?_ | refine we_un ?_ | refine we_cb ?_ | refine we_tup ?_ | refine we_lst ?_ | refine we_andV ?_ | refine we_orV ?_ | refine we_notV ?_ | refine we_if ?_ | refine we_chain ?_ | refine we_sl ?_ | refine we_call ?_ | refine we_callD ?_ | refine we_rev ?_
  | refine wa_nil ?_ | refine wa_cons ?_ | refine wo_none ?_ | refine wo_some ?_ | refine wt_test ?_ | refine wt_B ?_ | refine wt_and ?_ | refine wt_or ?_ | refine wt_not ?_
  | refine wg_tup rfl ?_ | refine wgs_cons ?_ | refine wgs_nil ?_ | refine wg_name ?_
  | refine ⟨_, r2_int, ?_⟩ | refine ⟨_, r2_bl, ?_⟩ | refine ⟨_, r2_addI, ?_⟩ | refine ⟨_, r2_eqI, ?_⟩ | refine ⟨_, r2_neI, ?_⟩ | refine ⟨_, r2_eqS, ?_⟩ | refine ⟨_, r2_neS, ?_⟩ | refine ⟨_, r2_isN, ?_⟩ | refine ⟨_, r1_neg, ?_⟩
  | refine ⟨_, rc_absI, ?_⟩ | refine ⟨_, rc_intI, ?_⟩ | refine ⟨_, rc_intB, ?_⟩ | refine ⟨_, rc_max, ?_⟩ | refine ⟨_, rc_min, ?_⟩ | refine ⟨_, rc_lenL, ?_⟩ | refine ⟨_, rc_lenT, ?_⟩ | refine ⟨_, rc_listL, ?_⟩ | refine ⟨_, rc_listT, ?_⟩ | refine ⟨_, rc_tupL, ?_⟩ | refine ⟨_, rc_tupT, ?_⟩
  | refine ⟨_, rfl, ?_⟩ | refine ⟨_, _, rfl, ?_⟩ | refine ⟨_, ⟨_, rfl, rfl⟩, ?_⟩ | refine ⟨_, ⟨_, _, rfl, rfl⟩, ?_⟩)
local macro_rules | `(tactic| walk_at "dn") => `(tactic| repeat (first | walk_at "dn1" | refine ⟨lenOk rfl, ?_⟩ | refine ⟨0, _, _, _, rfl, rfl, rfl, ?_⟩ | refine ⟨_, r2_ixXL rfl, ?_⟩ | refine ⟨_, r2_ixXT rfl, ?_⟩ | refine ⟨_, r2_ixXT at0, ?_⟩ | refine ⟨_, r2_ixXT at1, ?_⟩ | refine ⟨_, r2_ixXL at0, ?_⟩ | refine ⟨_, r2_ixXL at1, ?_⟩))

variable {P : Program} {w : World} {K : PySem.W.Frag} {mg : Str → Option Value} {base : Heap}
theorem cut_two {ds : List PyData} : DS.cutD ds none (some 2) = ds.take 2 := by
  unfold DS.cutD
  rw [show (some (2 : Int)) = some ((2 : Nat) : Int) from rfl, HT.sIx_nat, HT.sIx_none, Nat.sub_zero, List.drop_zero]
  by_cases h : 2 ≤ ds.length
  · rw [Nat.min_eq_left h]
  · rw [Nat.min_eq_right (by omega), List.take_of_length_le (Nat.le_refl _), List.take_of_length_le (by omega)]
def swD (k : Int × Int) : PyData := .tuple [.int k.2, .int k.1]
/-! ### the law -/
--%%SPECIAL {('rec', 'law', '_law_same'): '(c_L_same (P := P) (w := w) (K := K) (mg := mg) (base := base) T 6)'}
abbrev R_law (ds : List PyData) (d : PyData) : Prop := ∃ ns : List Int, ds = [.list (ns.map .int)] ∧ d = .bool true
theorem ok_law (T : Top K w mg) : ∀ f fd, FunD K "law" "law" (defArgs s_law) (defBody s_law) (defScope s_law) [] [] f fd → mg "law" = some (.ref f) → FnOk P w K mg base CXN 11 f fd p_law (spP K R_law) :=
  fun f fd F m => fn_pure F sc_law (by walk_at "len") fun cdv A outer s H E hr => ⟨_, (pss_cons (ps_for PassesOwn.never rfl (pi_range1 (by rfl) T.m_range (pa_cons (pe_callB (call_max' rfl) (by rfl) T.m_max (by decide +kernel) (pa_cons pe_int (pa_cons (pe_callB (call_min' rfl) (by rfl) T.m_min (by decide +kernel) (pa_cons pe_int (pa_cons (pe_callB (call_lenXK (K := K) rfl) (by rfl) T.m_len (by decide +kernel) (pa_cons (pv 0) pa_nil)) pa_nil))) pa_nil))) pa_nil)) (pg_name (i := 1) sc_law.nd rfl (.inl rfl))
    (pss_cons (ps_set (i := 2) sc_law.nd rfl (.inr rfl) (pe_cal (c_L_box (P := P) (w := w) (K := K) (mg := mg) (base := base) T) (hr.mono (by omega)) (by rfl) (pa_cons (pe_cal (c_L_cell (P := P) (w := w) (K := K) (mg := mg) (base := base) T) (hr.mono (by omega)) (by rfl) (pa_cons (pv 0) (pa_cons (pv 1) pa_nil))) pa_nil)))
    (pss_cons (ps_setLc (i := 3) (own := [("k", 1)]) (g := gName 1) rfl sc_law.nd rfl rfl (sw_true rfl rfl rfl (by decide +kernel)) (pi_range1 (by rfl) T.m_range (pa_cons (pe_op (op_addXK (K := K) rfl) pe_int (pe_cal (c_L_take (P := P) (w := w) (K := K) (mg := mg) (base := base) T) (hr.mono (by omega)) (by rfl) (pa_cons (pv 2) (pa_cons pe_int pa_nil)))) pa_nil))
      (blkOk_by (own := [("k", 1)]) (N := N_law) (sc := defScope s_law) (by decide +kernel)) (fun _ _ _ _ _ => pg_name (i := 1) sc_law.nd rfl (Or.inl rfl))
      (fun _ _ _ _ _ => pts_nil) (fun _ _ _ _ _ => (pe_cal (c_L_polygon (P := P) (w := w) (K := K) (mg := mg) (base := base) T) (hr.mono (by omega)) (by rfl) (pa_cons (pv 2) pa_nil))))
    (pss_cons (ps_setLc (i := 4) (own := [("part", 8)]) (g := gName 8) rfl sc_law.nd rfl rfl (sw_true rfl rfl rfl (by decide +kernel)) (pi_XK (K := K) rfl (pv 3))
      (blkOk_by (own := [("part", 8)]) (N := N_law) (sc := defScope s_law) (by decide +kernel)) (fun _ _ _ _ _ => pg_name (i := 8) sc_law.nd rfl (Or.inl rfl))
      (fun _ _ _ _ _ => pts_nil) (fun _ _ _ _ _ => (pe_cal (c_L_greys (P := P) (w := w) (K := K) (mg := mg) (base := base) T) (hr.mono (by omega)) (by rfl) (pa_cons (pv 8) pa_nil))))
    (pss_cons (ps_set (i := 5) sc_law.nd rfl (.inl rfl) (pe_cal (c_L_added (P := P) (w := w) (K := K) (mg := mg) (base := base) T) (hr.mono (by omega)) (by rfl) (pa_cons (pv 4) pa_nil)))
    (pss_cons (ps_setLc (i := 6) (own := [("part", 8)]) (g := gName 8) rfl sc_law.nd rfl rfl (sw_true rfl rfl rfl (by decide +kernel)) (pi_XK (K := K) rfl (pv 3))
      (blkOk_by (own := [("part", 8)]) (N := N_law) (sc := defScope s_law) (by decide +kernel)) (fun _ _ _ _ _ => pg_name (i := 8) sc_law.nd rfl (Or.inl rfl))
      (fun _ _ _ _ _ => pts_nil) (fun _ _ _ _ _ => (pe_cal (c_L_told (P := P) (w := w) (K := K) (mg := mg) (base := base) T) (hr.mono (by omega)) (by rfl) (pa_cons (pv 8) pa_nil))))
    (pss_cons (ps_if (PW.pt (pw_or (pt_not (pt_val (pe_cal (c_L_same (P := P) (w := w) (K := K) (mg := mg) (base := base) T 6) (hr.mono (by omega)) (by rfl) (pa_cons (pe_cal (c_greys (P := P) (w := w) (K := K) (mg := mg) (base := base) T) (hr.mono (by omega)) (by rfl) (pa_cons (pv 6) pa_nil)) (pa_cons (pv 5) pa_nil))))) (pw_or1 (pt_not (pt_val (pe_cal (c_L_same (P := P) (w := w) (K := K) (mg := mg) (base := base) T 6) (hr.mono (by omega)) (by rfl) (pa_cons (pv 6) (pa_cons (pe_lc (own := [("part", 8)]) (g := gName 8) rfl sc_law.nd  (pi_XK (K := K) rfl (pv 3))
      (blkOk_by (own := [("part", 8)]) (N := N_law) (sc := defScope s_law) (by decide +kernel)) (fun _ _ _ _ _ => pg_name (i := 8) sc_law.nd rfl (Or.inl rfl))
      (fun _ _ _ _ _ => pts_nil) (fun _ _ _ _ _ => (pe_cal (c_L_told (P := P) (w := w) (K := K) (mg := mg) (base := base) T) (hr.mono (by omega)) (by rfl) (pa_cons (pv 8) pa_nil)))) pa_nil)))))))) (pss_one (ps_ret pe_bl)) pss_nil)
    (pss_cons (ps_set (i := 7) sc_law.nd rfl (.inl rfl) (pe_tup (pa_cons pe_int (pa_cons pe_int pa_nil))))
    (pss_cons (ps_for PassesOwn.never rfl (pi_XK (K := K) rfl (pv 3)) (pg_name (i := 8) sc_law.nd rfl (.inl rfl))
    (pss_one (ps_set (i := 7) sc_law.nd rfl (.inl rfl) (pe_cal (c_L_plus (P := P) (w := w) (K := K) (mg := mg) (base := base) T) (hr.mono (by omega)) (by rfl) (pa_cons (pv 7) (pa_cons (pe_cal (c_L_land (P := P) (w := w) (K := K) (mg := mg) (base := base) T) (hr.mono (by omega)) (by rfl) (pa_cons (pv 8) pa_nil)) pa_nil))))))
    (pss_cons (ps_set (i := 9) sc_law.nd rfl (.inl rfl) (pe_tup (pa_cons pe_int (pa_cons pe_int pa_nil))))
    (pss_cons (ps_for PassesOwn.never rfl (pi_XK (K := K) rfl (pv 5)) (pg_tupK (K := K) (n := 3) rfl (by rfl) (pgs_cons (pg_name (i := 10) sc_law.nd rfl (.inr rfl)) (pgs_cons (pg_name (i := 11) sc_law.nd rfl (.inr rfl)) (pgs_cons (pg_name (i := 12) sc_law.nd rfl (.inl rfl)) pgs_nil))))
    (pss_one (ps_set (i := 9) sc_law.nd rfl (.inl rfl) (pe_cal (c_L_plus (P := P) (w := w) (K := K) (mg := mg) (base := base) T) (hr.mono (by omega)) (by rfl) (pa_cons (pv 9) (pa_cons (pe_cal (c_L_pair (P := P) (w := w) (K := K) (mg := mg) (base := base) T) (hr.mono (by omega)) (by rfl) (pa_cons (pv 12) pa_nil)) pa_nil))))))
    (pss_cons (ps_if (PW.pt (pw_or (pt_cmpR (op_neXK (K := K) rfl hr.units) (pv 9) (pv 7) (nomark _)) (pw_or1 (pt_not (pt_val (pe_cal (c_L_same (P := P) (w := w) (K := K) (mg := mg) (base := base) T 6) (hr.mono (by omega)) (by rfl) (pa_cons (pe_cal (c_grey_total (P := P) (w := w) (K := K) (mg := mg) (base := base) T) (hr.mono (by omega)) (by rfl) (pa_cons (pv 6) pa_nil)) (pa_cons (pe_cal (c_L_num (P := P) (w := w) (K := K) (mg := mg) (base := base) T) (hr.mono (by omega)) (by rfl) (pa_cons (pv 7) pa_nil)) pa_nil)))))))) (pss_one (ps_ret pe_bl)) pss_nil)
    (pss_cons (ps_set (i := 13) sc_law.nd rfl (.inl rfl) (pe_op (op_addXK (K := K) rfl) (pe_lst (pa_cons (pe_tup (pa_cons (pe_op op_sub (pe_cal (c_L_take (P := P) (w := w) (K := K) (mg := mg) (base := base) T) (hr.mono (by omega)) (by rfl) (pa_cons (pv 2) (pa_cons pe_int pa_nil))) pe_int) (pa_cons (pe_op op_sub (pe_cal (c_L_take (P := P) (w := w) (K := K) (mg := mg) (base := base) T) (hr.mono (by omega)) (by rfl) (pa_cons (pv 2) (pa_cons pe_int pa_nil))) pe_int) pa_nil))) (pa_cons (pe_tup (pa_cons pe_int (pa_cons pe_int pa_nil))) (pa_cons (pe_tup (pa_cons pe_int (pa_cons (pe_un un_neg pe_int) pa_nil))) pa_nil)))) (pe_lc (own := [("row", 10), ("column", 11), ("grey", 12)]) (g := gTup K 3 (gCons (gName 10) (gCons (gName 11) (gCons (gName 12) gNil)))) rfl sc_law.nd  (pi_XK (K := K) rfl (pe_slice (sl_XK (K := K) rfl) (pv 5) po_none (po_some pe_int)))
      (blkOk_by (own := [("row", 10), ("column", 11), ("grey", 12)]) (N := N_law) (sc := defScope s_law) (by decide +kernel)) (fun _ _ _ _ _ => pg_tupK (K := K) (n := 3) rfl (by rfl) (pgs_cons (pg_name (i := 10) sc_law.nd rfl (Or.inl rfl)) (pgs_cons (pg_name (i := 11) sc_law.nd rfl (Or.inl rfl)) (pgs_cons (pg_name (i := 12) sc_law.nd rfl (Or.inl rfl)) pgs_nil))))
      (fun _ _ _ _ _ => pts_nil) (fun _ _ _ _ _ => (pe_tup (pa_cons (pv 11) (pa_cons (pv 10) pa_nil)))))))
    (pss_cons (ps_for PassesOwn.never rfl (pi_XK (K := K) rfl (pv 13)) (pg_tupK (K := K) (n := 2) rfl (by rfl) (pgs_cons (pg_name (i := 11) sc_law.nd rfl (.inr rfl)) (pgs_cons (pg_name (i := 10) sc_law.nd rfl (.inr rfl)) pgs_nil)))
    (pss_cons (ps_set (i := 12) sc_law.nd rfl (.inl rfl) (pe_ix (ix_XK (K := K) rfl) (pe_op (op_addXK (K := K) rfl) (pe_lc (own := [("one", 14)]) (g := gName 14) rfl sc_law.nd  (pi_XK (K := K) rfl (pv 5))
      (blkOk_by (own := [("one", 14)]) (N := N_law) (sc := defScope s_law) (by decide +kernel)) (fun _ _ _ _ _ => pg_name (i := 14) sc_law.nd rfl (Or.inl rfl))
      (fun _ _ _ _ _ => (pts_one (PW.pt (pw_and (pt_cmpR (op_eqXK (K := K) rfl hr.units) (pe_ix (ix_XK (K := K) rfl) (pv 14) pe_int (fun _ _ => rfl)) (pv 10) (nomark _)) (pw_and1 (pt_cmpR (op_eqXK (K := K) rfl hr.units) (pe_ix (ix_XK (K := K) rfl) (pv 14) pe_int (fun _ _ => rfl)) (pv 11) (nomark _))))))) (fun _ _ _ _ _ => (pe_ix (ix_XK (K := K) rfl) (pv 14) pe_int (fun _ _ => rfl)))) (pe_lst (pa_cons pe_int pa_nil))) pe_int (fun _ _ => rfl)))
    (pss_one (ps_if (pt_not (pt_val (pe_cal (c_L_same (P := P) (w := w) (K := K) (mg := mg) (base := base) T 6) (hr.mono (by omega)) (by rfl) (pa_cons (pe_cal (c_grey_of (P := P) (w := w) (K := K) (mg := mg) (base := base) T) (hr.mono (by omega)) (by rfl) (pa_cons (pv 6) (pa_cons (pv 11) (pa_cons (pv 10) pa_nil)))) (pa_cons (pv 12) pa_nil))))) (pss_one (ps_ret pe_bl)) pss_nil))))
    (pss_one (ps_if (pt_not (pt_val (pe_cal (c_L_turned_right (P := P) (w := w) (K := K) (mg := mg) (base := base) T) (hr.mono (by omega)) (by rfl) (pa_cons (pv 2) (pa_cons (pv 3) (pa_cons (pv 5) pa_nil)))))) (pss_one (ps_ret pe_bl)) pss_nil))))))))))))))))
    (pss_one (ps_ret pe_bl))), fun ds d hR => by
    obtain ⟨ns, rfl, rfl⟩ := hR
    walk_at "d"
    refine ws_for (wi_rng1 ?_)
    walk_at "d"
    rw [List.length_map]
    obtain ⟨j, hj, hj6⟩ : ∃ j : Nat, (if (if (ns.length : Int) < 3 then (ns.length : Int) else 3) > 2 then (if (ns.length : Int) < 3 then (ns.length : Int) else 3) else 2) = (j : Int) ∧ j ≤ 3 := by
      refine ⟨(if (if (ns.length : Int) < 3 then (ns.length : Int) else 3) > 2 then (if (ns.length : Int) < 3 then (ns.length : Int) else 3) else 2).toNat, ?_, ?_⟩ <;> (split <;> split at * <;> omega)
    rw [hj, Int.toNat_natCast]
    refine ⟨by omega, by omega, fun _ ρ β => ∃ s1 s2 s3 s4 s5 s6 s7 s8 s9 s10 s11 s12 s13 : Slot, ρ = [.dat (.list (ns.map .int)), s1, s2, s3, s4, s5, s6, s7, s8, s9, s10, s11, s12, s13, .no] ∧ β = [],
      ⟨.no, .no, .no, .no, .no, .no, .no, .no, .no, .no, .no, .no, .no, rfl, rfl⟩, ?_, ?_⟩
    · rintro k d ρ' β' hd ⟨s1, s2, s3, s4, s5, s6, s7, s8, s9, s10, s11, s12, s13, rfl, rfl⟩
      obtain ⟨hk, rfl⟩ := rngD_get hd
      rw [Int.zero_add]
      refine wg_name ?_
      refine ws_end ?_
      refine ws_seq (ws_newC ?_)
      walk_at "d"
      refine ⟨_, ⟨ns, k, rfl, by omega, rfl⟩, ?_⟩
      walk_at "d"
      intro b _
      have hB : Bx 0 (boxOf (cellOf ns k)) := box_bx
      generalize boxOf (cellOf ns k) = bx at hB
      refine ws_seq (ws_set ?_)
      refine we_lc (tg := [1]) (by decide) (wi_rng1 ?_)
      walk_at "d"
      refine we_take rfl hB (by omega) ?_
      walk_at "d"
      refine ⟨by decide, rfl, fun t bx ht hB => ?_⟩
      have ht : t < 3 := ht
      walk_at "d"
      rw [show ((1 : Int) + (t : Int)).toNat = 1 + t by omega]
      refine ⟨by omega, by omega, fun i acc β => ∃ (pp : List (List Pt)) (bx : List PyData), acc = pp.map plP ∧ pp.length = i ∧ (∀ l ∈ pp, Lg l) ∧ Bx (1 + 30 * i) bx ∧ β = [(b, .lst bx)], ⟨[], bx, rfl, rfl, (fun _ h => by cases h), hB.mono (by omega), rfl⟩, ?_, by rw [rngD_len]; exact line10 (by omega), ?_⟩
      · rintro i d acc β' hd ⟨pp, bx, rfl, hp, ho, hB, rfl⟩ _
        obtain ⟨hi, rfl⟩ := rngD_get hd
        refine wgc_name ?_
        refine wt_yes ⟨fun _ => ?_, fun z => nomatch z⟩
        refine we_box rfl ?_
        walk_at "d"
        refine ⟨_, _, _, rfl, hB, by omega, rfl, fun d1 bx hw hB => ?_⟩
        obtain ⟨l, rfl, hl⟩ := hw
        refine ⟨pp ++ [l], bx, by rw [List.map_append]; rfl, by simp [hp], fun x hx => ?_, hB.mono (by omega), rfl⟩
        rcases List.mem_append.mp hx with hx | hx
        · exact ho x hx
        · simp at hx; subst hx; exact hl
      rintro acc β' ⟨pp, bx, rfl, hp, hl, hB, rfl⟩ _
      rw [rngD_len] at hp hB
      have hB : Bx 91 bx := hB.mono (by omega)
      have hn : 1 ≤ pp.length ∧ pp.length ≤ 3 := by omega
      have hos := os_lg hn hl
      have hcl := cel_len hos
      -- tables
      refine ws_seq (ws_set ?_)
      refine we_lc_ix (tg := [8]) (by decide) (wi_X (we_var rfl ⟨_, .inl rfl, pp.map tbD, line10 (by rw [List.length_map]; omega), by simp, ?_, ?_⟩))
      · intro j d y hd hy
        obtain ⟨l, e2, rfl⟩ := get_map hd
        rw [List.getElem?_map, e2] at hy
        cases hy
        refine wgc_name ?_
        walk_at "d"
        exact ⟨_, ⟨l, rfl, hl l (List.mem_of_getElem? e2), rfl⟩, rfl, rfl⟩
      refine ws_seq (ws_set ?_)
      walk_at "d"
      refine ⟨_, ⟨pp, rfl, hl, hn.2, rfl⟩, ?_⟩
      rw [canP_cel]
      -- handed
      refine ws_seq (ws_set ?_)
      refine we_lc_ix (tg := [8]) (by decide) (wi_X (we_var rfl ⟨_, .inl rfl, pp.map plD, line10 (by rw [List.length_map]; omega), by simp, ?_, ?_⟩))
      · intro j d y hd hy
        obtain ⟨l, e2, rfl⟩ := get_map hd
        rw [List.getElem?_map, e2] at hy
        cases hy
        have := (hl l (List.mem_of_getElem? e2)).n
        refine wgc_name ?_
        walk_at "d"
        exact ⟨_, ⟨l, rfl, by omega, rfl⟩, rfl, rfl⟩
      walk_at "d"
      refine ⟨.list ((cel pp).map (nzD (gsK pp))), ⟨pp, _, rfl, .l, hos.gok, by rw [← canP_cel]; rfl⟩, ?_⟩
      walk_at "d"
      refine ⟨_, ⟨3, _, rfl, by decide, nc_cells hcl fun _ => nc_cell, rfl⟩, ?_⟩
      walk_at "db"
      refine we_lc_ix (tg := [8]) (by decide) (wi_X (we_var rfl ⟨_, .inl rfl, pp.map plD, line10 (by rw [List.length_map]; omega), by simp, ?_, ?_⟩))
      · intro j d y hd hy
        obtain ⟨l, e2, rfl⟩ := get_map hd
        rw [List.getElem?_map, e2] at hy
        cases hy
        have := (hl l (List.mem_of_getElem? e2)).n
        refine wgc_name ?_
        walk_at "d"
        exact ⟨_, ⟨l, rfl, by omega, rfl⟩, rfl, rfl⟩
      walk_at "d"
      refine ⟨_, ⟨4, _, rfl, by decide, nc_polys (by omega) (fun l h => by have := (hl l h).n; omega), rfl⟩, ?_⟩
      walk_at "db"
      rw [qp_zero]
      -- the land
      refine ws_for (wi_X ?_)
      refine we_var rfl ?_
      refine ⟨_, .inl rfl, fun i ρ β => ∃ s8 : Slot, ρ = [.dat (.list (ns.map .int)), .dat (.int k), .raw (.ref b), .dat (.list (pp.map plP)), .dat (.list (pp.map tbD)), .dat (.list ((cel pp).map (nzD (gsK pp)))), .dat (.list (pp.map plD)), .dat (qp ((pp.take i).foldl (fun a l => a + lnd l) 0)), s8, s9, s10, s11, s12, s13, .no] ∧ β = [(b, .lst bx)], ⟨_, rfl, rfl⟩, ?_, ?_⟩
      · rintro i d ρ' β' hd ⟨s8', rfl, rfl⟩
        obtain ⟨l, e1, rfl⟩ := get_map hd
        have hlg := hl l (List.mem_of_getElem? e1)
        have hi := (List.getElem?_eq_some_iff.mp e1).1
        have hst : (pp.take (i + 1)).foldl (fun a l => a + lnd l) 0 = (pp.take i).foldl (fun a l => a + lnd l) 0 + lnd l := by
          rw [List.take_add_one, e1, List.foldl_append]; rfl
        have f1 := tot_fq (ps := pp) (fun l hl2 => ⟨(hl l hl2).pq, by have := (hl l hl2).n; omega⟩) i (by omega)
        have f2 := lnd_fq hlg.pq (by have := hlg.n; omega)
        generalize (pp.take i).foldl (fun a l => a + lnd l) 0 = acc at *
        refine wg_name ?_
        walk_at "d"
        refine ⟨_, ⟨l, rfl, hlg, rfl⟩, ?_⟩
        walk_at "d"
        refine ⟨_, ⟨_, _, rfl, (f1.mono (n' := 4000) (m' := 4000) (by omega) (by omega)).sq (by decide) (by decide), f2.sq (by decide) (by decide), rfl⟩, ?_⟩
        refine ⟨.dat (plP l), ?_, rfl⟩
        rw [hst]
        rfl
      rintro ρ' β' ⟨s8', rfl, rfl⟩
      rw [List.length_map, List.take_length, show pp.foldl (fun a l => a + lnd l) 0 = tot pp from rfl]
      walk_at "d"
      rw [qp_zero]
      -- the sums
      refine ws_for (wi_X ?_)
      refine we_var rfl ?_
      refine ⟨_, .inl rfl, fun i ρ β => ∃ s10 s11 s12 : Slot, ρ = [.dat (.list (ns.map .int)), .dat (.int k), .raw (.ref b), .dat (.list (pp.map plP)), .dat (.list (pp.map tbD)), .dat (.list ((cel pp).map (nzD (gsK pp)))), .dat (.list (pp.map plD)), .dat (qp (tot pp)), s8', .dat (qp (sumL (gsK pp) ((cel pp).take i))), s10, s11, s12, s13, .no] ∧ β = [(b, .lst bx)], ⟨_, _, _, rfl, rfl⟩, ?_, ?_⟩
      · rintro i d ρ' β' hd ⟨s10', s11', s12', rfl, rfl⟩
        obtain ⟨c, e1, rfl⟩ := get_map hd
        have hsm : ∀ c ∈ cel pp, c.1.natAbs ≤ 3000 ∧ c.2.natAbs ≤ 3000 := fun c hc => by have := cel_small hos hc; omega
        have hi := (List.getElem?_eq_some_iff.mp e1).1
        have hc := hsm c (List.mem_of_getElem? e1)
        have hst : sumL (gsK pp) ((cel pp).take (i + 1)) = sumL (gsK pp) ((cel pp).take i) + gsK pp c := by
          rw [List.take_add_one, e1, sumL_app]
          show _ + (gsK pp c + 0) = _
          grind
        have f1 := sum_fq hn.2 hl (Z := (cel pp).take i) (fun c hc => hsm c (List.mem_of_mem_take hc)) (by rw [List.length_take]; omega)
        have f2 := gsK_fq hl hn.2 (k := c) (by omega) _ (Nat.le_refl _)
        rw [List.take_length] at f2
        generalize sumL (gsK pp) ((cel pp).take i) = acc at *
        refine wg_tup rfl (wgs_cons (wg_name (wgs_cons (wg_name (wgs_cons (wg_name (wgs_nil ?_)))))))
        walk_at "d"
        refine ⟨_, ⟨_, _, rfl, f1.sq (by decide) (by decide), f2.sq (by decide) (by decide), rfl⟩, ?_⟩
        refine ⟨.dat (.int c.1), .dat (.int c.2), .dat (qd (gsK pp c)), ?_, rfl⟩
        rw [hst]
        rfl
      rintro ρ' β' ⟨s10', s11', s12', rfl, rfl⟩
      rw [List.length_map, List.take_length, all_land]
      walk_at "d"
      refine ⟨_, r2_neD (shaped_qp _) (shaped_qp _), ?_⟩
      rw [eqv_qp, decide_eq_true rfl]
      walk_at "db"
      refine ⟨_, ⟨pp, _, rfl, .l, hos.gof, rfl⟩, ?_⟩
      walk_at "d"
      refine ⟨_, ⟨1, _, rfl, by decide, nc_qd, rfl⟩, ?_⟩
      walk_at "db"
      -- the cells
      refine we_take rfl hB (by omega) ?_
      walk_at "d"
      refine ⟨by decide, rfl, fun t5 bx ht5 hB => ?_⟩
      have ht5 : t5 < 7 := ht5
      walk_at "d"
      refine we_take rfl hB (by omega) ?_
      walk_at "d"
      refine ⟨by decide, rfl, fun t6 bx ht6 hB => ?_⟩
      have ht6 : t6 < 7 := ht6
      walk_at "d"
      have hB : Bx 93 bx := hB
      refine we_lc_ix (tg := [10] ++ ([11] ++ ([12] ++ []))) (by decide) (wi_X ?_)
      walk_at "d"
      refine ⟨_, rs_XL (ds := (cel pp).map (nzD (gsK pp))), ?_⟩
      rw [cut_two, ← List.map_take]
      refine ⟨_, .inl rfl, ((cel pp).take 2).map swD, line10 (by rw [List.length_map, List.length_take]; omega), by simp, ?_, ?_⟩
      · intro j d y hd hy
        obtain ⟨c, e2, rfl⟩ := get_map hd
        rw [List.getElem?_map, e2] at hy
        cases hy
        refine wgc_tup (tg := [10] ++ ([11] ++ ([12] ++ []))) rfl (wgcs_cons (wgc_name (wgcs_cons (wgc_name (wgcs_cons (wgc_name (wgcs_nil ?_)))))))
        walk_at "d"
        exact ⟨rfl, rfl⟩
      refine ⟨_, r2_addL (line10 (by rw [List.length_map, List.length_take]; simp; omega)), ?_⟩
      have hcs : ∀ d ∈ ([.tuple [.int ((t5 : Int) - 3), .int ((t6 : Int) - 3)], .tuple [.int 99, .int 1], .tuple [.int 0, .int (-50)]] : List PyData) ++ ((cel pp).take 2).map swD, ∃ c r : Int, d = .tuple [.int c, .int r] ∧ c.natAbs ≤ 5000 ∧ r.natAbs ≤ 5000 := fun d hd => by
        rcases List.mem_append.mp hd with hd | hd
        · simp at hd
          rcases hd with rfl | rfl | rfl <;> exact ⟨_, _, rfl, by omega, by omega⟩
        · obtain ⟨c, hc, rfl⟩ := List.mem_map.mp hd
          have := cel_small hos (List.mem_of_mem_take hc)
          exact ⟨_, _, rfl, by omega, by omega⟩
      generalize ([.tuple [.int ((t5 : Int) - 3), .int ((t6 : Int) - 3)], .tuple [.int 99, .int 1], .tuple [.int 0, .int (-50)]] : List PyData) ++ ((cel pp).take 2).map swD = cs at *
      walk_at "d"
      refine ws_for (wi_X ?_)
      refine we_var rfl ?_
      refine ⟨_, .inl rfl, fun i ρ β => ∃ s10 s11 s12 : Slot, ρ = [.dat (.list (ns.map .int)), .dat (.int k), .raw (.ref b), .dat (.list (pp.map plP)), .dat (.list (pp.map tbD)), .dat (.list ((cel pp).map (nzD (gsK pp)))), .dat (.list (pp.map plD)), .dat (qp (tot pp)), s8', .dat (qp (tot pp)), s10, s11, s12, .dat (.list cs), .no] ∧ β = [(b, .lst bx)], ⟨_, _, _, rfl, rfl⟩, ?_, ?_⟩
      · rintro i d ρ' β' hd ⟨s10, s11, s12, rfl, rfl⟩
        obtain ⟨c, r, rfl, hc, hr5⟩ := hcs d (List.mem_of_getElem? hd)
        refine wg_tup rfl (wgs_cons (wg_name (wgs_cons (wg_name (wgs_nil ?_)))))
        refine ws_seq (ws_set ?_)
        refine we_op ?_
        refine we_op ?_
        refine we_lc_if (tg := [14]) (cAt r c) third (by decide) (wi_X (we_var rfl ⟨_, .inl rfl, line10 (by rw [List.length_map]; omega), ?_, ?_⟩))
        · intro d hd
          obtain ⟨z, hz, rfl⟩ := List.mem_map.mp hd
          refine wgc_name ?_
          have e : cAt r c (nzD (gsK pp) z) = (decide (z.1 = r) && decide (z.2 = c)) := rfl
          walk_at "d"
          refine ⟨fun h => ?_, fun h => ?_⟩
          · walk_at "d"
            refine ⟨by rw [e, h, Bool.true_and], rfl, fun _ => ?_⟩
            walk_at "d"
            exact ⟨rfl, rfl⟩
          · exact ⟨by rw [e, h]; rfl, rfl, fun z => nomatch z⟩
        walk_at "d"
        refine ⟨_, r2_addL (line10 (by rw [List.length_map]; have := List.length_filter_le (cAt r c) ((cel pp).map (nzD (gsK pp))); rw [List.length_map] at this; simp; omega)), ?_⟩
        obtain ⟨rest, er⟩ := look_at (ps := pp) (r := r) (c := c)
        rw [er]
        walk_at "d"
        refine ⟨_, ⟨pp, _, c, r, rfl, .l, hos.gof, hc, hr5, rfl⟩, ?_⟩
        walk_at "d"
        refine ⟨_, ⟨1, _, rfl, by decide, nc_qd, rfl⟩, ?_⟩
        walk_at "db"
        exact ⟨_, _, _, rfl, rfl⟩
      rintro ρ' β' ⟨s10, s11, s12, rfl, rfl⟩
      walk_at "d"
      refine we_box rfl ?_
      walk_at "d"
      refine ⟨_, _, _, rfl, hB, by decide, ⟨pp, by rw [canP_cel], hn, hl⟩, fun d1 bx hw hB => ?_⟩
      obtain rfl := hw
      repeat (first | refine ⟨_, rfl, ?_⟩ | refine ⟨_, r2_bl, ?_⟩)
      walk_at "b1"
      refine ws_frz (i := 2) (j := 0) rfl rfl (by simp) ?_
      walk_at "d"
      exact ⟨_, _, _, _, _, _, _, _, _, _, _, _, _, rfl, rfl⟩
    · rintro ρ' β' ⟨s1, s2, s3, s4, s5, s6, s7, s8, s9, s10, s11, s12, s13, rfl, rfl⟩
      walk_at "d"
      rfl⟩
end K84

set_option Elab.async false
set_option linter.all false
set_option maxRecDepth 100000
set_option maxHeartbeats 0
namespace K84
open PySem PySem.Spec PyProof.Rows L2 DS
section
variable {w : World} {K : PySem.W.Frag} {mg : Str → Option Value} {h : Heap}
theorem kc_int (X : K.In h) (G : h.Ns mainGlobals mg) {x : Str} {i : Int} (c : (He.Fa.int x i).ok K = true) : KC K mg x (.int i) := by
  obtain ⟨t, e⟩ := He.int_ok X G c
  exact ⟨.int i, _, e, ⟨t, rfl⟩, fun _ => .int _⟩
theorem has_of (X : K.In h) (G : h.Ns mainGlobals mg) {x : Str} {st : Stmt} {kws : List (Str × V)} (c : (He.Fa.glo x).ok K = true) (d : ∃ fd, FunD K x x (defArgs st) (defBody st) (defScope st) [] kws (He.ga K x) fd) : Has K mg x st kws := by
  obtain ⟨fd, F⟩ := d
  exact ⟨_, fd, F, He.glo_ok X G c⟩
theorem top_of (X : K.In h) (G : h.Ns mainGlobals mg) (c : He.SaysX fa fn ts [] ex w h K) : Top K w mg := by
  have d := c.t.d
  exact {
    h_is_plain := has_of X G (d.fact 0 (f := .glo "is_plain") rfl) (d.def_ 0 (d := e_is_plain) rfl)
    h_common_part := has_of X G (d.fact 1 (f := .glo "common_part") rfl) (d.def_ 1 (d := e_common_part) rfl)
    h_is_part := has_of X G (d.fact 2 (f := .glo "is_part") rfl) (d.def_ 2 (d := e_is_part) rfl)
    h_is_number := has_of X G (d.fact 3 (f := .glo "is_number") rfl) (d.def_ 3 (d := e_is_number) rfl)
    h_reckoned := has_of X G (d.fact 4 (f := .glo "reckoned") rfl) (d.def_ 4 (d := e_reckoned) rfl)
    h_pair_of := has_of X G (d.fact 5 (f := .glo "pair_of") rfl) (d.def_ 5 (d := e_pair_of) rfl)
    h_plus := has_of X G (d.fact 6 (f := .glo "plus") rfl) (d.def_ 6 (d := e_plus) rfl)
    h_minus := has_of X G (d.fact 7 (f := .glo "minus") rfl) (d.def_ 7 (d := e_minus) rfl)
    h_times := has_of X G (d.fact 8 (f := .glo "times") rfl) (d.def_ 8 (d := e_times) rfl)
    h_over := has_of X G (d.fact 9 (f := .glo "over") rfl) (d.def_ 9 (d := e_over) rfl)
    h_less := has_of X G (d.fact 10 (f := .glo "less") rfl) (d.def_ 10 (d := e_less) rfl)
    h_floor_of := has_of X G (d.fact 11 (f := .glo "floor_of") rfl) (d.def_ 11 (d := e_floor_of) rfl)
    h_is_list := has_of X G (d.fact 12 (f := .glo "is_list") rfl) (d.def_ 12 (d := e_is_list) rfl)
    h_need_parts := has_of X G (d.fact 13 (f := .glo "need_parts") rfl) (d.def_ 13 (d := e_need_parts) rfl)
    h_is_kept := has_of X G (d.fact 14 (f := .glo "is_kept") rfl) (d.def_ 14 (d := e_is_kept) rfl)
    h_place_on := has_of X G (d.fact 15 (f := .glo "place_on") rfl) (d.def_ 15 (d := e_place_on) rfl)
    h_cut_off := has_of X G (d.fact 16 (f := .glo "cut_off") rfl) (d.def_ 16 (d := e_cut_off) rfl)
    h_between_lines := has_of X G (d.fact 17 (f := .glo "between_lines") rfl) (d.def_ 17 (d := e_between_lines) rfl)
    h_share_of := has_of X G (d.fact 18 (f := .glo "share_of") rfl) (d.def_ 18 (d := e_share_of) rfl)
    h_cell_range := has_of X G (d.fact 19 (f := .glo "cell_range") rfl) (d.def_ 19 (d := e_cell_range) rfl)
    h_box_of := has_of X G (d.fact 20 (f := .glo "box_of") rfl) (d.def_ 20 (d := e_box_of) rfl)
    h_need_box := has_of X G (d.fact 21 (f := .glo "need_box") rfl) (d.def_ 21 (d := e_need_box) rfl)
    h_row_shares := has_of X G (d.fact 22 (f := .glo "row_shares") rfl) (d.def_ 22 (d := e_row_shares) rfl)
    h_greys := has_of X G (d.fact 23 (f := .glo "greys") rfl) (d.def_ 23 (d := e_greys) rfl)
    h_grey_of := has_of X G (d.fact 24 (f := .glo "grey_of") rfl) (d.def_ 24 (d := e_grey_of) rfl)
    h_grey_total := has_of X G (d.fact 25 (f := .glo "grey_total") rfl) (d.def_ 25 (d := e_grey_total) rfl)
    h_L_cell := has_of X G (d.fact 26 (f := .glo "_law_cell") rfl) (d.def_ 26 (d := e_L_cell) rfl)
    h_L_box := has_of X G (d.fact 27 (f := .glo "_law_box") rfl) (d.def_ 27 (d := e_L_box) rfl)
    h_L_take := has_of X G (d.fact 28 (f := .glo "_law_take") rfl) (d.def_ 28 (d := e_L_take) rfl)
    h_L_same := has_of X G (d.fact 29 (f := .glo "_law_same") rfl) (d.def_ 29 (d := e_L_same) rfl)
    h_L_low := has_of X G (d.fact 30 (f := .glo "_law_low") rfl) (d.def_ 30 (d := e_L_low) rfl)
    h_L_pair := has_of X G (d.fact 31 (f := .glo "_law_pair") rfl) (d.def_ 31 (d := e_L_pair) rfl)
    h_L_num := has_of X G (d.fact 32 (f := .glo "_law_num") rfl) (d.def_ 32 (d := e_L_num) rfl)
    h_L_plus := has_of X G (d.fact 33 (f := .glo "_law_plus") rfl) (d.def_ 33 (d := e_L_plus) rfl)
    h_L_minus := has_of X G (d.fact 34 (f := .glo "_law_minus") rfl) (d.def_ 34 (d := e_L_minus) rfl)
    h_L_times := has_of X G (d.fact 35 (f := .glo "_law_times") rfl) (d.def_ 35 (d := e_L_times) rfl)
    h_L_over := has_of X G (d.fact 36 (f := .glo "_law_over") rfl) (d.def_ 36 (d := e_L_over) rfl)
    h_L_less := has_of X G (d.fact 37 (f := .glo "_law_less") rfl) (d.def_ 37 (d := e_L_less) rfl)
    h_L_row_part := has_of X G (d.fact 38 (f := .glo "_law_row_part") rfl) (d.def_ 38 (d := e_L_row_part) rfl)
    h_L_under := has_of X G (d.fact 39 (f := .glo "_law_under") rfl) (d.def_ 39 (d := e_L_under) rfl)
    h_L_cell_range := has_of X G (d.fact 40 (f := .glo "_law_cell_range") rfl) (d.def_ 40 (d := e_L_cell_range) rfl)
    h_L_greys := has_of X G (d.fact 41 (f := .glo "_law_greys") rfl) (d.def_ 41 (d := e_L_greys) rfl)
    h_L_added := has_of X G (d.fact 42 (f := .glo "_law_added") rfl) (d.def_ 42 (d := e_L_added) rfl)
    h_L_place := has_of X G (d.fact 43 (f := .glo "_law_place") rfl) (d.def_ 43 (d := e_L_place) rfl)
    h_L_polygon := has_of X G (d.fact 44 (f := .glo "_law_polygon") rfl) (d.def_ 44 (d := e_L_polygon) rfl)
    h_L_told := has_of X G (d.fact 45 (f := .glo "_law_told") rfl) (d.def_ 45 (d := e_L_told) rfl)
    h_L_land := has_of X G (d.fact 46 (f := .glo "_law_land") rfl) (d.def_ 46 (d := e_L_land) rfl)
    h_L_turned_right := has_of X G (d.fact 47 (f := .glo "_law_turned_right") rfl) (d.def_ 47 (d := e_L_turned_right) rfl)
    h_law := has_of X G (d.fact 48 (f := .glo "law") rfl) (d.def_ 48 (d := e_law) rfl)
    m_len := He.free_ok X G (d.fact 49 (f := .free "len") rfl)
    m_abs := He.free_ok X G (d.fact 50 (f := .free "abs") rfl)
    m_max := He.free_ok X G (d.fact 51 (f := .free "max") rfl)
    m_min := He.free_ok X G (d.fact 52 (f := .free "min") rfl)
    m_all := He.free_ok X G (d.fact 53 (f := .free "all") rfl)
    m_int := He.free_ok X G (d.fact 54 (f := .free "int") rfl)
    m_bool := He.free_ok X G (d.fact 55 (f := .free "bool") rfl)
    m_str := He.free_ok X G (d.fact 56 (f := .free "str") rfl)
    m_list := He.free_ok X G (d.fact 57 (f := .free "list") rfl)
    m_tuple := He.free_ok X G (d.fact 58 (f := .free "tuple") rfl)
    m_isinstance := He.free_ok X G (d.fact 59 (f := .free "isinstance") rfl)
    m_range := He.free_ok X G (d.fact 60 (f := .free "range") rfl)
    m_enumerate := He.free_ok X G (d.fact 61 (f := .free "enumerate") rfl)
    m_zip := He.free_ok X G (d.fact 62 (f := .free "zip") rfl)
    m_sorted := He.free_ok X G (d.fact 63 (f := .free "sorted") rfl)
    k_CELL := kc_int X G (d.fact 64 (f := .int "CELL" 64) rfl)
    k_MOST_POLYGONS := kc_int X G (d.fact 65 (f := .int "MOST_POLYGONS" 4) rfl)
    k_MOST_PLACES := kc_int X G (d.fact 66 (f := .int "MOST_PLACES" 100) rfl)
    k_MOST_CELLS := kc_int X G (d.fact 67 (f := .int "MOST_CELLS" 2000) rfl)
    k_TWICE := kc_int X G (d.fact 68 (f := .int "TWICE" 8192) rfl) }
theorem no_list (c : He.SaysX fa fn ts [] ex w h K) {a : Addr} {ob : Obj} (e : K.lookup a = some ob) : ob.cls ≠ .type "list" := fun z => by
  have h1 : ex K = true := c.more
  have h2 := List.all_eq_true.mp h1 _ (He.lookup_mem e)
  have h3 : (match ob.cls with
    | .type c => !decide (c = "list")
    | _ => true) = true := h2
  rw [z] at h3
  exact absurd h3 (by decide)
end
end K84

set_option Elab.async false
set_option linter.all false
set_option maxRecDepth 100000
set_option maxHeartbeats 0
namespace K84
open PySem PySem.Spec PyProof.Rows L2 DS
theorem ints_dp {K : PySem.W.Frag} {G : Hp} : ∀ ns : List Int, DS.DpAll K G (ns.map V.int) (ns.map PyData.int)
  | [] => .nil
  | x :: ns => .cons (.int x) (ints_dp ns)
theorem law_sp {w : World} {K : PySem.W.Frag} {h : Heap} (c : He.SaysX fa fn ts [] ex w h K) (H : Hp) (a : Addr) (ns : List Int) (hS : SqL K H a (ns.map V.int)) : spP K R_law [.ref a] H (fun v _ => v = .bl true) fun _ _ _ => False := by
  have hR : Rd H a (.lst (ns.map V.int)) := by
    rcases hS with h | ⟨o, its, n, hk, hc, _⟩
    · exact h
    · exact absurd hc (no_list c hk)
  have hO : Off [] H = H := by
    funext b
    exact off_out (by simp)
  refine ⟨[], [.list (ns.map .int)], .bool true, (fun _ h => by cases h), ?_, ⟨ns, rfl, rfl⟩, fun v H' _ hv => dp_bool hv⟩
  rw [hO]
  exact .cons (.lst hR (ints_dp ns)) .nil
end K84
open PySem PySem.W PySem.Calls PyProof.Rows
theorem PySem.Challenge.cw_hintscribe_k84_whole_greys_by_edges_holds : PySem.Challenge.rw_hintscribe_k84_whole_greys_by_edges.Holds := by
  w_on; o_law
  refine HandSHeadRun.head_any (r := OpenLaw.row PySem.Challenge.rw_hintscribe_k84_whole_greys_by_edges) (q := view (OpenLaw.row PySem.Challenge.rw_hintscribe_k84_whole_greys_by_edges).prog [65]) (H := K84.hk) (ob := K84.ob) (M := 6000) (loose := K84.loose) (d := HandSHeadRun.topDef (OpenLaw.row PySem.Challenge.rw_hintscribe_k84_whole_greys_by_edges).prog 65) (kwd := []) K84.ob_eq
    (by kernel_rfl) (fun s => by kernel_rfl) K84.run (by kernel_rfl) (by kernel_rfl) (by kernel_rfl) (by rfl) (by first | assumption | decide +kernel) (by decide +kernel) ⟨rfl, rfl, rfl, rfl, rfl, by decide +kernel⟩ ?hw ?hc
  case hw => w_witness2
  case hc =>
    refine L2.walk_ofE (l := PySem.Challenge.rw_hintscribe_k84_whole_greys_by_edges) (n := 63) (k := 11) (x := "script") (CX := DS.CXN) rfl (by decide) (by kernel_rfl) ⟨rfl, by decide, by decide⟩ ?F (fun _ _ _ _ z => z)
    intro w mg fa h Y G hmg0
    obtain ⟨K, KX, c⟩ := Y
    have hmg : mg ("law" : PySem.Str) = some (.ref fa) := by
      have e : (HandSHeadRun.topDef (OpenLaw.row PySem.Challenge.rw_hintscribe_k84_whole_greys_by_edges).prog 65).name = ("law" : PySem.Str) := by kernel_rfl
      rw [← e]
      exact hmg0
    have T := K84.top_of KX G c
    obtain ⟨f, fd, F, m⟩ := T.h_law.ex
    have e := hmg.symm.trans m
    cases e
    have b := L2.FunD.bindsA (ps := ["script"]) F fun _ _ _ _ _ _ us hl => match us, hl with | [_], _ => rfl
    exact ⟨K, fd, DS.spP K K84.R_law, KX, fun s v => b s [v] rfl, fun H a ns _ _ hS => K84.law_sp c H a ns hS, fun base _ _ => K84.ok_law T _ fd F m⟩
