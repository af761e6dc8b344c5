import PyProof.Rows.All
import Wide.All
import OpenK.AllK
import Wide.FinOn
import PyProof.NoPylong
import PyProof.Fits
import HandS.Base
import HandS.Call
import HandS.List
import HandS.Comp
import HandS.Ends
import HandS.Dict
import HandS.Iter
import HandS.Text
import HandS.Exc
import HandS.Flow
import HandS.Style
import HandS.IsInst
import HandS.Deep
import HandS.Wide
import HandS.Defaults
import HandS.CallLocal
import HandS.WrittenGet
import HandS.Words
import HandS.WordsList
import HandS.WordsDict
import KE.DataEq
import KE.KUnpackStar
import HandS.More
import PySem.Challenge.RW_hintscribe_k77_formulas_and_their_number
import KE.KStateDown
import Lean
import HandS.Head0
import HandS.Head1
import HandS.Head2
import HandS.HeadEnd
import HandS.HeadHook1
import HandS.HeadHook2
import HandS.HeadHook3
import HandS.HeadHook4
import PySem.PyData
import HandS.Small
set_option Elab.async false
set_option linter.all false
set_option maxRecDepth 100000
set_option maxHeartbeats 4000000
/-! DS: the readings of the hand layer, told over data: slots hold data, the heap is hidden; a few lists may be owned and changed. -/
namespace DS
open PySem PySem.Spec PyProof.Rows L2

/-- the owned lists: where, and what they hold -/
inductive Oc where
  | lst (ds : List PyData)
  | dct (kvs : List (Key × PyData))
abbrev Bt := List (Addr × Oc)
inductive Slot where
  | no
  | dat (d : PyData)
  | raw (v : V)

def Off (os : List Addr) (H : Hp) : Hp := fun a => if a ∈ os then none else H a
theorem off_in {os : List Addr} {H : Hp} {a : Addr} (h : a ∈ os) : Off os H a = none := by unfold Off; rw [if_pos h]
theorem off_out {os : List Addr} {H : Hp} {a : Addr} (h : a ∉ os) : Off os H a = H a := by unfold Off; rw [if_neg h]
theorem off_le (os : List Addr) (H : Hp) : Same (Off os H) H := fun a o e => by
  by_cases h : a ∈ os
  · rw [off_in h] at e; cases e
  · rw [off_out h] at e; exact e
theorem off_some {os : List Addr} {H : Hp} {a : Addr} {o : HO} (e : Off os H a = some o) : a ∉ os ∧ H a = some o := by
  by_cases h : a ∈ os
  · rw [off_in h] at e; cases e
  · rw [off_out h] at e; exact ⟨h, e⟩
theorem off_same {os : List Addr} {H H' : Hp} (h : Same H H') : Same (Off os H) (Off os H') := fun a o e => by
  obtain ⟨h1, h2⟩ := off_some e
  rw [off_out h1]
  exact h a o h2
theorem off_sub {os os' : List Addr} {H : Hp} (h : ∀ a ∈ os, a ∈ os') : Same (Off os' H) (Off os H) := fun a o e => by
  obtain ⟨h1, h2⟩ := off_some e
  rw [off_out fun z => h1 (h a z)]
  exact h2
theorem off_upd {os : List Addr} {H : Hp} {p : Addr} {o : HO} (hp : p ∉ os) : Off os (upd H p o) p = some o := by
  rw [off_out hp, upd_same]
theorem same_new {H : Hp} {p : Addr} {o : HO} (h : H p = none) : Same H (upd H p o) := fun b u q => by
  rw [upd_ne (ne_of_none q h)]
  exact q
theorem same_seqT {K : PySem.W.Frag} {H H' : Hp} {a : Addr} {xs : List V} (e : Same H H') (h : SqT K H a xs) : SqT K H' a xs := by
  rcases h with (h | ⟨o, h⟩) | h
  · exact .inl (.inl (e _ _ h))
  · exact .inl (.inr ⟨o, e _ _ h⟩)
  · exact .inr h

/-! ### data: as the layer's, but a list is never of the written part -/
mutual
inductive Dp (K : PySem.W.Frag) (H : Hp) : V → PyData → Prop
  | non : Dp K H .non .none
  | bl (b : Bool) : Dp K H (.bl b) (.bool b)
  | int (i : Int) : Dp K H (.int i) (.int i)
  | str (x : Str) : Dp K H (.str x) (.str x)
  | lst {a : Addr} {xs : List V} {ds : List PyData} : Rd H a (.lst xs) → DpAll K H xs ds → Dp K H (.ref a) (.list ds)
  | tup {a : Addr} {xs : List V} {ds : List PyData} : SqT K H a xs → DpAll K H xs ds → Dp K H (.ref a) (.tuple ds)
inductive DpAll (K : PySem.W.Frag) (H : Hp) : List V → List PyData → Prop
  | nil : DpAll K H [] []
  | cons {v : V} {vs : List V} {d : PyData} {ds : List PyData} : Dp K H v d → DpAll K H vs ds → DpAll K H (v :: vs) (d :: ds)
end
section
variable {K : PySem.W.Frag} {H H' : Hp}
mutual
theorem dp_L2 : ∀ (d : PyData) (v : V), Dp K H v d → L2.Dp K H v d
  | .none, _, h => by cases h; exact .non
  | .bool b, _, h => by cases h; exact .bl b
  | .int i, _, h => by cases h; exact .int i
  | .str x, _, h => by cases h; exact .str x
  | .list ds, _, h => by
    cases h with
    | lst hs ha => exact .lst (.inl hs) (dpAll_L2 ds _ ha)
  | .tuple ds, _, h => by
    cases h with
    | tup hs ha => exact .tup hs (dpAll_L2 ds _ ha)
  | .dict _, _, h => by cases h
theorem dpAll_L2 : ∀ (ds : List PyData) (vs : List V), DpAll K H vs ds → L2.DpAll K H vs ds
  | [], _, h => by cases h; exact .nil
  | d :: ds, _, h => by
    cases h with
    | cons h1 h2 => exact .cons (dp_L2 d _ h1) (dpAll_L2 ds _ h2)
end
theorem rd_mono (e : Same H H') {a : Addr} {u : HO} (h : Rd H a u) : Rd H' a u := by
  rcases h with h | ⟨o, h⟩
  · exact .inl (e _ _ h)
  · exact .inr ⟨o, e _ _ h⟩
mutual
theorem dp_mono (e : Same H H') : ∀ (d : PyData) (v : V), Dp K H v d → Dp K H' v d
  | .none, _, h => by cases h; exact .non
  | .bool b, _, h => by cases h; exact .bl b
  | .int i, _, h => by cases h; exact .int i
  | .str x, _, h => by cases h; exact .str x
  | .list ds, _, h => by
    cases h with
    | lst hs ha => exact .lst (rd_mono e hs) (dpAll_mono e ds _ ha)
  | .tuple ds, _, h => by
    cases h with
    | tup hs ha => exact .tup (same_seqT e hs) (dpAll_mono e ds _ ha)
  | .dict _, _, h => by cases h
theorem dpAll_mono (e : Same H H') : ∀ (ds : List PyData) (vs : List V), DpAll K H vs ds → DpAll K H' vs ds
  | [], _, h => by cases h; exact .nil
  | d :: ds, _, h => by
    cases h with
    | cons h1 h2 => exact .cons (dp_mono e d _ h1) (dpAll_mono e ds _ h2)
end
theorem dpAll_len : ∀ {vs : List V} {ds : List PyData}, DpAll K H vs ds → vs.length = ds.length
  | _, _, .nil => rfl
  | _, _, .cons _ t => by rw [List.length_cons, List.length_cons, dpAll_len t]
theorem dpAll_get : ∀ {vs : List V} {ds : List PyData} {i : Nat} {d : PyData}, DpAll K H vs ds → ds[i]? = some d → ∃ v, vs[i]? = some v ∧ Dp K H v d
  | _, _, _, _, .nil, e => by simp at e
  | _, _, 0, _, .cons r _, e => by simp at e; subst e; exact ⟨_, rfl, r⟩
  | _, _, i + 1, _, .cons _ t, e => by
    obtain ⟨u, h1, h2⟩ := dpAll_get (i := i) t (by simpa using e)
    exact ⟨u, by simpa using h1, h2⟩
theorem dpAll_get' : ∀ {vs : List V} {ds : List PyData} {i : Nat} {v : V}, DpAll K H vs ds → vs[i]? = some v → ∃ d, ds[i]? = some d ∧ Dp K H v d
  | _, _, _, _, .nil, e => by simp at e
  | _, _, 0, _, .cons r _, e => by simp at e; subst e; exact ⟨_, rfl, r⟩
  | _, _, i + 1, _, .cons _ t, e => by
    obtain ⟨u, h1, h2⟩ := dpAll_get' (i := i) t (by simpa using e)
    exact ⟨u, by simpa using h1, h2⟩
theorem dpAll_append : ∀ {vs ws : List V} {ds es : List PyData}, DpAll K H vs ds → DpAll K H ws es → DpAll K H (vs ++ ws) (ds ++ es)
  | _, _, _, _, .nil, s => s
  | _, _, _, _, .cons r t, s => .cons r (dpAll_append t s)
theorem dpAll_take : ∀ {vs : List V} {ds : List PyData} (n : Nat), DpAll K H vs ds → DpAll K H (vs.take n) (ds.take n)
  | _, _, 0, _ => .nil
  | _, _, _ + 1, .nil => .nil
  | _, _, n + 1, .cons r t => .cons r (dpAll_take n t)
theorem dpAll_drop : ∀ {vs : List V} {ds : List PyData} (n : Nat), DpAll K H vs ds → DpAll K H (vs.drop n) (ds.drop n)
  | _, _, 0, r => r
  | _, _, _ + 1, .nil => .nil
  | _, _, n + 1, .cons _ t => dpAll_drop n t
theorem dpAll_set {v : V} {d : PyData} (r : Dp K H v d) : ∀ {vs : List V} {ds : List PyData} (i : Nat), DpAll K H vs ds → DpAll K H (vs.set i v) (ds.set i d)
  | _, _, _, .nil => .nil
  | _, _, 0, .cons _ t => .cons r t
  | _, _, i + 1, .cons q t => .cons q (dpAll_set r i t)

def SlotR (K : PySem.W.Frag) (G : Hp) : Option V → Slot → Prop
  | _, .no => True
  | o, .dat d => ∃ v, o = some v ∧ Dp K G v d
  | o, .raw v => o = some v
def SlotsR (K : PySem.W.Frag) (G : Hp) : List (Option V) → List Slot → Prop
  | [], [] => True
  | o :: σ, s :: ρ => SlotR K G o s ∧ SlotsR K G σ ρ
  | _, _ => False
theorem slotR_mono (e : Same H H') {o : Option V} {s : Slot} (h : SlotR K H o s) : SlotR K H' o s := by
  cases s with
  | no => trivial
  | dat d => obtain ⟨v, h1, h2⟩ := h; exact ⟨v, h1, dp_mono e d v h2⟩
  | raw v => exact h
theorem slotsR_mono (e : Same H H') : ∀ {σ : List (Option V)} {ρ : List Slot}, SlotsR K H σ ρ → SlotsR K H' σ ρ
  | [], [], _ => trivial
  | _ :: _, _ :: _, h => ⟨slotR_mono e h.1, slotsR_mono e h.2⟩
  | [], _ :: _, h => h.elim
  | _ :: _, [], h => h.elim
theorem slotsR_len : ∀ {σ : List (Option V)} {ρ : List Slot}, SlotsR K H σ ρ → σ.length = ρ.length
  | [], [], _ => rfl
  | _ :: _, _ :: _, h => by rw [List.length_cons, List.length_cons, slotsR_len h.2]
  | [], _ :: _, h => h.elim
  | _ :: _, [], h => h.elim
theorem slotsR_get : ∀ {σ : List (Option V)} {ρ : List Slot} {i : Nat} {s : Slot}, SlotsR K H σ ρ → ρ[i]? = some s → ∃ o, σ[i]? = some o ∧ SlotR K H o s
  | [], [], _, _, _, e => by simp at e
  | _ :: _, _ :: _, 0, _, h, e => by simp at e; subst e; exact ⟨_, rfl, h.1⟩
  | _ :: _, _ :: _, i + 1, _, h, e => by
    obtain ⟨o, h1, h2⟩ := slotsR_get (i := i) h.2 (by simpa using e)
    exact ⟨o, by simpa using h1, h2⟩
  | [], _ :: _, _, _, h, _ => h.elim
  | _ :: _, [], _, _, h, _ => h.elim
theorem slotsR_set {o : Option V} {s : Slot} (r : SlotR K H o s) : ∀ {σ : List (Option V)} {ρ : List Slot} (i : Nat), SlotsR K H σ ρ → SlotsR K H (σ.set i o) (ρ.set i s)
  | [], [], _, h => h
  | _ :: _, _ :: _, 0, h => ⟨r, h.2⟩
  | _ :: _, _ :: _, i + 1, h => ⟨h.1, slotsR_set r i h.2⟩
  | [], _ :: _, _, h => h.elim
  | _ :: _, [], _, h => h.elim

def KvAll (K : PySem.W.Frag) (G : Hp) : List (Key × V) → List (Key × PyData) → Prop := Paired fun p q => p.1 = q.1 ∧ Dp K G p.2 q.2
def OcR (K : PySem.W.Frag) (G : Hp) : Oc → HO → Prop
  | .lst ds, o => ∃ vs, o = .lst vs ∧ DpAll K G vs ds
  | .dct kvs, o => ∃ kv, o = .dK kv ∧ KvAll K G kv kvs
theorem ocR_mono (e : Same H H') : ∀ {c : Oc} {o : HO}, OcR K H c o → OcR K H' c o
  | .lst ds, _, ⟨vs, h1, h2⟩ => ⟨vs, h1, dpAll_mono e _ _ h2⟩
  | .dct kvs, _, ⟨kv, h1, h2⟩ => ⟨kv, h1, Paired.mapP h2 fun _ _ h => ⟨h.1, dp_mono e _ _ h.2⟩⟩
abbrev dom (β : Bt) : List Addr := β.map (·.1)
def OwnR (K : PySem.W.Frag) (os : List Addr) (H : Hp) : Bt → Prop
  | [] => True
  | (a, c) :: β => a ∈ os ∧ (∃ o, H a = some o ∧ OcR K (Off os H) c o) ∧ OwnR K os H β
structure Hok (K : PySem.W.Frag) (os : List Addr) (H : Hp) (β : Bt) : Prop where
  trk : ∀ a ∈ os, H a ≠ none
  nd : (dom β).Nodup
  own : OwnR K os H β
/-- nothing but the owned lists is changed -/
def Keep (β : Bt) (H H' : Hp) : Prop := ∀ a o, a ∉ dom β → H a = some o → H' a = some o
theorem Keep.refl (β : Bt) (H : Hp) : Keep β H H := fun _ _ _ h => h
theorem Keep.same {β : Bt} (h : Same H H') : Keep β H H' := fun a o _ e => h a o e
theorem OwnR.mem {os : List Addr} : ∀ {β : Bt}, OwnR K os H β → ∀ a ∈ dom β, a ∈ os
  | [], _, a, h => by simp at h
  | (b, ds) :: β, h, a, ha => by
    rcases List.mem_cons.mp ha with e | e
    · rw [e]; exact h.1
    · exact OwnR.mem h.2.2 a e
theorem Hok.mem {os : List Addr} {β : Bt} (h : Hok K os H β) : ∀ a ∈ dom β, a ∈ os := h.own.mem
theorem off_keep {os : List Addr} {β : Bt} (m : ∀ a ∈ dom β, a ∈ os) (k : Keep β H H') : Same (Off os H) (Off os H') := fun a o e => by
  obtain ⟨h1, h2⟩ := off_some e
  rw [off_out h1]
  exact k a o (fun z => h1 (m a z)) h2
theorem OwnR.mono {os : List Addr} (e : Same H H') : ∀ {β : Bt}, OwnR K os H β → OwnR K os H' β
  | [], _ => trivial
  | (b, ds) :: β, h => by
    obtain ⟨h1, ⟨vs, h2, h3⟩, h4⟩ := h
    exact ⟨h1, ⟨vs, e _ _ h2, ocR_mono (off_same e) h3⟩, OwnR.mono e h4⟩
theorem Hok.mono {os : List Addr} {β : Bt} (e : Same H H') (h : Hok K os H β) : Hok K os H' β :=
  ⟨fun a ha z => (by
    cases q : H a with
    | none => exact h.trk a ha q
    | some o => rw [e a o q] at z; cases z), h.nd, h.own.mono e⟩
theorem Hok.no {os : List Addr} (h : ∀ a ∈ os, H a ≠ none) : Hok K os H [] := ⟨h, List.nodup_nil, trivial⟩
/-- an address whose tracked object stands is not new -/
theorem new_out {os : List Addr} {β : Bt} {p : Addr} (h : Hok K os H β) (hp : H p = none) : p ∉ os := fun z => h.trk p z hp
/-- what may be forgotten -/
theorem dp_off {os : List Addr} {v : V} {d : PyData} (h : Dp K (Off os H) v d) : Dp K H v d := dp_mono (off_le os H) d v h
theorem dpAll_off {os : List Addr} {vs : List V} {ds : List PyData} (h : DpAll K (Off os H) vs ds) : DpAll K H vs ds := dpAll_mono (off_le os H) ds vs h
end

/-! ### the judgements -/
def WE (K : PySem.W.Frag) (te : TE) (ρ : List Slot) (β : Bt) (P : PyData → Bt → Prop) : Prop := ∀ (os : List Addr) (H : Hp) (σ : L2.St) (Q : VK), Hok K os H β → SlotsR K (Off os H) σ ρ →
  (∀ v H2 d β2, P d β2 → dom β2 = dom β → Keep β H H2 → Hok K os H2 β2 → Dp K (Off os H2) v d → Q v H2) → te σ H Q
def WT (K : PySem.W.Frag) (tt : TT) (ρ : List Slot) (β : Bt) (P : Bool → Bt → Prop) : Prop := ∀ (os : List Addr) (H : Hp) (σ : L2.St) (Q : Bool → Hp → Prop), Hok K os H β → SlotsR K (Off os H) σ ρ →
  (∀ b H2 β2, P b β2 → dom β2 = dom β → Keep β H H2 → Hok K os H2 β2 → Q b H2) → tt σ H Q
def WA (K : PySem.W.Frag) (ta : TA) (ρ : List Slot) (β : Bt) (P : List PyData → Bt → Prop) : Prop := ∀ (os : List Addr) (H : Hp) (σ : L2.St) (Q : List V → Hp → Prop), Hok K os H β → SlotsR K (Off os H) σ ρ →
  (∀ vs H2 ds β2, P ds β2 → dom β2 = dom β → Keep β H H2 → Hok K os H2 β2 → DpAll K (Off os H2) vs ds → Q vs H2) → ta σ H Q
def WO (K : PySem.W.Frag) (to : TO) (ρ : List Slot) (β : Bt) (P : Option Int → Bt → Prop) : Prop := ∀ (os : List Addr) (H : Hp) (σ : L2.St) (Q : Option Int → Hp → Prop), Hok K os H β → SlotsR K (Off os H) σ ρ →
  (∀ o H2 β2, P o β2 → dom β2 = dom β → Keep β H H2 → Hok K os H2 β2 → Q o H2) → to σ H Q

section
variable {K : PySem.W.Frag} {ρ : List Slot} {β : Bt} {P : PyData → Bt → Prop}
theorem keep_trans {β1 : Bt} {H H1 H2 : Hp} (e : dom β1 = dom β) (a : Keep β H H1) (b : Keep β1 H1 H2) : Keep β H H2 := fun x o h1 h2 => b x o (by rw [e]; exact h1) (a x o h1 h2)
theorem WE.mono {te : TE} {P' : PyData → Bt → Prop} (h : WE K te ρ β P) (f : ∀ d β2, P d β2 → P' d β2) : WE K te ρ β P' := fun os H σ Q hk hs q => h os H σ Q hk hs fun v H2 d β2 p => q v H2 d β2 (f d β2 p)
theorem WT.mono {tt : TT} {P P' : Bool → Bt → Prop} (h : WT K tt ρ β P) (f : ∀ d β2, P d β2 → P' d β2) : WT K tt ρ β P' := fun os H σ Q hk hs q => h os H σ Q hk hs fun v H2 β2 p => q v H2 β2 (f v β2 p)
theorem slots_keep {os : List Addr} {H H2 : Hp} {σ : L2.St} (hk : Hok K os H β) (k : Keep β H H2) (h : SlotsR K (Off os H) σ ρ) : SlotsR K (Off os H2) σ ρ := slotsR_mono (off_keep hk.mem k) h
theorem dp_keep {os : List Addr} {H H2 : Hp} {v : V} {d : PyData} (hk : Hok K os H β) (k : Keep β H H2) (h : Dp K (Off os H) v d) : Dp K (Off os H2) v d := dp_mono (off_keep hk.mem k) d v h
theorem dpAll_keep {os : List Addr} {H H2 : Hp} {vs : List V} {ds : List PyData} (hk : Hok K os H β) (k : Keep β H H2) (h : DpAll K (Off os H) vs ds) : DpAll K (Off os H2) vs ds := dpAll_mono (off_keep hk.mem k) ds vs h

/-! ### expressions -/
theorem we_var {i : Nat} {d : PyData} (h : ρ[i]? = some (.dat d)) (p : P d β) : WE K (tVar i) ρ β P := fun os H σ Q hk hs q => by
  obtain ⟨o, e, v, rfl, hd⟩ := slotsR_get hs h
  exact ⟨v, e, q v H d β p rfl (Keep.refl _ _) hk hd⟩
theorem we_c {v : V} {d : PyData} (h : ∀ G : Hp, Dp K G v d) (p : P d β) : WE K (tC v) ρ β P := fun os H σ Q hk hs q => q v H d β p rfl (Keep.refl _ _) hk (h _)
theorem we_int {i : Int} (p : P (.int i) β) : WE K (tC (.int i)) ρ β P := we_c (fun _ => .int i) p
theorem we_bl {b : Bool} (p : P (.bool b) β) : WE K (tC (.bl b)) ρ β P := we_c (fun _ => .bl b) p
theorem we_non (p : P .none β) : WE K (tC .non) ρ β P := we_c (fun _ => .non) p
theorem we_str {x : Str} (p : P (.str x) β) : WE K (tC (.str x)) ρ β P := we_c (fun _ => .str x) p

/-- a two-place operation on data -/
def R2D (K : PySem.W.Frag) (r : R2) (x y z : PyData) : Prop := ∀ (os : List Addr) (H : Hp) (v u : V) (Q : VK), (∀ a ∈ os, H a ≠ none) → Dp K (Off os H) v x → Dp K (Off os H) u y → (∀ w H2, Same H H2 → Dp K (Off os H2) w z → Q w H2) → r v u H Q
def R1D (K : PySem.W.Frag) (r : V → Hp → VK → Prop) (x z : PyData) : Prop := ∀ (os : List Addr) (H : Hp) (v : V) (Q : VK), (∀ a ∈ os, H a ≠ none) → Dp K (Off os H) v x → (∀ w H2, Same H H2 → Dp K (Off os H2) w z → Q w H2) → r v H Q
/-- a built-in's call on data -/
def RCD (K : PySem.W.Frag) (r : List V → Hp → VK → Prop) (xs : List PyData) (z : PyData) : Prop := ∀ (os : List Addr) (H : Hp) (vs : List V) (Q : VK), (∀ a ∈ os, H a ≠ none) → DpAll K (Off os H) vs xs → (∀ w H2, Same H H2 → Dp K (Off os H2) w z → Q w H2) → r vs H Q
theorem we_op {r : R2} {ta tb : TE} (h : WE K ta ρ β fun x β1 => WE K tb ρ β1 fun y β2 => ∃ z, R2D K r x y z ∧ P z β2) : WE K (tOp r ta tb) ρ β P := fun os H σ Q hk hs q => by
  refine h os H σ _ hk hs fun v H1 x β1 h1 e1 k1 hk1 d1 => ?_
  refine h1 os H1 σ _ hk1 (slots_keep hk k1 hs) fun u H2 y β2 h2 e2 k2 hk2 d2 => ?_
  obtain ⟨z, hr, p⟩ := h2
  exact hr os H2 v u Q hk2.trk (dp_keep hk1 k2 d1) d2 fun w H3 s dw => q w H3 z β2 p (e2.trans e1) (keep_trans (e2.trans e1) (keep_trans e1 k1 k2) (Keep.same s)) (hk2.mono s) dw
theorem we_un {r : V → Hp → VK → Prop} {ta : TE} (h : WE K ta ρ β fun x β1 => ∃ z, R1D K r x z ∧ P z β1) : WE K (tUn r ta) ρ β P := fun os H σ Q hk hs q => by
  refine h os H σ _ hk hs fun v H1 x β1 h1 e1 k1 hk1 d1 => ?_
  obtain ⟨z, hr, p⟩ := h1
  exact hr os H1 v Q hk1.trk d1 fun w H3 s dw => q w H3 z β1 p e1 (keep_trans e1 k1 (Keep.same s)) (hk1.mono s) dw
theorem we_cb {r : List V → Hp → VK → Prop} {ta : TA} (h : WA K ta ρ β fun xs β1 => ∃ z, RCD K r xs z ∧ P z β1) : WE K (tCB r ta) ρ β P := fun os H σ Q hk hs q => by
  refine h os H σ _ hk hs fun v H1 x β1 h1 e1 k1 hk1 d1 => ?_
  obtain ⟨z, hr, p⟩ := h1
  exact hr os H1 v Q hk1.trk d1 fun w H3 s dw => q w H3 z β1 p e1 (keep_trans e1 k1 (Keep.same s)) (hk1.mono s) dw
theorem wa_nil {P : List PyData → Bt → Prop} (p : P [] β) : WA K tNil ρ β P := fun os H σ Q hk hs q => q [] H [] β p rfl (Keep.refl _ _) hk .nil
theorem wa_cons {te : TE} {tr : TA} {P : List PyData → Bt → Prop} (h : WE K te ρ β fun x β1 => WA K tr ρ β1 fun xs β2 => P (x :: xs) β2) : WA K (tCons te tr) ρ β P := fun os H σ Q hk hs q => by
  refine h os H σ _ hk hs fun v H1 x β1 h1 e1 k1 hk1 d1 => ?_
  refine h1 os H1 σ _ hk1 (slots_keep hk k1 hs) fun u H2 y β2 h2 e2 k2 hk2 d2 => ?_
  exact q _ H2 _ β2 h2 (e2.trans e1) (keep_trans e1 k1 k2) hk2 (.cons (dp_keep hk1 k2 d1) d2)
theorem we_tup {ta : TA} (h : WA K ta ρ β fun xs β1 => xs.length ≤ sizeLine ∧ P (.tuple xs) β1) : WE K (tTup ta) ρ β P := fun os H σ Q hk hs q => by
  refine h os H σ _ hk hs fun vs H1 xs β1 h1 e1 k1 hk1 d1 => ?_
  obtain ⟨hl, p⟩ := h1
  refine ⟨by rw [dpAll_len d1]; exact hl, fun a na => ?_⟩
  have s := same_new (o := .tup vs) na
  exact q _ _ _ β1 p e1 (keep_trans e1 k1 (Keep.same s)) (hk1.mono s) (.tup (.inl (.inl (off_upd (new_out hk1 na)))) (dpAll_mono (off_same s) _ _ d1))
theorem we_lst {ta : TA} (h : WA K ta ρ β fun xs β1 => xs.length ≤ sizeLine ∧ P (.list xs) β1) : WE K (tLst ta) ρ β P := fun os H σ Q hk hs q => by
  refine h os H σ _ hk hs fun vs H1 xs β1 h1 e1 k1 hk1 d1 => ?_
  obtain ⟨hl, p⟩ := h1
  refine ⟨by rw [dpAll_len d1]; exact hl, fun a na => ?_⟩
  have s := same_new (o := .lst vs) na
  exact q _ _ _ β1 p e1 (keep_trans e1 k1 (Keep.same s)) (hk1.mono s) (.lst (.inl (off_upd (new_out hk1 na))) (dpAll_mono (off_same s) _ _ d1))
theorem dp_bool {H : Hp} {v : V} {b : Bool} (h : Dp K H v (.bool b)) : v = .bl b := by cases h; rfl
theorem dp_int {H : Hp} {v : V} {b : Int} (h : Dp K H v (.int b)) : v = .int b := by cases h; rfl
theorem dp_str {H : Hp} {v : V} {b : Str} (h : Dp K H v (.str b)) : v = .str b := by cases h; rfl
theorem dp_non {H : Hp} {v : V} (h : Dp K H v .none) : v = .non := by cases h; rfl
theorem dp_tup {H : Hp} {v : V} {ds : List PyData} (h : Dp K H v (.tuple ds)) : ∃ a vs, v = .ref a ∧ SqT K H a vs ∧ DpAll K H vs ds := by cases h with | tup hs ha => exact ⟨_, _, rfl, hs, ha⟩
theorem dp_lst {H : Hp} {v : V} {ds : List PyData} (h : Dp K H v (.list ds)) : ∃ a vs, v = .ref a ∧ SqL K H a vs ∧ DpAll K H vs ds := by cases h with | lst hs ha => exact ⟨_, _, rfl, .inl hs, ha⟩
theorem dp_lstR {H : Hp} {v : V} {ds : List PyData} (h : Dp K H v (.list ds)) : ∃ a vs, v = .ref a ∧ Rd H a (.lst vs) ∧ DpAll K H vs ds := by cases h with | lst hs ha => exact ⟨_, _, rfl, hs, ha⟩
theorem we_andV {ta tb : TE} (h : WE K ta ρ β fun x β1 => ∃ c, x = .bool c ∧ (c = true → WE K tb ρ β1 P) ∧ (c = false → P (.bool false) β1)) : WE K (tAndV ta tb) ρ β P := fun os H σ Q hk hs q => by
  refine h os H σ _ hk hs fun v H1 x β1 h1 e1 k1 hk1 d1 => ?_
  obtain ⟨c, rfl, h2, h3⟩ := h1
  refine ⟨c, dp_bool d1, ?_⟩
  cases c with
  | true => exact iteT (h2 rfl os H1 σ Q hk1 (slots_keep hk k1 hs) fun w H2 d β2 p e2 k2 hk2 d2 => q w H2 d β2 p (e2.trans e1) (keep_trans e1 k1 k2) hk2 d2)
  | false => exact iteF (q _ H1 _ β1 (h3 rfl) e1 k1 hk1 (.bl false))
theorem we_orV {ta tb : TE} (h : WE K ta ρ β fun x β1 => ∃ c, x = .bool c ∧ (c = true → P (.bool true) β1) ∧ (c = false → WE K tb ρ β1 P)) : WE K (tOrV ta tb) ρ β P := fun os H σ Q hk hs q => by
  refine h os H σ _ hk hs fun v H1 x β1 h1 e1 k1 hk1 d1 => ?_
  obtain ⟨c, rfl, h2, h3⟩ := h1
  refine ⟨c, dp_bool d1, ?_⟩
  cases c with
  | true => exact iteT (q _ H1 _ β1 (h2 rfl) e1 k1 hk1 (.bl true))
  | false => exact iteF (h3 rfl os H1 σ Q hk1 (slots_keep hk k1 hs) fun w H2 d β2 p e2 k2 hk2 d2 => q w H2 d β2 p (e2.trans e1) (keep_trans e1 k1 k2) hk2 d2)
theorem we_notV {ta : TE} (h : WE K ta ρ β fun x β1 => ∃ c, x = .bool c ∧ P (.bool (!c)) β1) : WE K (tNotV ta) ρ β P := fun os H σ Q hk hs q => by
  refine h os H σ _ hk hs fun v H1 x β1 h1 e1 k1 hk1 d1 => ?_
  obtain ⟨c, rfl, p⟩ := h1
  exact ⟨c, dp_bool d1, q _ H1 _ β1 p e1 k1 hk1 (.bl _)⟩
theorem we_if {t : TT} {ta tb : TE} (h : WT K t ρ β fun c β1 => (c = true → WE K ta ρ β1 P) ∧ (c = false → WE K tb ρ β1 P)) : WE K (tIf t ta tb) ρ β P := fun os H σ Q hk hs q => by
  refine h os H σ _ hk hs fun c H1 β1 h1 e1 k1 hk1 => ?_
  cases c with
  | true => exact iteT (h1.1 rfl os H1 σ Q hk1 (slots_keep hk k1 hs) fun w H2 d β2 p e2 k2 hk2 d2 => q w H2 d β2 p (e2.trans e1) (keep_trans e1 k1 k2) hk2 d2)
  | false => exact iteF (h1.2 rfl os H1 σ Q hk1 (slots_keep hk k1 hs) fun w H2 d β2 p e2 k2 hk2 d2 => q w H2 d β2 p (e2.trans e1) (keep_trans e1 k1 k2) hk2 d2)
theorem we_chain {r r' : R2} {ta tb tc : TE} (h : WE K ta ρ β fun x β1 => WE K tb ρ β1 fun y β2 => ∃ c, R2D K r x y (.bool c) ∧ (c = true → WE K tc ρ β2 fun w β3 => ∃ z, R2D K r' y w z ∧ P z β3) ∧ (c = false → P (.bool false) β2)) :
    WE K (tChain r r' ta tb tc) ρ β P := fun os H σ Q hk hs q => by
  refine h os H σ _ hk hs fun v H1 x β1 h1 e1 k1 hk1 d1 => ?_
  refine h1 os H1 σ _ hk1 (slots_keep hk k1 hs) fun u H2 y β2 h2 e2 k2 hk2 d2 => ?_
  obtain ⟨c, hr, h3, h4⟩ := h2
  have k12 := keep_trans e1 k1 k2
  have e12 := e2.trans e1
  refine hr os H2 v u _ hk2.trk (dp_keep hk1 k2 d1) d2 fun w H3 s dw => ⟨c, dp_bool dw, ?_⟩
  have k13 := keep_trans e12 k12 (Keep.same s)
  cases c with
  | true =>
    refine iteT (h3 rfl os H3 σ _ (hk2.mono s) (slotsR_mono (off_same s) (slots_keep hk k12 hs)) fun w' H4 y' β4 h5 e4 k4 hk4 d4 => ?_)
    obtain ⟨z, hr', p⟩ := h5
    refine hr' os H4 u w' Q hk4.trk (dp_keep (hk2.mono s) k4 (dp_mono (off_same s) _ _ d2)) d4 fun w2 H5 s5 dw5 => q w2 H5 z β4 p (e4.trans e12) (keep_trans (e4.trans e12) (keep_trans e12 k13 k4) (Keep.same s5)) (hk4.mono s5) dw5
  | false => exact iteF (q _ H3 _ β2 (h4 rfl) e12 k13 (hk2.mono s) (.bl false))

/-! ### tests -/
theorem wt_test {te : TE} {P : Bool → Bt → Prop} (h : WE K te ρ β fun x β1 => ∃ c, x = .bool c ∧ P c β1) : WT K (tTest te) ρ β P := fun os H σ Q hk hs q => by
  refine h os H σ _ hk hs fun v H1 x β1 h1 e1 k1 hk1 d1 => ?_
  obtain ⟨c, rfl, p⟩ := h1
  exact ⟨c, dp_bool d1, q c H1 β1 p e1 k1 hk1⟩
theorem wt_B {te : TE} {P : Bool → Bt → Prop} (h : WE K te ρ β fun x β1 => ∃ c, x = .bool c ∧ P c β1) : WT K (tB te) ρ β P := fun os H σ Q hk hs q => by
  refine h os H σ _ hk hs fun v H1 x β1 h1 e1 k1 hk1 d1 => ?_
  obtain ⟨c, rfl, p⟩ := h1
  exact ⟨c, dp_bool d1, q c H1 β1 p e1 k1 hk1⟩
theorem wt_and {t u : TT} {P : Bool → Bt → Prop} (h : WT K t ρ β fun c β1 => (c = true → WT K u ρ β1 P) ∧ (c = false → P false β1)) : WT K (tAnd t u) ρ β P := fun os H σ Q hk hs q => by
  refine h os H σ _ hk hs fun c H1 β1 h1 e1 k1 hk1 => ?_
  cases c with
  | true => exact iteT (h1.1 rfl os H1 σ Q hk1 (slots_keep hk k1 hs) fun w H2 β2 p e2 k2 hk2 => q w H2 β2 p (e2.trans e1) (keep_trans e1 k1 k2) hk2)
  | false => exact iteF (q false H1 β1 (h1.2 rfl) e1 k1 hk1)
theorem wt_or {t u : TT} {P : Bool → Bt → Prop} (h : WT K t ρ β fun c β1 => (c = true → P true β1) ∧ (c = false → WT K u ρ β1 P)) : WT K (tOr t u) ρ β P := fun os H σ Q hk hs q => by
  refine h os H σ _ hk hs fun c H1 β1 h1 e1 k1 hk1 => ?_
  cases c with
  | true => exact iteT (q true H1 β1 (h1.1 rfl) e1 k1 hk1)
  | false => exact iteF (h1.2 rfl os H1 σ Q hk1 (slots_keep hk k1 hs) fun w H2 β2 p e2 k2 hk2 => q w H2 β2 p (e2.trans e1) (keep_trans e1 k1 k2) hk2)
theorem wt_not {t : TT} {P : Bool → Bt → Prop} (h : WT K t ρ β fun c β1 => P (!c) β1) : WT K (tNot t) ρ β P := fun os H σ Q hk hs q =>
  h os H σ _ hk hs fun c H1 β1 h1 e1 k1 hk1 => q (!c) H1 β1 h1 e1 k1 hk1

/-! ### calls of pure defs -/
/-- a def that changes nothing and answers by its arguments alone: R tells what for which -/
def spP (K : PySem.W.Frag) (R : List PyData → PyData → Prop) : Sp := fun vs H Q _ => ∃ (os : List Addr) (ds : List PyData) (d : PyData), (∀ a ∈ os, H a ≠ none) ∧ DpAll K (Off os H) vs ds ∧ R ds d ∧ ∀ v H', Same H H' → Dp K (Off os H') v d → Q v H'
theorem we_call {R : List PyData → PyData → Prop} {E : XK} {ta : TA} (h : WA K ta ρ β fun xs β1 => ∃ z, R xs z ∧ P z β1) : WE K (tCall (spP K R) [] E ta) ρ β P := fun os H σ Q hk hs q => by
  refine h os H σ _ hk hs fun v H1 x β1 h1 e1 k1 hk1 d1 => ?_
  obtain ⟨z, hr, p⟩ := h1
  refine ⟨os, x, z, hk1.trk, by rw [List.append_nil]; exact d1, hr, fun w H3 s dw => q w H3 z β1 p e1 (keep_trans e1 k1 (Keep.same s)) (hk1.mono s) dw⟩

end
end DS

set_option Elab.async false
set_option linter.all false
set_option maxRecDepth 100000
set_option maxHeartbeats 4000000
/-! DS2: statements, targets, loops, comprehensions, owned lists. -/
namespace DS
open PySem PySem.Spec PyProof.Rows L2

/-! ### statements -/
/-- what is wanted behind a statement; base: the lists that were owned at the def's entry -/
structure Out where
  base : List Addr
  nx : List Slot → Bt → Prop
  rt : PyData → Bt → Prop
  bk : List Slot → Bt → Prop := fun _ _ => False
  ct : List Slot → Bt → Prop := fun _ _ => False
structure Reach (os0 b0 : List Addr) (H0 : Hp) (os : List Addr) (β : Bt) (H : Hp) : Prop where
  os : ∀ a ∈ os0, a ∈ os
  keep : ∀ a o, a ∉ b0 → H0 a = some o → H a = some o
  dom : ∀ a ∈ b0, a ∈ DS.dom β
  nw : ∀ a ∈ DS.dom β, a ∈ b0 ∨ H0 a = none
  trk : ∀ a ∈ os0, H0 a ≠ none
def DK (K : PySem.W.Frag) (os : List Addr) (H : Hp) (os' : List Addr) (H' : Hp) : Prop := ∀ v d, Dp K (Off os H) v d → Dp K (Off os' H') v d
structure EndsR (K : PySem.W.Frag) (E : Out) (os0 : List Addr) (H0 : Hp) (os : List Addr) (H : Hp) (D : Ends) : Prop where
  nx : ∀ os' σ' H' ρ' β', E.nx ρ' β' → Reach os0 E.base H0 os' β' H' → DK K os H os' H' → Hok K os' H' β' → SlotsR K (Off os' H') σ' ρ' → D.nx σ' H'
  rt : ∀ os' v H' d β', E.rt d β' → Reach os0 E.base H0 os' β' H' → DK K os H os' H' → Hok K os' H' β' → Dp K (Off os' H') v d → D.rt v H'
  bk : ∀ os' σ' H' ρ' β', E.bk ρ' β' → Reach os0 E.base H0 os' β' H' → DK K os H os' H' → Hok K os' H' β' → SlotsR K (Off os' H') σ' ρ' → D.bk σ' H'
  ct : ∀ os' σ' H' ρ' β', E.ct ρ' β' → Reach os0 E.base H0 os' β' H' → DK K os H os' H' → Hok K os' H' β' → SlotsR K (Off os' H') σ' ρ' → D.ct σ' H'
def WS (K : PySem.W.Frag) (ts : TS) (ρ : List Slot) (β : Bt) (E : Out) : Prop := ∀ (os0 : List Addr) (H0 : Hp) (os : List Addr) (H : Hp) (σ : L2.St) (D : Ends),
  Reach os0 E.base H0 os β H → Hok K os H β → SlotsR K (Off os H) σ ρ → EndsR K E os0 H0 os H D → ts D σ H

section
variable {K : PySem.W.Frag} {ρ : List Slot} {β : Bt} {E : Out}
theorem sdat {G : Hp} {v : V} {d : PyData} (h : Dp K G v d) : SlotR K G (some v) (.dat d) := ⟨v, rfl, h⟩
theorem DK.refl {os : List Addr} {H : Hp} : DK K os H os H := fun _ _ h => h
theorem DK.trans {os os1 os2 : List Addr} {H H1 H2 : Hp} (a : DK K os H os1 H1) (b : DK K os1 H1 os2 H2) : DK K os H os2 H2 := fun v d h => b v d (a v d h)
theorem DK.of {os : List Addr} {H H1 : Hp} (hk : Hok K os H β) (k : Keep β H H1) : DK K os H os H1 := fun _ _ h => dp_keep hk k h
theorem DK.all {os os' : List Addr} {H H' : Hp} (h : DK K os H os' H') : ∀ {vs : List V} {ds : List PyData}, DpAll K (Off os H) vs ds → DpAll K (Off os' H') vs ds
  | _, _, .nil => .nil
  | _, _, .cons r t => .cons (h _ _ r) (DK.all h t)
theorem Reach.step {os0 b0 os : List Addr} {H0 H H1 : Hp} {β1 : Bt} (r : Reach os0 b0 H0 os β H) (e : DS.dom β1 = DS.dom β) (k : Keep β H H1) : Reach os0 b0 H0 os β1 H1 where
  os := r.os
  keep := fun a o h1 h2 => k a o (fun z => by
    rcases r.nw a z with h | h
    · exact h1 h
    · rw [h2] at h; cases h) (r.keep a o h1 h2)
  dom := fun a h => by rw [e]; exact r.dom a h
  nw := fun a h => r.nw a (by rw [← e]; exact h)
  trk := r.trk
theorem EndsR.step {os0 os os1 : List Addr} {H0 H H1 : Hp} {D : Ends} (x : EndsR K E os0 H0 os H D) (k : DK K os H os1 H1) : EndsR K E os0 H0 os1 H1 D where
  nx := fun os' σ' H' ρ' β' h r d => x.nx os' σ' H' ρ' β' h r (k.trans d)
  rt := fun os' v H' y β' h r d => x.rt os' v H' y β' h r (k.trans d)
  bk := fun os' σ' H' ρ' β' h r d => x.bk os' σ' H' ρ' β' h r (k.trans d)
  ct := fun os' σ' H' ρ' β' h r d => x.ct os' σ' H' ρ' β' h r (k.trans d)

theorem ws_seq {t u : TS} (h : WS K t ρ β { E with nx := fun ρ1 β1 => WS K u ρ1 β1 E }) : WS K (tSeq t u) ρ β E := fun os0 H0 os H σ D r hk hs x =>
  h os0 H0 os H σ { D with nx := u D } r hk hs ⟨fun os' σ' H' ρ' β' w r' d hk' hs' => w os0 H0 os' H' σ' D r' hk' hs' (x.step d), x.rt, x.bk, x.ct⟩
theorem ws_next (h : E.nx ρ β) : WS K tNext ρ β E := fun os0 H0 os H σ D r hk hs x => x.nx os σ H ρ β h r DK.refl hk hs
theorem ws_break (h : E.bk ρ β) : WS K tBreak ρ β E := fun os0 H0 os H σ D r hk hs x => x.bk os σ H ρ β h r DK.refl hk hs
theorem ws_cont (h : E.ct ρ β) : WS K tCont ρ β E := fun os0 H0 os H σ D r hk hs x => x.ct os σ H ρ β h r DK.refl hk hs
theorem ws_set {te : TE} {i : Nat} (h : WE K te ρ β fun d β1 => E.nx (ρ.set i (.dat d)) β1) : WS K (tAsg te (gName i)) ρ β E := fun os0 H0 os H σ D r hk hs x =>
  h os H σ _ hk hs fun v H1 d β1 p e k hk1 dv => x.nx os _ H1 _ β1 p (r.step e k) (DK.of hk k) hk1 (slotsR_set (sdat dv) i (slots_keep hk k hs))
theorem ws_ret {te : TE} (h : WE K te ρ β E.rt) : WS K (tRet te) ρ β E := fun os0 H0 os H σ D r hk hs x =>
  h os H σ _ hk hs fun v H1 d β1 p e k hk1 dv => x.rt os v H1 d β1 p (r.step e k) (DK.of hk k) hk1 dv
theorem ws_retN (h : E.rt .none β) : WS K tRetN ρ β E := fun os0 H0 os H σ D r hk hs x => x.rt os _ H _ β h r DK.refl hk .non
theorem ws_drop {te : TE} (h : WE K te ρ β fun d β1 => E.nx ρ β1) : WS K (tDrop te) ρ β E := fun os0 H0 os H σ D r hk hs x =>
  h os H σ _ hk hs fun v H1 d β1 p e k hk1 dv => x.nx os _ H1 _ β1 p (r.step e k) (DK.of hk k) hk1 (slots_keep hk k hs)
theorem ws_if {c : TT} {t u : TS} (h : WT K c ρ β fun b β1 => (b = true → WS K t ρ β1 E) ∧ (b = false → WS K u ρ β1 E)) : WS K (tIfS c t u) ρ β E := fun os0 H0 os H σ D r hk hs x => by
  refine h os H σ _ hk hs fun b H1 β1 p e k hk1 => ?_
  cases b with
  | true => exact iteT (p.1 rfl os0 H0 os H1 σ D (r.step e k) hk1 (slots_keep hk k hs) (x.step (DK.of hk k)))
  | false => exact iteF (p.2 rfl os0 H0 os H1 σ D (r.step e k) hk1 (slots_keep hk k hs) (x.step (DK.of hk k)))
theorem ws_par {ta : TA} {i j : Nat} (h : WA K ta ρ β fun ds β1 => ∃ x y, ds = [x, y] ∧ E.nx ((ρ.set i (.dat x)).set j (.dat y)) β1) : WS K (tPar i j ta) ρ β E := fun os0 H0 os H σ D r hk hs x => by
  refine h os H σ _ hk hs fun vs H1 ds β1 p e k hk1 dv => ?_
  obtain ⟨y, z, rfl, p⟩ := p
  cases dv with
  | cons d1 t => cases t with
    | cons d2 t =>
      cases t
      exact ⟨_, _, rfl, x.nx os _ H1 _ β1 p (r.step e k) (DK.of hk k) hk1 (slotsR_set (sdat d2) j (slotsR_set (sdat d1) i (slots_keep hk k hs)))⟩

/-! ### targets -/
def Sets (tg : List Nat) (σ σ' : L2.St) : Prop := ∀ vs : List Nat, (∀ i ∈ tg, i ∈ vs) → wipe σ' vs = wipe σ vs
theorem wipe_set {i : Nat} {o : Option V} {σ : L2.St} : ∀ {vs : List Nat}, i ∈ vs → wipe (σ.set i o) vs = wipe σ vs
  | [], h => by simp at h
  | v :: vs, h => by
    unfold wipe
    by_cases e : i = v
    · subst e
      by_cases h2 : i ∈ vs
      · rw [wipe_set h2]
      · have aux : ∀ ws : List Nat, i ∉ ws → wipe (σ.set i o) ws = (wipe σ ws).set i o := by
          intro ws
          induction ws with
          | nil => intro _; rfl
          | cons w ws ih =>
            intro hn
            unfold wipe
            rw [ih fun z => hn (List.mem_cons_of_mem _ z), List.set_comm _ _ (fun z => hn (by rw [z]; exact List.mem_cons_self))]
        rw [aux vs h2, List.set_set]
    · rw [wipe_set ((List.mem_cons.mp h).resolve_left e)]
def WG (K : PySem.W.Frag) (g : TG) (d : PyData) (ρ : List Slot) (P : List Slot → Prop) : Prop := ∀ (os : List Addr) (H : Hp) (σ : L2.St) (v : V) (Q : L2.St → Hp → Prop), SlotsR K (Off os H) σ ρ → Dp K (Off os H) v d →
  (∀ σ' ρ', P ρ' → SlotsR K (Off os H) σ' ρ' → Q σ' H) → g v σ H Q
def WGs (K : PySem.W.Frag) (g : TGs) (ds : List PyData) (ρ : List Slot) (P : List Slot → Prop) : Prop := ∀ (os : List Addr) (H : Hp) (σ : L2.St) (vs : List V) (Q : L2.St → Hp → Prop), SlotsR K (Off os H) σ ρ → DpAll K (Off os H) vs ds →
  (∀ σ' ρ', P ρ' → SlotsR K (Off os H) σ' ρ' → Q σ' H) → g vs σ H Q
variable {PG' : List Slot → Prop}
theorem wg_name {i : Nat} {d : PyData} (p : PG' (ρ.set i (.dat d))) : WG K (gName i) d ρ PG' := fun os H σ v Q hs hd q =>
  q _ _ p (slotsR_set (sdat hd) i hs)
theorem wgs_nil (p : PG' ρ) : WGs K gNil [] ρ PG' := fun os H σ v Q hs hd q => by
  cases hd
  exact ⟨rfl, q σ ρ p hs⟩
theorem wgs_cons {t : TG} {u : TGs} {d : PyData} {ds : List PyData} (h : WG K t d ρ fun ρ1 => WGs K u ds ρ1 PG') : WGs K (gCons t u) (d :: ds) ρ PG' := fun os H σ vs Q hs hd q => by
  cases hd with
  | cons d1 d2 =>
    exact ⟨_, _, rfl, h os H σ _ _ hs d1 fun σ1 ρ1 p hs1 => p os H σ1 _ _ hs1 d2 fun σ2 ρ2 p2 hs2 => q σ2 ρ2 p2 hs2⟩
theorem wg_tup {t : TGs} {n : Nat} {ds : List PyData} (hl : ds.length = n) (h : WGs K t ds ρ PG') : WG K (gTup K n t) (.tuple ds) ρ PG' := fun os H σ v Q hs hd q => by
  obtain ⟨a, vs, rfl, h1, h2⟩ := dp_tup hd
  exact ⟨a, vs, rfl, same_seqT (off_le os H) h1, by rw [dpAll_len h2]; exact hl, h os H σ vs Q hs h2 q⟩
def WGc (K : PySem.W.Frag) (g : TG) (tg : List Nat) (d : PyData) (ρ : List Slot) (P : List Slot → Prop) : Prop := ∀ (os : List Addr) (H : Hp) (σ : L2.St) (v : V) (Q : L2.St → Hp → Prop), SlotsR K (Off os H) σ ρ → Dp K (Off os H) v d →
  (∀ σ' ρ', P ρ' → SlotsR K (Off os H) σ' ρ' → Sets tg σ σ' → Q σ' H) → g v σ H Q
def WGcs (K : PySem.W.Frag) (g : TGs) (tg : List Nat) (ds : List PyData) (ρ : List Slot) (P : List Slot → Prop) : Prop := ∀ (os : List Addr) (H : Hp) (σ : L2.St) (vs : List V) (Q : L2.St → Hp → Prop), SlotsR K (Off os H) σ ρ → DpAll K (Off os H) vs ds →
  (∀ σ' ρ', P ρ' → SlotsR K (Off os H) σ' ρ' → Sets tg σ σ' → Q σ' H) → g vs σ H Q
theorem wgc_name {i : Nat} {d : PyData} (p : PG' (ρ.set i (.dat d))) : WGc K (gName i) [i] d ρ PG' := fun os H σ v Q hs hd q =>
  q _ _ p (slotsR_set (sdat hd) i hs) fun vs h => wipe_set (h i (by simp))
theorem wgcs_nil (p : PG' ρ) : WGcs K gNil [] [] ρ PG' := fun os H σ v Q hs hd q => by
  cases hd
  exact ⟨rfl, q σ ρ p hs fun _ _ => rfl⟩
theorem wgcs_cons {t : TG} {u : TGs} {tg tg' : List Nat} {d : PyData} {ds : List PyData} (h : WGc K t tg d ρ fun ρ1 => WGcs K u tg' ds ρ1 PG') : WGcs K (gCons t u) (tg ++ tg') (d :: ds) ρ PG' := fun os H σ vs Q hs hd q => by
  cases hd with
  | cons d1 d2 =>
    refine ⟨_, _, rfl, h os H σ _ _ hs d1 fun σ1 ρ1 p hs1 s1 => p os H σ1 _ _ hs1 d2 fun σ2 ρ2 p2 hs2 s2 => q σ2 ρ2 p2 hs2 fun ws hw => ?_⟩
    exact (s2 ws fun i hi => hw i (List.mem_append.mpr (.inr hi))).trans (s1 ws fun i hi => hw i (List.mem_append.mpr (.inl hi)))
theorem wgc_tup {t : TGs} {tg : List Nat} {n : Nat} {ds : List PyData} (hl : ds.length = n) (h : WGcs K t tg ds ρ PG') : WGc K (gTup K n t) tg (.tuple ds) ρ PG' := fun os H σ v Q hs hd q => by
  obtain ⟨a, vs, rfl, h1, h2⟩ := dp_tup hd
  exact ⟨a, vs, rfl, same_seqT (off_le os H) h1, by rw [dpAll_len h2]; exact hl, h os H σ vs Q hs h2 q⟩
theorem ws_asg {te : TE} {g : TG} (h : WE K te ρ β fun d β1 => WG K g d ρ fun ρ1 => E.nx ρ1 β1) : WS K (tAsg te g) ρ β E := fun os0 H0 os H σ D r hk hs x =>
  h os H σ _ hk hs fun v H1 d β1 p e k hk1 dv => p os H1 σ v _ (slots_keep hk k hs) dv fun σ' ρ' w hs' => x.nx os σ' H1 ρ' β1 w (r.step e k) (DK.of hk k) hk1 hs'

/-! ### what is walked -/
structure ItD (K : PySem.W.Frag) (J : It) (src : List (V × PyData)) (ds : List PyData) : Prop where
  go : ∀ (os : List Addr) (H : Hp) (i : Nat), (∀ p ∈ src, Dp K (Off os H) p.1 p.2) → i < ds.length → J.go i H
  stop : ∀ (os : List Addr) (H : Hp), (∀ p ∈ src, Dp K (Off os H) p.1 p.2) → J.stop ds.length H
  yld : ∀ (os : List Addr) (H : Hp) (i : Nat) (x : V) (H' : Hp) (d : PyData), (∀ a ∈ os, H a ≠ none) → (∀ p ∈ src, Dp K (Off os H) p.1 p.2) → ds[i]? = some d → J.yld i H x H' → Same H H' ∧ Dp K (Off os H') x d
def WI (K : PySem.W.Frag) (wi : TI) (ρ : List Slot) (β : Bt) (P : List PyData → Bt → Prop) : Prop := ∀ (os : List Addr) (H : Hp) (σ : L2.St) (R : It → Hp → Prop), Hok K os H β → SlotsR K (Off os H) σ ρ →
  (∀ J H2 ds src β2, P ds β2 → dom β2 = dom β → Keep β H H2 → Hok K os H2 β2 → ItD K J src ds → (∀ p ∈ src, Dp K (Off os H2) p.1 p.2) → R J H2) → wi σ H R
variable {PL : List PyData → Bt → Prop}
/-- the list at a, as data -/
theorem itd_list {a : Addr} {ds : List PyData} : ItD K (Itl K a) [(.ref a, .list ds)] ds where
  go := fun os H i h hi => by
    obtain ⟨b, vs, e, h1, h2⟩ := dp_lst (h _ List.mem_cons_self)
    cases e
    have hl := dpAll_len h2
    exact ⟨vs, vs[i]'(by omega), (off_le os _).seq h1, List.getElem?_eq_getElem _⟩
  stop := fun os H h => by
    obtain ⟨b, vs, e, h1, h2⟩ := dp_lst (h _ List.mem_cons_self)
    cases e
    have hl := dpAll_len h2
    exact ⟨vs, (off_le os H).seq h1, by omega⟩
  yld := fun os H i x H' d ht h hd hy => by
    obtain ⟨b, vs, e, h1, h2⟩ := dp_lst (h _ List.mem_cons_self)
    cases e
    obtain ⟨rfl, hv⟩ := hy
    obtain ⟨v, hv2, hd2⟩ := dpAll_get h2 hd
    have := hv vs ((off_le os _).seq h1)
    rw [hv2] at this
    cases this
    exact ⟨Same.refl _, hd2⟩
theorem itd_tup {a : Addr} {ds : List PyData} : ItD K (Itt K a) [(.ref a, .tuple ds)] ds where
  go := fun os H i h hi => by
    obtain ⟨b, vs, e, h1, h2⟩ := dp_tup (h _ List.mem_cons_self)
    cases e
    have hl := dpAll_len h2
    exact ⟨vs, vs[i]'(by omega), same_seqT (off_le os H) h1, List.getElem?_eq_getElem _⟩
  stop := fun os H h => by
    obtain ⟨b, vs, e, h1, h2⟩ := dp_tup (h _ List.mem_cons_self)
    cases e
    have hl := dpAll_len h2
    exact ⟨vs, same_seqT (off_le os H) h1, by omega⟩
  yld := fun os H i x H' d ht h hd hy => by
    obtain ⟨b, vs, e, h1, h2⟩ := dp_tup (h _ List.mem_cons_self)
    cases e
    obtain ⟨rfl, hv⟩ := hy
    obtain ⟨v, hv2, hd2⟩ := dpAll_get h2 hd
    have := hv vs (same_seqT (off_le os _) h1)
    rw [hv2] at this
    cases this
    exact ⟨Same.refl _, hd2⟩
/-- lo, lo + 1, .. -/
def rngD (lo : Int) (n : Nat) : List PyData := (List.range n).map fun (i : Nat) => PyData.int (lo + i)
theorem rngD_len {lo : Int} {n : Nat} : (rngD lo n).length = n := by unfold rngD; rw [List.length_map, List.length_range]
theorem rngD_get {lo : Int} {n i : Nat} {d : PyData} (h : (rngD lo n)[i]? = some d) : i < n ∧ d = .int (lo + i) := by
  unfold rngD at h
  rw [List.getElem?_map] at h
  by_cases hi : i < n
  · rw [List.getElem?_range hi] at h
    exact ⟨hi, (Option.some.inj h).symm⟩
  · rw [List.getElem?_eq_none (by rw [List.length_range]; omega)] at h
    cases h
theorem itd_rng {lo : Int} {n : Nat} : ItD K (Itr lo n) [] (rngD lo n) where
  go := fun os H i h hi => by rw [rngD_len] at hi; exact hi
  stop := fun os H h => by rw [rngD_len]; exact Nat.le_refl n
  yld := fun os H i x H' d ht h hd hy => by
    obtain ⟨rfl, rfl⟩ := hy
    obtain ⟨_, rfl⟩ := rngD_get hd
    exact ⟨Same.refl _, .int _⟩
theorem wi_list {te : TE} (h : WE K te ρ β fun d β1 => ∃ ds, d = .list ds ∧ PL ds β1) : WI K (iList K te) ρ β PL := fun os H σ R hk hs q => by
  refine h os H σ _ hk hs fun v H1 d β1 p e k hk1 dv => ?_
  obtain ⟨ds, rfl, p⟩ := p
  obtain ⟨a, vs, rfl, h1, h2⟩ := dp_lst dv
  exact ⟨a, rfl, ⟨vs, (off_le os H1).seq h1⟩, q _ H1 ds [(.ref a, .list ds)] β1 p e k hk1 itd_list fun z hz => by simp at hz; rw [hz]; exact dv⟩
theorem wi_tup {te : TE} (h : WE K te ρ β fun d β1 => ∃ ds, d = .tuple ds ∧ PL ds β1) : WI K (iTup K te) ρ β PL := fun os H σ R hk hs q => by
  refine h os H σ _ hk hs fun v H1 d β1 p e k hk1 dv => ?_
  obtain ⟨ds, rfl, p⟩ := p
  obtain ⟨a, vs, rfl, h1, h2⟩ := dp_tup dv
  exact ⟨a, rfl, ⟨vs, same_seqT (off_le os H1) h1⟩, q _ H1 ds [(.ref a, .tuple ds)] β1 p e k hk1 itd_tup fun z hz => by simp at hz; rw [hz]; exact dv⟩
theorem wi_rng1 {ta : TA} (h : WA K ta ρ β fun xs β1 => ∃ j : Int, xs = [.int j] ∧ -(2 ^ 62) ≤ j ∧ j < 2 ^ 62 ∧ PL (rngD 0 j.toNat) β1) : WI K (iRng1 ta) ρ β PL := fun os H σ R hk hs q => by
  refine h os H σ _ hk hs fun vs H1 ds β1 p e k hk1 dv => ?_
  obtain ⟨j, rfl, h1, h2, p⟩ := p
  cases dv with
  | cons a b =>
    cases b
    cases a
    exact ⟨j, rfl, h1, h2, q _ H1 _ [] β1 p e k hk1 itd_rng fun z hz => by simp at hz⟩
theorem wi_rng2 {ta : TA} (h : WA K ta ρ β fun xs β1 => ∃ i j : Int, xs = [.int i, .int j] ∧ (-(2 ^ 62) ≤ i ∧ i < 2 ^ 62 ∧ -(2 ^ 62) ≤ j ∧ j < 2 ^ 62) ∧ PL (rngD i (j - i).toNat) β1) : WI K (iRng2 ta) ρ β PL := fun os H σ R hk hs q => by
  refine h os H σ _ hk hs fun vs H1 ds β1 p e k hk1 dv => ?_
  obtain ⟨i, j, rfl, h1, p⟩ := p
  cases dv with
  | cons a b =>
    cases b with
    | cons b c =>
      cases c
      cases a
      cases b
      exact ⟨i, j, rfl, h1, q _ H1 _ [] β1 p e k hk1 itd_rng fun z hz => by simp at hz⟩

/-! ### for, while -/
theorem ws_for {wi : TI} {g : TG} {tb : TS} (h : WI K wi ρ β fun ds β1 => ∃ Inv : Nat → List Slot → Bt → Prop, Inv 0 ρ β1 ∧
      (∀ i d ρ' β', ds[i]? = some d → Inv i ρ' β' → WG K g d ρ' fun ρ2 => WS K tb ρ2 β' { E with nx := Inv (i + 1), ct := Inv (i + 1), bk := E.nx }) ∧ ∀ ρ' β', Inv ds.length ρ' β' → E.nx ρ' β') :
    WS K (tFor wi g tb) ρ β E := fun os0 H0 os H σ D r hk hs x => by
  refine h os H σ _ hk hs fun J H1 ds src β1 p e k hk1 itd hsrc => ?_
  obtain ⟨Inv, h0, hstep, hend⟩ := p
  refine ⟨fun i m σ' H' => i ≤ ds.length ∧ m = ds.length - i ∧ ∃ os' ρ' β', Inv i ρ' β' ∧ Reach os0 E.base H0 os' β' H' ∧ DK K os H1 os' H' ∧ Hok K os' H' β' ∧ SlotsR K (Off os' H') σ' ρ',
    ⟨_, Nat.zero_le _, rfl, os, ρ, β1, h0, r.step e k, DK.refl, hk1, slots_keep hk k hs⟩, fun i m σ' H' w => ?_⟩
  obtain ⟨hi, rfl, os', ρ', β', hInv, r', dk, hk', hs'⟩ := w
  have hsrc' : ∀ z ∈ src, Dp K (Off os' H') z.1 z.2 := fun z hz => dk _ _ (hsrc z hz)
  by_cases hlt : i < ds.length
  · refine .inr ⟨itd.go os' H' i hsrc' hlt, fun σ2 H2 => ∃ os2 ρ2 β2, Inv (i + 1) ρ2 β2 ∧ Reach os0 E.base H0 os2 β2 H2 ∧ DK K os H1 os2 H2 ∧ Hok K os2 H2 β2 ∧ SlotsR K (Off os2 H2) σ2 ρ2,
      fun σ2 H2 w => ⟨ds.length - (i + 1), by omega, by omega, rfl, w⟩, fun y H2 hy => ?_⟩
    obtain ⟨s2, dy⟩ := itd.yld os' H' i y H2 ds[i] hk'.trk hsrc' (List.getElem?_eq_getElem hlt) hy
    have dk2 : DK K os' H' os' H2 := DK.of hk' (Keep.same s2)
    refine hstep i _ ρ' β' (List.getElem?_eq_getElem hlt) hInv os' H2 σ' y _ (slots_keep hk' (Keep.same s2) hs') dy fun σ3 ρ3 w hs3 => ?_
    exact w os0 H0 os' H2 σ3 _ (r'.step rfl (Keep.same s2)) (hk'.mono s2) hs3
      ⟨fun os4 σ4 H4 ρ4 β4 a b c d f => ⟨os4, ρ4, β4, a, b, (dk.trans dk2).trans c, d, f⟩,
       fun os4 v H4 d4 β4 a b c d f => x.rt os4 v H4 d4 β4 a b (((DK.of hk k).trans dk).trans (dk2.trans c)) d f,
       fun os4 σ4 H4 ρ4 β4 a b c d f => x.nx os4 σ4 H4 ρ4 β4 a b (((DK.of hk k).trans dk).trans (dk2.trans c)) d f,
       fun os4 σ4 H4 ρ4 β4 a b c d f => ⟨os4, ρ4, β4, a, b, (dk.trans dk2).trans c, d, f⟩⟩
  · have hl : i = ds.length := by omega
    subst hl
    exact .inl ⟨itd.stop os' H' hsrc', x.nx os' σ' H' ρ' β' (hend ρ' β' hInv) r' ((DK.of hk k).trans dk) hk' hs'⟩
theorem ws_while {c : TT} {tb : TS} (Inv : Nat → List Slot → Bt → Prop) (m0 : Nat) (h0 : Inv m0 ρ β)
    (hstep : ∀ m ρ' β', Inv m ρ' β' → WT K c ρ' β' fun b β1 => (b = true → WS K tb ρ' β1 { E with nx := fun ρ2 β2 => ∃ m', m' < m ∧ Inv m' ρ2 β2, ct := fun ρ2 β2 => ∃ m', m' < m ∧ Inv m' ρ2 β2, bk := E.nx }) ∧ (b = false → E.nx ρ' β1)) :
    WS K (tWhile c tb) ρ β E := fun os0 H0 os H σ D r hk hs x => by
  refine ⟨fun m σ' H' => ∃ os' ρ' β', Inv m ρ' β' ∧ Reach os0 E.base H0 os' β' H' ∧ DK K os H os' H' ∧ Hok K os' H' β' ∧ SlotsR K (Off os' H') σ' ρ',
    ⟨m0, os, ρ, β, h0, r, DK.refl, hk, hs⟩, fun m σ' H' w => ?_⟩
  obtain ⟨os', ρ', β', hInv, r', dk, hk', hs'⟩ := w
  refine hstep m ρ' β' hInv os' H' σ' _ hk' hs' fun b H1 β1 p e k hk1 => ?_
  have dk1 := DK.of hk' k
  cases b with
  | true =>
    refine iteT ⟨fun σ2 H2 => ∃ m', m' < m ∧ ∃ os2 ρ2 β2, Inv m' ρ2 β2 ∧ Reach os0 E.base H0 os2 β2 H2 ∧ DK K os H os2 H2 ∧ Hok K os2 H2 β2 ∧ SlotsR K (Off os2 H2) σ2 ρ2, fun σ2 H2 w => w, ?_⟩
    exact p.1 rfl os0 H0 os' H1 σ' _ (r'.step e k) hk1 (slots_keep hk' k hs')
      ⟨fun os4 σ4 H4 ρ4 β4 ⟨m', hm, a⟩ b c d f => ⟨m', hm, os4, ρ4, β4, a, b, (dk.trans dk1).trans c, d, f⟩,
       fun os4 v H4 d4 β4 a b c d f => x.rt os4 v H4 d4 β4 a b ((dk.trans dk1).trans c) d f,
       fun os4 σ4 H4 ρ4 β4 a b c d f => x.nx os4 σ4 H4 ρ4 β4 a b ((dk.trans dk1).trans c) d f,
       fun os4 σ4 H4 ρ4 β4 ⟨m', hm, a⟩ b c d f => ⟨m', hm, os4, ρ4, β4, a, b, (dk.trans dk1).trans c, d, f⟩⟩
  | false => exact iteF (x.nx os' σ' H1 ρ' β1 (p.2 rfl) (r'.step e k) (dk.trans dk1) hk1 (slots_keep hk' k hs'))

/-! ### list comprehensions -/
def wipeS (ρ : List Slot) : List Nat → List Slot
  | [] => ρ
  | v :: vs => (wipeS ρ vs).set v .no
theorem slots_wipe {G : Hp} {σ : L2.St} (h : SlotsR K G σ ρ) : ∀ vs : List Nat, SlotsR K G (wipe σ vs) (wipeS ρ vs)
  | [] => h
  | v :: vs => slotsR_set (s := .no) trivial v (slots_wipe h vs)
theorem wipe_wipe {σ : L2.St} (vs : List Nat) : wipe (wipe σ vs) vs = wipe σ vs := by
  have aux : ∀ ws : List Nat, (∀ i ∈ ws, i ∈ vs) → wipe (wipe σ ws) vs = wipe σ vs := by
    intro ws
    induction ws with
    | nil => intro _; rfl
    | cons w ws ih =>
      intro h
      show wipe ((wipe σ ws).set w none) vs = wipe σ vs
      rw [wipe_set (h w (by simp)), ih fun i hi => h i (List.mem_cons_of_mem _ hi)]
  exact aux vs fun _ h => h
theorem own_more {os : List Addr} {H : Hp} {D : Addr} {o : HO} (hD : H D = none) : ∀ {β : Bt}, OwnR K os H β → OwnR K (D :: os) (upd H D o) β
  | [], _ => trivial
  | (a, ds) :: β, h => by
    obtain ⟨h1, ⟨vs, h2, h3⟩, h4⟩ := h
    refine ⟨List.mem_cons_of_mem _ h1, ⟨vs, by rw [upd_ne (ne_of_none h2 hD)]; exact h2, ocR_mono (fun b u e => ?_) h3⟩, own_more hD h4⟩
    obtain ⟨e1, e2⟩ := off_some e
    have hb : b ≠ D := ne_of_none e2 hD
    rw [off_out (by simp only [List.mem_cons, not_or]; exact ⟨hb, e1⟩), upd_ne hb]
    exact e2
theorem off_more {os : List Addr} {H : Hp} {D : Addr} {o : HO} (hD : H D = none) : Same (Off os H) (Off (D :: os) (upd H D o)) := fun b u e => by
  obtain ⟨e1, e2⟩ := off_some e
  have hb : b ≠ D := ne_of_none e2 hD
  rw [off_out (by simp only [List.mem_cons, not_or]; exact ⟨hb, e1⟩), upd_ne hb]
  exact e2
theorem own_less {os os' : List Addr} {H : Hp} (h : ∀ a ∈ os, a ∈ os') : ∀ {β : Bt}, (∀ a ∈ dom β, a ∈ os) → OwnR K os' H β → OwnR K os H β
  | [], _, _ => trivial
  | (a, ds) :: β, hm, ⟨h1, ⟨vs, h2, h3⟩, h4⟩ => ⟨hm a (by simp), ⟨vs, h2, ocR_mono (off_sub h) h3⟩, own_less h (fun b hb => hm b (List.mem_cons_of_mem _ hb)) h4⟩
/-- an owned (or any forbidden) thing that no owned list is, is written -/
theorem own_upd {os : List Addr} {H : Hp} {D : Addr} {o : HO} (hD : D ∈ os) : ∀ {β : Bt}, D ∉ dom β → OwnR K os H β → OwnR K os (upd H D o) β
  | [], _, _ => trivial
  | (a, ds) :: β, hm, ⟨h1, ⟨vs, h2, h3⟩, h4⟩ => by
    have hne : a ≠ D := fun z => hm (by simp [z])
    refine ⟨h1, ⟨vs, by rw [upd_ne hne]; exact h2, ocR_mono (fun b u e => ?_) h3⟩, own_upd hD (fun z => hm (List.mem_cons_of_mem _ z)) h4⟩
    obtain ⟨e1, e2⟩ := off_some e
    rw [off_out e1, upd_ne fun z => e1 (by rw [z]; exact hD)]
    exact e2
theorem off_updIn {os : List Addr} {H : Hp} {D : Addr} {o : HO} (hD : D ∈ os) : Off os (upd H D o) = Off os H := by
  funext b
  by_cases h : b ∈ os
  · rw [off_in h, off_in h]
  · rw [off_out h, off_out h, upd_ne fun z => h (by rw [z]; exact hD)]
theorem we_lc {wi : TI} {g : TG} {tt : TT} {te : TE} {vs tg : List Nat} {P : PyData → Bt → Prop} (htg : ∀ i ∈ tg, i ∈ vs)
    (h : WI K wi ρ β fun ds β1 => ∃ Inv : Nat → List PyData → Bt → Prop, Inv 0 [] β1 ∧
      (∀ i d acc β', ds[i]? = some d → Inv i acc β' → acc.length ≤ i → WGc K g tg d (wipeS ρ vs) fun ρ2 => WT K tt ρ2 β' fun b β2 => (b = true → WE K te ρ2 β2 fun y β3 => Inv (i + 1) (acc ++ [y]) β3) ∧ (b = false → Inv (i + 1) acc β2)) ∧
      ds.length ≤ sizeLine ∧ ∀ acc β', Inv ds.length acc β' → acc.length ≤ ds.length → P (.list acc) β') :
    WE K (tLc wi g tt te vs) ρ β P := fun os H σ Q hk hs q => by
  refine h os H σ _ hk hs fun J H1 ds src β1 p e k hk1 itd hsrc D hD => ?_
  obtain ⟨Inv, h0, hstep, hline, hend⟩ := p
  have hDos : D ∉ os := new_out hk1 hD
  have sub : ∀ a ∈ os, a ∈ D :: os := fun a h => List.mem_cons_of_mem _ h
  -- the state between two turns
  refine ⟨fun i m H' => i ≤ ds.length ∧ m = ds.length - i ∧ ∃ accV acc β', Inv i acc β' ∧ acc.length ≤ i ∧ dom β' = dom β1 ∧ Keep β1 H1 H' ∧ Hok K (D :: os) H' β' ∧ H' D = some (.lst accV) ∧ DpAll K (Off (D :: os) H') accV acc,
    ⟨_, Nat.zero_le _, rfl, [], [], β1, h0, Nat.le_refl _, rfl, fun a o _ ha => by rw [upd_ne (ne_of_none ha hD)]; exact ha,
      ⟨fun a ha z => ?_, hk1.nd, own_more hD hk1.own⟩, upd_same, .nil⟩, fun i m H' w => ?_⟩
  · rcases List.mem_cons.mp ha with ha | ha
    · rw [ha, upd_same] at z; cases z
    · have hne : a ≠ D := fun y => hDos (by rw [← y]; exact ha)
      rw [upd_ne hne] at z
      exact hk1.trk a ha z
  obtain ⟨hi, rfl, accV, acc, β', hInv, hle, edom, kp, hk', hDv, hacc⟩ := w
  have sm : Same (Off os H1) (Off (D :: os) H') := fun b u eb => by
    obtain ⟨e1, e2⟩ := off_some eb
    have hb : b ≠ D := ne_of_none e2 hD
    rw [off_out (by simp only [List.mem_cons, not_or]; exact ⟨hb, e1⟩)]
    exact kp b u (fun z => e1 (hk1.mem b z)) e2
  have hsrc' : ∀ z ∈ src, Dp K (Off (D :: os) H') z.1 z.2 := fun z hz => dp_mono sm _ _ (hsrc z hz)
  have hsl' : SlotsR K (Off (D :: os) H') σ ρ := slotsR_mono sm (slots_keep hk k hs)
  by_cases hlt : i < ds.length
  · refine .inr ⟨itd.go _ H' i hsrc' hlt, fun H2 => ∃ accV acc β', Inv (i + 1) acc β' ∧ acc.length ≤ i + 1 ∧ dom β' = dom β1 ∧ Keep β1 H1 H2 ∧ Hok K (D :: os) H2 β' ∧ H2 D = some (.lst accV) ∧ DpAll K (Off (D :: os) H2) accV acc,
      fun H2 w => ⟨ds.length - (i + 1), by omega, by omega, rfl, w⟩, fun y H2 hy => ?_⟩
    obtain ⟨s2, dy⟩ := itd.yld _ H' i y H2 ds[i] hk'.trk hsrc' (List.getElem?_eq_getElem hlt) hy
    refine hstep i _ acc β' (List.getElem?_eq_getElem hlt) hInv hle (D :: os) H2 (wipe σ vs) y _ (slotsR_mono (off_same s2) (slots_wipe hsl' vs)) dy fun σ3 ρ3 w hs3 st => ?_
    refine ⟨(st vs htg).trans (wipe_wipe vs), ?_⟩
    have hk2 := hk'.mono s2
    refine w (D :: os) H2 σ3 _ hk2 hs3 fun b H3 β3 p3 e3 k3 hk3 => ?_
    have hDd : D ∉ dom β' := fun z => hDos (hk1.mem D (by rw [← edom]; exact z))
    have kp3 : Keep β1 H1 H3 := fun a o h1 h2 => k3 a o (by rw [edom]; exact h1) (s2 a o (kp a o h1 h2))
    have hD3 : H3 D = some (.lst accV) := k3 D _ hDd (s2 D _ hDv)
    have ha3 : DpAll K (Off (D :: os) H3) accV acc := dpAll_keep hk2 k3 (dpAll_mono (off_same s2) _ _ hacc)
    cases b with
    | true =>
      refine iteT (p3.1 rfl (D :: os) H3 σ3 _ hk3 (slots_keep hk2 k3 hs3) fun z H4 d4 β4 p4 e4 k4 hk4 dz => ?_)
      have hD4d : D ∉ dom β3 := by rw [e3]; exact hDd
      have hD4 : H4 D = some (.lst accV) := k4 D _ hD4d hD3
      have ha4 : DpAll K (Off (D :: os) H4) accV acc := dpAll_keep hk3 k4 ha3
      have hlV := dpAll_len ha4
      have edom4 : dom β4 = dom β1 := (e4.trans e3).trans edom
      refine ⟨accV, hD4, by omega, accV ++ [z], acc ++ [d4], β4, p4, by rw [List.length_append, List.length_singleton]; omega, edom4, fun a o h1 h2 => ?_, ⟨fun a ha zz => ?_, hk4.nd, own_upd (by simp) (by rw [e4]; exact hD4d) hk4.own⟩, upd_same, ?_⟩
      · have hb : a ≠ D := ne_of_none h2 hD
        rw [upd_ne hb]
        exact k4 a o (by rw [e3, edom]; exact h1) (kp3 a o h1 h2)
      · by_cases hb : a = D
        · rw [hb, upd_same] at zz; cases zz
        · rw [upd_ne hb] at zz
          exact hk4.trk a ha zz
      · rw [off_updIn (by simp)]
        exact dpAll_append ha4 (.cons dz .nil)
    | false => exact iteF ⟨accV, acc, β3, p3.2 rfl, by omega, e3.trans edom, kp3, hk3, hD3, ha3⟩
  · have hl : i = ds.length := by omega
    subst hl
    refine .inl ⟨itd.stop _ H' hsrc', ?_⟩
    have hm : ∀ a ∈ dom β', a ∈ os := fun a ha => hk1.mem a (by rw [← edom]; exact ha)
    exact q _ H' _ β' (hend acc β' hInv hle) (edom.trans e) (keep_trans e k kp) ⟨fun a ha => hk'.trk a (sub a ha), hk'.nd, own_less sub hm hk'.own⟩
      (.lst (.inl (by rw [off_out hDos]; exact hDv)) (dpAll_mono (off_sub sub) _ _ hacc))
end
end DS

set_option Elab.async false
set_option linter.all false
set_option maxRecDepth 100000
set_option maxHeartbeats 4000000
/-! DS3: operators and built-ins on data. -/
namespace DS
open PySem PySem.Spec PyProof.Rows L2
section
variable {K : PySem.W.Frag} {ρ : List Slot} {β : Bt} {P : PyData → Bt → Prop}

/-! ### ints -/
theorem r2_int {f : Int → Int → Int} {i j : Int} : R2D K (rI0 fun i j => .int (f i j)) (.int i) (.int j) (.int (f i j)) := fun os H v u Q ht hv hu q => ⟨i, j, dp_int hv, dp_int hu, q _ H (Same.refl _) (.int _)⟩
theorem r2_bl {f : Int → Int → Bool} {i j : Int} : R2D K (rI0 fun i j => .bl (f i j)) (.int i) (.int j) (.bool (f i j)) := fun os H v u Q ht hv hu q => ⟨i, j, dp_int hv, dp_int hu, q _ H (Same.refl _) (.bl _)⟩
theorem r2_intC {C : Int → Int → Prop} {f : Int → Int → Int} {i j : Int} (c : C i j) : R2D K (rI C fun i j => .int (f i j)) (.int i) (.int j) (.int (f i j)) := fun os H v u Q ht hv hu q => ⟨i, j, dp_int hv, dp_int hu, c, q _ H (Same.refl _) (.int _)⟩
theorem r1_neg {i : Int} : R1D K (rU fun i => .int (-i)) (.int i) (.int (-i)) := fun os H v Q ht hv q => ⟨i, dp_int hv, q _ H (Same.refl _) (.int _)⟩
/-- // by any divisor but 0, below 2 ^ 9000 -/
def CDivA (_ j : Int) : Prop := j ≠ 0 ∧ j.natAbs.log2 < 9000
theorem op_fdivA {X : Cx} : OpR X (binaryOp .FloorDiv) (rI CDivA fun i j => .int (i.fdiv j)) := opI fun i j _ _ _ _ _ hc q => floordiv_int hc.1 q (.inl (PyProof.noPylong_of_log2 hc.2))
theorem op_modA {X : Cx} : OpR X (binaryOp .Mod) (rI (fun _ j => j ≠ 0) fun i j => .int (i.fmod j)) := op_modN

/-! ### == and != -/
/-- data without dicts, one of them not deep -/
def rEqP (K : PySem.W.Frag) : R2 := fun x y H Q => ∃ d e, L2.Dp K H x d ∧ L2.Dp K H y e ∧ d.plain = true ∧ e.plain = true ∧ min d.depth e.depth ≤ 64 ∧ Q (.bl (PyData.eqv d e)) H
def rNeP (K : PySem.W.Frag) : R2 := fun x y H Q => ∃ d e, L2.Dp K H x d ∧ L2.Dp K H y e ∧ d.plain = true ∧ e.plain = true ∧ min d.depth e.depth ≤ 64 ∧ Q (.bl (!PyData.eqv d e)) H
theorem op_eqP {X : Cx} (hu : X.A.units + 64 < cLine) : OpR X (compareOp .Eq) (rEqP X.K) := by
  intro pins s σ H x y v u Q I rx ry h
  obtain ⟨d, e, hd, he, sd, se, hm, q⟩ := h
  obtain ⟨as, r1⟩ := Dp.reads I d x v hd rx
  obtain ⟨bs, r2⟩ := Dp.reads I e y u he ry
  exact SeqAt.eq_plain r1 r2 sd se (by omega) ⟨.bl _, H, I, rfl, q⟩
theorem op_neP {X : Cx} (hu : X.A.units + 64 < cLine) : OpR X (compareOp .NotEq) (rNeP X.K) := by
  intro pins s σ H x y v u Q I rx ry h
  obtain ⟨d, e, hd, he, sd, se, hm, q⟩ := h
  obtain ⟨as, r1⟩ := Dp.reads I d x v hd rx
  obtain ⟨bs, r2⟩ := Dp.reads I e y u he ry
  exact SeqAt.ne_plain r1 r2 sd se (by omega) ⟨.bl _, H, I, rfl, q⟩
mutual
theorem dp_plain {G : Hp} : ∀ (d : PyData) (v : V), Dp K G v d → d.plain = true
  | .none, _, h => rfl
  | .bool b, _, h => rfl
  | .int i, _, h => rfl
  | .str x, _, h => rfl
  | .list ds, _, h => by
    cases h with
    | lst hs ha => simp only [PyData.plain]; exact dpAll_plain ds _ ha
  | .tuple ds, _, h => by
    cases h with
    | tup hs ha => simp only [PyData.plain]; exact dpAll_plain ds _ ha
  | .dict _, _, h => by cases h
theorem dpAll_plain {G : Hp} : ∀ (ds : List PyData) (vs : List V), DpAll K G vs ds → PyData.plainAll ds = true
  | [], _, h => by simp only [PyData.plainAll]
  | d :: ds, _, h => by
    cases h with
    | cons h1 h2 => simp only [PyData.plainAll, dp_plain d _ h1, dpAll_plain ds _ h2, Bool.and_self]
end
def rEqX (K : PySem.W.Frag) : R2 := fun x y H Q => rEq x y H Q ∨ rEqP K x y H Q
def rNeX (K : PySem.W.Frag) : R2 := fun x y H Q => rNe x y H Q ∨ rNeP K x y H Q
theorem op_eqX {X : Cx} (hu : X.A.units + 64 < cLine) : OpR X (compareOp .Eq) (rEqX X.K) := fun pins s σ H x y v u Q I rx ry h => by
  rcases h with h | h
  · exact op_eq pins s σ H x y v u Q I rx ry h
  · exact op_eqP hu pins s σ H x y v u Q I rx ry h
theorem op_neX {X : Cx} (hu : X.A.units + 64 < cLine) : OpR X (compareOp .NotEq) (rNeX X.K) := fun pins s σ H x y v u Q I rx ry h => by
  rcases h with h | h
  · exact op_ne pins s σ H x y v u Q I rx ry h
  · exact op_neP hu pins s σ H x y v u Q I rx ry h
theorem vint_inj {i j : Int} : (V.int i = V.int j) ↔ i = j := ⟨V.int.inj, fun h => by rw [h]⟩
theorem vstr_inj {i j : Str} : (V.str i = V.str j) ↔ i = j := ⟨V.str.inj, fun h => by rw [h]⟩
theorem vbl_inj {i j : Bool} : (V.bl i = V.bl j) ↔ i = j := ⟨V.bl.inj, fun h => by rw [h]⟩
theorem r2_eqI {i j : Int} : R2D K (rEqX K) (.int i) (.int j) (.bool (decide (i = j))) := fun os H v u Q ht hv hu q => by
  rw [dp_int hv, dp_int hu]
  refine .inl ⟨rfl, ?_⟩
  rw [show decide (V.int i = V.int j) = decide (i = j) from decide_eq_decide.mpr vint_inj]
  exact q _ H (Same.refl _) (.bl _)
theorem r2_neI {i j : Int} : R2D K (rNeX K) (.int i) (.int j) (.bool (!decide (i = j))) := fun os H v u Q ht hv hu q => by
  rw [dp_int hv, dp_int hu]
  refine .inl ⟨rfl, ?_⟩
  rw [show decide (V.int i = V.int j) = decide (i = j) from decide_eq_decide.mpr vint_inj]
  exact q _ H (Same.refl _) (.bl _)
theorem r2_eqS {i j : Str} : R2D K (rEqX K) (.str i) (.str j) (.bool (decide (i = j))) := fun os H v u Q ht hv hu q => by
  rw [dp_str hv, dp_str hu]
  refine .inl ⟨rfl, ?_⟩
  rw [show decide (V.str i = V.str j) = decide (i = j) from decide_eq_decide.mpr vstr_inj]
  exact q _ H (Same.refl _) (.bl _)
theorem r2_neS {i j : Str} : R2D K (rNeX K) (.str i) (.str j) (.bool (!decide (i = j))) := fun os H v u Q ht hv hu q => by
  rw [dp_str hv, dp_str hu]
  refine .inl ⟨rfl, ?_⟩
  rw [show decide (V.str i = V.str j) = decide (i = j) from decide_eq_decide.mpr vstr_inj]
  exact q _ H (Same.refl _) (.bl _)
theorem r2_eqB {i j : Bool} : R2D K (rEqX K) (.bool i) (.bool j) (.bool (decide (i = j))) := fun os H v u Q ht hv hu q => by
  rw [dp_bool hv, dp_bool hu]
  refine .inl ⟨rfl, ?_⟩
  rw [show decide (V.bl i = V.bl j) = decide (i = j) from decide_eq_decide.mpr vbl_inj]
  exact q _ H (Same.refl _) (.bl _)
theorem r2_neB {i j : Bool} : R2D K (rNeX K) (.bool i) (.bool j) (.bool (!decide (i = j))) := fun os H v u Q ht hv hu q => by
  rw [dp_bool hv, dp_bool hu]
  refine .inl ⟨rfl, ?_⟩
  rw [show decide (V.bl i = V.bl j) = decide (i = j) from decide_eq_decide.mpr vbl_inj]
  exact q _ H (Same.refl _) (.bl _)
/-- == of any data, one of them not deep -/
theorem r2_eqE {x y : PyData} (hm : min x.depth y.depth ≤ 64) : R2D K (rEqX K) x y (.bool (PyData.eqv x y)) := fun os H v u Q ht hv hu q =>
  .inr ⟨x, y, dp_L2 _ _ (dp_off hv), dp_L2 _ _ (dp_off hu), dp_plain _ _ hv, dp_plain _ _ hu, hm, q _ H (Same.refl _) (.bl _)⟩
theorem r2_neE {x y : PyData} (hm : min x.depth y.depth ≤ 64) : R2D K (rNeX K) x y (.bool (!PyData.eqv x y)) := fun os H v u Q ht hv hu q =>
  .inr ⟨x, y, dp_L2 _ _ (dp_off hv), dp_L2 _ _ (dp_off hu), dp_plain _ _ hv, dp_plain _ _ hu, hm, q _ H (Same.refl _) (.bl _)⟩
theorem r2_eqD {x y : PyData} (hx : SeqAt.shaped x = true) (hy : SeqAt.shaped y = true) : R2D K (rEqX K) x y (.bool (PyData.eqv x y)) := r2_eqE (Nat.le_trans (Nat.min_le_left _ _) (SeqAt.depth_of_shaped hx))
theorem r2_neD {x y : PyData} (hx : SeqAt.shaped x = true) (hy : SeqAt.shaped y = true) : R2D K (rNeX K) x y (.bool (!PyData.eqv x y)) := r2_neE (Nat.le_trans (Nat.min_le_left _ _) (SeqAt.depth_of_shaped hx))

/-! ### is -/
def isN : PyData → Bool
  | .none => true
  | _ => false
def rIsNo : R2 := fun x y H Q => y = .non ∧ Q (.bl (decide (x = .non))) H
def rNotNo : R2 := fun x y H Q => y = .non ∧ Q (.bl (!decide (x = .non))) H
theorem op_isNo {X : Cx} : OpR X (compareOp .Is) rIsNo := op_isN
theorem op_notNo {X : Cx} : OpR X (compareOp .IsNot) rNotNo := op_notN
theorem dp_isN {G : Hp} {v : V} {d : PyData} (h : Dp K G v d) : decide (v = .non) = isN d := by
  cases h <;> first | rfl | exact decide_eq_false (fun z => nomatch z)
theorem r2_isN {x : PyData} : R2D K rIsNo x .none (.bool (isN x)) := fun os H v u Q ht hv hu q => ⟨dp_non hu, by rw [dp_isN hv]; exact q _ H (Same.refl _) (.bl _)⟩
theorem r2_notN {x : PyData} : R2D K rNotNo x .none (.bool (!isN x)) := fun os H v u Q ht hv hu q => ⟨dp_non hu, by rw [dp_isN hv]; exact q _ H (Same.refl _) (.bl _)⟩
theorem r2_isB {a b : Bool} : R2D K rIsB (.bool a) (.bool b) (.bool (decide (a = b))) := fun os H v u Q ht hv hu q => ⟨a, b, dp_bool hv, dp_bool hu, q _ H (Same.refl _) (.bl _)⟩

/-! ### in -/
def flatD : PyData → Bool
  | .none | .bool _ | .int _ | .str _ => true
  | _ => false
theorem dp_flat {G : Hp} {v : V} {d : PyData} (h : Dp K G v d) (f : flatD d = true) : flatV v = true := by
  cases h <;> first | rfl | cases f
theorem dpAll_flat {G : Hp} : ∀ {vs : List V} {ds : List PyData}, DpAll K G vs ds → ds.all flatD = true → vs.all flatV = true
  | _, _, .nil, _ => rfl
  | _, _, .cons r t, f => by
    rw [List.all_cons, Bool.and_eq_true] at f
    rw [List.all_cons, dp_flat r f.1, dpAll_flat t f.2]
    rfl
theorem dp_eqV {G : Hp} {v u : V} {d e : PyData} (h : Dp K G v d) (h2 : Dp K G u e) (f : flatD d = true) (f2 : flatD e = true) : eqV v u = PyData.eqv d e := by
  cases h <;> first
    | (cases h2 <;> first | rfl | cases f2)
    | cases f
theorem dpAll_inV {G : Hp} {v : V} {d : PyData} (h : Dp K G v d) (f : flatD d = true) : ∀ {vs : List V} {ds : List PyData}, DpAll K G vs ds → ds.all flatD = true → inV v vs = ds.any fun z => PyData.eqv z d
  | _, _, .nil, _ => rfl
  | _, _, .cons r t, f2 => by
    rw [List.all_cons, Bool.and_eq_true] at f2
    have ih := dpAll_inV h f t f2.2
    unfold inV at ih ⊢
    rw [List.any_cons, List.any_cons, ih, dp_eqV r h f2.1 f]
theorem r2_inL {x : PyData} {ds : List PyData} (f : flatD x = true) (fs : ds.all flatD = true) : R2D K (rIn K false) x (.list ds) (.bool (ds.any fun z => PyData.eqv z x)) := fun os H v u Q ht hv hu q => by
  obtain ⟨a, vs, rfl, h1, h2⟩ := dp_lst hu
  refine ⟨a, vs, rfl, .inl ((off_le os H).seq h1), dp_flat hv f, dpAll_flat h2 fs, ?_⟩
  rw [if_neg Bool.false_ne_true, dpAll_inV hv f h2 fs]
  exact q _ H (Same.refl _) (.bl _)
theorem r2_inT {x : PyData} {ds : List PyData} (f : flatD x = true) (fs : ds.all flatD = true) : R2D K (rIn K false) x (.tuple ds) (.bool (ds.any fun z => PyData.eqv z x)) := fun os H v u Q ht hv hu q => by
  obtain ⟨a, vs, rfl, h1, h2⟩ := dp_tup hu
  refine ⟨a, vs, rfl, .inr (same_seqT (off_le os H) h1), dp_flat hv f, dpAll_flat h2 fs, ?_⟩
  rw [if_neg Bool.false_ne_true, dpAll_inV hv f h2 fs]
  exact q _ H (Same.refl _) (.bl _)
theorem r2_inD {x : PyData} {ds : List PyData} (f : SeqAt.shaped x = true) (fs : SeqAt.shaped (.list ds) = true) : R2D K (rInD K) x (.list ds) (.bool (ds.any fun z => PyData.eqv z x)) := fun os H v u Q ht hv hu q =>
  ⟨x, ds, dp_L2 _ _ (dp_off hv), dp_L2 _ _ (dp_off hu), f, fs, q _ H (Same.refl _) (.bl _)⟩

/-! ### items, slices -/
theorem atI_dp {G : Hp} {vs : List V} {ds : List PyData} {i : Int} {d : PyData} (h : DpAll K G vs ds) (e : atI ds i = some d) : ∃ v, atI vs i = some v ∧ Dp K G v d := by
  unfold atI at e ⊢
  rw [dpAll_len h]
  cases q : ixN ds.length i with
  | none => rw [q] at e; cases e
  | some j =>
    rw [q] at e
    exact dpAll_get h e
theorem r2_ixL {ds : List PyData} {i : Int} {d : PyData} (e : atI ds i = some d) : R2D K (rIxL K) (.list ds) (.int i) d := fun os H v u Q ht hv hu q => by
  obtain ⟨a, vs, rfl, h1, h2⟩ := dp_lst hv
  obtain ⟨z, hz, hd⟩ := atI_dp h2 e
  exact ⟨a, vs, i, z, rfl, dp_int hu, (off_le os H).seq h1, hz, q _ H (Same.refl _) hd⟩
theorem r2_ixT {ds : List PyData} {i : Int} {d : PyData} (e : atI ds i = some d) : R2D K (rIxT K) (.tuple ds) (.int i) d := fun os H v u Q ht hv hu q => by
  obtain ⟨a, vs, rfl, h1, h2⟩ := dp_tup hv
  obtain ⟨z, hz, hd⟩ := atI_dp h2 e
  exact ⟨a, vs, i, z, rfl, dp_int hu, same_seqT (off_le os H) h1, hz, q _ H (Same.refl _) hd⟩
/-- a list's or a tuple's item -/
def rIxX (K : PySem.W.Frag) : R2 := fun x y H Q => rIxL K x y H Q ∨ rIxT K x y H Q
theorem ix_X {X : Cx} : IxR X (rIxX X.K) := ix_list.or ix_tup
theorem r2_ixXL {ds : List PyData} {i : Int} {d : PyData} (e : atI ds i = some d) : R2D K (rIxX K) (.list ds) (.int i) d := fun os H v u Q ht hv hu q => .inl (r2_ixL e os H v u Q ht hv hu q)
theorem r2_ixXT {ds : List PyData} {i : Int} {d : PyData} (e : atI ds i = some d) : R2D K (rIxX K) (.tuple ds) (.int i) d := fun os H v u Q ht hv hu q => .inr (r2_ixT e os H v u Q ht hv hu q)
/-- a slice of data -/
def RSD (K : PySem.W.Frag) (r : V → Option Int → Option Int → Hp → VK → Prop) (x : PyData) (lo hi : Option Int) (z : PyData) : Prop := ∀ (os : List Addr) (H : Hp) (v : V) (Q : VK), (∀ a ∈ os, H a ≠ none) → Dp K (Off os H) v x → (∀ w H2, Same H H2 → Dp K (Off os H2) w z → Q w H2) → r v lo hi H Q
theorem wo_none {P : Option Int → Bt → Prop} (p : P none β) : WO K tNoPart ρ β P := fun os H σ Q hk hs q => q none H β p rfl (Keep.refl _ _) hk
theorem wo_some {te : TE} {P : Option Int → Bt → Prop} (h : WE K te ρ β fun d β1 => ∃ i, d = .int i ∧ P (some i) β1) : WO K (tPart te) ρ β P := fun os H σ Q hk hs q => by
  refine h os H σ _ hk hs fun v H1 d β1 p e k hk1 dv => ?_
  obtain ⟨i, rfl, p⟩ := p
  exact ⟨i, dp_int dv, q _ H1 β1 p e k hk1⟩
theorem we_sl {r : V → Option Int → Option Int → Hp → VK → Prop} {te : TE} {tl th : TO} (h : WE K te ρ β fun x β1 => WO K tl ρ β1 fun lo β2 => WO K th ρ β2 fun hi β3 => ∃ z, RSD K r x lo hi z ∧ P z β3) : WE K (tSl r te tl th) ρ β P := fun os H σ Q hk hs q => by
  refine h os H σ _ hk hs fun v H1 x β1 h1 e1 k1 hk1 d1 => ?_
  refine h1 os H1 σ _ hk1 (slots_keep hk k1 hs) fun lo H2 β2 h2 e2 k2 hk2 => ?_
  have k12 := keep_trans e1 k1 k2
  refine h2 os H2 σ _ hk2 (slots_keep hk k12 hs) fun hi H3 β3 h3 e3 k3 hk3 => ?_
  obtain ⟨z, hr, p⟩ := h3
  have e13 := (e3.trans e2).trans e1
  have k13 := keep_trans (e2.trans e1) k12 k3
  exact hr os H3 v Q hk3.trk (dp_keep hk2 k3 (dp_keep hk1 k2 d1)) fun w H4 s dw => q w H4 z β3 p e13 (keep_trans e13 k13 (Keep.same s)) (hk3.mono s) dw
def cutD (xs : List PyData) (lo hi : Option Int) : List PyData := (xs.drop (HT.sIx xs.length 0 lo)).take (HT.sIx xs.length xs.length hi - HT.sIx xs.length 0 lo)
theorem cut_dp {G : Hp} {vs : List V} {ds : List PyData} {lo hi : Option Int} (h : DpAll K G vs ds) : DpAll K G (cutV vs lo hi) (cutD ds lo hi) := by
  unfold cutV cutD
  rw [dpAll_len h]
  exact dpAll_take _ (dpAll_drop _ h)
theorem rs_list {ds : List PyData} {lo hi : Option Int} : RSD K (rSlL K) (.list ds) lo hi (.list (cutD ds lo hi)) := fun os H v Q ht hv q => by
  obtain ⟨a, vs, rfl, h1, h2⟩ := dp_lst hv
  refine ⟨a, vs, rfl, (off_le os H).seq h1, fun p hp => ?_⟩
  have s := same_new (o := .lst (cutV vs lo hi)) hp
  exact q _ _ s (.lst (.inl (off_upd fun z => ht p z hp)) (dpAll_mono (off_same s) _ _ (cut_dp h2)))
theorem rs_tup {ds : List PyData} {lo hi : Option Int} (hw : ¬ (HT.sIx ds.length 0 lo = 0 ∧ HT.sIx ds.length ds.length hi = ds.length)) : RSD K (rSlT K) (.tuple ds) lo hi (.tuple (cutD ds lo hi)) := fun os H v Q ht hv q => by
  obtain ⟨a, vs, rfl, h1, h2⟩ := dp_tup hv
  refine ⟨a, vs, rfl, same_seqT (off_le os H) h1, by rw [dpAll_len h2]; exact hw, fun p hp => ?_⟩
  have s := same_new (o := .tup (cutV vs lo hi)) hp
  exact q _ _ s (.tup (.inl (.inl (off_upd fun z => ht p z hp))) (dpAll_mono (off_same s) _ _ (cut_dp h2)))

/-! ### list + list, tuple + tuple -/
def rCatS : R2 := fun x y H Q => ∃ l b xs zs, x = .ref l ∧ y = .ref b ∧ Rd H l (.lst xs) ∧ Rd H b (.lst zs) ∧ xs.length + zs.length ≤ sizeLine ∧ ∀ p, H p = none → Q (.ref p) (upd H p (.lst (xs ++ zs)))
theorem op_catS {X : Cx} : OpR X (binaryOp .Add) rCatS := by
  intro pins s σ H x y v u Q I rx ry h
  obtain ⟨l, b, xs, zs, rfl, rfl, hH, hB, hz, q⟩ := h
  cases rx
  cases ry
  obtain ⟨z, its, n, r, e⟩ := hH.ok I.hok
  obtain ⟨z2, its2, n2, r2, e2⟩ := hB.ok I.hok
  have hl := r.length
  have hl2 := r2.length
  refine PySem.P.add_list e e2 ?_ (by rw [List.size_toArray, List.size_toArray]; omega)
  have ea : its.toArray ++ its2.toArray = (its ++ its2).toArray := by simp
  rw [ea]
  exact ⟨.ref _, _, I.lnew (t' := s.toks) (r.append r2) (by rw [List.length_append]; omega), rfl, q _ I.fresh⟩
theorem r2_catL {xs ys : List PyData} (hl : xs.length + ys.length ≤ sizeLine) : R2D K rCatS (.list xs) (.list ys) (.list (xs ++ ys)) := fun os H v u Q ht hv hu q => by
  obtain ⟨a, vs, rfl, h1, h2⟩ := dp_lstR hv
  obtain ⟨b, ws, rfl, h3, h4⟩ := dp_lstR hu
  refine ⟨a, b, vs, ws, rfl, rfl, rd_mono (off_le os H) h1, rd_mono (off_le os H) h3, by rw [dpAll_len h2, dpAll_len h4]; exact hl, fun p hp => ?_⟩
  have s := same_new (o := .lst (vs ++ ws)) hp
  exact q _ _ s (.lst (.inl (off_upd fun z => ht p z hp)) (dpAll_mono (off_same s) _ _ (dpAll_append h2 h4)))
theorem r2_catT {xs ys : List PyData} (hx : xs ≠ []) (hl : xs.length + ys.length ≤ sizeLine) : R2D K (rCatT K) (.tuple xs) (.tuple ys) (.tuple (xs ++ ys)) := fun os H v u Q ht hv hu q => by
  obtain ⟨a, vs, rfl, h1, h2⟩ := dp_tup hv
  obtain ⟨b, ws, rfl, h3, h4⟩ := dp_tup hu
  have e1 := dpAll_len h2
  have e2 := dpAll_len h4
  refine ⟨a, b, vs, ws, rfl, rfl, same_seqT (off_le os H) h1, same_seqT (off_le os H) h3, fun z => ?_, by rw [e1, e2]; exact hl, fun z => ?_, fun z p hp => ?_⟩
  · subst z
    cases h2
    exact hx rfl
  · subst z
    cases h4
    exact q _ H (Same.refl _) (by rw [List.append_nil]; exact .tup h1 h2)
  · have s := same_new (o := .tup (vs ++ ws)) hp
    exact q _ _ s (.tup (.inl (.inl (off_upd fun z => ht p z hp))) (dpAll_mono (off_same s) _ _ (dpAll_append h2 h4)))
/-- ints, lists and tuples are added by one rule -/
def rAddX (K : PySem.W.Frag) : R2 := fun x y H Q => rI0 (fun i j => .int (i + j)) x y H Q ∨ rCatS x y H Q ∨ rCatT K x y H Q
theorem op_addX {X : Cx} : OpR X (binaryOp .Add) (rAddX X.K) := fun pins s σ H x y v u Q I rx ry h => by
  rcases h with h | h | h
  · exact op_add pins s σ H x y v u Q I rx ry h
  · exact op_catS pins s σ H x y v u Q I rx ry h
  · exact op_catT pins s σ H x y v u Q I rx ry h
theorem r2_addI {i j : Int} : R2D K (rAddX K) (.int i) (.int j) (.int (i + j)) := fun os H v u Q ht hv hu q => .inl (r2_int os H v u Q ht hv hu q)
theorem r2_addL {xs ys : List PyData} (hl : xs.length + ys.length ≤ sizeLine) : R2D K (rAddX K) (.list xs) (.list ys) (.list (xs ++ ys)) := fun os H v u Q ht hv hu q => .inr (.inl (r2_catL hl os H v u Q ht hv hu q))
theorem r2_addT {xs ys : List PyData} (hx : xs ≠ []) (hl : xs.length + ys.length ≤ sizeLine) : R2D K (rAddX K) (.tuple xs) (.tuple ys) (.tuple (xs ++ ys)) := fun os H v u Q ht hv hu q => .inr (.inr (r2_catT hx hl os H v u Q ht hv hu q))

/-! ### built-ins -/
theorem rc_abs {i : Int} : RCD K (fun xs H Q => ∃ i, xs = [.int i] ∧ Q (.int (if i < 0 then -i else i)) H) [.int i] (.int (if i < 0 then -i else i)) := fun os H vs Q ht hv q => by
  cases hv with
  | cons a b => cases b; cases a; exact ⟨i, rfl, q _ H (Same.refl _) (.int _)⟩
def rInt1 : List V → Hp → VK → Prop := fun xs H Q => (∃ i, xs = [.int i] ∧ Q (.int i) H) ∨ ∃ k, xs = [.bl k] ∧ Q (.int (if k then 1 else 0)) H
theorem call_int1' {X : Cx} : CallR X (.type "int") rInt1 := call_int1
theorem rc_intI {i : Int} : RCD K rInt1 [.int i] (.int i) := fun os H vs Q ht hv q => by
  cases hv with
  | cons a b => cases b; cases a; exact .inl ⟨i, rfl, q _ H (Same.refl _) (.int _)⟩
theorem rc_intB {b : Bool} : RCD K rInt1 [.bool b] (.int (if b then 1 else 0)) := fun os H vs Q ht hv q => by
  cases hv with
  | cons a c => cases c; cases a; exact .inr ⟨b, rfl, q _ H (Same.refl _) (.int _)⟩
def rAbs : List V → Hp → VK → Prop := fun xs H Q => ∃ i, xs = [.int i] ∧ Q (.int (if i < 0 then -i else i)) H
theorem call_abs' {X : Cx} : CallR X (.builtin "abs") rAbs := call_abs
theorem rc_absI {i : Int} : RCD K rAbs [.int i] (.int (if i < 0 then -i else i)) := rc_abs
def rMax : List V → Hp → VK → Prop := fun xs H Q => ∃ i j, xs = [.int i, .int j] ∧ Q (.int (if j > i then j else i)) H
def rMin : List V → Hp → VK → Prop := fun xs H Q => ∃ i j, xs = [.int i, .int j] ∧ Q (.int (if j < i then j else i)) H
theorem call_max' {X : Cx} (hc : X.calm = true) : CallR X (.builtin "max") rMax := call_max2 hc
theorem call_min' {X : Cx} (hc : X.calm = true) : CallR X (.builtin "min") rMin := call_min2 hc
theorem rc_max {i j : Int} : RCD K rMax [.int i, .int j] (.int (if j > i then j else i)) := fun os H vs Q ht hv q => by
  cases hv with
  | cons a b => cases b with
    | cons b c => cases c; cases a; cases b; exact ⟨i, j, rfl, q _ H (Same.refl _) (.int _)⟩
theorem rc_min {i j : Int} : RCD K rMin [.int i, .int j] (.int (if j < i then j else i)) := fun os H vs Q ht hv q => by
  cases hv with
  | cons a b => cases b with
    | cons b c => cases c; cases a; cases b; exact ⟨i, j, rfl, q _ H (Same.refl _) (.int _)⟩
def rLenX (K : PySem.W.Frag) : List V → Hp → VK → Prop := fun xs H Q => ∃ x n, xs = [x] ∧ LenV K x H n ∧ Q (.int n) H
theorem call_lenX {X : Cx} : CallR X (.builtin "len") (rLenX X.K) := call_len
theorem rc_lenL {ds : List PyData} : RCD K (rLenX K) [.list ds] (.int (ds.length : Int)) := fun os H vs Q ht hv q => by
  cases hv with
  | cons a b =>
    cases b
    obtain ⟨p, ws, rfl, h1, h2⟩ := dp_lst a
    refine ⟨_, _, rfl, .inl ⟨ws, (off_le os H).seq h1, rfl⟩, ?_⟩
    rw [dpAll_len h2]
    exact q _ H (Same.refl _) (.int _)
theorem rc_lenT {ds : List PyData} : RCD K (rLenX K) [.tuple ds] (.int (ds.length : Int)) := fun os H vs Q ht hv q => by
  cases hv with
  | cons a b =>
    cases b
    obtain ⟨p, ws, rfl, h1, h2⟩ := dp_tup a
    refine ⟨_, _, rfl, .inr ⟨ws, same_seqT (off_le os H) h1, rfl⟩, ?_⟩
    rw [dpAll_len h2]
    exact q _ H (Same.refl _) (.int _)
theorem rc_lenS {x : Str} (h : x.length ≤ sizeLine) : RCD K (rLenX K) [.str x] (.int (x.length : Int)) := fun os H vs Q ht hv q => by
  cases hv with
  | cons a b => cases b; cases a; exact ⟨_, _, rfl, ⟨h, rfl⟩, q _ H (Same.refl _) (.int _)⟩
/-- data that are ints, bools -/
theorem dpAll_ints {G : Hp} : ∀ {vs : List V} {ns : List Int}, DpAll K G vs (ns.map .int) → vs = ns.map V.int
  | _, [], h => by cases h; rfl
  | _, n :: ns, h => by
    cases h with
    | cons a b => rw [dp_int a, dpAll_ints b]; rfl
theorem dpAll_bools {G : Hp} : ∀ {vs : List V} {ns : List Bool}, DpAll K G vs (ns.map .bool) → vs = ns.map V.bl
  | _, [], h => by cases h; rfl
  | _, n :: ns, h => by
    cases h with
    | cons a b => rw [dp_bool a, dpAll_bools b]; rfl
theorem rc_sum {ns : List Int} : RCD K (rSum K) [.list (ns.map .int)] (.int ns.sum) := fun os H vs Q ht hv q => by
  cases hv with
  | cons a b =>
    cases b
    obtain ⟨p, ws, rfl, h1, h2⟩ := dp_lst a
    have e := dpAll_ints h2
    subst e
    exact ⟨p, ns, rfl, (off_le os H).seq h1, q _ H (Same.refl _) (.int _)⟩
theorem rc_all {bs : List Bool} : RCD K (rAll K) [.list (bs.map .bool)] (.bool (bs.all id)) := fun os H vs Q ht hv q => by
  cases hv with
  | cons a b =>
    cases b
    obtain ⟨p, ws, rfl, h1, h2⟩ := dp_lst a
    have e := dpAll_bools h2
    subst e
    exact ⟨p, bs, rfl, (off_le os H).seq h1, q _ H (Same.refl _) (.bl _)⟩
def rListOf (K : PySem.W.Frag) : List V → Hp → VK → Prop := fun xs H Q => ∃ p ys, xs = [.ref p] ∧ (SqL K H p ys ∨ SqT K H p ys) ∧ ∀ l, H l = none → Q (.ref l) (upd H l (.lst ys))
theorem call_listX {X : Cx} : CallR X (.type "list") (rListOf X.K) := call_list_of
theorem rc_listL {ds : List PyData} : RCD K (rListOf K) [.list ds] (.list ds) := fun os H vs Q ht hv q => by
  cases hv with
  | cons a b =>
    cases b
    obtain ⟨p, ws, rfl, h1, h2⟩ := dp_lst a
    refine ⟨p, ws, rfl, .inl ((off_le os H).seq h1), fun l hl => ?_⟩
    have s := same_new (o := .lst ws) hl
    exact q _ _ s (.lst (.inl (off_upd fun z => ht l z hl)) (dpAll_mono (off_same s) _ _ h2))
theorem rc_listT {ds : List PyData} : RCD K (rListOf K) [.tuple ds] (.list ds) := fun os H vs Q ht hv q => by
  cases hv with
  | cons a b =>
    cases b
    obtain ⟨p, ws, rfl, h1, h2⟩ := dp_tup a
    refine ⟨p, ws, rfl, .inr (same_seqT (off_le os H) h1), fun l hl => ?_⟩
    have s := same_new (o := .lst ws) hl
    exact q _ _ s (.lst (.inl (off_upd fun z => ht l z hl)) (dpAll_mono (off_same s) _ _ h2))
def rTupOf (K : PySem.W.Frag) : List V → Hp → VK → Prop := fun xs H Q => ∃ p ys, xs = [.ref p] ∧ ((SqL K H p ys ∧ ∀ l, H l = none → Q (.ref l) (upd H l (.tup ys))) ∨ (SqT K H p ys ∧ Q (.ref p) H))
theorem call_tupX {X : Cx} : CallR X (.type "tuple") (rTupOf X.K) := call_tuple_of
theorem rc_tupL {ds : List PyData} : RCD K (rTupOf K) [.list ds] (.tuple ds) := fun os H vs Q ht hv q => by
  cases hv with
  | cons a b =>
    cases b
    obtain ⟨p, ws, rfl, h1, h2⟩ := dp_lst a
    refine ⟨p, ws, rfl, .inl ⟨(off_le os H).seq h1, fun l hl => ?_⟩⟩
    have s := same_new (o := .tup ws) hl
    exact q _ _ s (.tup (.inl (.inl (off_upd fun z => ht l z hl))) (dpAll_mono (off_same s) _ _ h2))
theorem rc_tupT {ds : List PyData} : RCD K (rTupOf K) [.tuple ds] (.tuple ds) := fun os H vs Q ht hv q => by
  cases hv with
  | cons a b =>
    cases b
    obtain ⟨p, ws, rfl, h1, h2⟩ := dp_tup a
    exact ⟨p, ws, rfl, .inr ⟨same_seqT (off_le os H) h1, q _ H (Same.refl _) a⟩⟩

/-! ### isinstance -/
def tyN : PyData → String
  | .none => "NoneType"
  | .bool _ => "bool"
  | .int _ => "int"
  | .str _ => "str"
  | .list _ => "list"
  | .tuple _ => "tuple"
  | .dict _ => "dict"
def isInt : PyData → Bool
  | .int _ | .bool _ => true
  | _ => false
def isBool : PyData → Bool
  | .bool _ => true
  | _ => false
def isStr : PyData → Bool
  | .str _ => true
  | _ => false
def isList : PyData → Bool
  | .list _ => true
  | _ => false
def isTup : PyData → Bool
  | .tuple _ => true
  | _ => false
def isDct : PyData → Bool
  | .dict _ => true
  | _ => false
theorem tyX_of {H : Hp} {v : V} {d : PyData} (h : Dp K H v d) : TyX K H v (.type (tyN d)) := by
  cases h with
  | non => exact .base .non
  | bl b => exact .base (.bl b)
  | int i => exact .base (.int i)
  | str x => exact .base (.str x)
  | lst hs _ =>
    rcases hs with h | ⟨o, h⟩
    · exact .base (.lst h)
    · exact .base (.frz h)
  | tup hs _ =>
    rcases hs with (h | ⟨o, h⟩) | ⟨o, its, n, h, hc, _⟩
    · exact .base (.tup h)
    · exact .fTuple h
    · exact .kTuple h hc
def IsG (T : String) (g : PyData → Bool) : Prop := ∀ d : PyData, kitB (tyN d) T = some (g d)
theorem isg_of {T : String} {g : PyData → Bool} {l : List (Option Bool)} (h : ["NoneType", "bool", "int", "str", "list", "tuple", "dict"].map (fun n => kitB n T) = l)
    (hg : l = [some (g .none), some (g (.bool true)), some (g (.int 0)), some (g (.str ⟨#[]⟩)), some (g (.list [])), some (g (.tuple [])), some (g (.dict []))])
    (hb : ∀ b, g (.bool b) = g (.bool true)) (hi : ∀ i, g (.int i) = g (.int 0)) (hs : ∀ x, g (.str x) = g (.str ⟨#[]⟩)) (hl : ∀ x, g (.list x) = g (.list [])) (ht : ∀ x, g (.tuple x) = g (.tuple [])) (hd : ∀ x, g (.dict x) = g (.dict [])) : IsG T g := by
  rw [hg] at h
  simp only [List.map_cons, List.map_nil, List.cons.injEq, and_true] at h
  obtain ⟨h1, h2, h3, h4, h5, h6, h7⟩ := h
  intro d
  cases d with
  | none => exact h1
  | bool b => rw [hb b]; exact h2
  | int i => rw [hi i]; exact h3
  | str x => rw [hs x]; exact h4
  | list x => rw [hl x]; exact h5
  | tuple x => rw [ht x]; exact h6
  | dict x => rw [hd x]; exact h7
theorem isg_int : IsG "int" isInt := isg_of (l := [some false, some true, some true, some false, some false, some false, some false]) (by decide +kernel) rfl (fun _ => rfl) (fun _ => rfl) (fun _ => rfl) (fun _ => rfl) (fun _ => rfl) (fun _ => rfl)
theorem isg_bool : IsG "bool" isBool := isg_of (l := [some false, some true, some false, some false, some false, some false, some false]) (by decide +kernel) rfl (fun _ => rfl) (fun _ => rfl) (fun _ => rfl) (fun _ => rfl) (fun _ => rfl) (fun _ => rfl)
theorem isg_str : IsG "str" isStr := isg_of (l := [some false, some false, some false, some true, some false, some false, some false]) (by decide +kernel) rfl (fun _ => rfl) (fun _ => rfl) (fun _ => rfl) (fun _ => rfl) (fun _ => rfl) (fun _ => rfl)
theorem isg_list : IsG "list" isList := isg_of (l := [some false, some false, some false, some false, some true, some false, some false]) (by decide +kernel) rfl (fun _ => rfl) (fun _ => rfl) (fun _ => rfl) (fun _ => rfl) (fun _ => rfl) (fun _ => rfl)
theorem isg_tuple : IsG "tuple" isTup := isg_of (l := [some false, some false, some false, some false, some false, some true, some false]) (by decide +kernel) rfl (fun _ => rfl) (fun _ => rfl) (fun _ => rfl) (fun _ => rfl) (fun _ => rfl) (fun _ => rfl)
theorem isg_dict : IsG "dict" isDct := isg_of (l := [some false, some false, some false, some false, some false, some false, some true]) (by decide +kernel) rfl (fun _ => rfl) (fun _ => rfl) (fun _ => rfl) (fun _ => rfl) (fun _ => rfl) (fun _ => rfl)
theorem we_isi {T : String} {g : PyData → Bool} {ta : TE} (hT : IsG T g) (h : WE K ta ρ β fun d β1 => P (.bool (g d)) β1) : WE K (tCB (rIsi K) (tCons ta (tCons (tC (.ty T)) tNil))) ρ β P := fun os H σ Q hk hs q => by
  refine h os H σ _ hk hs fun v H1 d β1 p e k hk1 dv => ?_
  exact ⟨v, .ty T, .type (tyN d), .type T, g d, rfl, .ty T, tyX_of (dp_off dv), kit_ty (hT d), q _ H1 _ β1 p e k hk1 (.bl _)⟩
theorem kitAny_two {d : PyData} {T1 T2 : String} {g1 g2 : PyData → Bool} (h1 : IsG T1 g1) (h2 : IsG T2 g2) : PySem.W.kitAny K (.type (tyN d)) [.type T1, .type T2] = some (g1 d || g2 d) := by
  refine kitAny_cons (kit_ty (h1 d)) (fun e => kitAny_cons (kit_ty (h2 d)) (fun e2 => by rw [e, e2]; exact kitAny_nil) fun e2 => by rw [e2, Bool.or_true]) fun e => by rw [e, Bool.true_or]
theorem we_isi2 {T1 T2 : String} {g1 g2 : PyData → Bool} {ta : TE} (h1 : IsG T1 g1) (h2 : IsG T2 g2) (h : WE K ta ρ β fun d β1 => P (.bool (g1 d || g2 d)) β1) :
    WE K (tCB (rIsiT K) (tCons ta (tCons (tTup (tCons (tC (.ty T1)) (tCons (tC (.ty T2)) tNil))) tNil))) ρ β P := fun os H σ Q hk hs q => by
  refine h os H σ _ hk hs fun v H1 d β1 p e k hk1 dv => ?_
  refine ⟨by show 2 ≤ sizeLine; decide, fun t ht => ?_⟩
  have s := same_new (o := .tup [.ty T1, .ty T2]) ht
  exact ⟨v, t, [.ty T1, .ty T2], .type (tyN d), [.type T1, .type T2], _, rfl, upd_same, .cons (.ty T1) (.cons (.ty T2) .nil), tyX_of (dp_mono s _ _ (dp_off dv)), kitAny_two h1 h2,
    q _ _ _ β1 p e (keep_trans e k (Keep.same s)) (hk1.mono s) (.bl _)⟩
end
end DS

set_option Elab.async false
set_option linter.all false
set_option maxRecDepth 100000
set_option maxHeartbeats 4000000
/-! DS4: defs, their promises over data; owned lists. -/
namespace DS
open PySem PySem.Spec PyProof.Rows L2
abbrev EN : XK := fun _ _ _ => False
abbrev CXN : CXT := fun _ _ _ _ _ _ => False
theorem passN {X : Cx} {E : XK} : Passes CXN X E := fun _ _ _ _ _ _ _ h => h.elim

/-! ### owned lists -/
section
variable {K : PySem.W.Frag} {ρ : List Slot} {β : Bt} {P : PyData → Bt → Prop} {E : Out}
theorem dom_set : ∀ {β : Bt} {j : Nat} {b : Addr} {bx bx' : Oc}, β[j]? = some (b, bx) → dom (β.set j (b, bx')) = dom β
  | [], _, _, _, _, h => by simp at h
  | p :: β, 0, _, _, _, h => by simp at h; subst h; rfl
  | p :: β, j + 1, b, bx, bx', h => by
    show p.1 :: dom (β.set j (b, bx')) = p.1 :: dom β
    rw [dom_set (β := β) (j := j) (bx := bx) (by simpa using h)]
def dropA (b : Addr) (os : List Addr) : List Addr := os.filter fun a => !(a == b)
theorem mem_dropA {a b : Addr} {os : List Addr} : a ∈ dropA b os ↔ a ∈ os ∧ a ≠ b := by
  unfold dropA
  rw [List.mem_filter]
  simp
theorem own_get {os : List Addr} {H : Hp} : ∀ {β : Bt} {j : Nat} {b : Addr} {bx : Oc}, OwnR K os H β → β[j]? = some (b, bx) → b ∈ os ∧ ∃ o, H b = some o ∧ OcR K (Off os H) bx o
  | [], _, _, _, _, e => by simp at e
  | (a, ds) :: β, 0, b, bx, h, e => by simp at e; obtain ⟨rfl, rfl⟩ := e; exact ⟨h.1, h.2.1⟩
  | (a, ds) :: β, j + 1, b, bx, h, e => own_get (j := j) h.2.2 (by simpa using e)
theorem mem_dom {j : Nat} {b : Addr} {bx : Oc} (hj : β[j]? = some (b, bx)) : b ∈ dom β := List.mem_map.mpr ⟨_, List.mem_of_getElem? hj, rfl⟩
theorem own_set {os : List Addr} {H H2 : Hp} {b : Addr} (hb : b ∈ os) (kp : ∀ a o, a ≠ b → H a = some o → H2 a = some o) {bx' : Oc} (new : ∃ o, H2 b = some o ∧ OcR K (Off os H2) bx' o) :
    ∀ {β : Bt} {j : Nat} {bx : Oc}, (dom β).Nodup → OwnR K os H β → β[j]? = some (b, bx) → OwnR K os H2 (β.set j (b, bx')) := by
  have sm : Same (Off os H) (Off os H2) := fun a o e => by
    obtain ⟨e1, e2⟩ := off_some e
    rw [off_out e1]
    exact kp a o (fun z => e1 (by rw [z]; exact hb)) e2
  have keep : ∀ {β : Bt}, b ∉ dom β → OwnR K os H β → OwnR K os H2 β := by
    intro β
    induction β with
    | nil => intro _ _; trivial
    | cons p β ih =>
      obtain ⟨a, ds⟩ := p
      rintro hn ⟨h1, ⟨vs, h2, h3⟩, h4⟩
      have hne : a ≠ b := fun z => hn (by simp [z])
      exact ⟨h1, ⟨vs, kp a _ hne h2, ocR_mono sm h3⟩, ih (fun z => hn (List.mem_cons_of_mem _ z)) h4⟩
  intro β
  induction β with
  | nil => intro j bx _ _ e; simp at e
  | cons p β ih =>
    obtain ⟨a, ds⟩ := p
    rintro j bx nd ⟨h1, ⟨vs, h2, h3⟩, h4⟩ e
    have nd' : a ∉ dom β ∧ (dom β).Nodup := List.nodup_cons.mp nd
    cases j with
    | zero =>
      simp at e
      obtain ⟨rfl, rfl⟩ := e
      exact ⟨hb, new, keep nd'.1 h4⟩
    | succ j =>
      have e' : β[j]? = some (b, bx) := by simpa using e
      have hne : a ≠ b := fun z => nd'.1 (by rw [z]; exact mem_dom e')
      exact ⟨h1, ⟨vs, kp a _ hne h2, ocR_mono sm h3⟩, ih nd'.2 h4 e'⟩
theorem hok_set {os : List Addr} {H H2 : Hp} {b : Addr} {j : Nat} {bx bx' : Oc} (hk : Hok K os H β) (hj : β[j]? = some (b, bx)) (kp : ∀ a o, a ≠ b → H a = some o → H2 a = some o)
    (new : ∃ o, H2 b = some o ∧ OcR K (Off os H2) bx' o) : Hok K os H2 (β.set j (b, bx')) where
  trk := fun a ha z => by
    by_cases e : a = b
    · obtain ⟨vs, h, _⟩ := new
      rw [e, h] at z
      cases z
    · cases q : H a with
      | none => exact hk.trk a ha q
      | some o => rw [kp a o e q] at z; cases z
  nd := by rw [dom_set hj]; exact hk.nd
  own := own_set (own_get hk.own hj).1 kp new hk.nd hk.own hj
theorem keep_one {H H2 : Hp} {b : Addr} {j : Nat} {bx : Oc} (hj : β[j]? = some (b, bx)) (kp : ∀ a o, a ≠ b → H a = some o → H2 a = some o) : Keep β H H2 := fun a o h => kp a o fun z => h (by rw [z]; exact mem_dom hj)
theorem slot_raw {os : List Addr} {H : Hp} {σ : L2.St} {i : Nat} {v : V} (hs : SlotsR K (Off os H) σ ρ) (h : ρ[i]? = some (.raw v)) : σ[i]? = some (some v) := by
  obtain ⟨o, e, q⟩ := slotsR_get hs h
  rw [e, show o = some v from q]
/-- b[i], b owned -/
theorem we_ixO {i : Nat} {b : Addr} {te : TE} (hi : ρ[i]? = some (.raw (.ref b))) (h : WE K te ρ β fun y β1 => ∃ (j : Nat) (k : Int) (bx : List PyData) (d : PyData), y = .int k ∧ β1[j]? = some (b, .lst bx) ∧ atI bx k = some d ∧ P d β1) : WE K (tOp (rIxX K) (tVar i) te) ρ β P := fun os H σ Q hk hs q => by
  refine ⟨.ref b, slot_raw hs hi, h os H σ _ hk hs fun v H1 y β1 p e k hk1 dv => ?_⟩
  obtain ⟨j, z, bx, d, rfl, hj, ha, p⟩ := p
  obtain ⟨_, _, hb, vs, rfl, hd⟩ := own_get hk1.own hj
  obtain ⟨w, hw, dw⟩ := atI_dp hd ha
  exact .inl ⟨b, vs, z, w, rfl, dp_int dv, .inl (.inl hb), hw, q w H1 d β1 p e k hk1 dw⟩
/-- b[i] = e, b owned -/
theorem ws_setO {i : Nat} {b : Addr} {te ti : TE} (hi : ρ[i]? = some (.raw (.ref b)))
    (h : WE K te ρ β fun d β1 => WE K ti ρ β1 fun y β2 => ∃ (j : Nat) (k : Int) (n : Nat) (bx : List PyData), y = .int k ∧ β2[j]? = some (b, .lst bx) ∧ ixN bx.length k = some n ∧ E.nx ρ (β2.set j (b, .lst (bx.set n d)))) : WS K (tAsg te (gSub (tVar i) ti rSetL)) ρ β E := fun os0 H0 os H σ D r hk hs x => by
  refine h os H σ _ hk hs fun v H1 d β1 p e k hk1 dv => ?_
  refine ⟨.ref b, slot_raw (slots_keep hk k hs) hi, p os H1 σ _ hk1 (slots_keep hk k hs) fun y H2 yd β2 p2 e2 k2 hk2 dy => ?_⟩
  obtain ⟨j, z, n, bx, rfl, hj, hn, hE⟩ := p2
  obtain ⟨hbo, _, hb, vs, rfl, hd⟩ := own_get hk2.own hj
  refine ⟨b, vs, z, n, rfl, dp_int dy, hb, by rw [dpAll_len hd]; exact hn, ?_⟩
  have dv2 := dp_keep hk1 k2 dv
  have kp : ∀ a o, a ≠ b → H2 a = some o → (upd H2 b (.lst (vs.set n v))) a = some o := fun a o ha q => by rw [upd_ne ha]; exact q
  have hk3 : Hok K os (upd H2 b (.lst (vs.set n v))) (β2.set j (b, .lst (bx.set n d))) := hok_set hk2 hj kp ⟨_, upd_same, _, rfl, by rw [off_updIn hbo]; exact dpAll_set dv2 n hd⟩
  have k3 := keep_one hj kp
  have e12 := e2.trans e
  have k12 := keep_trans e k k2
  have e13 := (dom_set (bx' := .lst (bx.set n d)) hj).trans e12
  have k13 := keep_trans e12 k12 k3
  exact x.nx os σ _ ρ _ hE (r.step e13 k13) (DK.of hk k13) hk3 (slots_keep hk k13 hs)
/-- b.append(e), b owned -/
theorem ws_appO {i j : Nat} {b : Addr} {te : TE} (hi : ρ[i]? = some (.raw (.ref b)))
    (hl : ∃ bx, β[j]? = some (b, .lst bx)) (h : WE K te ρ β fun d β1 => ∃ bx, β1[j]? = some (b, .lst bx) ∧ bx.length < sizeLine ∧ E.nx ρ (β1.set j (b, .lst (bx ++ [d])))) : WS K (tDrop (tBM K "list" rAppend (tVar i) (tCons te tNil))) ρ β E := fun os0 H0 os H σ D r hk hs x => by
  obtain ⟨bx0, hj0⟩ := hl
  obtain ⟨_, _, hv0, vs0, rfl, _⟩ := own_get hk.own hj0
  refine ⟨.ref b, slot_raw hs hi, .inl ⟨rfl, vs0, .inl (.inl hv0)⟩, h os H σ _ hk hs fun v H1 d β1 p e k hk1 dv => ?_⟩
  obtain ⟨bx, hj, hz, hE⟩ := p
  obtain ⟨hbo, _, hb, vs, rfl, hd⟩ := own_get hk1.own hj
  refine ⟨b, vs, v, rfl, rfl, hb, by rw [dpAll_len hd]; exact hz, ?_⟩
  have kp : ∀ a o, a ≠ b → H1 a = some o → (upd H1 b (.lst (vs ++ [v]))) a = some o := fun a o ha q => by rw [upd_ne ha]; exact q
  have hk3 : Hok K os (upd H1 b (.lst (vs ++ [v]))) (β1.set j (b, .lst (bx ++ [d]))) := hok_set hk1 hj kp ⟨_, upd_same, _, rfl, by rw [off_updIn hbo]; exact dpAll_append hd (.cons dv .nil)⟩
  have k3 := keep_one hj kp
  have e13 := (dom_set (bx' := .lst (bx ++ [d])) hj).trans e
  have k13 := keep_trans e k k3
  exact x.nx os σ _ ρ _ hE (r.step e13 k13) (DK.of hk k13) hk3 (slots_keep hk k13 hs)
/-- x = [..], x owned from here on -/
theorem own_app {os : List Addr} {H : Hp} : ∀ {β γ : Bt}, OwnR K os H β → OwnR K os H γ → OwnR K os H (β ++ γ)
  | [], _, _, h => h
  | (a, ds) :: β, γ, ⟨h1, h2, h3⟩, h => ⟨h1, h2, own_app h3 h⟩
theorem own_new {os : List Addr} {H : Hp} {D : Addr} {vs : List V} {ds : List PyData} (hk : Hok K os H β) (hD : H D = none) (ha : DpAll K (Off os H) vs ds) : Hok K (D :: os) (upd H D (.lst vs)) (β ++ [(D, .lst ds)]) where
  trk := fun a h z => by
    by_cases e : a = D
    · rw [e, upd_same] at z; cases z
    · rw [upd_ne e] at z
      exact hk.trk a ((List.mem_cons.mp h).resolve_left e) z
  nd := by
    unfold dom
    rw [List.map_append, List.nodup_append]
    refine ⟨hk.nd, by simp, fun a h b h2 z => ?_⟩
    simp at h2
    exact new_out hk hD (hk.mem D (by rw [← h2, ← z]; exact h))
  own := own_app (own_more hD hk.own) ⟨by simp, ⟨_, upd_same, vs, rfl, dpAll_mono (off_more hD) _ _ ha⟩, trivial⟩
theorem reach_new {os0 b0 os : List Addr} {H0 H : Hp} {D : Addr} {o : HO} {ds : List PyData} (r : Reach os0 b0 H0 os β H) (hk : Hok K os H β) (hD : H D = none) : Reach os0 b0 H0 (D :: os) (β ++ [(D, .lst ds)]) (upd H D o) where
  os := fun a h => List.mem_cons_of_mem _ (r.os a h)
  keep := fun a u h1 h2 => by
    have q := r.keep a u h1 h2
    rw [upd_ne (ne_of_none q hD)]
    exact q
  dom := fun a h => by
    unfold dom
    rw [List.map_append]
    exact List.mem_append.mpr (.inl (r.dom a h))
  nw := fun a h => by
    unfold dom at h
    rw [List.map_append] at h
    rcases List.mem_append.mp h with h | h
    · exact r.nw a h
    · simp at h
      subst h
      right
      cases q : H0 a with
      | none => rfl
      | some u =>
        by_cases hb : a ∈ b0
        · exact absurd hD (hk.trk a (hk.mem a (r.dom a hb)))
        · rw [r.keep a u hb q] at hD; cases hD
  trk := r.trk
theorem ws_newO {i : Nat} {ta : TA} (h : WA K ta ρ β fun ds β1 => ds.length ≤ sizeLine ∧ ∀ p, p ∉ dom β1 → E.nx (ρ.set i (.raw (.ref p))) (β1 ++ [(p, .lst ds)])) : WS K (tAsg (tLst ta) (gName i)) ρ β E := fun os0 H0 os H σ D r hk hs x => by
  refine h os H σ _ hk hs fun vs H1 ds β1 p e k hk1 dv => ?_
  obtain ⟨hl, p⟩ := p
  refine ⟨by rw [dpAll_len dv]; exact hl, fun a na => ?_⟩
  have ha : a ∉ dom β1 := fun z => new_out hk1 na (hk1.mem a z)
  exact x.nx (a :: os) _ _ _ _ (p a ha) (reach_new (r.step e k) hk1 na) ((DK.of hk k).trans fun v d hd => dp_mono (off_more na) _ _ hd) (own_new hk1 na dv)
    (slotsR_set (s := .raw (.ref a)) rfl i (slotsR_mono (off_more na) (slots_keep hk k hs)))
/-- an owned list that is not the entry's is data from here on -/
theorem own_erase {os : List Addr} {H : Hp} {b : Addr} : ∀ {β : Bt} {j : Nat} {bx : Oc}, (dom β).Nodup → OwnR K os H β → β[j]? = some (b, bx) → OwnR K (dropA b os) H (β.eraseIdx j) := by
  have sub : ∀ a ∈ dropA b os, a ∈ os := fun a h => (mem_dropA.mp h).1
  have keep : ∀ {β : Bt}, b ∉ dom β → OwnR K os H β → OwnR K (dropA b os) H β := by
    intro β
    induction β with
    | nil => intro _ _; trivial
    | cons p β ih =>
      obtain ⟨a, ds⟩ := p
      rintro hn ⟨h1, ⟨vs, h2, h3⟩, h4⟩
      have hne : a ≠ b := fun z => hn (by simp [z])
      exact ⟨mem_dropA.mpr ⟨h1, hne⟩, ⟨vs, h2, ocR_mono (off_sub sub) h3⟩, ih (fun z => hn (List.mem_cons_of_mem _ z)) h4⟩
  intro β
  induction β with
  | nil => intro j bx _ _ e; simp at e
  | cons p β ih =>
    obtain ⟨a, ds⟩ := p
    rintro j bx nd ⟨h1, ⟨vs, h2, h3⟩, h4⟩ e
    have nd' : a ∉ dom β ∧ (dom β).Nodup := List.nodup_cons.mp nd
    cases j with
    | zero =>
      simp at e
      obtain ⟨rfl, rfl⟩ := e
      exact keep nd'.1 h4
    | succ j =>
      have e' : β[j]? = some (b, bx) := by simpa using e
      have hne : a ≠ b := fun z => nd'.1 (by rw [z]; exact mem_dom e')
      exact ⟨mem_dropA.mpr ⟨h1, hne⟩, ⟨vs, h2, ocR_mono (off_sub sub) h3⟩, ih nd'.2 h4 e'⟩
theorem mem_erase {j : Nat} {a : Addr} (h : a ∈ dom (β.eraseIdx j)) : a ∈ dom β := by
  obtain ⟨p, h1, h2⟩ := List.mem_map.mp h
  exact List.mem_map.mpr ⟨p, List.mem_of_mem_eraseIdx h1, h2⟩
theorem erase_mem {j : Nat} {a b : Addr} {bx : Oc} (hj : β[j]? = some (b, bx)) (hne : a ≠ b) (h : a ∈ dom β) : a ∈ dom (β.eraseIdx j) := by
  obtain ⟨p, h1, h2⟩ := List.mem_map.mp h
  obtain ⟨k, hk, e⟩ := List.getElem_of_mem h1
  refine List.mem_map.mpr ⟨p, ?_, h2⟩
  rw [List.mem_eraseIdx_iff_getElem?]
  refine ⟨k, fun z => ?_, by rw [List.getElem?_eq_getElem hk, e]⟩
  subst z
  rw [List.getElem?_eq_getElem hk, e] at hj
  cases hj
  exact hne h2.symm
theorem ws_frz {i j : Nat} {b : Addr} {bx : List PyData} {t : TS} (hi : ρ[i]? = some (.raw (.ref b))) (hj : β[j]? = some (b, .lst bx)) (hb : b ∉ E.base) (h : WS K t (ρ.set i (.dat (.list bx))) (β.eraseIdx j) E) : WS K t ρ β E := fun os0 H0 os H σ D r hk hs x => by
  obtain ⟨hbo, _, hbv, vs, rfl, hd⟩ := own_get hk.own hj
  have sub : ∀ a ∈ dropA b os, a ∈ os := fun a h => (mem_dropA.mp h).1
  have hb0 : b ∉ os0 := fun z => by
    rcases r.nw b (mem_dom hj) with q | q
    · exact hb q
    · exact r.trk b z q
  have nd : (dom (β.eraseIdx j)).Nodup := by
    exact hk.nd.sublist ((List.eraseIdx_sublist _ _).map _)
  have hk2 : Hok K (dropA b os) H (β.eraseIdx j) := ⟨fun a h => hk.trk a (sub a h), nd, own_erase hk.nd hk.own hj⟩
  have hs2 : SlotsR K (Off (dropA b os) H) σ ρ := slotsR_mono (off_sub sub) hs
  have e := slot_raw hs hi
  have hs3 : SlotsR K (Off (dropA b os) H) (σ.set i (some (.ref b))) (ρ.set i (.dat (.list bx))) :=
    slotsR_set (sdat (.lst (.inl (by rw [off_out fun z => (mem_dropA.mp z).2 rfl]; exact hbv)) (dpAll_mono (off_sub sub) _ _ hd))) i hs2
  have es : σ.set i (some (.ref b)) = σ := by
    refine List.ext_getElem? fun k => ?_
    rw [List.getElem?_set]
    split
    · rename_i z
      subst z
      rw [e]
      split
      · rfl
      · rename_i z2
        have := (List.getElem?_eq_some_iff.mp e).1
        omega
    · rfl
  rw [es] at hs3
  refine h os0 H0 _ H σ D ⟨fun a h => mem_dropA.mpr ⟨r.os a h, fun z => hb0 (by rw [← z]; exact h)⟩, r.keep, fun a h => erase_mem hj (fun z => hb (by rw [← z]; exact h)) (r.dom a h), fun a h => r.nw a (mem_erase h), r.trk⟩ hk2 hs3
    (x.step fun v d hd => dp_mono (off_sub sub) _ _ hd)
end

/-! ### defs -/
def startS (N : List Str) (ds : List PyData) : List Slot := ds.map .dat ++ List.replicate (N.length - ds.length) .no
theorem slots_rep {K : PySem.W.Frag} {G : Hp} : ∀ n : Nat, SlotsR K G (List.replicate n none) (List.replicate n .no)
  | 0 => trivial
  | n + 1 => ⟨trivial, slots_rep n⟩
theorem slots_start {K : PySem.W.Frag} {G : Hp} {N : List Str} {n : Nat} : ∀ {vs : List V} {ds : List PyData}, DpAll K G vs ds → SlotsR K G (vs.map some ++ List.replicate n none) (ds.map .dat ++ List.replicate n .no)
  | _, _, .nil => slots_rep n
  | _, _, .cons a b => ⟨⟨_, rfl, a⟩, slots_start (N := N) b⟩
section
variable {P : Program} {w : World} {K : PySem.W.Frag} {mg : Str → Option Value} {base : Heap} {x qual : Str} {params : Arguments} {body : List Stmt} {scope : Scope} {dvs : List V} {kws : List (Str × V)} {f : Addr} {fd : FuncData}
/-- a def that changes nothing -/
theorem fn_pure {N ps : List Str} {k : Nat} {R : List PyData → PyData → Prop} (F : FunD K x qual params body scope dvs kws f fd) (S : FnScope N ps scope) (len : ∀ ds d, R ds d → ds.length = ps.length)
    (hbody : ∀ (cdv : Value) (A : Around) (outer : List Env) (s : Shared) (H : Hp) (E : XK), Room k (A.deeper (envOfC qual scope s.heap.objs.size f cdv)) →
      ∃ t, PSs (cxOf CXN P w K mg base N qual scope f cdv A outer s H E).nox body t ∧ ∀ ds d, R ds d → WS K t (startS N ds) [] { base := [], nx := fun _ _ => d = .none, rt := fun d' _ => d' = d }) : FnOk P w K mg base CXN (k + 1) f fd ps (spP K R) := by
  refine F.ok S (fun vs H Q E h => ?_) fun cdv A outer s H vs Q E hr h => ?_
  · obtain ⟨os, ds, d, _, hd, hR, _⟩ := h
    exact (dpAll_len hd).trans (len _ _ hR)
  obtain ⟨os, ds, d, ht, hd, hR, q⟩ := h
  obtain ⟨t, hp, hw⟩ := hbody cdv A outer s H E hr
  refine ⟨t, hp.nox, hw ds d hR os H os H (L2.start N vs) _ ⟨fun _ h => h, fun _ _ _ h => h, (fun a h => by cases h), (fun a h => by cases h), ht⟩ (Hok.no ht) ?_ ?_⟩
  · unfold L2.start startS
    rw [dpAll_len hd]
    exact slots_start (N := N) hd
  · have fin : ∀ os' v H' d' β', d' = d → Reach os [] H os' β' H' → Dp K (Off os' H') v d' → Q v H' := fun os' v H' d' β' e r hv => by
      subst e
      exact q v H' (fun a o e => r.keep a o (by simp) e) (dp_mono (off_sub r.os) _ _ hv)
    exact ⟨fun os' σ' H' ρ' β' e r _ _ _ => fin os' .non H' .none β' e.symm r .non, fun os' v H' d' β' e r _ _ hv => fin os' v H' d' β' e r hv, fun _ _ _ _ _ h => h.elim, fun _ _ _ _ _ h => h.elim⟩
/-- a def whose first argument is an owned list, which it may change -/
def spO (K : PySem.W.Frag) (Pre : List PyData → List PyData → Prop) (Post : List PyData → List PyData → PyData → List PyData → Prop) : Sp := fun vs H Q _ => ∃ (os : List Addr) (b : Addr) (ws : List V) (bx ds : List PyData),
  vs = .ref b :: ws ∧ (∀ a ∈ os, H a ≠ none) ∧ b ∈ os ∧ (∃ vb, H b = some (.lst vb) ∧ DpAll K (Off os H) vb bx) ∧ DpAll K (Off os H) ws ds ∧ Pre bx ds ∧
  ∀ v H' d bx', Post bx ds d bx' → (∀ a o, a ≠ b → H a = some o → H' a = some o) → (∃ vb, H' b = some (.lst vb) ∧ DpAll K (Off os H') vb bx') → Dp K (Off os H') v d → Q v H'
def startO (N : List Str) (b : Addr) (ds : List PyData) : List Slot := .raw (.ref b) :: (ds.map .dat ++ List.replicate (N.length - (ds.length + 1)) .no)
theorem fn_own {N ps : List Str} {k : Nat} {Pre : List PyData → List PyData → Prop} {Post : List PyData → List PyData → PyData → List PyData → Prop} (F : FunD K x qual params body scope dvs kws f fd) (S : FnScope N ps scope) (len : ∀ bx ds, Pre bx ds → ds.length + 1 = ps.length)
    (hbody : ∀ (cdv : Value) (A : Around) (outer : List Env) (s : Shared) (H : Hp) (E : XK), Room k (A.deeper (envOfC qual scope s.heap.objs.size f cdv)) →
      ∃ t, PSs (cxOf CXN P w K mg base N qual scope f cdv A outer s H E).nox body t ∧ ∀ b bx ds, Pre bx ds → WS K t (startO N b ds) [(b, .lst bx)]
        { base := [b], nx := fun _ β' => ∃ bx', β'[0]? = some (b, .lst bx') ∧ Post bx ds .none bx', rt := fun d β' => ∃ bx', β'[0]? = some (b, .lst bx') ∧ Post bx ds d bx' }) : FnOk P w K mg base CXN (k + 1) f fd ps (spO K Pre Post) := by
  refine F.ok S (fun vs H Q E h => ?_) fun cdv A outer s H vs Q E hr h => ?_
  · obtain ⟨os, b, ws, bx, ds, rfl, _, _, _, hd, hR, _⟩ := h
    rw [List.length_cons, dpAll_len hd]
    exact len _ _ hR
  obtain ⟨os, b, ws, bx, ds, rfl, ht, hbo, hbx, hd, hR, q⟩ := h
  obtain ⟨t, hp, hw⟩ := hbody cdv A outer s H E hr
  refine ⟨t, hp.nox, hw b bx ds hR os H os H (L2.start N (.ref b :: ws)) _ ⟨fun _ h => h, fun _ _ _ h => h, fun a h => h, fun a h => .inl h, ht⟩ ⟨ht, by simp, hbo, (by obtain ⟨vb, h1, h2⟩ := hbx; exact ⟨_, h1, vb, rfl, h2⟩), trivial⟩ ?_ ?_⟩
  · unfold L2.start startO
    rw [List.length_cons, dpAll_len hd]
    exact ⟨rfl, slots_start (N := N) hd⟩
  · have fin : ∀ os' v H' d' β', (∃ bx', β'[0]? = some (b, .lst bx') ∧ Post bx ds d' bx') → Reach os [b] H os' β' H' → Hok K os' H' β' → Dp K (Off os' H') v d' → Q v H' := fun os' v H' d' β' ⟨bx', e, hP⟩ r hk hv => by
      obtain ⟨_, _, h1, vb, rfl, h2⟩ := own_get hk.own e
      exact q v H' d' bx' hP (fun a o ha e => r.keep a o (by simpa using ha) e) ⟨vb, h1, dpAll_mono (off_sub r.os) _ _ h2⟩ (dp_mono (off_sub r.os) _ _ hv)
    exact ⟨fun os' σ' H' ρ' β' e r _ hk _ => fin os' .non H' .none β' e r hk .non, fun os' v H' d' β' e r _ hk hv => fin os' v H' d' β' e r hk hv, fun _ _ _ _ _ h => h.elim, fun _ _ _ _ _ h => h.elim⟩
/-- a def of the module that may be called -/
structure Cal (P : Program) (w : World) (K : PySem.W.Frag) (mg : Str → Option Value) (base : Heap) (x : Str) (k : Nat) (ps : List Str) (sp : Sp) : Prop where
  ex : ∃ (f : Addr) (fd : FuncData), FnOk P w K mg base CXN k f fd ps sp ∧ mg x = some (.ref f) ∧ PySem.W.keepIn K (.ref f) = true ∧ Binds K fd ps []
theorem Cal.mono {j k : Nat} {ps : List Str} {sp : Sp} (c : Cal P w K mg base x j ps sp) (h : j ≤ k) : Cal P w K mg base x k ps sp := by
  obtain ⟨f, fd, F, m, kp, b⟩ := c.ex
  exact ⟨f, fd, F.mono h, m, kp, b⟩
/-- where a def without defaults stands -/
structure Has (K : PySem.W.Frag) (mg : Str → Option Value) (x : Str) (st : Stmt) (kws : List (Str × V)) : Prop where
  ex : ∃ (f : Addr) (fd : FuncData), FunD K x x (defArgs st) (defBody st) (defScope st) [] kws f fd ∧ mg x = some (.ref f)
theorem Has.call {st : Stmt} {ps : List Str} {k : Nat} {sp : Sp} (h : Has K mg x st [])
    (hb : ∀ (kV doc pm : Value) (an : Option Addr) (cdv ct : Value) (us : List Value), us.length = ps.length → bindArgs (PySem.W.fnOf x x (defArgs st) (defBody st) (defScope st) .none kV doc pm an cdv ct) ⟨us, []⟩ = pure (ps.zip us))
    (hf : ∀ f fd, FunD K x x (defArgs st) (defBody st) (defScope st) [] [] f fd → mg x = some (.ref f) → FnOk P w K mg base CXN k f fd ps sp) : Cal P w K mg base x k ps sp := by
  obtain ⟨f, fd, F, m⟩ := h.ex
  exact ⟨f, fd, hf f fd F m, m, F.kp, F.bindsN hb⟩
end
section
variable {X : Cx} {k : Nat} {ps : List Str} {sp : Sp} {x : Str} {p pos : Pos} {e : Expr} {es : List Expr} {t : TA}
theorem pe_cal (C : Cal X.prog X.w X.K X.mg X.base x k ps sp) (hr : Room k X.A) (hg : Gl X x) (ha : PA X (e :: es) t) (hdb : (x == ("__debug__" : Str)) = false := by decide)
    (he : starEach (e :: es) X.env = (false, eval e X.env) :: starEach es X.env := by rfl) (hpl : (backTo pos (starEach es X.env)).any (·.1) = false := by rfl) : PE X (.Call (.Name x p) (e :: es) [] pos) (tCall sp [] EN t) := by
  obtain ⟨f, fd, F, m, kp, b⟩ := C.ex
  exact pe_call F hr hg m kp b .nil passN ha hdb he hpl
end
section
variable {K : PySem.W.Frag} {ρ : List Slot} {β : Bt} {P : PyData → Bt → Prop} {E : XK}
theorem we_callO {i : Nat} {b : Addr} {ta : TA} {Pre : List PyData → List PyData → Prop} {Post : List PyData → List PyData → PyData → List PyData → Prop} (hi : ρ[i]? = some (.raw (.ref b)))
    (h : WA K ta ρ β fun ds β1 => ∃ (j : Nat) (bx : List PyData), β1[j]? = some (b, .lst bx) ∧ Pre bx ds ∧ ∀ d bx', Post bx ds d bx' → P d (β1.set j (b, .lst bx'))) : WE K (tCall (spO K Pre Post) [] E (tCons (tVar i) ta)) ρ β P := fun os H σ Q hk hs q => by
  refine ⟨.ref b, slot_raw hs hi, h os H σ _ hk hs fun vs H1 ds β1 p e k hk1 dv => ?_⟩
  obtain ⟨j, bx, hj, hP, hQ⟩ := p
  obtain ⟨hbo, _, hb, vb, rfl, hd⟩ := own_get hk1.own hj
  refine ⟨os, b, vs, bx, ds, by rw [List.append_nil], hk1.trk, hbo, ⟨vb, hb, hd⟩, dv, hP, fun v H2 d bx' hPost kp new hv => ?_⟩
  have k13 := keep_trans e k (keep_one hj kp)
  exact q v H2 d _ (hQ d bx' hPost) ((dom_set hj).trans e) k13 (hok_set hk1 hj kp (by obtain ⟨vb2, h1, h2⟩ := new; exact ⟨_, h1, vb2, rfl, h2⟩)) hv
end
end DS

set_option Elab.async false
set_option linter.all false
set_option maxRecDepth 100000
set_option maxHeartbeats 4000000
/-! DS5: constants of the module, walks over lists or tuples, slices of either, a star in a target. -/
namespace DS
open PySem PySem.Spec PyProof.Rows L2
/-! ### constants of the module -/
def KC (K : PySem.W.Frag) (mg : Str → Option Value) (x : Str) (d : PyData) : Prop := ∃ (v : V) (u : Value), mg x = some u ∧ RelV v u ∧ ∀ G : Hp, Dp K G v d
def tKd (K : PySem.W.Frag) (d : PyData) : TE := fun _ H Q => ∀ v, (∀ G : Hp, Dp K G v d) → Q v H
/-- a value that is known by a property alone -/
def tRaw (p : V → Prop) : TE := fun _ H Q => ∀ v, p v → Q v H
section
variable {X : Cx}
theorem pe_K {x : Str} {d : PyData} {pos : Pos} (h : KC X.K X.mg x d) (hg : Gl X x) (hd : (x == ("__debug__" : Str)) = false := by decide) : PE X (.Name x pos) (tKd X.K d) := by
  obtain ⟨v, u, hm, r, hv⟩ := h
  exact ⟨fun pins s σ H Q I q => (pe_glob hg hm r hd).run pins s σ H Q I (q v hv)⟩
theorem pe_raw {x : Str} {p : V → Prop} {pos : Pos} (h : ∃ v u, X.mg x = some u ∧ RelV v u ∧ p v) (hg : Gl X x) (hd : (x == ("__debug__" : Str)) = false := by decide) : PE X (.Name x pos) (tRaw p) := by
  obtain ⟨v, u, hm, r, hv⟩ := h
  exact ⟨fun pins s σ H Q I q => (pe_glob hg hm r hd).run pins s σ H Q I (q v hv)⟩
end
section
variable {K : PySem.W.Frag} {ρ : List Slot} {β : Bt} {P : PyData → Bt → Prop}
theorem we_kd {d : PyData} (p : P d β) : WE K (tKd K d) ρ β P := fun os H σ Q hk hs q v hv => q v H d β p rfl (Keep.refl _ _) hk (hv _)
end

/-! ### a written dict with text keys -/
/-- v is a written dict that says look -/
def isKd (K : PySem.W.Frag) (w : World) (look : Str → Option V) (v : V) : Prop := ∃ (a : Addr) (es : Array DictEntry) (n : Nat), v = .ref a ∧ KDict K w a es n ∧
  ∀ z : Str, (look z = none → PySem.W.nsIn K a z = some none) ∧ ∀ x, look z = some x → ∃ u, PySem.W.nsIn K a z = some (some u) ∧ RelV x u
def KDt (K : PySem.W.Frag) (w : World) (mg : Str → Option Value) (x : Str) (look : Str → Option V) : Prop := ∃ v u, mg x = some u ∧ RelV v u ∧ isKd K w look v
def rInK (K : PySem.W.Frag) (w : World) (look : Str → Option V) : R2 := fun x y H Q => ∃ z, x = .str z ∧ isKd K w look y ∧ Q (.bl (look z).isSome) H
def rIxK (K : PySem.W.Frag) (w : World) (look : Str → Option V) : R2 := fun x y H Q => ∃ z v, isKd K w look x ∧ y = .str z ∧ look z = some v ∧ Q v H
section
variable {X : Cx} {look : Str → Option V}
theorem op_inK : OpR X (compareOp .In) (rInK X.K X.w look) := by
  intro pins s σ H x y v u Q I rx ry h
  obtain ⟨z, rfl, ⟨a, es, n, rfl, kd, hl⟩, q⟩ := h
  cases e : look z with
  | none =>
    rw [e] at q
    exact op_in_kd kd pins s σ H _ _ v u Q I rx ry ⟨z, none, rfl, rfl, (hl z).1 e, q⟩
  | some w =>
    rw [e] at q
    obtain ⟨u0, h1, h2⟩ := (hl z).2 w e
    exact op_in_kd kd pins s σ H _ _ v u Q I rx ry ⟨z, some u0, rfl, rfl, h1, q⟩
theorem ix_K : IxR X (rIxK X.K X.w look) := by
  intro value slice pins s σ H x y v u Q I rx ry h hs
  obtain ⟨z, r, ⟨a, es, n, rfl, kd, hl⟩, rfl, e, q⟩ := h
  obtain ⟨u0, h1, h2⟩ := (hl z).2 r e
  exact ix_kdict value slice pins s σ H _ _ v u Q I rx ry ⟨a, z, r, rfl, rfl, ⟨es, n, u0, kd.at_, kd.lit, h1, h2⟩, q⟩ hs
end
section
variable {K : PySem.W.Frag} {w : World} {look : Str → Option V} {ρ : List Slot} {β : Bt} {P : PyData → Bt → Prop} {E : Out}
theorem we_inK {ta : TE} (h : WE K ta ρ β fun x β1 => ∃ z, x = .str z ∧ P (.bool (look z).isSome) β1) : WE K (tOp (rInK K w look) ta (tRaw (isKd K w look))) ρ β P := fun os H σ Q hk hs q => by
  refine h os H σ _ hk hs fun v H1 x β1 p e k hk1 dv u hu => ?_
  obtain ⟨z, rfl, p⟩ := p
  exact ⟨z, dp_str dv, hu, q _ H1 _ β1 p e k hk1 (.bl _)⟩
theorem we_ixK {tb : TE} (h : WE K tb ρ β fun y β1 => ∃ z v d, y = .str z ∧ look z = some v ∧ (∀ G : Hp, Dp K G v d) ∧ P d β1) : WE K (tOp (rIxK K w look) (tRaw (isKd K w look)) tb) ρ β P := fun os H σ Q hk hs q v hv => by
  refine h os H σ _ hk hs fun u H1 y β1 p e k hk1 dy => ?_
  obtain ⟨z, x, d, rfl, hl, hd, p⟩ := p
  exact ⟨z, x, hv, dp_str dy, hl, q x H1 d β1 p e k hk1 (hd _)⟩
/-- x = D[k], whatever stands there -/
theorem ws_setK {tb : TE} {i : Nat} (h : WE K tb ρ β fun y β1 => ∃ z v, y = .str z ∧ look z = some v ∧ E.nx (ρ.set i (.raw v)) β1) : WS K (tAsg (tOp (rIxK K w look) (tRaw (isKd K w look)) tb) (gName i)) ρ β E := fun os0 H0 os H σ D r hk hs x v hv => by
  refine h os H σ _ hk hs fun u H1 y β1 p e k hk1 dy => ?_
  obtain ⟨z, v2, rfl, hl, p⟩ := p
  exact ⟨z, v2, hv, dp_str dy, hl, x.nx os _ H1 _ β1 p (r.step e k) (DK.of hk k) hk1 (slotsR_set (s := .raw v2) rfl i (slots_keep hk k hs))⟩
end

/-! ### walks over a list or a tuple -/
def iX (K : PySem.W.Frag) (tl : TE) : TI := fun σ H R => tl σ H fun x H1 => ∃ a, x = .ref a ∧ (((∃ xs, SqL K H1 a xs) ∧ R (Itl K a) H1) ∨ ((∃ xs, SqT K H1 a xs) ∧ R (Itt K a) H1))
section
variable {X : Cx} {tg : Expr}
theorem pi_X {l : Expr} {tl : TE} (hl : PE X l tl) : PI X tg l (iX X.K tl) := by
  refine ⟨fun pins s σ H R I h => ?_⟩
  refine thn (hl.run pins s σ H _ I h) fun v s1 ⟨x, H1, I1, r1, q1⟩ => ?_
  obtain ⟨a, e, q1⟩ := q1
  subst e
  cases r1
  rcases q1 with ⟨⟨xs, hq⟩, q⟩ | ⟨⟨xs, hq⟩, q⟩
  · obtain ⟨its, rv, p, hz⟩ := I1.list hq
    refine wpAny_pyIter_list p.isList ?_
    refine ⟨s1.heap.objs.size, [s1.heap.objs.size], _, _, H1, rfl, I1.kept (t' := s1.toks) fun b o e => Heap.get?_push_of_some _ e, turn_list a _, ⟨_, Heap.get?_push_size _ rfl, rfl, rfl⟩, fun b hb => ?_, q⟩
    have e : b = s1.heap.objs.size := by simpa using hb
    subst e
    exact I1.fpOk (Nat.le_refl _) (I1.hok.fresh (Nat.le_refl _))
  · obtain ⟨its, rv, p, hz⟩ := I1.tuple hq
    refine wpAny_pyIter_tuple (show s1.heap.IsTuple a its.toArray from p) ?_
    refine ⟨s1.heap.objs.size, [s1.heap.objs.size], _, _, H1, rfl, I1.kept (t' := s1.toks) fun b o e => Heap.get?_push_of_some _ e, turn_tuple a _, ⟨_, Heap.get?_push_size _ rfl, rfl, rfl⟩, fun b hb => ?_, q⟩
    have e : b = s1.heap.objs.size := by simpa using hb
    subst e
    exact I1.fpOk (Nat.le_refl _) (I1.hok.fresh (Nat.le_refl _))
end
section
variable {K : PySem.W.Frag} {ρ : List Slot} {β : Bt} {PL : List PyData → Bt → Prop}
theorem wi_X {te : TE} (h : WE K te ρ β fun d β1 => ∃ ds, (d = .list ds ∨ d = .tuple ds) ∧ PL ds β1) : WI K (iX K te) ρ β PL := fun os H σ R hk hs q => by
  refine h os H σ _ hk hs fun v H1 d β1 p e k hk1 dv => ?_
  obtain ⟨ds, hd, p⟩ := p
  rcases hd with rfl | rfl
  · obtain ⟨a, vs, rfl, h1, h2⟩ := dp_lst dv
    exact ⟨a, rfl, .inl ⟨⟨vs, (off_le os H1).seq h1⟩, q _ H1 ds [(.ref a, .list ds)] β1 p e k hk1 itd_list fun z hz => by simp at hz; rw [hz]; exact dv⟩⟩
  · obtain ⟨a, vs, rfl, h1, h2⟩ := dp_tup dv
    exact ⟨a, rfl, .inr ⟨⟨vs, same_seqT (off_le os H1) h1⟩, q _ H1 ds [(.ref a, .tuple ds)] β1 p e k hk1 itd_tup fun z hz => by simp at hz; rw [hz]; exact dv⟩⟩
/-! ### slices of lists, tuples -/
def rSlX (K : PySem.W.Frag) : V → Option Int → Option Int → Hp → VK → Prop := fun x lo hi H Q => rSlT K x lo hi H Q ∨ rSlL K x lo hi H Q
theorem sl_X {X : Cx} : SlR X (rSlX X.K) := sl_tup.or sl_list
theorem rs_XL {ds : List PyData} {lo hi : Option Int} : RSD K (rSlX K) (.list ds) lo hi (.list (cutD ds lo hi)) := fun os H v Q ht hv q => .inr (rs_list os H v Q ht hv q)
theorem rs_XT {ds : List PyData} {lo hi : Option Int} (hw : ¬ (HT.sIx ds.length 0 lo = 0 ∧ HT.sIx ds.length ds.length hi = ds.length)) : RSD K (rSlX K) (.tuple ds) lo hi (.tuple (cutD ds lo hi)) := fun os H v Q ht hv q => .inl (rs_tup hw os H v Q ht hv q)
theorem cut_one {ds : List PyData} : cutD ds (some 1) none = ds.drop 1 := by
  unfold cutD
  rw [show HT.sIx ds.length 0 (some 1) = min 1 ds.length from HT.sIx_nat ds.length 0 1, HT.sIx_none]
  cases ds with
  | nil => rfl
  | cons x r =>
    rw [show min 1 (x :: r).length = 1 by rw [List.length_cons]; omega]
    show (List.take ((x :: r).length - 1) r) = r
    rw [List.length_cons, Nat.add_sub_cancel]
    exact List.take_length
theorem rs_tail {x : PyData} {r : List PyData} : RSD K (rSlX K) (.tuple (x :: r)) (some 1) none (.tuple r) := by
  have h := rs_XT (K := K) (ds := x :: r) (lo := some 1) (hi := none) (fun z => by
    have := z.1
    rw [show HT.sIx (x :: r).length 0 (some 1) = min 1 (x :: r).length from HT.sIx_nat _ 0 1, List.length_cons] at this
    omega)
  rw [cut_one] at h
  exact h
/-! ### first, *rest = a tuple -/
def gStar (K : PySem.W.Frag) (g1 g2 : TG) : TG := fun v σ H Q => ∃ a x xs, v = .ref a ∧ SqT K H a (x :: xs) ∧ xs.length ≤ 16000 ∧ ∀ D, H D = none → g1 x σ (upd H D (.lst xs)) fun σ1 H1 => g2 (.ref D) σ1 H1 Q
end
section
variable {prog : Program} {w : World} {A : Around} {E : Value → Shared → Prop} {s : Shared}
theorem star_items {l : Addr} {items : Array Value} {x : Value} {xs : List Value} {Q : List Value → Shared → Prop} (hl : IsTup s.heap l items) (hh : A.handled = none) (hx : items.toList = x :: xs) (hz : items.size ≤ 16384)
    (h : ∀ h' tk, Heap.ExtBut s.heap.objs.size s.heap h' → Q [x, .ref h'.objs.size] { s with heap := h'.push { cls := .type "list", data := .seq xs.toArray }, toks := tk }) : wpAny (model prog w) A (unpackItems (.ref l) 2 (some 1)) Q E s := by
  have hlt : l ≠ s.heap.objs.size := by obtain ⟨o, ho, _⟩ := hl; exact Nat.ne_of_lt (Heap.lt_size ho)
  have hll : l < s.heap.objs.size := by obtain ⟨o, ho, _⟩ := hl; exact Heap.lt_size ho
  have hsz : items.size = xs.length + 1 := by rw [← Array.length_toList, hx, List.length_cons]
  unfold unpackItems
  refine wpAny_bind ?_
  unfold notIterableAtAll
  refine wpAny_bind (wpAny_specialOf hl.typeIs slot_tuple_iter.lookup ?_)
  refine wpAny_pure ?_
  simp only [Bool.false_eq_true, if_false]
  refine wpAny_bind (wpAny_holding (iter_tuple hl ?_))
  refine wpAny_bind (wpAny_holding (draw_tuple hlt 1 0 _ _ ⟨_, Heap.get?_push_size _ rfl, rfl, rfl⟩ (hl.push _) (by omega) fun h₁ hit₁ hs₁ => ?_))
  have hl₁ : IsTup h₁ l items := (hl.push _).extBut hs₁.extBut hlt
  rw [Nat.zero_add] at hit₁
  have hit₁' := hit₁
  obtain ⟨oi, hoi, _⟩ := hit₁'
  have hl₁' := hl₁
  obtain ⟨ol, hol, _⟩ := hl₁'
  rw [List.drop_zero, hx]
  refine wpAny_bind (wpAny_holding (PySem.W.kun_collect (s := { s with heap := h₁ }) (T := "tuple_iterator") (.inr (.inr (.inr rfl))) (Walks.tuple (A := A.in1) hh s.heap.objs.size l hlt items) (fun j u st => st.1.typeIs) (k := 1) (by omega) ⟨hit₁, hl₁⟩ (Heap.lt_size hoi) (Heap.lt_size hol) (fun h₂ tk hk => ?_) (by rw [sizeLine_eq]; omega)))
  rw [hx]
  show wpAny _ _ (newList (xs.take (xs.length - 0)) >>= fun d => pure ([x] ++ [d] ++ xs.drop (xs.length - 0))) _ _ _
  rw [Nat.sub_zero, List.take_length, List.drop_length]
  have he : Heap.ExtBut s.heap.objs.size s.heap h₂ := fun b o hb e => hk b o hb (hs₁.extBut b o hb (Heap.get?_push_of_some _ e))
  unfold newList
  exact wpAny_bind (wpAny_newObj_type (s := { s with heap := h₂, toks := tk }) (wpAny_pure (h h₂ tk he)) (by show xs.toArray.size ≤ _; rw [List.size_toArray, sizeLine_eq]; omega))
end
section
variable {X : Cx} {pos : Pos}
theorem pg_star {e1 e2 : Expr} {p2 : Pos} {k : Nat} {g1 g2 : TG} (hc : X.calm = true) (h1 : PG X e1 g1) (h2 : PG X e2 g2)
    (hs : assignEach [e1, .Starred e2 p2] X.env = [(false, assign e1 X.env), (true, assign e2 X.env)] := by rfl) : PG X (.Tuple [e1, .Starred e2 p2] k pos) (gStar X.K g1 g2) := by
  refine ⟨fun pins s σ H v u Q I r hw => ?_⟩
  obtain ⟨a, x, xs, e, hq, hz, hw⟩ := hw
  subst e
  cases r
  obtain ⟨its, rv, ht, hz2⟩ := I.tuple hq
  cases rv with
  | @cons _ ux _ uxs rx rxs =>
    have hl := rxs.length
    rw [PyProof.Rows.assign_Tuple]
    refine wpAny_bind (wpAny_standAt ?_)
    unfold unpack
    rw [hs]
    refine wpAny_bind (wpAny_holding (star_items ht (I.ok.hd hc) (x := ux) (xs := uxs) rfl (by simp; omega) fun h' tk he => ?_))
    have I1 : Inv X pins σ H { s with heap := h', toks := tk } := I.kept fun b o eb => he b o (Nat.ne_of_lt (Heap.lt_size eb)) eb
    have hf : H h'.objs.size = none := I1.hok.fresh (Nat.le_refl _)
    have I2 : Inv X pins σ (upd H h'.objs.size (.lst xs)) { s with heap := h'.push { cls := .type "list", data := .seq uxs.toArray }, toks := tk } :=
      I1.lnew (t' := tk) rxs (by rw [sizeLine_eq]; omega)
    show wpAny _ X.A (assignInOrder [assign e1 X.env, assign e2 X.env] [ux, .ref h'.objs.size]) _ _ _
    refine assignInOrder_cons (thn (h1.run pins _ σ _ x ux _ I2 rx (hw _ hf)) fun _ s1 ⟨σ1, H1, I3, q1⟩ => ?_)
    refine assignInOrder_cons (thn (h2.run pins s1 σ1 H1 (.ref h'.objs.size) _ _ I3 rfl q1) fun _ s2 ⟨σ2, H2, I4, q2⟩ => ?_)
    exact assignInOrder_nil ⟨σ2, H2, I4, q2⟩
end
section
variable {K : PySem.W.Frag} {ρ : List Slot} {β : Bt} {E : Out}
/-- x, *y = a tuple: two names -/
theorem ws_star {te : TE} {i j : Nat} (h : WE K te ρ β fun d β1 => ∃ x xs, d = .tuple (x :: xs) ∧ xs.length ≤ 16000 ∧ E.nx ((ρ.set i (.dat x)).set j (.dat (.list xs))) β1) : WS K (tAsg te (gStar K (gName i) (gName j))) ρ β E := fun os0 H0 os H σ D r hk hs x => by
  refine h os H σ _ hk hs fun v H1 d β1 p e k hk1 dv => ?_
  obtain ⟨y, ys, rfl, hz, p⟩ := p
  obtain ⟨a, vs, rfl, h1, h2⟩ := dp_tup dv
  cases h2 with
  | @cons _ vt _ _ d1 d2 =>
    refine ⟨a, _, _, rfl, same_seqT (off_le os H1) h1, by rw [dpAll_len d2]; exact hz, fun Dn hD => ?_⟩
    have s := same_new (o := .lst vt) hD
    have k2 := keep_trans e k (Keep.same s)
    exact x.nx os _ _ _ β1 p (r.step e k2) (DK.of hk k2) (hk1.mono s) (slotsR_set (sdat (.lst (.inl (off_upd (new_out hk1 hD))) (dpAll_mono (off_same s) _ _ d2))) j (slotsR_set (sdat (dp_mono (off_same s) _ _ d1)) i (slots_keep hk k2 hs)))
end
/-! ### the rules once more, the written part by its own name -/
section
variable {X : Cx} {K : PySem.W.Frag} {w : World}
theorem op_addXK (h : X.K = K) : OpR X (binaryOp .Add) (rAddX K) := by subst h; exact op_addX
theorem op_eqXK (h : X.K = K) (hu : X.A.units + 64 < cLine) : OpR X (compareOp .Eq) (rEqX K) := by subst h; exact op_eqX hu
theorem op_neXK (h : X.K = K) (hu : X.A.units + 64 < cLine) : OpR X (compareOp .NotEq) (rNeX K) := by subst h; exact op_neX hu
theorem op_inSK (h : X.K = K) : OpR X (compareOp .In) (rIn K false) := by subst h; exact op_in_seq
theorem op_ninSK (h : X.K = K) : OpR X (compareOp .NotIn) (rIn K true) := by subst h; exact op_notIn_seq
theorem op_inDK (h : X.K = K) (hu : X.A.units + 65 < cLine) : OpR X (compareOp .In) (rInD K) := by subst h; exact op_inD hu
theorem op_inKK {look : Str → Option V} (h : X.K = K) (hw : X.w = w) : OpR X (compareOp .In) (rInK K w look) := by subst h hw; exact op_inK
theorem ix_XK (h : X.K = K) : IxR X (rIxX K) := by subst h; exact ix_X
theorem ix_KK {look : Str → Option V} (h : X.K = K) (hw : X.w = w) : IxR X (rIxK K w look) := by subst h hw; exact ix_K
theorem sl_XK (h : X.K = K) : SlR X (rSlX K) := by subst h; exact sl_X
theorem call_isiXK (h : X.K = K) : CallR X (.builtin "isinstance") (rIsi K) := by subst h; exact call_isi
theorem call_isiTK (h : X.K = K) : CallR X (.builtin "isinstance") (rIsiT K) := by subst h; exact call_isiT
theorem call_lenXK (h : X.K = K) : CallR X (.builtin "len") (rLenX K) := by subst h; exact call_lenX
theorem call_listXK (h : X.K = K) : CallR X (.type "list") (rListOf K) := by subst h; exact call_listX
theorem call_tupXK (h : X.K = K) : CallR X (.type "tuple") (rTupOf K) := by subst h; exact call_tupX
theorem cr_sumK (h : X.K = K) (hc : X.calm = true) : CallR X (.builtin "sum") (rSum K) := by subst h; exact cr_sum hc
theorem cr_allK (h : X.K = K) (hc : X.calm = true) : CallR X (.builtin "all") (rAll K) := by subst h; exact cr_all hc
theorem pi_XK {tg l : Expr} {tl : TE} (h : X.K = K) (hl : PE X l tl) : PI X tg l (iX K tl) := by subst h; exact pi_X hl
theorem pe_KK {x : Str} {d : PyData} {pos : Pos} (h : X.K = K) (hc : KC K X.mg x d) (hg : Gl X x) (hd : (x == ("__debug__" : Str)) = false := by decide) : PE X (.Name x pos) (tKd K d) := by subst h; exact pe_K hc hg hd
theorem pg_tupK {es : List Expr} {k : Nat} {pos : Pos} {t : TGs} {n : Nat} (hK : X.K = K) (hc : X.calm = true) (h : PGs X es t)
    (hn : (assignEach es X.env).length = n := by rfl) (hst : (assignEach es X.env).findIdx? (·.1) = none := by rfl) : PG X (.Tuple es k pos) (gTup K n t) := by subst hK; exact pg_tup hc h hn hst
theorem pg_starK {e1 e2 : Expr} {p2 pos : Pos} {k : Nat} {g1 g2 : TG} (hK : X.K = K) (hc : X.calm = true) (h1 : PG X e1 g1) (h2 : PG X e2 g2)
    (hs : assignEach [e1, .Starred e2 p2] X.env = [(false, assign e1 X.env), (true, assign e2 X.env)] := by rfl) : PG X (.Tuple [e1, .Starred e2 p2] k pos) (gStar K g1 g2) := by subst hK; exact pg_star hc h1 h2 hs
theorem pe_ty (n : String) {x : Str} {pos : Pos} (hg : Gl X x) (hm : X.mg x = none) (hv : bootBuiltins x = some (.type n)) (hn : x ≠ "__name__" := by decide) (hd : (x == ("__debug__" : Str)) = false := by decide) : PE X (.Name x pos) (tC (.ty n)) :=
  pe_bltn (v := .ty n) (u := .type n) hg hm hv rfl hn hd
end
end DS

set_option Elab.async false
set_option linter.all false
set_option maxRecDepth 100000
set_option maxHeartbeats 4000000
namespace K77
open PySem PySem.Spec PyProof.Rows L2 DS
def topS (i : Nat) : Stmt := PySem.Challenge.pw_hintscribe_k77_formulas_and_their_number.main.body.getD i (.Pass ⟨0, 0, 0, 0⟩)
abbrev s_is_plain : Stmt := topS 8
abbrev N_is_plain : List Str := ["thing"]
abbrev p_is_plain : List Str := ["thing"]
theorem sc_is_plain : FnScope N_is_plain p_is_plain (defScope s_is_plain) := ⟨rfl, rfl, rfl, by decide +kernel, rfl, by decide +kernel, by decide +kernel⟩
abbrev s_is_whole : Stmt := topS 9
abbrev N_is_whole : List Str := ["thing", "low", "high"]
abbrev p_is_whole : List Str := ["thing", "low", "high"]
theorem sc_is_whole : FnScope N_is_whole p_is_whole (defScope s_is_whole) := ⟨rfl, rfl, rfl, by decide +kernel, rfl, by decide +kernel, by decide +kernel⟩
abbrev s_common_part : Stmt := topS 10
abbrev N_common_part : List Str := ["one", "other"]
abbrev p_common_part : List Str := ["one", "other"]
theorem sc_common_part : FnScope N_common_part p_common_part (defScope s_common_part) := ⟨rfl, rfl, rfl, by decide +kernel, rfl, by decide +kernel, by decide +kernel⟩
abbrev s_is_part : Stmt := topS 11
abbrev N_is_part : List Str := ["thing", "top", "base"]
abbrev p_is_part : List Str := ["thing"]
theorem sc_is_part : FnScope N_is_part p_is_part (defScope s_is_part) := ⟨rfl, rfl, rfl, by decide +kernel, rfl, by decide +kernel, by decide +kernel⟩
abbrev s_is_number : Stmt := topS 12
abbrev N_is_number : List Str := ["thing"]
abbrev p_is_number : List Str := ["thing"]
theorem sc_is_number : FnScope N_is_number p_is_number (defScope s_is_number) := ⟨rfl, rfl, rfl, by decide +kernel, rfl, by decide +kernel, by decide +kernel⟩
abbrev s_reckoned : Stmt := topS 13
abbrev N_reckoned : List Str := ["top", "base", "part"]
abbrev p_reckoned : List Str := ["top", "base"]
theorem sc_reckoned : FnScope N_reckoned p_reckoned (defScope s_reckoned) := ⟨rfl, rfl, rfl, by decide +kernel, rfl, by decide +kernel, by decide +kernel⟩
abbrev s_pair_of : Stmt := topS 14
abbrev N_pair_of : List Str := ["number"]
abbrev p_pair_of : List Str := ["number"]
theorem sc_pair_of : FnScope N_pair_of p_pair_of (defScope s_pair_of) := ⟨rfl, rfl, rfl, by decide +kernel, rfl, by decide +kernel, by decide +kernel⟩
abbrev s_plus : Stmt := topS 15
abbrev N_plus : List Str := ["one", "other", "top", "base", "more", "under"]
abbrev p_plus : List Str := ["one", "other"]
theorem sc_plus : FnScope N_plus p_plus (defScope s_plus) := ⟨rfl, rfl, rfl, by decide +kernel, rfl, by decide +kernel, by decide +kernel⟩
abbrev s_minus : Stmt := topS 16
abbrev N_minus : List Str := ["one", "other", "top", "base", "more", "under"]
abbrev p_minus : List Str := ["one", "other"]
theorem sc_minus : FnScope N_minus p_minus (defScope s_minus) := ⟨rfl, rfl, rfl, by decide +kernel, rfl, by decide +kernel, by decide +kernel⟩
abbrev s_times : Stmt := topS 17
abbrev N_times : List Str := ["one", "other", "top", "base", "more", "under"]
abbrev p_times : List Str := ["one", "other"]
theorem sc_times : FnScope N_times p_times (defScope s_times) := ⟨rfl, rfl, rfl, by decide +kernel, rfl, by decide +kernel, by decide +kernel⟩
abbrev s_over : Stmt := topS 18
abbrev N_over : List Str := ["one", "other", "top", "base", "more", "under"]
abbrev p_over : List Str := ["one", "other"]
theorem sc_over : FnScope N_over p_over (defScope s_over) := ⟨rfl, rfl, rfl, by decide +kernel, rfl, by decide +kernel, by decide +kernel⟩
abbrev s_bare_of : Stmt := topS 19
abbrev N_bare_of : List Str := ["number", "top", "base"]
abbrev p_bare_of : List Str := ["number"]
theorem sc_bare_of : FnScope N_bare_of p_bare_of (defScope s_bare_of) := ⟨rfl, rfl, rfl, by decide +kernel, rfl, by decide +kernel, by decide +kernel⟩
abbrev s_less : Stmt := topS 20
abbrev N_less : List Str := ["one", "other", "top", "base", "more", "under"]
abbrev p_less : List Str := ["one", "other"]
theorem sc_less : FnScope N_less p_less (defScope s_less) := ⟨rfl, rfl, rfl, by decide +kernel, rfl, by decide +kernel, by decide +kernel⟩
abbrev s_floor_of : Stmt := topS 21
abbrev N_floor_of : List Str := ["number", "step", "top", "base", "more", "under"]
abbrev p_floor_of : List Str := ["number", "step"]
theorem sc_floor_of : FnScope N_floor_of p_floor_of (defScope s_floor_of) := ⟨rfl, rfl, rfl, by decide +kernel, rfl, by decide +kernel, by decide +kernel⟩
abbrev s_is_small : Stmt := topS 26
abbrev N_is_small : List Str := ["number", "part"]
abbrev p_is_small : List Str := ["number"]
theorem sc_is_small : FnScope N_is_small p_is_small (defScope s_is_small) := ⟨rfl, rfl, rfl, by decide +kernel, rfl, by decide +kernel, by decide +kernel⟩
abbrev s_things_copied : Stmt := topS 28
abbrev N_things_copied : List Str := ["things"]
abbrev p_things_copied : List Str := ["things"]
theorem sc_things_copied : FnScope N_things_copied p_things_copied (defScope s_things_copied) := ⟨rfl, rfl, rfl, by decide +kernel, rfl, by decide +kernel, by decide +kernel⟩
abbrev s_things_dropped : Stmt := topS 29
abbrev N_things_dropped : List Str := ["things"]
abbrev p_things_dropped : List Str := ["things"]
theorem sc_things_dropped : FnScope N_things_dropped p_things_dropped (defScope s_things_dropped) := ⟨rfl, rfl, rfl, by decide +kernel, rfl, by decide +kernel, by decide +kernel⟩
abbrev s_things_swapped : Stmt := topS 30
abbrev N_things_swapped : List Str := ["things"]
abbrev p_things_swapped : List Str := ["things"]
theorem sc_things_swapped : FnScope N_things_swapped p_things_swapped (defScope s_things_swapped) := ⟨rfl, rfl, rfl, by decide +kernel, rfl, by decide +kernel, by decide +kernel⟩
abbrev s_things_picked : Stmt := topS 31
abbrev N_things_picked : List Str := ["things"]
abbrev p_things_picked : List Str := ["things"]
theorem sc_things_picked : FnScope N_things_picked p_things_picked (defScope s_things_picked) := ⟨rfl, rfl, rfl, by decide +kernel, rfl, by decide +kernel, by decide +kernel⟩
abbrev s_things_summed : Stmt := topS 32
abbrev N_things_summed : List Str := ["things"]
abbrev p_things_summed : List Str := ["things"]
theorem sc_things_summed : FnScope N_things_summed p_things_summed (defScope s_things_summed) := ⟨rfl, rfl, rfl, by decide +kernel, rfl, by decide +kernel, by decide +kernel⟩
abbrev s_things_lessened : Stmt := topS 33
abbrev N_things_lessened : List Str := ["things"]
abbrev p_things_lessened : List Str := ["things"]
theorem sc_things_lessened : FnScope N_things_lessened p_things_lessened (defScope s_things_lessened) := ⟨rfl, rfl, rfl, by decide +kernel, rfl, by decide +kernel, by decide +kernel⟩
abbrev s_things_multiplied : Stmt := topS 34
abbrev N_things_multiplied : List Str := ["things"]
abbrev p_things_multiplied : List Str := ["things"]
theorem sc_things_multiplied : FnScope N_things_multiplied p_things_multiplied (defScope s_things_multiplied) := ⟨rfl, rfl, rfl, by decide +kernel, rfl, by decide +kernel, by decide +kernel⟩
abbrev s_things_lesser : Stmt := topS 35
abbrev N_things_lesser : List Str := ["things"]
abbrev p_things_lesser : List Str := ["things"]
theorem sc_things_lesser : FnScope N_things_lesser p_things_lesser (defScope s_things_lesser) := ⟨rfl, rfl, rfl, by decide +kernel, rfl, by decide +kernel, by decide +kernel⟩
abbrev s_things_greater : Stmt := topS 36
abbrev N_things_greater : List Str := ["things"]
abbrev p_things_greater : List Str := ["things"]
theorem sc_things_greater : FnScope N_things_greater p_things_greater (defScope s_things_greater) := ⟨rfl, rfl, rfl, by decide +kernel, rfl, by decide +kernel, by decide +kernel⟩
abbrev s_things_alike : Stmt := topS 37
abbrev N_things_alike : List Str := ["things"]
abbrev p_things_alike : List Str := ["things"]
theorem sc_things_alike : FnScope N_things_alike p_things_alike (defScope s_things_alike) := ⟨rfl, rfl, rfl, by decide +kernel, rfl, by decide +kernel, by decide +kernel⟩
abbrev s_things_both_told : Stmt := topS 38
abbrev N_things_both_told : List Str := ["things"]
abbrev p_things_both_told : List Str := ["things"]
theorem sc_things_both_told : FnScope N_things_both_told p_things_both_told (defScope s_things_both_told) := ⟨rfl, rfl, rfl, by decide +kernel, rfl, by decide +kernel, by decide +kernel⟩
abbrev s_things_either_told : Stmt := topS 39
abbrev N_things_either_told : List Str := ["things"]
abbrev p_things_either_told : List Str := ["things"]
theorem sc_things_either_told : FnScope N_things_either_told p_things_either_told (defScope s_things_either_told) := ⟨rfl, rfl, rfl, by decide +kernel, rfl, by decide +kernel, by decide +kernel⟩
abbrev s_things_none_told : Stmt := topS 40
abbrev N_things_none_told : List Str := ["things"]
abbrev p_things_none_told : List Str := ["things"]
theorem sc_things_none_told : FnScope N_things_none_told p_things_none_told (defScope s_things_none_told) := ⟨rfl, rfl, rfl, by decide +kernel, rfl, by decide +kernel, by decide +kernel⟩
abbrev s_things_negated : Stmt := topS 41
abbrev N_things_negated : List Str := ["things"]
abbrev p_things_negated : List Str := ["things"]
theorem sc_things_negated : FnScope N_things_negated p_things_negated (defScope s_things_negated) := ⟨rfl, rfl, rfl, by decide +kernel, rfl, by decide +kernel, by decide +kernel⟩
abbrev s_things_bared : Stmt := topS 42
abbrev N_things_bared : List Str := ["things"]
abbrev p_things_bared : List Str := ["things"]
theorem sc_things_bared : FnScope N_things_bared p_things_bared (defScope s_things_bared) := ⟨rfl, rfl, rfl, by decide +kernel, rfl, by decide +kernel, by decide +kernel⟩
abbrev s_things_floored : Stmt := topS 43
abbrev N_things_floored : List Str := ["things"]
abbrev p_things_floored : List Str := ["things"]
theorem sc_things_floored : FnScope N_things_floored p_things_floored (defScope s_things_floored) := ⟨rfl, rfl, rfl, by decide +kernel, rfl, by decide +kernel, by decide +kernel⟩
abbrev s_things_ceiled : Stmt := topS 44
abbrev N_things_ceiled : List Str := ["things"]
abbrev p_things_ceiled : List Str := ["things"]
theorem sc_things_ceiled : FnScope N_things_ceiled p_things_ceiled (defScope s_things_ceiled) := ⟨rfl, rfl, rfl, by decide +kernel, rfl, by decide +kernel, by decide +kernel⟩
abbrev s_are_numbers : Stmt := topS 49
abbrev N_are_numbers : List Str := ["thing", "low", "high", "number"]
abbrev p_are_numbers : List Str := ["thing", "low", "high"]
theorem sc_are_numbers : FnScope N_are_numbers p_are_numbers (defScope s_are_numbers) := ⟨rfl, rfl, rfl, by decide +kernel, rfl, by decide +kernel, by decide +kernel⟩
abbrev s_parts_counted : Stmt := topS 56
abbrev N_parts_counted : List Str := ["thing", "left", "name", "rest", "wanted", "counts", "part"]
abbrev p_parts_counted : List Str := ["thing", "left"]
theorem sc_parts_counted : FnScope N_parts_counted p_parts_counted (defScope s_parts_counted) := ⟨rfl, rfl, rfl, by decide +kernel, rfl, by decide +kernel, by decide +kernel⟩
abbrev s_is_formula : Stmt := topS 57
abbrev N_is_formula : List Str := ["thing"]
abbrev p_is_formula : List Str := ["thing"]
theorem sc_is_formula : FnScope N_is_formula p_is_formula (defScope s_is_formula) := ⟨rfl, rfl, rfl, by decide +kernel, rfl, by decide +kernel, by decide +kernel⟩
abbrev s_need_formula : Stmt := topS 58
abbrev N_need_formula : List Str := ["thing"]
abbrev p_need_formula : List Str := ["thing"]
theorem sc_need_formula : FnScope N_need_formula p_need_formula (defScope s_need_formula) := ⟨rfl, rfl, rfl, by decide +kernel, rfl, by decide +kernel, by decide +kernel⟩
abbrev s_inner_parts : Stmt := topS 59
abbrev N_inner_parts : List Str := ["formula"]
abbrev p_inner_parts : List Str := ["formula"]
theorem sc_inner_parts : FnScope N_inner_parts p_inner_parts (defScope s_inner_parts) := ⟨rfl, rfl, rfl, by decide +kernel, rfl, by decide +kernel, by decide +kernel⟩
abbrev s_small_of : Stmt := topS 60
abbrev N_small_of : List Str := ["number"]
abbrev p_small_of : List Str := ["number"]
theorem sc_small_of : FnScope N_small_of p_small_of (defScope s_small_of) := ⟨rfl, rfl, rfl, by decide +kernel, rfl, by decide +kernel, by decide +kernel⟩
abbrev s_asked_number : Stmt := topS 61
abbrev N_asked_number : List Str := ["formula", "size", "store", "worths", "numbers"]
abbrev p_asked_number : List Str := ["formula", "size", "store", "worths"]
theorem sc_asked_number : FnScope N_asked_number p_asked_number (defScope s_asked_number) := ⟨rfl, rfl, rfl, by decide +kernel, rfl, by decide +kernel, by decide +kernel⟩
abbrev s_number_by : Stmt := topS 62
abbrev N_number_by : List Str := ["formula", "size", "store", "worths", "inner", "things", "deed", "part"]
abbrev p_number_by : List Str := ["formula", "size", "store", "worths"]
theorem sc_number_by : FnScope N_number_by p_number_by (defScope s_number_by) := ⟨rfl, rfl, rfl, by decide +kernel, rfl, by decide +kernel, by decide +kernel⟩
abbrev s_formula_number : Stmt := topS 63
abbrev N_formula_number : List Str := ["formula", "size", "store", "worths"]
abbrev p_formula_number : List Str := ["formula", "size", "store", "worths"]
theorem sc_formula_number : FnScope N_formula_number p_formula_number (defScope s_formula_number) := ⟨rfl, rfl, rfl, by decide +kernel, rfl, by decide +kernel, by decide +kernel⟩
abbrev s_L_cell : Stmt := topS 65
abbrev N_L_cell : List Str := ["script", "k"]
abbrev p_L_cell : List Str := ["script", "k"]
theorem sc_L_cell : FnScope N_L_cell p_L_cell (defScope s_L_cell) := ⟨rfl, rfl, rfl, by decide +kernel, rfl, by decide +kernel, by decide +kernel⟩
abbrev s_L_box : Stmt := topS 66
abbrev N_L_box : List Str := ["cell"]
abbrev p_L_box : List Str := ["cell"]
theorem sc_L_box : FnScope N_L_box p_L_box (defScope s_L_box) := ⟨rfl, rfl, rfl, by decide +kernel, rfl, by decide +kernel, by decide +kernel⟩
abbrev s_L_take : Stmt := topS 67
abbrev N_L_take : List Str := ["box", "many", "digit", "one", "other"]
abbrev p_L_take : List Str := ["box", "many"]
theorem sc_L_take : FnScope N_L_take p_L_take (defScope s_L_take) := ⟨rfl, rfl, rfl, by decide +kernel, rfl, by decide +kernel, by decide +kernel⟩
abbrev s_L_same : Stmt := topS 68
abbrev N_L_same : List Str := ["given", "due", "k"]
abbrev p_L_same : List Str := ["given", "due"]
theorem sc_L_same : FnScope N_L_same p_L_same (defScope s_L_same) := ⟨rfl, rfl, rfl, by decide +kernel, rfl, by decide +kernel, by decide +kernel⟩
abbrev s_L_low : Stmt := topS 69
abbrev N_L_low : List Str := ["top", "bottom", "one", "other", "sign"]
abbrev p_L_low : List Str := ["top", "bottom"]
theorem sc_L_low : FnScope N_L_low p_L_low (defScope s_L_low) := ⟨rfl, rfl, rfl, by decide +kernel, rfl, by decide +kernel, by decide +kernel⟩
abbrev s_L_pair : Stmt := topS 70
abbrev N_L_pair : List Str := ["number"]
abbrev p_L_pair : List Str := ["number"]
theorem sc_L_pair : FnScope N_L_pair p_L_pair (defScope s_L_pair) := ⟨rfl, rfl, rfl, by decide +kernel, rfl, by decide +kernel, by decide +kernel⟩
abbrev s_L_num : Stmt := topS 71
abbrev N_L_num : List Str := ["pair"]
abbrev p_L_num : List Str := ["pair"]
theorem sc_L_num : FnScope N_L_num p_L_num (defScope s_L_num) := ⟨rfl, rfl, rfl, by decide +kernel, rfl, by decide +kernel, by decide +kernel⟩
abbrev s_L_plus : Stmt := topS 72
abbrev N_L_plus : List Str := ["one", "other"]
abbrev p_L_plus : List Str := ["one", "other"]
theorem sc_L_plus : FnScope N_L_plus p_L_plus (defScope s_L_plus) := ⟨rfl, rfl, rfl, by decide +kernel, rfl, by decide +kernel, by decide +kernel⟩
abbrev s_L_minus : Stmt := topS 73
abbrev N_L_minus : List Str := ["one", "other"]
abbrev p_L_minus : List Str := ["one", "other"]
theorem sc_L_minus : FnScope N_L_minus p_L_minus (defScope s_L_minus) := ⟨rfl, rfl, rfl, by decide +kernel, rfl, by decide +kernel, by decide +kernel⟩
abbrev s_L_times : Stmt := topS 74
abbrev N_L_times : List Str := ["one", "other"]
abbrev p_L_times : List Str := ["one", "other"]
theorem sc_L_times : FnScope N_L_times p_L_times (defScope s_L_times) := ⟨rfl, rfl, rfl, by decide +kernel, rfl, by decide +kernel, by decide +kernel⟩
abbrev s_L_over : Stmt := topS 75
abbrev N_L_over : List Str := ["one", "other"]
abbrev p_L_over : List Str := ["one", "other"]
theorem sc_L_over : FnScope N_L_over p_L_over (defScope s_L_over) := ⟨rfl, rfl, rfl, by decide +kernel, rfl, by decide +kernel, by decide +kernel⟩
abbrev s_L_less : Stmt := topS 76
abbrev N_L_less : List Str := ["one", "other"]
abbrev p_L_less : List Str := ["one", "other"]
theorem sc_L_less : FnScope N_L_less p_L_less (defScope s_L_less) := ⟨rfl, rfl, rfl, by decide +kernel, rfl, by decide +kernel, by decide +kernel⟩
abbrev s_L_leaf : Stmt := topS 77
abbrev N_L_leaf : List Str := ["box", "way"]
abbrev p_L_leaf : List Str := ["box"]
theorem sc_L_leaf : FnScope N_L_leaf p_L_leaf (defScope s_L_leaf) := ⟨rfl, rfl, rfl, by decide +kernel, rfl, by decide +kernel, by decide +kernel⟩
abbrev s_L_formula : Stmt := topS 78
abbrev N_L_formula : List Str := ["box", "left", "word", "words", "first", "short"]
abbrev p_L_formula : List Str := ["box", "left"]
theorem sc_L_formula : FnScope N_L_formula p_L_formula (defScope s_L_formula) := ⟨rfl, rfl, rfl, by decide +kernel, rfl, by decide +kernel, by decide +kernel⟩
abbrev s_L_parts : Stmt := topS 79
abbrev N_L_parts : List Str := ["formula"]
abbrev p_L_parts : List Str := ["formula"]
theorem sc_L_parts : FnScope N_L_parts p_L_parts (defScope s_L_parts) := ⟨rfl, rfl, rfl, by decide +kernel, rfl, by decide +kernel, by decide +kernel⟩
abbrev s_L_great : Stmt := topS 80
abbrev N_L_great : List Str := ["pair"]
abbrev p_L_great : List Str := ["pair"]
theorem sc_L_great : FnScope N_L_great p_L_great (defScope s_L_great) := ⟨rfl, rfl, rfl, by decide +kernel, rfl, by decide +kernel, by decide +kernel⟩
abbrev s_L_one : Stmt := topS 81
abbrev N_L_one : List Str := ["word", "a", "cells"]
abbrev p_L_one : List Str := ["word", "a"]
theorem sc_L_one : FnScope N_L_one p_L_one (defScope s_L_one) := ⟨rfl, rfl, rfl, by decide +kernel, rfl, by decide +kernel, by decide +kernel⟩
abbrev s_L_two : Stmt := topS 82
abbrev N_L_two : List Str := ["word", "a", "b", "truths"]
abbrev p_L_two : List Str := ["word", "a", "b"]
theorem sc_L_two : FnScope N_L_two p_L_two (defScope s_L_two) := ⟨rfl, rfl, rfl, by decide +kernel, rfl, by decide +kernel, by decide +kernel⟩
abbrev s_L_value : Stmt := topS 83
abbrev N_L_value : List Str := ["formula", "case", "pixels", "slots", "rates", "word", "numbers", "found", "inner", "part"]
abbrev p_L_value : List Str := ["formula", "case"]
theorem sc_L_value : FnScope N_L_value p_L_value (defScope s_L_value) := ⟨rfl, rfl, rfl, by decide +kernel, rfl, by decide +kernel, by decide +kernel⟩
abbrev s_L_case : Stmt := topS 84
abbrev N_L_case : List Str := ["box", "slots", "rates", "k"]
abbrev p_L_case : List Str := ["box"]
theorem sc_L_case : FnScope N_L_case p_L_case (defScope s_L_case) := ⟨rfl, rfl, rfl, by decide +kernel, rfl, by decide +kernel, by decide +kernel⟩
abbrev s_L_answer : Stmt := topS 85
abbrev N_L_answer : List Str := ["pair"]
abbrev p_L_answer : List Str := ["pair"]
theorem sc_L_answer : FnScope N_L_answer p_L_answer (defScope s_L_answer) := ⟨rfl, rfl, rfl, by decide +kernel, rfl, by decide +kernel, by decide +kernel⟩
abbrev s_L_counted : Stmt := topS 86
abbrev N_L_counted : List Str := ["thing", "left", "word", "many", "whole", "one", "two", "counts", "part"]
abbrev p_L_counted : List Str := ["thing", "left"]
theorem sc_L_counted : FnScope N_L_counted p_L_counted (defScope s_L_counted) := ⟨rfl, rfl, rfl, by decide +kernel, rfl, by decide +kernel, by decide +kernel⟩
abbrev s_L_is_part : Stmt := topS 87
abbrev N_L_is_part : List Str := ["thing", "top", "base", "one"]
abbrev p_L_is_part : List Str := ["thing"]
theorem sc_L_is_part : FnScope N_L_is_part p_L_is_part (defScope s_L_is_part) := ⟨rfl, rfl, rfl, by decide +kernel, rfl, by decide +kernel, by decide +kernel⟩
abbrev s_L_odd : Stmt := topS 88
abbrev N_L_odd : List Str := ["box", "things"]
abbrev p_L_odd : List Str := ["box"]
theorem sc_L_odd : FnScope N_L_odd p_L_odd (defScope s_L_odd) := ⟨rfl, rfl, rfl, by decide +kernel, rfl, by decide +kernel, by decide +kernel⟩
abbrev s_L_spoilt : Stmt := topS 89
abbrev N_L_spoilt : List Str := ["box", "formula", "parts", "way", "spot"]
abbrev p_L_spoilt : List Str := ["box", "formula"]
theorem sc_L_spoilt : FnScope N_L_spoilt p_L_spoilt (defScope s_L_spoilt) := ⟨rfl, rfl, rfl, by decide +kernel, rfl, by decide +kernel, by decide +kernel⟩
abbrev s_L_long : Stmt := topS 90
abbrev N_L_long : List Str := ["box", "found", "k", "row"]
abbrev p_L_long : List Str := ["box"]
theorem sc_L_long : FnScope N_L_long p_L_long (defScope s_L_long) := ⟨rfl, rfl, rfl, by decide +kernel, rfl, by decide +kernel, by decide +kernel⟩
abbrev s_L_great_formula : Stmt := topS 91
abbrev N_L_great_formula : List Str := ["box", "one", "other"]
abbrev p_L_great_formula : List Str := ["box"]
theorem sc_L_great_formula : FnScope N_L_great_formula p_L_great_formula (defScope s_L_great_formula) := ⟨rfl, rfl, rfl, by decide +kernel, rfl, by decide +kernel, by decide +kernel⟩
abbrev s_law : Stmt := topS 92
abbrev N_law : List Str := ["script", "k", "box", "formula", "thing", "case", "due", "slots", "rates", "told", "other"]
abbrev p_law : List Str := ["script"]
theorem sc_law : FnScope N_law p_law (defScope s_law) := ⟨rfl, rfl, rfl, by decide +kernel, rfl, by decide +kernel, by decide +kernel⟩
--%%SPECIAL {'kdict': ('KEPT', 'RECKONED'), 'kwd': {'floor_of': '[("step", .int 1)]'}}
--%%SPECIAL {'free': ('len', 'abs', 'max', 'min', 'sum', 'all', 'int', 'bool', 'str', 'list', 'tuple', 'isinstance', 'range')}
--%%SPECIAL {'konst': {'CELL': '(.int 64)', 'MOST_SIZE': '(.int 200)', 'GREAT': '(.int G60)', 'STORE': '(.int 8)', 'MOST_WORTHS': '(.int 12)', 'MOST_PARTS': '(.int 200)', 'MOST_WITHIN': '(.int 40)', 'SINGLE': '(.tuple [.str "negate", .str "bare", .str "floor", .str "ceil", .str "not"])', 'DOUBLE': '(.tuple [.str "plus", .str "minus", .str "times", .str "over", .str "lesser", .str "greater", .str "same", .str "both", .str "either"])'}}
--%%SPECIAL {'kdicts': {'KEPT': 'lookKEPT', 'RECKONED': 'look'}, 'kdicts0': {'KEPT': 'lookKEPT'}}
--%%SPECIAL {'fdicts': {'RECKONED': 'pRECK'}}
theorem g60_ex : ∃ x : Int, x = 10 ^ 60 := ⟨_, rfl⟩
/-- ten to the sixtieth: a number that nothing reckons out -/
noncomputable def G60 : Int := Classical.choose g60_ex
theorem g60_eq : G60 = 10 ^ 60 := Classical.choose_spec g60_ex
def pRECK : List (Str × Str) := [("plus", "things_summed"), ("minus", "things_lessened"), ("times", "things_multiplied"), ("lesser", "things_lesser"), ("greater", "things_greater"), ("same", "things_alike"), ("both", "things_both_told"), ("either", "things_either_told"), ("not", "things_none_told"), ("negate", "things_negated"), ("bare", "things_bared"), ("floor", "things_floored"), ("ceil", "things_ceiled")]
def lookKEPT (z : Str) : Option V := if z = "load" then some (.int 8) else if z = "worth" then some (.int 12) else none
structure Top (K : PySem.W.Frag) (w : World) (mg : Str → Option Value) : Prop where
  h_is_plain : Has K mg "is_plain" s_is_plain []
  h_is_whole : Has K mg "is_whole" s_is_whole []
  h_common_part : Has K mg "common_part" s_common_part []
  h_is_part : Has K mg "is_part" s_is_part []
  h_is_number : Has K mg "is_number" s_is_number []
  h_reckoned : Has K mg "reckoned" s_reckoned []
  h_pair_of : Has K mg "pair_of" s_pair_of []
  h_plus : Has K mg "plus" s_plus []
  h_minus : Has K mg "minus" s_minus []
  h_times : Has K mg "times" s_times []
  h_over : Has K mg "over" s_over []
  h_bare_of : Has K mg "bare_of" s_bare_of []
  h_less : Has K mg "less" s_less []
  h_floor_of : Has K mg "floor_of" s_floor_of [("step", .int 1)]
  h_is_small : Has K mg "is_small" s_is_small []
  h_things_copied : Has K mg "things_copied" s_things_copied []
  h_things_dropped : Has K mg "things_dropped" s_things_dropped []
  h_things_swapped : Has K mg "things_swapped" s_things_swapped []
  h_things_picked : Has K mg "things_picked" s_things_picked []
  h_things_summed : Has K mg "things_summed" s_things_summed []
  h_things_lessened : Has K mg "things_lessened" s_things_lessened []
  h_things_multiplied : Has K mg "things_multiplied" s_things_multiplied []
  h_things_lesser : Has K mg "things_lesser" s_things_lesser []
  h_things_greater : Has K mg "things_greater" s_things_greater []
  h_things_alike : Has K mg "things_alike" s_things_alike []
  h_things_both_told : Has K mg "things_both_told" s_things_both_told []
  h_things_either_told : Has K mg "things_either_told" s_things_either_told []
  h_things_none_told : Has K mg "things_none_told" s_things_none_told []
  h_things_negated : Has K mg "things_negated" s_things_negated []
  h_things_bared : Has K mg "things_bared" s_things_bared []
  h_things_floored : Has K mg "things_floored" s_things_floored []
  h_things_ceiled : Has K mg "things_ceiled" s_things_ceiled []
  h_are_numbers : Has K mg "are_numbers" s_are_numbers []
  h_parts_counted : Has K mg "parts_counted" s_parts_counted []
  h_is_formula : Has K mg "is_formula" s_is_formula []
  h_need_formula : Has K mg "need_formula" s_need_formula []
  h_inner_parts : Has K mg "inner_parts" s_inner_parts []
  h_small_of : Has K mg "small_of" s_small_of []
  h_asked_number : Has K mg "asked_number" s_asked_number []
  h_number_by : Has K mg "number_by" s_number_by []
  h_formula_number : Has K mg "formula_number" s_formula_number []
  h_L_cell : Has K mg "_law_cell" s_L_cell []
  h_L_box : Has K mg "_law_box" s_L_box []
  h_L_take : Has K mg "_law_take" s_L_take []
  h_L_same : Has K mg "_law_same" s_L_same []
  h_L_low : Has K mg "_law_low" s_L_low []
  h_L_pair : Has K mg "_law_pair" s_L_pair []
  h_L_num : Has K mg "_law_num" s_L_num []
  h_L_plus : Has K mg "_law_plus" s_L_plus []
  h_L_minus : Has K mg "_law_minus" s_L_minus []
  h_L_times : Has K mg "_law_times" s_L_times []
  h_L_over : Has K mg "_law_over" s_L_over []
  h_L_less : Has K mg "_law_less" s_L_less []
  h_L_leaf : Has K mg "_law_leaf" s_L_leaf []
  h_L_formula : Has K mg "_law_formula" s_L_formula []
  h_L_parts : Has K mg "_law_parts" s_L_parts []
  h_L_great : Has K mg "_law_great" s_L_great []
  h_L_one : Has K mg "_law_one" s_L_one []
  h_L_two : Has K mg "_law_two" s_L_two []
  h_L_value : Has K mg "_law_value" s_L_value []
  h_L_case : Has K mg "_law_case" s_L_case []
  h_L_answer : Has K mg "_law_answer" s_L_answer []
  h_L_counted : Has K mg "_law_counted" s_L_counted []
  h_L_is_part : Has K mg "_law_is_part" s_L_is_part []
  h_L_odd : Has K mg "_law_odd" s_L_odd []
  h_L_spoilt : Has K mg "_law_spoilt" s_L_spoilt []
  h_L_long : Has K mg "_law_long" s_L_long []
  h_L_great_formula : Has K mg "_law_great_formula" s_L_great_formula []
  h_law : Has K mg "law" s_law []
  m_len : mg "len" = none
  m_abs : mg "abs" = none
  m_max : mg "max" = none
  m_min : mg "min" = none
  m_sum : mg "sum" = none
  m_all : mg "all" = none
  m_int : mg "int" = none
  m_bool : mg "bool" = none
  m_str : mg "str" = none
  m_list : mg "list" = none
  m_tuple : mg "tuple" = none
  m_isinstance : mg "isinstance" = none
  m_range : mg "range" = none
  k_CELL : KC K mg "CELL" (.int 64)
  k_MOST_SIZE : KC K mg "MOST_SIZE" (.int 200)
  k_GREAT : KC K mg "GREAT" (.int G60)
  k_STORE : KC K mg "STORE" (.int 8)
  k_MOST_WORTHS : KC K mg "MOST_WORTHS" (.int 12)
  k_MOST_PARTS : KC K mg "MOST_PARTS" (.int 200)
  k_MOST_WITHIN : KC K mg "MOST_WITHIN" (.int 40)
  k_SINGLE : KC K mg "SINGLE" (.tuple [.str "negate", .str "bare", .str "floor", .str "ceil", .str "not"])
  k_DOUBLE : KC K mg "DOUBLE" (.tuple [.str "plus", .str "minus", .str "times", .str "over", .str "lesser", .str "greater", .str "same", .str "both", .str "either"])
  d_KEPT : KDt K w mg "KEPT" lookKEPT
  f_RECKONED : ∃ look, KDt K w mg "RECKONED" look ∧ ∀ p ∈ pRECK, ∃ a, look p.1 = some (.ref a) ∧ mg p.2 = some (.ref a)
end K77

set_option Elab.async false
set_option linter.all false
set_option maxRecDepth 100000
set_option maxHeartbeats 0
namespace K77
open PySem PySem.Spec PyProof.Rows L2 DS
/-! the head: facts by names, the run -/
def lo0 : List Str := ["__name__", "FontError", "NoNumber", "NoWorths", "NoSize", "NoFormula", "NoBase", "is_plain", "is_whole", "common_part", "is_part", "is_number", "reckoned", "pair_of", "plus", "minus", "times", "over", "bare_of", "less"]
def lo1 : List Str := ["floor_of", "CELL", "MOST_SIZE", "GREAT", "is_small", "things_copied", "things_dropped", "things_swapped", "things_picked", "things_summed", "things_lessened", "things_multiplied", "things_lesser", "things_greater", "things_alike", "things_both_told", "things_either_told", "things_none_told", "things_negated", "things_bared"]
def lo2 : List Str := ["things_floored", "things_ceiled", "RECKONED", "STORE", "MOST_WORTHS", "are_numbers", "MOST_PARTS", "MOST_WITHIN", "KEPT", "SINGLE", "DOUBLE", "parts_counted", "is_formula", "need_formula", "inner_parts", "small_of", "asked_number", "number_by", "formula_number", "_law_cell"]
def lo3 : List Str := ["_law_box", "_law_take", "_law_same", "_law_low", "_law_pair", "_law_num", "_law_plus", "_law_minus", "_law_times", "_law_over", "_law_less", "_law_leaf", "_law_formula", "_law_parts", "_law_great", "_law_one", "_law_two", "_law_value", "_law_case", "_law_answer"]
def lo4 : List Str := ["_law_counted", "_law_is_part", "_law_odd", "_law_spoilt", "_law_long", "_law_great_formula"]
def loose : List Str := lo0 ++ lo1 ++ lo2 ++ lo3 ++ lo4
def e_is_plain : He.DefD := ⟨("is_plain", none), "is_plain", "is_plain", defArgs s_is_plain, defBody s_is_plain, defScope s_is_plain, [], []⟩
def e_is_whole : He.DefD := ⟨("is_whole", none), "is_whole", "is_whole", defArgs s_is_whole, defBody s_is_whole, defScope s_is_whole, [], []⟩
def e_common_part : He.DefD := ⟨("common_part", none), "common_part", "common_part", defArgs s_common_part, defBody s_common_part, defScope s_common_part, [], []⟩
def e_is_part : He.DefD := ⟨("is_part", none), "is_part", "is_part", defArgs s_is_part, defBody s_is_part, defScope s_is_part, [], []⟩
def e_is_number : He.DefD := ⟨("is_number", none), "is_number", "is_number", defArgs s_is_number, defBody s_is_number, defScope s_is_number, [], []⟩
def e_reckoned : He.DefD := ⟨("reckoned", none), "reckoned", "reckoned", defArgs s_reckoned, defBody s_reckoned, defScope s_reckoned, [], []⟩
def e_pair_of : He.DefD := ⟨("pair_of", none), "pair_of", "pair_of", defArgs s_pair_of, defBody s_pair_of, defScope s_pair_of, [], []⟩
def e_plus : He.DefD := ⟨("plus", none), "plus", "plus", defArgs s_plus, defBody s_plus, defScope s_plus, [], []⟩
def e_minus : He.DefD := ⟨("minus", none), "minus", "minus", defArgs s_minus, defBody s_minus, defScope s_minus, [], []⟩
def e_times : He.DefD := ⟨("times", none), "times", "times", defArgs s_times, defBody s_times, defScope s_times, [], []⟩
def e_over : He.DefD := ⟨("over", none), "over", "over", defArgs s_over, defBody s_over, defScope s_over, [], []⟩
def e_bare_of : He.DefD := ⟨("bare_of", none), "bare_of", "bare_of", defArgs s_bare_of, defBody s_bare_of, defScope s_bare_of, [], []⟩
def e_less : He.DefD := ⟨("less", none), "less", "less", defArgs s_less, defBody s_less, defScope s_less, [], []⟩
def e_floor_of : He.DefD := ⟨("floor_of", none), "floor_of", "floor_of", defArgs s_floor_of, defBody s_floor_of, defScope s_floor_of, [], [("step", .int 1)]⟩
def e_is_small : He.DefD := ⟨("is_small", none), "is_small", "is_small", defArgs s_is_small, defBody s_is_small, defScope s_is_small, [], []⟩
def e_things_copied : He.DefD := ⟨("things_copied", none), "things_copied", "things_copied", defArgs s_things_copied, defBody s_things_copied, defScope s_things_copied, [], []⟩
def e_things_dropped : He.DefD := ⟨("things_dropped", none), "things_dropped", "things_dropped", defArgs s_things_dropped, defBody s_things_dropped, defScope s_things_dropped, [], []⟩
def e_things_swapped : He.DefD := ⟨("things_swapped", none), "things_swapped", "things_swapped", defArgs s_things_swapped, defBody s_things_swapped, defScope s_things_swapped, [], []⟩
def e_things_picked : He.DefD := ⟨("things_picked", none), "things_picked", "things_picked", defArgs s_things_picked, defBody s_things_picked, defScope s_things_picked, [], []⟩
def e_things_summed : He.DefD := ⟨("things_summed", none), "things_summed", "things_summed", defArgs s_things_summed, defBody s_things_summed, defScope s_things_summed, [], []⟩
def e_things_lessened : He.DefD := ⟨("things_lessened", none), "things_lessened", "things_lessened", defArgs s_things_lessened, defBody s_things_lessened, defScope s_things_lessened, [], []⟩
def e_things_multiplied : He.DefD := ⟨("things_multiplied", none), "things_multiplied", "things_multiplied", defArgs s_things_multiplied, defBody s_things_multiplied, defScope s_things_multiplied, [], []⟩
def e_things_lesser : He.DefD := ⟨("things_lesser", none), "things_lesser", "things_lesser", defArgs s_things_lesser, defBody s_things_lesser, defScope s_things_lesser, [], []⟩
def e_things_greater : He.DefD := ⟨("things_greater", none), "things_greater", "things_greater", defArgs s_things_greater, defBody s_things_greater, defScope s_things_greater, [], []⟩
def e_things_alike : He.DefD := ⟨("things_alike", none), "things_alike", "things_alike", defArgs s_things_alike, defBody s_things_alike, defScope s_things_alike, [], []⟩
def e_things_both_told : He.DefD := ⟨("things_both_told", none), "things_both_told", "things_both_told", defArgs s_things_both_told, defBody s_things_both_told, defScope s_things_both_told, [], []⟩
def e_things_either_told : He.DefD := ⟨("things_either_told", none), "things_either_told", "things_either_told", defArgs s_things_either_told, defBody s_things_either_told, defScope s_things_either_told, [], []⟩
def e_things_none_told : He.DefD := ⟨("things_none_told", none), "things_none_told", "things_none_told", defArgs s_things_none_told, defBody s_things_none_told, defScope s_things_none_told, [], []⟩
def e_things_negated : He.DefD := ⟨("things_negated", none), "things_negated", "things_negated", defArgs s_things_negated, defBody s_things_negated, defScope s_things_negated, [], []⟩
def e_things_bared : He.DefD := ⟨("things_bared", none), "things_bared", "things_bared", defArgs s_things_bared, defBody s_things_bared, defScope s_things_bared, [], []⟩
def e_things_floored : He.DefD := ⟨("things_floored", none), "things_floored", "things_floored", defArgs s_things_floored, defBody s_things_floored, defScope s_things_floored, [], []⟩
def e_things_ceiled : He.DefD := ⟨("things_ceiled", none), "things_ceiled", "things_ceiled", defArgs s_things_ceiled, defBody s_things_ceiled, defScope s_things_ceiled, [], []⟩
def e_are_numbers : He.DefD := ⟨("are_numbers", none), "are_numbers", "are_numbers", defArgs s_are_numbers, defBody s_are_numbers, defScope s_are_numbers, [], []⟩
def e_parts_counted : He.DefD := ⟨("parts_counted", none), "parts_counted", "parts_counted", defArgs s_parts_counted, defBody s_parts_counted, defScope s_parts_counted, [], []⟩
def e_is_formula : He.DefD := ⟨("is_formula", none), "is_formula", "is_formula", defArgs s_is_formula, defBody s_is_formula, defScope s_is_formula, [], []⟩
def e_need_formula : He.DefD := ⟨("need_formula", none), "need_formula", "need_formula", defArgs s_need_formula, defBody s_need_formula, defScope s_need_formula, [], []⟩
def e_inner_parts : He.DefD := ⟨("inner_parts", none), "inner_parts", "inner_parts", defArgs s_inner_parts, defBody s_inner_parts, defScope s_inner_parts, [], []⟩
def e_small_of : He.DefD := ⟨("small_of", none), "small_of", "small_of", defArgs s_small_of, defBody s_small_of, defScope s_small_of, [], []⟩
def e_asked_number : He.DefD := ⟨("asked_number", none), "asked_number", "asked_number", defArgs s_asked_number, defBody s_asked_number, defScope s_asked_number, [], []⟩
def e_number_by : He.DefD := ⟨("number_by", none), "number_by", "number_by", defArgs s_number_by, defBody s_number_by, defScope s_number_by, [], []⟩
def e_formula_number : He.DefD := ⟨("formula_number", none), "formula_number", "formula_number", defArgs s_formula_number, defBody s_formula_number, defScope s_formula_number, [], []⟩
def e_L_cell : He.DefD := ⟨("_law_cell", none), "_law_cell", "_law_cell", defArgs s_L_cell, defBody s_L_cell, defScope s_L_cell, [], []⟩
def e_L_box : He.DefD := ⟨("_law_box", none), "_law_box", "_law_box", defArgs s_L_box, defBody s_L_box, defScope s_L_box, [], []⟩
def e_L_take : He.DefD := ⟨("_law_take", none), "_law_take", "_law_take", defArgs s_L_take, defBody s_L_take, defScope s_L_take, [], []⟩
def e_L_same : He.DefD := ⟨("_law_same", none), "_law_same", "_law_same", defArgs s_L_same, defBody s_L_same, defScope s_L_same, [], []⟩
def e_L_low : He.DefD := ⟨("_law_low", none), "_law_low", "_law_low", defArgs s_L_low, defBody s_L_low, defScope s_L_low, [], []⟩
def e_L_pair : He.DefD := ⟨("_law_pair", none), "_law_pair", "_law_pair", defArgs s_L_pair, defBody s_L_pair, defScope s_L_pair, [], []⟩
def e_L_num : He.DefD := ⟨("_law_num", none), "_law_num", "_law_num", defArgs s_L_num, defBody s_L_num, defScope s_L_num, [], []⟩
def e_L_plus : He.DefD := ⟨("_law_plus", none), "_law_plus", "_law_plus", defArgs s_L_plus, defBody s_L_plus, defScope s_L_plus, [], []⟩
def e_L_minus : He.DefD := ⟨("_law_minus", none), "_law_minus", "_law_minus", defArgs s_L_minus, defBody s_L_minus, defScope s_L_minus, [], []⟩
def e_L_times : He.DefD := ⟨("_law_times", none), "_law_times", "_law_times", defArgs s_L_times, defBody s_L_times, defScope s_L_times, [], []⟩
def e_L_over : He.DefD := ⟨("_law_over", none), "_law_over", "_law_over", defArgs s_L_over, defBody s_L_over, defScope s_L_over, [], []⟩
def e_L_less : He.DefD := ⟨("_law_less", none), "_law_less", "_law_less", defArgs s_L_less, defBody s_L_less, defScope s_L_less, [], []⟩
def e_L_leaf : He.DefD := ⟨("_law_leaf", none), "_law_leaf", "_law_leaf", defArgs s_L_leaf, defBody s_L_leaf, defScope s_L_leaf, [], []⟩
def e_L_formula : He.DefD := ⟨("_law_formula", none), "_law_formula", "_law_formula", defArgs s_L_formula, defBody s_L_formula, defScope s_L_formula, [], []⟩
def e_L_parts : He.DefD := ⟨("_law_parts", none), "_law_parts", "_law_parts", defArgs s_L_parts, defBody s_L_parts, defScope s_L_parts, [], []⟩
def e_L_great : He.DefD := ⟨("_law_great", none), "_law_great", "_law_great", defArgs s_L_great, defBody s_L_great, defScope s_L_great, [], []⟩
def e_L_one : He.DefD := ⟨("_law_one", none), "_law_one", "_law_one", defArgs s_L_one, defBody s_L_one, defScope s_L_one, [], []⟩
def e_L_two : He.DefD := ⟨("_law_two", none), "_law_two", "_law_two", defArgs s_L_two, defBody s_L_two, defScope s_L_two, [], []⟩
def e_L_value : He.DefD := ⟨("_law_value", none), "_law_value", "_law_value", defArgs s_L_value, defBody s_L_value, defScope s_L_value, [], []⟩
def e_L_case : He.DefD := ⟨("_law_case", none), "_law_case", "_law_case", defArgs s_L_case, defBody s_L_case, defScope s_L_case, [], []⟩
def e_L_answer : He.DefD := ⟨("_law_answer", none), "_law_answer", "_law_answer", defArgs s_L_answer, defBody s_L_answer, defScope s_L_answer, [], []⟩
def e_L_counted : He.DefD := ⟨("_law_counted", none), "_law_counted", "_law_counted", defArgs s_L_counted, defBody s_L_counted, defScope s_L_counted, [], []⟩
def e_L_is_part : He.DefD := ⟨("_law_is_part", none), "_law_is_part", "_law_is_part", defArgs s_L_is_part, defBody s_L_is_part, defScope s_L_is_part, [], []⟩
def e_L_odd : He.DefD := ⟨("_law_odd", none), "_law_odd", "_law_odd", defArgs s_L_odd, defBody s_L_odd, defScope s_L_odd, [], []⟩
def e_L_spoilt : He.DefD := ⟨("_law_spoilt", none), "_law_spoilt", "_law_spoilt", defArgs s_L_spoilt, defBody s_L_spoilt, defScope s_L_spoilt, [], []⟩
def e_L_long : He.DefD := ⟨("_law_long", none), "_law_long", "_law_long", defArgs s_L_long, defBody s_L_long, defScope s_L_long, [], []⟩
def e_L_great_formula : He.DefD := ⟨("_law_great_formula", none), "_law_great_formula", "_law_great_formula", defArgs s_L_great_formula, defBody s_L_great_formula, defScope s_L_great_formula, [], []⟩
def e_law : He.DefD := ⟨("law", none), "law", "law", defArgs s_law, defBody s_law, defScope s_law, [], []⟩
def fn0 : List He.DefD := [e_is_plain, e_is_whole, e_common_part, e_is_part, e_is_number, e_reckoned, e_pair_of, e_plus, e_minus, e_times, e_over, e_bare_of, e_less, e_floor_of, e_is_small, e_things_copied, e_things_dropped, e_things_swapped, e_things_picked, e_things_summed, e_things_lessened, e_things_multiplied, e_things_lesser, e_things_greater, e_things_alike, e_things_both_told, e_things_either_told, e_things_none_told, e_things_negated, e_things_bared]
def fn1 : List He.DefD := [e_things_floored, e_things_ceiled, e_are_numbers, e_parts_counted, e_is_formula, e_need_formula, e_inner_parts, e_small_of, e_asked_number, e_number_by, e_formula_number, e_L_cell, e_L_box, e_L_take, e_L_same, e_L_low, e_L_pair, e_L_num, e_L_plus, e_L_minus, e_L_times, e_L_over, e_L_less, e_L_leaf, e_L_formula, e_L_parts, e_L_great, e_L_one, e_L_two, e_L_value]
def fn2 : List He.DefD := [e_L_case, e_L_answer, e_L_counted, e_L_is_part, e_L_odd, e_L_spoilt, e_L_long, e_L_great_formula, e_law]
def fn : List He.DefD := fn0 ++ fn1 ++ fn2
def fg0 : List He.Fa := [.glo "is_plain", .glo "is_whole", .glo "common_part", .glo "is_part", .glo "is_number", .glo "reckoned", .glo "pair_of", .glo "plus", .glo "minus", .glo "times", .glo "over", .glo "bare_of", .glo "less", .glo "floor_of", .glo "is_small", .glo "things_copied", .glo "things_dropped", .glo "things_swapped", .glo "things_picked", .glo "things_summed", .glo "things_lessened", .glo "things_multiplied", .glo "things_lesser", .glo "things_greater", .glo "things_alike", .glo "things_both_told", .glo "things_either_told", .glo "things_none_told", .glo "things_negated", .glo "things_bared"]
def fg1 : List He.Fa := [.glo "things_floored", .glo "things_ceiled", .glo "are_numbers", .glo "parts_counted", .glo "is_formula", .glo "need_formula", .glo "inner_parts", .glo "small_of", .glo "asked_number", .glo "number_by", .glo "formula_number", .glo "_law_cell", .glo "_law_box", .glo "_law_take", .glo "_law_same", .glo "_law_low", .glo "_law_pair", .glo "_law_num", .glo "_law_plus", .glo "_law_minus", .glo "_law_times", .glo "_law_over", .glo "_law_less", .glo "_law_leaf", .glo "_law_formula", .glo "_law_parts", .glo "_law_great", .glo "_law_one", .glo "_law_two", .glo "_law_value"]
def fg2 : List He.Fa := [.glo "_law_case", .glo "_law_answer", .glo "_law_counted", .glo "_law_is_part", .glo "_law_odd", .glo "_law_spoilt", .glo "_law_long", .glo "_law_great_formula", .glo "law", .glo "SINGLE", .glo "DOUBLE", .glo "KEPT", .glo "RECKONED"]
def ff : List He.Fa := [.free "len", .free "abs", .free "max", .free "min", .free "sum", .free "all", .free "int", .free "bool", .free "str", .free "list", .free "tuple", .free "isinstance", .free "range"]
def fi : List He.Fa := [.int "CELL" 64, .int "MOST_SIZE" 200, .int "GREAT" 1000000000000000000000000000000000000000000000000000000000000, .int "STORE" 8, .int "MOST_WORTHS" 12, .int "MOST_PARTS" 200, .int "MOST_WITHIN" 40]
def fa : List He.Fa := fg0 ++ fg1 ++ fg2 ++ ff ++ fi
def rkv : List (Str × He.Dv) := [("copy", .glo "things_copied"), ("drop", .glo "things_dropped"), ("swap", .glo "things_swapped"), ("pick", .glo "things_picked"), ("plus", .glo "things_summed"), ("minus", .glo "things_lessened"), ("times", .glo "things_multiplied"), ("lesser", .glo "things_lesser"), ("greater", .glo "things_greater"), ("same", .glo "things_alike"), ("both", .glo "things_both_told"), ("either", .glo "things_either_told"), ("not", .glo "things_none_told"), ("negate", .glo "things_negated"), ("bare", .glo "things_bared"), ("floor", .glo "things_floored"), ("ceil", .glo "things_ceiled")]
def kpv : List (Str × He.Dv) := [("load", .int 8), ("worth", .int 12)]
def ts : List He.Tab := [(fun K => He.ga K "KEPT", kpv.map (·.1)), (fun K => He.ga K "RECKONED", rkv.map (·.1))]
def noList (K : PySem.W.Frag) : Bool := K.all fun q => match q.2.cls with
  | .type c => !decide (c = "list")
  | _ => true
def sgv : List He.Dv := [.str "negate", .str "bare", .str "floor", .str "ceil", .str "not"]
def dbv : List He.Dv := [.str "plus", .str "minus", .str "times", .str "over", .str "lesser", .str "greater", .str "same", .str "both", .str "either"]
def ex (K : PySem.W.Frag) : Bool := noList K && (He.tupB K "SINGLE" sgv && (He.tupB K "DOUBLE" dbv && (He.valsB K (He.ga K "KEPT") kpv && He.valsB K (He.ga K "RECKONED") rkv)))
abbrev R : PySem.W.OpenRow := PySem.W.OpenLaw.row PySem.Challenge.rw_hintscribe_k77_formulas_and_their_number
abbrev hk : PySem.W.Hook := He.hookX 4 fa fn ts [] ex
def ob (s : PySem.W.SharedT) : He.AlX := He.obsX 4 fa fn ts [] ex (HandSHeadRun.getT s)
theorem ob_eq (s : PySem.W.SharedT) : ob s = hk.obs s.abs := He.obsX_eq (HandSHeadRun.getT_eq s)
theorem run_f (w : World) : HandSHeadRun.RunEq R (PySem.W.view R.prog [92]) hk ob 6000 loose (w.withFollow "special-get-raises" false) := by
  intro os
  kernel_rfl
end K77

set_option Elab.async false
set_option linter.all false
set_option maxRecDepth 100000
set_option maxHeartbeats 0
namespace K77
open PySem PySem.Spec PyProof.Rows L2 DS
theorem run_t (w : World) : HandSHeadRun.RunEq R (PySem.W.view R.prog [92]) hk ob 6000 loose (w.withFollow "special-get-raises" true) := by
  intro os
  kernel_rfl
theorem run (w : World) : HandSHeadRun.RunEq R (PySem.W.view R.prog [92]) hk ob 6000 loose w :=
  PySem.W.byRow2 "special-get-raises" (P := fun w => HandSHeadRun.RunEq R (PySem.W.view R.prog [92]) hk ob 6000 loose w) run_f run_t w
end K77

set_option Elab.async false
set_option linter.all false
set_option maxRecDepth 100000
/-! numbers: fractions in lowest terms -/
namespace K77
open PySem
def prt (t b : Int) : Int := if b < 0 then 0 - (Int.gcd t b : Int) else (Int.gcd t b : Int)
def redT (t b : Int) : Int := t.fdiv (prt t b)
def redB (t b : Int) : Int := b.fdiv (prt t b)
def numD (a b : Int) : PyData := if b = 1 then .int a else .tuple [.int a, .int b]
def redD (t b : Int) : PyData := numD (redT t b) (redB t b)
structure Nm (a b : Int) : Prop where
  pos : 0 < b
  cop : Int.gcd a b = 1
theorem gcd_pos {t b : Int} (hb : b ≠ 0) : 0 < Int.gcd t b := Int.gcd_pos_of_ne_zero_right t hb
theorem prt_ne {t b : Int} (hb : b ≠ 0) : prt t b ≠ 0 := by
  have := gcd_pos (t := t) hb
  unfold prt; split <;> omega
theorem prt_t {t b : Int} : prt t b ∣ t := by
  unfold prt
  split
  · rw [Int.zero_sub, Int.neg_dvd]; exact Int.gcd_dvd_left ..
  · exact Int.gcd_dvd_left ..
theorem prt_b {t b : Int} : prt t b ∣ b := by
  unfold prt
  split
  · rw [Int.zero_sub, Int.neg_dvd]; exact Int.gcd_dvd_right ..
  · exact Int.gcd_dvd_right ..
theorem prt_abs {t b : Int} : (prt t b).natAbs = Int.gcd t b := by
  unfold prt; split <;> omega
theorem fdiv_mul {t p : Int} (h : p ∣ t) (hp : p ≠ 0) : t.fdiv p * p = t := by
  obtain ⟨c, rfl⟩ := h
  rw [Int.mul_fdiv_cancel_left _ hp, Int.mul_comm]
theorem red_t {t b : Int} (hb : b ≠ 0) : redT t b * prt t b = t := fdiv_mul prt_t (prt_ne hb)
theorem red_b {t b : Int} (hb : b ≠ 0) : redB t b * prt t b = b := fdiv_mul prt_b (prt_ne hb)
theorem red_nm {t b : Int} (hb : b ≠ 0) : Nm (redT t b) (redB t b) := by
  have h1 := red_t (t := t) hb
  have h2 := red_b (t := t) hb
  have hp := prt_ne (t := t) hb
  have hg := gcd_pos (t := t) hb
  constructor
  · by_cases h : b < 0
    · have e : prt t b < 0 := by unfold prt; rw [if_pos h]; omega
      rcases Int.lt_trichotomy (redB t b) 0 with q | q | q
      · have : 0 < redB t b * prt t b := Int.mul_pos_of_neg_of_neg q e
        omega
      · rw [q, Int.zero_mul] at h2; omega
      · exact q
    · have e : 0 < prt t b := by unfold prt; rw [if_neg h]; omega
      rcases Int.lt_trichotomy (redB t b) 0 with q | q | q
      · have : redB t b * prt t b < 0 := Int.mul_neg_of_neg_of_pos q e
        omega
      · rw [q, Int.zero_mul] at h2; omega
      · exact q
  · have e : Int.gcd (redT t b * prt t b) (redB t b * prt t b) = Int.gcd (redT t b) (redB t b) * (prt t b).natAbs := Int.gcd_mul_right ..
    rw [h1, h2, prt_abs] at e
    have e2 : Int.gcd (redT t b) (redB t b) * Int.gcd t b = 1 * Int.gcd t b := by omega
    exact Nat.eq_of_mul_eq_mul_right hg e2
theorem red_id {a b : Int} (h : Nm a b) : redT a b = a ∧ redB a b = b := by
  have hp : prt a b = 1 := by unfold prt; rw [if_neg (by have := h.pos; omega), h.cop]; rfl
  unfold redT redB
  rw [hp]
  exact ⟨Int.fdiv_one _, Int.fdiv_one _⟩
theorem redD_id {a b : Int} (h : Nm a b) : redD a b = numD a b := by
  unfold redD
  rw [(red_id h).1, (red_id h).2]
theorem redT_le {t b : Int} (hb : b ≠ 0) : (redT t b).natAbs ≤ t.natAbs := by
  have h := congrArg Int.natAbs (red_t (t := t) hb)
  rw [Int.natAbs_mul, prt_abs] at h
  have hg := gcd_pos (t := t) hb
  have := Nat.le_mul_of_pos_right (redT t b).natAbs hg
  omega
theorem redB_le {t b : Int} (hb : b ≠ 0) : (redB t b).natAbs ≤ b.natAbs := by
  have h := congrArg Int.natAbs (red_b (t := t) hb)
  rw [Int.natAbs_mul, prt_abs] at h
  have hg := gcd_pos (t := t) hb
  have := Nat.le_mul_of_pos_right (redB t b).natAbs hg
  omega
theorem redB_pos {t b : Int} (hb : b ≠ 0) : 0 < redB t b := (red_nm hb).pos
/-- the law's way to lowest terms is the same -/
theorem low_t {t b : Int} (hb : b ≠ 0) : ((if b > 0 then 1 else -1) * t).fdiv (Int.gcd t b) = redT t b := by
  have hg := gcd_pos (t := t) hb
  have hd : (Int.gcd t b : Int) ∣ t := Int.gcd_dvd_left ..
  unfold redT prt
  by_cases h : b < 0
  · rw [if_neg (by omega), if_pos h]
    have hg0 : (Int.gcd t b : Int) ≠ 0 := by omega
    clear hg
    obtain ⟨c, hc⟩ := hd
    generalize (Int.gcd t b : Int) = g at *
    subst hc
    rw [show -1 * (g * c) = g * (-c) by rw [Int.mul_neg, Int.neg_mul, Int.one_mul], Int.mul_fdiv_cancel_left _ hg0, show g * c = (0 - g) * (-c) by rw [Int.zero_sub, Int.neg_mul_neg], Int.mul_fdiv_cancel_left _ (by omega)]
  · rw [if_pos (by omega), if_neg h, Int.one_mul]
theorem low_b {t b : Int} (hb : b ≠ 0) : ((b.natAbs : Int)).fdiv (Int.gcd t b) = redB t b := by
  have hg := gcd_pos (t := t) hb
  have hd : (Int.gcd t b : Int) ∣ b := Int.gcd_dvd_right ..
  unfold redB prt
  by_cases h : b < 0
  · rw [if_pos h, show (b.natAbs : Int) = -b by omega]
    have hg0 : (Int.gcd t b : Int) ≠ 0 := by omega
    clear hg
    obtain ⟨c, hc⟩ := hd
    generalize (Int.gcd t b : Int) = g at *
    subst hc
    rw [show -(g * c) = g * (-c) by rw [Int.mul_neg], Int.mul_fdiv_cancel_left _ hg0, show g * c = (0 - g) * (-c) by rw [Int.zero_sub, Int.neg_mul_neg], Int.mul_fdiv_cancel_left _ (by omega)]
  · rw [if_neg h, show (b.natAbs : Int) = b by omega]
/-- a size: below 2 ^ n, without the sign -/
def Bd (n : Nat) (i : Int) : Prop := i.natAbs < 2 ^ n
theorem Bd.mono {m n : Nat} {i : Int} (h : Bd m i) (l : m ≤ n) : Bd n i := Nat.lt_of_lt_of_le h (Nat.pow_le_pow_right (by decide) l)
theorem Bd.mul {m n : Nat} {i j : Int} (h : Bd m i) (k : Bd n j) : Bd (m + n) (i * j) := by
  unfold Bd at *
  rw [Int.natAbs_mul, Nat.pow_add]
  exact Nat.mul_lt_mul'' h k
theorem Bd.add {n : Nat} {i j : Int} (h : Bd n i) (k : Bd n j) : Bd (n + 1) (i + j) := by
  unfold Bd at *
  have := Int.natAbs_add_le i j
  rw [Nat.pow_succ]
  omega
theorem Bd.neg {n : Nat} {i : Int} (h : Bd n i) : Bd n (-i) := by unfold Bd at *; rw [Int.natAbs_neg]; exact h
theorem Bd.sub {n : Nat} {i j : Int} (h : Bd n i) (k : Bd n j) : Bd (n + 1) (i - j) := by rw [Int.sub_eq_add_neg]; exact h.add k.neg
theorem Bd.le {n : Nat} {i j : Int} (h : Bd n i) (k : j.natAbs ≤ i.natAbs) : Bd n j := Nat.lt_of_le_of_lt k h
theorem Bd.redT {n : Nat} {t b : Int} (hb : b ≠ 0) (h : Bd n t) : Bd n (redT t b) := h.le (redT_le hb)
theorem Bd.redB {n : Nat} {t b : Int} (hb : b ≠ 0) (h : Bd n b) : Bd n (redB t b) := h.le (redB_le hb)
theorem ten60 : (10 : Nat) ^ 60 < 2 ^ 200 := by decide
end K77

set_option Elab.async false
set_option linter.all false
set_option maxRecDepth 100000
set_option maxHeartbeats 4000000
/-! DS6: comprehensions that change nothing; calls with keywords. -/
namespace DS
open PySem PySem.Spec PyProof.Rows L2
theorem lenOk {n : Nat} (h : Nat.ble n 100000 = true) : n ≤ sizeLine := Nat.le_trans (Nat.le_of_ble_eq_true h) (by decide)
section
variable {K : PySem.W.Frag} {ρ : List Slot} {β : Bt} {P : PyData → Bt → Prop}
/-- a seam: what holds behind t is enough for u -/
theorem ws_cut {t u : TS} {E : Out} (N : List Slot → Bt → Prop) (h : WS K t ρ β { E with nx := N }) (h2 : ∀ ρ' β', N ρ' β' → WS K u ρ' β' E) : WS K (tSeq t u) ρ β E :=
  ws_seq fun os0 H0 os H σ D r hk hs x => h os0 H0 os H σ D r hk hs ⟨fun os' σ' H' ρ' β' p => x.nx os' σ' H' ρ' β' (h2 ρ' β' p), x.rt, x.bk, x.ct⟩
theorem wt_yes {P : Bool → Bt → Prop} (h : P true β) : WT K tYes ρ β P := fun os H σ Q hk hs q => q true H β h rfl (Keep.refl _ _) hk
/-- [f(d) for d in ds], nothing changed -/
theorem we_lc_map {wi : TI} {g : TG} {te : TE} {vs tg : List Nat} (f : PyData → PyData) (htg : ∀ i ∈ tg, i ∈ vs)
    (h : WI K wi ρ β fun ds β1 => ds.length ≤ sizeLine ∧ (∀ d ∈ ds, WGc K g tg d (wipeS ρ vs) fun ρ2 => WE K te ρ2 β1 fun y β2 => y = f d ∧ β2 = β1) ∧ P (.list (ds.map f)) β1) : WE K (tLc wi g tYes te vs) ρ β P := by
  refine we_lc htg fun os H σ R hk hs q => h os H σ R hk hs fun J H2 ds src β2 p e k hk2 itd hsrc => q J H2 ds src β2 ?_ e k hk2 itd hsrc
  obtain ⟨hl, hstep, hend⟩ := p
  refine ⟨fun i acc β' => acc = (ds.take i).map f ∧ β' = β2, ⟨rfl, rfl⟩, fun i d acc β' hd ⟨h1, h2⟩ _ => ?_, hl, fun acc β' ⟨h1, h2⟩ _ => ?_⟩
  · subst h1 h2
    refine fun os H σ v Q hs hv q => hstep d (List.mem_of_getElem? hd) os H σ v Q hs hv fun σ' ρ' p hs' st => q σ' ρ' (wt_yes ⟨fun _ => p.mono ?_, fun z => nomatch z⟩) hs' st
    rintro y β3 ⟨rfl, rfl⟩
    refine ⟨?_, rfl⟩
    rw [List.take_add_one, hd, List.map_append]
    rfl
  · subst h1 h2
    rw [List.take_length]
    exact hend
/-- [f(d) for d in ds if c(d)], nothing changed -/
theorem we_lc_if {wi : TI} {g : TG} {tt : TT} {te : TE} {vs tg : List Nat} (c : PyData → Bool) (f : PyData → PyData) (htg : ∀ i ∈ tg, i ∈ vs)
    (h : WI K wi ρ β fun ds β1 => ds.length ≤ sizeLine ∧ (∀ d ∈ ds, WGc K g tg d (wipeS ρ vs) fun ρ2 => WT K tt ρ2 β1 fun b β2 => b = c d ∧ β2 = β1 ∧ (b = true → WE K te ρ2 β2 fun y β3 => y = f d ∧ β3 = β1)) ∧ P (.list ((ds.filter c).map f)) β1) : WE K (tLc wi g tt te vs) ρ β P := by
  refine we_lc htg fun os H σ R hk hs q => h os H σ R hk hs fun J H2 ds src β2 p e k hk2 itd hsrc => q J H2 ds src β2 ?_ e k hk2 itd hsrc
  obtain ⟨hl, hstep, hend⟩ := p
  refine ⟨fun i acc β' => acc = ((ds.take i).filter c).map f ∧ β' = β2, ⟨rfl, rfl⟩, fun i d acc β' hd ⟨h1, h2⟩ _ => ?_, hl, fun acc β' ⟨h1, h2⟩ _ => ?_⟩
  · subst h1 h2
    refine fun os H σ v Q hs hv q => hstep d (List.mem_of_getElem? hd) os H σ v Q hs hv fun σ' ρ' p hs' st => q σ' ρ' (p.mono ?_) hs' st
    rintro b β3 ⟨hb, rfl, hE⟩
    refine ⟨fun z => (hE z).mono ?_, fun z => ⟨?_, rfl⟩⟩
    · rintro y β4 ⟨rfl, rfl⟩
      refine ⟨?_, rfl⟩
      rw [List.take_add_one, hd, List.filter_append, List.map_append]
      simp [show c d = true by rw [← hb]; exact z]
    · rw [List.take_add_one, hd, List.filter_append, List.map_append]
      simp [show c d = false by rw [← hb]; exact z]
  · subst h1 h2
    rw [List.take_length]
    exact hend
end
/-! ### calls with keywords: n positional values, then the keywords ks; what is bound: all of them in a row, or (rev) the keywords from behind -/
def bnd {α : Type} (rev : Bool) (us ws : List α) : List α := if rev then ws.reverse else us ++ ws
structure CalK (P : Program) (w : World) (K : PySem.W.Frag) (mg : Str → Option Value) (base : Heap) (x : Str) (k : Nat) (ps : List Str) (n : Nat) (ks : List Str) (rev : Bool) (sp : Sp) : Prop where
  ex : ∃ (f : Addr) (fd : FuncData), FnOk P w K mg base CXN k f fd ps sp ∧ mg x = some (.ref f) ∧ PySem.W.keepIn K (.ref f) = true ∧ KBn K fd ps n ks (bnd rev) (bnd rev)
theorem CalK.mono {P : Program} {w : World} {K : PySem.W.Frag} {mg : Str → Option Value} {base : Heap} {x : Str} {j k : Nat} {ps : List Str} {n : Nat} {ks : List Str} {rev : Bool} {sp : Sp} (c : CalK P w K mg base x j ps n ks rev sp) (h : j ≤ k) : CalK P w K mg base x k ps n ks rev sp := by
  obtain ⟨f, fd, F, m, kp, b⟩ := c.ex
  exact ⟨f, fd, F.mono h, m, kp, b⟩
theorem vals_rev : ∀ {vs : List V} {us : List Value}, Vals vs us → Vals vs.reverse us.reverse
  | _, _, .nil => .nil
  | _, _, .cons r t => by rw [List.reverse_cons, List.reverse_cons]; exact (vals_rev t).append (.cons r .nil)
theorem dpAll_rev {K : PySem.W.Frag} {H : Hp} : ∀ {vs : List V} {ds : List PyData}, DpAll K H vs ds → DpAll K H vs.reverse ds.reverse
  | _, _, .nil => .nil
  | _, _, .cons r t => by rw [List.reverse_cons, List.reverse_cons]; exact dpAll_append (dpAll_rev t) (.cons r .nil)
theorem bnd_vals {rev : Bool} {vs : List V} {us : List Value} {zs : List V} {ws : List Value} (r : Vals vs us) (q : Vals zs ws) : Vals (bnd rev vs zs) (bnd rev us ws) := by
  unfold bnd
  cases rev with
  | true => exact vals_rev q
  | false => exact r.append q
theorem bnd_dp {K : PySem.W.Frag} {H : Hp} {rev : Bool} {vs : List V} {us : List PyData} {zs : List V} {ws : List PyData} (r : DpAll K H vs us) (q : DpAll K H zs ws) : DpAll K H (bnd rev vs zs) (bnd rev us ws) := by
  unfold bnd
  cases rev with
  | true => exact dpAll_rev q
  | false => exact dpAll_append r q
theorem Has.callK {P : Program} {w : World} {K : PySem.W.Frag} {mg : Str → Option Value} {base : Heap} {x : Str} {st : Stmt} {kws : List (Str × V)} {ps : List Str} {k n : Nat} {ks : List Str} {rev : Bool} {sp : Sp} (h : Has K mg x st kws)
    (hb : ∀ (kV doc pm : Value) (an : Option Addr) (cdv ct : Value) (us ws : List Value), us.length = n → ws.length = ks.length → bindArgs (PySem.W.fnOf x x (defArgs st) (defBody st) (defScope st) .none kV doc pm an cdv ct) ⟨us, ks.zip ws⟩ = pure (ps.zip (bnd rev us ws)))
    (hf : ∀ f fd, FunD K x x (defArgs st) (defBody st) (defScope st) [] kws f fd → mg x = some (.ref f) → FnOk P w K mg base CXN k f fd ps sp) : CalK P w K mg base x k ps n ks rev sp := by
  obtain ⟨f, fd, F, m⟩ := h.ex
  refine ⟨f, fd, hf f fd F m, m, F.kp, ?_⟩
  obtain ⟨oc, od, dV, kV, doc, pm, an, cdv, ct, osl, rfl, lk, hcd, hD, hK⟩ := F.ex
  rcases hD with ⟨_, rfl⟩ | ⟨e, _⟩
  · exact ⟨fun s us ws _ l1 l2 => .of_eq (hb kV doc pm an cdv ct us ws l1 l2), fun r q => bnd_vals r q⟩
  · exact absurd rfl e
def tCalK (n m : Nat) (rev : Bool) (sp : Sp) (t tk : TA) : TE := fun σ H Q => t σ H fun vs H1 => tk σ H1 fun zs H2 => vs.length = n ∧ zs.length = m ∧ sp (bnd rev vs zs) H2 Q EN
section
variable {X : Cx} {k n : Nat} {ps ks : List Str} {rev : Bool} {sp : Sp} {x : Str} {p pos : Pos} {e : Expr} {es : List Expr} {kws : List Keyword} {t tk : TA}
theorem pe_calK (C : CalK X.prog X.w X.K X.mg X.base x k ps n ks rev sp) (hr : Room k X.A) (hg : Gl X x) (ha : PA X (e :: es) t) (hkw : PK X kws tk)
    (hall : (backToKw pos (keywordEach kws X.env)).all (·.1.isSome) = true := by rfl) (hks : (backToKw pos (keywordEach kws X.env)).filterMap (·.1) = ks := by rfl)
    (hdb : (x == ("__debug__" : Str)) = false := by decide) (he : starEach (e :: es) X.env = (false, eval e X.env) :: starEach es X.env := by rfl)
    (hpl : ((backTo pos (starEach (e :: es) X.env)).any (·.1) || (backToKw pos (keywordEach kws X.env)).any (·.1.isNone)) = false := by rfl) : PE X (.Call (.Name x p) (e :: es) kws pos) (tCalK n ks.length rev sp t tk) := by
  obtain ⟨f, fd, F, m, kp, b⟩ := C.ex
  exact pe_callN F hr hg m kp b passN ha hkw hall hks hdb he hpl
theorem pe_calK0 (C : CalK X.prog X.w X.K X.mg X.base x k ps 0 ks rev sp) (hr : Room k X.A) (hg : Gl X x) (hkw : PK X kws tk)
    (hall : (backToKw pos (keywordEach kws X.env)).all (·.1.isSome) = true := by rfl) (hks : (backToKw pos (keywordEach kws X.env)).filterMap (·.1) = ks := by rfl)
    (hdb : (x == ("__debug__" : Str)) = false := by decide) (hpl : ((backTo pos (starEach [] X.env)).any (·.1) || (backToKw pos (keywordEach kws X.env)).any (·.1.isNone)) = false := by rfl) :
    PE X (.Call (.Name x p) [] kws pos) (tCalK 0 ks.length rev sp tNil tk) := by
  obtain ⟨f, fd, F, m, kp, b⟩ := C.ex
  refine ⟨fun pins s σ H Q I h => ?_⟩
  refine wpAny_Call_Name_kw (ld_glob I hg m ?_ hdb)
  refine PySem.W.callWith_KW0 (h₀ := X.base) I.ok.mod.kin kp hall (thn (hkw.run pos pins s σ H _ I h) fun ws s2 ⟨zs, H2, I2, rz, l1, l2, q2⟩ => ⟨I2.kIn, ?_⟩) hpl
  rw [hks]
  exact run_fnN F hr b passN I2 .nil rz l1 l2 q2
end
section
variable {K : PySem.W.Frag} {ρ : List Slot} {β : Bt} {P : PyData → Bt → Prop}
theorem we_callK {n m : Nat} {rev : Bool} {R : List PyData → PyData → Prop} {ta tk : TA} (h : WA K ta ρ β fun xs β1 => xs.length = n ∧ WA K tk ρ β1 fun zs β2 => zs.length = m ∧ ∃ z, R (bnd rev xs zs) z ∧ P z β2) : WE K (tCalK n m rev (spP K R) ta tk) ρ β P := fun os H σ Q hk hs q => by
  refine h os H σ _ hk hs fun vs H1 xs β1 p e k hk1 d1 => ?_
  obtain ⟨l1, p⟩ := p
  refine p os H1 σ _ hk1 (slots_keep hk k hs) fun zv H2 zs β2 p2 e2 k2 hk2 d2 => ?_
  obtain ⟨l2, z, hr, p⟩ := p2
  have e12 := e2.trans e
  have k12 := keep_trans e k k2
  exact ⟨(dpAll_len d1).trans l1, (dpAll_len d2).trans l2, os, _, z, hk2.trk, bnd_dp (dpAll_keep hk1 k2 d1) d2, hr, fun w H3 s dw => q w H3 z β2 p e12 (keep_trans e12 k12 (Keep.same s)) (hk2.mono s) dw⟩
end
end DS

set_option Elab.async false
set_option linter.all false
set_option maxRecDepth 100000
set_option maxHeartbeats 4000000
/-! DS7: owned dicts. -/
namespace DS
open PySem PySem.Spec PyProof.Rows L2
def kD : Key → PyData
  | .inl i => .int i
  | .inr x => .str x
def valP (kvs : List (Key × PyData)) (k : Key) : Option PyData := (kvs.find? fun kv => decide (kv.1 = k)).map (·.2)
def putP (kvs : List (Key × PyData)) (k : Key) (v : PyData) : List (Key × PyData) :=
  if (kvs.any fun kv => decide (kv.1 = k)) = true then kvs.map (fun kv => if kv.1 = k then (kv.1, v) else kv) else kvs ++ [(k, v)]
def mergeP (kvs more : List (Key × PyData)) : List (Key × PyData) := more.foldl (fun acc kv => putP acc kv.1 kv.2) kvs
section
variable {K : PySem.W.Frag} {G : Hp}
theorem kv_len : ∀ {kv : List (Key × V)} {kvs : List (Key × PyData)}, KvAll K G kv kvs → kv.length = kvs.length
  | _, _, .nil => rfl
  | _, _, .cons _ t => by rw [List.length_cons, List.length_cons, kv_len t]
theorem kv_val {k : Key} {d : PyData} : ∀ {kv : List (Key × V)} {kvs : List (Key × PyData)}, KvAll K G kv kvs → valP kvs k = some d → ∃ v, valV kv k = some v ∧ Dp K G v d
  | _, _, .nil, h => by cases h
  | (k1, v1) :: kv, (k2, d2) :: kvs, .cons r t, h => by
    obtain ⟨e, hd⟩ := r
    simp only at e
    subst e
    by_cases z : k1 = k
    · have h2 : valP ((k1, d2) :: kvs) k = some d2 := by simp [valP, List.find?_cons, z]
      rw [h2] at h
      cases h
      exact ⟨v1, valV_pos z, hd⟩
    · have h2 : valP ((k1, d2) :: kvs) k = valP kvs k := by simp [valP, List.find?_cons, z]
      rw [h2] at h
      obtain ⟨v, e1, e2⟩ := kv_val t h
      exact ⟨v, by rw [valV_neg z]; exact e1, e2⟩
theorem kv_any {k : Key} : ∀ {kv : List (Key × V)} {kvs : List (Key × PyData)}, KvAll K G kv kvs → (kv.any fun p => decide (p.1 = k)) = (kvs.any fun p => decide (p.1 = k))
  | _, _, .nil => rfl
  | _, _, .cons r t => by rw [List.any_cons, List.any_cons, r.1, kv_any t]
theorem kv_map {k : Key} {v : V} {d : PyData} (hv : Dp K G v d) : ∀ {kv : List (Key × V)} {kvs : List (Key × PyData)}, KvAll K G kv kvs → KvAll K G (kv.map fun p => if p.1 = k then (p.1, v) else p) (kvs.map fun p => if p.1 = k then (p.1, d) else p)
  | _, _, .nil => .nil
  | _, _, .cons r t => by
    refine .cons ?_ (kv_map hv t)
    obtain ⟨e, hd⟩ := r
    show (if _ then _ else _ : Key × V).1 = (if _ then _ else _ : Key × PyData).1 ∧ Dp K G (if _ then _ else _ : Key × V).2 (if _ then _ else _ : Key × PyData).2
    rw [e]
    split
    · exact ⟨rfl, hv⟩
    · exact ⟨e, hd⟩
theorem kv_app : ∀ {kv kw : List (Key × V)} {kvs kws : List (Key × PyData)}, KvAll K G kv kvs → KvAll K G kw kws → KvAll K G (kv ++ kw) (kvs ++ kws)
  | _, _, _, _, .nil, h => h
  | _, _, _, _, .cons r t, h => .cons r (kv_app t h)
theorem kv_put {k : Key} {v : V} {d : PyData} {kv : List (Key × V)} {kvs : List (Key × PyData)} (h : KvAll K G kv kvs) (hv : Dp K G v d) : KvAll K G (putK kv k v) (putP kvs k d) := by
  unfold putK putP
  rw [kv_any h]
  split
  · exact kv_map hv h
  · exact kv_app h (.cons ⟨rfl, hv⟩ .nil)
theorem kv_merge : ∀ {more : List (Key × V)} {moreP : List (Key × PyData)} {kv : List (Key × V)} {kvs : List (Key × PyData)}, KvAll K G more moreP → KvAll K G kv kvs → KvAll K G (mergeK kv more) (mergeP kvs moreP)
  | _, _, _, _, .nil, h => h
  | (k1, v1) :: more, (k2, d2) :: moreP, kv, kvs, .cons r t, h => by
    obtain ⟨e, hd⟩ := r
    simp only at e
    subst e
    have ih := kv_merge (kv := putK kv k1 v1) (kvs := putP kvs k1 d2) t (kv_put h hd)
    exact ih
/-- pairs as data -/
inductive PsR (K : PySem.W.Frag) (G : Hp) : List (V × V) → List (PyData × PyData) → Prop
  | nil : PsR K G [] []
  | cons {x y : V} {a b : PyData} {ps : List (V × V)} {qs : List (PyData × PyData)} : Dp K G x a → Dp K G y b → PsR K G ps qs → PsR K G ((x, y) :: ps) ((a, b) :: qs)
theorem PsR.mono {G' : Hp} (e : Same G G') : ∀ {ps : List (V × V)} {qs : List (PyData × PyData)}, PsR K G ps qs → PsR K G' ps qs
  | _, _, .nil => .nil
  | _, _, .cons a b t => .cons (dp_mono e _ _ a) (dp_mono e _ _ b) (PsR.mono e t)
theorem dp_key {v : V} {k : Key} (h : Dp K G v (kD k)) : v = kV k := by
  cases k with
  | inl i => exact dp_int h
  | inr x => exact dp_str h
theorem psR_kv : ∀ {kvs : List (Key × PyData)} {ps : List (V × V)}, PsR K G ps (kvs.map fun kv => (kD kv.1, kv.2)) → ∃ kv : List (Key × V), ps = kv.map (fun kv => (kV kv.1, kv.2)) ∧ KvAll K G kv kvs
  | [], _, h => by cases h; exact ⟨[], rfl, .nil⟩
  | (k, d) :: kvs, _, h => by
    cases h with
    | cons a b t =>
      obtain ⟨kv, e1, e2⟩ := psR_kv t
      have := dp_key a
      subst this e1
      exact ⟨(k, _) :: kv, rfl, .cons ⟨rfl, b⟩ e2⟩
end
def WPr (K : PySem.W.Frag) (trs : List (TE × TE)) (ρ : List Slot) (β : Bt) (P : List (PyData × PyData) → Bt → Prop) : Prop := ∀ (os : List Addr) (H : Hp) (σ : L2.St) (Q : List (V × V) → Hp → Prop), Hok K os H β → SlotsR K (Off os H) σ ρ →
  (∀ ps H2 qs β2, P qs β2 → dom β2 = dom β → Keep β H H2 → Hok K os H2 β2 → PsR K (Off os H2) ps qs → Q ps H2) → tPairs trs σ H Q
section
variable {K : PySem.W.Frag} {ρ : List Slot} {β : Bt} {P : PyData → Bt → Prop} {E : Out}
theorem wp_nil {P : List (PyData × PyData) → Bt → Prop} (p : P [] β) : WPr K [] ρ β P := fun os H σ Q hk hs q => q [] H [] β p rfl (Keep.refl _ _) hk .nil
theorem wp_cons {tk tv : TE} {r : List (TE × TE)} {P : List (PyData × PyData) → Bt → Prop} (h : WE K tk ρ β fun x β1 => WE K tv ρ β1 fun y β2 => WPr K r ρ β2 fun qs β3 => P ((x, y) :: qs) β3) : WPr K ((tk, tv) :: r) ρ β P := fun os H σ Q hk hs q => by
  refine h os H σ _ hk hs fun v H1 x β1 h1 e1 k1 hk1 d1 => ?_
  refine h1 os H1 σ _ hk1 (slots_keep hk k1 hs) fun u H2 y β2 h2 e2 k2 hk2 d2 => ?_
  have k12 := keep_trans e1 k1 k2
  refine h2 os H2 σ _ hk2 (slots_keep hk k12 hs) fun ps H3 qs β3 h3 e3 k3 hk3 d3 => ?_
  exact q _ H3 _ β3 h3 ((e3.trans e2).trans e1) (keep_trans (e2.trans e1) k12 k3) hk3 (.cons (dp_keep hk2 k3 (dp_keep hk1 k2 d1)) (dp_keep hk2 k3 d2) d3)
theorem hok_in {os : List Addr} {H : Hp} {D : Addr} {o : HO} (hk : Hok K os H β) (hD : H D = none) : Hok K (D :: os) (upd H D o) β where
  trk := fun a h z => by
    by_cases e : a = D
    · rw [e, upd_same] at z; cases z
    · rw [upd_ne e] at z
      exact hk.trk a ((List.mem_cons.mp h).resolve_left e) z
  nd := hk.nd
  own := own_more hD hk.own
theorem off_less {os : List Addr} {H : Hp} {β : Bt} {D : Addr} (hk : Hok K (D :: os) H β) (hm : ∀ a ∈ dom β, a ∈ os) : Hok K os H β :=
  ⟨fun a h => hk.trk a (List.mem_cons_of_mem _ h), hk.nd, own_less (fun a h => List.mem_cons_of_mem _ h) hm hk.own⟩
/-- {k: v, ..}[i] -/
theorem we_getDisp {trs : List (TE × TE)} {ty : TE} (h : WPr K trs ρ β fun qs β1 => ∃ kvs : List (Key × PyData), qs = kvs.map (fun kv => (kD kv.1, kv.2)) ∧ kvs.length ≤ 15 ∧ WE K ty ρ β1 fun y β2 => ∃ (k : Key) (d : PyData), y = kD k ∧ valP (mergeP [] kvs) k = some d ∧ P d β2) :
    WE K (tDGet (tDisp trs) ty) ρ β P := fun os H σ Q hk hs q D hD => by
  refine h (D :: os) _ σ _ (hok_in hk hD) (slotsR_mono (off_more hD) hs) fun ps H2 qs β2 p e k hk2 hps => ?_
  have hDos : D ∉ os := new_out hk hD
  have hDd : D ∉ dom β := fun z => hDos (hk.mem D z)
  have hD2 : H2 D = some (.dK []) := k D _ hDd upd_same
  have k0 : Keep β H H2 := fun a o h1 h2 => k a o h1 (by rw [upd_ne (ne_of_none h2 hD)]; exact h2)
  obtain ⟨kvs, rfl, hl, p⟩ := p
  obtain ⟨kv, rfl, hkv⟩ := psR_kv hps
  refine ⟨hD2, kv, rfl, by rw [kv_len hkv]; exact hl, ?_⟩
  have hDd2 : D ∉ dom β2 := by rw [e]; exact hDd
  have hk3 : Hok K (D :: os) (upd H2 D (.dK (mergeK [] kv))) β2 := ⟨fun a h z => (by
    by_cases e : a = D
    · rw [e, upd_same] at z; cases z
    · rw [upd_ne e] at z; exact hk2.trk a h z), hk2.nd, own_upd (by simp) hDd2 hk2.own⟩
  have hs3 : SlotsR K (Off (D :: os) (upd H2 D (.dK (mergeK [] kv)))) σ ρ := by
    rw [off_updIn (by simp)]
    exact slots_keep (hok_in hk hD) k (slotsR_mono (off_more hD) hs)
  refine p (D :: os) _ σ _ hk3 hs3 fun y H4 yd β4 p4 e4 k4 hk4 dy => ?_
  obtain ⟨ky, d, rfl, hv, p4⟩ := p4
  have hD4 : H4 D = some (.dK (mergeK [] kv)) := k4 D _ hDd2 upd_same
  have hkv4 : KvAll K (Off (D :: os) H4) kv kvs := by
    refine Paired.mapP hkv fun a b h => ⟨h.1, ?_⟩
    exact dp_keep hk3 k4 (by rw [off_updIn (by simp)]; exact h.2)
  obtain ⟨v, hv1, hv2⟩ := kv_val (kv_merge hkv4 .nil) hv
  have k04 : Keep β H H4 := fun a o h1 h2 => k4 a o (by rw [e]; exact h1) (by rw [upd_ne (ne_of_none h2 hD)]; exact k0 a o h1 h2)
  refine ⟨D, v, rfl, ?_, q v H4 d β4 p4 (e4.trans e) k04 (off_less hk4 fun a h => hk.mem a (by rw [← e, ← e4]; exact h)) (dp_mono (off_sub fun a h => List.mem_cons_of_mem _ h) _ _ hv2)⟩
  rw [dp_key dy, ← hv1]
  exact DGet.k hD4
/-- x = {k: v, ..}, owned from here on -/
theorem ws_newD {i : Nat} {trs : List (TE × TE)} (h : WPr K trs ρ β fun qs β1 => ∃ kvs : List (Key × PyData), qs = kvs.map (fun kv => (kD kv.1, kv.2)) ∧ kvs.length ≤ 15 ∧ ∀ p, p ∉ dom β1 → E.nx (ρ.set i (.raw (.ref p))) (β1 ++ [(p, .dct (mergeP [] kvs))])) :
    WS K (tAsg (tDisp trs) (gName i)) ρ β E := fun os0 H0 os H σ Dn r hk hs x D hD => by
  refine h (D :: os) _ σ _ (hok_in hk hD) (slotsR_mono (off_more hD) hs) fun ps H2 qs β2 p e k hk2 hps => ?_
  have hDos : D ∉ os := new_out hk hD
  have hDd : D ∉ dom β := fun z => hDos (hk.mem D z)
  have hDd2 : D ∉ dom β2 := by rw [e]; exact hDd
  have hD2 : H2 D = some (.dK []) := k D _ hDd upd_same
  obtain ⟨kvs, rfl, hl, p⟩ := p
  obtain ⟨kv, rfl, hkv⟩ := psR_kv hps
  refine ⟨hD2, kv, rfl, by rw [kv_len hkv]; exact hl, ?_⟩
  have hoff : Off (D :: os) (upd H2 D (.dK (mergeK [] kv))) = Off (D :: os) H2 := off_updIn (by simp)
  have dk : DK K os H (D :: os) (upd H2 D (.dK (mergeK [] kv))) := fun v d hd => by
    rw [hoff]
    exact dp_keep (hok_in hk hD) k (dp_mono (off_more hD) _ _ hd)
  refine x.nx (D :: os) _ _ _ _ (p D hDd2) ⟨fun a h => List.mem_cons_of_mem _ (r.os a h), fun a o h1 h2 => ?_, fun a h => ?_, fun a h => ?_, r.trk⟩ dk ⟨fun a h z => ?_, ?_, own_app (own_upd (by simp) hDd2 hk2.own) ⟨by simp, ⟨_, upd_same, _, rfl, by rw [hoff]; exact kv_merge hkv .nil⟩, trivial⟩⟩
    (slotsR_set (s := .raw (.ref D)) rfl i (by rw [hoff]; exact slots_keep (hok_in hk hD) k (slotsR_mono (off_more hD) hs)))
  · have q := r.keep a o h1 h2
    have hne : a ≠ D := ne_of_none q hD
    rw [upd_ne hne]
    refine k a o (fun z => ?_) (by rw [upd_ne hne]; exact q)
    rcases r.nw a z with w | w
    · exact h1 w
    · rw [h2] at w; cases w
  · unfold dom
    rw [List.map_append]
    exact List.mem_append.mpr (.inl (by have := r.dom a h; rw [← e] at this; exact this))
  · unfold dom at h
    rw [List.map_append] at h
    rcases List.mem_append.mp h with h | h
    · exact r.nw a (by rw [← e]; exact h)
    · simp at h
      subst h
      right
      cases q : H0 a with
      | none => rfl
      | some u =>
        by_cases hb : a ∈ E.base
        · exact absurd (r.dom a hb) hDd
        · rw [r.keep a u hb q] at hD; cases hD
  · by_cases e : a = D
    · rw [e, upd_same] at z; cases z
    · rw [upd_ne e] at z; exact hk2.trk a h z
  · unfold dom
    rw [List.map_append, List.nodup_append]
    refine ⟨hk2.nd, by simp, fun a h b h2 z => ?_⟩
    simp at h2
    exact hDd2 (by rw [← h2, ← z]; exact h)
/-- d[k], d owned -/
theorem we_getD {i j : Nat} {b : Addr} {ty : TE} (hi : ρ[i]? = some (.raw (.ref b))) (h : WE K ty ρ β fun y β1 => ∃ (k : Key) (kvs : List (Key × PyData)) (d : PyData), y = kD k ∧ β1[j]? = some (b, .dct kvs) ∧ valP kvs k = some d ∧ P d β1) :
    WE K (tDGet (tVar i) ty) ρ β P := fun os H σ Q hk hs q => by
  refine ⟨.ref b, slot_raw hs hi, h os H σ _ hk hs fun v H1 y β1 p e k hk1 dv => ?_⟩
  obtain ⟨kk, kvs, d, rfl, hj, hv, p⟩ := p
  obtain ⟨_, _, hb, kv, rfl, hkv⟩ := own_get hk1.own hj
  obtain ⟨w, h1, h2⟩ := kv_val hkv hv
  refine ⟨b, w, rfl, ?_, q w H1 d β1 p e k hk1 h2⟩
  rw [dp_key dv, ← h1]
  exact DGet.k hb
/-- d[k1], d[k2] = a pair, d owned, k1 and k2 written texts -/
theorem ws_put2 {i j : Nat} {b : Addr} {te : TE} {k1 k2 : Str} (hi : ρ[i]? = some (.raw (.ref b)))
    (h : WE K te ρ β fun d β1 => ∃ (x y : PyData) (kvs : List (Key × PyData)), d = .tuple [x, y] ∧ β1[j]? = some (b, .dct kvs) ∧ kvs.length ≤ 1000 ∧ E.nx ρ (β1.set j (b, .dct (putP (putP kvs (.inr k1) x) (.inr k2) y)))) :
    WS K (tAsg te (gTup K 2 (gCons (gSub (tVar i) (tC (.str k1)) rSetD) (gCons (gSub (tVar i) (tC (.str k2)) rSetD) gNil)))) ρ β E := fun os0 H0 os H σ D r hk hs x => by
  refine h os H σ _ hk hs fun v H1 d β1 p e k hk1 dv => ?_
  obtain ⟨y, z, kvs, rfl, hj, hl, hE⟩ := p
  obtain ⟨a, vs, rfl, h1, h2⟩ := dp_tup dv
  obtain ⟨hbo, _, hb, kv, rfl, hkv⟩ := own_get hk1.own hj
  cases h2 with
  | @cons v1 _ _ _ d1 h2 => cases h2 with
    | @cons v2 _ _ _ d2 h2 =>
      cases h2
      have hl1 := kv_len hkv
      have hz : kv.length < sizeLine := Nat.lt_of_le_of_lt (by rw [hl1]; exact hl) (by decide)
      have hz2 : (putK kv (.inr k1) v1).length < sizeLine := Nat.lt_of_le_of_lt (Nat.le_trans (by
        unfold putK
        split
        · rw [List.length_map]; omega
        · rw [List.length_append]; exact Nat.le_refl _) (show kv.length + 1 ≤ 1001 by omega)) (by decide)
      have sl := slot_raw (slots_keep hk k hs) hi
      refine ⟨a, _, rfl, same_seqT (off_le os H1) h1, rfl, v1, _, rfl, .ref b, sl, b, _, rfl, DPut.k (k := .inr k1) hb hz, v2, _, rfl, .ref b, sl, b, _, rfl, DPut.k (k := .inr k2) upd_same hz2, rfl, ?_⟩
      rw [upd_upd]
      have kp : ∀ a o, a ≠ b → H1 a = some o → (upd H1 b (.dK (putK (putK kv (.inr k1) v1) (.inr k2) v2))) a = some o := fun a o ha q => by rw [upd_ne ha]; exact q
      have hk3 := hok_set (bx' := .dct (putP (putP kvs (.inr k1) y) (.inr k2) z)) hk1 hj kp ⟨_, upd_same, _, rfl, by rw [off_updIn hbo]; exact kv_put (kv_put hkv d1) d2⟩
      have e13 := (dom_set (bx' := .dct (putP (putP kvs (.inr k1) y) (.inr k2) z)) hj).trans e
      have k13 := keep_trans e k (keep_one hj kp)
      exact x.nx os σ _ ρ _ hE (r.step e13 k13) (DK.of hk k13) hk3 (slots_keep hk k13 hs)
end
end DS

set_option Elab.async false
set_option linter.all false
set_option maxRecDepth 100000
set_option maxHeartbeats 4000000
/-! DS8: small things. -/
namespace DS
open PySem PySem.Spec PyProof.Rows L2
theorem atI_nat {ds : List PyData} {i : Nat} {d : PyData} (h : ds[i]? = some d) : atI ds (i : Int) = some d := by
  have hi : i < ds.length := (List.getElem?_eq_some_iff.mp h).1
  unfold atI
  rw [show ixN ds.length (i : Int) = some i by
    unfold ixN
    rw [if_pos (by omega), if_pos (by omega)]
    rfl]
  exact h
theorem at0 {x : PyData} {r : List PyData} : atI (x :: r) 0 = some x := atI_nat (i := 0) rfl
theorem at1 {x y : PyData} {r : List PyData} : atI (x :: y :: r) 1 = some y := atI_nat (i := 1) rfl
theorem at2 {x y z : PyData} {r : List PyData} : atI (x :: y :: z :: r) 2 = some z := atI_nat (i := 2) rfl
section
variable {K : PySem.W.Frag} {ρ : List Slot} {β : Bt} {P : PyData → Bt → Prop}
/-- [.. for d in ds], nothing changed: place by place -/
theorem we_lc_ix {wi : TI} {g : TG} {te : TE} {vs tg : List Nat} (htg : ∀ i ∈ tg, i ∈ vs)
    (h : WI K wi ρ β fun ds β1 => ∃ ys : List PyData, ds.length ≤ sizeLine ∧ ys.length = ds.length ∧ (∀ (i : Nat) (d y : PyData), ds[i]? = some d → ys[i]? = some y → WGc K g tg d (wipeS ρ vs) fun ρ2 => WE K te ρ2 β1 fun z β2 => z = y ∧ β2 = β1) ∧ P (.list ys) β1) : WE K (tLc wi g tYes te vs) ρ β P := by
  refine we_lc htg fun os H σ R hk hs q => h os H σ R hk hs fun J H2 ds src β2 p e k hk2 itd hsrc => q J H2 ds src β2 ?_ e k hk2 itd hsrc
  obtain ⟨ys, hl, hlen, hstep, hend⟩ := p
  refine ⟨fun i acc β' => acc = ys.take i ∧ β' = β2, ⟨rfl, rfl⟩, fun i d acc β' hd ⟨h1, h2⟩ _ => ?_, hl, fun acc β' ⟨h1, h2⟩ _ => ?_⟩
  · subst h1 h2
    have hi : i < ys.length := by rw [hlen]; exact (List.getElem?_eq_some_iff.mp hd).1
    have hy : ys[i]? = some ys[i] := List.getElem?_eq_getElem hi
    refine fun os H σ v Q hs hv q => hstep i d _ hd hy os H σ v Q hs hv fun σ' ρ' p hs' st => q σ' ρ' (wt_yes ⟨fun _ => p.mono ?_, fun z => nomatch z⟩) hs' st
    rintro y β3 ⟨rfl, rfl⟩
    refine ⟨?_, rfl⟩
    rw [List.take_add_one, hy]
    rfl
  · subst h1 h2
    rw [← hlen, List.take_length]
    exact hend
end
theorem room65 {k : Nat} {A : Around} (r : Room k A) : A.units + 65 < cLine := by have := r.un; omega
/-! ### calls of a local name that holds a def -/
structure Hld (P : Program) (w : World) (K : PySem.W.Frag) (mg : Str → Option Value) (base : Heap) (k : Nat) (f : Addr) (sp : Sp) : Prop where
  ex : ∃ (fd : FuncData) (ps : List Str), FnOk P w K mg base CXN k f fd ps sp ∧ PySem.W.keepIn K (.ref f) = true ∧ Binds K fd ps []
theorem Cal.hld {P : Program} {w : World} {K : PySem.W.Frag} {mg : Str → Option Value} {base : Heap} {x : Str} {k : Nat} {ps : List Str} {sp : Sp} {f : Addr} (c : Cal P w K mg base x k ps sp) (h : mg x = some (.ref f)) : Hld P w K mg base k f sp := by
  obtain ⟨f', fd, F, m, kp, b⟩ := c.ex
  rw [h] at m
  cases m
  exact ⟨fd, ps, F, kp, b⟩
def tCallH (P : Program) (w : World) (K : PySem.W.Frag) (mg : Str → Option Value) (base : Heap) (k i : Nat) (t : TA) : TE := fun σ H Q => ∃ f sp, σ[i]? = some (some (.ref f)) ∧ Hld P w K mg base k f sp ∧ t σ H fun vs H1 => sp (vs ++ []) H1 Q EN
section
variable {X : Cx} {P : Program} {w : World} {K : PySem.W.Frag} {mg : Str → Option Value} {base : Heap} {k i : Nat} {x : Str} {p pos : Pos} {e : Expr} {es : List Expr} {t : TA}
theorem pe_callH (i : Nat) (hP : X.prog = P) (hw : X.w = w) (hK : X.K = K) (hm : X.mg = mg) (hB : X.base = base) (hr : Room k X.A) (ha : PA X (e :: es) t) (hN : X.N[i]? = some x := by rfl) (hv : Vis X.env.scope x := by first | exact Or.inl rfl | exact Or.inr (Or.inl rfl) | exact Or.inr (Or.inr rfl))
    (hdb : (x == ("__debug__" : Str)) = false := by decide) (hcd : (x == ("__classdict__" : Str)) = false := by decide)
    (he : starEach (e :: es) X.env = (false, eval e X.env) :: starEach es X.env := by rfl) (hpl : (backTo pos (starEach es X.env)).any (·.1) = false := by rfl) : PE X (.Call (.Name x p) (e :: es) [] pos) (tCallH P w K mg base k i t) := by
  subst hP hw hK hm hB
  refine ⟨fun pins s σ H Q I h => ?_⟩
  obtain ⟨f, sp, hs, hh, ht⟩ := h
  obtain ⟨fd, ps, F, hk, hb⟩ := hh.ex
  exact (pe_callL (i := i) (f := f) (sp := sp) (dvs := []) (E := EN) F hr hN hv hk hb .nil passN ha hdb hcd he hpl).run pins s σ H Q I ⟨hs, ht⟩
end
section
variable {P : Program} {w : World} {K : PySem.W.Frag} {mg : Str → Option Value} {base : Heap} {ρ : List Slot} {β : Bt} {Q : PyData → Bt → Prop} {k i : Nat} {f : Addr}
theorem we_callH {R : List PyData → PyData → Prop} {ta : TA} (hi : ρ[i]? = some (.raw (.ref f))) (hh : Hld P w K mg base k f (spP K R)) (h : WA K ta ρ β fun xs β1 => ∃ z, R xs z ∧ Q z β1) : WE K (tCallH P w K mg base k i ta) ρ β Q := fun os H σ q hk hs qq =>
  ⟨f, spP K R, slot_raw hs hi, hh, we_call (E := EN) h os H σ q hk hs qq⟩
end
/-! ### defs whose answer is a new list, which the caller owns -/
def spN (K : PySem.W.Frag) (R : List PyData → List PyData → Prop) : Sp := fun vs H Q _ => ∃ (os : List Addr) (ds xs : List PyData), (∀ a ∈ os, H a ≠ none) ∧ DpAll K (Off os H) vs ds ∧ R ds xs ∧
  ∀ p ws H1, Same H H1 → H1 p = none → DpAll K (Off os H1) ws xs → Q (.ref p) (upd H1 p (.lst ws))
section
variable {P : Program} {w : World} {K : PySem.W.Frag} {mg : Str → Option Value} {base : Heap} {x qual : Str} {params : Arguments} {body : List Stmt} {scope : Scope} {dvs : List V} {kws : List (Str × V)} {f : Addr} {fd : FuncData}
theorem fn_new {N ps : List Str} {k : Nat} {R : List PyData → List PyData → Prop} (F : FunD K x qual params body scope dvs kws f fd) (S : FnScope N ps scope) (len : ∀ ds xs, R ds xs → ds.length = ps.length)
    (hbody : ∀ (cdv : Value) (A : Around) (outer : List Env) (s : Shared) (H : Hp) (E : XK), Room k (A.deeper (envOfC qual scope s.heap.objs.size f cdv)) →
      ∃ ta, PSs (cxOf CXN P w K mg base N qual scope f cdv A outer s H E).nox body (tRet (tLst ta)) ∧ ∀ ds xs, R ds xs → xs.length ≤ sizeLine ∧ WA K ta (startS N ds) [] fun ys _ => ys = xs) : FnOk P w K mg base CXN (k + 1) f fd ps (spN K R) := by
  refine F.ok S (fun vs H Q E h => ?_) fun cdv A outer s H vs Q E hr h => ?_
  · obtain ⟨os, ds, d, _, hd, hR, _⟩ := h
    exact (dpAll_len hd).trans (len _ _ hR)
  obtain ⟨os, ds, xs, ht, hd, hR, q⟩ := h
  obtain ⟨ta, hp, hw⟩ := hbody cdv A outer s H E hr
  obtain ⟨hl, hw⟩ := hw ds xs hR
  refine ⟨_, hp.nox, hw os H (L2.start N vs) _ (Hok.no ht) ?_ fun ws H1 ys β1 e ed k1 hk1 dv => ?_⟩
  · unfold L2.start startS
    rw [dpAll_len hd]
    exact slots_start (N := N) hd
  · subst e
    exact ⟨by rw [dpAll_len dv]; exact hl, fun p hp => q p ws H1 (fun a o e => k1 a o (by simp) e) hp dv⟩
end
section
variable {K : PySem.W.Frag} {ρ : List Slot} {β : Bt} {E : Out}
/-- x = f(..), a new list, owned from here on -/
theorem ws_newC {i : Nat} {ta : TA} {R : List PyData → List PyData → Prop} (h : WA K ta ρ β fun ds β1 => ∃ xs, R ds xs ∧ ∀ p, p ∉ dom β1 → E.nx (ρ.set i (.raw (.ref p))) (β1 ++ [(p, .lst xs)])) : WS K (tAsg (tCall (spN K R) [] EN ta) (gName i)) ρ β E := fun os0 H0 os H σ D r hk hs x => by
  refine h os H σ _ hk hs fun vs H1 ds β1 p e k hk1 dv => ?_
  obtain ⟨xs, hR, p⟩ := p
  refine ⟨os, ds, xs, hk1.trk, by rw [List.append_nil]; exact dv, hR, fun a ws H2 s2 na hws => ?_⟩
  have hk2 := hk1.mono s2
  have k2 := keep_trans e k (Keep.same s2)
  have ha : a ∉ dom β1 := fun z => new_out hk2 na (hk2.mem a z)
  exact x.nx (a :: os) _ _ _ _ (p a ha) (reach_new (r.step e k2) hk2 na) ((DK.of hk k2).trans fun v d hd => dp_mono (off_more na) _ _ hd) (own_new hk2 na hws)
    (slotsR_set (s := .raw (.ref a)) rfl i (slotsR_mono (off_more na) (slots_keep hk k2 hs)))
end
end DS

set_option Elab.async false
set_option linter.all false
set_option maxRecDepth 100000
set_option maxHeartbeats 4000000
/-! DS9: texts cut at a sign. -/
namespace DS
open PySem PySem.Spec PyProof.Rows L2
theorem room1 {k : Nat} {A : Around} (r : Room k A) : A.units + 1 < cLine := by have := r.un; omega
def rSpl : V → List V → Hp → VK → Prop := fun x xs H Q => ∃ a b, x = .str a ∧ xs = [.str b] ∧ (b.length == 0) = false ∧ a.length + 2 ≤ sizeLine ∧ rNewStrs (Txt.split a b) H Q
section
variable {X : Cx} {o e : Expr} {to te : TE} {apos pos : Pos}
theorem pe_splS (ho : PE X o to) (he : PE X e te) (hs : starEach [e] X.env = [(false, eval e X.env)] := by rfl) (hbase : attributeBase o "split" X.env (eval o X.env) = eval o X.env := by rfl) (hline : (apos.endLine == pos.line) = true := by rfl) :
    PE X (.Call (.Attribute o "split" apos) [e] [] pos) (tM1 rSpl to te) := pe_split ho he hs hbase hline
end
section
variable {K : PySem.W.Frag} {ρ : List Slot} {β : Bt} {P : PyData → Bt → Prop}
theorem dpAll_strs {G : Hp} : ∀ ws : List Str, DpAll K G (ws.map V.str) (ws.map PyData.str)
  | [] => .nil
  | x :: ws => .cons (.str x) (dpAll_strs ws)
theorem we_spl {to te : TE} (h : WE K to ρ β fun x β1 => ∃ a : Str, x = .str a ∧ WE K te ρ β1 fun y β2 => ∃ (b : Str) (ws : List Str), y = .str b ∧ Txt.split a b = ws ∧ (b.length == 0) = false ∧ a.length + 2 ≤ sizeLine ∧ P (.list (ws.map .str)) β2) : WE K (tM1 rSpl to te) ρ β P := fun os H σ Q hk hs q => by
  refine h os H σ _ hk hs fun v H1 x β1 h1 e1 k1 hk1 d1 => ?_
  obtain ⟨a, rfl, h1⟩ := h1
  refine ⟨⟨a, dp_str d1⟩, h1 os H1 σ _ hk1 (slots_keep hk k1 hs) fun u H2 y β2 h2 e2 k2 hk2 d2 => ?_⟩
  obtain ⟨b, ws, rfl, hw, hb, hl, p⟩ := h2
  refine ⟨a, b, dp_str d1, by rw [dp_str d2], hb, hl, fun p' hp => ?_⟩
  rw [hw]
  have s := same_new (o := .lst (ws.map V.str)) hp
  have e12 := e2.trans e1
  have k12 := keep_trans e1 k1 k2
  exact q _ _ _ β2 p e12 (keep_trans e12 k12 (Keep.same s)) (hk2.mono s) (.lst (.inl (off_upd (new_out hk2 hp))) (dpAll_strs ws))
end
section
variable {K : PySem.W.Frag} {ρ : List Slot} {β : Bt}
theorem ws_via {t : TS} {E : Out} (N : List Slot → Bt → Prop) (h : WS K t ρ β { E with nx := N }) (h2 : ∀ ρ' β', N ρ' β' → E.nx ρ' β') : WS K t ρ β E :=
  fun os0 H0 os H σ D r hk hs x => h os0 H0 os H σ D r hk hs ⟨fun os' σ' H' ρ' β' p => x.nx os' σ' H' ρ' β' (h2 ρ' β' p), x.rt, x.bk, x.ct⟩
end
end DS

set_option Elab.async false
set_option linter.all false
set_option maxRecDepth 100000
set_option maxHeartbeats 4000000
/-! DS10: two new lists at once; walks with a step. -/
namespace DS
open PySem PySem.Spec PyProof.Rows L2
section
variable {K : PySem.W.Frag} {ρ : List Slot} {β : Bt} {E : Out}
/-- x, y = ([], []), both owned from here on -/
theorem ws_par2O {i j : Nat} (h : ∀ p q, p ∉ dom β → q ∉ dom β → q ≠ p → E.nx ((ρ.set i (.raw (.ref p))).set j (.raw (.ref q))) ((β ++ [(p, .lst [])]) ++ [(q, .lst [])])) :
    WS K (tPar i j (tCons (tLst tNil) (tCons (tLst tNil) tNil))) ρ β E := fun os0 H0 os H σ D r hk hs x => by
  refine ⟨Nat.zero_le _, fun p hp => ⟨Nat.zero_le _, fun q hq => ⟨_, _, rfl, ?_⟩⟩⟩
  have hpd : p ∉ dom β := fun z => new_out hk hp (hk.mem p z)
  have hk1 := own_new hk hp (K := K) (vs := []) (ds := []) .nil
  have r1 := reach_new (o := .lst []) (ds := []) r hk hp
  have hqd1 : q ∉ dom (β ++ [(p, Oc.lst [])]) := fun z => new_out hk1 hq (hk1.mem q z)
  have hqd : q ∉ dom β := fun z => hqd1 (by unfold dom at z ⊢; rw [List.map_append]; exact List.mem_append.mpr (.inl z))
  have hne : q ≠ p := fun z => hqd1 (by unfold dom; rw [List.map_append]; exact List.mem_append.mpr (.inr (by simp [z])))
  have hk2 := own_new hk1 hq (K := K) (vs := []) (ds := []) .nil
  have r2 := reach_new (o := .lst []) (ds := []) r1 hk1 hq
  exact x.nx _ _ _ _ _ (h p q hpd hqd hne) r2 (fun v d hd => dp_mono (off_more hq) _ _ (dp_mono (off_more hp) _ _ hd)) hk2
    (slotsR_set (s := .raw (.ref q)) rfl j (slotsR_mono (off_more hq) (slotsR_set (s := .raw (.ref p)) rfl i (slotsR_mono (off_more hp) hs))))
/-- lo, lo + c, .. -/
def rngC (lo c : Int) (n : Nat) : List PyData := (List.range n).map fun (i : Nat) => PyData.int (lo + i * c)
theorem rngC_len {lo c : Int} {n : Nat} : (rngC lo c n).length = n := by unfold rngC; rw [List.length_map, List.length_range]
theorem rngC_get {lo c : Int} {n i : Nat} {d : PyData} (h : (rngC lo c n)[i]? = some d) : i < n ∧ d = .int (lo + i * c) := by
  unfold rngC at h
  rw [List.getElem?_map] at h
  by_cases hi : i < n
  · rw [List.getElem?_range hi] at h
    exact ⟨hi, (Option.some.inj h).symm⟩
  · rw [List.getElem?_eq_none (by rw [List.length_range]; omega)] at h
    cases h
theorem itd_rngC {lo c : Int} {n : Nat} : ItD K (Itc lo c n) [] (rngC lo c n) where
  go := fun os H i h hi => by rw [rngC_len] at hi; exact hi
  stop := fun os H h => by rw [rngC_len]; exact Nat.le_refl n
  yld := fun os H i x H' d ht h hd hy => by
    obtain ⟨rfl, rfl⟩ := hy
    obtain ⟨_, rfl⟩ := rngC_get hd
    exact ⟨Same.refl _, .int _⟩
theorem wi_rng3 {ta : TA} {PL : List PyData → Bt → Prop} (h : WA K ta ρ β fun xs β1 => ∃ (i j c : Int) (n : Nat), xs = [.int i, .int j, .int c] ∧ RgC i j c n ∧ PL (rngC i c n) β1) : WI K (iRng3 ta) ρ β PL := fun os H σ R hk hs q => by
  refine h os H σ _ hk hs fun vs H1 ds β1 p e k hk1 dv => ?_
  obtain ⟨i, j, c, n, rfl, h1, p⟩ := p
  cases dv with
  | cons a b => cases b with
    | cons b c => cases c with
      | cons c d =>
        cases d
        cases a
        cases b
        cases c
        exact ⟨i, j, _, n, rfl, h1, q _ H1 _ [] β1 p e k hk1 itd_rngC fun z hz => by simp at hz⟩
end
end DS

set_option Elab.async false
set_option linter.all false
set_option maxRecDepth 100000
set_option maxHeartbeats 4000000
namespace K77
open PySem PySem.Spec PyProof.Rows L2 DS
-- the steps that need no thought: one, as many as there are
local macro_rules | `(tactic| walk_at "d1") => `(tactic| with_reducible first
  | refine ws_seq ?_ | refine ws_next ?_ | refine ws_retN ?_ | refine ws_ret ?_ | refine ws_if ?_ | refine ws_par ?_ | refine ws_setK ?_ | refine ws_newD ?_ | refine wp_cons ?_ | refine wp_nil ?_ | refine ws_set ?_ | refine ws_star ?_ | refine ws_setO rfl ?_ | apply ws_asg
  | refine we_var rfl ?_ | refine we_int ?_ | refine we_bl ?_ | refine we_str ?_ | refine we_non ?_ | refine we_kd ?_ | refine we_ixO rfl ?_
  | refine we_isi isg_int ?_ | refine we_isi isg_bool ?_ | refine we_isi isg_str ?_ | refine we_isi isg_list ?_ | refine we_isi isg_tuple ?_ | refine we_isi2 isg_list isg_tuple ?_ | refine we_isi2 isg_int isg_tuple ?_
  | refine we_inK ?_ | refine we_ixK ?_ | refine we_op ?_ | refine we_un ?_ | refine we_cb ?_ | refine we_tup ?_ | refine we_lst ?_ | refine we_andV ?_ | refine we_orV ?_ | refine we_notV ?_ | refine we_if ?_ | refine we_chain ?_ | refine we_sl ?_ | refine we_call ?_
  | refine wa_nil ?_ | refine wa_cons ?_ | refine wo_none ?_ | refine wo_some ?_ | refine wt_test ?_ | refine wt_B ?_ | refine wt_and ?_ | refine wt_or ?_ | refine wt_not ?_
  | refine wg_tup rfl ?_ | refine wgs_cons ?_ | refine wgs_nil ?_ | refine wg_name ?_
  | refine ⟨_, r2_int, ?_⟩ | refine ⟨_, r2_bl, ?_⟩ | refine ⟨_, r2_addI, ?_⟩ | refine ⟨_, r2_eqI, ?_⟩ | refine ⟨_, r2_neI, ?_⟩ | refine ⟨_, r2_eqS, ?_⟩ | refine ⟨_, r2_neS, ?_⟩ | refine ⟨_, r2_isN, ?_⟩ | refine ⟨_, r1_neg, ?_⟩
  | refine ⟨_, rc_absI, ?_⟩ | refine ⟨_, rc_intI, ?_⟩ | refine ⟨_, rc_intB, ?_⟩ | refine ⟨_, rc_max, ?_⟩ | refine ⟨_, rc_min, ?_⟩ | refine ⟨_, rc_lenL, ?_⟩ | refine ⟨_, rc_lenT, ?_⟩ | refine ⟨_, rc_listL, ?_⟩ | refine ⟨_, rc_listT, ?_⟩ | refine ⟨_, rc_tupL, ?_⟩ | refine ⟨_, rc_tupT, ?_⟩
  | refine ⟨_, rfl, ?_⟩ | refine ⟨_, _, rfl, ?_⟩ | refine ⟨_, ⟨_, rfl, rfl⟩, ?_⟩ | refine ⟨_, ⟨_, _, rfl, rfl⟩, ?_⟩)
local macro_rules | `(tactic| walk_at "d") => `(tactic| repeat (first | walk_at "d1" | refine ⟨lenOk rfl, ?_⟩ | refine ⟨0, _, _, _, rfl, rfl, rfl, ?_⟩ | refine ⟨_, r2_ixXL rfl, ?_⟩ | refine ⟨_, r2_ixXT rfl, ?_⟩ | refine ⟨_, r2_ixXT at0, ?_⟩ | refine ⟨_, r2_ixXT at1, ?_⟩ | refine ⟨_, r2_ixXL at0, ?_⟩ | refine ⟨_, r2_ixXL at1, ?_⟩))
-- a condition whose truth comes out by computation
local macro_rules | `(tactic| walk_at "b1") => `(tactic| first
  | refine ⟨fun _ => ?_, fun h => Bool.noConfusion (show true = false from h)⟩
  | refine ⟨fun h => Bool.noConfusion (show false = true from h), fun _ => ?_⟩)
local macro_rules | `(tactic| walk_at "db") => `(tactic| repeat (first | walk_at "d1" | refine ⟨lenOk rfl, ?_⟩ | refine ⟨0, _, _, _, rfl, rfl, rfl, ?_⟩ | refine ⟨_, r2_ixXL rfl, ?_⟩ | refine ⟨_, r2_ixXT rfl, ?_⟩ | refine ⟨_, r2_ixXT at0, ?_⟩ | refine ⟨_, r2_ixXT at1, ?_⟩ | refine ⟨_, r2_ixXL at0, ?_⟩ | refine ⟨_, r2_ixXL at1, ?_⟩ | walk_at "b1"))
-- how many arguments there are
local macro_rules | `(tactic| walk_at "len") => `(tactic| (intro _ _ h; first
  | (obtain ⟨_, e, _⟩ := h; subst e; rfl) | (obtain ⟨_, _, e, _⟩ := h; subst e; rfl) | (obtain ⟨_, _, _, e, _⟩ := h; subst e; rfl) | (obtain ⟨_, _, _, _, e, _⟩ := h; subst e; rfl) | (obtain ⟨_, _, _, _, _, e, _⟩ := h; subst e; rfl)))
local macro_rules | `(tactic| walk_at "leno") => `(tactic| (intro _ _ h; first
  | (obtain ⟨⟨_, e, _⟩, _⟩ := h; subst e; rfl) | (obtain ⟨⟨_, _, e, _⟩, _⟩ := h; subst e; rfl) | (obtain ⟨e, _⟩ := h; subst e; rfl) | (obtain ⟨_, e, _⟩ := h; subst e; rfl) | (obtain ⟨_, _, e, _⟩ := h; subst e; rfl) | (obtain ⟨_, _, _, e, _⟩ := h; subst e; rfl) | (obtain ⟨_, _, _, _, e, _⟩ := h; subst e; rfl)))

variable {P : Program} {w : World} {K : PySem.W.Frag} {mg : Str → Option Value} {base : Heap}
def isPl : PyData → Bool
  | .int _ => true
  | _ => false
abbrev R_is_plain (ds : List PyData) (d : PyData) : Prop := ∃ x, ds = [x] ∧ d = .bool (isPl x)
theorem c_is_plain (T : Top K w mg) : Cal P w K mg base "is_plain" 1 p_is_plain (spP K R_is_plain) :=
  T.h_is_plain.call (fun _ _ _ _ _ _ us hl => match us, hl with | [_], _ => rfl) fun f fd F m => fn_pure F sc_is_plain (by walk_at "len") fun cdv A outer s H E hr => ⟨_, (pss_one (ps_ret (pe_and (pe_callB (call_isiXK (K := K) rfl) (by rfl) T.m_isinstance (by decide +kernel) (pa_cons (pv 0) (pa_cons (pe_ty "int" (by rfl) T.m_int (by decide +kernel)) pa_nil))) (pe_one (pe_not (pe_callB (call_isiXK (K := K) rfl) (by rfl) T.m_isinstance (by decide +kernel) (pa_cons (pv 0) (pa_cons (pe_ty "bool" (by rfl) T.m_bool (by decide +kernel)) pa_nil)))))))), fun ds d hR => by
    obtain ⟨x, rfl, rfl⟩ := hR
    cases x <;> walk_at "db" <;> rfl⟩
/-! ### common_part -/
abbrev R_common_part (ds : List PyData) (d : PyData) : Prop := ∃ x y : Int, ds = [.int x, .int y] ∧ d = .int (Int.gcd x y)
theorem abs_if (x : Int) : (if x < 0 then -x else x) = (x.natAbs : Int) := by split <;> omega
theorem c_common_part (T : Top K w mg) : Cal P w K mg base "common_part" 1 p_common_part (spP K R_common_part) :=
  T.h_common_part.call (fun _ _ _ _ _ _ us hl => match us, hl with | [_, _], _ => rfl) fun f fd F m => fn_pure F sc_common_part (by walk_at "len") fun cdv A outer s H E hr => ⟨_, (pss_cons (ps_par (i := 0) (j := 1) (by rfl) sc_common_part.nd rfl rfl (by decide) rfl rfl (pa_cons (pe_callB call_abs' (by rfl) T.m_abs (by decide +kernel) (pa_cons (pv 0) pa_nil)) (pa_cons (pe_callB call_abs' (by rfl) T.m_abs (by decide +kernel) (pa_cons (pv 1) pa_nil)) pa_nil)) (by rfl))
    (pss_cons (ps_while PassesOwn.never (pt_cmpR (op_neXK (K := K) rfl hr.units) (pv 1) pe_int (nomark _))
    (pss_one (ps_par (i := 0) (j := 1) (by rfl) sc_common_part.nd rfl rfl (by decide) rfl rfl (pa_cons (pv 1) (pa_cons (pe_op op_modA (pv 0) (pv 1)) pa_nil)) (by rfl))))
    (pss_one (ps_ret (pv 0))))), fun ds d hR => by
    obtain ⟨x, y, rfl, rfl⟩ := hR
    walk_at "d"
    rw [abs_if x, abs_if y]
    refine ws_while (fun m ρ β => ∃ a b : Nat, ρ = [.dat (.int a), .dat (.int b)] ∧ m = b ∧ Nat.gcd a b = Int.gcd x y) y.natAbs ⟨x.natAbs, y.natAbs, rfl, rfl, rfl⟩ ?_
    rintro b ρ' β' ⟨a, _, rfl, rfl, hg⟩
    walk_at "d"
    refine ⟨fun h => ?_, fun h => ?_⟩
    · have hb : b ≠ 0 := fun z => by subst z; cases h
      walk_at "d"
      refine ⟨_, r2_intC (by omega), ?_⟩
      walk_at "d"
      refine ⟨a % b, Nat.mod_lt _ (by omega), b, a % b, ?_, rfl, ?_⟩
      · rw [Int.fmod_eq_emod_of_nonneg _ (by omega)]
        rfl
      · rw [Nat.gcd_comm, ← Nat.gcd_rec, Nat.gcd_comm]
        exact hg
    · have hb : b = 0 := by
        simp at h
        omega
      subst hb
      walk_at "d"
      rw [← hg, Nat.gcd_zero_right]⟩
/-! ### is_part, is_number -/
def isPq : PyData → PyData → Bool
  | .int a, .int b => decide (1 < b) && decide ((Int.gcd a b : Int) = 1)
  | _, _ => false
theorem isPq_int {a b : Int} : isPq (.int a) (.int b) = (decide (1 < b) && decide ((Int.gcd a b : Int) = 1)) := rfl
def isPts : List PyData → Bool
  | [a, b] => isPq a b
  | _ => false
def isPt : PyData → Bool
  | .tuple xs => isPts xs
  | _ => false
abbrev R_is_part (ds : List PyData) (d : PyData) : Prop := ∃ x, ds = [x] ∧ d = .bool (isPt x)
theorem len_ne_two {a b c : PyData} {r : List PyData} : (!decide (((a :: b :: c :: r).length : Int) = 2)) = true := by
  rw [decide_eq_false (by simp only [List.length_cons]; omega)]
  rfl
theorem c_is_part (T : Top K w mg) : Cal P w K mg base "is_part" 2 p_is_part (spP K R_is_part) :=
  T.h_is_part.call (fun _ _ _ _ _ _ us hl => match us, hl with | [_], _ => rfl) fun f fd F m => fn_pure F sc_is_part (by walk_at "len") fun cdv A outer s H E hr => ⟨_, (pss_cons (ps_if (PW.pt (pw_or (pt_not (pt_val (pe_callB (call_isiXK (K := K) rfl) (by rfl) T.m_isinstance (by decide +kernel) (pa_cons (pv 0) (pa_cons (pe_ty "tuple" (by rfl) T.m_tuple (by decide +kernel)) pa_nil))))) (pw_or1 (pt_cmpR (op_neXK (K := K) rfl hr.units) (pe_callB (call_lenXK (K := K) rfl) (by rfl) T.m_len (by decide +kernel) (pa_cons (pv 0) pa_nil)) pe_int (nomark _))))) (pss_one (ps_ret pe_bl)) pss_nil)
    (pss_cons (ps_asg (pv 0) (pg_tupK (K := K) (n := 2) rfl (by rfl) (pgs_cons (pg_name (i := 1) sc_is_part.nd rfl (.inl rfl)) (pgs_cons (pg_name (i := 2) sc_is_part.nd rfl (.inl rfl)) pgs_nil))))
    (pss_one (ps_ret (pe_and (pe_cal (c_is_plain (P := P) (w := w) (K := K) (mg := mg) (base := base) T) (hr.mono (by omega)) (by rfl) (pa_cons (pv 1) pa_nil)) (pe_and (pe_cal (c_is_plain (P := P) (w := w) (K := K) (mg := mg) (base := base) T) (hr.mono (by omega)) (by rfl) (pa_cons (pv 2) pa_nil)) (pe_and (pe_cmpR op_gt (pv 2) pe_int (nomark _)) (pe_one (pe_cmpR (op_eqXK (K := K) rfl hr.units) (pe_cal (c_common_part (P := P) (w := w) (K := K) (mg := mg) (base := base) T) (hr.mono (by omega)) (by rfl) (pa_cons (pv 1) (pa_cons (pv 2) pa_nil))) pe_int (nomark _)))))))))), fun ds d hR => by
    obtain ⟨x, rfl, rfl⟩ := hR
    match x with
    | .none | .bool _ | .int _ | .str _ | .list _ | .dict _ => walk_at "db"; rfl
    | .tuple [] => walk_at "db"; rfl
    | .tuple [_] => walk_at "db"; rfl
    | .tuple (a :: b :: c :: r) =>
      walk_at "d"
      refine ⟨fun h => (nomatch h), fun _ => ?_⟩
      walk_at "d"
      rw [len_ne_two]
      walk_at "db"
      rfl
    | .tuple [a, b] =>
      walk_at "db"
      cases a <;> try (walk_at "db"; rfl)
      walk_at "db"
      cases b <;> try (walk_at "db"; rfl)
      walk_at "db"
      refine ⟨fun h => ?_, fun h => ?_⟩
      · walk_at "db"
        show PyData.bool _ = PyData.bool (isPq (.int _) (.int _))
        rw [isPq_int, h]
        rfl
      · show PyData.bool _ = PyData.bool (isPq (.int _) (.int _))
        rw [isPq_int, h]
        rfl⟩
def isNu (x : PyData) : Bool := isPl x || isPt x
abbrev R_is_number (ds : List PyData) (d : PyData) : Prop := ∃ x, ds = [x] ∧ d = .bool (isNu x)
theorem c_is_number (T : Top K w mg) : Cal P w K mg base "is_number" 3 p_is_number (spP K R_is_number) :=
  T.h_is_number.call (fun _ _ _ _ _ _ us hl => match us, hl with | [_], _ => rfl) fun f fd F m => fn_pure F sc_is_number (by walk_at "len") fun cdv A outer s H E hr => ⟨_, (pss_one (ps_ret (pe_or (pe_cal (c_is_plain (P := P) (w := w) (K := K) (mg := mg) (base := base) T) (hr.mono (by omega)) (by rfl) (pa_cons (pv 0) pa_nil)) (pe_one (pe_cal (c_is_part (P := P) (w := w) (K := K) (mg := mg) (base := base) T) (hr.mono (by omega)) (by rfl) (pa_cons (pv 0) pa_nil)))))), fun ds d hR => by
    obtain ⟨x, rfl, rfl⟩ := hR
    walk_at "db"
    refine ⟨fun h => ?_, fun h => ?_⟩
    · show PyData.bool _ = PyData.bool (isPl x || isPt x)
      rw [h]
      rfl
    · walk_at "db"
      show PyData.bool _ = PyData.bool (isPl x || isPt x)
      rw [h]
      rfl⟩
end K77

set_option Elab.async false
set_option linter.all false
set_option maxRecDepth 100000
set_option maxHeartbeats 4000000
namespace K77
open PySem PySem.Spec PyProof.Rows L2 DS
-- the steps that need no thought: one, as many as there are
local macro_rules | `(tactic| walk_at "d1") => `(tactic| with_reducible first
  | refine ws_seq ?_ | refine ws_next ?_ | refine ws_retN ?_ | refine ws_ret ?_ | refine ws_if ?_ | refine ws_par ?_ | refine ws_setK ?_ | refine ws_newD ?_ | refine wp_cons ?_ | refine wp_nil ?_ | refine ws_set ?_ | refine ws_star ?_ | refine ws_setO rfl ?_ | apply ws_asg
  | refine we_var rfl ?_ | refine we_int ?_ | refine we_bl ?_ | refine we_str ?_ | refine we_non ?_ | refine we_kd ?_ | refine we_ixO rfl ?_
  | refine we_isi isg_int ?_ | refine we_isi isg_bool ?_ | refine we_isi isg_str ?_ | refine we_isi isg_list ?_ | refine we_isi isg_tuple ?_ | refine we_isi2 isg_list isg_tuple ?_ | refine we_isi2 isg_int isg_tuple ?_
  | refine we_inK ?_ | refine we_ixK ?_ | refine we_op ?_ | refine we_un ?_ | refine we_cb ?_ | refine we_tup ?_ | refine we_lst ?_ | refine we_andV ?_ | refine we_orV ?_ | refine we_notV ?_ | refine we_if ?_ | refine we_chain ?_ | refine we_sl ?_ | refine we_call ?_
  | refine wa_nil ?_ | refine wa_cons ?_ | refine wo_none ?_ | refine wo_some ?_ | refine wt_test ?_ | refine wt_B ?_ | refine wt_and ?_ | refine wt_or ?_ | refine wt_not ?_
  | refine wg_tup rfl ?_ | refine wgs_cons ?_ | refine wgs_nil ?_ | refine wg_name ?_
  | refine ⟨_, r2_int, ?_⟩ | refine ⟨_, r2_bl, ?_⟩ | refine ⟨_, r2_addI, ?_⟩ | refine ⟨_, r2_eqI, ?_⟩ | refine ⟨_, r2_neI, ?_⟩ | refine ⟨_, r2_eqS, ?_⟩ | refine ⟨_, r2_neS, ?_⟩ | refine ⟨_, r2_isN, ?_⟩ | refine ⟨_, r1_neg, ?_⟩
  | refine ⟨_, rc_absI, ?_⟩ | refine ⟨_, rc_intI, ?_⟩ | refine ⟨_, rc_intB, ?_⟩ | refine ⟨_, rc_max, ?_⟩ | refine ⟨_, rc_min, ?_⟩ | refine ⟨_, rc_lenL, ?_⟩ | refine ⟨_, rc_lenT, ?_⟩ | refine ⟨_, rc_listL, ?_⟩ | refine ⟨_, rc_listT, ?_⟩ | refine ⟨_, rc_tupL, ?_⟩ | refine ⟨_, rc_tupT, ?_⟩
  | refine ⟨_, rfl, ?_⟩ | refine ⟨_, _, rfl, ?_⟩ | refine ⟨_, ⟨_, rfl, rfl⟩, ?_⟩ | refine ⟨_, ⟨_, _, rfl, rfl⟩, ?_⟩)
local macro_rules | `(tactic| walk_at "d") => `(tactic| repeat (first | walk_at "d1" | refine ⟨lenOk rfl, ?_⟩ | refine ⟨0, _, _, _, rfl, rfl, rfl, ?_⟩ | refine ⟨_, r2_ixXL rfl, ?_⟩ | refine ⟨_, r2_ixXT rfl, ?_⟩ | refine ⟨_, r2_ixXT at0, ?_⟩ | refine ⟨_, r2_ixXT at1, ?_⟩ | refine ⟨_, r2_ixXL at0, ?_⟩ | refine ⟨_, r2_ixXL at1, ?_⟩))
-- a condition whose truth comes out by computation
local macro_rules | `(tactic| walk_at "b1") => `(tactic| first
  | refine ⟨fun _ => ?_, fun h => Bool.noConfusion (show true = false from h)⟩
  | refine ⟨fun h => Bool.noConfusion (show false = true from h), fun _ => ?_⟩)
local macro_rules | `(tactic| walk_at "db") => `(tactic| repeat (first | walk_at "d1" | refine ⟨lenOk rfl, ?_⟩ | refine ⟨0, _, _, _, rfl, rfl, rfl, ?_⟩ | refine ⟨_, r2_ixXL rfl, ?_⟩ | refine ⟨_, r2_ixXT rfl, ?_⟩ | refine ⟨_, r2_ixXT at0, ?_⟩ | refine ⟨_, r2_ixXT at1, ?_⟩ | refine ⟨_, r2_ixXL at0, ?_⟩ | refine ⟨_, r2_ixXL at1, ?_⟩ | walk_at "b1"))
-- how many arguments there are
local macro_rules | `(tactic| walk_at "len") => `(tactic| (intro _ _ h; first
  | (obtain ⟨_, e, _⟩ := h; subst e; rfl) | (obtain ⟨_, _, e, _⟩ := h; subst e; rfl) | (obtain ⟨_, _, _, e, _⟩ := h; subst e; rfl) | (obtain ⟨_, _, _, _, e, _⟩ := h; subst e; rfl) | (obtain ⟨_, _, _, _, _, e, _⟩ := h; subst e; rfl)))
local macro_rules | `(tactic| walk_at "leno") => `(tactic| (intro _ _ h; first
  | (obtain ⟨⟨_, e, _⟩, _⟩ := h; subst e; rfl) | (obtain ⟨⟨_, _, e, _⟩, _⟩ := h; subst e; rfl) | (obtain ⟨e, _⟩ := h; subst e; rfl) | (obtain ⟨_, e, _⟩ := h; subst e; rfl) | (obtain ⟨_, _, e, _⟩ := h; subst e; rfl) | (obtain ⟨_, _, _, e, _⟩ := h; subst e; rfl) | (obtain ⟨_, _, _, _, e, _⟩ := h; subst e; rfl)))

variable {P : Program} {w : World} {K : PySem.W.Frag} {mg : Str → Option Value} {base : Heap}
/-! ### what numbers are -/
theorem nu_num {a b : Int} (h : Nm a b) : isNu (numD a b) = true := by
  unfold numD
  split
  · rfl
  · rename_i hb
    have hp := h.pos
    have h1 : (1 : Int) < b := by omega
    show (false || (decide (1 < b) && decide ((Int.gcd a b : Int) = 1))) = true
    rw [decide_eq_true h1, h.cop]
    rfl
theorem nm_one (a : Int) : Nm a 1 := ⟨by decide, Int.gcd_one_right ..⟩
theorem num_one (a : Int) : numD a 1 = .int a := rfl
theorem nu_inv {x : PyData} (h : isNu x = true) : ∃ a b, x = numD a b ∧ Nm a b := by
  match x, h with
  | .int a, _ => exact ⟨a, 1, rfl, nm_one a⟩
  | .tuple [.int a, .int b], h =>
    have h' : (decide (1 < b) && decide ((Int.gcd a b : Int) = 1)) = true := h
    simp at h'
    refine ⟨a, b, ?_, ⟨by omega, by omega⟩⟩
    unfold numD
    rw [if_neg (by omega)]
  | .none, h | .bool _, h | .str _, h | .list _, h | .dict _, h => cases h
  | .tuple [], h | .tuple [_], h | .tuple (_ :: _ :: _ :: _), h => cases h
  | .tuple [.none, _], h | .tuple [.bool _, _], h | .tuple [.str _, _], h | .tuple [.list _, _], h | .tuple [.dict _, _], h | .tuple [.tuple _, _], h => cases h
  | .tuple [.int _, .none], h | .tuple [.int _, .bool _], h | .tuple [.int _, .str _], h | .tuple [.int _, .list _], h | .tuple [.int _, .dict _], h | .tuple [.int _, .tuple _], h => cases h
/-- a number whose top and base are small enough to be reckoned with -/
structure Nq (a b : Int) : Prop where
  nm : Nm a b
  t : Bd 4000 a
  b : Bd 4000 b
theorem Nq.ne {a b : Int} (h : Nq a b) : b ≠ 0 := by have := h.nm.pos; omega
theorem mulOk {m n : Nat} {i j : Int} (h : Bd (m + 1) i) (k : Bd (n + 1) j) (l : (m + 1) + (n + 1) ≤ 1000000 := by decide) : CMulW i j := wide_mul h k (Nat.succ_pos _) (Nat.succ_pos _) l
theorem divOk {n : Nat} {i j : Int} (h0 : j ≠ 0) (h : Bd (n + 1) j) (l : n + 1 ≤ 9000 := by decide) : CDivA i j := ⟨h0, Nat.lt_of_lt_of_le (PySem.Flt.log2_lt_of (Nat.succ_pos _) h) l⟩
theorem Bd.prt {n : Nat} {t b : Int} (hb : b ≠ 0) (h : Bd n b) : Bd n (prt t b) := h.le (by
  rw [prt_abs]
  exact Nat.le_of_dvd (by omega) (Int.gcd_dvd_natAbs_right ..))
theorem num_y {a b : Int} (h : decide (b = 1) = true) : PyData.int a = numD a b := by unfold numD; rw [if_pos (of_decide_eq_true h)]
theorem num_n {a b : Int} (h : decide (b = 1) = false) : PyData.tuple [.int a, .int b] = numD a b := by unfold numD; rw [if_neg (of_decide_eq_false h)]
/-! ### reckoned, pair_of -/
abbrev R_reckoned (ds : List PyData) (d : PyData) : Prop := ∃ t b : Int, ds = [.int t, .int b] ∧ b ≠ 0 ∧ Bd 8900 b ∧ d = redD t b
theorem c_reckoned (T : Top K w mg) : Cal P w K mg base "reckoned" 2 p_reckoned (spP K R_reckoned) :=
  T.h_reckoned.call (fun _ _ _ _ _ _ us hl => match us, hl with | [_, _], _ => rfl) fun f fd F m => fn_pure F sc_reckoned (by walk_at "len") fun cdv A outer s H E hr => ⟨_, (pss_cons (ps_set (i := 2) sc_reckoned.nd rfl (.inl rfl) (pe_cal (c_common_part (P := P) (w := w) (K := K) (mg := mg) (base := base) T) (hr.mono (by omega)) (by rfl) (pa_cons (pv 0) (pa_cons (pv 1) pa_nil))))
    (pss_cons (ps_if (pt_cmpR op_lt (pv 1) pe_int (nomark _)) (pss_one (ps_set (i := 2) sc_reckoned.nd rfl (.inl rfl) (pe_op op_sub pe_int (pv 2)))) pss_nil)
    (pss_cons (ps_par (i := 0) (j := 1) (by rfl) sc_reckoned.nd rfl rfl (by decide) rfl rfl (pa_cons (pe_op op_fdivA (pv 0) (pv 2)) (pa_cons (pe_op op_fdivA (pv 1) (pv 2)) pa_nil)) (by rfl))
    (pss_one (ps_ret (pe_ifExp (pt_cmpR (op_eqXK (K := K) rfl hr.units) (pv 1) pe_int (nomark _)) (pv 0) (pe_tup (pa_cons (pv 0) (pa_cons (pv 1) pa_nil))))))))), fun ds d hR => by
    obtain ⟨t, b, rfl, hb, hB, rfl⟩ := hR
    walk_at "d"
    have e1 : b < 0 → (0 - (Int.gcd t b : Int)) = prt t b := fun h => by unfold prt; rw [if_pos h]
    have e2 : ¬ b < 0 → (Int.gcd t b : Int) = prt t b := fun h => by unfold prt; rw [if_neg h]
    refine ⟨fun h => ?_, fun h => ?_⟩
    · walk_at "d"
      rw [e1 (of_decide_eq_true h)]
      refine ⟨_, r2_intC (divOk (prt_ne hb) (Bd.prt hb hB)), ?_⟩
      walk_at "d"
      refine ⟨_, r2_intC (divOk (prt_ne hb) (Bd.prt hb hB)), ?_⟩
      walk_at "d"
      refine ⟨fun q => ?_, fun q => ?_⟩ <;> walk_at "d"
      · exact num_y q
      · exact num_n q
    · walk_at "d"
      rw [e2 (of_decide_eq_false h)]
      refine ⟨_, r2_intC (divOk (prt_ne hb) (Bd.prt hb hB)), ?_⟩
      walk_at "d"
      refine ⟨_, r2_intC (divOk (prt_ne hb) (Bd.prt hb hB)), ?_⟩
      walk_at "d"
      refine ⟨fun q => ?_, fun q => ?_⟩ <;> walk_at "d"
      · exact num_y q
      · exact num_n q⟩
abbrev R_pair_of (ds : List PyData) (d : PyData) : Prop := ∃ a b : Int, ds = [numD a b] ∧ Nm a b ∧ d = .tuple [.int a, .int b]
theorem c_pair_of (T : Top K w mg) : Cal P w K mg base "pair_of" 3 p_pair_of (spP K R_pair_of) :=
  T.h_pair_of.call (fun _ _ _ _ _ _ us hl => match us, hl with | [_], _ => rfl) fun f fd F m => fn_pure F sc_pair_of (by walk_at "len") fun cdv A outer s H E hr => ⟨_, (pss_cons (ps_if (pt_val (pe_cal (c_is_plain (P := P) (w := w) (K := K) (mg := mg) (base := base) T) (hr.mono (by omega)) (by rfl) (pa_cons (pv 0) pa_nil))) (pss_one (ps_ret (pe_tup (pa_cons (pv 0) (pa_cons pe_int pa_nil))))) pss_nil)
    (pss_cons (ps_if (pt_not (pt_val (pe_cal (c_is_part (P := P) (w := w) (K := K) (mg := mg) (base := base) T) (hr.mono (by omega)) (by rfl) (pa_cons (pv 0) pa_nil)))) (pss_one ps_never) pss_nil)
    (pss_one (ps_ret (pv 0))))), fun ds d hR => by
    obtain ⟨a, b, rfl, hn, rfl⟩ := hR
    by_cases e : b = 1
    · subst e
      rw [num_one]
      walk_at "db"
      rfl
    · have hx : isPt (numD a b) = true := by
        have := nu_num hn
        rwa [isNu, show isPl (numD a b) = false by unfold numD; rw [if_neg e]; rfl, Bool.false_or] at this
      have e2 : numD a b = .tuple [.int a, .int b] := by unfold numD; rw [if_neg e]
      rw [e2] at hx ⊢
      walk_at "db"
      rw [hx]
      walk_at "db"
      rfl⟩
/-! ### plus, minus, times, over, less -/
abbrev R_two (f g : Int → Int → Int → Int → Int) (ds : List PyData) (d : PyData) : Prop := ∃ a b c e : Int, ds = [numD a b, numD c e] ∧ Nq a b ∧ Nq c e ∧ d = redD (f a b c e) (g a b c e)
abbrev R_plus := R_two (fun a b c e => a * e + c * b) (fun a b c e => b * e)
abbrev R_minus := R_two (fun a b c e => a * e - c * b) (fun a b c e => b * e)
abbrev R_times := R_two (fun a b c e => a * c) (fun a b c e => b * e)
abbrev R_over (ds : List PyData) (d : PyData) : Prop := ∃ a b c e : Int, ds = [numD a b, numD c e] ∧ Nq a b ∧ Nq c e ∧ c ≠ 0 ∧ d = redD (a * e) (b * c)
theorem c_plus (T : Top K w mg) : Cal P w K mg base "plus" 4 p_plus (spP K R_plus) :=
  T.h_plus.call (fun _ _ _ _ _ _ us hl => match us, hl with | [_, _], _ => rfl) fun f fd F m => fn_pure F sc_plus (by walk_at "len") fun cdv A outer s H E hr => ⟨_, (pss_cons (ps_asg (pe_tup (pa_cons (pe_cal (c_pair_of (P := P) (w := w) (K := K) (mg := mg) (base := base) T) (hr.mono (by omega)) (by rfl) (pa_cons (pv 0) pa_nil)) (pa_cons (pe_cal (c_pair_of (P := P) (w := w) (K := K) (mg := mg) (base := base) T) (hr.mono (by omega)) (by rfl) (pa_cons (pv 1) pa_nil)) pa_nil))) (pg_tupK (K := K) (n := 2) rfl (by rfl) (pgs_cons (pg_tupK (K := K) (n := 2) rfl (by rfl) (pgs_cons (pg_name (i := 2) sc_plus.nd rfl (.inl rfl)) (pgs_cons (pg_name (i := 3) sc_plus.nd rfl (.inl rfl)) pgs_nil))) (pgs_cons (pg_tupK (K := K) (n := 2) rfl (by rfl) (pgs_cons (pg_name (i := 4) sc_plus.nd rfl (.inl rfl)) (pgs_cons (pg_name (i := 5) sc_plus.nd rfl (.inl rfl)) pgs_nil))) pgs_nil))))
    (pss_one (ps_ret (pe_cal (c_reckoned (P := P) (w := w) (K := K) (mg := mg) (base := base) T) (hr.mono (by omega)) (by rfl) (pa_cons (pe_op (op_addXK (K := K) rfl) (pe_op op_mulW (pv 2) (pv 5)) (pe_op op_mulW (pv 4) (pv 3))) (pa_cons (pe_op op_mulW (pv 3) (pv 5)) pa_nil)))))), fun ds d hR => by
    obtain ⟨a, b, c, e, rfl, h1, h2, rfl⟩ := hR
    walk_at "d"
    refine ⟨_, ⟨_, _, rfl, h1.nm, rfl⟩, ?_⟩
    walk_at "d"
    refine ⟨_, ⟨_, _, rfl, h2.nm, rfl⟩, ?_⟩
    walk_at "d"
    refine ⟨_, r2_intC (mulOk h1.t h2.b), ?_⟩
    walk_at "d"
    refine ⟨_, r2_intC (mulOk h2.t h1.b), ?_⟩
    walk_at "d"
    refine ⟨_, r2_intC (mulOk h1.b h2.b), ?_⟩
    walk_at "d"
    exact ⟨_, ⟨_, _, rfl, Int.mul_ne_zero h1.ne h2.ne, (h1.b.mul h2.b).mono (by decide), rfl⟩, rfl⟩⟩
theorem c_minus (T : Top K w mg) : Cal P w K mg base "minus" 4 p_minus (spP K R_minus) :=
  T.h_minus.call (fun _ _ _ _ _ _ us hl => match us, hl with | [_, _], _ => rfl) fun f fd F m => fn_pure F sc_minus (by walk_at "len") fun cdv A outer s H E hr => ⟨_, (pss_cons (ps_asg (pe_tup (pa_cons (pe_cal (c_pair_of (P := P) (w := w) (K := K) (mg := mg) (base := base) T) (hr.mono (by omega)) (by rfl) (pa_cons (pv 0) pa_nil)) (pa_cons (pe_cal (c_pair_of (P := P) (w := w) (K := K) (mg := mg) (base := base) T) (hr.mono (by omega)) (by rfl) (pa_cons (pv 1) pa_nil)) pa_nil))) (pg_tupK (K := K) (n := 2) rfl (by rfl) (pgs_cons (pg_tupK (K := K) (n := 2) rfl (by rfl) (pgs_cons (pg_name (i := 2) sc_minus.nd rfl (.inl rfl)) (pgs_cons (pg_name (i := 3) sc_minus.nd rfl (.inl rfl)) pgs_nil))) (pgs_cons (pg_tupK (K := K) (n := 2) rfl (by rfl) (pgs_cons (pg_name (i := 4) sc_minus.nd rfl (.inl rfl)) (pgs_cons (pg_name (i := 5) sc_minus.nd rfl (.inl rfl)) pgs_nil))) pgs_nil))))
    (pss_one (ps_ret (pe_cal (c_reckoned (P := P) (w := w) (K := K) (mg := mg) (base := base) T) (hr.mono (by omega)) (by rfl) (pa_cons (pe_op op_sub (pe_op op_mulW (pv 2) (pv 5)) (pe_op op_mulW (pv 4) (pv 3))) (pa_cons (pe_op op_mulW (pv 3) (pv 5)) pa_nil)))))), fun ds d hR => by
    obtain ⟨a, b, c, e, rfl, h1, h2, rfl⟩ := hR
    walk_at "d"
    refine ⟨_, ⟨_, _, rfl, h1.nm, rfl⟩, ?_⟩
    walk_at "d"
    refine ⟨_, ⟨_, _, rfl, h2.nm, rfl⟩, ?_⟩
    walk_at "d"
    refine ⟨_, r2_intC (mulOk h1.t h2.b), ?_⟩
    walk_at "d"
    refine ⟨_, r2_intC (mulOk h2.t h1.b), ?_⟩
    walk_at "d"
    refine ⟨_, r2_intC (mulOk h1.b h2.b), ?_⟩
    walk_at "d"
    exact ⟨_, ⟨_, _, rfl, Int.mul_ne_zero h1.ne h2.ne, (h1.b.mul h2.b).mono (by decide), rfl⟩, rfl⟩⟩
theorem c_times (T : Top K w mg) : Cal P w K mg base "times" 4 p_times (spP K R_times) :=
  T.h_times.call (fun _ _ _ _ _ _ us hl => match us, hl with | [_, _], _ => rfl) fun f fd F m => fn_pure F sc_times (by walk_at "len") fun cdv A outer s H E hr => ⟨_, (pss_cons (ps_asg (pe_tup (pa_cons (pe_cal (c_pair_of (P := P) (w := w) (K := K) (mg := mg) (base := base) T) (hr.mono (by omega)) (by rfl) (pa_cons (pv 0) pa_nil)) (pa_cons (pe_cal (c_pair_of (P := P) (w := w) (K := K) (mg := mg) (base := base) T) (hr.mono (by omega)) (by rfl) (pa_cons (pv 1) pa_nil)) pa_nil))) (pg_tupK (K := K) (n := 2) rfl (by rfl) (pgs_cons (pg_tupK (K := K) (n := 2) rfl (by rfl) (pgs_cons (pg_name (i := 2) sc_times.nd rfl (.inl rfl)) (pgs_cons (pg_name (i := 3) sc_times.nd rfl (.inl rfl)) pgs_nil))) (pgs_cons (pg_tupK (K := K) (n := 2) rfl (by rfl) (pgs_cons (pg_name (i := 4) sc_times.nd rfl (.inl rfl)) (pgs_cons (pg_name (i := 5) sc_times.nd rfl (.inl rfl)) pgs_nil))) pgs_nil))))
    (pss_one (ps_ret (pe_cal (c_reckoned (P := P) (w := w) (K := K) (mg := mg) (base := base) T) (hr.mono (by omega)) (by rfl) (pa_cons (pe_op op_mulW (pv 2) (pv 4)) (pa_cons (pe_op op_mulW (pv 3) (pv 5)) pa_nil)))))), fun ds d hR => by
    obtain ⟨a, b, c, e, rfl, h1, h2, rfl⟩ := hR
    walk_at "d"
    refine ⟨_, ⟨_, _, rfl, h1.nm, rfl⟩, ?_⟩
    walk_at "d"
    refine ⟨_, ⟨_, _, rfl, h2.nm, rfl⟩, ?_⟩
    walk_at "d"
    refine ⟨_, r2_intC (mulOk h1.t h2.t), ?_⟩
    walk_at "d"
    refine ⟨_, r2_intC (mulOk h1.b h2.b), ?_⟩
    walk_at "d"
    exact ⟨_, ⟨_, _, rfl, Int.mul_ne_zero h1.ne h2.ne, (h1.b.mul h2.b).mono (by decide), rfl⟩, rfl⟩⟩
theorem c_over (T : Top K w mg) : Cal P w K mg base "over" 4 p_over (spP K R_over) :=
  T.h_over.call (fun _ _ _ _ _ _ us hl => match us, hl with | [_, _], _ => rfl) fun f fd F m => fn_pure F sc_over (by walk_at "len") fun cdv A outer s H E hr => ⟨_, (pss_cons (ps_asg (pe_tup (pa_cons (pe_cal (c_pair_of (P := P) (w := w) (K := K) (mg := mg) (base := base) T) (hr.mono (by omega)) (by rfl) (pa_cons (pv 0) pa_nil)) (pa_cons (pe_cal (c_pair_of (P := P) (w := w) (K := K) (mg := mg) (base := base) T) (hr.mono (by omega)) (by rfl) (pa_cons (pv 1) pa_nil)) pa_nil))) (pg_tupK (K := K) (n := 2) rfl (by rfl) (pgs_cons (pg_tupK (K := K) (n := 2) rfl (by rfl) (pgs_cons (pg_name (i := 2) sc_over.nd rfl (.inl rfl)) (pgs_cons (pg_name (i := 3) sc_over.nd rfl (.inl rfl)) pgs_nil))) (pgs_cons (pg_tupK (K := K) (n := 2) rfl (by rfl) (pgs_cons (pg_name (i := 4) sc_over.nd rfl (.inl rfl)) (pgs_cons (pg_name (i := 5) sc_over.nd rfl (.inl rfl)) pgs_nil))) pgs_nil))))
    (pss_cons (ps_if (pt_cmpR (op_eqXK (K := K) rfl hr.units) (pv 4) pe_int (nomark _)) (pss_one ps_never) pss_nil)
    (pss_one (ps_ret (pe_cal (c_reckoned (P := P) (w := w) (K := K) (mg := mg) (base := base) T) (hr.mono (by omega)) (by rfl) (pa_cons (pe_op op_mulW (pv 2) (pv 5)) (pa_cons (pe_op op_mulW (pv 3) (pv 4)) pa_nil))))))), fun ds d hR => by
    obtain ⟨a, b, c, e, rfl, h1, h2, hc, rfl⟩ := hR
    walk_at "d"
    refine ⟨_, ⟨_, _, rfl, h1.nm, rfl⟩, ?_⟩
    walk_at "d"
    refine ⟨_, ⟨_, _, rfl, h2.nm, rfl⟩, ?_⟩
    walk_at "d"
    refine ⟨fun h => absurd (of_decide_eq_true h) hc, fun h => ?_⟩
    walk_at "d"
    refine ⟨_, r2_intC (mulOk h1.t h2.b), ?_⟩
    walk_at "d"
    refine ⟨_, r2_intC (mulOk h1.b h2.t), ?_⟩
    walk_at "d"
    exact ⟨_, ⟨_, _, rfl, Int.mul_ne_zero h1.ne hc, (h1.b.mul h2.t).mono (by decide), rfl⟩, rfl⟩⟩
abbrev R_bare_of (ds : List PyData) (d : PyData) : Prop := ∃ a b : Int, ds = [numD a b] ∧ Nq a b ∧ d = numD a.natAbs b
theorem nm_abs {a b : Int} (h : Nm a b) : Nm a.natAbs b := ⟨h.pos, by rw [Int.gcd, Int.natAbs_natCast]; exact h.cop⟩
theorem c_bare_of (T : Top K w mg) : Cal P w K mg base "bare_of" 4 p_bare_of (spP K R_bare_of) :=
  T.h_bare_of.call (fun _ _ _ _ _ _ us hl => match us, hl with | [_], _ => rfl) fun f fd F m => fn_pure F sc_bare_of (by walk_at "len") fun cdv A outer s H E hr => ⟨_, (pss_cons (ps_asg (pe_cal (c_pair_of (P := P) (w := w) (K := K) (mg := mg) (base := base) T) (hr.mono (by omega)) (by rfl) (pa_cons (pv 0) pa_nil)) (pg_tupK (K := K) (n := 2) rfl (by rfl) (pgs_cons (pg_name (i := 1) sc_bare_of.nd rfl (.inl rfl)) (pgs_cons (pg_name (i := 2) sc_bare_of.nd rfl (.inl rfl)) pgs_nil))))
    (pss_one (ps_ret (pe_cal (c_reckoned (P := P) (w := w) (K := K) (mg := mg) (base := base) T) (hr.mono (by omega)) (by rfl) (pa_cons (pe_callB call_abs' (by rfl) T.m_abs (by decide +kernel) (pa_cons (pv 1) pa_nil)) (pa_cons (pv 2) pa_nil)))))), fun ds d hR => by
    obtain ⟨a, b, rfl, h1, rfl⟩ := hR
    walk_at "d"
    refine ⟨_, ⟨_, _, rfl, h1.nm, rfl⟩, ?_⟩
    walk_at "d"
    rw [abs_if a]
    exact ⟨_, ⟨_, _, rfl, h1.ne, h1.b.mono (by decide), rfl⟩, redD_id (nm_abs h1.nm)⟩⟩
abbrev R_less (ds : List PyData) (d : PyData) : Prop := ∃ a b c e : Int, ds = [numD a b, numD c e] ∧ Nq a b ∧ Nq c e ∧ d = .bool (decide (a * e < c * b))
theorem c_less (T : Top K w mg) : Cal P w K mg base "less" 4 p_less (spP K R_less) :=
  T.h_less.call (fun _ _ _ _ _ _ us hl => match us, hl with | [_, _], _ => rfl) fun f fd F m => fn_pure F sc_less (by walk_at "len") fun cdv A outer s H E hr => ⟨_, (pss_cons (ps_asg (pe_tup (pa_cons (pe_cal (c_pair_of (P := P) (w := w) (K := K) (mg := mg) (base := base) T) (hr.mono (by omega)) (by rfl) (pa_cons (pv 0) pa_nil)) (pa_cons (pe_cal (c_pair_of (P := P) (w := w) (K := K) (mg := mg) (base := base) T) (hr.mono (by omega)) (by rfl) (pa_cons (pv 1) pa_nil)) pa_nil))) (pg_tupK (K := K) (n := 2) rfl (by rfl) (pgs_cons (pg_tupK (K := K) (n := 2) rfl (by rfl) (pgs_cons (pg_name (i := 2) sc_less.nd rfl (.inl rfl)) (pgs_cons (pg_name (i := 3) sc_less.nd rfl (.inl rfl)) pgs_nil))) (pgs_cons (pg_tupK (K := K) (n := 2) rfl (by rfl) (pgs_cons (pg_name (i := 4) sc_less.nd rfl (.inl rfl)) (pgs_cons (pg_name (i := 5) sc_less.nd rfl (.inl rfl)) pgs_nil))) pgs_nil))))
    (pss_one (ps_ret (pe_cmpR op_lt (pe_op op_mulW (pv 2) (pv 5)) (pe_op op_mulW (pv 4) (pv 3)) (nomark _))))), fun ds d hR => by
    obtain ⟨a, b, c, e, rfl, h1, h2, rfl⟩ := hR
    walk_at "d"
    refine ⟨_, ⟨_, _, rfl, h1.nm, rfl⟩, ?_⟩
    walk_at "d"
    refine ⟨_, ⟨_, _, rfl, h2.nm, rfl⟩, ?_⟩
    walk_at "d"
    refine ⟨_, r2_intC (mulOk h1.t h2.b), ?_⟩
    walk_at "d"
    refine ⟨_, r2_intC (mulOk h2.t h1.b), ?_⟩
    walk_at "d"
    rfl⟩
/-! ### floor_of, with its step by name -/
theorem bd8 {n : Nat} {i : Int} (h : i.natAbs < 2 ^ 8 := by decide) (l : 8 ≤ n := by decide) : Bd n i := Bd.mono (m := 8) h l
theorem bd1 : Bd 1 1 := by unfold Bd; decide
theorem nq_of {a : Int} (h : Bd 4000 a) : Nq a 1 := ⟨nm_one a, h, bd8⟩
abbrev R_floor_of (ds : List PyData) (d : PyData) : Prop := ∃ a b : Int, ds = [numD a b, .int 64] ∧ Nm a b ∧ Bd 3990 a ∧ Bd 3990 b ∧ d = .int (64 * a.fdiv (64 * b))
theorem fdiv_le (a : Int) {b : Int} (h : 0 < b) : (a.fdiv b).natAbs ≤ a.natAbs := by
  rw [Int.fdiv_eq_ediv_of_nonneg _ (by omega)]
  exact Int.natAbs_ediv_le_natAbs ..
theorem ok_floor_of (T : Top K w mg) : ∀ f fd, FunD K "floor_of" "floor_of" (defArgs s_floor_of) (defBody s_floor_of) (defScope s_floor_of) [] [("step", .int 1)] f fd → mg "floor_of" = some (.ref f) → FnOk P w K mg base CXN 5 f fd p_floor_of (spP K R_floor_of) :=
  fun f fd F m => fn_pure F sc_floor_of (by walk_at "len") fun cdv A outer s H E hr => ⟨_, (pss_cons (ps_asg (pe_tup (pa_cons (pe_cal (c_pair_of (P := P) (w := w) (K := K) (mg := mg) (base := base) T) (hr.mono (by omega)) (by rfl) (pa_cons (pv 0) pa_nil)) (pa_cons (pe_cal (c_pair_of (P := P) (w := w) (K := K) (mg := mg) (base := base) T) (hr.mono (by omega)) (by rfl) (pa_cons (pv 1) pa_nil)) pa_nil))) (pg_tupK (K := K) (n := 2) rfl (by rfl) (pgs_cons (pg_tupK (K := K) (n := 2) rfl (by rfl) (pgs_cons (pg_name (i := 2) sc_floor_of.nd rfl (.inl rfl)) (pgs_cons (pg_name (i := 3) sc_floor_of.nd rfl (.inl rfl)) pgs_nil))) (pgs_cons (pg_tupK (K := K) (n := 2) rfl (by rfl) (pgs_cons (pg_name (i := 4) sc_floor_of.nd rfl (.inl rfl)) (pgs_cons (pg_name (i := 5) sc_floor_of.nd rfl (.inl rfl)) pgs_nil))) pgs_nil))))
    (pss_cons (ps_if (pt_cmpR op_le (pv 4) pe_int (nomark _)) (pss_one ps_never) pss_nil)
    (pss_one (ps_ret (pe_cal (c_times (P := P) (w := w) (K := K) (mg := mg) (base := base) T) (hr.mono (by omega)) (by rfl) (pa_cons (pv 1) (pa_cons (pe_op op_fdivA (pe_op op_mulW (pv 2) (pv 5)) (pe_op op_mulW (pv 3) (pv 4))) pa_nil))))))), fun ds d hR => by
    obtain ⟨a, b, rfl, h1, ha, hb, rfl⟩ := hR
    have hp := h1.pos
    walk_at "d"
    refine ⟨_, ⟨_, _, rfl, h1, rfl⟩, ?_⟩
    walk_at "d"
    refine ⟨_, ⟨_, _, (num_one 64).symm ▸ rfl, nm_one 64, rfl⟩, ?_⟩
    walk_at "db"
    refine ⟨_, r2_intC (mulOk (m := 3989) (n := 0) ha bd1), ?_⟩
    walk_at "d"
    refine ⟨_, r2_intC (mulOk (m := 3989) (n := 7) hb bd8), ?_⟩
    walk_at "d"
    have hb64 : Bd 3998 (b * 64) := hb.mul (n := 8) bd8
    refine ⟨_, r2_intC (divOk (by omega) hb64), ?_⟩
    walk_at "d"
    have e : (a * 1).fdiv (b * 64) = a.fdiv (64 * b) := by rw [Int.mul_one, Int.mul_comm]
    rw [e]
    have hq : Bd 4000 (a.fdiv (64 * b)) := (ha.mono (by decide)).le (fdiv_le a (by omega))
    refine ⟨_, ⟨64, 1, a.fdiv (64 * b), 1, rfl, nq_of bd8, nq_of hq, rfl⟩, ?_⟩
    walk_at "d"
    exact redD_id (nm_one _)⟩
theorem ck_floor_of (T : Top K w mg) : CalK P w K mg base "floor_of" 5 p_floor_of 1 ["step"] false (spP K R_floor_of) :=
  T.h_floor_of.callK (fun _ _ _ _ _ _ us ws h1 h2 => match us, ws, h1, h2 with | [_], [_], _, _ => rfl) (ok_floor_of T)
--%%SPECIAL {('kw', 'floor_of', ('step',)): 'ck_floor_of'}
end K77

set_option Elab.async false
set_option linter.all false
set_option maxRecDepth 100000
set_option maxHeartbeats 4000000
namespace K77
open PySem PySem.Spec PyProof.Rows L2 DS
-- the steps that need no thought: one, as many as there are
local macro_rules | `(tactic| walk_at "d1") => `(tactic| with_reducible first
  | refine ws_seq ?_ | refine ws_next ?_ | refine ws_retN ?_ | refine ws_ret ?_ | refine ws_if ?_ | refine ws_par ?_ | refine ws_setK ?_ | refine ws_newD ?_ | refine wp_cons ?_ | refine wp_nil ?_ | refine ws_set ?_ | refine ws_star ?_ | refine ws_setO rfl ?_ | apply ws_asg
  | refine we_var rfl ?_ | refine we_int ?_ | refine we_bl ?_ | refine we_str ?_ | refine we_non ?_ | refine we_kd ?_ | refine we_ixO rfl ?_
  | refine we_isi isg_int ?_ | refine we_isi isg_bool ?_ | refine we_isi isg_str ?_ | refine we_isi isg_list ?_ | refine we_isi isg_tuple ?_ | refine we_isi2 isg_list isg_tuple ?_ | refine we_isi2 isg_int isg_tuple ?_
  | refine we_inK ?_ | refine we_ixK ?_ | refine we_op ?_ | refine we_un ?_ | refine we_cb ?_ | refine we_tup ?_ | refine we_lst ?_ | refine we_andV ?_ | refine we_orV ?_ | refine we_notV ?_ | refine we_if ?_ | refine we_chain ?_ | refine we_sl ?_ | refine we_call ?_
  | refine wa_nil ?_ | refine wa_cons ?_ | refine wo_none ?_ | refine wo_some ?_ | refine wt_test ?_ | refine wt_B ?_ | refine wt_and ?_ | refine wt_or ?_ | refine wt_not ?_
  | refine wg_tup rfl ?_ | refine wgs_cons ?_ | refine wgs_nil ?_ | refine wg_name ?_
  | refine ⟨_, r2_int, ?_⟩ | refine ⟨_, r2_bl, ?_⟩ | refine ⟨_, r2_addI, ?_⟩ | refine ⟨_, r2_eqI, ?_⟩ | refine ⟨_, r2_neI, ?_⟩ | refine ⟨_, r2_eqS, ?_⟩ | refine ⟨_, r2_neS, ?_⟩ | refine ⟨_, r2_isN, ?_⟩ | refine ⟨_, r1_neg, ?_⟩
  | refine ⟨_, rc_absI, ?_⟩ | refine ⟨_, rc_intI, ?_⟩ | refine ⟨_, rc_intB, ?_⟩ | refine ⟨_, rc_max, ?_⟩ | refine ⟨_, rc_min, ?_⟩ | refine ⟨_, rc_lenL, ?_⟩ | refine ⟨_, rc_lenT, ?_⟩ | refine ⟨_, rc_listL, ?_⟩ | refine ⟨_, rc_listT, ?_⟩ | refine ⟨_, rc_tupL, ?_⟩ | refine ⟨_, rc_tupT, ?_⟩
  | refine ⟨_, rfl, ?_⟩ | refine ⟨_, _, rfl, ?_⟩ | refine ⟨_, ⟨_, rfl, rfl⟩, ?_⟩ | refine ⟨_, ⟨_, _, rfl, rfl⟩, ?_⟩)
local macro_rules | `(tactic| walk_at "d") => `(tactic| repeat (first | walk_at "d1" | refine ⟨lenOk rfl, ?_⟩ | refine ⟨0, _, _, _, rfl, rfl, rfl, ?_⟩ | refine ⟨_, r2_ixXL rfl, ?_⟩ | refine ⟨_, r2_ixXT rfl, ?_⟩ | refine ⟨_, r2_ixXT at0, ?_⟩ | refine ⟨_, r2_ixXT at1, ?_⟩ | refine ⟨_, r2_ixXL at0, ?_⟩ | refine ⟨_, r2_ixXL at1, ?_⟩))
-- a condition whose truth comes out by computation
local macro_rules | `(tactic| walk_at "b1") => `(tactic| first
  | refine ⟨fun _ => ?_, fun h => Bool.noConfusion (show true = false from h)⟩
  | refine ⟨fun h => Bool.noConfusion (show false = true from h), fun _ => ?_⟩)
local macro_rules | `(tactic| walk_at "db") => `(tactic| repeat (first | walk_at "d1" | refine ⟨lenOk rfl, ?_⟩ | refine ⟨0, _, _, _, rfl, rfl, rfl, ?_⟩ | refine ⟨_, r2_ixXL rfl, ?_⟩ | refine ⟨_, r2_ixXT rfl, ?_⟩ | refine ⟨_, r2_ixXT at0, ?_⟩ | refine ⟨_, r2_ixXT at1, ?_⟩ | refine ⟨_, r2_ixXL at0, ?_⟩ | refine ⟨_, r2_ixXL at1, ?_⟩ | walk_at "b1"))
-- how many arguments there are
local macro_rules | `(tactic| walk_at "len") => `(tactic| (intro _ _ h; first
  | (obtain ⟨_, e, _⟩ := h; subst e; rfl) | (obtain ⟨_, _, e, _⟩ := h; subst e; rfl) | (obtain ⟨_, _, _, e, _⟩ := h; subst e; rfl) | (obtain ⟨_, _, _, _, e, _⟩ := h; subst e; rfl) | (obtain ⟨_, _, _, _, _, e, _⟩ := h; subst e; rfl)))
local macro_rules | `(tactic| walk_at "leno") => `(tactic| (intro _ _ h; first
  | (obtain ⟨⟨_, e, _⟩, _⟩ := h; subst e; rfl) | (obtain ⟨⟨_, _, e, _⟩, _⟩ := h; subst e; rfl) | (obtain ⟨e, _⟩ := h; subst e; rfl) | (obtain ⟨_, e, _⟩ := h; subst e; rfl) | (obtain ⟨_, _, e, _⟩ := h; subst e; rfl) | (obtain ⟨_, _, _, e, _⟩ := h; subst e; rfl) | (obtain ⟨_, _, _, _, e, _⟩ := h; subst e; rfl)))

variable {P : Program} {w : World} {K : PySem.W.Frag} {mg : Str → Option Value} {base : Heap}
/-! ### small numbers -/
noncomputable def smI (a : Int) : Bool := decide ((a.natAbs : Int) < G60)
noncomputable def smP : PyData → Bool
  | .int i => smI i
  | _ => false
noncomputable def smB (a b : Int) : Bool := smI a && smI b
theorem g60_lt : G60 < ((2 ^ 200 : Nat) : Int) := by rw [g60_eq]; decide +kernel
structure Ns (a b : Int) : Prop where
  nm : Nm a b
  sm : smB a b = true
theorem Ns.t {a b : Int} (h : Ns a b) : Bd 200 a := by
  have := h.sm
  unfold smB smI at this
  rw [Bool.and_eq_true, decide_eq_true_eq, decide_eq_true_eq] at this
  have q := g60_lt
  unfold Bd
  omega
theorem Ns.b {a b : Int} (h : Ns a b) : Bd 200 b := by
  have := h.sm
  unfold smB smI at this
  rw [Bool.and_eq_true, decide_eq_true_eq, decide_eq_true_eq] at this
  have q := g60_lt
  unfold Bd
  omega
theorem Ns.q {a b : Int} (h : Ns a b) : Nq a b := ⟨h.nm, h.t.mono (by decide), h.b.mono (by decide)⟩
theorem Ns.ne {a b : Int} (h : Ns a b) : b ≠ 0 := h.q.ne
abbrev R_is_small (ds : List PyData) (d : PyData) : Prop := ∃ a b : Int, ds = [numD a b] ∧ Nm a b ∧ d = .bool (smB a b)
theorem c_is_small (T : Top K w mg) : Cal P w K mg base "is_small" 4 p_is_small (spP K R_is_small) :=
  T.h_is_small.call (fun _ _ _ _ _ _ us hl => match us, hl with | [_], _ => rfl) fun f fd F m => fn_pure F sc_is_small (by walk_at "len") fun cdv A outer s H E hr => ⟨_, (pss_one (ps_ret (pe_callB (cr_allK (K := K) rfl rfl) (by rfl) T.m_all (by decide +kernel) (pa_cons (pe_lc (own := [("part", 1)]) (g := gName 1) rfl sc_is_small.nd  (pi_XK (K := K) rfl (pe_cal (c_pair_of (P := P) (w := w) (K := K) (mg := mg) (base := base) T) (hr.mono (by omega)) (by rfl) (pa_cons (pv 0) pa_nil)))
      (blkOk_by (own := [("part", 1)]) (N := N_is_small) (sc := defScope s_is_small) (by decide +kernel)) (fun _ _ _ _ _ => pg_name (i := 1) sc_is_small.nd rfl (Or.inl rfl))
      (fun _ _ _ _ _ => pts_nil) (fun _ _ _ _ _ => (pe_cmpR op_lt (pe_callB call_abs' (by rfl) T.m_abs (by decide +kernel) (pa_cons (pv 1) pa_nil)) (pe_KK (K := K) rfl T.k_GREAT (by rfl)) (nomark _)))) pa_nil)))), fun ds d hR => by
    obtain ⟨a, b, rfl, hn, rfl⟩ := hR
    walk_at "d"
    refine we_lc_map (tg := [1]) (fun x => .bool (smP x)) (by decide) (wi_X ?_)
    walk_at "d"
    refine ⟨_, ⟨_, _, rfl, hn, rfl⟩, [.int a, .int b], .inr rfl, ?_⟩
    refine ⟨lenOk rfl, fun d hd => ?_, ?_⟩
    · rcases List.mem_cons.mp hd with e | e
      · subst e
        refine wgc_name ?_
        walk_at "d"
        rw [abs_if a]
        exact ⟨rfl, rfl⟩
      · rcases List.mem_cons.mp e with e | e
        · subst e
          refine wgc_name ?_
          walk_at "d"
          rw [abs_if b]
          exact ⟨rfl, rfl⟩
        · cases e
    · walk_at "d"
      refine ⟨_, rc_all (bs := [smP (.int a), smP (.int b)]), ?_⟩
      walk_at "d"
      show PyData.bool (smP (.int a) && (smP (.int b) && true)) = PyData.bool (smP (.int a) && smP (.int b))
      rw [Bool.and_true]⟩
abbrev R_small_of (ds : List PyData) (d : PyData) : Prop := ∃ a b : Int, ds = [numD a b] ∧ Nm a b ∧ d = if smB a b = true then numD a b else .none
theorem c_small_of (T : Top K w mg) : Cal P w K mg base "small_of" 5 p_small_of (spP K R_small_of) :=
  T.h_small_of.call (fun _ _ _ _ _ _ us hl => match us, hl with | [_], _ => rfl) fun f fd F m => fn_pure F sc_small_of (by walk_at "len") fun cdv A outer s H E hr => ⟨_, (pss_one (ps_ret (pe_ifExp (pt_val (pe_cal (c_is_small (P := P) (w := w) (K := K) (mg := mg) (base := base) T) (hr.mono (by omega)) (by rfl) (pa_cons (pv 0) pa_nil))) (pv 0) pe_non))), fun ds d hR => by
    obtain ⟨a, b, rfl, hn, rfl⟩ := hR
    walk_at "d"
    refine ⟨_, ⟨_, _, rfl, hn, rfl⟩, ?_⟩
    walk_at "d"
    refine ⟨fun h => ?_, fun h => ?_⟩ <;> walk_at "d"
    · rw [if_pos h]
    · rw [if_neg (by rw [h]; exact Bool.false_ne_true)]⟩
/-! ### what the words reckon -/
def b2i' (b : Bool) : Int := if b then 1 else 0
abbrev pD (p : Int × Int) : PyData := numD p.1 p.2
def f1 (w : Str) (a b : Int) : Int × Int :=
  if w = "negate" then (0 - a, b) else if w = "bare" then ((a.natAbs : Int), b) else if w = "floor" then (64 * a.fdiv (64 * b), 1)
  else if w = "ceil" then (0 - 64 * (0 - a).fdiv (64 * b), 1) else (if a = 0 then 1 else 0, 1)
def f2 (w : Str) (a b c e : Int) : Int × Int :=
  if w = "plus" then (redT (a * e + c * b) (b * e), redB (a * e + c * b) (b * e)) else if w = "minus" then (redT (a * e - c * b) (b * e), redB (a * e - c * b) (b * e))
  else if w = "times" then (redT (a * c) (b * e), redB (a * c) (b * e)) else if w = "over" then (redT (a * e) (b * c), redB (a * e) (b * c))
  else if w = "lesser" then (if a * e < c * b then 1 else 0, 1) else if w = "greater" then (if c * b < a * e then 1 else 0, 1)
  else if w = "same" then (if a = c ∧ b = e then 1 else 0, 1) else if w = "both" then (if a ≠ 0 ∧ c ≠ 0 then 1 else 0, 1) else (if a ≠ 0 ∨ c ≠ 0 then 1 else 0, 1)
abbrev R1 (w : Str) (ds : List PyData) (d : PyData) : Prop := ∃ a b : Int, ds = [.list [numD a b]] ∧ Ns a b ∧ d = .list [pD (f1 w a b)]
abbrev R2 (w : Str) (ds : List PyData) (d : PyData) : Prop := ∃ a b c e : Int, ds = [.list [numD a b, numD c e]] ∧ Ns a b ∧ Ns c e ∧ d = .list [pD (f2 w a b c e)]
theorem dec_if {p : Prop} [Decidable p] : (if decide p = true then (1 : Int) else 0) = if p then 1 else 0 := by
  by_cases h : p
  · rw [if_pos h, if_pos (decide_eq_true h)]
  · rw [if_neg h, if_neg (by rw [decide_eq_false h]; exact Bool.false_ne_true)]
theorem c_things_summed (T : Top K w mg) : Cal P w K mg base "things_summed" 5 p_things_summed (spP K (R2 "plus")) :=
  T.h_things_summed.call (fun _ _ _ _ _ _ us hl => match us, hl with | [_], _ => rfl) fun f fd F m => fn_pure F sc_things_summed (by walk_at "len") fun cdv A outer s H E hr => ⟨_, (pss_one (ps_ret (pe_lst (pa_cons (pe_cal (c_plus (P := P) (w := w) (K := K) (mg := mg) (base := base) T) (hr.mono (by omega)) (by rfl) (pa_cons (pe_ix (ix_XK (K := K) rfl) (pv 0) pe_int (fun _ _ => rfl)) (pa_cons (pe_ix (ix_XK (K := K) rfl) (pv 0) pe_int (fun _ _ => rfl)) pa_nil))) pa_nil)))), fun ds d hR => by
    obtain ⟨a, b, c, e, rfl, h1, h2, rfl⟩ := hR
    walk_at "d"
    refine ⟨_, ⟨_, _, _, _, rfl, h1.q, h2.q, rfl⟩, ?_⟩
    walk_at "d"
    rfl⟩
theorem c_things_lessened (T : Top K w mg) : Cal P w K mg base "things_lessened" 5 p_things_lessened (spP K (R2 "minus")) :=
  T.h_things_lessened.call (fun _ _ _ _ _ _ us hl => match us, hl with | [_], _ => rfl) fun f fd F m => fn_pure F sc_things_lessened (by walk_at "len") fun cdv A outer s H E hr => ⟨_, (pss_one (ps_ret (pe_lst (pa_cons (pe_cal (c_minus (P := P) (w := w) (K := K) (mg := mg) (base := base) T) (hr.mono (by omega)) (by rfl) (pa_cons (pe_ix (ix_XK (K := K) rfl) (pv 0) pe_int (fun _ _ => rfl)) (pa_cons (pe_ix (ix_XK (K := K) rfl) (pv 0) pe_int (fun _ _ => rfl)) pa_nil))) pa_nil)))), fun ds d hR => by
    obtain ⟨a, b, c, e, rfl, h1, h2, rfl⟩ := hR
    walk_at "d"
    refine ⟨_, ⟨_, _, _, _, rfl, h1.q, h2.q, rfl⟩, ?_⟩
    walk_at "d"
    rfl⟩
theorem c_things_multiplied (T : Top K w mg) : Cal P w K mg base "things_multiplied" 5 p_things_multiplied (spP K (R2 "times")) :=
  T.h_things_multiplied.call (fun _ _ _ _ _ _ us hl => match us, hl with | [_], _ => rfl) fun f fd F m => fn_pure F sc_things_multiplied (by walk_at "len") fun cdv A outer s H E hr => ⟨_, (pss_one (ps_ret (pe_lst (pa_cons (pe_cal (c_times (P := P) (w := w) (K := K) (mg := mg) (base := base) T) (hr.mono (by omega)) (by rfl) (pa_cons (pe_ix (ix_XK (K := K) rfl) (pv 0) pe_int (fun _ _ => rfl)) (pa_cons (pe_ix (ix_XK (K := K) rfl) (pv 0) pe_int (fun _ _ => rfl)) pa_nil))) pa_nil)))), fun ds d hR => by
    obtain ⟨a, b, c, e, rfl, h1, h2, rfl⟩ := hR
    walk_at "d"
    refine ⟨_, ⟨_, _, _, _, rfl, h1.q, h2.q, rfl⟩, ?_⟩
    walk_at "d"
    rfl⟩
theorem c_things_lesser (T : Top K w mg) : Cal P w K mg base "things_lesser" 5 p_things_lesser (spP K (R2 "lesser")) :=
  T.h_things_lesser.call (fun _ _ _ _ _ _ us hl => match us, hl with | [_], _ => rfl) fun f fd F m => fn_pure F sc_things_lesser (by walk_at "len") fun cdv A outer s H E hr => ⟨_, (pss_one (ps_ret (pe_lst (pa_cons (pe_callTy call_int1' (by rfl) T.m_int (by decide +kernel) (pa_cons (pe_cal (c_less (P := P) (w := w) (K := K) (mg := mg) (base := base) T) (hr.mono (by omega)) (by rfl) (pa_cons (pe_ix (ix_XK (K := K) rfl) (pv 0) pe_int (fun _ _ => rfl)) (pa_cons (pe_ix (ix_XK (K := K) rfl) (pv 0) pe_int (fun _ _ => rfl)) pa_nil))) pa_nil)) pa_nil)))), fun ds d hR => by
    obtain ⟨a, b, c, e, rfl, h1, h2, rfl⟩ := hR
    walk_at "d"
    refine ⟨_, ⟨_, _, _, _, rfl, h1.q, h2.q, rfl⟩, ?_⟩
    walk_at "d"
    rw [dec_if]
    rfl⟩
theorem c_things_greater (T : Top K w mg) : Cal P w K mg base "things_greater" 5 p_things_greater (spP K (R2 "greater")) :=
  T.h_things_greater.call (fun _ _ _ _ _ _ us hl => match us, hl with | [_], _ => rfl) fun f fd F m => fn_pure F sc_things_greater (by walk_at "len") fun cdv A outer s H E hr => ⟨_, (pss_one (ps_ret (pe_lst (pa_cons (pe_callTy call_int1' (by rfl) T.m_int (by decide +kernel) (pa_cons (pe_cal (c_less (P := P) (w := w) (K := K) (mg := mg) (base := base) T) (hr.mono (by omega)) (by rfl) (pa_cons (pe_ix (ix_XK (K := K) rfl) (pv 0) pe_int (fun _ _ => rfl)) (pa_cons (pe_ix (ix_XK (K := K) rfl) (pv 0) pe_int (fun _ _ => rfl)) pa_nil))) pa_nil)) pa_nil)))), fun ds d hR => by
    obtain ⟨a, b, c, e, rfl, h1, h2, rfl⟩ := hR
    walk_at "d"
    refine ⟨_, ⟨_, _, _, _, rfl, h2.q, h1.q, rfl⟩, ?_⟩
    walk_at "d"
    rw [dec_if]
    rfl⟩
/-! ### == of numbers -/
theorem num_cases (a b : Int) : numD a b = .int a ∧ b = 1 ∨ numD a b = .tuple [.int a, .int b] ∧ b ≠ 1 := by
  unfold numD
  by_cases h : b = 1
  · rw [if_pos h]; exact .inl ⟨rfl, h⟩
  · rw [if_neg h]; exact .inr ⟨rfl, h⟩
theorem shaped_int (a : Int) : SeqAt.shaped (.int a) = true := rfl
theorem shaped_num (a b : Int) : SeqAt.shaped (numD a b) = true := by
  rcases num_cases a b with ⟨h, _⟩ | ⟨h, _⟩ <;> rw [h] <;> rfl
theorem eqv_num {a b c e : Int} : PyData.eqv (numD a b) (numD c e) = decide (a = c ∧ b = e) := by
  rw [Bool.eq_iff_iff, decide_eq_true_eq]
  rcases num_cases a b with ⟨h, h1⟩ | ⟨h, h1⟩ <;> rcases num_cases c e with ⟨h2, h3⟩ | ⟨h2, h3⟩ <;> rw [h, h2] <;> simp [PyData.eqv, PyData.eqvAll] <;> omega
theorem eqv_zero {a b : Int} (h : Nm a b) : PyData.eqv (numD a b) (.int 0) = decide (a = 0) := by
  rw [Bool.eq_iff_iff, decide_eq_true_eq]
  rcases num_cases a b with ⟨h2, h1⟩ | ⟨h2, h1⟩ <;> rw [h2] <;> simp [PyData.eqv]
  intro z
  subst z
  have hc := h.cop
  rw [Int.gcd_zero_left] at hc
  have := h.pos
  omega
theorem c_things_alike (T : Top K w mg) : Cal P w K mg base "things_alike" 2 p_things_alike (spP K (R2 "same")) :=
  T.h_things_alike.call (fun _ _ _ _ _ _ us hl => match us, hl with | [_], _ => rfl) fun f fd F m => fn_pure F sc_things_alike (by walk_at "len") fun cdv A outer s H E hr => ⟨_, (pss_one (ps_ret (pe_lst (pa_cons (pe_callTy call_int1' (by rfl) T.m_int (by decide +kernel) (pa_cons (pe_cmpR (op_eqXK (K := K) rfl hr.units) (pe_ix (ix_XK (K := K) rfl) (pv 0) pe_int (fun _ _ => rfl)) (pe_ix (ix_XK (K := K) rfl) (pv 0) pe_int (fun _ _ => rfl)) (nomark _)) pa_nil)) pa_nil)))), fun ds d hR => by
    obtain ⟨a, b, c, e, rfl, h1, h2, rfl⟩ := hR
    walk_at "d"
    refine ⟨_, r2_eqD (shaped_num a b) (shaped_num c e), ?_⟩
    walk_at "d"
    rw [eqv_num, dec_if]
    rfl⟩
theorem ne_zero_dec {a b : Int} (h : Nm a b) : (!PyData.eqv (numD a b) (.int 0)) = decide (a ≠ 0) := by
  rw [eqv_zero h]
  by_cases z : a = 0
  · rw [decide_eq_true z, decide_eq_false (by omega)]; rfl
  · rw [decide_eq_false z, decide_eq_true z]; rfl
theorem c_things_both_told (T : Top K w mg) : Cal P w K mg base "things_both_told" 2 p_things_both_told (spP K (R2 "both")) :=
  T.h_things_both_told.call (fun _ _ _ _ _ _ us hl => match us, hl with | [_], _ => rfl) fun f fd F m => fn_pure F sc_things_both_told (by walk_at "len") fun cdv A outer s H E hr => ⟨_, (pss_one (ps_ret (pe_lst (pa_cons (pe_callTy call_int1' (by rfl) T.m_int (by decide +kernel) (pa_cons (pe_and (pe_cmpR (op_neXK (K := K) rfl hr.units) (pe_ix (ix_XK (K := K) rfl) (pv 0) pe_int (fun _ _ => rfl)) pe_int (nomark _)) (pe_one (pe_cmpR (op_neXK (K := K) rfl hr.units) (pe_ix (ix_XK (K := K) rfl) (pv 0) pe_int (fun _ _ => rfl)) pe_int (nomark _)))) pa_nil)) pa_nil)))), fun ds d hR => by
    obtain ⟨a, b, c, e, rfl, h1, h2, rfl⟩ := hR
    walk_at "d"
    refine ⟨_, r2_neD (shaped_num a b) (shaped_int 0), ?_⟩
    rw [ne_zero_dec h1.nm]
    walk_at "d"
    refine ⟨fun h => ?_, fun h => ?_⟩
    · walk_at "d"
      refine ⟨_, r2_neD (shaped_num c e) (shaped_int 0), ?_⟩
      rw [ne_zero_dec h2.nm]
      walk_at "d"
      have e1 : (if decide (c ≠ 0) = true then (1 : Int) else 0) = if a ≠ 0 ∧ c ≠ 0 then 1 else 0 := by
        rw [dec_if]
        have := of_decide_eq_true h
        simp only [this, ne_eq, not_false_eq_true, true_and]
      rw [e1]
      rfl
    · walk_at "d"
      have e1 : (if false = true then (1 : Int) else 0) = if a ≠ 0 ∧ c ≠ 0 then 1 else 0 := by
        have := of_decide_eq_false h
        rw [if_neg Bool.false_ne_true, if_neg fun z : a ≠ 0 ∧ c ≠ 0 => this z.1]
      rw [e1]
      rfl⟩
theorem c_things_either_told (T : Top K w mg) : Cal P w K mg base "things_either_told" 2 p_things_either_told (spP K (R2 "either")) :=
  T.h_things_either_told.call (fun _ _ _ _ _ _ us hl => match us, hl with | [_], _ => rfl) fun f fd F m => fn_pure F sc_things_either_told (by walk_at "len") fun cdv A outer s H E hr => ⟨_, (pss_one (ps_ret (pe_lst (pa_cons (pe_callTy call_int1' (by rfl) T.m_int (by decide +kernel) (pa_cons (pe_or (pe_cmpR (op_neXK (K := K) rfl hr.units) (pe_ix (ix_XK (K := K) rfl) (pv 0) pe_int (fun _ _ => rfl)) pe_int (nomark _)) (pe_one (pe_cmpR (op_neXK (K := K) rfl hr.units) (pe_ix (ix_XK (K := K) rfl) (pv 0) pe_int (fun _ _ => rfl)) pe_int (nomark _)))) pa_nil)) pa_nil)))), fun ds d hR => by
    obtain ⟨a, b, c, e, rfl, h1, h2, rfl⟩ := hR
    walk_at "d"
    refine ⟨_, r2_neD (shaped_num a b) (shaped_int 0), ?_⟩
    rw [ne_zero_dec h1.nm]
    walk_at "d"
    refine ⟨fun h => ?_, fun h => ?_⟩
    · walk_at "d"
      have e1 : (if true = true then (1 : Int) else 0) = if a ≠ 0 ∨ c ≠ 0 then 1 else 0 := by
        have := of_decide_eq_true h
        rw [if_pos rfl, if_pos (Or.inl this : a ≠ 0 ∨ c ≠ 0)]
      rw [e1]
      rfl
    · walk_at "d"
      refine ⟨_, r2_neD (shaped_num c e) (shaped_int 0), ?_⟩
      rw [ne_zero_dec h2.nm]
      walk_at "d"
      have e1 : (if decide (c ≠ 0) = true then (1 : Int) else 0) = if a ≠ 0 ∨ c ≠ 0 then 1 else 0 := by
        rw [dec_if]
        have := of_decide_eq_false h
        simp only [this, false_or]
      rw [e1]
      rfl⟩
theorem c_things_none_told (T : Top K w mg) : Cal P w K mg base "things_none_told" 2 p_things_none_told (spP K (R1 "not")) :=
  T.h_things_none_told.call (fun _ _ _ _ _ _ us hl => match us, hl with | [_], _ => rfl) fun f fd F m => fn_pure F sc_things_none_told (by walk_at "len") fun cdv A outer s H E hr => ⟨_, (pss_one (ps_ret (pe_lst (pa_cons (pe_callTy call_int1' (by rfl) T.m_int (by decide +kernel) (pa_cons (pe_cmpR (op_eqXK (K := K) rfl hr.units) (pe_ix (ix_XK (K := K) rfl) (pv 0) pe_int (fun _ _ => rfl)) pe_int (nomark _)) pa_nil)) pa_nil)))), fun ds d hR => by
    obtain ⟨a, b, rfl, h1, rfl⟩ := hR
    walk_at "d"
    refine ⟨_, r2_eqD (shaped_num a b) (shaped_int 0), ?_⟩
    rw [eqv_zero h1.nm]
    walk_at "d"
    rw [dec_if]
    rfl⟩
theorem nm_neg {a b : Int} (h : Nm a b) : Nm (0 - a) b := ⟨h.pos, by rw [Int.zero_sub, Int.neg_gcd]; exact h.cop⟩
theorem neg_red {a b : Int} (h : Nm a b) : redD (a * -1) (b * 1) = numD (0 - a) b := by
  rw [show a * -1 = 0 - a by omega, Int.mul_one]
  exact redD_id (nm_neg h)
theorem bd_neg {n : Nat} {a : Int} (h : Bd n a) : Bd n (0 - a) := by rw [Int.zero_sub]; exact h.neg
theorem c_things_negated (T : Top K w mg) : Cal P w K mg base "things_negated" 5 p_things_negated (spP K (R1 "negate")) :=
  T.h_things_negated.call (fun _ _ _ _ _ _ us hl => match us, hl with | [_], _ => rfl) fun f fd F m => fn_pure F sc_things_negated (by walk_at "len") fun cdv A outer s H E hr => ⟨_, (pss_one (ps_ret (pe_lst (pa_cons (pe_cal (c_times (P := P) (w := w) (K := K) (mg := mg) (base := base) T) (hr.mono (by omega)) (by rfl) (pa_cons (pe_ix (ix_XK (K := K) rfl) (pv 0) pe_int (fun _ _ => rfl)) (pa_cons (pe_un un_neg pe_int) pa_nil))) pa_nil)))), fun ds d hR => by
    obtain ⟨a, b, rfl, h1, rfl⟩ := hR
    walk_at "d"
    refine ⟨_, ⟨a, b, -1, 1, rfl, h1.q, nq_of bd8, rfl⟩, ?_⟩
    walk_at "d"
    rw [neg_red h1.nm]
    rfl⟩
theorem c_things_bared (T : Top K w mg) : Cal P w K mg base "things_bared" 5 p_things_bared (spP K (R1 "bare")) :=
  T.h_things_bared.call (fun _ _ _ _ _ _ us hl => match us, hl with | [_], _ => rfl) fun f fd F m => fn_pure F sc_things_bared (by walk_at "len") fun cdv A outer s H E hr => ⟨_, (pss_one (ps_ret (pe_lst (pa_cons (pe_cal (c_bare_of (P := P) (w := w) (K := K) (mg := mg) (base := base) T) (hr.mono (by omega)) (by rfl) (pa_cons (pe_ix (ix_XK (K := K) rfl) (pv 0) pe_int (fun _ _ => rfl)) pa_nil)) pa_nil)))), fun ds d hR => by
    obtain ⟨a, b, rfl, h1, rfl⟩ := hR
    walk_at "d"
    refine ⟨_, ⟨_, _, rfl, h1.q, rfl⟩, ?_⟩
    walk_at "d"
    rfl⟩
theorem c_things_floored (T : Top K w mg) : Cal P w K mg base "things_floored" 6 p_things_floored (spP K (R1 "floor")) :=
  T.h_things_floored.call (fun _ _ _ _ _ _ us hl => match us, hl with | [_], _ => rfl) fun f fd F m => fn_pure F sc_things_floored (by walk_at "len") fun cdv A outer s H E hr => ⟨_, (pss_one (ps_ret (pe_lst (pa_cons (pe_calK (ck_floor_of (P := P) (w := w) (K := K) (mg := mg) (base := base) T) (hr.mono (by omega)) (by rfl) (pa_cons (pe_ix (ix_XK (K := K) rfl) (pv 0) pe_int (fun _ _ => rfl)) pa_nil) (pk_cons (pe_KK (K := K) rfl T.k_CELL (by rfl)) pk_nil)) pa_nil)))), fun ds d hR => by
    obtain ⟨a, b, rfl, h1, rfl⟩ := hR
    walk_at "d"
    refine we_callK ?_
    walk_at "d"
    refine ⟨rfl, ?_⟩
    walk_at "d"
    refine ⟨rfl, _, ⟨a, b, rfl, h1.nm, h1.t.mono (by decide), h1.b.mono (by decide), rfl⟩, ?_⟩
    walk_at "d"
    rfl⟩
theorem c_things_ceiled (T : Top K w mg) : Cal P w K mg base "things_ceiled" 6 p_things_ceiled (spP K (R1 "ceil")) :=
  T.h_things_ceiled.call (fun _ _ _ _ _ _ us hl => match us, hl with | [_], _ => rfl) fun f fd F m => fn_pure F sc_things_ceiled (by walk_at "len") fun cdv A outer s H E hr => ⟨_, (pss_one (ps_ret (pe_lst (pa_cons (pe_cal (c_times (P := P) (w := w) (K := K) (mg := mg) (base := base) T) (hr.mono (by omega)) (by rfl) (pa_cons (pe_calK (ck_floor_of (P := P) (w := w) (K := K) (mg := mg) (base := base) T) (hr.mono (by omega)) (by rfl) (pa_cons (pe_cal (c_times (P := P) (w := w) (K := K) (mg := mg) (base := base) T) (hr.mono (by omega)) (by rfl) (pa_cons (pe_ix (ix_XK (K := K) rfl) (pv 0) pe_int (fun _ _ => rfl)) (pa_cons (pe_un un_neg pe_int) pa_nil))) pa_nil) (pk_cons (pe_KK (K := K) rfl T.k_CELL (by rfl)) pk_nil)) (pa_cons (pe_un un_neg pe_int) pa_nil))) pa_nil)))), fun ds d hR => by
    obtain ⟨a, b, rfl, h1, rfl⟩ := hR
    walk_at "d"
    refine we_callK ?_
    walk_at "d"
    refine ⟨_, ⟨a, b, -1, 1, rfl, h1.q, nq_of bd8, rfl⟩, ?_⟩
    rw [neg_red h1.nm]
    walk_at "d"
    refine ⟨rfl, ?_⟩
    walk_at "d"
    have ha := bd_neg h1.t
    have hq : Bd 220 ((0 - a).fdiv (64 * b)) := (ha.mono (by decide)).le (fdiv_le _ (by have := h1.nm.pos; omega))
    refine ⟨rfl, _, ⟨0 - a, b, rfl, nm_neg h1.nm, ha.mono (by decide), h1.b.mono (by decide), rfl⟩, ?_⟩
    walk_at "d"
    refine ⟨_, ⟨64 * (0 - a).fdiv (64 * b), 1, -1, 1, rfl, nq_of (((bd8 (n := 8)).mul hq).mono (by decide)), nq_of bd8, rfl⟩, ?_⟩
    rw [neg_red (nm_one _)]
    walk_at "d"
    rfl⟩
end K77

set_option Elab.async false
set_option linter.all false
set_option maxRecDepth 100000
set_option pp.deepTerms false
set_option pp.deepTerms.threshold 6
set_option maxHeartbeats 4000000
namespace K77
open PySem PySem.Spec PyProof.Rows L2 DS
-- the steps that need no thought: one, as many as there are
local macro_rules | `(tactic| walk_at "d1") => `(tactic| with_reducible first
  | refine ws_seq ?_ | refine ws_next ?_ | refine ws_retN ?_ | refine ws_ret ?_ | refine ws_if ?_ | refine ws_par ?_ | refine ws_setK ?_ | refine ws_newD ?_ | refine wp_cons ?_ | refine wp_nil ?_ | refine ws_set ?_ | refine ws_star ?_ | refine ws_setO rfl ?_ | apply ws_asg
  | refine we_var rfl ?_ | refine we_int ?_ | refine we_bl ?_ | refine we_str ?_ | refine we_non ?_ | refine we_kd ?_ | refine we_ixO rfl ?_
  | refine we_isi isg_int ?_ | refine we_isi isg_bool ?_ | refine we_isi isg_str ?_ | refine we_isi isg_list ?_ | refine we_isi isg_tuple ?_ | refine we_isi2 isg_list isg_tuple ?_ | refine we_isi2 isg_int isg_tuple ?_
  | refine we_inK ?_ | refine we_ixK ?_ | refine we_op ?_ | refine we_un ?_ | refine we_cb ?_ | refine we_tup ?_ | refine we_lst ?_ | refine we_andV ?_ | refine we_orV ?_ | refine we_notV ?_ | refine we_if ?_ | refine we_chain ?_ | refine we_sl ?_ | refine we_call ?_
  | refine wa_nil ?_ | refine wa_cons ?_ | refine wo_none ?_ | refine wo_some ?_ | refine wt_test ?_ | refine wt_B ?_ | refine wt_and ?_ | refine wt_or ?_ | refine wt_not ?_
  | refine wg_tup rfl ?_ | refine wgs_cons ?_ | refine wgs_nil ?_ | refine wg_name ?_
  | refine ⟨_, r2_int, ?_⟩ | refine ⟨_, r2_bl, ?_⟩ | refine ⟨_, r2_addI, ?_⟩ | refine ⟨_, r2_eqI, ?_⟩ | refine ⟨_, r2_neI, ?_⟩ | refine ⟨_, r2_eqS, ?_⟩ | refine ⟨_, r2_neS, ?_⟩ | refine ⟨_, r2_isN, ?_⟩ | refine ⟨_, r1_neg, ?_⟩
  | refine ⟨_, rc_absI, ?_⟩ | refine ⟨_, rc_intI, ?_⟩ | refine ⟨_, rc_intB, ?_⟩ | refine ⟨_, rc_max, ?_⟩ | refine ⟨_, rc_min, ?_⟩ | refine ⟨_, rc_lenL, ?_⟩ | refine ⟨_, rc_lenT, ?_⟩ | refine ⟨_, rc_listL, ?_⟩ | refine ⟨_, rc_listT, ?_⟩ | refine ⟨_, rc_tupL, ?_⟩ | refine ⟨_, rc_tupT, ?_⟩
  | refine ⟨_, rfl, ?_⟩ | refine ⟨_, _, rfl, ?_⟩ | refine ⟨_, ⟨_, rfl, rfl⟩, ?_⟩ | refine ⟨_, ⟨_, _, rfl, rfl⟩, ?_⟩)
local macro_rules | `(tactic| walk_at "d") => `(tactic| repeat (first | walk_at "d1" | refine ⟨lenOk rfl, ?_⟩ | refine ⟨0, _, _, _, rfl, rfl, rfl, ?_⟩ | refine ⟨_, r2_ixXL rfl, ?_⟩ | refine ⟨_, r2_ixXT rfl, ?_⟩ | refine ⟨_, r2_ixXT at0, ?_⟩ | refine ⟨_, r2_ixXT at1, ?_⟩ | refine ⟨_, r2_ixXL at0, ?_⟩ | refine ⟨_, r2_ixXL at1, ?_⟩))
-- a condition whose truth comes out by computation
local macro_rules | `(tactic| walk_at "b1") => `(tactic| first
  | refine ⟨fun _ => ?_, fun h => Bool.noConfusion (show true = false from h)⟩
  | refine ⟨fun h => Bool.noConfusion (show false = true from h), fun _ => ?_⟩)
local macro_rules | `(tactic| walk_at "db") => `(tactic| repeat (first | walk_at "d1" | refine ⟨lenOk rfl, ?_⟩ | refine ⟨0, _, _, _, rfl, rfl, rfl, ?_⟩ | refine ⟨_, r2_ixXL rfl, ?_⟩ | refine ⟨_, r2_ixXT rfl, ?_⟩ | refine ⟨_, r2_ixXT at0, ?_⟩ | refine ⟨_, r2_ixXT at1, ?_⟩ | refine ⟨_, r2_ixXL at0, ?_⟩ | refine ⟨_, r2_ixXL at1, ?_⟩ | walk_at "b1"))
-- how many arguments there are
local macro_rules | `(tactic| walk_at "len") => `(tactic| (intro _ _ h; first
  | (obtain ⟨_, e, _⟩ := h; subst e; rfl) | (obtain ⟨_, _, e, _⟩ := h; subst e; rfl) | (obtain ⟨_, _, _, e, _⟩ := h; subst e; rfl) | (obtain ⟨_, _, _, _, e, _⟩ := h; subst e; rfl) | (obtain ⟨_, _, _, _, _, e, _⟩ := h; subst e; rfl)))
local macro_rules | `(tactic| walk_at "leno") => `(tactic| (intro _ _ h; first
  | (obtain ⟨⟨_, e, _⟩, _⟩ := h; subst e; rfl) | (obtain ⟨⟨_, _, e, _⟩, _⟩ := h; subst e; rfl) | (obtain ⟨e, _⟩ := h; subst e; rfl) | (obtain ⟨_, e, _⟩ := h; subst e; rfl) | (obtain ⟨_, _, e, _⟩ := h; subst e; rfl) | (obtain ⟨_, _, _, e, _⟩ := h; subst e; rfl) | (obtain ⟨_, _, _, _, e, _⟩ := h; subst e; rfl)))

variable {P : Program} {w : World} {K : PySem.W.Frag} {mg : Str → Option Value} {base : Heap}
/-! ### is_whole -/
def whl (x : PyData) (lo hi : Int) : Bool := match x with
  | .int i => decide (lo ≤ i) && decide (i ≤ hi)
  | _ => false
abbrev R_is_whole (ds : List PyData) (d : PyData) : Prop := ∃ x lo hi, ds = [x, .int lo, .int hi] ∧ d = .bool (whl x lo hi)
theorem c_is_whole (T : Top K w mg) : Cal P w K mg base "is_whole" 2 p_is_whole (spP K R_is_whole) :=
  T.h_is_whole.call (fun _ _ _ _ _ _ us hl => match us, hl with | [_, _, _], _ => rfl) fun f fd F m => fn_pure F sc_is_whole (by walk_at "len") fun cdv A outer s H E hr => ⟨_, (pss_one (ps_ret (pe_and (pe_cal (c_is_plain (P := P) (w := w) (K := K) (mg := mg) (base := base) T) (hr.mono (by omega)) (by rfl) (pa_cons (pv 0) pa_nil)) (pe_one (pe_chain op_le op_le (pv 1) (pv 0) (pv 2)))))), fun ds d hR => by
    obtain ⟨x, lo, hi, rfl, rfl⟩ := hR
    cases x <;> try (walk_at "db"; rfl)
    rename_i i
    walk_at "db"
    refine ⟨fun h => ?_, fun h => ?_⟩
    · walk_at "d"
      show PyData.bool _ = PyData.bool (decide (lo ≤ i) && decide (i ≤ hi))
      rw [h]
      rfl
    · show PyData.bool _ = PyData.bool (decide (lo ≤ i) && decide (i ≤ hi))
      rw [h]
      rfl⟩
/-! ### counting -/
noncomputable def smN : PyData → Bool
  | .int i => smI i
  | .tuple [.int a, .int b] => smI a && smI b
  | _ => false
def sgl : List PyData := [.str "negate", .str "bare", .str "floor", .str "ceil", .str "not"]
def dbl : List PyData := [.str "plus", .str "minus", .str "times", .str "over", .str "lesser", .str "greater", .str "same", .str "both", .str "either"]
def inSg (z : Str) : Bool := sgl.any fun y => PyData.eqv y (.str z)
def inDb (z : Str) : Bool := dbl.any fun y => PyData.eqv y (.str z)
def b2n (b : Bool) : Int := if b then 1 else 0
def one1 (rest : List PyData) (hi : Int) : Bool := match rest with
  | [x] => whl x 0 hi
  | _ => false
def cntF (rec : PyData → Int) (z : Bool) (nm : Str) (rest : List PyData) : Int :=
  if nm = "size" then b2n rest.isEmpty
  else if nm = "load" then b2n (one1 rest 7) else if nm = "worth" then b2n (one1 rest 11)
  else if ((rest.length : Int) ≠ b2n (inSg nm) + 2 * b2n (inDb nm) ∨ (rest = [] ∨ z = true)) then 0
  else if (rest.map rec).any (· == 0) then 0 else 1 + (rest.map rec).sum
noncomputable def cntG (rec : PyData → Int) (z : Bool) (x : PyData) : Int :=
  if isNu x then b2n (smN x) else match x with
    | .tuple (.str nm :: rest) => cntF rec z nm rest
    | _ => 0
noncomputable def cnt : Nat → PyData → Int
  | 0 => cntG (fun _ => 0) true
  | n + 1 => cntG (cnt n) false
inductive Wd : PyData → Prop
  | tup {ds : List PyData} : ds.length ≤ 16000 → (∀ d ∈ ds, Wd d) → Wd (.tuple ds)
  | oth {x : PyData} : isTup x = false → Wd x
theorem cnt_eq (n : Nat) : cnt n = cntG (cnt (n - 1)) (decide (n = 0)) ∨ n = 0 ∧ cnt n = cntG (fun _ => 0) true := by
  cases n with
  | zero => exact .inr ⟨rfl, rfl⟩
  | succ n => exact .inl rfl
theorem cntG_nu {rec : PyData → Int} {z : Bool} {a b : Int} (h : Nm a b) : cntG rec z (numD a b) = b2n (smB a b) := by
  unfold cntG
  rw [if_pos (nu_num h)]
  rcases num_cases a b with ⟨e, h1⟩ | ⟨e, h1⟩ <;> rw [e]
  · subst h1
    show b2n (smI a) = b2n (smI a && smI 1)
    rw [show smI 1 = true by unfold smI; rw [decide_eq_true_eq, g60_eq]; decide, Bool.and_true]
  · rfl
theorem cnt_nu {n : Nat} {a b : Int} (h : Nm a b) : cnt n (numD a b) = b2n (smB a b) := by
  cases n with
  | zero => exact cntG_nu h
  | succ n => exact cntG_nu h
theorem cntG_oth {rec : PyData → Int} {z : Bool} {x : PyData} (h : isNu x = false) (h2 : ∀ nm rest, x ≠ .tuple (.str nm :: rest)) : cntG rec z x = 0 := by
  unfold cntG
  rw [if_neg (by rw [h]; exact Bool.false_ne_true)]
  split
  · exact absurd rfl (h2 _ _)
  · rfl
theorem cnt_oth {n : Nat} {x : PyData} (h : isNu x = false) (h2 : ∀ nm rest, x ≠ .tuple (.str nm :: rest)) : cnt n x = 0 := by
  cases n with
  | zero => exact cntG_oth h h2
  | succ n => exact cntG_oth h h2
theorem not_nu {nm : Str} {rest : List PyData} : isNu (.tuple (.str nm :: rest)) = false := by
  match rest with
  | [] => rfl
  | [_] => rfl
  | _ :: _ :: _ => rfl
theorem cnt_zero {nm : Str} {rest : List PyData} : cnt 0 (.tuple (.str nm :: rest)) = cntF (fun _ => 0) true nm rest := by
  show cntG _ _ _ = _
  unfold cntG
  rw [if_neg (by rw [not_nu]; exact Bool.false_ne_true)]
theorem cnt_succ {n : Nat} {nm : Str} {rest : List PyData} : cnt (n + 1) (.tuple (.str nm :: rest)) = cntF (cnt n) false nm rest := by
  show cntG _ _ _ = _
  unfold cntG
  rw [if_neg (by rw [not_nu]; exact Bool.false_ne_true)]
noncomputable def recOf : Nat → PyData → Int
  | 0 => fun _ => 0
  | k + 1 => cnt k
theorem cnt_F {n : Nat} {nm : Str} {rest : List PyData} : cnt n (.tuple (.str nm :: rest)) = cntF (recOf n) (decide (n = 0)) nm rest := by
  cases n with
  | zero => exact cnt_zero
  | succ n => exact cnt_succ
theorem lk_load : lookKEPT "load" = some (.int 8) := by unfold lookKEPT; rw [if_pos rfl]
theorem lk_worth : lookKEPT "worth" = some (.int 12) := by unfold lookKEPT; rw [if_neg (by decide), if_pos rfl]
theorem lk_none {z : Str} (h1 : z ≠ "load") (h2 : z ≠ "worth") : lookKEPT z = none := by unfold lookKEPT; rw [if_neg h1, if_neg h2]
theorem cntF_load {rec : PyData → Int} {z : Bool} {rest : List PyData} : cntF rec z "load" rest = b2n (one1 rest 7) := by unfold cntF; rw [if_neg (by decide), if_pos rfl]
theorem cntF_worth {rec : PyData → Int} {z : Bool} {rest : List PyData} : cntF rec z "worth" rest = b2n (one1 rest 11) := by unfold cntF; rw [if_neg (by decide), if_neg (by decide), if_pos rfl]
theorem cntF_oth {rec : PyData → Int} {z : Bool} {nm : Str} {rest : List PyData} (h0 : nm ≠ "size") (h1 : nm ≠ "load") (h2 : nm ≠ "worth") : cntF rec z nm rest =
    if ((rest.length : Int) ≠ b2n (inSg nm) + 2 * b2n (inDb nm) ∨ (rest = [] ∨ z = true)) then 0 else if (rest.map rec).any (· == 0) then 0 else 1 + (rest.map rec).sum := by
  unfold cntF; rw [if_neg h0, if_neg h1, if_neg h2]
theorem inL_ints {cs : List Int} : R2D K (rIn K false) (.int 0) (.list (cs.map .int)) (.bool (cs.any (· == 0))) := by
  have h := r2_inL (K := K) (x := .int 0) (ds := cs.map .int) rfl (by rw [List.all_map]; exact List.all_eq_true.mpr fun _ _ => rfl)
  rwa [show ((cs.map PyData.int).any fun z => PyData.eqv z (.int 0)) = cs.any (· == 0) by
    rw [List.any_map]
    rfl] at h
theorem len1_no {x y : PyData} {r : List PyData} : decide (((x :: y :: r).length : Int) = 1) = false := by
  rw [decide_eq_false (by simp only [List.length_cons]; omega)]
abbrev R_pc (m : Nat) (ds : List PyData) (d : PyData) : Prop := ∃ (n : Nat) (x : PyData), ds = [x, .int n] ∧ n < m ∧ Wd x ∧ d = .int (cnt n x)
--%%SPECIAL {('rec', 'parts_counted', 'parts_counted'): 'C', ('room', 'parts_counted', 'parts_counted'): 'hr'}
theorem eqv_nil {x : PyData} {r : List PyData} : PyData.eqv (.tuple (x :: r)) (.tuple []) = false := by simp [PyData.eqv, PyData.eqvAll]
theorem eqv_nil0 : PyData.eqv (.tuple []) (.tuple []) = true := by simp [PyData.eqv, PyData.eqvAll]
theorem eqv_lnil {r : List PyData} : PyData.eqv (.list r) (.list []) = r.isEmpty := by
  cases r <;> simp [PyData.eqv, PyData.eqvAll]
theorem dep_nil : PyData.depth (.tuple []) ≤ 64 := by simp [PyData.depth, PyData.depthAll]
theorem dep_lnil : PyData.depth (.list []) ≤ 64 := by simp [PyData.depth, PyData.depthAll]
theorem c_parts_counted (T : Top K w mg) : ∀ m : Nat, Cal P w K mg base "parts_counted" (m + 6) p_parts_counted (spP K (R_pc m))
  | 0 => T.h_parts_counted.call (fun _ _ _ _ _ _ us hl => match us, hl with | [_, _], _ => rfl) fun f fd F m => ⟨fun vs H Q E h => (by
      obtain ⟨_, _, _, _, _, ⟨_, _, _, hn, _⟩, _⟩ := h
      exact absurd hn (Nat.not_lt_zero _)), fun A outer s H args us vs Q E _ _ _ _ h => (by
      obtain ⟨_, _, _, _, _, ⟨_, _, _, hn, _⟩, _⟩ := h
      exact absurd hn (Nat.not_lt_zero _))⟩
  | m + 1 => by
    have C := c_parts_counted T m
    exact T.h_parts_counted.call (fun _ _ _ _ _ _ us hl => match us, hl with | [_, _], _ => rfl) fun f fd F mm => fn_pure F sc_parts_counted (by walk_at "len") fun cdv A outer s H E hr => ⟨_, (pss_cons (ps_if (pt_val (pe_cal (c_is_number (P := P) (w := w) (K := K) (mg := mg) (base := base) T) (hr.mono (by omega)) (by rfl) (pa_cons (pv 0) pa_nil))) (pss_one (ps_ret (pe_callTy call_int1' (by rfl) T.m_int (by decide +kernel) (pa_cons (pe_cal (c_is_small (P := P) (w := w) (K := K) (mg := mg) (base := base) T) (hr.mono (by omega)) (by rfl) (pa_cons (pv 0) pa_nil)) pa_nil)))) pss_nil)
    (pss_cons (ps_if (PW.pt (pw_or (pt_not (pt_val (pe_callB (call_isiXK (K := K) rfl) (by rfl) T.m_isinstance (by decide +kernel) (pa_cons (pv 0) (pa_cons (pe_ty "tuple" (by rfl) T.m_tuple (by decide +kernel)) pa_nil))))) (pw_or (pt_cmpR (op_eqXK (K := K) rfl hr.units) (pv 0) (pe_tup pa_nil) (nomark _)) (pw_or1 (pt_not (pt_val (pe_callB (call_isiXK (K := K) rfl) (by rfl) T.m_isinstance (by decide +kernel) (pa_cons (pe_ix (ix_XK (K := K) rfl) (pv 0) pe_int (fun _ _ => rfl)) (pa_cons (pe_ty "str" (by rfl) T.m_str (by decide +kernel)) pa_nil))))))))) (pss_one (ps_ret pe_int)) pss_nil)
    (pss_cons (ps_asg (pv 0) (pg_starK (K := K) rfl (by rfl) (pg_name (i := 2) sc_parts_counted.nd rfl (.inl rfl)) (pg_name (i := 3) sc_parts_counted.nd rfl (.inl rfl))))
    (pss_cons (ps_if (pt_cmpR (op_eqXK (K := K) rfl hr.units) (pv 2) pe_str (nomark _)) (pss_one (ps_ret (pe_callTy call_int1' (by rfl) T.m_int (by decide +kernel) (pa_cons (pe_cmpR (op_eqXK (K := K) rfl hr.units) (pv 3) (pe_lst pa_nil) (nomark _)) pa_nil)))) pss_nil)
    (pss_cons (ps_if (pt_cmpR (op_inKK (K := K) (w := w) (look := lookKEPT) rfl rfl) (pv 2) (pe_raw T.d_KEPT (by rfl)) (by rfl)) (pss_one (ps_ret (pe_callTy call_int1' (by rfl) T.m_int (by decide +kernel) (pa_cons (pe_and (pe_cmpR (op_eqXK (K := K) rfl hr.units) (pe_callB (call_lenXK (K := K) rfl) (by rfl) T.m_len (by decide +kernel) (pa_cons (pv 3) pa_nil)) pe_int (nomark _)) (pe_one (pe_cal (c_is_whole (P := P) (w := w) (K := K) (mg := mg) (base := base) T) (hr.mono (by omega)) (by rfl) (pa_cons (pe_ix (ix_XK (K := K) rfl) (pv 3) pe_int (fun _ _ => rfl)) (pa_cons pe_int (pa_cons (pe_op op_sub (pe_ix (ix_KK (K := K) (w := w) (look := lookKEPT) rfl rfl) (pe_raw T.d_KEPT (by rfl)) (pv 2) (fun _ _ => rfl)) pe_int) pa_nil)))))) pa_nil)))) pss_nil)
    (pss_cons (ps_set (i := 4) sc_parts_counted.nd rfl (.inl rfl) (pe_op (op_addXK (K := K) rfl) (pe_callTy call_int1' (by rfl) T.m_int (by decide +kernel) (pa_cons (pe_cmpR (op_inSK (K := K) rfl) (pv 2) (pe_KK (K := K) rfl T.k_SINGLE (by rfl)) (by rfl)) pa_nil)) (pe_op op_mulW pe_int (pe_callTy call_int1' (by rfl) T.m_int (by decide +kernel) (pa_cons (pe_cmpR (op_inSK (K := K) rfl) (pv 2) (pe_KK (K := K) rfl T.k_DOUBLE (by rfl)) (by rfl)) pa_nil)))))
    (pss_cons (ps_if (PW.pt (pw_or (pt_cmpR (op_eqXK (K := K) rfl hr.units) (pv 4) pe_int (nomark _)) (pw_or (pt_cmpR (op_neXK (K := K) rfl hr.units) (pe_callB (call_lenXK (K := K) rfl) (by rfl) T.m_len (by decide +kernel) (pa_cons (pv 3) pa_nil)) (pv 4) (nomark _)) (pw_or1 (pt_cmpR (op_eqXK (K := K) rfl hr.units) (pv 1) pe_int (nomark _)))))) (pss_one (ps_ret pe_int)) pss_nil)
    (pss_cons (ps_setLc (i := 5) (own := [("part", 6)]) (g := gName 6) rfl sc_parts_counted.nd rfl rfl (sw_true rfl rfl rfl (by decide +kernel)) (pi_XK (K := K) rfl (pv 3))
      (blkOk_by (own := [("part", 6)]) (N := N_parts_counted) (sc := defScope s_parts_counted) (by decide +kernel)) (fun _ _ _ _ _ => pg_name (i := 6) sc_parts_counted.nd rfl (Or.inl rfl))
      (fun _ _ _ _ _ => pts_nil) (fun _ _ _ _ _ => (pe_cal C hr (by rfl) (pa_cons (pv 6) (pa_cons (pe_op op_sub (pv 1) pe_int) pa_nil)))))
    (pss_one (ps_ret (pe_ifExp (pt_cmpR (op_inSK (K := K) rfl) pe_int (pv 5) (by rfl)) pe_int (pe_op (op_addXK (K := K) rfl) pe_int (pe_callB (cr_sumK (K := K) rfl rfl) (by rfl) T.m_sum (by decide +kernel) (pa_cons (pv 5) pa_nil)))))))))))))), fun ds d hR => by
    obtain ⟨n, x, rfl, hn, hw, rfl⟩ := hR
    walk_at "d"
    refine ⟨fun h => ?_, fun h => ?_⟩
    · obtain ⟨a, b, rfl, hnm⟩ := nu_inv h
      walk_at "d"
      refine ⟨_, ⟨a, b, rfl, hnm, rfl⟩, ?_⟩
      walk_at "d"
      rw [cnt_nu hnm]
      rfl
    · match x, h with
      | .none, h | .bool _, h | .str _, h | .list _, h | .dict _, h => walk_at "db"; rw [cnt_oth h fun _ _ => (by intro z; cases z)]
      | .tuple [], h =>
        walk_at "db"
        refine ⟨_, r2_eqE (Nat.le_trans (Nat.min_le_left _ _) dep_nil), ?_⟩
        rw [eqv_nil0]
        walk_at "db"
        rw [cnt_oth h fun _ _ => (by intro z; cases z)]
      | .tuple (x0 :: rest), h =>
        walk_at "db"
        refine ⟨_, r2_eqE (Nat.le_trans (Nat.min_le_right _ _) dep_nil), ?_⟩
        rw [eqv_nil]
        walk_at "db"
        match x0 with
        | .none | .bool _ | .int _ | .list _ | .tuple _ | .dict _ => walk_at "db"; rw [cnt_oth h fun _ _ => (by intro z; cases z)]
        | .str nm =>
        have hlen : rest.length ≤ 16000 ∧ ∀ d ∈ rest, Wd d := by
          cases hw with
          | tup a b => exact ⟨by rw [List.length_cons] at a; omega, fun d hd => b d (List.mem_cons_of_mem _ hd)⟩
          | oth a => cases a
        walk_at "db"
        refine ⟨hlen.1, ?_⟩
        rw [cnt_F]
        walk_at "d"
        refine ⟨fun hs => ?_, fun hs => ?_⟩
        · walk_at "d"
          refine ⟨_, r2_eqE (Nat.le_trans (Nat.min_le_right _ _) dep_lnil), ?_⟩
          rw [eqv_lnil]
          walk_at "d"
          rw [of_decide_eq_true hs]
          rfl
        have hs := of_decide_eq_false hs
        walk_at "d"
        by_cases h1 : nm = "load"
        · subst h1
          rw [lk_load]
          walk_at "db"
          rw [cntF_load]
          match rest with
          | [] => walk_at "db"; rfl
          | x :: y :: r =>
            rw [len1_no]
            walk_at "db"
            rfl
          | [x] =>
            walk_at "db"
            refine ⟨_, _, .int 8, rfl, lk_load, fun _ => .int _, ?_⟩
            walk_at "d"
            exact ⟨_, ⟨_, _, _, rfl, rfl⟩, by walk_at "d"; rfl⟩
        by_cases h2 : nm = "worth"
        · subst h2
          rw [lk_worth]
          walk_at "db"
          rw [cntF_worth]
          match rest with
          | [] => walk_at "db"; rfl
          | x :: y :: r =>
            rw [len1_no]
            walk_at "db"
            rfl
          | [x] =>
            walk_at "db"
            refine ⟨_, _, .int 12, rfl, lk_worth, fun _ => .int _, ?_⟩
            walk_at "d"
            exact ⟨_, ⟨_, _, _, rfl, rfl⟩, by walk_at "d"; rfl⟩
        rw [lk_none h1 h2]
        walk_at "db"
        refine ⟨.bool (inSg nm), r2_inT rfl rfl, ?_⟩
        walk_at "d"
        refine ⟨.bool (inDb nm), r2_inT rfl rfl, ?_⟩
        walk_at "d"
        have hb : Bd 8 (if inDb nm = true then 1 else 0) := by split <;> exact bd8
        refine ⟨_, r2_intC (mulOk (bd8 (n := 8)) hb), ?_⟩
        walk_at "d"
        have hW : ∀ W : Int, (if inSg nm = true then 1 else 0) + 2 * (if inDb nm = true then 1 else 0) = W → W = b2n (inSg nm) + 2 * b2n (inDb nm) := fun W e => e.symm
        generalize hWe : (if inSg nm = true then 1 else 0) + 2 * (if inDb nm = true then (1 : Int) else 0) = W
        have hW := hW W hWe
        rw [cntF_oth hs h1 h2, ← hW]
        refine ⟨fun q => ?_, fun q => ?_⟩
        · walk_at "db"
          rw [if_pos]
          have q := of_decide_eq_true q
          by_cases e : rest = []
          · exact .inr (.inl e)
          · refine .inl fun z => e (List.length_eq_zero_iff.mp ?_)
            omega
        have q := of_decide_eq_false q
        walk_at "db"
        refine ⟨fun q2 => ?_, fun q2 => ?_⟩
        · walk_at "db"
          rw [if_pos]
          simp at q2
          exact .inl q2
        have q2 : (rest.length : Int) = W := by simpa using q2
        walk_at "db"
        refine ⟨fun q3 => ?_, fun q3 => ?_⟩
        · walk_at "db"
          rw [if_pos]
          have q3 := of_decide_eq_true q3
          refine .inr (.inr (decide_eq_true ?_))
          omega
        have q3 := of_decide_eq_false q3
        walk_at "db"
        match n, q3, hn with
        | 0, q3, _ => exact absurd rfl q3
        | k + 1, q3, hn =>
        rw [show recOf (k + 1) = cnt k from rfl]
        have hne : rest ≠ [] := fun e => by
          subst e
          exact q q2.symm
        rw [if_neg (by
          rintro (z | z | z)
          · exact z q2
          · exact hne z
          · exact absurd (of_decide_eq_true z) (Nat.succ_ne_zero _))]
        refine we_lc_map (tg := [6]) (fun d => .int (cnt k d)) (by decide) (wi_X ?_)
        walk_at "d"
        refine ⟨rest, .inl rfl, Nat.le_trans hlen.1 (by decide), fun d hd => ?_, ?_⟩
        · refine wgc_name ?_
          walk_at "d"
          refine ⟨_, ⟨k, d, ?_, Nat.lt_of_succ_lt_succ hn, hlen.2 d hd, rfl⟩, rfl, rfl⟩
          rw [show ((k + 1 : Nat) : Int) - 1 = k by omega]
        walk_at "d"
        rw [show rest.map (fun d => PyData.int (cnt k d)) = (rest.map (cnt k)).map .int by rw [List.map_map]; rfl]
        generalize rest.map (cnt k) = cs
        refine ⟨.bool (cs.any (· == 0)), inL_ints, ?_⟩
        walk_at "d"
        refine ⟨fun q4 => ?_, fun q4 => ?_⟩
        · walk_at "d"
          rw [if_pos q4]
        · walk_at "d"
          refine ⟨_, rc_sum, ?_⟩
          walk_at "d"
          rw [if_neg (by rw [q4]; exact Bool.false_ne_true)]⟩
end K77

set_option Elab.async false
set_option linter.all false
set_option maxRecDepth 100000
set_option maxHeartbeats 4000000
/-! formulas as trees, and their values -/
namespace K77
open PySem PySem.Spec PyProof.Rows L2 DS
inductive Ex where
  | num (a b : Int)
  | size
  | load (i : Int)
  | worth (i : Int)
  | one (w : Str) (e : Ex)
  | two (w : Str) (e f : Ex)
def Ex.toD : Ex → PyData
  | .num a b => numD a b
  | .size => .tuple [.str "size"]
  | .load i => .tuple [.str "load", .int i]
  | .worth i => .tuple [.str "worth", .int i]
  | .one w e => .tuple [.str w, e.toD]
  | .two w e f => .tuple [.str w, e.toD, f.toD]
def w1 : List Str := ["negate", "bare", "floor", "ceil", "not"]
def w2 : List Str := ["plus", "minus", "times", "over", "lesser", "greater", "same", "both", "either"]
def Ex.good : Ex → Prop
  | .num a b => Ns a b
  | .size => True
  | .load i => 0 ≤ i ∧ i ≤ 7
  | .worth i => 0 ≤ i ∧ i ≤ 11
  | .one w e => w ∈ w1 ∧ e.good
  | .two w e f => w ∈ w2 ∧ e.good ∧ f.good
def Ex.dep : Ex → Nat
  | .one _ e => e.dep + 1
  | .two _ e f => max e.dep f.dep + 1
  | _ => 0
structure Env where
  px : Int
  st : List (Int × Int)
  wo : List (Int × Int)
structure Env.good (c : Env) : Prop where
  lo : 1 ≤ c.px
  hi : c.px ≤ 200
  sl : c.st.length = 8
  wl : c.wo.length ≤ 12
  sn : ∀ p ∈ c.st, Nm p.1 p.2
  wn : ∀ p ∈ c.wo, Nm p.1 p.2
noncomputable def smO (p : Int × Int) : Option (Int × Int) := if smB p.1 p.2 = true then some p else none
noncomputable def slotO (l : List (Int × Int)) (i : Int) : Option (Int × Int) := (l[i.toNat]?).bind smO
noncomputable def Ex.val (c : Env) : Ex → Option (Int × Int)
  | .num a b => some (a, b)
  | .size => some (c.px, 1)
  | .load i => slotO c.st i
  | .worth i => slotO c.wo i
  | .one w e => (e.val c).bind fun p => smO (f1 w p.1 p.2)
  | .two w e f => (e.val c).bind fun p => (f.val c).bind fun q => if w = "over" ∧ q.1 = 0 then none else smO (f2 w p.1 p.2 q.1 q.2)
def ansD : Option (Int × Int) → PyData
  | none => .none
  | some p => pD p
theorem smO_eq {p q : Int × Int} (h : smO p = some q) : q = p ∧ smB p.1 p.2 = true := by
  unfold smO at h
  split at h
  · rename_i z; cases h; exact ⟨rfl, z⟩
  · cases h
theorem nm_ite {p : Prop} [Decidable p] : Nm (if p then 1 else 0) 1 := nm_one _
theorem f1_nm {w : Str} {a b : Int} (h : Nm a b) : Nm (f1 w a b).1 (f1 w a b).2 := by
  unfold f1
  split
  · exact nm_neg h
  split
  · exact nm_abs h
  split
  · exact nm_one _
  split
  · exact nm_one _
  · exact nm_one _
theorem f2_nm {w : Str} {a b c e : Int} (h : Nm a b) (h2 : Nm c e) (h3 : ¬ (w = "over" ∧ c = 0)) : Nm (f2 w a b c e).1 (f2 w a b c e).2 := by
  have hb : b ≠ 0 := by have := h.pos; omega
  have he : e ≠ 0 := by have := h2.pos; omega
  unfold f2
  split
  · exact red_nm (Int.mul_ne_zero hb he)
  split
  · exact red_nm (Int.mul_ne_zero hb he)
  split
  · exact red_nm (Int.mul_ne_zero hb he)
  split
  · rename_i q
    exact red_nm (Int.mul_ne_zero hb fun z => h3 ⟨q, z⟩)
  all_goals repeat (first | exact nm_one _ | split)
theorem slotO_ns {l : List (Int × Int)} {i : Int} {p : Int × Int} (hl : ∀ p ∈ l, Nm p.1 p.2) (h : slotO l i = some p) : Ns p.1 p.2 := by
  unfold slotO at h
  cases e : l[i.toNat]? with
  | none => rw [e] at h; cases h
  | some q =>
    rw [e] at h
    obtain ⟨rfl, z⟩ := smO_eq h
    exact ⟨hl _ (List.mem_of_getElem? e), z⟩
theorem smI_of {n : Nat} {i : Int} (h : Bd n i) (l : n ≤ 199 := by decide) : smI i = true := by
  unfold smI
  rw [decide_eq_true_eq, g60_eq]
  have h1 := h.mono l
  unfold Bd at h1
  have : (2 : Nat) ^ 199 < 10 ^ 60 := by decide +kernel
  omega
theorem val_ns {c : Env} (hc : c.good) : ∀ {e : Ex} {p : Int × Int}, e.good → e.val c = some p → Ns p.1 p.2
  | .num a b, p, g, h => by cases h; exact g
  | .size, p, g, h => by
    cases h
    have h1 := hc.lo
    have h2 := hc.hi
    refine ⟨nm_one _, ?_⟩
    show (smI c.px && smI 1) = true
    rw [smI_of (n := 8) (by unfold Bd; omega), smI_of (n := 8) bd8]
    rfl
  | .load i, p, g, h => slotO_ns hc.sn h
  | .worth i, p, g, h => slotO_ns hc.wn h
  | .one w e, p, g, h => by
    cases q : e.val c with
    | none => simp [Ex.val, q] at h
    | some r =>
      have h : smO (f1 w r.1 r.2) = some p := by simpa [Ex.val, q] using h
      obtain ⟨rfl, z⟩ := smO_eq h
      exact ⟨f1_nm (val_ns hc g.2 q).nm, z⟩
  | .two w e f, p, g, h => by
    cases q : e.val c with
    | none => simp [Ex.val, q] at h
    | some r =>
      cases q2 : f.val c with
      | none => simp [Ex.val, q, q2] at h
      | some r2 =>
        have h : (if w = "over" ∧ r2.1 = 0 then none else smO (f2 w r.1 r.2 r2.1 r2.2)) = some p := by simpa [Ex.val, q, q2] using h
        split at h
        · cases h
        rename_i hz
        obtain ⟨rfl, z⟩ := smO_eq h
        exact ⟨f2_nm (val_ns hc g.2.1 q).nm (val_ns hc g.2.2 q2).nm hz, z⟩
/-! ### what is counted is a tree -/
theorem inSg_iff {z : Str} : inSg z = true ↔ z ∈ w1 := by
  simp [inSg, sgl, w1, PyData.eqv]
  constructor <;> (rintro (h | h | h | h | h) <;> simp [h])
theorem inDb_iff {z : Str} : inDb z = true ↔ z ∈ w2 := by
  simp [inDb, dbl, w2, PyData.eqv]
  constructor <;> (rintro (h | h | h | h | h | h | h | h | h) <;> simp [h])
theorem w12 {z : Str} (h : z ∈ w1) : z ∉ w2 := by
  simp [w1] at h
  rcases h with h | h | h | h | h <;> subst h <;> decide
theorem b2n_ne {b : Bool} (h : b2n b ≠ 0) : b = true := by
  cases b
  · exact absurd rfl h
  · rfl
theorem one1_of {rest : List PyData} {hi : Int} (h : one1 rest hi = true) : ∃ i : Int, rest = [.int i] ∧ 0 ≤ i ∧ i ≤ hi := by
  match rest, h with
  | [.int i], h =>
    have h : (decide (0 ≤ i) && decide (i ≤ hi)) = true := h
    simp at h
    exact ⟨i, rfl, h.1, h.2⟩
  | [], h | _ :: _ :: _, h => cases h
  | [.none], h | [.bool _], h | [.str _], h | [.list _], h | [.tuple _], h | [.dict _], h => cases h
theorem cntF_of {rec : PyData → Int} {z : Bool} {nm : Str} {rest : List PyData} (h : cntF rec z nm rest ≠ 0) :
    (nm = "size" ∧ rest = []) ∨ (nm = "load" ∧ ∃ i : Int, rest = [.int i] ∧ 0 ≤ i ∧ i ≤ 7) ∨ (nm = "worth" ∧ ∃ i : Int, rest = [.int i] ∧ 0 ≤ i ∧ i ≤ 11) ∨
      z = false ∧ ((nm ∈ w1 ∧ ∃ x, rest = [x] ∧ rec x ≠ 0) ∨ (nm ∈ w2 ∧ ∃ x y, rest = [x, y] ∧ rec x ≠ 0 ∧ rec y ≠ 0)) := by
  unfold cntF at h
  split at h
  · rename_i e
    refine .inl ⟨e, ?_⟩
    have := b2n_ne h
    cases rest
    · rfl
    · cases this
  split at h
  · rename_i e
    exact .inr (.inl ⟨e, one1_of (b2n_ne h)⟩)
  split at h
  · rename_i e
    exact .inr (.inr (.inl ⟨e, one1_of (b2n_ne h)⟩))
  split at h
  · exact absurd rfl h
  rename_i h1
  split at h
  · exact absurd rfl h
  rename_i h2
  have hl : (rest.length : Int) = b2n (inSg nm) + 2 * b2n (inDb nm) := Classical.byContradiction fun q => h1 (.inl q)
  have hn : rest ≠ [] := fun q => h1 (.inr (.inl q))
  have hz : z = false := by
    cases z
    · rfl
    · exact absurd (.inr (.inr rfl)) h1
  refine .inr (.inr (.inr ⟨hz, ?_⟩))
  have hne : ∀ x ∈ rest, rec x ≠ 0 := fun x hx q => h2 (List.any_eq_true.mpr ⟨rec x, List.mem_map.mpr ⟨x, hx, rfl⟩, by rw [q]; rfl⟩)
  by_cases a : nm ∈ w1
  · have e1 := inSg_iff.mpr a
    have e2 : inDb nm = false := by
      cases q : inDb nm
      · rfl
      · exact absurd (inDb_iff.mp q) (w12 a)
    rw [e1, e2] at hl
    have hl : (rest.length : Int) = 1 := hl
    match rest, hl, hne with
    | [x], _, hne => exact .inl ⟨a, x, rfl, hne x (by simp)⟩
    | [], q, _ => cases q
    | _ :: _ :: _, q, _ => simp only [List.length_cons] at q; omega
  · have e1 : inSg nm = false := by
      cases q : inSg nm
      · rfl
      · exact absurd (inSg_iff.mp q) a
    rw [e1] at hl
    cases e2 : inDb nm with
    | false =>
      rw [e2] at hl
      have hl : (rest.length : Int) = 0 := hl
      exact absurd (List.length_eq_zero_iff.mp (by omega)) hn
    | true =>
      rw [e2] at hl
      have hl : (rest.length : Int) = 2 := hl
      match rest, hl, hne with
      | [x, y], _, hne => exact .inr ⟨inDb_iff.mp e2, x, y, rfl, hne x (by simp), hne y (by simp)⟩
      | [], q, _ => cases q
      | [_], q, _ => cases q
      | _ :: _ :: _ :: _, q, _ => simp only [List.length_cons] at q; omega
theorem cntG_of {rec : PyData → Int} {z : Bool} {x : PyData} (h : cntG rec z x ≠ 0) : (∃ a b, x = numD a b ∧ Ns a b) ∨ ∃ nm rest, x = .tuple (.str nm :: rest) ∧ cntF rec z nm rest ≠ 0 := by
  by_cases hn : isNu x = true
  · obtain ⟨a, b, rfl, hm⟩ := nu_inv hn
    rw [cntG_nu hm] at h
    exact .inl ⟨a, b, rfl, hm, b2n_ne h⟩
  · unfold cntG at h
    rw [if_neg hn] at h
    split at h
    · exact .inr ⟨_, _, rfl, h⟩
    · exact absurd rfl h
theorem ex_of : ∀ {n : Nat} {x : PyData}, cnt n x ≠ 0 → ∃ e : Ex, x = e.toD ∧ e.good ∧ e.dep ≤ n := by
  intro n
  induction n with
  | zero =>
    intro x h
    rcases cntG_of h with ⟨a, b, rfl, hs⟩ | ⟨nm, rest, rfl, h2⟩
    · exact ⟨.num a b, rfl, hs, Nat.le_refl _⟩
    rcases cntF_of h2 with ⟨rfl, rfl⟩ | ⟨rfl, i, rfl, h1⟩ | ⟨rfl, i, rfl, h1⟩ | ⟨h1, _⟩
    · exact ⟨.size, rfl, trivial, Nat.le_refl _⟩
    · exact ⟨.load i, rfl, h1, Nat.le_refl _⟩
    · exact ⟨.worth i, rfl, h1, Nat.le_refl _⟩
    · cases h1
  | succ n ih =>
    intro x h
    rcases cntG_of h with ⟨a, b, rfl, hs⟩ | ⟨nm, rest, rfl, h2⟩
    · exact ⟨.num a b, rfl, hs, Nat.zero_le _⟩
    rcases cntF_of h2 with ⟨rfl, rfl⟩ | ⟨rfl, i, rfl, h1⟩ | ⟨rfl, i, rfl, h1⟩ | ⟨_, ⟨hw, y, rfl, hy⟩ | ⟨hw, y, z, rfl, hy, hz⟩⟩
    · exact ⟨.size, rfl, trivial, Nat.zero_le _⟩
    · exact ⟨.load i, rfl, h1, Nat.zero_le _⟩
    · exact ⟨.worth i, rfl, h1, Nat.zero_le _⟩
    · obtain ⟨e, rfl, g, d⟩ := ih hy
      exact ⟨.one nm e, rfl, ⟨hw, g⟩, Nat.succ_le_succ d⟩
    · obtain ⟨e, rfl, g, d⟩ := ih hy
      obtain ⟨f, rfl, g2, d2⟩ := ih hz
      exact ⟨.two nm e f, rfl, ⟨hw, g, g2⟩, Nat.succ_le_succ (Nat.max_le.mpr ⟨d, d2⟩)⟩
end K77

set_option Elab.async false
set_option linter.all false
set_option maxRecDepth 100000
set_option pp.deepTerms false
set_option pp.deepTerms.threshold 6
set_option maxHeartbeats 4000000
namespace K77
open PySem PySem.Spec PyProof.Rows L2 DS
-- the steps that need no thought: one, as many as there are
local macro_rules | `(tactic| walk_at "d1") => `(tactic| with_reducible first
  | refine ws_seq ?_ | refine ws_next ?_ | refine ws_retN ?_ | refine ws_ret ?_ | refine ws_if ?_ | refine ws_par ?_ | refine ws_setK ?_ | refine ws_newD ?_ | refine wp_cons ?_ | refine wp_nil ?_ | refine ws_set ?_ | refine ws_star ?_ | refine ws_setO rfl ?_ | apply ws_asg
  | refine we_var rfl ?_ | refine we_int ?_ | refine we_bl ?_ | refine we_str ?_ | refine we_non ?_ | refine we_kd ?_ | refine we_ixO rfl ?_
  | refine we_isi isg_int ?_ | refine we_isi isg_bool ?_ | refine we_isi isg_str ?_ | refine we_isi isg_list ?_ | refine we_isi isg_tuple ?_ | refine we_isi2 isg_list isg_tuple ?_ | refine we_isi2 isg_int isg_tuple ?_
  | refine we_inK ?_ | refine we_ixK ?_ | refine we_op ?_ | refine we_un ?_ | refine we_cb ?_ | refine we_tup ?_ | refine we_lst ?_ | refine we_andV ?_ | refine we_orV ?_ | refine we_notV ?_ | refine we_if ?_ | refine we_chain ?_ | refine we_sl ?_ | refine we_call ?_
  | refine wa_nil ?_ | refine wa_cons ?_ | refine wo_none ?_ | refine wo_some ?_ | refine wt_test ?_ | refine wt_B ?_ | refine wt_and ?_ | refine wt_or ?_ | refine wt_not ?_
  | refine wg_tup rfl ?_ | refine wgs_cons ?_ | refine wgs_nil ?_ | refine wg_name ?_
  | refine ⟨_, r2_int, ?_⟩ | refine ⟨_, r2_bl, ?_⟩ | refine ⟨_, r2_addI, ?_⟩ | refine ⟨_, r2_eqI, ?_⟩ | refine ⟨_, r2_neI, ?_⟩ | refine ⟨_, r2_eqS, ?_⟩ | refine ⟨_, r2_neS, ?_⟩ | refine ⟨_, r2_isN, ?_⟩ | refine ⟨_, r1_neg, ?_⟩
  | refine ⟨_, rc_absI, ?_⟩ | refine ⟨_, rc_intI, ?_⟩ | refine ⟨_, rc_intB, ?_⟩ | refine ⟨_, rc_max, ?_⟩ | refine ⟨_, rc_min, ?_⟩ | refine ⟨_, rc_lenL, ?_⟩ | refine ⟨_, rc_lenT, ?_⟩ | refine ⟨_, rc_listL, ?_⟩ | refine ⟨_, rc_listT, ?_⟩ | refine ⟨_, rc_tupL, ?_⟩ | refine ⟨_, rc_tupT, ?_⟩
  | refine ⟨_, rfl, ?_⟩ | refine ⟨_, _, rfl, ?_⟩ | refine ⟨_, ⟨_, rfl, rfl⟩, ?_⟩ | refine ⟨_, ⟨_, _, rfl, rfl⟩, ?_⟩)
local macro_rules | `(tactic| walk_at "d") => `(tactic| repeat (first | walk_at "d1" | refine ⟨lenOk rfl, ?_⟩ | refine ⟨0, _, _, _, rfl, rfl, rfl, ?_⟩ | refine ⟨_, r2_ixXL rfl, ?_⟩ | refine ⟨_, r2_ixXT rfl, ?_⟩ | refine ⟨_, r2_ixXT at0, ?_⟩ | refine ⟨_, r2_ixXT at1, ?_⟩ | refine ⟨_, r2_ixXL at0, ?_⟩ | refine ⟨_, r2_ixXL at1, ?_⟩))
-- a condition whose truth comes out by computation
local macro_rules | `(tactic| walk_at "b1") => `(tactic| first
  | refine ⟨fun _ => ?_, fun h => Bool.noConfusion (show true = false from h)⟩
  | refine ⟨fun h => Bool.noConfusion (show false = true from h), fun _ => ?_⟩)
local macro_rules | `(tactic| walk_at "db") => `(tactic| repeat (first | walk_at "d1" | refine ⟨lenOk rfl, ?_⟩ | refine ⟨0, _, _, _, rfl, rfl, rfl, ?_⟩ | refine ⟨_, r2_ixXL rfl, ?_⟩ | refine ⟨_, r2_ixXT rfl, ?_⟩ | refine ⟨_, r2_ixXT at0, ?_⟩ | refine ⟨_, r2_ixXT at1, ?_⟩ | refine ⟨_, r2_ixXL at0, ?_⟩ | refine ⟨_, r2_ixXL at1, ?_⟩ | walk_at "b1"))
-- how many arguments there are
local macro_rules | `(tactic| walk_at "len") => `(tactic| (intro _ _ h; first
  | (obtain ⟨_, e, _⟩ := h; subst e; rfl) | (obtain ⟨_, _, e, _⟩ := h; subst e; rfl) | (obtain ⟨_, _, _, e, _⟩ := h; subst e; rfl) | (obtain ⟨_, _, _, _, e, _⟩ := h; subst e; rfl) | (obtain ⟨_, _, _, _, _, e, _⟩ := h; subst e; rfl)))
local macro_rules | `(tactic| walk_at "leno") => `(tactic| (intro _ _ h; first
  | (obtain ⟨⟨_, e, _⟩, _⟩ := h; subst e; rfl) | (obtain ⟨⟨_, _, e, _⟩, _⟩ := h; subst e; rfl) | (obtain ⟨e, _⟩ := h; subst e; rfl) | (obtain ⟨_, e, _⟩ := h; subst e; rfl) | (obtain ⟨_, _, e, _⟩ := h; subst e; rfl) | (obtain ⟨_, _, _, e, _⟩ := h; subst e; rfl) | (obtain ⟨_, _, _, _, e, _⟩ := h; subst e; rfl)))

variable {P : Program} {w : World} {K : PySem.W.Frag} {mg : Str → Option Value} {base : Heap}
/-! ### is_formula, need_formula -/
noncomputable def isF (x : PyData) : Bool := decide (1 ≤ cnt 40 x) && decide (cnt 40 x ≤ 200)
abbrev R_is_formula (ds : List PyData) (d : PyData) : Prop := ∃ x, ds = [x] ∧ Wd x ∧ d = .bool (isF x)
--%%SPECIAL {('rec', 'is_formula', 'parts_counted'): '(c_parts_counted (P := P) (w := w) (K := K) (mg := mg) (base := base) T 41)'}
theorem c_is_formula (T : Top K w mg) : Cal P w K mg base "is_formula" 48 p_is_formula (spP K R_is_formula) :=
  T.h_is_formula.call (fun _ _ _ _ _ _ us hl => match us, hl with | [_], _ => rfl) fun f fd F m => fn_pure F sc_is_formula (by walk_at "len") fun cdv A outer s H E hr => ⟨_, (pss_one (ps_ret (pe_chain op_le op_le pe_int (pe_cal (c_parts_counted (P := P) (w := w) (K := K) (mg := mg) (base := base) T 41) (hr.mono (by omega)) (by rfl) (pa_cons (pv 0) (pa_cons (pe_KK (K := K) rfl T.k_MOST_WITHIN (by rfl)) pa_nil))) (pe_KK (K := K) rfl T.k_MOST_PARTS (by rfl))))), fun ds d hR => by
    obtain ⟨x, rfl, hw, rfl⟩ := hR
    walk_at "d"
    refine ⟨_, ⟨40, x, rfl, by decide, hw, rfl⟩, _, r2_bl, ?_⟩
    generalize hc : cnt 40 x = c
    have e : isF x = (decide (1 ≤ c) && decide (c ≤ 200)) := by unfold isF; rw [hc]
    rw [e]
    refine ⟨fun h => ?_, fun h => ?_⟩
    · walk_at "d"
      rw [h]
      rfl
    · rw [h]
      rfl⟩
abbrev R_need (ds : List PyData) (d : PyData) : Prop := ∃ x, ds = [x] ∧ Wd x ∧ isF x = true ∧ d = .none
theorem c_need_formula (T : Top K w mg) : Cal P w K mg base "need_formula" 49 p_need_formula (spP K R_need) :=
  T.h_need_formula.call (fun _ _ _ _ _ _ us hl => match us, hl with | [_], _ => rfl) fun f fd F m => fn_pure F sc_need_formula (by walk_at "len") fun cdv A outer s H E hr => ⟨_, (pss_one (ps_if (pt_not (pt_val (pe_cal (c_is_formula (P := P) (w := w) (K := K) (mg := mg) (base := base) T) (hr.mono (by omega)) (by rfl) (pa_cons (pv 0) pa_nil)))) (pss_one ps_never) pss_nil)), fun ds d hR => by
    obtain ⟨x, rfl, hw, hf, rfl⟩ := hR
    walk_at "d"
    refine ⟨_, ⟨x, rfl, hw, rfl⟩, ?_⟩
    rw [hf]
    walk_at "db"
    rfl⟩
/-! ### inner_parts -/
def Ex.parts : Ex → List Ex
  | .one _ e => [e]
  | .two _ e f => [e, f]
  | _ => []
abbrev R_inner (ds : List PyData) (d : PyData) : Prop := ∃ e : Ex, ds = [e.toD] ∧ e.good ∧ d = .list (e.parts.map Ex.toD)
theorem w1_no {z : Str} (h : z ∈ w1) : z ≠ "size" ∧ z ≠ "load" ∧ z ≠ "worth" ∧ z ≠ "over" := by
  simp [w1] at h
  rcases h with h | h | h | h | h <;> subst h <;> decide
theorem w2_no {z : Str} (h : z ∈ w2) : z ≠ "size" ∧ z ≠ "load" ∧ z ≠ "worth" := by
  simp [w2] at h
  rcases h with h | h | h | h | h | h | h | h | h <;> subst h <;> decide
theorem shortT {x : PyData} {r : List PyData} : RSD K (rSlX K) (.tuple (x :: r)) (some 1) none (.tuple r) := rs_tail
theorem toD_num {a b : Int} : (Ex.num a b).toD = numD a b := rfl
theorem toD_size : Ex.size.toD = .tuple [.str "size"] := rfl
theorem toD_load {i : Int} : (Ex.load i).toD = .tuple [.str "load", .int i] := rfl
theorem toD_worth {i : Int} : (Ex.worth i).toD = .tuple [.str "worth", .int i] := rfl
theorem toD_one {w : Str} {e : Ex} : (Ex.one w e).toD = .tuple [.str w, e.toD] := rfl
theorem toD_two {w : Str} {e f : Ex} : (Ex.two w e f).toD = .tuple [.str w, e.toD, f.toD] := rfl
theorem not_nu_size : isNu (.tuple [.str "size"]) = false := rfl
theorem dec_ne {x y : Str} (h : x ≠ y) : decide (x = y) = false := decide_eq_false h
theorem c_inner_parts (T : Top K w mg) : Cal P w K mg base "inner_parts" 4 p_inner_parts (spP K R_inner) :=
  T.h_inner_parts.call (fun _ _ _ _ _ _ us hl => match us, hl with | [_], _ => rfl) fun f fd F m => fn_pure F sc_inner_parts (by walk_at "len") fun cdv A outer s H E hr => ⟨_, (pss_cons (ps_if (PW.pt (pw_or (pt_val (pe_cal (c_is_number (P := P) (w := w) (K := K) (mg := mg) (base := base) T) (hr.mono (by omega)) (by rfl) (pa_cons (pv 0) pa_nil))) (pw_or (pt_cmpR (op_eqXK (K := K) rfl hr.units) (pe_ix (ix_XK (K := K) rfl) (pv 0) pe_int (fun _ _ => rfl)) pe_str (nomark _)) (pw_or1 (pt_cmpR (op_inKK (K := K) (w := w) (look := lookKEPT) rfl rfl) (pe_ix (ix_XK (K := K) rfl) (pv 0) pe_int (fun _ _ => rfl)) (pe_raw T.d_KEPT (by rfl)) (by rfl)))))) (pss_one (ps_ret (pe_lst pa_nil))) pss_nil)
    (pss_one (ps_ret (pe_callTy (call_listXK (K := K) rfl) (by rfl) T.m_list (by decide +kernel) (pa_cons (pe_slice (sl_XK (K := K) rfl) (pv 0) (po_some pe_int) po_none) pa_nil))))), fun ds d hR => by
    obtain ⟨e, rfl, hg, rfl⟩ := hR
    cases e with
    | num a b =>
      rw [toD_num]
      walk_at "d"
      rw [nu_num (Ns.nm hg)]
      walk_at "db"
      rfl
    | size =>
      rw [toD_size]
      walk_at "d"
      rw [not_nu]
      walk_at "db"
      rfl
    | load i =>
      rw [toD_load]
      walk_at "d"
      rw [not_nu]
      walk_at "db"
      rfl
    | worth i =>
      rw [toD_worth]
      walk_at "d"
      rw [not_nu]
      walk_at "db"
      rfl
    | one w e =>
      obtain ⟨h1, h2, h3, _⟩ := w1_no hg.1
      rw [toD_one]
      walk_at "d"
      rw [not_nu]
      walk_at "db"
      rw [dec_ne h1]
      walk_at "db"
      rw [lk_none h2 h3]
      walk_at "db"
      refine ⟨_, rs_tail, ?_⟩
      walk_at "d"
      rfl
    | two w e f =>
      obtain ⟨h1, h2, h3⟩ := w2_no hg.1
      rw [toD_two]
      walk_at "d"
      rw [not_nu]
      walk_at "db"
      rw [dec_ne h1]
      walk_at "db"
      rw [lk_none h2 h3]
      walk_at "db"
      refine ⟨_, rs_tail, ?_⟩
      walk_at "d"
      rfl⟩
/-! ### asked_number -/
def seqD (b : Bool) (l : List (Int × Int)) : PyData := match b with
  | true => .list (l.map pD)
  | false => .tuple (l.map pD)
abbrev R_asked (ds : List PyData) (d : PyData) : Prop := ∃ (e : Ex) (c : Env) (bs bw : Bool), ds = [e.toD, .int c.px, seqD bs c.st, seqD bw c.wo] ∧ e.good ∧ e.parts = [] ∧ c.good ∧ d = ansD (e.val c)
theorem slot_yes {l : List (Int × Int)} {i : Int} (h0 : 0 ≤ i) (h : i < (l.length : Int)) : ∃ p, p ∈ l ∧ atI (l.map pD) i = some (pD p) ∧ slotO l i = smO p := by
  obtain ⟨j, rfl⟩ : ∃ j : Nat, i = j := ⟨i.toNat, by omega⟩
  have hi : j < l.length := by omega
  refine ⟨l[j], List.getElem_mem hi, ?_, ?_⟩
  · refine DS.atI_nat ?_
    rw [List.getElem?_map, List.getElem?_eq_getElem hi]
    rfl
  · unfold slotO
    rw [Int.toNat_natCast, List.getElem?_eq_getElem hi]
    rfl
theorem slot_no {l : List (Int × Int)} {i : Int} (h0 : 0 ≤ i) (h : ¬ i < (l.length : Int)) : slotO l i = none := by
  unfold slotO
  rw [List.getElem?_eq_none (by omega)]
  rfl
theorem small_ans {p : Int × Int} : (if smB p.1 p.2 = true then numD p.1 p.2 else .none) = ansD (smO p) := by
  unfold smO
  split <;> rfl
theorem len_map {l : List (Int × Int)} : ((l.map pD).length : Int) = (l.length : Int) := by rw [List.length_map]
theorem seqT {l : List (Int × Int)} : seqD true l = .list (l.map pD) := rfl
theorem seqF {l : List (Int × Int)} : seqD false l = .tuple (l.map pD) := rfl
theorem val_load {c : Env} {i : Int} : (Ex.load i).val c = slotO c.st i := rfl
theorem val_worth {c : Env} {i : Int} : (Ex.worth i).val c = slotO c.wo i := rfl
theorem c_asked_number (T : Top K w mg) : Cal P w K mg base "asked_number" 6 p_asked_number (spP K R_asked) :=
  T.h_asked_number.call (fun _ _ _ _ _ _ us hl => match us, hl with | [_, _, _, _], _ => rfl) fun f fd F m => fn_pure F sc_asked_number (by walk_at "len") fun cdv A outer s H E hr => ⟨_, (pss_cons (ps_if (pt_val (pe_cal (c_is_number (P := P) (w := w) (K := K) (mg := mg) (base := base) T) (hr.mono (by omega)) (by rfl) (pa_cons (pv 0) pa_nil))) (pss_one (ps_ret (pv 0))) pss_nil)
    (pss_cons (ps_if (pt_cmpR (op_eqXK (K := K) rfl hr.units) (pe_ix (ix_XK (K := K) rfl) (pv 0) pe_int (fun _ _ => rfl)) pe_str (nomark _)) (pss_one (ps_ret (pv 1))) pss_nil)
    (pss_cons (ps_set (i := 4) sc_asked_number.nd rfl (.inl rfl) (pe_ifExp (pt_cmpR (op_eqXK (K := K) rfl hr.units) (pe_ix (ix_XK (K := K) rfl) (pv 0) pe_int (fun _ _ => rfl)) pe_str (nomark _)) (pv 2) (pv 3)))
    (pss_one (ps_ret (pe_ifExp (pt_cmpR op_lt (pe_ix (ix_XK (K := K) rfl) (pv 0) pe_int (fun _ _ => rfl)) (pe_callB (call_lenXK (K := K) rfl) (by rfl) T.m_len (by decide +kernel) (pa_cons (pv 4) pa_nil)) (nomark _)) (pe_cal (c_small_of (P := P) (w := w) (K := K) (mg := mg) (base := base) T) (hr.mono (by omega)) (by rfl) (pa_cons (pe_ix (ix_XK (K := K) rfl) (pv 4) (pe_ix (ix_XK (K := K) rfl) (pv 0) pe_int (fun _ _ => rfl)) (fun _ _ => rfl)) pa_nil)) pe_non)))))), fun ds d hR => by
    obtain ⟨e, c, bs, bw, rfl, hg, hp, hc, rfl⟩ := hR
    cases e with
    | one w e => cases hp
    | two w e f => cases hp
    | num a b =>
      rw [toD_num]
      walk_at "d"
      rw [nu_num (Ns.nm hg)]
      walk_at "db"
      rfl
    | size =>
      rw [toD_size]
      walk_at "d"
      rw [not_nu]
      walk_at "db"
      rfl
    | load i =>
      rw [toD_load, val_load]
      walk_at "d"
      rw [not_nu]
      walk_at "db"
      cases bs
      · rw [seqF]
        walk_at "d"
        rw [len_map]
        refine ⟨fun h => ?_, fun h => ?_⟩
        · obtain ⟨p, hp, h1, h2⟩ := slot_yes hg.1 (of_decide_eq_true h)
          rw [h2]
          walk_at "d"
          refine ⟨_, r2_ixXT h1, ?_⟩
          walk_at "d"
          refine ⟨_, ⟨_, _, rfl, hc.sn p hp, rfl⟩, ?_⟩
          exact small_ans
        · rw [slot_no hg.1 (of_decide_eq_false h)]
          walk_at "d"
          rfl
      · rw [seqT]
        walk_at "d"
        rw [len_map]
        refine ⟨fun h => ?_, fun h => ?_⟩
        · obtain ⟨p, hp, h1, h2⟩ := slot_yes hg.1 (of_decide_eq_true h)
          rw [h2]
          walk_at "d"
          refine ⟨_, r2_ixXL h1, ?_⟩
          walk_at "d"
          refine ⟨_, ⟨_, _, rfl, hc.sn p hp, rfl⟩, ?_⟩
          exact small_ans
        · rw [slot_no hg.1 (of_decide_eq_false h)]
          walk_at "d"
          rfl
    | worth i =>
      rw [toD_worth, val_worth]
      walk_at "d"
      rw [not_nu]
      walk_at "db"
      cases bw
      · rw [seqF]
        walk_at "d"
        rw [len_map]
        refine ⟨fun h => ?_, fun h => ?_⟩
        · obtain ⟨p, hp, h1, h2⟩ := slot_yes hg.1 (of_decide_eq_true h)
          rw [h2]
          walk_at "d"
          refine ⟨_, r2_ixXT h1, ?_⟩
          walk_at "d"
          refine ⟨_, ⟨_, _, rfl, hc.wn p hp, rfl⟩, ?_⟩
          exact small_ans
        · rw [slot_no hg.1 (of_decide_eq_false h)]
          walk_at "d"
          rfl
      · rw [seqT]
        walk_at "d"
        rw [len_map]
        refine ⟨fun h => ?_, fun h => ?_⟩
        · obtain ⟨p, hp, h1, h2⟩ := slot_yes hg.1 (of_decide_eq_true h)
          rw [h2]
          walk_at "d"
          refine ⟨_, r2_ixXL h1, ?_⟩
          walk_at "d"
          refine ⟨_, ⟨_, _, rfl, hc.wn p hp, rfl⟩, ?_⟩
          exact small_ans
        · rw [slot_no hg.1 (of_decide_eq_false h)]
          walk_at "d"
          rfl⟩
/-! ### are_numbers -/
abbrev R_are (ds : List PyData) (d : PyData) : Prop := ∃ (b : Bool) (l : List (Int × Int)) (lo hi : Int), ds = [seqD b l, .int lo, .int hi] ∧ (∀ p ∈ l, Nm p.1 p.2) ∧ lo ≤ l.length ∧ l.length ≤ hi ∧ l.length ≤ 100 ∧ d = .bool true
theorem c_are_numbers (T : Top K w mg) : Cal P w K mg base "are_numbers" 5 p_are_numbers (spP K R_are) :=
  T.h_are_numbers.call (fun _ _ _ _ _ _ us hl => match us, hl with | [_, _, _], _ => rfl) fun f fd F m => fn_pure F sc_are_numbers (by walk_at "len") fun cdv A outer s H E hr => ⟨_, (pss_cons (ps_if (PW.pt (pw_or (pt_not (pt_val (pe_callB (call_isiTK (K := K) rfl) (by rfl) T.m_isinstance (by decide +kernel) (pa_cons (pv 0) (pa_cons (pe_tup (pa_cons (pe_ty "list" (by rfl) T.m_list (by decide +kernel)) (pa_cons (pe_ty "tuple" (by rfl) T.m_tuple (by decide +kernel)) pa_nil))) pa_nil))))) (pw_or1 (pt_not (pt_chain op_le op_le (pv 1) (pe_callB (call_lenXK (K := K) rfl) (by rfl) T.m_len (by decide +kernel) (pa_cons (pv 0) pa_nil)) (pv 2)))))) (pss_one (ps_ret pe_bl)) pss_nil)
    (pss_one (ps_ret (pe_callB (cr_allK (K := K) rfl rfl) (by rfl) T.m_all (by decide +kernel) (pa_cons (pe_lc (own := [("number", 3)]) (g := gName 3) rfl sc_are_numbers.nd  (pi_XK (K := K) rfl (pv 0))
      (blkOk_by (own := [("number", 3)]) (N := N_are_numbers) (sc := defScope s_are_numbers) (by decide +kernel)) (fun _ _ _ _ _ => pg_name (i := 3) sc_are_numbers.nd rfl (Or.inl rfl))
      (fun _ _ _ _ _ => pts_nil) (fun _ _ _ _ _ => (pe_cal (c_is_number (P := P) (w := w) (K := K) (mg := mg) (base := base) T) (hr.mono (by omega)) (by rfl) (pa_cons (pv 3) pa_nil)))) pa_nil))))), fun ds d hR => by
    obtain ⟨b, l, lo, hi, rfl, hn, h1, h2, h3, rfl⟩ := hR
    cases b
    all_goals
      first | rw [seqF] | rw [seqT]
      walk_at "db"
      rw [len_map, show decide (lo ≤ (l.length : Int)) = true from decide_eq_true h1]
      walk_at "db"
      rw [show decide ((l.length : Int) ≤ hi) = true from decide_eq_true h2]
      walk_at "db"
      refine we_lc_map (tg := [3]) (fun x => .bool (isNu x)) (by decide) (wi_X ?_)
      walk_at "d"
      refine ⟨l.map pD, by first | exact .inl rfl | exact .inr rfl, by rw [List.length_map]; exact Nat.le_trans h3 (by decide), fun d hd => ?_, ?_⟩
      · refine wgc_name ?_
        walk_at "d"
        exact ⟨rfl, rfl⟩
      walk_at "d"
      rw [show (l.map pD).map (fun x => PyData.bool (isNu x)) = (l.map fun _ => true).map .bool by
        rw [List.map_map, List.map_map]
        refine List.map_congr_left fun p hp => ?_
        show PyData.bool (isNu (numD p.1 p.2)) = _
        rw [nu_num (hn p hp)]
        rfl]
      refine ⟨_, rc_all, ?_⟩
      walk_at "d"
      rw [show (l.map fun _ => true).all id = true from List.all_eq_true.mpr fun x hx => by
        obtain ⟨_, _, rfl⟩ := List.mem_map.mp hx
        rfl]⟩
end K77

set_option Elab.async false
set_option linter.all false
set_option maxRecDepth 100000
set_option pp.deepTerms false
set_option pp.deepTerms.threshold 6
set_option maxHeartbeats 4000000
namespace K77
open PySem PySem.Spec PyProof.Rows L2 DS
-- the steps that need no thought: one, as many as there are
local macro_rules | `(tactic| walk_at "d1") => `(tactic| with_reducible first
  | refine ws_seq ?_ | refine ws_next ?_ | refine ws_retN ?_ | refine ws_ret ?_ | refine ws_if ?_ | refine ws_par ?_ | refine ws_setK ?_ | refine ws_newD ?_ | refine wp_cons ?_ | refine wp_nil ?_ | refine ws_set ?_ | refine ws_star ?_ | refine ws_setO rfl ?_ | apply ws_asg
  | refine we_var rfl ?_ | refine we_int ?_ | refine we_bl ?_ | refine we_str ?_ | refine we_non ?_ | refine we_kd ?_ | refine we_ixO rfl ?_
  | refine we_isi isg_int ?_ | refine we_isi isg_bool ?_ | refine we_isi isg_str ?_ | refine we_isi isg_list ?_ | refine we_isi isg_tuple ?_ | refine we_isi2 isg_list isg_tuple ?_ | refine we_isi2 isg_int isg_tuple ?_
  | refine we_inK ?_ | refine we_ixK ?_ | refine we_op ?_ | refine we_un ?_ | refine we_cb ?_ | refine we_tup ?_ | refine we_lst ?_ | refine we_andV ?_ | refine we_orV ?_ | refine we_notV ?_ | refine we_if ?_ | refine we_chain ?_ | refine we_sl ?_ | refine we_call ?_
  | refine wa_nil ?_ | refine wa_cons ?_ | refine wo_none ?_ | refine wo_some ?_ | refine wt_test ?_ | refine wt_B ?_ | refine wt_and ?_ | refine wt_or ?_ | refine wt_not ?_
  | refine wg_tup rfl ?_ | refine wgs_cons ?_ | refine wgs_nil ?_ | refine wg_name ?_
  | refine ⟨_, r2_int, ?_⟩ | refine ⟨_, r2_bl, ?_⟩ | refine ⟨_, r2_addI, ?_⟩ | refine ⟨_, r2_eqI, ?_⟩ | refine ⟨_, r2_neI, ?_⟩ | refine ⟨_, r2_eqS, ?_⟩ | refine ⟨_, r2_neS, ?_⟩ | refine ⟨_, r2_isN, ?_⟩ | refine ⟨_, r1_neg, ?_⟩
  | refine ⟨_, rc_absI, ?_⟩ | refine ⟨_, rc_intI, ?_⟩ | refine ⟨_, rc_intB, ?_⟩ | refine ⟨_, rc_max, ?_⟩ | refine ⟨_, rc_min, ?_⟩ | refine ⟨_, rc_lenL, ?_⟩ | refine ⟨_, rc_lenT, ?_⟩ | refine ⟨_, rc_listL, ?_⟩ | refine ⟨_, rc_listT, ?_⟩ | refine ⟨_, rc_tupL, ?_⟩ | refine ⟨_, rc_tupT, ?_⟩
  | refine ⟨_, rfl, ?_⟩ | refine ⟨_, _, rfl, ?_⟩ | refine ⟨_, ⟨_, rfl, rfl⟩, ?_⟩ | refine ⟨_, ⟨_, _, rfl, rfl⟩, ?_⟩)
local macro_rules | `(tactic| walk_at "d") => `(tactic| repeat (first | walk_at "d1" | refine ⟨lenOk rfl, ?_⟩ | refine ⟨0, _, _, _, rfl, rfl, rfl, ?_⟩ | refine ⟨_, r2_ixXL rfl, ?_⟩ | refine ⟨_, r2_ixXT rfl, ?_⟩ | refine ⟨_, r2_ixXT at0, ?_⟩ | refine ⟨_, r2_ixXT at1, ?_⟩ | refine ⟨_, r2_ixXL at0, ?_⟩ | refine ⟨_, r2_ixXL at1, ?_⟩))
-- a condition whose truth comes out by computation
local macro_rules | `(tactic| walk_at "b1") => `(tactic| first
  | refine ⟨fun _ => ?_, fun h => Bool.noConfusion (show true = false from h)⟩
  | refine ⟨fun h => Bool.noConfusion (show false = true from h), fun _ => ?_⟩)
local macro_rules | `(tactic| walk_at "db") => `(tactic| repeat (first | walk_at "d1" | refine ⟨lenOk rfl, ?_⟩ | refine ⟨0, _, _, _, rfl, rfl, rfl, ?_⟩ | refine ⟨_, r2_ixXL rfl, ?_⟩ | refine ⟨_, r2_ixXT rfl, ?_⟩ | refine ⟨_, r2_ixXT at0, ?_⟩ | refine ⟨_, r2_ixXT at1, ?_⟩ | refine ⟨_, r2_ixXL at0, ?_⟩ | refine ⟨_, r2_ixXL at1, ?_⟩ | walk_at "b1"))
-- how many arguments there are
local macro_rules | `(tactic| walk_at "len") => `(tactic| (intro _ _ h; first
  | (obtain ⟨_, e, _⟩ := h; subst e; rfl) | (obtain ⟨_, _, e, _⟩ := h; subst e; rfl) | (obtain ⟨_, _, _, e, _⟩ := h; subst e; rfl) | (obtain ⟨_, _, _, _, e, _⟩ := h; subst e; rfl) | (obtain ⟨_, _, _, _, _, e, _⟩ := h; subst e; rfl)))
local macro_rules | `(tactic| walk_at "leno") => `(tactic| (intro _ _ h; first
  | (obtain ⟨⟨_, e, _⟩, _⟩ := h; subst e; rfl) | (obtain ⟨⟨_, _, e, _⟩, _⟩ := h; subst e; rfl) | (obtain ⟨e, _⟩ := h; subst e; rfl) | (obtain ⟨_, e, _⟩ := h; subst e; rfl) | (obtain ⟨_, _, e, _⟩ := h; subst e; rfl) | (obtain ⟨_, _, _, e, _⟩ := h; subst e; rfl) | (obtain ⟨_, _, _, _, e, _⟩ := h; subst e; rfl)))

variable {P : Program} {w : World} {K : PySem.W.Frag} {mg : Str → Option Value} {base : Heap}
/-! ### number_by -/
--%%SPECIAL {('rec', 'number_by', 'number_by'): 'C', ('room', 'number_by', 'number_by'): 'hr', ('number_by', 'things'): '(op_inDK (K := K) rfl (room65 hr))', ('lev', 'number_by', 'deed'): '6', ('dict', 'number_by', 'RECKONED'): 'hlook'}
abbrev R_nb (m : Nat) (ds : List PyData) (d : PyData) : Prop := ∃ (e : Ex) (c : Env) (bs bw : Bool), ds = [e.toD, .int c.px, seqD bs c.st, seqD bw c.wo] ∧ e.dep < m ∧ e.good ∧ c.good ∧ d = ansD (e.val c)
theorem held1 (T : Top K w mg) {z : Str} (h : z ∈ w1) : ∃ y, (z, y) ∈ pRECK ∧ ∀ f, mg y = some (.ref f) → Hld P w K mg base 6 f (spP K (R1 z)) := by
  simp [w1] at h
  rcases h with h | h | h | h | h <;> subst h
  · exact ⟨"things_negated", by decide, fun f hf => ((c_things_negated T).mono (by decide)).hld hf⟩
  · exact ⟨"things_bared", by decide, fun f hf => ((c_things_bared T).mono (by decide)).hld hf⟩
  · exact ⟨"things_floored", by decide, fun f hf => ((c_things_floored T).mono (by decide)).hld hf⟩
  · exact ⟨"things_ceiled", by decide, fun f hf => ((c_things_ceiled T).mono (by decide)).hld hf⟩
  · exact ⟨"things_none_told", by decide, fun f hf => ((c_things_none_told T).mono (by decide)).hld hf⟩
theorem held2 (T : Top K w mg) {z : Str} (h : z ∈ w2) (h2 : z ≠ "over") : ∃ y, (z, y) ∈ pRECK ∧ ∀ f, mg y = some (.ref f) → Hld P w K mg base 6 f (spP K (R2 z)) := by
  simp [w2] at h
  rcases h with h | h | h | h | h | h | h | h | h <;> subst h
  · exact ⟨"things_summed", by decide, fun f hf => ((c_things_summed T).mono (by decide)).hld hf⟩
  · exact ⟨"things_lessened", by decide, fun f hf => ((c_things_lessened T).mono (by decide)).hld hf⟩
  · exact ⟨"things_multiplied", by decide, fun f hf => ((c_things_multiplied T).mono (by decide)).hld hf⟩
  · exact absurd rfl h2
  · exact ⟨"things_lesser", by decide, fun f hf => ((c_things_lesser T).mono (by decide)).hld hf⟩
  · exact ⟨"things_greater", by decide, fun f hf => ((c_things_greater T).mono (by decide)).hld hf⟩
  · exact ⟨"things_alike", by decide, fun f hf => ((c_things_alike T).mono (by decide)).hld hf⟩
  · exact ⟨"things_both_told", by decide, fun f hf => ((c_things_both_told T).mono (by decide)).hld hf⟩
  · exact ⟨"things_either_told", by decide, fun f hf => ((c_things_either_told T).mono (by decide)).hld hf⟩
theorem ans_cases (o : Option (Int × Int)) : (o = none ∧ ansD o = .none) ∨ (∃ p, o = some p ∧ (ansD o = .int p.1 ∨ ansD o = .tuple [.int p.1, .int p.2])) := by
  cases o with
  | none => exact .inl ⟨rfl, rfl⟩
  | some p =>
    refine .inr ⟨p, rfl, ?_⟩
    rcases num_cases p.1 p.2 with ⟨h, _⟩ | ⟨h, _⟩
    · exact .inl h
    · exact .inr h
theorem shaped_a1 {o : Option (Int × Int)} : SeqAt.shaped (.list [ansD o]) = true := by
  rcases ans_cases o with ⟨_, h⟩ | ⟨_, _, h | h⟩ <;> rw [h] <;> rfl
theorem shaped_a2 {o q : Option (Int × Int)} : SeqAt.shaped (.list [ansD o, ansD q]) = true := by
  rcases ans_cases o with ⟨_, h⟩ | ⟨_, _, h | h⟩ <;> rcases ans_cases q with ⟨_, h2⟩ | ⟨_, _, h2 | h2⟩ <;> rw [h, h2] <;> rfl
theorem eqv_ans {o : Option (Int × Int)} : PyData.eqv (ansD o) .none = o.isNone := by
  rcases ans_cases o with ⟨h1, h⟩ | ⟨_, h1, h | h⟩ <;> rw [h, h1] <;> simp [PyData.eqv]
theorem in_a1 {o : Option (Int × Int)} : R2D K (rInD K) .none (.list [ansD o]) (.bool o.isNone) := by
  have h := r2_inD (K := K) (x := .none) rfl (shaped_a1 (o := o))
  rwa [show ([ansD o].any fun z => PyData.eqv z .none) = o.isNone by rw [List.any_cons, eqv_ans]; exact Bool.or_false _] at h
theorem in_a2 {o q : Option (Int × Int)} : R2D K (rInD K) .none (.list [ansD o, ansD q]) (.bool (o.isNone || q.isNone)) := by
  have h := r2_inD (K := K) (x := .none) rfl (shaped_a2 (o := o) (q := q))
  rwa [show ([ansD o, ansD q].any fun z => PyData.eqv z .none) = (o.isNone || q.isNone) by
    rw [List.any_cons, List.any_cons, eqv_ans, eqv_ans]
    show (o.isNone || (q.isNone || false)) = _
    rw [Bool.or_false]] at h
theorem val_one {c : Env} {z : Str} {e : Ex} : (Ex.one z e).val c = (e.val c).bind fun p => smO (f1 z p.1 p.2) := rfl
theorem val_two {c : Env} {z : Str} {e f : Ex} : (Ex.two z e f).val c = (e.val c).bind fun p => (f.val c).bind fun q => if z = "over" ∧ q.1 = 0 then none else smO (f2 z p.1 p.2 q.1 q.2) := rfl
theorem ansD_some {p : Int × Int} : ansD (some p) = numD p.1 p.2 := rfl
theorem pc_zero {x : Str} {k : Nat} {ps : List Str} {R : List PyData → PyData → Prop} {st : Stmt} (h : Has K mg x st [])
    (hb : ∀ (kV doc pm : Value) (an : Option Addr) (cdv ct : Value) (us : List Value), us.length = ps.length → bindArgs (PySem.W.fnOf x x (defArgs st) (defBody st) (defScope st) .none kV doc pm an cdv ct) ⟨us, []⟩ = pure (ps.zip us)) (hR : ∀ ds d, ¬ R ds d) : Cal P w K mg base x k ps (spP K R) :=
  h.call hb fun f fd F m => ⟨fun vs H Q E h => (by
      obtain ⟨_, _, _, _, _, h, _⟩ := h
      exact absurd h (hR _ _)), fun A outer s H args us vs Q E _ _ _ _ h => (by
      obtain ⟨_, _, _, _, _, h, _⟩ := h
      exact absurd h (hR _ _))⟩
theorem c_number_by (T : Top K w mg) : ∀ m : Nat, Cal P w K mg base "number_by" (m + 7) p_number_by (spP K (R_nb m))
  | 0 => pc_zero T.h_number_by (fun _ _ _ _ _ _ us hl => match us, hl with | [_, _, _, _], _ => rfl) fun ds d ⟨_, _, _, _, _, h, _⟩ => absurd h (Nat.not_lt_zero _)
  | m + 1 => by
    have C := c_number_by T m
    obtain ⟨look, hlook, hl⟩ := T.f_RECKONED
    exact T.h_number_by.call (fun _ _ _ _ _ _ us hl => match us, hl with | [_, _, _, _], _ => rfl) fun f fd F mm => fn_pure F sc_number_by (by walk_at "len") fun cdv A outer s H E hr => ⟨_, (pss_cons (ps_set (i := 4) sc_number_by.nd rfl (.inl rfl) (pe_cal (c_inner_parts (P := P) (w := w) (K := K) (mg := mg) (base := base) T) (hr.mono (by omega)) (by rfl) (pa_cons (pv 0) pa_nil)))
    (pss_cons (ps_if (pt_cmpR (op_eqXK (K := K) rfl hr.units) (pv 4) (pe_lst pa_nil) (nomark _)) (pss_one (ps_ret (pe_cal (c_asked_number (P := P) (w := w) (K := K) (mg := mg) (base := base) T) (hr.mono (by omega)) (by rfl) (pa_cons (pv 0) (pa_cons (pv 1) (pa_cons (pv 2) (pa_cons (pv 3) pa_nil))))))) pss_nil)
    (pss_cons (ps_setLc (i := 5) (own := [("part", 7)]) (g := gName 7) rfl sc_number_by.nd rfl rfl (sw_true rfl rfl rfl (by decide +kernel)) (pi_XK (K := K) rfl (pv 4))
      (blkOk_by (own := [("part", 7)]) (N := N_number_by) (sc := defScope s_number_by) (by decide +kernel)) (fun _ _ _ _ _ => pg_name (i := 7) sc_number_by.nd rfl (Or.inl rfl))
      (fun _ _ _ _ _ => pts_nil) (fun _ _ _ _ _ => (pe_cal C hr (by rfl) (pa_cons (pv 7) (pa_cons (pv 1) (pa_cons (pv 2) (pa_cons (pv 3) pa_nil)))))))
    (pss_cons (ps_if (pt_cmpR (op_inDK (K := K) rfl (room65 hr)) pe_non (pv 5) (by rfl)) (pss_one (ps_ret pe_non)) pss_nil)
    (pss_cons (ps_if (pt_cmpR (op_eqXK (K := K) rfl hr.units) (pe_ix (ix_XK (K := K) rfl) (pv 0) pe_int (fun _ _ => rfl)) pe_str (nomark _)) (pss_one (ps_ret (pe_ifExp (pt_cmpR (op_neXK (K := K) rfl hr.units) (pe_ix (ix_XK (K := K) rfl) (pv 5) pe_int (fun _ _ => rfl)) pe_int (nomark _)) (pe_cal (c_small_of (P := P) (w := w) (K := K) (mg := mg) (base := base) T) (hr.mono (by omega)) (by rfl) (pa_cons (pe_cal (c_over (P := P) (w := w) (K := K) (mg := mg) (base := base) T) (hr.mono (by omega)) (by rfl) (pa_cons (pe_ix (ix_XK (K := K) rfl) (pv 5) pe_int (fun _ _ => rfl)) (pa_cons (pe_ix (ix_XK (K := K) rfl) (pv 5) pe_int (fun _ _ => rfl)) pa_nil))) pa_nil)) pe_non))) pss_nil)
    (pss_cons (ps_set (i := 6) sc_number_by.nd rfl (.inl rfl) (pe_ix (ix_KK (K := K) (w := w) (look := look) rfl rfl) (pe_raw hlook (by rfl)) (pe_ix (ix_XK (K := K) rfl) (pv 0) pe_int (fun _ _ => rfl)) (fun _ _ => rfl)))
    (pss_one (ps_ret (pe_cal (c_small_of (P := P) (w := w) (K := K) (mg := mg) (base := base) T) (hr.mono (by omega)) (by rfl) (pa_cons (pe_ix (ix_XK (K := K) rfl) (pe_callH (P := P) (w := w) (K := K) (mg := mg) (base := base) (k := 6) 6 rfl rfl rfl rfl rfl (hr.mono (by omega)) (pa_cons (pv 5) pa_nil)) pe_int (fun _ _ => rfl)) pa_nil)))))))))), fun ds d hR => by
    obtain ⟨e, c, bs, bw, rfl, hd, hg, hc, rfl⟩ := hR
    walk_at "d"
    refine ⟨_, ⟨e, rfl, hg, rfl⟩, ?_⟩
    walk_at "d"
    refine ⟨_, r2_eqE (Nat.le_trans (Nat.min_le_right _ _) dep_lnil), ?_⟩
    rw [eqv_lnil]
    have leaf : e.parts = [] → _ := fun hp => (⟨e, c, bs, bw, rfl, hg, hp, hc, rfl⟩ : R_asked [e.toD, .int c.px, seqD bs c.st, seqD bw c.wo] (ansD (e.val c)))
    cases e with
    | num a b => walk_at "db"; exact ⟨_, leaf rfl, rfl⟩
    | size => walk_at "db"; exact ⟨_, leaf rfl, rfl⟩
    | load i => walk_at "db"; exact ⟨_, leaf rfl, rfl⟩
    | worth i => walk_at "db"; exact ⟨_, leaf rfl, rfl⟩
    | one z e =>
      clear leaf
      have hd' : e.dep < m := Nat.lt_of_succ_lt_succ hd
      walk_at "db"
      refine we_lc_ix (tg := [7]) (by decide) (wi_X ?_)
      walk_at "d"
      refine ⟨_, .inl rfl, [ansD (e.val c)], lenOk rfl, rfl, fun i d y h1 h2 => ?_, ?_⟩
      · match i, h1, h2 with
        | 0, h1, h2 =>
          cases h1
          cases h2
          refine wgc_name ?_
          walk_at "d"
          exact ⟨_, ⟨e, c, bs, bw, rfl, hd', hg.2, hc, rfl⟩, rfl, rfl⟩
        | i + 1, h1, _ => simp [Ex.parts] at h1
      walk_at "d"
      refine ⟨_, in_a1, ?_⟩
      rw [val_one]
      cases ho : e.val c with
      | none => walk_at "db"; rfl
      | some p =>
        have hp := val_ns hc hg.2 ho
        rw [ansD_some]
        obtain ⟨_, _, _, hno⟩ := w1_no hg.1
        rw [toD_one]
        walk_at "db"
        rw [dec_ne hno]
        walk_at "db"
        obtain ⟨y, hy, hh⟩ := held1 (P := P) (w := w) (base := base) T hg.1
        obtain ⟨g, hg1, hg2⟩ := hl _ hy
        refine ⟨z, _, rfl, hg1, ?_⟩
        walk_at "d"
        refine we_callH rfl (hh g hg2) ?_
        walk_at "d"
        refine ⟨_, ⟨_, _, rfl, hp, rfl⟩, ?_⟩
        walk_at "d"
        refine ⟨_, ⟨_, _, rfl, f1_nm hp.nm, rfl⟩, ?_⟩
        exact small_ans
    | two z e f =>
      clear leaf
      have hd1 : e.dep < m := Nat.lt_of_le_of_lt (Nat.le_max_left _ _) (Nat.lt_of_succ_lt_succ hd)
      have hd2 : f.dep < m := Nat.lt_of_le_of_lt (Nat.le_max_right _ _) (Nat.lt_of_succ_lt_succ hd)
      walk_at "db"
      refine we_lc_ix (tg := [7]) (by decide) (wi_X ?_)
      walk_at "d"
      refine ⟨_, .inl rfl, [ansD (e.val c), ansD (f.val c)], lenOk rfl, rfl, fun i d y h1 h2 => ?_, ?_⟩
      · match i, h1, h2 with
        | 0, h1, h2 =>
          cases h1
          cases h2
          refine wgc_name ?_
          walk_at "d"
          exact ⟨_, ⟨e, c, bs, bw, rfl, hd1, hg.2.1, hc, rfl⟩, rfl, rfl⟩
        | 1, h1, h2 =>
          cases h1
          cases h2
          refine wgc_name ?_
          walk_at "d"
          exact ⟨_, ⟨f, c, bs, bw, rfl, hd2, hg.2.2, hc, rfl⟩, rfl, rfl⟩
        | i + 2, h1, _ => simp [Ex.parts] at h1
      walk_at "d"
      refine ⟨_, in_a2, ?_⟩
      rw [val_two]
      cases ho : e.val c with
      | none => walk_at "db"; rfl
      | some p =>
        cases ho2 : f.val c with
        | none => walk_at "db"; rfl
        | some q =>
          have hp := val_ns hc hg.2.1 ho
          have hq := val_ns hc hg.2.2 ho2
          rw [ansD_some, ansD_some]
          rw [toD_two]
          walk_at "db"
          by_cases hov : z = "over"
          · subst hov
            walk_at "db"
            refine ⟨_, r2_neD (shaped_num q.1 q.2) (shaped_int 0), ?_⟩
            rw [ne_zero_dec hq.nm]
            walk_at "d"
            refine ⟨fun hz => ?_, fun hz => ?_⟩
            · have hz := of_decide_eq_true hz
              walk_at "d"
              refine ⟨_, ⟨_, _, _, _, rfl, hp.q, hq.q, hz, rfl⟩, ?_⟩
              walk_at "d"
              refine ⟨_, ⟨_, _, rfl, red_nm (Int.mul_ne_zero hp.ne hz), rfl⟩, ?_⟩
              rw [small_ans (p := (_, _))]
              show ansD _ = ansD (if _ then _ else _)
              rw [if_neg fun z => hz z.2]
              rfl
            · have hz : q.1 = 0 := by simpa using hz
              walk_at "d"
              show PyData.none = ansD (if _ then _ else _)
              rw [if_pos ⟨rfl, hz⟩]
              rfl
          rw [dec_ne hov]
          walk_at "db"
          obtain ⟨y, hy, hh⟩ := held2 (P := P) (w := w) (base := base) T hg.1 hov
          obtain ⟨g, hg1, hg2⟩ := hl _ hy
          refine ⟨z, _, rfl, hg1, ?_⟩
          walk_at "d"
          refine we_callH rfl (hh g hg2) ?_
          walk_at "d"
          refine ⟨_, ⟨_, _, _, _, rfl, hp, hq, rfl⟩, ?_⟩
          walk_at "d"
          refine ⟨_, ⟨_, _, rfl, f2_nm hp.nm hq.nm fun z => hov z.1, rfl⟩, ?_⟩
          rw [small_ans]
          show ansD _ = ansD (if _ then _ else _)
          rw [if_neg fun z => hov z.1]⟩
/-! ### formula_number -/
abbrev R_fn (ds : List PyData) (d : PyData) : Prop := ∃ (e : Ex) (c : Env) (bs bw : Bool), ds = [e.toD, .int c.px, seqD bs c.st, seqD bw c.wo] ∧ e.dep ≤ 40 ∧ e.good ∧ c.good ∧ Wd e.toD ∧ isF e.toD = true ∧ d = ansD (e.val c)
--%%SPECIAL {('rec', 'formula_number', 'number_by'): '(c_number_by (P := P) (w := w) (K := K) (mg := mg) (base := base) T 41)'}
theorem whl_px {c : Env} (h : c.good) : whl (.int c.px) 1 200 = true := by
  show (decide (1 ≤ c.px) && decide (c.px ≤ 200)) = true
  rw [decide_eq_true h.lo, decide_eq_true h.hi]
  rfl
theorem ok_formula_number (T : Top K w mg) : ∀ f fd, FunD K "formula_number" "formula_number" (defArgs s_formula_number) (defBody s_formula_number) (defScope s_formula_number) [] [] f fd → mg "formula_number" = some (.ref f) → FnOk P w K mg base CXN 50 f fd p_formula_number (spP K R_fn) :=
  fun f fd F m => fn_pure F sc_formula_number (by walk_at "len") fun cdv A outer s H E hr => ⟨_, (pss_cons (ps_expr (pe_cal (c_need_formula (P := P) (w := w) (K := K) (mg := mg) (base := base) T) (hr.mono (by omega)) (by rfl) (pa_cons (pv 0) pa_nil)))
    (pss_cons (ps_if (pt_not (pt_val (pe_cal (c_is_whole (P := P) (w := w) (K := K) (mg := mg) (base := base) T) (hr.mono (by omega)) (by rfl) (pa_cons (pv 1) (pa_cons pe_int (pa_cons (pe_KK (K := K) rfl T.k_MOST_SIZE (by rfl)) pa_nil)))))) (pss_one ps_never) pss_nil)
    (pss_cons (ps_if (pt_not (pt_val (pe_cal (c_are_numbers (P := P) (w := w) (K := K) (mg := mg) (base := base) T) (hr.mono (by omega)) (by rfl) (pa_cons (pv 2) (pa_cons (pe_KK (K := K) rfl T.k_STORE (by rfl)) (pa_cons (pe_KK (K := K) rfl T.k_STORE (by rfl)) pa_nil)))))) (pss_one ps_never) pss_nil)
    (pss_cons (ps_if (pt_not (pt_val (pe_cal (c_are_numbers (P := P) (w := w) (K := K) (mg := mg) (base := base) T) (hr.mono (by omega)) (by rfl) (pa_cons (pv 3) (pa_cons pe_int (pa_cons (pe_KK (K := K) rfl T.k_MOST_WORTHS (by rfl)) pa_nil)))))) (pss_one ps_never) pss_nil)
    (pss_one (ps_ret (pe_cal (c_number_by (P := P) (w := w) (K := K) (mg := mg) (base := base) T 41) (hr.mono (by omega)) (by rfl) (pa_cons (pv 0) (pa_cons (pv 1) (pa_cons (pv 2) (pa_cons (pv 3) pa_nil))))))))))), fun ds d hR => by
    obtain ⟨e, c, bs, bw, rfl, hd, hg, hc, hw, hf, rfl⟩ := hR
    walk_at "d"
    refine ws_drop ?_
    walk_at "d"
    refine ⟨_, ⟨_, rfl, hw, hf, rfl⟩, ?_⟩
    walk_at "d"
    refine ⟨_, ⟨_, _, _, rfl, rfl⟩, ?_⟩
    rw [whl_px hc]
    walk_at "db"
    refine ⟨_, ⟨bs, c.st, 8, 8, rfl, hc.sn, by rw [hc.sl]; decide, by rw [hc.sl]; decide, by rw [hc.sl]; decide, rfl⟩, ?_⟩
    walk_at "db"
    have h1 := hc.wl
    refine ⟨_, ⟨bw, c.wo, 0, 12, rfl, hc.wn, by omega, by omega, by omega, rfl⟩, ?_⟩
    walk_at "db"
    exact ⟨_, ⟨e, c, bs, bw, rfl, Nat.lt_succ_of_le hd, hg, hc, rfl⟩, rfl⟩⟩
theorem ck_fn (T : Top K w mg) : CalK P w K mg base "formula_number" 50 p_formula_number 1 ["size", "store", "worths"] false (spP K R_fn) :=
  T.h_formula_number.callK (fun _ _ _ _ _ _ us ws h1 h2 => match us, ws, h1, h2 with | [_], [_, _, _], _, _ => rfl) (ok_formula_number T)
theorem ck_fn2 (T : Top K w mg) : CalK P w K mg base "formula_number" 50 p_formula_number 0 ["worths", "store", "size", "formula"] true (spP K R_fn) :=
  T.h_formula_number.callK (fun _ _ _ _ _ _ us ws h1 h2 => match us, ws, h1, h2 with | [], [_, _, _, _], _, _ => rfl) (ok_formula_number T)
--%%SPECIAL {('kw', 'formula_number', ('size', 'store', 'worths')): 'ck_fn', ('kw', 'formula_number', ('worths', 'store', 'size', 'formula')): 'ck_fn2'}
end K77

set_option Elab.async false
set_option linter.all false
set_option maxRecDepth 100000
set_option pp.deepTerms false
set_option pp.deepTerms.threshold 6
set_option maxHeartbeats 4000000
namespace K77
open PySem PySem.Spec PyProof.Rows L2 DS
-- the steps that need no thought: one, as many as there are
local macro_rules | `(tactic| walk_at "d1") => `(tactic| with_reducible first
  | refine ws_seq ?_ | refine ws_next ?_ | refine ws_retN ?_ | refine ws_ret ?_ | refine ws_if ?_ | refine ws_par ?_ | refine ws_setK ?_ | refine ws_newD ?_ | refine wp_cons ?_ | refine wp_nil ?_ | refine ws_set ?_ | refine ws_star ?_ | refine ws_setO rfl ?_ | apply ws_asg
  | refine we_var rfl ?_ | refine we_int ?_ | refine we_bl ?_ | refine we_str ?_ | refine we_non ?_ | refine we_kd ?_ | refine we_ixO rfl ?_
  | refine we_isi isg_int ?_ | refine we_isi isg_bool ?_ | refine we_isi isg_str ?_ | refine we_isi isg_list ?_ | refine we_isi isg_tuple ?_ | refine we_isi2 isg_list isg_tuple ?_ | refine we_isi2 isg_int isg_tuple ?_
  | refine we_inK ?_ | refine we_ixK ?_ | refine we_op ?_ | refine we_un ?_ | refine we_cb ?_ | refine we_tup ?_ | refine we_lst ?_ | refine we_andV ?_ | refine we_orV ?_ | refine we_notV ?_ | refine we_if ?_ | refine we_chain ?_ | refine we_sl ?_ | refine we_call ?_
  | refine wa_nil ?_ | refine wa_cons ?_ | refine wo_none ?_ | refine wo_some ?_ | refine wt_test ?_ | refine wt_B ?_ | refine wt_and ?_ | refine wt_or ?_ | refine wt_not ?_
  | refine wg_tup rfl ?_ | refine wgs_cons ?_ | refine wgs_nil ?_ | refine wg_name ?_
  | refine ⟨_, r2_int, ?_⟩ | refine ⟨_, r2_bl, ?_⟩ | refine ⟨_, r2_addI, ?_⟩ | refine ⟨_, r2_eqI, ?_⟩ | refine ⟨_, r2_neI, ?_⟩ | refine ⟨_, r2_eqS, ?_⟩ | refine ⟨_, r2_neS, ?_⟩ | refine ⟨_, r2_isN, ?_⟩ | refine ⟨_, r1_neg, ?_⟩
  | refine ⟨_, rc_absI, ?_⟩ | refine ⟨_, rc_intI, ?_⟩ | refine ⟨_, rc_intB, ?_⟩ | refine ⟨_, rc_max, ?_⟩ | refine ⟨_, rc_min, ?_⟩ | refine ⟨_, rc_lenL, ?_⟩ | refine ⟨_, rc_lenT, ?_⟩ | refine ⟨_, rc_listL, ?_⟩ | refine ⟨_, rc_listT, ?_⟩ | refine ⟨_, rc_tupL, ?_⟩ | refine ⟨_, rc_tupT, ?_⟩
  | refine ⟨_, rfl, ?_⟩ | refine ⟨_, _, rfl, ?_⟩ | refine ⟨_, ⟨_, rfl, rfl⟩, ?_⟩ | refine ⟨_, ⟨_, _, rfl, rfl⟩, ?_⟩)
local macro_rules | `(tactic| walk_at "d") => `(tactic| repeat (first | walk_at "d1" | refine ⟨lenOk rfl, ?_⟩ | refine ⟨0, _, _, _, rfl, rfl, rfl, ?_⟩ | refine ⟨_, r2_ixXL rfl, ?_⟩ | refine ⟨_, r2_ixXT rfl, ?_⟩ | refine ⟨_, r2_ixXT at0, ?_⟩ | refine ⟨_, r2_ixXT at1, ?_⟩ | refine ⟨_, r2_ixXL at0, ?_⟩ | refine ⟨_, r2_ixXL at1, ?_⟩))
-- a condition whose truth comes out by computation
local macro_rules | `(tactic| walk_at "b1") => `(tactic| first
  | refine ⟨fun _ => ?_, fun h => Bool.noConfusion (show true = false from h)⟩
  | refine ⟨fun h => Bool.noConfusion (show false = true from h), fun _ => ?_⟩)
local macro_rules | `(tactic| walk_at "db") => `(tactic| repeat (first | walk_at "d1" | refine ⟨lenOk rfl, ?_⟩ | refine ⟨0, _, _, _, rfl, rfl, rfl, ?_⟩ | refine ⟨_, r2_ixXL rfl, ?_⟩ | refine ⟨_, r2_ixXT rfl, ?_⟩ | refine ⟨_, r2_ixXT at0, ?_⟩ | refine ⟨_, r2_ixXT at1, ?_⟩ | refine ⟨_, r2_ixXL at0, ?_⟩ | refine ⟨_, r2_ixXL at1, ?_⟩ | walk_at "b1"))
-- how many arguments there are
local macro_rules | `(tactic| walk_at "len") => `(tactic| (intro _ _ h; first
  | (obtain ⟨_, e, _⟩ := h; subst e; rfl) | (obtain ⟨_, _, e, _⟩ := h; subst e; rfl) | (obtain ⟨_, _, _, e, _⟩ := h; subst e; rfl) | (obtain ⟨_, _, _, _, e, _⟩ := h; subst e; rfl) | (obtain ⟨_, _, _, _, _, e, _⟩ := h; subst e; rfl)))
local macro_rules | `(tactic| walk_at "leno") => `(tactic| (intro _ _ h; first
  | (obtain ⟨⟨_, e, _⟩, _⟩ := h; subst e; rfl) | (obtain ⟨⟨_, _, e, _⟩, _⟩ := h; subst e; rfl) | (obtain ⟨e, _⟩ := h; subst e; rfl) | (obtain ⟨_, e, _⟩ := h; subst e; rfl) | (obtain ⟨_, _, e, _⟩ := h; subst e; rfl) | (obtain ⟨_, _, _, e, _⟩ := h; subst e; rfl) | (obtain ⟨_, _, _, _, e, _⟩ := h; subst e; rfl)))

variable {P : Program} {w : World} {K : PySem.W.Frag} {mg : Str → Option Value} {base : Heap}
/-! ### the law's cells and boxes -/
def cellOf (ns : List Int) (k : Nat) : Int := (ns[k]?).getD (8087 * k + 127)
abbrev R_cell (ds : List PyData) (d : PyData) : Prop := ∃ (ns : List Int) (k : Nat), ds = [.list (ns.map .int), .int k] ∧ k < 1000 ∧ d = .int (cellOf ns k)
theorem ints_at {ns : List Int} {k : Nat} (h : k < ns.length) : atI (ns.map PyData.int) k = some (.int ns[k]) := DS.atI_nat (by rw [List.getElem?_map, List.getElem?_eq_getElem h]; rfl)
theorem bdk {k : Nat} (h : k < 1000) : Bd 10 (k : Int) := by unfold Bd; omega
theorem c_L_cell (T : Top K w mg) : Cal P w K mg base "_law_cell" 1 p_L_cell (spP K R_cell) :=
  T.h_L_cell.call (fun _ _ _ _ _ _ us hl => match us, hl with | [_, _], _ => rfl) fun f fd F m => fn_pure F sc_L_cell (by walk_at "len") fun cdv A outer s H E hr => ⟨_, (pss_cons (ps_if (pt_cmpR op_lt (pv 1) (pe_callB (call_lenXK (K := K) rfl) (by rfl) T.m_len (by decide +kernel) (pa_cons (pv 0) pa_nil)) (nomark _)) (pss_one (ps_ret (pe_ix (ix_XK (K := K) rfl) (pv 0) (pv 1) (fun _ _ => rfl)))) pss_nil)
    (pss_one (ps_ret (pe_op (op_addXK (K := K) rfl) (pe_op op_mulW pe_int (pv 1)) pe_int)))), fun ds d hR => by
    obtain ⟨ns, k, rfl, hk, rfl⟩ := hR
    walk_at "d"
    rw [List.length_map]
    refine ⟨fun h => ?_, fun h => ?_⟩
    · have h : k < ns.length := by have := of_decide_eq_true h; omega
      walk_at "d"
      refine ⟨_, r2_ixXL (ints_at h), ?_⟩
      show PyData.int _ = .int (cellOf ns k)
      unfold cellOf
      rw [List.getElem?_eq_getElem h]
      rfl
    · have h : ¬ k < ns.length := by have := of_decide_eq_false h; omega
      walk_at "d"
      refine ⟨_, r2_intC (mulOk (m := 19) (n := 9) (show Bd 20 8087 by unfold Bd; decide) (bdk hk)), ?_⟩
      walk_at "d"
      unfold cellOf
      rw [List.getElem?_eq_none (by omega)]
      rfl⟩
def boxOf (cell : Int) : List PyData := [.int (if cell - 10 ^ 18 > 0 then cell - 10 ^ 18 else 0), .int (cell.fmod 2147483587), .int 0]
abbrev R_box (ds xs : List PyData) : Prop := ∃ cell : Int, ds = [.int cell] ∧ xs = boxOf cell
theorem c_L_box (T : Top K w mg) : Cal P w K mg base "_law_box" 1 p_L_box (spN K R_box) :=
  T.h_L_box.call (fun _ _ _ _ _ _ us hl => match us, hl with | [_], _ => rfl) fun f fd F m => fn_new F sc_L_box (by walk_at "len") fun cdv A outer s H E hr => ⟨_, (pss_one (ps_ret (pe_lst (pa_cons (pe_callB (call_max' rfl) (by rfl) T.m_max (by decide +kernel) (pa_cons pe_int (pa_cons (pe_op op_sub (pv 0) (pe_op op_pow pe_int pe_int)) pa_nil))) (pa_cons (pe_op op_modA (pe_callTy call_int1' (by rfl) T.m_int (by decide +kernel) (pa_cons (pv 0) pa_nil)) pe_int) (pa_cons pe_int pa_nil)))))), fun ds xs hR => by
    obtain ⟨cell, rfl, rfl⟩ := hR
    refine ⟨lenOk rfl, ?_⟩
    walk_at "d"
    refine ⟨_, r2_intC ⟨by decide, by decide, by decide⟩, ?_⟩
    walk_at "d"
    refine ⟨_, r2_intC (by decide), ?_⟩
    walk_at "d"
    rfl⟩
/-- a box of which at most m digits were taken beyond its number -/
def Bx (m : Nat) (bx : List PyData) : Prop := ∃ x y z : Int, bx = [.int x, .int y, .int z] ∧ 0 ≤ x ∧ 0 ≤ y ∧ y < 2147483648 ∧ 0 ≤ z ∧ z ≤ m
theorem Bx.mono {m n : Nat} {bx : List PyData} (h : Bx m bx) (l : m ≤ n) : Bx n bx := by
  obtain ⟨x, y, z, h1, h2, h3, h4, h5, h6⟩ := h
  exact ⟨x, y, z, h1, h2, h3, h4, h5, by omega⟩
theorem box_bx {cell : Int} : Bx 0 (boxOf cell) := ⟨_, _, _, rfl, by split <;> omega, Int.fmod_nonneg_of_pos _ (by decide), Int.lt_trans (Int.fmod_lt_of_pos _ (by decide)) (by decide), Int.le_refl _, Int.le_refl _⟩
/-- what a deed that takes at most c digits asks, promises -/
abbrev Pb (c : Nat) (bx : List PyData) : Prop := ∃ m, m + c ≤ 1000000 ∧ Bx m bx
abbrev Qb (c : Nat) (bx bx' : List PyData) : Prop := ∀ m, Bx m bx → Bx (m + c) bx'
abbrev PreT (bx ds : List PyData) : Prop := ∃ n : Nat, ds = [.int n] ∧ 1 ≤ n ∧ n ≤ 1000 ∧ Pb 1 bx
abbrev PostT (bx ds : List PyData) (d : PyData) (bx' : List PyData) : Prop := ∃ t n : Nat, ds = [.int n] ∧ d = .int t ∧ t < n ∧ Qb 1 bx bx'
theorem fmod_nat {i : Int} {n : Nat} (h : 1 ≤ n) : ∃ t : Nat, i.fmod n = t ∧ t < n := by
  have h1 : 0 ≤ i.fmod n := Int.fmod_nonneg_of_pos _ (by omega)
  have h2 : i.fmod n < n := Int.fmod_lt_of_pos _ (by omega)
  exact ⟨(i.fmod n).toNat, by omega, by omega⟩
theorem postT {n : Nat} {i : Int} {bx bx' : List PyData} (hn : 1 ≤ n) (h : Qb 1 bx bx') : PostT bx [.int n] (.int (i.fmod n)) bx' := by
  obtain ⟨t, e, ht⟩ := fmod_nat (i := i) hn
  exact ⟨t, n, rfl, by rw [e], ht, h⟩
theorem log2_small {n : Nat} (h : n ≤ 1000) : n.log2 < 9000 := by
  by_cases z : n = 0
  · subst z; decide
  · have := (Nat.log2_lt z).mpr (show n < 2 ^ 10 by omega)
    omega
theorem wide_of {i : Int} {n : Nat} (h0 : 0 ≤ i) (h : i < 2 ^ n) : Bd n i := by
  unfold Bd
  have : ((2 ^ n : Nat) : Int) = 2 ^ n := by norm_cast
  omega
theorem c_L_take (T : Top K w mg) : Cal P w K mg base "_law_take" 1 p_L_take (spO K PreT PostT) :=
  T.h_L_take.call (fun _ _ _ _ _ _ us hl => match us, hl with | [_, _], _ => rfl) fun f fd F m => fn_own F sc_L_take (by walk_at "leno") fun cdv A outer s H E hr => ⟨_, (pss_cons (ps_if (pt_cmpR op_gt (pe_ix (ix_XK (K := K) rfl) (pv 0) pe_int (fun _ _ => rfl)) pe_int (nomark _)) (pss_cons (ps_set (i := 2) sc_L_take.nd rfl (.inl rfl) (pe_op op_modA (pe_callTy call_int1' (by rfl) T.m_int (by decide +kernel) (pa_cons (pe_ix (ix_XK (K := K) rfl) (pv 0) pe_int (fun _ _ => rfl)) pa_nil)) (pv 1)))
    (pss_cons (ps_asg (pe_op op_fdivA (pe_ix (ix_XK (K := K) rfl) (pv 0) pe_int (fun _ _ => rfl)) (pv 1)) (pg_sub (pv 0) pe_int set_list))
    (pss_one (ps_ret (pv 2))))) pss_nil)
    (pss_cons (ps_asg (pe_op (op_addXK (K := K) rfl) (pe_ix (ix_XK (K := K) rfl) (pv 0) pe_int (fun _ _ => rfl)) pe_int) (pg_sub (pv 0) pe_int set_list))
    (pss_cons (ps_set (i := 3) sc_L_take.nd rfl (.inl rfl) (pe_op op_modA (pe_callTy call_int1' (by rfl) T.m_int (by decide +kernel) (pa_cons (pe_op op_pow (pe_op (op_addXK (K := K) rfl) (pe_op (op_addXK (K := K) rfl) (pe_ix (ix_XK (K := K) rfl) (pv 0) pe_int (fun _ _ => rfl)) (pe_op op_mulW pe_int (pe_ix (ix_XK (K := K) rfl) (pv 0) pe_int (fun _ _ => rfl)))) pe_int) pe_int) pa_nil)) pe_int))
    (pss_cons (ps_set (i := 4) sc_L_take.nd rfl (.inl rfl) (pe_op op_modA (pe_callTy call_int1' (by rfl) T.m_int (by decide +kernel) (pa_cons (pe_op op_pow (pe_op (op_addXK (K := K) rfl) (pe_op op_mulW (pe_ix (ix_XK (K := K) rfl) (pv 0) pe_int (fun _ _ => rfl)) (pe_ix (ix_XK (K := K) rfl) (pv 0) pe_int (fun _ _ => rfl))) pe_int) pe_int) pa_nil)) pe_int))
    (pss_one (ps_ret (pe_op op_modA (pe_op op_fdivA (pe_op (op_addXK (K := K) rfl) (pe_op op_mulW (pv 3) pe_int) (pv 4)) pe_int) (pv 1)))))))), fun b bx ds hR => by
    obtain ⟨n, rfl, hn, hn2, m, hm, x, y, z, rfl, hx, hy, hy2, hz, hz2⟩ := hR
    walk_at "d"
    refine ⟨fun h => ?_, fun h => ?_⟩
    · walk_at "d"
      refine ⟨_, r2_intC (by omega), ?_⟩
      walk_at "d"
      refine ⟨_, r2_intC ⟨by omega, ?_⟩, ?_⟩
      · rw [Int.natAbs_natCast]
        exact log2_small hn2
      walk_at "d"
      refine postT hn ?_
      rintro m' ⟨_, _, _, e, _, _, _, _, h6⟩
      cases e
      refine ⟨x.fdiv n, y, z, rfl, ?_, hy, hy2, hz, by omega⟩
      rw [Int.fdiv_eq_ediv_of_nonneg _ (by omega)]
      exact Int.ediv_nonneg hx (by omega)
    · walk_at "d"
      have hz1 : Bd 21 (z + 1) := by unfold Bd; omega
      have hy1 : Bd 31 y := by unfold Bd; omega
      have h7 : Bd 20 7001 := by unfold Bd; decide
      have hyz := hy1.mul hz1
      refine ⟨_, r2_intC (mulOk h7 hz1), ?_⟩
      walk_at "d"
      refine ⟨_, r2_intC ⟨by decide, by decide, by omega⟩, ?_⟩
      walk_at "d"
      refine ⟨_, r2_intC (by decide), ?_⟩
      walk_at "d"
      refine ⟨_, r2_intC (mulOk hy1 hz1), ?_⟩
      walk_at "d"
      refine ⟨_, r2_intC ⟨by decide, by decide, by unfold Bd at hyz; omega⟩, ?_⟩
      walk_at "d"
      refine ⟨_, r2_intC (by decide), ?_⟩
      walk_at "d"
      obtain ⟨u, hu, hul⟩ := fmod_nat (i := (y + 7001 * (z + 1) + 37) ^ Int.toNat 5) (n := 2147483647) (by decide)
      have hu1 : Bd 31 (u : Int) := by unfold Bd; omega
      have hb : Bd 31 2147483629 := by unfold Bd; decide
      refine ⟨_, r2_intC (mulOk (hu ▸ hu1) hb), ?_⟩
      walk_at "d"
      refine ⟨_, r2_intC ⟨by decide, by decide⟩, ?_⟩
      walk_at "d"
      refine ⟨_, r2_intC (by omega), ?_⟩
      walk_at "d"
      refine postT hn ?_
      rintro m' ⟨_, _, _, e, _, _, _, _, h6⟩
      cases e
      exact ⟨x, y, z + 1, rfl, hx, hy, hy2, by omega, by omega⟩⟩
end K77

set_option Elab.async false
set_option linter.all false
set_option maxRecDepth 100000
set_option pp.deepTerms false
set_option pp.deepTerms.threshold 6
set_option maxHeartbeats 4000000
namespace K77
open PySem PySem.Spec PyProof.Rows L2 DS
-- the steps that need no thought: one, as many as there are
local macro_rules | `(tactic| walk_at "d1") => `(tactic| with_reducible first
  | refine ws_seq ?_ | refine ws_next ?_ | refine ws_retN ?_ | refine ws_ret ?_ | refine ws_if ?_ | refine ws_par ?_ | refine ws_setK ?_ | refine ws_newD ?_ | refine wp_cons ?_ | refine wp_nil ?_ | refine ws_set ?_ | refine ws_star ?_ | refine ws_setO rfl ?_ | apply ws_asg
  | refine we_var rfl ?_ | refine we_int ?_ | refine we_bl ?_ | refine we_str ?_ | refine we_non ?_ | refine we_kd ?_ | refine we_ixO rfl ?_
  | refine we_isi isg_int ?_ | refine we_isi isg_bool ?_ | refine we_isi isg_str ?_ | refine we_isi isg_list ?_ | refine we_isi isg_tuple ?_ | refine we_isi2 isg_list isg_tuple ?_ | refine we_isi2 isg_int isg_tuple ?_
  | refine we_inK ?_ | refine we_ixK ?_ | refine we_op ?_ | refine we_un ?_ | refine we_cb ?_ | refine we_tup ?_ | refine we_lst ?_ | refine we_andV ?_ | refine we_orV ?_ | refine we_notV ?_ | refine we_if ?_ | refine we_chain ?_ | refine we_sl ?_ | refine we_call ?_
  | refine wa_nil ?_ | refine wa_cons ?_ | refine wo_none ?_ | refine wo_some ?_ | refine wt_test ?_ | refine wt_B ?_ | refine wt_and ?_ | refine wt_or ?_ | refine wt_not ?_
  | refine wg_tup rfl ?_ | refine wgs_cons ?_ | refine wgs_nil ?_ | refine wg_name ?_
  | refine ⟨_, r2_int, ?_⟩ | refine ⟨_, r2_bl, ?_⟩ | refine ⟨_, r2_addI, ?_⟩ | refine ⟨_, r2_eqI, ?_⟩ | refine ⟨_, r2_neI, ?_⟩ | refine ⟨_, r2_eqS, ?_⟩ | refine ⟨_, r2_neS, ?_⟩ | refine ⟨_, r2_isN, ?_⟩ | refine ⟨_, r1_neg, ?_⟩
  | refine ⟨_, rc_absI, ?_⟩ | refine ⟨_, rc_intI, ?_⟩ | refine ⟨_, rc_intB, ?_⟩ | refine ⟨_, rc_max, ?_⟩ | refine ⟨_, rc_min, ?_⟩ | refine ⟨_, rc_lenL, ?_⟩ | refine ⟨_, rc_lenT, ?_⟩ | refine ⟨_, rc_listL, ?_⟩ | refine ⟨_, rc_listT, ?_⟩ | refine ⟨_, rc_tupL, ?_⟩ | refine ⟨_, rc_tupT, ?_⟩
  | refine ⟨_, rfl, ?_⟩ | refine ⟨_, _, rfl, ?_⟩ | refine ⟨_, ⟨_, rfl, rfl⟩, ?_⟩ | refine ⟨_, ⟨_, _, rfl, rfl⟩, ?_⟩)
local macro_rules | `(tactic| walk_at "d") => `(tactic| repeat (first | walk_at "d1" | refine ⟨lenOk rfl, ?_⟩ | refine ⟨0, _, _, _, rfl, rfl, rfl, ?_⟩ | refine ⟨_, r2_ixXL rfl, ?_⟩ | refine ⟨_, r2_ixXT rfl, ?_⟩ | refine ⟨_, r2_ixXT at0, ?_⟩ | refine ⟨_, r2_ixXT at1, ?_⟩ | refine ⟨_, r2_ixXL at0, ?_⟩ | refine ⟨_, r2_ixXL at1, ?_⟩))
-- a condition whose truth comes out by computation
local macro_rules | `(tactic| walk_at "b1") => `(tactic| first
  | refine ⟨fun _ => ?_, fun h => Bool.noConfusion (show true = false from h)⟩
  | refine ⟨fun h => Bool.noConfusion (show false = true from h), fun _ => ?_⟩)
local macro_rules | `(tactic| walk_at "db") => `(tactic| repeat (first | walk_at "d1" | refine ⟨lenOk rfl, ?_⟩ | refine ⟨0, _, _, _, rfl, rfl, rfl, ?_⟩ | refine ⟨_, r2_ixXL rfl, ?_⟩ | refine ⟨_, r2_ixXT rfl, ?_⟩ | refine ⟨_, r2_ixXT at0, ?_⟩ | refine ⟨_, r2_ixXT at1, ?_⟩ | refine ⟨_, r2_ixXL at0, ?_⟩ | refine ⟨_, r2_ixXL at1, ?_⟩ | walk_at "b1"))
-- how many arguments there are
local macro_rules | `(tactic| walk_at "len") => `(tactic| (intro _ _ h; first
  | (obtain ⟨_, e, _⟩ := h; subst e; rfl) | (obtain ⟨_, _, e, _⟩ := h; subst e; rfl) | (obtain ⟨_, _, _, e, _⟩ := h; subst e; rfl) | (obtain ⟨_, _, _, _, e, _⟩ := h; subst e; rfl) | (obtain ⟨_, _, _, _, _, e, _⟩ := h; subst e; rfl)))
local macro_rules | `(tactic| walk_at "leno") => `(tactic| (intro _ _ h; first
  | (obtain ⟨⟨_, e, _⟩, _⟩ := h; subst e; rfl) | (obtain ⟨⟨_, _, e, _⟩, _⟩ := h; subst e; rfl) | (obtain ⟨e, _⟩ := h; subst e; rfl) | (obtain ⟨_, e, _⟩ := h; subst e; rfl) | (obtain ⟨_, _, e, _⟩ := h; subst e; rfl) | (obtain ⟨_, _, _, e, _⟩ := h; subst e; rfl) | (obtain ⟨_, _, _, _, e, _⟩ := h; subst e; rfl)))

variable {P : Program} {w : World} {K : PySem.W.Frag} {mg : Str → Option Value} {base : Heap}
/-! ### the law's own numbers -/
abbrev pT (a b : Int) : PyData := .tuple [.int a, .int b]
abbrev R_low (ds : List PyData) (d : PyData) : Prop := ∃ t b : Int, ds = [.int t, .int b] ∧ b ≠ 0 ∧ Bd 8900 t ∧ Bd 8900 b ∧ d = pT (redT t b) (redB t b)
theorem c_L_low (T : Top K w mg) : Cal P w K mg base "_law_low" 1 p_L_low (spP K R_low) :=
  T.h_L_low.call (fun _ _ _ _ _ _ us hl => match us, hl with | [_, _], _ => rfl) fun f fd F m => fn_pure F sc_L_low (by walk_at "len") fun cdv A outer s H E hr => ⟨_, (pss_cons (ps_par (i := 2) (j := 3) (by rfl) sc_L_low.nd rfl rfl (by decide) rfl rfl (pa_cons (pe_callB call_abs' (by rfl) T.m_abs (by decide +kernel) (pa_cons (pv 0) pa_nil)) (pa_cons (pe_callB call_abs' (by rfl) T.m_abs (by decide +kernel) (pa_cons (pv 1) pa_nil)) pa_nil)) (by rfl))
    (pss_cons (ps_while PassesOwn.never (pt_cmpR op_gt (pv 3) pe_int (nomark _))
    (pss_one (ps_par (i := 2) (j := 3) (by rfl) sc_L_low.nd rfl rfl (by decide) rfl rfl (pa_cons (pv 3) (pa_cons (pe_op op_modA (pe_callTy call_int1' (by rfl) T.m_int (by decide +kernel) (pa_cons (pv 2) pa_nil)) (pv 3)) pa_nil)) (by rfl))))
    (pss_cons (ps_set (i := 4) sc_L_low.nd rfl (.inl rfl) (pe_ifExp (pt_cmpR op_gt (pv 1) pe_int (nomark _)) pe_int (pe_un un_neg pe_int)))
    (pss_one (ps_ret (pe_tup (pa_cons (pe_op op_fdivA (pe_op op_mulW (pv 4) (pv 0)) (pv 2)) (pa_cons (pe_op op_fdivA (pe_callB call_abs' (by rfl) T.m_abs (by decide +kernel) (pa_cons (pv 1) pa_nil)) (pv 2)) pa_nil)))))))), fun ds d hR => by
    obtain ⟨x, y, rfl, h0, hx, hy, rfl⟩ := hR
    walk_at "d"
    rw [abs_if x, abs_if y]
    refine ws_via (fun ρ' β' => β' = [] ∧ ρ' = [.dat (.int x), .dat (.int y), .dat (.int (Int.gcd x y)), .dat (.int 0), .no]) ?_ ?_
    · refine ws_while (fun m ρ β => ∃ a b : Nat, ρ = [.dat (.int x), .dat (.int y), .dat (.int a), .dat (.int b), .no] ∧ m = b ∧ Nat.gcd a b = Int.gcd x y ∧ β = []) y.natAbs ⟨x.natAbs, y.natAbs, rfl, rfl, rfl, rfl⟩ ?_
      rintro b ρ' β' ⟨a, _, rfl, rfl, hg, rfl⟩
      walk_at "d"
      refine ⟨fun h => ?_, fun h => ?_⟩
      · have hb : b ≠ 0 := fun z => by subst z; cases h
        walk_at "d"
        refine ⟨_, r2_intC (by omega), ?_⟩
        walk_at "d"
        refine ⟨a % b, Nat.mod_lt _ (by omega), b, a % b, ?_, rfl, ?_⟩
        · rw [Int.fmod_eq_emod_of_nonneg _ (by omega)]
          rfl
        · rw [Nat.gcd_comm, ← Nat.gcd_rec, Nat.gcd_comm]
          exact ⟨hg, rfl⟩
      · have hb : b = 0 := by
          simp at h
          omega
        subst hb
        rw [Nat.gcd_zero_right] at hg
        rw [hg]
        exact ⟨rfl, rfl⟩
    · rintro ρ' β' ⟨rfl, rfl⟩
      walk_at "d"
      have hgp := gcd_pos (t := x) h0
      have hgb : Bd 8900 (Int.gcd x y : Int) := hy.le (Nat.le_of_dvd (by omega) (Int.gcd_dvd_natAbs_right ..))
      have fin : ∀ sg : Int, sg = (if y > 0 then 1 else -1) → PyData.tuple [.int ((sg * x).fdiv (Int.gcd x y)), .int ((if y < 0 then -y else y).fdiv (Int.gcd x y))] = pT (redT x y) (redB x y) := fun sg e => by
        rw [e, low_t h0, abs_if y, low_b h0]
      refine ⟨fun h => ?_, fun h => ?_⟩
      all_goals
        walk_at "d"
        refine ⟨_, r2_intC (mulOk (bd8 (n := 8)) hx), ?_⟩
        walk_at "d"
        refine ⟨_, r2_intC (divOk (by omega) hgb), ?_⟩
        walk_at "d"
        refine ⟨_, r2_intC (divOk (by omega) hgb), ?_⟩
        walk_at "d"
      · exact fin 1 (by rw [if_pos (of_decide_eq_true h)])
      · exact fin (-1) (by rw [if_neg (of_decide_eq_false h)])⟩
abbrev R_lpair (ds : List PyData) (d : PyData) : Prop := ∃ a b : Int, ds = [numD a b] ∧ d = pT a b
theorem c_L_pair (T : Top K w mg) : Cal P w K mg base "_law_pair" 1 p_L_pair (spP K R_lpair) :=
  T.h_L_pair.call (fun _ _ _ _ _ _ us hl => match us, hl with | [_], _ => rfl) fun f fd F m => fn_pure F sc_L_pair (by walk_at "len") fun cdv A outer s H E hr => ⟨_, (pss_one (ps_ret (pe_ifExp (pt_val (pe_callB (call_isiXK (K := K) rfl) (by rfl) T.m_isinstance (by decide +kernel) (pa_cons (pv 0) (pa_cons (pe_ty "tuple" (by rfl) T.m_tuple (by decide +kernel)) pa_nil)))) (pv 0) (pe_tup (pa_cons (pv 0) (pa_cons pe_int pa_nil)))))), fun ds d hR => by
    obtain ⟨a, b, rfl, rfl⟩ := hR
    rcases num_cases a b with ⟨e, h⟩ | ⟨e, h⟩ <;> rw [e] <;> walk_at "db"
    · rw [h]
    · rfl⟩
abbrev R_lnum (ds : List PyData) (d : PyData) : Prop := ∃ a b : Int, ds = [pT a b] ∧ d = numD a b
theorem c_L_num (T : Top K w mg) : Cal P w K mg base "_law_num" 1 p_L_num (spP K R_lnum) :=
  T.h_L_num.call (fun _ _ _ _ _ _ us hl => match us, hl with | [_], _ => rfl) fun f fd F m => fn_pure F sc_L_num (by walk_at "len") fun cdv A outer s H E hr => ⟨_, (pss_one (ps_ret (pe_ifExp (pt_cmpR (op_eqXK (K := K) rfl hr.units) (pe_ix (ix_XK (K := K) rfl) (pv 0) pe_int (fun _ _ => rfl)) pe_int (nomark _)) (pe_ix (ix_XK (K := K) rfl) (pv 0) pe_int (fun _ _ => rfl)) (pv 0)))), fun ds d hR => by
    obtain ⟨a, b, rfl, rfl⟩ := hR
    walk_at "d"
    refine ⟨fun q => ?_, fun q => ?_⟩ <;> walk_at "d"
    · exact num_y q
    · exact num_n q⟩
abbrev R_l2 (f g : Int → Int → Int → Int → Int) (ds : List PyData) (d : PyData) : Prop := ∃ a b c e : Int, ds = [pT a b, pT c e] ∧ Nq a b ∧ Nq c e ∧ d = pT (redT (f a b c e) (g a b c e)) (redB (f a b c e) (g a b c e))
abbrev R_lplus := R_l2 (fun a b c e => a * e + c * b) (fun a b c e => b * e)
abbrev R_lminus := R_l2 (fun a b c e => a * e - c * b) (fun a b c e => b * e)
abbrev R_ltimes := R_l2 (fun a b c e => a * c) (fun a b c e => b * e)
abbrev R_lover (ds : List PyData) (d : PyData) : Prop := ∃ a b c e : Int, ds = [pT a b, pT c e] ∧ Nq a b ∧ Nq c e ∧ c ≠ 0 ∧ d = pT (redT (a * e) (b * c)) (redB (a * e) (b * c))
abbrev R_lless (ds : List PyData) (d : PyData) : Prop := ∃ a b c e : Int, ds = [pT a b, pT c e] ∧ Nq a b ∧ Nq c e ∧ d = .bool (decide (a * e < c * b))
theorem c_L_plus (T : Top K w mg) : Cal P w K mg base "_law_plus" 2 p_L_plus (spP K R_lplus) :=
  T.h_L_plus.call (fun _ _ _ _ _ _ us hl => match us, hl with | [_, _], _ => rfl) fun f fd F m => fn_pure F sc_L_plus (by walk_at "len") fun cdv A outer s H E hr => ⟨_, (pss_one (ps_ret (pe_cal (c_L_low (P := P) (w := w) (K := K) (mg := mg) (base := base) T) (hr.mono (by omega)) (by rfl) (pa_cons (pe_op (op_addXK (K := K) rfl) (pe_op op_mulW (pe_ix (ix_XK (K := K) rfl) (pv 0) pe_int (fun _ _ => rfl)) (pe_ix (ix_XK (K := K) rfl) (pv 1) pe_int (fun _ _ => rfl))) (pe_op op_mulW (pe_ix (ix_XK (K := K) rfl) (pv 1) pe_int (fun _ _ => rfl)) (pe_ix (ix_XK (K := K) rfl) (pv 0) pe_int (fun _ _ => rfl)))) (pa_cons (pe_op op_mulW (pe_ix (ix_XK (K := K) rfl) (pv 0) pe_int (fun _ _ => rfl)) (pe_ix (ix_XK (K := K) rfl) (pv 1) pe_int (fun _ _ => rfl))) pa_nil))))), fun ds d hR => by
    obtain ⟨a, b, c, e, rfl, h1, h2, rfl⟩ := hR
    walk_at "d"
    refine ⟨_, r2_intC (mulOk h1.t h2.b), ?_⟩
    walk_at "d"
    refine ⟨_, r2_intC (mulOk h2.t h1.b), ?_⟩
    walk_at "d"
    refine ⟨_, r2_intC (mulOk h1.b h2.b), ?_⟩
    walk_at "d"
    exact ⟨_, ⟨_, _, rfl, Int.mul_ne_zero h1.ne h2.ne, ((h1.t.mul h2.b).add (h2.t.mul h1.b)).mono (by decide), (h1.b.mul h2.b).mono (by decide), rfl⟩, rfl⟩⟩
theorem c_L_minus (T : Top K w mg) : Cal P w K mg base "_law_minus" 2 p_L_minus (spP K R_lminus) :=
  T.h_L_minus.call (fun _ _ _ _ _ _ us hl => match us, hl with | [_, _], _ => rfl) fun f fd F m => fn_pure F sc_L_minus (by walk_at "len") fun cdv A outer s H E hr => ⟨_, (pss_one (ps_ret (pe_cal (c_L_low (P := P) (w := w) (K := K) (mg := mg) (base := base) T) (hr.mono (by omega)) (by rfl) (pa_cons (pe_op op_sub (pe_op op_mulW (pe_ix (ix_XK (K := K) rfl) (pv 0) pe_int (fun _ _ => rfl)) (pe_ix (ix_XK (K := K) rfl) (pv 1) pe_int (fun _ _ => rfl))) (pe_op op_mulW (pe_ix (ix_XK (K := K) rfl) (pv 1) pe_int (fun _ _ => rfl)) (pe_ix (ix_XK (K := K) rfl) (pv 0) pe_int (fun _ _ => rfl)))) (pa_cons (pe_op op_mulW (pe_ix (ix_XK (K := K) rfl) (pv 0) pe_int (fun _ _ => rfl)) (pe_ix (ix_XK (K := K) rfl) (pv 1) pe_int (fun _ _ => rfl))) pa_nil))))), fun ds d hR => by
    obtain ⟨a, b, c, e, rfl, h1, h2, rfl⟩ := hR
    walk_at "d"
    refine ⟨_, r2_intC (mulOk h1.t h2.b), ?_⟩
    walk_at "d"
    refine ⟨_, r2_intC (mulOk h2.t h1.b), ?_⟩
    walk_at "d"
    refine ⟨_, r2_intC (mulOk h1.b h2.b), ?_⟩
    walk_at "d"
    exact ⟨_, ⟨_, _, rfl, Int.mul_ne_zero h1.ne h2.ne, ((h1.t.mul h2.b).sub (h2.t.mul h1.b)).mono (by decide), (h1.b.mul h2.b).mono (by decide), rfl⟩, rfl⟩⟩
theorem c_L_times (T : Top K w mg) : Cal P w K mg base "_law_times" 2 p_L_times (spP K R_ltimes) :=
  T.h_L_times.call (fun _ _ _ _ _ _ us hl => match us, hl with | [_, _], _ => rfl) fun f fd F m => fn_pure F sc_L_times (by walk_at "len") fun cdv A outer s H E hr => ⟨_, (pss_one (ps_ret (pe_cal (c_L_low (P := P) (w := w) (K := K) (mg := mg) (base := base) T) (hr.mono (by omega)) (by rfl) (pa_cons (pe_op op_mulW (pe_ix (ix_XK (K := K) rfl) (pv 0) pe_int (fun _ _ => rfl)) (pe_ix (ix_XK (K := K) rfl) (pv 1) pe_int (fun _ _ => rfl))) (pa_cons (pe_op op_mulW (pe_ix (ix_XK (K := K) rfl) (pv 0) pe_int (fun _ _ => rfl)) (pe_ix (ix_XK (K := K) rfl) (pv 1) pe_int (fun _ _ => rfl))) pa_nil))))), fun ds d hR => by
    obtain ⟨a, b, c, e, rfl, h1, h2, rfl⟩ := hR
    walk_at "d"
    refine ⟨_, r2_intC (mulOk h1.t h2.t), ?_⟩
    walk_at "d"
    refine ⟨_, r2_intC (mulOk h1.b h2.b), ?_⟩
    walk_at "d"
    exact ⟨_, ⟨_, _, rfl, Int.mul_ne_zero h1.ne h2.ne, (h1.t.mul h2.t).mono (by decide), (h1.b.mul h2.b).mono (by decide), rfl⟩, rfl⟩⟩
theorem c_L_over (T : Top K w mg) : Cal P w K mg base "_law_over" 2 p_L_over (spP K R_lover) :=
  T.h_L_over.call (fun _ _ _ _ _ _ us hl => match us, hl with | [_, _], _ => rfl) fun f fd F m => fn_pure F sc_L_over (by walk_at "len") fun cdv A outer s H E hr => ⟨_, (pss_one (ps_ret (pe_cal (c_L_low (P := P) (w := w) (K := K) (mg := mg) (base := base) T) (hr.mono (by omega)) (by rfl) (pa_cons (pe_op op_mulW (pe_ix (ix_XK (K := K) rfl) (pv 0) pe_int (fun _ _ => rfl)) (pe_ix (ix_XK (K := K) rfl) (pv 1) pe_int (fun _ _ => rfl))) (pa_cons (pe_op op_mulW (pe_ix (ix_XK (K := K) rfl) (pv 0) pe_int (fun _ _ => rfl)) (pe_ix (ix_XK (K := K) rfl) (pv 1) pe_int (fun _ _ => rfl))) pa_nil))))), fun ds d hR => by
    obtain ⟨a, b, c, e, rfl, h1, h2, hc, rfl⟩ := hR
    walk_at "d"
    refine ⟨_, r2_intC (mulOk h1.t h2.b), ?_⟩
    walk_at "d"
    refine ⟨_, r2_intC (mulOk h1.b h2.t), ?_⟩
    walk_at "d"
    exact ⟨_, ⟨_, _, rfl, Int.mul_ne_zero h1.ne hc, (h1.t.mul h2.b).mono (by decide), (h1.b.mul h2.t).mono (by decide), rfl⟩, rfl⟩⟩
theorem c_L_less (T : Top K w mg) : Cal P w K mg base "_law_less" 2 p_L_less (spP K R_lless) :=
  T.h_L_less.call (fun _ _ _ _ _ _ us hl => match us, hl with | [_, _], _ => rfl) fun f fd F m => fn_pure F sc_L_less (by walk_at "len") fun cdv A outer s H E hr => ⟨_, (pss_one (ps_ret (pe_cmpR op_lt (pe_op op_mulW (pe_ix (ix_XK (K := K) rfl) (pv 0) pe_int (fun _ _ => rfl)) (pe_ix (ix_XK (K := K) rfl) (pv 1) pe_int (fun _ _ => rfl))) (pe_op op_mulW (pe_ix (ix_XK (K := K) rfl) (pv 1) pe_int (fun _ _ => rfl)) (pe_ix (ix_XK (K := K) rfl) (pv 0) pe_int (fun _ _ => rfl))) (nomark _)))), fun ds d hR => by
    obtain ⟨a, b, c, e, rfl, h1, h2, rfl⟩ := hR
    walk_at "d"
    refine ⟨_, r2_intC (mulOk h1.t h2.b), ?_⟩
    walk_at "d"
    refine ⟨_, r2_intC (mulOk h2.t h1.b), ?_⟩
    walk_at "d"
    rfl⟩
end K77

set_option Elab.async false
set_option linter.all false
set_option maxRecDepth 100000
set_option pp.deepTerms false
set_option pp.deepTerms.threshold 6
set_option maxHeartbeats 4000000
namespace K77
open PySem PySem.Spec PyProof.Rows L2 DS
-- the steps that need no thought: one, as many as there are
local macro_rules | `(tactic| walk_at "d1") => `(tactic| with_reducible first
  | refine ws_seq ?_ | refine ws_next ?_ | refine ws_retN ?_ | refine ws_ret ?_ | refine ws_if ?_ | refine ws_par ?_ | refine ws_setK ?_ | refine ws_newD ?_ | refine wp_cons ?_ | refine wp_nil ?_ | refine ws_set ?_ | refine ws_star ?_ | refine ws_setO rfl ?_ | apply ws_asg
  | refine we_var rfl ?_ | refine we_int ?_ | refine we_bl ?_ | refine we_str ?_ | refine we_non ?_ | refine we_kd ?_ | refine we_ixO rfl ?_
  | refine we_isi isg_int ?_ | refine we_isi isg_bool ?_ | refine we_isi isg_str ?_ | refine we_isi isg_list ?_ | refine we_isi isg_tuple ?_ | refine we_isi2 isg_list isg_tuple ?_ | refine we_isi2 isg_int isg_tuple ?_
  | refine we_inK ?_ | refine we_ixK ?_ | refine we_op ?_ | refine we_un ?_ | refine we_cb ?_ | refine we_tup ?_ | refine we_lst ?_ | refine we_andV ?_ | refine we_orV ?_ | refine we_notV ?_ | refine we_if ?_ | refine we_chain ?_ | refine we_sl ?_ | refine we_call ?_
  | refine wa_nil ?_ | refine wa_cons ?_ | refine wo_none ?_ | refine wo_some ?_ | refine wt_test ?_ | refine wt_B ?_ | refine wt_and ?_ | refine wt_or ?_ | refine wt_not ?_
  | refine wg_tup rfl ?_ | refine wgs_cons ?_ | refine wgs_nil ?_ | refine wg_name ?_
  | refine ⟨_, r2_int, ?_⟩ | refine ⟨_, r2_bl, ?_⟩ | refine ⟨_, r2_addI, ?_⟩ | refine ⟨_, r2_eqI, ?_⟩ | refine ⟨_, r2_neI, ?_⟩ | refine ⟨_, r2_eqS, ?_⟩ | refine ⟨_, r2_neS, ?_⟩ | refine ⟨_, r2_isN, ?_⟩ | refine ⟨_, r1_neg, ?_⟩
  | refine ⟨_, rc_absI, ?_⟩ | refine ⟨_, rc_intI, ?_⟩ | refine ⟨_, rc_intB, ?_⟩ | refine ⟨_, rc_max, ?_⟩ | refine ⟨_, rc_min, ?_⟩ | refine ⟨_, rc_lenL, ?_⟩ | refine ⟨_, rc_lenT, ?_⟩ | refine ⟨_, rc_listL, ?_⟩ | refine ⟨_, rc_listT, ?_⟩ | refine ⟨_, rc_tupL, ?_⟩ | refine ⟨_, rc_tupT, ?_⟩
  | refine ⟨_, rfl, ?_⟩ | refine ⟨_, _, rfl, ?_⟩ | refine ⟨_, ⟨_, rfl, rfl⟩, ?_⟩ | refine ⟨_, ⟨_, _, rfl, rfl⟩, ?_⟩)
local macro_rules | `(tactic| walk_at "d") => `(tactic| repeat (first | walk_at "d1" | refine ⟨lenOk rfl, ?_⟩ | refine ⟨0, _, _, _, rfl, rfl, rfl, ?_⟩ | refine ⟨_, r2_ixXL rfl, ?_⟩ | refine ⟨_, r2_ixXT rfl, ?_⟩ | refine ⟨_, r2_ixXT at0, ?_⟩ | refine ⟨_, r2_ixXT at1, ?_⟩ | refine ⟨_, r2_ixXL at0, ?_⟩ | refine ⟨_, r2_ixXL at1, ?_⟩))
-- a condition whose truth comes out by computation
local macro_rules | `(tactic| walk_at "b1") => `(tactic| first
  | refine ⟨fun _ => ?_, fun h => Bool.noConfusion (show true = false from h)⟩
  | refine ⟨fun h => Bool.noConfusion (show false = true from h), fun _ => ?_⟩)
local macro_rules | `(tactic| walk_at "db") => `(tactic| repeat (first | walk_at "d1" | refine ⟨lenOk rfl, ?_⟩ | refine ⟨0, _, _, _, rfl, rfl, rfl, ?_⟩ | refine ⟨_, r2_ixXL rfl, ?_⟩ | refine ⟨_, r2_ixXT rfl, ?_⟩ | refine ⟨_, r2_ixXT at0, ?_⟩ | refine ⟨_, r2_ixXT at1, ?_⟩ | refine ⟨_, r2_ixXL at0, ?_⟩ | refine ⟨_, r2_ixXL at1, ?_⟩ | walk_at "b1"))
-- how many arguments there are
local macro_rules | `(tactic| walk_at "len") => `(tactic| (intro _ _ h; first
  | (obtain ⟨_, e, _⟩ := h; subst e; rfl) | (obtain ⟨_, _, e, _⟩ := h; subst e; rfl) | (obtain ⟨_, _, _, e, _⟩ := h; subst e; rfl) | (obtain ⟨_, _, _, _, e, _⟩ := h; subst e; rfl) | (obtain ⟨_, _, _, _, _, e, _⟩ := h; subst e; rfl)))
local macro_rules | `(tactic| walk_at "leno") => `(tactic| (intro _ _ h; first
  | (obtain ⟨⟨_, e, _⟩, _⟩ := h; subst e; rfl) | (obtain ⟨⟨_, _, e, _⟩, _⟩ := h; subst e; rfl) | (obtain ⟨e, _⟩ := h; subst e; rfl) | (obtain ⟨_, e, _⟩ := h; subst e; rfl) | (obtain ⟨_, _, e, _⟩ := h; subst e; rfl) | (obtain ⟨_, _, _, e, _⟩ := h; subst e; rfl) | (obtain ⟨_, _, _, _, e, _⟩ := h; subst e; rfl)))

variable {P : Program} {w : World} {K : PySem.W.Frag} {mg : Str → Option Value} {base : Heap}
theorem p60 : (10 : Int) ^ Int.toNat 60 = G60 := by rw [g60_eq, show Int.toNat 60 = 60 from rfl]
theorem r2_p60 : R2D K (rI CPow fun i j => .int (i ^ j.toNat)) (.int 10) (.int 60) (.int G60) := by
  have h : R2D K (rI CPow fun i j => .int (i ^ j.toNat)) (.int 10) (.int 60) (.int (10 ^ Int.toNat 60)) := r2_intC ⟨by decide, by decide, by decide⟩
  rwa [p60] at h
abbrev R_great (ds : List PyData) (d : PyData) : Prop := ∃ a b : Int, ds = [pT a b] ∧ 0 < b ∧ d = .bool (!smB a b)
theorem great_or {a b : Int} (hb : 0 < b) : (!smB a b) = (decide ((a.natAbs : Int) ≥ G60) || decide (b ≥ G60)) := by
  unfold smB smI
  rw [show (b.natAbs : Int) = b by omega]
  by_cases h1 : (a.natAbs : Int) < G60 <;> by_cases h2 : b < G60 <;> simp [h1, h2] <;> omega
theorem c_L_great (T : Top K w mg) : Cal P w K mg base "_law_great" 1 p_L_great (spP K R_great) :=
  T.h_L_great.call (fun _ _ _ _ _ _ us hl => match us, hl with | [_], _ => rfl) fun f fd F m => fn_pure F sc_L_great (by walk_at "len") fun cdv A outer s H E hr => ⟨_, (pss_one (ps_ret (pe_or (pe_cmpR op_ge (pe_callB call_abs' (by rfl) T.m_abs (by decide +kernel) (pa_cons (pe_ix (ix_XK (K := K) rfl) (pv 0) pe_int (fun _ _ => rfl)) pa_nil)) (pe_op op_pow pe_int pe_int) (nomark _)) (pe_one (pe_cmpR op_ge (pe_ix (ix_XK (K := K) rfl) (pv 0) pe_int (fun _ _ => rfl)) (pe_op op_pow pe_int pe_int) (nomark _)))))), fun ds d hR => by
    obtain ⟨a, b, rfl, hb, rfl⟩ := hR
    rw [great_or hb]
    walk_at "d"
    refine ⟨_, r2_p60, ?_⟩
    walk_at "d"
    rw [abs_if a]
    refine ⟨fun h => ?_, fun h => ?_⟩
    · rw [h]; rfl
    · rw [h]
      walk_at "d"
      refine ⟨_, r2_p60, ?_⟩
      walk_at "d"
      rfl⟩
def pO : Option (Int × Int) → PyData
  | none => .none
  | some p => pT p.1 p.2
theorem pO_some {p : Int × Int} : pO (some p) = pT p.1 p.2 := rfl
abbrev R_answer (ds : List PyData) (d : PyData) : Prop := ∃ o, ds = [pO o] ∧ d = ansD o
theorem c_L_answer (T : Top K w mg) : Cal P w K mg base "_law_answer" 2 p_L_answer (spP K R_answer) :=
  T.h_L_answer.call (fun _ _ _ _ _ _ us hl => match us, hl with | [_], _ => rfl) fun f fd F m => fn_pure F sc_L_answer (by walk_at "len") fun cdv A outer s H E hr => ⟨_, (pss_one (ps_ret (pe_ifExp (pt_cmpR op_isNo (pv 0) pe_non (nomark _)) pe_non (pe_cal (c_L_num (P := P) (w := w) (K := K) (mg := mg) (base := base) T) (hr.mono (by omega)) (by rfl) (pa_cons (pv 0) pa_nil))))), fun ds d hR => by
    obtain ⟨o, rfl, rfl⟩ := hR
    cases o with
    | none => walk_at "db"; rfl
    | some p =>
      rw [pO_some]
      walk_at "db"
      rfl⟩
abbrev R_lone (ds : List PyData) (d : PyData) : Prop := ∃ (z : Str) (a b : Int), ds = [.str z, pT a b] ∧ z ∈ w1 ∧ Ns a b ∧ d = pT (f1 z a b).1 (f1 z a b).2
theorem c_L_one (T : Top K w mg) : Cal P w K mg base "_law_one" 1 p_L_one (spP K R_lone) :=
  T.h_L_one.call (fun _ _ _ _ _ _ us hl => match us, hl with | [_, _], _ => rfl) fun f fd F m => fn_pure F sc_L_one (by walk_at "len") fun cdv A outer s H E hr => ⟨_, (pss_cons (ps_if (pt_cmpR (op_eqXK (K := K) rfl hr.units) (pv 0) pe_str (nomark _)) (pss_one (ps_ret (pe_tup (pa_cons (pe_callTy call_int1' (by rfl) T.m_int (by decide +kernel) (pa_cons (pe_cmpR (op_eqXK (K := K) rfl hr.units) (pe_ix (ix_XK (K := K) rfl) (pv 1) pe_int (fun _ _ => rfl)) pe_int (nomark _)) pa_nil)) (pa_cons pe_int pa_nil))))) pss_nil)
    (pss_cons (ps_if (pt_cmpR (op_eqXK (K := K) rfl hr.units) (pv 0) pe_str (nomark _)) (pss_one (ps_ret (pe_tup (pa_cons (pe_op op_sub pe_int (pe_ix (ix_XK (K := K) rfl) (pv 1) pe_int (fun _ _ => rfl))) (pa_cons (pe_ix (ix_XK (K := K) rfl) (pv 1) pe_int (fun _ _ => rfl)) pa_nil))))) pss_nil)
    (pss_cons (ps_if (pt_cmpR (op_eqXK (K := K) rfl hr.units) (pv 0) pe_str (nomark _)) (pss_one (ps_ret (pe_tup (pa_cons (pe_callB call_abs' (by rfl) T.m_abs (by decide +kernel) (pa_cons (pe_ix (ix_XK (K := K) rfl) (pv 1) pe_int (fun _ _ => rfl)) pa_nil)) (pa_cons (pe_ix (ix_XK (K := K) rfl) (pv 1) pe_int (fun _ _ => rfl)) pa_nil))))) pss_nil)
    (pss_cons (ps_set (i := 2) sc_L_one.nd rfl (.inl rfl) (pe_ifExp (pt_cmpR (op_eqXK (K := K) rfl hr.units) (pv 0) pe_str (nomark _)) (pe_op op_fdivA (pe_ix (ix_XK (K := K) rfl) (pv 1) pe_int (fun _ _ => rfl)) (pe_op op_mulW pe_int (pe_ix (ix_XK (K := K) rfl) (pv 1) pe_int (fun _ _ => rfl)))) (pe_op op_sub pe_int (pe_op op_fdivA (pe_op op_sub pe_int (pe_ix (ix_XK (K := K) rfl) (pv 1) pe_int (fun _ _ => rfl))) (pe_op op_mulW pe_int (pe_ix (ix_XK (K := K) rfl) (pv 1) pe_int (fun _ _ => rfl)))))))
    (pss_one (ps_ret (pe_tup (pa_cons (pe_op op_mulW pe_int (pv 2)) (pa_cons pe_int pa_nil))))))))), fun ds d hR => by
    obtain ⟨z, a, b, rfl, hz, hn, rfl⟩ := hR
    have hp := hn.nm.pos
    have hb64 : Bd 208 (64 * b) := (bd8 (n := 8)).mul hn.b
    simp [w1] at hz
    rcases hz with rfl | rfl | rfl | rfl | rfl
    · walk_at "db"
      rfl
    · walk_at "db"
      rw [abs_if a]
      rfl
    · walk_at "db"
      refine ⟨_, r2_intC (mulOk (bd8 (n := 8)) hn.b), ?_⟩
      walk_at "d"
      refine ⟨_, r2_intC (divOk (by omega) hb64), ?_⟩
      walk_at "d"
      refine ⟨_, r2_intC (mulOk (bd8 (n := 8)) (hn.t.le (fdiv_le _ (by omega)))), ?_⟩
      walk_at "d"
      rfl
    · walk_at "db"
      refine ⟨_, r2_intC (mulOk (bd8 (n := 8)) hn.b), ?_⟩
      walk_at "d"
      refine ⟨_, r2_intC (divOk (by omega) hb64), ?_⟩
      walk_at "d"
      have hq := bd_neg ((bd_neg hn.t).le (fdiv_le (0 - a) (b := 64 * b) (by omega)))
      refine ⟨_, r2_intC (mulOk (bd8 (n := 8)) hq), ?_⟩
      walk_at "d"
      rw [show 64 * (0 - (0 - a).fdiv (64 * b)) = 0 - 64 * (0 - a).fdiv (64 * b) by omega]
      rfl
    · walk_at "db"
      rw [dec_if]
      rfl⟩
/-! ### of two numbers -/
theorem f2_both {a b c e : Int} : f2 "both" a b c e = (if a ≠ 0 ∧ c ≠ 0 then 1 else 0, 1) := rfl
theorem f2_either {a b c e : Int} : f2 "either" a b c e = (if a ≠ 0 ∨ c ≠ 0 then 1 else 0, 1) := rfl
theorem dep_pT {a b : Int} : (pT a b).depth ≤ 64 := by simp [PyData.depth, PyData.depthAll]
theorem eqv_pT {a b c e : Int} : PyData.eqv (pT a b) (pT c e) = decide (a = c ∧ b = e) := by
  rw [Bool.eq_iff_iff, decide_eq_true_eq]
  simp [PyData.eqv, PyData.eqvAll]
--%%SPECIAL {'dictvar': (('_law_two', 'truths'),)}
abbrev R_ltwo (ds : List PyData) (d : PyData) : Prop := ∃ (z : Str) (a b c e : Int), ds = [.str z, pT a b, pT c e] ∧ z ∈ w2 ∧ Ns a b ∧ Ns c e ∧ d = if z = "over" ∧ c = 0 then .none else pT (f2 z a b c e).1 (f2 z a b c e).2
theorem c_L_two (T : Top K w mg) : Cal P w K mg base "_law_two" 3 p_L_two (spP K R_ltwo) :=
  T.h_L_two.call (fun _ _ _ _ _ _ us hl => match us, hl with | [_, _, _], _ => rfl) fun f fd F m => fn_pure F sc_L_two (by walk_at "len") fun cdv A outer s H E hr => ⟨_, (pss_cons (ps_if (pt_cmpR (op_eqXK (K := K) rfl hr.units) (pv 0) pe_str (nomark _)) (pss_one (ps_ret (pe_cal (c_L_plus (P := P) (w := w) (K := K) (mg := mg) (base := base) T) (hr.mono (by omega)) (by rfl) (pa_cons (pv 1) (pa_cons (pv 2) pa_nil))))) pss_nil)
    (pss_cons (ps_if (pt_cmpR (op_eqXK (K := K) rfl hr.units) (pv 0) pe_str (nomark _)) (pss_one (ps_ret (pe_cal (c_L_minus (P := P) (w := w) (K := K) (mg := mg) (base := base) T) (hr.mono (by omega)) (by rfl) (pa_cons (pv 1) (pa_cons (pv 2) pa_nil))))) pss_nil)
    (pss_cons (ps_if (pt_cmpR (op_eqXK (K := K) rfl hr.units) (pv 0) pe_str (nomark _)) (pss_one (ps_ret (pe_cal (c_L_times (P := P) (w := w) (K := K) (mg := mg) (base := base) T) (hr.mono (by omega)) (by rfl) (pa_cons (pv 1) (pa_cons (pv 2) pa_nil))))) pss_nil)
    (pss_cons (ps_if (pt_cmpR (op_eqXK (K := K) rfl hr.units) (pv 0) pe_str (nomark _)) (pss_one (ps_ret (pe_ifExp (pt_cmpR (op_eqXK (K := K) rfl hr.units) (pe_ix (ix_XK (K := K) rfl) (pv 2) pe_int (fun _ _ => rfl)) pe_int (nomark _)) pe_non (pe_cal (c_L_over (P := P) (w := w) (K := K) (mg := mg) (base := base) T) (hr.mono (by omega)) (by rfl) (pa_cons (pv 1) (pa_cons (pv 2) pa_nil)))))) pss_nil)
    (pss_cons (ps_set (i := 3) sc_L_two.nd rfl (.inl rfl) (pe_disp (pps_cons pe_str (pe_cal (c_L_less (P := P) (w := w) (K := K) (mg := mg) (base := base) T) (hr.mono (by omega)) (by rfl) (pa_cons (pv 1) (pa_cons (pv 2) pa_nil))) (pps_cons pe_str (pe_cal (c_L_less (P := P) (w := w) (K := K) (mg := mg) (base := base) T) (hr.mono (by omega)) (by rfl) (pa_cons (pv 2) (pa_cons (pv 1) pa_nil))) (pps_cons pe_str (pe_cmpR (op_eqXK (K := K) rfl hr.units) (pv 1) (pv 2) (nomark _)) pps_nil))) (by rfl) (by rfl) (by intro h; cases h) (by decide)))
    (pss_cons (ps_asg (pe_tup (pa_cons (pe_and (pe_cmpR (op_neXK (K := K) rfl hr.units) (pe_ix (ix_XK (K := K) rfl) (pv 1) pe_int (fun _ _ => rfl)) pe_int (nomark _)) (pe_one (pe_cmpR (op_neXK (K := K) rfl hr.units) (pe_ix (ix_XK (K := K) rfl) (pv 2) pe_int (fun _ _ => rfl)) pe_int (nomark _)))) (pa_cons (pe_or (pe_cmpR (op_neXK (K := K) rfl hr.units) (pe_ix (ix_XK (K := K) rfl) (pv 1) pe_int (fun _ _ => rfl)) pe_int (nomark _)) (pe_one (pe_cmpR (op_neXK (K := K) rfl hr.units) (pe_ix (ix_XK (K := K) rfl) (pv 2) pe_int (fun _ _ => rfl)) pe_int (nomark _)))) pa_nil))) (pg_tupK (K := K) (n := 2) rfl (by rfl) (pgs_cons (pg_sub (pv 3) pe_str (set_dict (room1 hr))) (pgs_cons (pg_sub (pv 3) pe_str (set_dict (room1 hr))) pgs_nil))))
    (pss_one (ps_ret (pe_tup (pa_cons (pe_callTy call_int1' (by rfl) T.m_int (by decide +kernel) (pa_cons (pe_dget (room1 hr) (pv 3) (pv 0) (fun _ _ => rfl)) pa_nil)) (pa_cons pe_int pa_nil))))))))))), fun ds d hR => by
    obtain ⟨z, a, b, c, e, rfl, hz, h1, h2, rfl⟩ := hR
    have hcase : z = "plus" ∨ z = "minus" ∨ z = "times" ∨ z = "over" ∨ z ∈ [("lesser" : Str), "greater", "same", "both", "either"] := by
      simp [w2] at hz
      rcases hz with rfl | rfl | rfl | rfl | rfl | rfl | rfl | rfl | rfl <;> simp
    rcases hcase with rfl | rfl | rfl | rfl | hz2
    · walk_at "db"
      refine ⟨_, ⟨_, _, _, _, rfl, h1.q, h2.q, rfl⟩, ?_⟩
      rw [if_neg (by rintro ⟨q, _⟩; revert q; decide)]
      rfl
    · walk_at "db"
      refine ⟨_, ⟨_, _, _, _, rfl, h1.q, h2.q, rfl⟩, ?_⟩
      rw [if_neg (by rintro ⟨q, _⟩; revert q; decide)]
      rfl
    · walk_at "db"
      refine ⟨_, ⟨_, _, _, _, rfl, h1.q, h2.q, rfl⟩, ?_⟩
      rw [if_neg (by rintro ⟨q, _⟩; revert q; decide)]
      rfl
    · walk_at "db"
      refine ⟨fun h => ?_, fun h => ?_⟩
      · walk_at "d"
        rw [if_pos ⟨rfl, of_decide_eq_true h⟩]
      · have hc := of_decide_eq_false h
        walk_at "d"
        refine ⟨_, ⟨_, _, _, _, rfl, h1.q, h2.q, hc, rfl⟩, ?_⟩
        rw [if_neg fun q => hc q.2]
        rfl
    · rw [if_neg (by
        rintro ⟨q, _⟩
        subst q
        revert hz2
        decide)]
      have n1 : z ≠ "plus" := by rintro rfl; revert hz2; decide
      have n2 : z ≠ "minus" := by rintro rfl; revert hz2; decide
      have n3 : z ≠ "times" := by rintro rfl; revert hz2; decide
      have n4 : z ≠ "over" := by rintro rfl; revert hz2; decide
      walk_at "d"
      rw [dec_ne n1]
      walk_at "db"
      rw [dec_ne n2]
      walk_at "db"
      rw [dec_ne n3]
      walk_at "db"
      rw [dec_ne n4]
      walk_at "db"
      refine ⟨_, ⟨_, _, _, _, rfl, h1.q, h2.q, rfl⟩, ?_⟩
      walk_at "d"
      refine ⟨_, ⟨_, _, _, _, rfl, h2.q, h1.q, rfl⟩, ?_⟩
      walk_at "d"
      refine ⟨_, r2_eqE (Nat.le_trans (Nat.min_le_right _ _) dep_pT), ?_⟩
      rw [eqv_pT]
      walk_at "d"
      refine ⟨[(.inr "lesser", .bool (decide (a * e < c * b))), (.inr "greater", .bool (decide (c * b < a * e))), (.inr "same", .bool (decide (a = c ∧ b = e)))], rfl, Nat.le_of_ble_eq_true rfl, fun p hp => ?_⟩
      refine ws_seq (ws_put2 (j := 0) rfl ?_)
      simp [w2] at hz2
      by_cases ha : a = 0 <;> by_cases hc : c = 0
      · have ea : decide (a = 0) = true := decide_eq_true ha
        have ec : decide (c = 0) = true := decide_eq_true hc
        walk_at "d"
        repeat (first | rw [ea] | rw [ec]
                walk_at "db")
        refine ⟨_, _, _, rfl, rfl, Nat.le_of_ble_eq_true rfl, ?_⟩
        walk_at "d"
        refine we_getD (j := 0) rfl ?_
        walk_at "d"
        rcases hz2 with rfl | rfl | rfl | rfl | rfl <;> refine ⟨.inr _, _, _, rfl, rfl, rfl, ?_⟩ <;> walk_at "d" <;> (try rw [dec_if]) <;> first | rfl | (show PyData.tuple [PyData.int _, PyData.int 1] = pT _ _; simp [f2_both, f2_either, ha, hc])
      · have ea : decide (a = 0) = true := decide_eq_true ha
        have ec : decide (c = 0) = false := decide_eq_false hc
        walk_at "d"
        repeat (first | rw [ea] | rw [ec]
                walk_at "db")
        refine ⟨_, _, _, rfl, rfl, Nat.le_of_ble_eq_true rfl, ?_⟩
        walk_at "d"
        refine we_getD (j := 0) rfl ?_
        walk_at "d"
        rcases hz2 with rfl | rfl | rfl | rfl | rfl <;> refine ⟨.inr _, _, _, rfl, rfl, rfl, ?_⟩ <;> walk_at "d" <;> (try rw [dec_if]) <;> first | rfl | (show PyData.tuple [PyData.int _, PyData.int 1] = pT _ _; simp [f2_both, f2_either, ha, hc])
      · have ea : decide (a = 0) = false := decide_eq_false ha
        have ec : decide (c = 0) = true := decide_eq_true hc
        walk_at "d"
        repeat (first | rw [ea] | rw [ec]
                walk_at "db")
        refine ⟨_, _, _, rfl, rfl, Nat.le_of_ble_eq_true rfl, ?_⟩
        walk_at "d"
        refine we_getD (j := 0) rfl ?_
        walk_at "d"
        rcases hz2 with rfl | rfl | rfl | rfl | rfl <;> refine ⟨.inr _, _, _, rfl, rfl, rfl, ?_⟩ <;> walk_at "d" <;> (try rw [dec_if]) <;> first | rfl | (show PyData.tuple [PyData.int _, PyData.int 1] = pT _ _; simp [f2_both, f2_either, ha, hc])
      · have ea : decide (a = 0) = false := decide_eq_false ha
        have ec : decide (c = 0) = false := decide_eq_false hc
        walk_at "d"
        repeat (first | rw [ea] | rw [ec]
                walk_at "db")
        refine ⟨_, _, _, rfl, rfl, Nat.le_of_ble_eq_true rfl, ?_⟩
        walk_at "d"
        refine we_getD (j := 0) rfl ?_
        walk_at "d"
        rcases hz2 with rfl | rfl | rfl | rfl | rfl <;> refine ⟨.inr _, _, _, rfl, rfl, rfl, ?_⟩ <;> walk_at "d" <;> (try rw [dec_if]) <;> first | rfl | (show PyData.tuple [PyData.int _, PyData.int 1] = pT _ _; simp [f2_both, f2_either, ha, hc])⟩
end K77

set_option Elab.async false
set_option linter.all false
set_option maxRecDepth 100000
set_option pp.deepTerms false
set_option pp.deepTerms.threshold 6
set_option maxHeartbeats 4000000
namespace K77
open PySem PySem.Spec PyProof.Rows L2 DS
-- the steps that need no thought: one, as many as there are
local macro_rules | `(tactic| walk_at "d1") => `(tactic| with_reducible first
  | refine ws_seq ?_ | refine ws_next ?_ | refine ws_retN ?_ | refine ws_ret ?_ | refine ws_if ?_ | refine ws_par ?_ | refine ws_setK ?_ | refine ws_newD ?_ | refine wp_cons ?_ | refine wp_nil ?_ | refine ws_set ?_ | refine ws_star ?_ | refine ws_setO rfl ?_ | apply ws_asg
  | refine we_var rfl ?_ | refine we_int ?_ | refine we_bl ?_ | refine we_str ?_ | refine we_non ?_ | refine we_kd ?_ | refine we_ixO rfl ?_
  | refine we_isi isg_int ?_ | refine we_isi isg_bool ?_ | refine we_isi isg_str ?_ | refine we_isi isg_list ?_ | refine we_isi isg_tuple ?_ | refine we_isi2 isg_list isg_tuple ?_ | refine we_isi2 isg_int isg_tuple ?_
  | refine we_inK ?_ | refine we_ixK ?_ | refine we_op ?_ | refine we_un ?_ | refine we_cb ?_ | refine we_tup ?_ | refine we_lst ?_ | refine we_andV ?_ | refine we_orV ?_ | refine we_notV ?_ | refine we_if ?_ | refine we_chain ?_ | refine we_sl ?_ | refine we_call ?_
  | refine wa_nil ?_ | refine wa_cons ?_ | refine wo_none ?_ | refine wo_some ?_ | refine wt_test ?_ | refine wt_B ?_ | refine wt_and ?_ | refine wt_or ?_ | refine wt_not ?_
  | refine wg_tup rfl ?_ | refine wgs_cons ?_ | refine wgs_nil ?_ | refine wg_name ?_
  | refine ⟨_, r2_int, ?_⟩ | refine ⟨_, r2_bl, ?_⟩ | refine ⟨_, r2_addI, ?_⟩ | refine ⟨_, r2_eqI, ?_⟩ | refine ⟨_, r2_neI, ?_⟩ | refine ⟨_, r2_eqS, ?_⟩ | refine ⟨_, r2_neS, ?_⟩ | refine ⟨_, r2_isN, ?_⟩ | refine ⟨_, r1_neg, ?_⟩
  | refine ⟨_, rc_absI, ?_⟩ | refine ⟨_, rc_intI, ?_⟩ | refine ⟨_, rc_intB, ?_⟩ | refine ⟨_, rc_max, ?_⟩ | refine ⟨_, rc_min, ?_⟩ | refine ⟨_, rc_lenL, ?_⟩ | refine ⟨_, rc_lenT, ?_⟩ | refine ⟨_, rc_listL, ?_⟩ | refine ⟨_, rc_listT, ?_⟩ | refine ⟨_, rc_tupL, ?_⟩ | refine ⟨_, rc_tupT, ?_⟩
  | refine ⟨_, rfl, ?_⟩ | refine ⟨_, _, rfl, ?_⟩ | refine ⟨_, ⟨_, rfl, rfl⟩, ?_⟩ | refine ⟨_, ⟨_, _, rfl, rfl⟩, ?_⟩)
local macro_rules | `(tactic| walk_at "d") => `(tactic| repeat (first | walk_at "d1" | refine ⟨lenOk rfl, ?_⟩ | refine ⟨0, _, _, _, rfl, rfl, rfl, ?_⟩ | refine ⟨_, r2_ixXL rfl, ?_⟩ | refine ⟨_, r2_ixXT rfl, ?_⟩ | refine ⟨_, r2_ixXT at0, ?_⟩ | refine ⟨_, r2_ixXT at1, ?_⟩ | refine ⟨_, r2_ixXL at0, ?_⟩ | refine ⟨_, r2_ixXL at1, ?_⟩))
-- a condition whose truth comes out by computation
local macro_rules | `(tactic| walk_at "b1") => `(tactic| first
  | refine ⟨fun _ => ?_, fun h => Bool.noConfusion (show true = false from h)⟩
  | refine ⟨fun h => Bool.noConfusion (show false = true from h), fun _ => ?_⟩)
local macro_rules | `(tactic| walk_at "db") => `(tactic| repeat (first | walk_at "d1" | refine ⟨lenOk rfl, ?_⟩ | refine ⟨0, _, _, _, rfl, rfl, rfl, ?_⟩ | refine ⟨_, r2_ixXL rfl, ?_⟩ | refine ⟨_, r2_ixXT rfl, ?_⟩ | refine ⟨_, r2_ixXT at0, ?_⟩ | refine ⟨_, r2_ixXT at1, ?_⟩ | refine ⟨_, r2_ixXL at0, ?_⟩ | refine ⟨_, r2_ixXL at1, ?_⟩ | walk_at "b1"))
-- how many arguments there are
local macro_rules | `(tactic| walk_at "len") => `(tactic| (intro _ _ h; first
  | (obtain ⟨_, e, _⟩ := h; subst e; rfl) | (obtain ⟨_, _, e, _⟩ := h; subst e; rfl) | (obtain ⟨_, _, _, e, _⟩ := h; subst e; rfl) | (obtain ⟨_, _, _, _, e, _⟩ := h; subst e; rfl) | (obtain ⟨_, _, _, _, _, e, _⟩ := h; subst e; rfl)))
local macro_rules | `(tactic| walk_at "leno") => `(tactic| (intro _ _ h; first
  | (obtain ⟨⟨_, e, _⟩, _⟩ := h; subst e; rfl) | (obtain ⟨⟨_, _, e, _⟩, _⟩ := h; subst e; rfl) | (obtain ⟨e, _⟩ := h; subst e; rfl) | (obtain ⟨_, e, _⟩ := h; subst e; rfl) | (obtain ⟨_, _, e, _⟩ := h; subst e; rfl) | (obtain ⟨_, _, _, e, _⟩ := h; subst e; rfl) | (obtain ⟨_, _, _, _, e, _⟩ := h; subst e; rfl)))

variable {P : Program} {w : World} {K : PySem.W.Frag} {mg : Str → Option Value} {base : Heap}
/-! ### the law's own value -/
abbrev caseD (c : Env) : PyData := .tuple [.int c.px, .list (c.st.map pD), .list (c.wo.map pD)]
abbrev R_lval (m : Nat) (ds : List PyData) (d : PyData) : Prop := ∃ (e : Ex) (c : Env), ds = [e.toD, caseD c] ∧ e.dep < m ∧ e.good ∧ c.good ∧ d = pO (e.val c)
def inLW (z : Str) : Bool := [PyData.str "load", .str "worth"].any fun y => PyData.eqv y (.str z)
theorem inLW_l : inLW "load" = true := by simp [inLW, PyData.eqv]
theorem inLW_w : inLW "worth" = true := by simp [inLW, PyData.eqv]
theorem inLW_n {z : Str} (h1 : z ≠ "load") (h2 : z ≠ "worth") : inLW z = false := by
  simp [inLW, PyData.eqv]
  exact ⟨fun q => h1 q.symm, fun q => h2 q.symm⟩
theorem pO_cases (o : Option (Int × Int)) : (o = none ∧ pO o = .none) ∨ (∃ p, o = some p ∧ pO o = pT p.1 p.2) := by
  cases o with
  | none => exact .inl ⟨rfl, rfl⟩
  | some p => exact .inr ⟨p, rfl, rfl⟩
theorem shaped_p1 {o : Option (Int × Int)} : SeqAt.shaped (.list [pO o]) = true := by
  rcases pO_cases o with ⟨_, h⟩ | ⟨_, _, h⟩ <;> rw [h] <;> rfl
theorem shaped_p2 {o q : Option (Int × Int)} : SeqAt.shaped (.list [pO o, pO q]) = true := by
  rcases pO_cases o with ⟨_, h⟩ | ⟨_, _, h⟩ <;> rcases pO_cases q with ⟨_, h2⟩ | ⟨_, _, h2⟩ <;> rw [h, h2] <;> rfl
theorem eqv_pO {o : Option (Int × Int)} : PyData.eqv (pO o) .none = o.isNone := by
  rcases pO_cases o with ⟨h1, h⟩ | ⟨_, h1, h⟩ <;> rw [h, h1] <;> simp [PyData.eqv]
theorem in_p1 {o : Option (Int × Int)} : R2D K (rInD K) .none (.list [pO o]) (.bool o.isNone) := by
  have h := r2_inD (K := K) (x := .none) rfl (shaped_p1 (o := o))
  rwa [show ([pO o].any fun z => PyData.eqv z .none) = o.isNone by rw [List.any_cons, eqv_pO]; exact Bool.or_false _] at h
theorem in_p2 {o q : Option (Int × Int)} : R2D K (rInD K) .none (.list [pO o, pO q]) (.bool (o.isNone || q.isNone)) := by
  have h := r2_inD (K := K) (x := .none) rfl (shaped_p2 (o := o) (q := q))
  rwa [show ([pO o, pO q].any fun z => PyData.eqv z .none) = (o.isNone || q.isNone) by
    rw [List.any_cons, List.any_cons, eqv_pO, eqv_pO]
    show (o.isNone || (q.isNone || false)) = _
    rw [Bool.or_false]] at h
theorem smO_y {p : Int × Int} (h : smB p.1 p.2 = true) : smO p = some p := by unfold smO; rw [if_pos h]
theorem smO_n {p : Int × Int} (h : smB p.1 p.2 = false) : smO p = none := by unfold smO; rw [if_neg (by rw [h]; exact Bool.false_ne_true)]
theorem isN_pT {a b : Int} : isN (pT a b) = false := rfl
--%%SPECIAL {('rec', '_law_value', '_law_value'): 'C', ('room', '_law_value', '_law_value'): 'hr', ('_law_value', 'inner'): '(op_inDK (K := K) rfl (room65 hr))'}
theorem c_L_value (T : Top K w mg) : ∀ m : Nat, Cal P w K mg base "_law_value" (m + 4) p_L_value (spP K (R_lval m))
  | 0 => pc_zero T.h_L_value (fun _ _ _ _ _ _ us hl => match us, hl with | [_, _], _ => rfl) fun ds d ⟨_, _, _, h, _⟩ => absurd h (Nat.not_lt_zero _)
  | m + 1 => by
    have C := c_L_value T m
    exact T.h_L_value.call (fun _ _ _ _ _ _ us hl => match us, hl with | [_, _], _ => rfl) fun f fd F mm => fn_pure F sc_L_value (by walk_at "len") fun cdv A outer s H E hr => ⟨_, (pss_cons (ps_asg (pv 1) (pg_tupK (K := K) (n := 3) rfl (by rfl) (pgs_cons (pg_name (i := 2) sc_L_value.nd rfl (.inl rfl)) (pgs_cons (pg_name (i := 3) sc_L_value.nd rfl (.inl rfl)) (pgs_cons (pg_name (i := 4) sc_L_value.nd rfl (.inl rfl)) pgs_nil)))))
    (pss_cons (ps_if (PW.pt (pw_or (pt_not (pt_val (pe_callB (call_isiXK (K := K) rfl) (by rfl) T.m_isinstance (by decide +kernel) (pa_cons (pv 0) (pa_cons (pe_ty "tuple" (by rfl) T.m_tuple (by decide +kernel)) pa_nil))))) (pw_or1 (pt_not (pt_val (pe_callB (call_isiXK (K := K) rfl) (by rfl) T.m_isinstance (by decide +kernel) (pa_cons (pe_ix (ix_XK (K := K) rfl) (pv 0) pe_int (fun _ _ => rfl)) (pa_cons (pe_ty "str" (by rfl) T.m_str (by decide +kernel)) pa_nil)))))))) (pss_one (ps_ret (pe_cal (c_L_pair (P := P) (w := w) (K := K) (mg := mg) (base := base) T) (hr.mono (by omega)) (by rfl) (pa_cons (pv 0) pa_nil)))) pss_nil)
    (pss_cons (ps_set (i := 5) sc_L_value.nd rfl (.inl rfl) (pe_ix (ix_XK (K := K) rfl) (pv 0) pe_int (fun _ _ => rfl)))
    (pss_cons (ps_if (pt_cmpR (op_eqXK (K := K) rfl hr.units) (pv 5) pe_str (nomark _)) (pss_one (ps_ret (pe_tup (pa_cons (pv 2) (pa_cons pe_int pa_nil))))) pss_nil)
    (pss_cons (ps_if (pt_cmpR (op_inSK (K := K) rfl) (pv 5) (pe_lst (pa_cons pe_str (pa_cons pe_str pa_nil))) (by rfl)) (pss_cons (ps_set (i := 6) sc_L_value.nd rfl (.inl rfl) (pe_ifExp (pt_cmpR (op_eqXK (K := K) rfl hr.units) (pv 5) pe_str (nomark _)) (pv 3) (pv 4)))
    (pss_one (ps_set (i := 7) sc_L_value.nd rfl (.inl rfl) (pe_ifExp (pt_cmpR op_lt (pe_ix (ix_XK (K := K) rfl) (pv 0) pe_int (fun _ _ => rfl)) (pe_callB (call_lenXK (K := K) rfl) (by rfl) T.m_len (by decide +kernel) (pa_cons (pv 6) pa_nil)) (nomark _)) (pe_cal (c_L_pair (P := P) (w := w) (K := K) (mg := mg) (base := base) T) (hr.mono (by omega)) (by rfl) (pa_cons (pe_ix (ix_XK (K := K) rfl) (pv 6) (pe_ix (ix_XK (K := K) rfl) (pv 0) pe_int (fun _ _ => rfl)) (fun _ _ => rfl)) pa_nil)) pe_non)))) (pss_cons (ps_setLc (i := 8) (own := [("part", 9)]) (g := gName 9) rfl sc_L_value.nd rfl rfl (sw_true rfl rfl rfl (by decide +kernel)) (pi_XK (K := K) rfl (pe_slice (sl_XK (K := K) rfl) (pv 0) (po_some pe_int) po_none))
      (blkOk_by (own := [("part", 9)]) (N := N_L_value) (sc := defScope s_L_value) (by decide +kernel)) (fun _ _ _ _ _ => pg_name (i := 9) sc_L_value.nd rfl (Or.inl rfl))
      (fun _ _ _ _ _ => pts_nil) (fun _ _ _ _ _ => (pe_cal C hr (by rfl) (pa_cons (pv 9) (pa_cons (pv 1) pa_nil)))))
    (pss_cons (ps_if (pt_cmpR (op_inDK (K := K) rfl (room65 hr)) pe_non (pv 8) (by rfl)) (pss_one (ps_ret pe_non)) pss_nil)
    (pss_one (ps_set (i := 7) sc_L_value.nd rfl (.inl rfl) (pe_ifExp (pt_cmpR (op_eqXK (K := K) rfl hr.units) (pe_callB (call_lenXK (K := K) rfl) (by rfl) T.m_len (by decide +kernel) (pa_cons (pv 8) pa_nil)) pe_int (nomark _)) (pe_cal (c_L_one (P := P) (w := w) (K := K) (mg := mg) (base := base) T) (hr.mono (by omega)) (by rfl) (pa_cons (pv 5) (pa_cons (pe_ix (ix_XK (K := K) rfl) (pv 8) pe_int (fun _ _ => rfl)) pa_nil))) (pe_cal (c_L_two (P := P) (w := w) (K := K) (mg := mg) (base := base) T) (hr.mono (by omega)) (by rfl) (pa_cons (pv 5) (pa_cons (pe_ix (ix_XK (K := K) rfl) (pv 8) pe_int (fun _ _ => rfl)) (pa_cons (pe_ix (ix_XK (K := K) rfl) (pv 8) pe_int (fun _ _ => rfl)) pa_nil))))))))))
    (pss_one (ps_ret (pe_ifExp (PW.pt (pw_or (pt_cmpR op_isNo (pv 7) pe_non (nomark _)) (pw_or1 (pt_val (pe_cal (c_L_great (P := P) (w := w) (K := K) (mg := mg) (base := base) T) (hr.mono (by omega)) (by rfl) (pa_cons (pv 7) pa_nil)))))) pe_non (pv 7))))))))), fun ds d hR => by
    obtain ⟨e, c, rfl, hd, hg, hc, rfl⟩ := hR
    cases e with
    | num a b =>
      rw [toD_num]
      walk_at "db"
      rcases num_cases a b with ⟨h, _⟩ | ⟨h, _⟩
      · rw [h]
        walk_at "db"
        refine ⟨_, ⟨a, b, ?_, rfl⟩, rfl⟩
        rw [h]
      · rw [h]
        walk_at "db"
        refine ⟨_, ⟨a, b, ?_, rfl⟩, rfl⟩
        rw [h]
    | size =>
      rw [toD_size]
      walk_at "db"
      rfl
    | load i =>
      rw [toD_load, val_load]
      walk_at "db"
      refine ⟨.bool (inLW "load"), r2_inL rfl rfl, ?_⟩
      rw [inLW_l]
      walk_at "db"
      rw [len_map]
      refine ⟨fun h => ?_, fun h => ?_⟩
      · obtain ⟨p, hp, h1, h2⟩ := slot_yes hg.1 (of_decide_eq_true h)
        rw [h2]
        walk_at "d"
        refine ⟨_, r2_ixXL h1, ?_⟩
        walk_at "db"
        refine ⟨_, ⟨_, _, rfl, (hc.sn p hp).pos, rfl⟩, ?_⟩
        cases q : smB p.1 p.2
        · rw [smO_n q]
          walk_at "db"
          rfl
        · rw [smO_y q]
          walk_at "db"
          rfl
      · rw [slot_no hg.1 (of_decide_eq_false h)]
        walk_at "db"
        rfl
    | worth i =>
      rw [toD_worth, val_worth]
      walk_at "db"
      refine ⟨.bool (inLW "worth"), r2_inL rfl rfl, ?_⟩
      rw [inLW_w]
      walk_at "db"
      rw [len_map]
      refine ⟨fun h => ?_, fun h => ?_⟩
      · obtain ⟨p, hp, h1, h2⟩ := slot_yes hg.1 (of_decide_eq_true h)
        rw [h2]
        walk_at "d"
        refine ⟨_, r2_ixXL h1, ?_⟩
        walk_at "db"
        refine ⟨_, ⟨_, _, rfl, (hc.wn p hp).pos, rfl⟩, ?_⟩
        cases q : smB p.1 p.2
        · rw [smO_n q]
          walk_at "db"
          rfl
        · rw [smO_y q]
          walk_at "db"
          rfl
      · rw [slot_no hg.1 (of_decide_eq_false h)]
        walk_at "db"
        rfl
    | one z e =>
      obtain ⟨n1, n2, n3, n4⟩ := w1_no hg.1
      have hd' : e.dep < m := Nat.lt_of_succ_lt_succ hd
      rw [toD_one, val_one]
      walk_at "db"
      rw [dec_ne n1]
      walk_at "db"
      refine ⟨.bool (inLW z), r2_inL rfl rfl, ?_⟩
      rw [inLW_n n2 n3]
      walk_at "db"
      refine we_lc_ix (tg := [9]) (by decide) (wi_X ?_)
      walk_at "d"
      refine ⟨_, rs_tail, ?_⟩
      walk_at "d"
      refine ⟨_, .inr rfl, [pO (e.val c)], lenOk rfl, rfl, fun i d y h1 h2 => ?_, ?_⟩
      · match i, h1, h2 with
        | 0, h1, h2 =>
          cases h1
          cases h2
          refine wgc_name ?_
          walk_at "d"
          exact ⟨_, ⟨e, c, rfl, hd', hg.2, hc, rfl⟩, rfl, rfl⟩
        | i + 1, h1, _ => simp at h1
      walk_at "d"
      refine ⟨_, in_p1, ?_⟩
      cases ho : e.val c with
      | none => walk_at "db"; rfl
      | some p =>
        have hp := val_ns hc hg.2 ho
        rw [pO_some]
        walk_at "db"
        refine ⟨_, ⟨_, _, _, rfl, hg.1, hp, rfl⟩, ?_⟩
        walk_at "db"
        refine ⟨_, ⟨_, _, rfl, (f1_nm hp.nm).pos, rfl⟩, ?_⟩
        show ∃ c_1, (PyData.bool !smB (f1 z p.1 p.2).1 (f1 z p.1 p.2).2) = PyData.bool c_1 ∧ _
        cases q : smB (f1 z p.1 p.2).1 (f1 z p.1 p.2).2
        · walk_at "db"
          show PyData.none = pO (smO _)
          rw [smO_n q]
          rfl
        · walk_at "db"
          show pT _ _ = pO (smO _)
          rw [smO_y q]
          rfl
    | two z e f =>
      obtain ⟨n1, n2, n3⟩ := w2_no hg.1
      have hd1 : e.dep < m := Nat.lt_of_le_of_lt (Nat.le_max_left _ _) (Nat.lt_of_succ_lt_succ hd)
      have hd2 : f.dep < m := Nat.lt_of_le_of_lt (Nat.le_max_right _ _) (Nat.lt_of_succ_lt_succ hd)
      rw [toD_two, val_two]
      walk_at "db"
      rw [dec_ne n1]
      walk_at "db"
      refine ⟨.bool (inLW z), r2_inL rfl rfl, ?_⟩
      rw [inLW_n n2 n3]
      walk_at "db"
      refine we_lc_ix (tg := [9]) (by decide) (wi_X ?_)
      walk_at "d"
      refine ⟨_, rs_tail, ?_⟩
      walk_at "d"
      refine ⟨_, .inr rfl, [pO (e.val c), pO (f.val c)], lenOk rfl, rfl, fun i d y h1 h2 => ?_, ?_⟩
      · match i, h1, h2 with
        | 0, h1, h2 =>
          cases h1
          cases h2
          refine wgc_name ?_
          walk_at "d"
          exact ⟨_, ⟨e, c, rfl, hd1, hg.2.1, hc, rfl⟩, rfl, rfl⟩
        | 1, h1, h2 =>
          cases h1
          cases h2
          refine wgc_name ?_
          walk_at "d"
          exact ⟨_, ⟨f, c, rfl, hd2, hg.2.2, hc, rfl⟩, rfl, rfl⟩
        | i + 2, h1, _ => simp at h1
      walk_at "d"
      refine ⟨_, in_p2, ?_⟩
      cases ho : e.val c with
      | none => walk_at "db"; rfl
      | some p =>
        cases ho2 : f.val c with
        | none => walk_at "db"; rfl
        | some r =>
        have hp := val_ns hc hg.2.1 ho
        have hq := val_ns hc hg.2.2 ho2
        rw [pO_some, pO_some]
        walk_at "db"
        refine ⟨_, ⟨_, _, _, _, _, rfl, hg.1, hp, hq, rfl⟩, ?_⟩
        rw [Option.bind_some, Option.bind_some]
        by_cases hov : z = "over" ∧ r.1 = 0
        · rw [if_pos hov, if_pos hov]
          walk_at "db"
          rfl
        rw [if_neg hov, if_neg hov]
        walk_at "db"
        refine ⟨_, ⟨_, _, rfl, (f2_nm hp.nm hq.nm hov).pos, rfl⟩, ?_⟩
        cases q : smB (f2 z p.1 p.2 r.1 r.2).1 (f2 z p.1 p.2 r.1 r.2).2
        · walk_at "db"
          rw [smO_n q]
          rfl
        · walk_at "db"
          rw [smO_y q]
          rfl⟩
end K77

set_option Elab.async false
set_option linter.all false
set_option maxRecDepth 100000
set_option pp.deepTerms false
set_option pp.deepTerms.threshold 6
set_option maxHeartbeats 4000000
namespace K77
open PySem PySem.Spec PyProof.Rows L2 DS
-- the steps that need no thought: one, as many as there are
local macro_rules | `(tactic| walk_at "d1") => `(tactic| with_reducible first
  | refine ws_seq ?_ | refine ws_next ?_ | refine ws_retN ?_ | refine ws_ret ?_ | refine ws_if ?_ | refine ws_par ?_ | refine ws_setK ?_ | refine ws_newD ?_ | refine wp_cons ?_ | refine wp_nil ?_ | refine ws_set ?_ | refine ws_star ?_ | refine ws_setO rfl ?_ | apply ws_asg
  | refine we_var rfl ?_ | refine we_int ?_ | refine we_bl ?_ | refine we_str ?_ | refine we_non ?_ | refine we_kd ?_ | refine we_ixO rfl ?_
  | refine we_isi isg_int ?_ | refine we_isi isg_bool ?_ | refine we_isi isg_str ?_ | refine we_isi isg_list ?_ | refine we_isi isg_tuple ?_ | refine we_isi2 isg_list isg_tuple ?_ | refine we_isi2 isg_int isg_tuple ?_
  | refine we_inK ?_ | refine we_ixK ?_ | refine we_op ?_ | refine we_un ?_ | refine we_cb ?_ | refine we_tup ?_ | refine we_lst ?_ | refine we_andV ?_ | refine we_orV ?_ | refine we_notV ?_ | refine we_if ?_ | refine we_chain ?_ | refine we_sl ?_ | refine we_call ?_
  | refine wa_nil ?_ | refine wa_cons ?_ | refine wo_none ?_ | refine wo_some ?_ | refine wt_test ?_ | refine wt_B ?_ | refine wt_and ?_ | refine wt_or ?_ | refine wt_not ?_
  | refine wg_tup rfl ?_ | refine wgs_cons ?_ | refine wgs_nil ?_ | refine wg_name ?_
  | refine ⟨_, r2_int, ?_⟩ | refine ⟨_, r2_bl, ?_⟩ | refine ⟨_, r2_addI, ?_⟩ | refine ⟨_, r2_eqI, ?_⟩ | refine ⟨_, r2_neI, ?_⟩ | refine ⟨_, r2_eqS, ?_⟩ | refine ⟨_, r2_neS, ?_⟩ | refine ⟨_, r2_isN, ?_⟩ | refine ⟨_, r1_neg, ?_⟩
  | refine ⟨_, rc_absI, ?_⟩ | refine ⟨_, rc_intI, ?_⟩ | refine ⟨_, rc_intB, ?_⟩ | refine ⟨_, rc_max, ?_⟩ | refine ⟨_, rc_min, ?_⟩ | refine ⟨_, rc_lenL, ?_⟩ | refine ⟨_, rc_lenT, ?_⟩ | refine ⟨_, rc_listL, ?_⟩ | refine ⟨_, rc_listT, ?_⟩ | refine ⟨_, rc_tupL, ?_⟩ | refine ⟨_, rc_tupT, ?_⟩
  | refine ⟨_, rfl, ?_⟩ | refine ⟨_, _, rfl, ?_⟩ | refine ⟨_, ⟨_, rfl, rfl⟩, ?_⟩ | refine ⟨_, ⟨_, _, rfl, rfl⟩, ?_⟩)
local macro_rules | `(tactic| walk_at "d") => `(tactic| repeat (first | walk_at "d1" | refine ⟨lenOk rfl, ?_⟩ | refine ⟨0, _, _, _, rfl, rfl, rfl, ?_⟩ | refine ⟨_, r2_ixXL rfl, ?_⟩ | refine ⟨_, r2_ixXT rfl, ?_⟩ | refine ⟨_, r2_ixXT at0, ?_⟩ | refine ⟨_, r2_ixXT at1, ?_⟩ | refine ⟨_, r2_ixXL at0, ?_⟩ | refine ⟨_, r2_ixXL at1, ?_⟩))
-- a condition whose truth comes out by computation
local macro_rules | `(tactic| walk_at "b1") => `(tactic| first
  | refine ⟨fun _ => ?_, fun h => Bool.noConfusion (show true = false from h)⟩
  | refine ⟨fun h => Bool.noConfusion (show false = true from h), fun _ => ?_⟩)
local macro_rules | `(tactic| walk_at "db") => `(tactic| repeat (first | walk_at "d1" | refine ⟨lenOk rfl, ?_⟩ | refine ⟨0, _, _, _, rfl, rfl, rfl, ?_⟩ | refine ⟨_, r2_ixXL rfl, ?_⟩ | refine ⟨_, r2_ixXT rfl, ?_⟩ | refine ⟨_, r2_ixXT at0, ?_⟩ | refine ⟨_, r2_ixXT at1, ?_⟩ | refine ⟨_, r2_ixXL at0, ?_⟩ | refine ⟨_, r2_ixXL at1, ?_⟩ | walk_at "b1"))
-- how many arguments there are
local macro_rules | `(tactic| walk_at "len") => `(tactic| (intro _ _ h; first
  | (obtain ⟨_, e, _⟩ := h; subst e; rfl) | (obtain ⟨_, _, e, _⟩ := h; subst e; rfl) | (obtain ⟨_, _, _, e, _⟩ := h; subst e; rfl) | (obtain ⟨_, _, _, _, e, _⟩ := h; subst e; rfl) | (obtain ⟨_, _, _, _, _, e, _⟩ := h; subst e; rfl)))
local macro_rules | `(tactic| walk_at "leno") => `(tactic| (intro _ _ h; first
  | (obtain ⟨⟨_, e, _⟩, _⟩ := h; subst e; rfl) | (obtain ⟨⟨_, _, e, _⟩, _⟩ := h; subst e; rfl) | (obtain ⟨e, _⟩ := h; subst e; rfl) | (obtain ⟨_, e, _⟩ := h; subst e; rfl) | (obtain ⟨_, _, e, _⟩ := h; subst e; rfl) | (obtain ⟨_, _, _, e, _⟩ := h; subst e; rfl) | (obtain ⟨_, _, _, _, e, _⟩ := h; subst e; rfl)))

variable {P : Program} {w : World} {K : PySem.W.Frag} {mg : Str → Option Value} {base : Heap}
/-! ### the law's own counting -/
abbrev R_lpart (ds : List PyData) (d : PyData) : Prop := ∃ xs, ds = [.tuple xs] ∧ xs.length ≤ 20000 ∧ d = .bool (isNu (.tuple xs) && smN (.tuple xs))
theorem notNu {xs : List PyData} (h : xs.length ≠ 2) : isNu (.tuple xs) = false := by
  match xs, h with
  | [], _ => rfl
  | [_], _ => rfl
  | [_, _], h => exact absurd rfl h
  | _ :: _ :: _ :: _, _ => rfl
theorem nu_pair {t b : Int} : isNu (pT t b) = (decide (1 < b) && decide ((Int.gcd t b : Int) = 1)) := by
  show (false || (decide (1 < b) && decide ((Int.gcd t b : Int) = 1))) = _
  rw [Bool.false_or]
theorem low_is {t b : Int} (hb : 1 < b) : decide (redT t b = t ∧ redB t b = b) = decide ((Int.gcd t b : Int) = 1) := by
  refine decide_eq_decide.mpr ⟨fun h => ?_, fun h => ?_⟩
  · have h2 := (red_nm (t := t) (b := b) (by omega)).cop
    rw [h.1, h.2] at h2
    omega
  · exact red_id ⟨by omega, by omega⟩
theorem smN_pair {t b : Int} : smN (pT t b) = (smI t && smI b) := rfl
theorem smI_pos {b : Int} (h : 0 ≤ b) : smI b = decide (b < G60) := by unfold smI; rw [show (b.natAbs : Int) = b by omega]
theorem smI_dec {a : Int} : smI a = decide ((a.natAbs : Int) < G60) := rfl
theorem smI_bd {a : Int} (h : smI a = true) : Bd 200 a := by
  unfold smI at h
  rw [decide_eq_true_eq] at h
  have q := g60_lt
  unfold Bd
  omega
theorem c_L_is_part (T : Top K w mg) : Cal P w K mg base "_law_is_part" 2 p_L_is_part (spP K R_lpart) :=
  T.h_L_is_part.call (fun _ _ _ _ _ _ us hl => match us, hl with | [_], _ => rfl) fun f fd F m => fn_pure F sc_L_is_part (by walk_at "len") fun cdv A outer s H E hr => ⟨_, (pss_cons (ps_if (PW.pt (pw_or (pt_cmpR (op_neXK (K := K) rfl hr.units) (pe_callB (call_lenXK (K := K) rfl) (by rfl) T.m_len (by decide +kernel) (pa_cons (pv 0) pa_nil)) pe_int (nomark _)) (pw_or1 (pt_cmpR (op_neXK (K := K) rfl hr.units) (pe_lc (own := [("one", 3)]) (g := gName 3) rfl sc_L_is_part.nd  (pi_XK (K := K) rfl (pv 0))
      (blkOk_by (own := [("one", 3)]) (N := N_L_is_part) (sc := defScope s_L_is_part) (by decide +kernel)) (fun _ _ _ _ _ => pg_name (i := 3) sc_L_is_part.nd rfl (Or.inl rfl))
      (fun _ _ _ _ _ => (pts_one (PW.pt (pw_or (pt_not (pt_val (pe_callB (call_isiXK (K := K) rfl) (by rfl) T.m_isinstance (by decide +kernel) (pa_cons (pv 3) (pa_cons (pe_ty "int" (by rfl) T.m_int (by decide +kernel)) pa_nil))))) (pw_or1 (pt_val (pe_callB (call_isiXK (K := K) rfl) (by rfl) T.m_isinstance (by decide +kernel) (pa_cons (pv 3) (pa_cons (pe_ty "bool" (by rfl) T.m_bool (by decide +kernel)) pa_nil))))))))) (fun _ _ _ _ _ => (pv 3))) (pe_lst pa_nil) (nomark _))))) (pss_one (ps_ret pe_bl)) pss_nil)
    (pss_cons (ps_asg (pv 0) (pg_tupK (K := K) (n := 2) rfl (by rfl) (pgs_cons (pg_name (i := 1) sc_L_is_part.nd rfl (.inl rfl)) (pgs_cons (pg_name (i := 2) sc_L_is_part.nd rfl (.inl rfl)) pgs_nil))))
    (pss_cons (ps_if (PW.pt (pw_or (pt_not (pt_chain op_le op_lt pe_int (pv 2) (pe_op op_pow pe_int pe_int))) (pw_or1 (pt_cmpR op_ge (pe_callB call_abs' (by rfl) T.m_abs (by decide +kernel) (pa_cons (pv 1) pa_nil)) (pe_op op_pow pe_int pe_int) (nomark _))))) (pss_one (ps_ret pe_bl)) pss_nil)
    (pss_one (ps_ret (pe_cmpR (op_eqXK (K := K) rfl hr.units) (pe_cal (c_L_low (P := P) (w := w) (K := K) (mg := mg) (base := base) T) (hr.mono (by omega)) (by rfl) (pa_cons (pv 1) (pa_cons (pv 2) pa_nil))) (pv 0) (nomark _))))))), fun ds d hR => by
    obtain ⟨xs, rfl, hl, rfl⟩ := hR
    walk_at "d"
    refine ⟨fun h => ?_, fun h => ?_⟩
    · rw [notNu (by
        simp at h
        omega)]
      walk_at "db"
      rfl
    have h2 : xs.length = 2 := by
      simp at h
      omega
    match xs, h2 with
    | [x, y], _ =>
    walk_at "db"
    refine we_lc_if (tg := [3]) (fun x => !isPl x) id (by decide) (wi_X ?_)
    walk_at "d"
    refine ⟨_, .inr rfl, lenOk rfl, fun d hd => ?_, ?_⟩
    · refine wgc_name ?_
      cases d <;> walk_at "db" <;> exact ⟨rfl, rfl, fun z => by walk_at "d"; first | exact ⟨rfl, rfl⟩ | cases z⟩
    walk_at "d"
    refine ⟨_, r2_neE (Nat.le_trans (Nat.min_le_right _ _) dep_lnil), ?_⟩
    rw [eqv_lnil]
    cases x with
    | none | bool _ | str _ | list _ | tuple _ | dict _ => walk_at "db"; rfl
    | int t =>
      cases y with
      | none | bool _ | str _ | list _ | tuple _ | dict _ => walk_at "db"; rfl
      | int b =>
        rw [nu_pair, smN_pair]
        walk_at "db"
        refine ⟨fun h2 => ?_, fun h2 => ?_⟩
        · have h2 := of_decide_eq_true h2
          rw [decide_eq_true (show 1 < b by omega), smI_pos (show 0 ≤ b by omega)]
          walk_at "d"
          refine ⟨_, r2_p60, ?_⟩
          walk_at "d"
          cases q : decide (b < G60)
          · walk_at "db"
            rw [Bool.and_false, Bool.and_false]
          walk_at "db"
          refine ⟨_, r2_p60, ?_⟩
          walk_at "d"
          rw [abs_if t]
          have et : decide ((t.natAbs : Int) ≥ G60) = !smI t := by
            unfold smI
            by_cases z : (t.natAbs : Int) < G60
            · rw [decide_eq_true z, decide_eq_false (by omega)]; rfl
            · rw [decide_eq_false z, decide_eq_true (by omega)]; rfl
          rw [et]
          cases q2 : smI t
          · walk_at "db"
            rw [Bool.false_and, Bool.and_false]
          walk_at "db"
          have hbb : smI b = true := by rw [smI_pos (show 0 ≤ b by omega)]; exact q
          refine ⟨_, ⟨_, _, rfl, by omega, (smI_bd q2).mono (by decide), (smI_bd hbb).mono (by decide), rfl⟩, ?_⟩
          walk_at "d"
          refine ⟨_, r2_eqE (Nat.le_trans (Nat.min_le_right _ _) dep_pT), ?_⟩
          rw [eqv_pT, low_is (show 1 < b by omega)]
          show PyData.bool _ = PyData.bool _
          rw [Bool.true_and, Bool.and_true, Bool.and_true]
        · have h2 := of_decide_eq_false h2
          rw [decide_eq_false (show ¬ 1 < b by omega)]
          walk_at "db"
          rfl⟩
theorem cnt_nostr {n : Nat} {x0 : PyData} {r : List PyData} (h : ∀ nm, x0 ≠ .str nm) : cnt n (.tuple (x0 :: r)) = b2n (isNu (.tuple (x0 :: r)) && smN (.tuple (x0 :: r))) := by
  cases q : isNu (.tuple (x0 :: r))
  · rw [cnt_oth q fun nm rest e => by cases e; exact h nm rfl]
    rfl
  · obtain ⟨a, b, e, hm⟩ := nu_inv q
    rcases num_cases a b with ⟨e2, _⟩ | ⟨e2, _⟩
    · rw [e2] at e; cases e
    rw [e, cnt_nu hm, e2]
    rfl
abbrev R_lcn (m : Nat) (ds : List PyData) (d : PyData) : Prop := ∃ (n : Nat) (x : PyData), ds = [x, .int n] ∧ n < m ∧ Wd x ∧ d = .int (cnt n x)
--%%SPECIAL {('rec', '_law_counted', '_law_counted'): 'C', ('room', '_law_counted', '_law_counted'): 'hr'}
def in3 (z : Str) : Bool := [PyData.str "size", .str "load", .str "worth"].any fun y => PyData.eqv y (.str z)
theorem in3_s : in3 "size" = true := by simp [in3, PyData.eqv]
theorem in3_l : in3 "load" = true := by simp [in3, PyData.eqv]
theorem in3_w : in3 "worth" = true := by simp [in3, PyData.eqv]
theorem in3_n {z : Str} (h0 : z ≠ "size") (h1 : z ≠ "load") (h2 : z ≠ "worth") : in3 z = false := by
  simp [in3, PyData.eqv]
  exact ⟨fun q => h0 q.symm, fun q => h1 q.symm, fun q => h2 q.symm⟩
theorem spl2 : Txt.split "plus minus times over lesser greater same both either" " " = (["plus", "minus", "times", "over", "lesser", "greater", "same", "both", "either"] : List Str) := by decide +kernel
theorem ints_map {l : List PyData} {k : Nat} : l.map (fun d => PyData.int (cnt k d)) = (l.map (cnt k)).map .int := by rw [List.map_map]; rfl
theorem c_L_counted (T : Top K w mg) : ∀ m : Nat, Cal P w K mg base "_law_counted" (m + 3) p_L_counted (spP K (R_lcn m))
  | 0 => pc_zero T.h_L_counted (fun _ _ _ _ _ _ us hl => match us, hl with | [_, _], _ => rfl) fun ds d ⟨_, _, _, h, _⟩ => absurd h (Nat.not_lt_zero _)
  | m + 1 => by
    have C := c_L_counted T m
    exact T.h_L_counted.call (fun _ _ _ _ _ _ us hl => match us, hl with | [_, _], _ => rfl) fun f fd F mm => fn_pure F sc_L_counted (by walk_at "len") fun cdv A outer s H E hr => ⟨_, (pss_cons (ps_if (PW.pt (pw_or (pt_val (pe_callB (call_isiXK (K := K) rfl) (by rfl) T.m_isinstance (by decide +kernel) (pa_cons (pv 0) (pa_cons (pe_ty "bool" (by rfl) T.m_bool (by decide +kernel)) pa_nil)))) (pw_or (pt_not (pt_val (pe_callB (call_isiTK (K := K) rfl) (by rfl) T.m_isinstance (by decide +kernel) (pa_cons (pv 0) (pa_cons (pe_tup (pa_cons (pe_ty "int" (by rfl) T.m_int (by decide +kernel)) (pa_cons (pe_ty "tuple" (by rfl) T.m_tuple (by decide +kernel)) pa_nil))) pa_nil))))) (pw_or1 (pt_cmpR (op_eqXK (K := K) rfl hr.units) (pv 0) (pe_tup pa_nil) (nomark _)))))) (pss_one (ps_ret pe_int)) pss_nil)
    (pss_cons (ps_if (pt_val (pe_callB (call_isiXK (K := K) rfl) (by rfl) T.m_isinstance (by decide +kernel) (pa_cons (pv 0) (pa_cons (pe_ty "int" (by rfl) T.m_int (by decide +kernel)) pa_nil)))) (pss_one (ps_ret (pe_callTy call_int1' (by rfl) T.m_int (by decide +kernel) (pa_cons (pe_cmpR op_lt (pe_callB call_abs' (by rfl) T.m_abs (by decide +kernel) (pa_cons (pv 0) pa_nil)) (pe_op op_pow pe_int pe_int) (nomark _)) pa_nil)))) pss_nil)
    (pss_cons (ps_if (pt_not (pt_val (pe_callB (call_isiXK (K := K) rfl) (by rfl) T.m_isinstance (by decide +kernel) (pa_cons (pe_ix (ix_XK (K := K) rfl) (pv 0) pe_int (fun _ _ => rfl)) (pa_cons (pe_ty "str" (by rfl) T.m_str (by decide +kernel)) pa_nil))))) (pss_one (ps_ret (pe_callTy call_int1' (by rfl) T.m_int (by decide +kernel) (pa_cons (pe_cal (c_L_is_part (P := P) (w := w) (K := K) (mg := mg) (base := base) T) (hr.mono (by omega)) (by rfl) (pa_cons (pv 0) pa_nil)) pa_nil)))) pss_nil)
    (pss_cons (ps_par (i := 2) (j := 3) (by rfl) sc_L_counted.nd rfl rfl (by decide) rfl rfl (pa_cons (pe_ix (ix_XK (K := K) rfl) (pv 0) pe_int (fun _ _ => rfl)) (pa_cons (pe_callB (call_lenXK (K := K) rfl) (by rfl) T.m_len (by decide +kernel) (pa_cons (pv 0) pa_nil)) pa_nil)) (by rfl))
    (pss_cons (ps_if (pt_cmpR (op_inSK (K := K) rfl) (pv 2) (pe_lst (pa_cons pe_str (pa_cons pe_str (pa_cons pe_str pa_nil)))) (by rfl)) (pss_cons (ps_if (PW.pt (pw_or (pt_cmpR (op_eqXK (K := K) rfl hr.units) (pv 3) pe_int (nomark _)) (pw_or1 (pt_cmpR (op_eqXK (K := K) rfl hr.units) (pv 2) pe_str (nomark _))))) (pss_one (ps_ret (pe_callTy call_int1' (by rfl) T.m_int (by decide +kernel) (pa_cons (pe_and (pe_cmpR (op_eqXK (K := K) rfl hr.units) (pv 2) pe_str (nomark _)) (pe_one (pe_cmpR (op_eqXK (K := K) rfl hr.units) (pv 3) pe_int (nomark _)))) pa_nil)))) pss_nil)
    (pss_cons (ps_set (i := 4) sc_L_counted.nd rfl (.inl rfl) (pe_and (pe_callB (call_isiXK (K := K) rfl) (by rfl) T.m_isinstance (by decide +kernel) (pa_cons (pe_ix (ix_XK (K := K) rfl) (pv 0) pe_int (fun _ _ => rfl)) (pa_cons (pe_ty "int" (by rfl) T.m_int (by decide +kernel)) pa_nil))) (pe_one (pe_not (pe_callB (call_isiXK (K := K) rfl) (by rfl) T.m_isinstance (by decide +kernel) (pa_cons (pe_ix (ix_XK (K := K) rfl) (pv 0) pe_int (fun _ _ => rfl)) (pa_cons (pe_ty "bool" (by rfl) T.m_bool (by decide +kernel)) pa_nil)))))))
    (pss_one (ps_ret (pe_callTy call_int1' (by rfl) T.m_int (by decide +kernel) (pa_cons (pe_and (pe_cmpR (op_eqXK (K := K) rfl hr.units) (pv 3) pe_int (nomark _)) (pe_and (pv 4) (pe_one (pe_chain op_le op_lt pe_int (pe_ix (ix_XK (K := K) rfl) (pv 0) pe_int (fun _ _ => rfl)) (pe_dget (room1 hr) (pe_disp (pps_cons pe_str pe_int (pps_cons pe_str pe_int pps_nil)) (by rfl) (by rfl) (by intro h; cases h) (by decide)) (pv 2) (fun _ _ => rfl)))))) pa_nil)))))) pss_nil)
    (pss_cons (ps_set (i := 5) sc_L_counted.nd rfl (.inl rfl) (pe_cmpR (op_inSK (K := K) rfl) (pv 2) (pe_lst (pa_cons pe_str (pa_cons pe_str (pa_cons pe_str (pa_cons pe_str (pa_cons pe_str pa_nil)))))) (by rfl)))
    (pss_cons (ps_set (i := 6) sc_L_counted.nd rfl (.inl rfl) (pe_cmpR (op_inSK (K := K) rfl) (pv 2) (pe_splS pe_str pe_str) (by rfl)))
    (pss_cons (ps_if (PW.pt (pw_or (pt_cmpR (op_eqXK (K := K) rfl hr.units) (pv 1) pe_int (nomark _)) (pw_or1 (pt_not (PW.pt (pw_or (PW.pt (pw_and (pt_val (pv 5)) (pw_and1 (pt_cmpR (op_eqXK (K := K) rfl hr.units) (pv 3) pe_int (nomark _))))) (pw_or1 (PW.pt (pw_and (pt_val (pv 6)) (pw_and1 (pt_cmpR (op_eqXK (K := K) rfl hr.units) (pv 3) pe_int (nomark _)))))))))))) (pss_one (ps_ret pe_int)) pss_nil)
    (pss_cons (ps_setLc (i := 7) (own := [("part", 8)]) (g := gName 8) rfl sc_L_counted.nd rfl rfl (sw_true rfl rfl rfl (by decide +kernel)) (pi_XK (K := K) rfl (pe_slice (sl_XK (K := K) rfl) (pv 0) (po_some pe_int) po_none))
      (blkOk_by (own := [("part", 8)]) (N := N_L_counted) (sc := defScope s_L_counted) (by decide +kernel)) (fun _ _ _ _ _ => pg_name (i := 8) sc_L_counted.nd rfl (Or.inl rfl))
      (fun _ _ _ _ _ => pts_nil) (fun _ _ _ _ _ => (pe_cal C hr (by rfl) (pa_cons (pv 8) (pa_cons (pe_op op_sub (pv 1) pe_int) pa_nil)))))
    (pss_one (ps_ret (pe_ifExp (pt_cmpR (op_inSK (K := K) rfl) pe_int (pv 7) (by rfl)) pe_int (pe_op (op_addXK (K := K) rfl) pe_int (pe_callB (cr_sumK (K := K) rfl rfl) (by rfl) T.m_sum (by decide +kernel) (pa_cons (pv 7) pa_nil))))))))))))))), fun ds d hR => by
    obtain ⟨n, x, rfl, hn, hw, rfl⟩ := hR
    match x, hw with
    | .none, _ | .bool _, _ | .str _, _ | .list _, _ | .dict _, _ => walk_at "db"; rw [cnt_oth rfl fun _ _ => (by intro z; cases z)]
    | .int i, _ =>
      walk_at "db"
      refine ⟨_, r2_eqE (Nat.le_trans (Nat.min_le_right _ _) dep_nil), ?_⟩
      rw [show PyData.eqv (.int i) (.tuple []) = false by simp [PyData.eqv]]
      walk_at "db"
      refine ⟨_, r2_p60, ?_⟩
      walk_at "d"
      rw [abs_if i, ← num_one i, cnt_nu (nm_one i)]
      show PyData.int (b2n (smI i)) = .int (b2n (smI i && smI 1))
      rw [show smI 1 = true from smI_of (n := 8) bd8, Bool.and_true]
    | .tuple [], _ =>
      walk_at "db"
      refine ⟨_, r2_eqE (Nat.le_trans (Nat.min_le_right _ _) dep_nil), ?_⟩
      rw [eqv_nil0]
      walk_at "db"
      rw [cnt_oth rfl fun _ _ => (by intro z; cases z)]
    | .tuple (x0 :: rest), hw =>
      have hlen : rest.length ≤ 16000 ∧ ∀ d ∈ rest, Wd d := by
        cases hw with
        | tup a b => exact ⟨by rw [List.length_cons] at a; omega, fun d hd => b d (List.mem_cons_of_mem _ hd)⟩
        | oth a => cases a
      walk_at "db"
      refine ⟨_, r2_eqE (Nat.le_trans (Nat.min_le_right _ _) dep_nil), ?_⟩
      rw [eqv_nil]
      walk_at "db"
      match x0 with
      | .none | .bool _ | .int _ | .list _ | .tuple _ | .dict _ =>
        walk_at "db"
        refine ⟨_, ⟨_, rfl, by rw [List.length_cons]; omega, rfl⟩, ?_⟩
        walk_at "d"
        rw [cnt_nostr fun nm e => by cases e]
        rfl
      | .str nm =>
      walk_at "db"
      refine ⟨.bool (in3 nm), r2_inL rfl rfl, ?_⟩
      rw [cnt_F]
      by_cases hs : nm = "size"
      · subst hs
        rw [in3_s]
        match rest with
        | [] =>
          walk_at "db"
          rfl
        | y :: r =>
          walk_at "db"
          rfl
      by_cases h1 : nm = "load"
      · subst h1
        rw [in3_l, cntF_load]
        match rest with
        | [] =>
          walk_at "db"
          rfl
        | y :: y2 :: r => cases y <;> walk_at "db" <;> rfl
        | [y] =>
          cases y with
          | none | bool _ | str _ | list _ | tuple _ | dict _ => walk_at "db"; rfl
          | int i =>
            walk_at "db"
            have e1 : one1 [.int i] 7 = (decide (0 ≤ i) && decide (i ≤ 7)) := rfl
            rw [e1]
            refine ⟨fun q => ?_, fun q => ?_⟩
            · rw [q]
              refine we_getDisp ?_
              walk_at "d"
              refine ⟨[(.inr "load", .int 8), (.inr "worth", .int 12)], rfl, by decide, ?_⟩
              walk_at "d"
              refine ⟨.inr "load", .int 8, rfl, rfl, ?_⟩
              walk_at "d"
              rw [show decide (i < 8) = decide (i ≤ 7) from decide_eq_decide.mpr (by omega), Bool.true_and]
              rfl
            · rw [q]
              walk_at "db"
              rfl
      by_cases h2 : nm = "worth"
      · subst h2
        rw [in3_w, cntF_worth]
        match rest with
        | [] =>
          walk_at "db"
          rfl
        | y :: y2 :: r => cases y <;> walk_at "db" <;> rfl
        | [y] =>
          cases y with
          | none | bool _ | str _ | list _ | tuple _ | dict _ => walk_at "db"; rfl
          | int i =>
            walk_at "db"
            have e1 : one1 [.int i] 11 = (decide (0 ≤ i) && decide (i ≤ 11)) := rfl
            rw [e1]
            refine ⟨fun q => ?_, fun q => ?_⟩
            · rw [q]
              refine we_getDisp ?_
              walk_at "d"
              refine ⟨[(.inr "load", .int 8), (.inr "worth", .int 12)], rfl, by decide, ?_⟩
              walk_at "d"
              refine ⟨.inr "worth", .int 12, rfl, rfl, ?_⟩
              walk_at "d"
              rw [show decide (i < 12) = decide (i ≤ 11) from decide_eq_decide.mpr (by omega), Bool.true_and]
              rfl
            · rw [q]
              walk_at "db"
              rfl
      rw [in3_n hs h1 h2, cntF_oth hs h1 h2]
      walk_at "db"
      refine ⟨.bool (inSg nm), r2_inL rfl rfl, ?_⟩
      walk_at "d"
      refine we_spl ?_
      walk_at "d"
      refine ⟨_, _, rfl, spl2, rfl, lenOk rfl, ?_⟩
      walk_at "d"
      refine ⟨.bool (inDb nm), r2_inL rfl rfl, ?_⟩
      walk_at "d"
      refine ⟨fun q => ?_, fun q => ?_⟩
      · walk_at "db"
        rw [if_pos (.inr (.inr (decide_eq_true (by have := of_decide_eq_true q; omega))))]
      have q := of_decide_eq_false q
      match n, q, hn with
      | 0, q, _ => exact absurd rfl q
      | k + 1, q, hn =>
      rw [show recOf (k + 1) = cnt k from rfl]
      cases hS : inSg nm
      · cases hD : inDb nm
        · match rest with
          | [] | [_] | [_, _] | _ :: _ :: _ :: _ => walk_at "db"; rw [if_pos (by first | exact .inr (.inl rfl) | exact .inl (by simp [b2n] <;> omega))]
        · match rest, hlen with
          | [], _ | [_], _ | _ :: _ :: _ :: _, _ => walk_at "db"; rw [if_pos (by first | exact .inr (.inl rfl) | exact .inl (by simp [b2n] <;> omega))]
          | [y, y2], hlen =>
          walk_at "db"
          rw [if_neg (by
            rintro (z | z | z)
            · exact z rfl
            · cases z
            · exact absurd (of_decide_eq_true z) (Nat.succ_ne_zero _))]
          refine we_lc_map (tg := [8]) (fun d => .int (cnt k d)) (by decide) (wi_X ?_)
          walk_at "d"
          refine ⟨_, rs_tail, ?_⟩
          walk_at "d"
          refine ⟨_, .inr rfl, lenOk rfl, fun d hd => ?_, ?_⟩
          · refine wgc_name ?_
            walk_at "d"
            refine ⟨_, ⟨k, d, ?_, Nat.lt_of_succ_lt_succ hn, hlen.2 d hd, rfl⟩, rfl, rfl⟩
            rw [show ((k + 1 : Nat) : Int) - 1 = k by omega]
          walk_at "d"
          rw [ints_map]
          generalize List.map (cnt k) _ = cs
          refine ⟨.bool (cs.any (· == 0)), inL_ints, ?_⟩
          walk_at "d"
          refine ⟨fun q4 => ?_, fun q4 => ?_⟩
          · walk_at "d"
            rw [if_pos q4]
          · walk_at "d"
            refine ⟨_, rc_sum, ?_⟩
            walk_at "d"
            rw [if_neg (by rw [q4]; exact Bool.false_ne_true)]
      · have hD : inDb nm = false := by
          cases q : inDb nm
          · rfl
          · exact absurd (inDb_iff.mp q) (w12 (inSg_iff.mp hS))
        rw [hD]
        match rest, hlen with
        | [], _ | [_, _], _ | _ :: _ :: _ :: _, _ => walk_at "db"; rw [if_pos (by first | exact .inr (.inl rfl) | exact .inl (by simp [b2n] <;> omega))]
        | [y], hlen =>
          walk_at "db"
          rw [if_neg (by
            rintro (z | z | z)
            · exact z rfl
            · cases z
            · exact absurd (of_decide_eq_true z) (Nat.succ_ne_zero _))]
          refine we_lc_map (tg := [8]) (fun d => .int (cnt k d)) (by decide) (wi_X ?_)
          walk_at "d"
          refine ⟨_, rs_tail, ?_⟩
          walk_at "d"
          refine ⟨_, .inr rfl, lenOk rfl, fun d hd => ?_, ?_⟩
          · refine wgc_name ?_
            walk_at "d"
            refine ⟨_, ⟨k, d, ?_, Nat.lt_of_succ_lt_succ hn, hlen.2 d hd, rfl⟩, rfl, rfl⟩
            rw [show ((k + 1 : Nat) : Int) - 1 = k by omega]
          walk_at "d"
          rw [ints_map]
          generalize List.map (cnt k) _ = cs
          refine ⟨.bool (cs.any (· == 0)), inL_ints, ?_⟩
          walk_at "d"
          refine ⟨fun q4 => ?_, fun q4 => ?_⟩
          · walk_at "d"
            rw [if_pos q4]
          · walk_at "d"
            refine ⟨_, rc_sum, ?_⟩
            walk_at "d"
            rw [if_neg (by rw [q4]; exact Bool.false_ne_true)]⟩
end K77

set_option Elab.async false
set_option linter.all false
set_option maxRecDepth 100000
set_option pp.deepTerms false
set_option pp.deepTerms.threshold 6
set_option maxHeartbeats 4000000
namespace K77
open PySem PySem.Spec PyProof.Rows L2 DS
-- the steps that need no thought: one, as many as there are
local macro_rules | `(tactic| walk_at "d1") => `(tactic| with_reducible first
  | refine ws_seq ?_ | refine ws_next ?_ | refine ws_retN ?_ | refine ws_ret ?_ | refine ws_if ?_ | refine ws_par ?_ | refine ws_setK ?_ | refine ws_newD ?_ | refine wp_cons ?_ | refine wp_nil ?_ | refine ws_set ?_ | refine ws_star ?_ | refine ws_setO rfl ?_ | apply ws_asg
  | refine we_var rfl ?_ | refine we_int ?_ | refine we_bl ?_ | refine we_str ?_ | refine we_non ?_ | refine we_kd ?_ | refine we_ixO rfl ?_
  | refine we_isi isg_int ?_ | refine we_isi isg_bool ?_ | refine we_isi isg_str ?_ | refine we_isi isg_list ?_ | refine we_isi isg_tuple ?_ | refine we_isi2 isg_list isg_tuple ?_ | refine we_isi2 isg_int isg_tuple ?_
  | refine we_inK ?_ | refine we_ixK ?_ | refine we_op ?_ | refine we_un ?_ | refine we_cb ?_ | refine we_tup ?_ | refine we_lst ?_ | refine we_andV ?_ | refine we_orV ?_ | refine we_notV ?_ | refine we_if ?_ | refine we_chain ?_ | refine we_sl ?_ | refine we_call ?_
  | refine wa_nil ?_ | refine wa_cons ?_ | refine wo_none ?_ | refine wo_some ?_ | refine wt_test ?_ | refine wt_B ?_ | refine wt_and ?_ | refine wt_or ?_ | refine wt_not ?_
  | refine wg_tup rfl ?_ | refine wgs_cons ?_ | refine wgs_nil ?_ | refine wg_name ?_
  | refine ⟨_, r2_int, ?_⟩ | refine ⟨_, r2_bl, ?_⟩ | refine ⟨_, r2_addI, ?_⟩ | refine ⟨_, r2_eqI, ?_⟩ | refine ⟨_, r2_neI, ?_⟩ | refine ⟨_, r2_eqS, ?_⟩ | refine ⟨_, r2_neS, ?_⟩ | refine ⟨_, r2_isN, ?_⟩ | refine ⟨_, r1_neg, ?_⟩
  | refine ⟨_, rc_absI, ?_⟩ | refine ⟨_, rc_intI, ?_⟩ | refine ⟨_, rc_intB, ?_⟩ | refine ⟨_, rc_max, ?_⟩ | refine ⟨_, rc_min, ?_⟩ | refine ⟨_, rc_lenL, ?_⟩ | refine ⟨_, rc_lenT, ?_⟩ | refine ⟨_, rc_listL, ?_⟩ | refine ⟨_, rc_listT, ?_⟩ | refine ⟨_, rc_tupL, ?_⟩ | refine ⟨_, rc_tupT, ?_⟩
  | refine ⟨_, rfl, ?_⟩ | refine ⟨_, _, rfl, ?_⟩ | refine ⟨_, ⟨_, rfl, rfl⟩, ?_⟩ | refine ⟨_, ⟨_, _, rfl, rfl⟩, ?_⟩)
local macro_rules | `(tactic| walk_at "d") => `(tactic| repeat (first | walk_at "d1" | refine ⟨lenOk rfl, ?_⟩ | refine ⟨0, _, _, _, rfl, rfl, rfl, ?_⟩ | refine ⟨_, r2_ixXL rfl, ?_⟩ | refine ⟨_, r2_ixXT rfl, ?_⟩ | refine ⟨_, r2_ixXT at0, ?_⟩ | refine ⟨_, r2_ixXT at1, ?_⟩ | refine ⟨_, r2_ixXL at0, ?_⟩ | refine ⟨_, r2_ixXL at1, ?_⟩))
-- a condition whose truth comes out by computation
local macro_rules | `(tactic| walk_at "b1") => `(tactic| first
  | refine ⟨fun _ => ?_, fun h => Bool.noConfusion (show true = false from h)⟩
  | refine ⟨fun h => Bool.noConfusion (show false = true from h), fun _ => ?_⟩)
local macro_rules | `(tactic| walk_at "db") => `(tactic| repeat (first | walk_at "d1" | refine ⟨lenOk rfl, ?_⟩ | refine ⟨0, _, _, _, rfl, rfl, rfl, ?_⟩ | refine ⟨_, r2_ixXL rfl, ?_⟩ | refine ⟨_, r2_ixXT rfl, ?_⟩ | refine ⟨_, r2_ixXT at0, ?_⟩ | refine ⟨_, r2_ixXT at1, ?_⟩ | refine ⟨_, r2_ixXL at0, ?_⟩ | refine ⟨_, r2_ixXL at1, ?_⟩ | walk_at "b1"))
-- how many arguments there are
local macro_rules | `(tactic| walk_at "len") => `(tactic| (intro _ _ h; first
  | (obtain ⟨_, e, _⟩ := h; subst e; rfl) | (obtain ⟨_, _, e, _⟩ := h; subst e; rfl) | (obtain ⟨_, _, _, e, _⟩ := h; subst e; rfl) | (obtain ⟨_, _, _, _, e, _⟩ := h; subst e; rfl) | (obtain ⟨_, _, _, _, _, e, _⟩ := h; subst e; rfl)))
local macro_rules | `(tactic| walk_at "leno") => `(tactic| (intro _ _ h; first
  | (obtain ⟨⟨_, e, _⟩, _⟩ := h; subst e; rfl) | (obtain ⟨⟨_, _, e, _⟩, _⟩ := h; subst e; rfl) | (obtain ⟨e, _⟩ := h; subst e; rfl) | (obtain ⟨_, e, _⟩ := h; subst e; rfl) | (obtain ⟨_, _, e, _⟩ := h; subst e; rfl) | (obtain ⟨_, _, _, e, _⟩ := h; subst e; rfl) | (obtain ⟨_, _, _, _, e, _⟩ := h; subst e; rfl)))

variable {P : Program} {w : World} {K : PySem.W.Frag} {mg : Str → Option Value} {base : Heap}
/-! ### the law's own comparing: a thing with itself -/
inductive Nc : Nat → PyData → Prop
  | non {n : Nat} : Nc n .none
  | bl {n : Nat} {b : Bool} : Nc n (.bool b)
  | int {n : Nat} {i : Int} : Nc n (.int i)
  | lst {n : Nat} {ds : List PyData} : ds.length ≤ 1000 → (∀ d ∈ ds, Nc n d) → Nc (n + 1) (.list ds)
  | tup {n : Nat} {ds : List PyData} : ds.length ≤ 1000 → (∀ d ∈ ds, Nc n d) → Nc (n + 1) (.tuple ds)
abbrev R_same (m : Nat) (ds : List PyData) (d : PyData) : Prop := ∃ (n : Nat) (x : PyData), ds = [x, x] ∧ n < m ∧ Nc n x ∧ d = .bool true
--%%SPECIAL {('rec', '_law_same', '_law_same'): 'C', ('room', '_law_same', '_law_same'): 'hr'}
theorem c_L_same (T : Top K w mg) : ∀ m : Nat, Cal P w K mg base "_law_same" (m + 1) p_L_same (spP K (R_same m))
  | 0 => pc_zero T.h_L_same (fun _ _ _ _ _ _ us hl => match us, hl with | [_, _], _ => rfl) fun ds d ⟨_, _, _, h, _⟩ => absurd h (Nat.not_lt_zero _)
  | m + 1 => by
    have C := c_L_same T m
    exact T.h_L_same.call (fun _ _ _ _ _ _ us hl => match us, hl with | [_, _], _ => rfl) fun f fd F mm => fn_pure F sc_L_same (by walk_at "len") fun cdv A outer s H E hr => ⟨_, (pss_cons (ps_if (PW.pt (pw_or (pt_cmpR op_isNo (pv 1) pe_non (nomark _)) (pw_or1 (pt_val (pe_callB (call_isiXK (K := K) rfl) (by rfl) T.m_isinstance (by decide +kernel) (pa_cons (pv 1) (pa_cons (pe_ty "bool" (by rfl) T.m_bool (by decide +kernel)) pa_nil))))))) (pss_one (ps_ret (pe_ifExp (pt_cmpR op_isNo (pv 1) pe_non (nomark _)) (pe_cmpR op_isNo (pv 0) pe_non (nomark _)) (pe_and (pe_callB (call_isiXK (K := K) rfl) (by rfl) T.m_isinstance (by decide +kernel) (pa_cons (pv 0) (pa_cons (pe_ty "bool" (by rfl) T.m_bool (by decide +kernel)) pa_nil))) (pe_one (pe_cmpR (op_eqXK (K := K) rfl hr.units) (pe_cmpR op_isBl (pv 0) pe_bl (nomark _)) (pe_cmpR op_isBl (pv 1) pe_bl (nomark _)) (nomark _))))))) pss_nil)
    (pss_cons (ps_if (pt_val (pe_callB (call_isiXK (K := K) rfl) (by rfl) T.m_isinstance (by decide +kernel) (pa_cons (pv 1) (pa_cons (pe_ty "int" (by rfl) T.m_int (by decide +kernel)) pa_nil)))) (pss_one (ps_ret (pe_and (pe_callB (call_isiXK (K := K) rfl) (by rfl) T.m_isinstance (by decide +kernel) (pa_cons (pv 0) (pa_cons (pe_ty "int" (by rfl) T.m_int (by decide +kernel)) pa_nil))) (pe_and (pe_not (pe_callB (call_isiXK (K := K) rfl) (by rfl) T.m_isinstance (by decide +kernel) (pa_cons (pv 0) (pa_cons (pe_ty "bool" (by rfl) T.m_bool (by decide +kernel)) pa_nil)))) (pe_one (pe_cmpR (op_eqXK (K := K) rfl hr.units) (pe_op op_sub (pe_callTy call_int1' (by rfl) T.m_int (by decide +kernel) (pa_cons (pv 0) pa_nil)) (pv 1)) pe_int (nomark _))))))) pss_nil)
    (pss_cons (ps_if (pt_val (pe_callB (call_isiXK (K := K) rfl) (by rfl) T.m_isinstance (by decide +kernel) (pa_cons (pv 1) (pa_cons (pe_ty "str" (by rfl) T.m_str (by decide +kernel)) pa_nil)))) (pss_cons (ps_if (PW.pt (pw_or (pt_not (pt_val (pe_callB (call_isiXK (K := K) rfl) (by rfl) T.m_isinstance (by decide +kernel) (pa_cons (pv 0) (pa_cons (pe_ty "str" (by rfl) T.m_str (by decide +kernel)) pa_nil))))) (pw_or1 (pt_cmpR (op_neXK (K := K) rfl hr.units) (pe_callB (call_lenXK (K := K) rfl) (by rfl) T.m_len (by decide +kernel) (pa_cons (pv 0) pa_nil)) (pe_callB (call_lenXK (K := K) rfl) (by rfl) T.m_len (by decide +kernel) (pa_cons (pv 1) pa_nil)) (nomark _))))) (pss_one (ps_ret pe_bl)) pss_nil)
    (pss_one (ps_ret (pe_cmpR (op_eqXK (K := K) rfl hr.units) (pe_lc (own := [("k", 2)]) (g := gName 2) rfl sc_L_same.nd  (pi_range1 (by rfl) T.m_range (pa_cons (pe_callB (call_lenXK (K := K) rfl) (by rfl) T.m_len (by decide +kernel) (pa_cons (pv 1) pa_nil)) pa_nil))
      (blkOk_by (own := [("k", 2)]) (N := N_L_same) (sc := defScope s_L_same) (by decide +kernel)) (fun _ _ _ _ _ => pg_name (i := 2) sc_L_same.nd rfl (Or.inl rfl))
      (fun _ _ _ _ _ => (pts_one (pt_cmpR (op_neXK (K := K) rfl hr.units) (pe_slice (sl_XK (K := K) rfl) (pv 0) (po_some (pv 2)) (po_some (pe_op (op_addXK (K := K) rfl) (pv 2) pe_int))) (pe_ix (ix_XK (K := K) rfl) (pv 1) (pv 2) (fun _ _ => rfl)) (nomark _)))) (fun _ _ _ _ _ => (pv 2))) (pe_lst pa_nil) (nomark _))))) pss_nil)
    (pss_cons (ps_if (PW.pt (pw_or (pt_cmpR (op_neXK (K := K) rfl hr.units) (pe_callB (call_isiXK (K := K) rfl) (by rfl) T.m_isinstance (by decide +kernel) (pa_cons (pv 0) (pa_cons (pe_ty "list" (by rfl) T.m_list (by decide +kernel)) pa_nil))) (pe_callB (call_isiXK (K := K) rfl) (by rfl) T.m_isinstance (by decide +kernel) (pa_cons (pv 1) (pa_cons (pe_ty "list" (by rfl) T.m_list (by decide +kernel)) pa_nil))) (nomark _)) (pw_or1 (pt_cmpR (op_neXK (K := K) rfl hr.units) (pe_callB (call_isiXK (K := K) rfl) (by rfl) T.m_isinstance (by decide +kernel) (pa_cons (pv 0) (pa_cons (pe_ty "tuple" (by rfl) T.m_tuple (by decide +kernel)) pa_nil))) (pe_callB (call_isiXK (K := K) rfl) (by rfl) T.m_isinstance (by decide +kernel) (pa_cons (pv 1) (pa_cons (pe_ty "tuple" (by rfl) T.m_tuple (by decide +kernel)) pa_nil))) (nomark _))))) (pss_one (ps_ret pe_bl)) pss_nil)
    (pss_one (ps_ret (pe_and (pe_cmpR (op_eqXK (K := K) rfl hr.units) (pe_callB (call_lenXK (K := K) rfl) (by rfl) T.m_len (by decide +kernel) (pa_cons (pv 0) pa_nil)) (pe_callB (call_lenXK (K := K) rfl) (by rfl) T.m_len (by decide +kernel) (pa_cons (pv 1) pa_nil)) (nomark _)) (pe_one (pe_cmpR (op_eqXK (K := K) rfl hr.units) (pe_lc (own := [("k", 2)]) (g := gName 2) rfl sc_L_same.nd  (pi_range1 (by rfl) T.m_range (pa_cons (pe_callB (call_lenXK (K := K) rfl) (by rfl) T.m_len (by decide +kernel) (pa_cons (pv 1) pa_nil)) pa_nil))
      (blkOk_by (own := [("k", 2)]) (N := N_L_same) (sc := defScope s_L_same) (by decide +kernel)) (fun _ _ _ _ _ => pg_name (i := 2) sc_L_same.nd rfl (Or.inl rfl))
      (fun _ _ _ _ _ => (pts_one (pt_not (pt_val (pe_cal C hr (by rfl) (pa_cons (pe_ix (ix_XK (K := K) rfl) (pv 0) (pv 2) (fun _ _ => rfl)) (pa_cons (pe_ix (ix_XK (K := K) rfl) (pv 1) (pv 2) (fun _ _ => rfl)) pa_nil))))))) (fun _ _ _ _ _ => (pv 2))) (pe_lst pa_nil) (nomark _)))))))))), fun ds d hR => by
    obtain ⟨n, x, rfl, hn, hx, rfl⟩ := hR
    cases hx with
    | non => walk_at "db"; rfl
    | @bl n b =>
      cases b <;> walk_at "db" <;> (refine ⟨_, r2_isB, ?_⟩; walk_at "db"; refine ⟨_, r2_isB, ?_⟩; walk_at "db") <;> (first | rfl | skip)
      all_goals
        refine ⟨_, r2_eqB, ?_⟩
        walk_at "db"
        rfl
    | @int n i =>
      walk_at "db"
      rw [show decide (i - i = 0) = true from decide_eq_true (Int.sub_self i)]
    | @lst n ds hl hd =>
      walk_at "db"
      refine ⟨_, r2_neB, ?_⟩
      walk_at "db"
      refine ⟨_, r2_neB, ?_⟩
      walk_at "db"
      rw [show decide ((ds.length : Int) = ds.length) = true from decide_eq_true rfl]
      walk_at "db"
      refine we_lc_if (tg := [2]) (fun _ => false) id (by decide) (wi_rng1 ?_)
      walk_at "d"
      refine ⟨by omega, by omega, ?_⟩
      rw [Int.toNat_natCast]
      refine ⟨by rw [rngD_len]; exact Nat.le_trans hl (by decide), fun d hdm => ?_, ?_⟩
      · obtain ⟨i, hi⟩ := List.getElem?_of_mem hdm
        obtain ⟨hlt, rfl⟩ := rngD_get hi
        have hat : atI ds (0 + (i : Int)) = some ds[i] := by
          rw [Int.zero_add]
          exact DS.atI_nat (List.getElem?_eq_getElem hlt)
        refine wgc_name ?_
        walk_at "d"
        refine ⟨_, r2_ixXL hat, ?_⟩
        walk_at "d"
        refine ⟨_, r2_ixXL hat, ?_⟩
        walk_at "d"
        refine ⟨_, ⟨n, _, rfl, Nat.lt_of_succ_lt_succ hn, hd _ (List.getElem_mem hlt), rfl⟩, ?_⟩
        walk_at "d"
        exact ⟨rfl, rfl, fun z => nomatch z⟩
      walk_at "d"
      refine ⟨_, r2_eqE (Nat.le_trans (Nat.min_le_right _ _) dep_lnil), ?_⟩
      rw [eqv_lnil, List.filter_eq_nil_iff.mpr fun _ _ => Bool.false_ne_true]
      walk_at "d"
      rfl
    | @tup n ds hl hd =>
      walk_at "db"
      refine ⟨_, r2_neB, ?_⟩
      walk_at "db"
      refine ⟨_, r2_neB, ?_⟩
      walk_at "db"
      rw [show decide ((ds.length : Int) = ds.length) = true from decide_eq_true rfl]
      walk_at "db"
      refine we_lc_if (tg := [2]) (fun _ => false) id (by decide) (wi_rng1 ?_)
      walk_at "d"
      refine ⟨by omega, by omega, ?_⟩
      rw [Int.toNat_natCast]
      refine ⟨by rw [rngD_len]; exact Nat.le_trans hl (by decide), fun d hdm => ?_, ?_⟩
      · obtain ⟨i, hi⟩ := List.getElem?_of_mem hdm
        obtain ⟨hlt, rfl⟩ := rngD_get hi
        have hat : atI ds (0 + (i : Int)) = some ds[i] := by
          rw [Int.zero_add]
          exact DS.atI_nat (List.getElem?_eq_getElem hlt)
        refine wgc_name ?_
        walk_at "d"
        refine ⟨_, r2_ixXT hat, ?_⟩
        walk_at "d"
        refine ⟨_, r2_ixXT hat, ?_⟩
        walk_at "d"
        refine ⟨_, ⟨n, _, rfl, Nat.lt_of_succ_lt_succ hn, hd _ (List.getElem_mem hlt), rfl⟩, ?_⟩
        walk_at "d"
        exact ⟨rfl, rfl, fun z => nomatch z⟩
      walk_at "d"
      refine ⟨_, r2_eqE (Nat.le_trans (Nat.min_le_right _ _) dep_lnil), ?_⟩
      rw [eqv_lnil, List.filter_eq_nil_iff.mpr fun _ _ => Bool.false_ne_true]
      walk_at "d"
      rfl⟩
end K77

set_option Elab.async false
set_option linter.all false
set_option maxRecDepth 100000
set_option pp.deepTerms false
set_option pp.deepTerms.threshold 6
set_option maxHeartbeats 4000000
namespace K77
open PySem PySem.Spec PyProof.Rows L2 DS
-- the steps that need no thought: one, as many as there are
local macro_rules | `(tactic| walk_at "d1") => `(tactic| with_reducible first
  | refine ws_seq ?_ | refine ws_next ?_ | refine ws_retN ?_ | refine ws_ret ?_ | refine ws_if ?_ | refine ws_par ?_ | refine ws_setK ?_ | refine ws_newD ?_ | refine wp_cons ?_ | refine wp_nil ?_ | refine ws_set ?_ | refine ws_star ?_ | refine ws_setO rfl ?_ | apply ws_asg
  | refine we_var rfl ?_ | refine we_int ?_ | refine we_bl ?_ | refine we_str ?_ | refine we_non ?_ | refine we_kd ?_ | refine we_ixO rfl ?_
  | refine we_isi isg_int ?_ | refine we_isi isg_bool ?_ | refine we_isi isg_str ?_ | refine we_isi isg_list ?_ | refine we_isi isg_tuple ?_ | refine we_isi2 isg_list isg_tuple ?_ | refine we_isi2 isg_int isg_tuple ?_
  | refine we_inK ?_ | refine we_ixK ?_ | refine we_op ?_ | refine we_un ?_ | refine we_cb ?_ | refine we_tup ?_ | refine we_lst ?_ | refine we_andV ?_ | refine we_orV ?_ | refine we_notV ?_ | refine we_if ?_ | refine we_chain ?_ | refine we_sl ?_ | refine we_call ?_
  | refine wa_nil ?_ | refine wa_cons ?_ | refine wo_none ?_ | refine wo_some ?_ | refine wt_test ?_ | refine wt_B ?_ | refine wt_and ?_ | refine wt_or ?_ | refine wt_not ?_
  | refine wg_tup rfl ?_ | refine wgs_cons ?_ | refine wgs_nil ?_ | refine wg_name ?_
  | refine ⟨_, r2_int, ?_⟩ | refine ⟨_, r2_bl, ?_⟩ | refine ⟨_, r2_addI, ?_⟩ | refine ⟨_, r2_eqI, ?_⟩ | refine ⟨_, r2_neI, ?_⟩ | refine ⟨_, r2_eqS, ?_⟩ | refine ⟨_, r2_neS, ?_⟩ | refine ⟨_, r2_isN, ?_⟩ | refine ⟨_, r1_neg, ?_⟩
  | refine ⟨_, rc_absI, ?_⟩ | refine ⟨_, rc_intI, ?_⟩ | refine ⟨_, rc_intB, ?_⟩ | refine ⟨_, rc_max, ?_⟩ | refine ⟨_, rc_min, ?_⟩ | refine ⟨_, rc_lenL, ?_⟩ | refine ⟨_, rc_lenT, ?_⟩ | refine ⟨_, rc_listL, ?_⟩ | refine ⟨_, rc_listT, ?_⟩ | refine ⟨_, rc_tupL, ?_⟩ | refine ⟨_, rc_tupT, ?_⟩
  | refine ⟨_, rfl, ?_⟩ | refine ⟨_, _, rfl, ?_⟩ | refine ⟨_, ⟨_, rfl, rfl⟩, ?_⟩ | refine ⟨_, ⟨_, _, rfl, rfl⟩, ?_⟩)
local macro_rules | `(tactic| walk_at "d") => `(tactic| repeat (first | walk_at "d1" | refine ⟨lenOk rfl, ?_⟩ | refine ⟨0, _, _, _, rfl, rfl, rfl, ?_⟩ | refine ⟨_, r2_ixXL rfl, ?_⟩ | refine ⟨_, r2_ixXT rfl, ?_⟩ | refine ⟨_, r2_ixXT at0, ?_⟩ | refine ⟨_, r2_ixXT at1, ?_⟩ | refine ⟨_, r2_ixXL at0, ?_⟩ | refine ⟨_, r2_ixXL at1, ?_⟩))
-- a condition whose truth comes out by computation
local macro_rules | `(tactic| walk_at "b1") => `(tactic| first
  | refine ⟨fun _ => ?_, fun h => Bool.noConfusion (show true = false from h)⟩
  | refine ⟨fun h => Bool.noConfusion (show false = true from h), fun _ => ?_⟩)
local macro_rules | `(tactic| walk_at "db") => `(tactic| repeat (first | walk_at "d1" | refine ⟨lenOk rfl, ?_⟩ | refine ⟨0, _, _, _, rfl, rfl, rfl, ?_⟩ | refine ⟨_, r2_ixXL rfl, ?_⟩ | refine ⟨_, r2_ixXT rfl, ?_⟩ | refine ⟨_, r2_ixXT at0, ?_⟩ | refine ⟨_, r2_ixXT at1, ?_⟩ | refine ⟨_, r2_ixXL at0, ?_⟩ | refine ⟨_, r2_ixXL at1, ?_⟩ | walk_at "b1"))
-- how many arguments there are
local macro_rules | `(tactic| walk_at "len") => `(tactic| (intro _ _ h; first
  | (obtain ⟨_, e, _⟩ := h; subst e; rfl) | (obtain ⟨_, _, e, _⟩ := h; subst e; rfl) | (obtain ⟨_, _, _, e, _⟩ := h; subst e; rfl) | (obtain ⟨_, _, _, _, e, _⟩ := h; subst e; rfl) | (obtain ⟨_, _, _, _, _, e, _⟩ := h; subst e; rfl)))
local macro_rules | `(tactic| walk_at "leno") => `(tactic| (intro _ _ h; first
  | (obtain ⟨⟨_, e, _⟩, _⟩ := h; subst e; rfl) | (obtain ⟨⟨_, _, e, _⟩, _⟩ := h; subst e; rfl) | (obtain ⟨e, _⟩ := h; subst e; rfl) | (obtain ⟨_, e, _⟩ := h; subst e; rfl) | (obtain ⟨_, _, e, _⟩ := h; subst e; rfl) | (obtain ⟨_, _, _, e, _⟩ := h; subst e; rfl) | (obtain ⟨_, _, _, _, e, _⟩ := h; subst e; rfl)))

variable {P : Program} {w : World} {K : PySem.W.Frag} {mg : Str → Option Value} {base : Heap}
/-! ### deeds on a box -/
theorem wa_mono {ta : TA} {ρ : List Slot} {β : Bt} {P P' : List PyData → Bt → Prop} (h : WA K ta ρ β P) (f : ∀ d β2, P d β2 → P' d β2) : WA K ta ρ β P' := fun os H σ Q hk hs q => h os H σ Q hk hs fun v H2 d β2 p => q v H2 d β2 (f d β2 p)
abbrev PreB (c : Nat) (A : List PyData → Prop) (bx ds : List PyData) : Prop := A ds ∧ Pb c bx
abbrev PostB (c : Nat) (B : List PyData → PyData → Prop) (bx ds : List PyData) (d : PyData) (bx' : List PyData) : Prop := B ds d ∧ Qb c bx bx'
theorem pb_min {c : Nat} {bx : List PyData} (h : Pb c bx) : ∃ m, m + c ≤ 1000000 ∧ Bx m bx ∧ ∀ bx', Bx (m + c) bx' → Qb c bx bx' := by
  obtain ⟨m, hm, x, y, z, rfl, h1, h2, h3, h4, h5⟩ := h
  refine ⟨z.toNat, by omega, ⟨x, y, z, rfl, h1, h2, h3, h4, by omega⟩, fun bx' hb m0 h0 => ?_⟩
  obtain ⟨_, _, _, e, _, _, _, _, h6⟩ := h0
  cases e
  exact hb.mono (by omega)
theorem we_take {ρ : List Slot} {i m : Nat} {b : Addr} {bx : List PyData} {γ : Bt} {ta : TA} {Q : PyData → Bt → Prop} (hi : ρ[i]? = some (.raw (.ref b))) (hB : Bx m bx) (hm : m + 1 ≤ 1000000)
    (h : WA K ta ρ ((b, .lst bx) :: γ) fun ds β1 => ∃ n : Nat, ds = [.int n] ∧ (1 ≤ n ∧ n ≤ 1000) ∧ β1 = (b, .lst bx) :: γ ∧ ∀ (t : Nat) bx', t < n → Bx (m + 1) bx' → Q (.int t) ((b, .lst bx') :: γ)) : WE K (tCall (spO K PreT PostT) [] EN (tCons (tVar i) ta)) ρ ((b, .lst bx) :: γ) Q := by
  refine we_callO hi (wa_mono h ?_)
  rintro _ _ ⟨n, rfl, hn, rfl, h⟩
  refine ⟨0, bx, rfl, ⟨n, rfl, hn.1, hn.2, m, hm, hB⟩, ?_⟩
  rintro d bx' ⟨t, n', e, rfl, ht, hQ⟩
  have e : n = n' := by
    injection e with e
    injection e with e
    omega
  subst e
  exact h t bx' ht (hQ m hB)
theorem we_box {ρ : List Slot} {i c : Nat} {b : Addr} {β : Bt} {ta : TA} {A : List PyData → Prop} {B : List PyData → PyData → Prop} {Q : PyData → Bt → Prop} (hi : ρ[i]? = some (.raw (.ref b)))
    (h : WA K ta ρ β fun ds β1 => ∃ (m : Nat) (bx : List PyData) (γ : Bt), β1 = (b, .lst bx) :: γ ∧ Bx m bx ∧ m + c ≤ 1000000 ∧ A ds ∧ ∀ d bx', B ds d → Bx (m + c) bx' → Q d ((b, .lst bx') :: γ)) : WE K (tCall (spO K (PreB c A) (PostB c B)) [] EN (tCons (tVar i) ta)) ρ β Q := by
  refine we_callO hi (wa_mono h ?_)
  rintro ds _ ⟨m, bx, γ, rfl, hB, hm, hA, h⟩
  refine ⟨0, bx, rfl, ⟨hA, m, hm, hB⟩, ?_⟩
  rintro d bx' ⟨hb, hQ⟩
  exact h d bx' hb (hQ m hB)
/-! ### leaves -/
def B_leaf (_ : List PyData) (d : PyData) : Prop := ∃ e : Ex, d = e.toD ∧ e.good ∧ e.dep = 0
abbrev Pre_leaf := PreB 3 (fun ds => ds = [])
abbrev Post_leaf := PostB 3 B_leaf
theorem ns_of {a b : Int} (h : Nm a b) (ha : Bd 190 a) (hb : Bd 190 b) : Ns a b := ⟨h, by unfold smB; rw [smI_of ha, smI_of hb]; rfl⟩
theorem leaf_int {i : Int} (h : Bd 190 i) {ds : List PyData} : B_leaf ds (.int i) := ⟨.num i 1, rfl, ns_of (nm_one i) h bd8, rfl⟩
theorem c_L_leaf (T : Top K w mg) : Cal P w K mg base "_law_leaf" 2 p_L_leaf (spO K Pre_leaf Post_leaf) :=
  T.h_L_leaf.call (fun _ _ _ _ _ _ us hl => match us, hl with | [_], _ => rfl) fun f fd F m => fn_own F sc_L_leaf (by walk_at "leno") fun cdv A outer s H E hr => ⟨_, (pss_cons (ps_set (i := 1) sc_L_leaf.nd rfl (.inl rfl) (pe_cal (c_L_take (P := P) (w := w) (K := K) (mg := mg) (base := base) T) (hr.mono (by omega)) (by rfl) (pa_cons (pv 0) (pa_cons pe_int pa_nil))))
    (pss_cons (ps_if (pt_cmpR op_lt (pv 1) pe_int (nomark _)) (pss_one (ps_ret (pe_op op_sub (pe_cal (c_L_take (P := P) (w := w) (K := K) (mg := mg) (base := base) T) (hr.mono (by omega)) (by rfl) (pa_cons (pv 0) (pa_cons pe_int pa_nil))) pe_int))) pss_nil)
    (pss_cons (ps_if (pt_cmpR (op_eqXK (K := K) rfl hr.units) (pv 1) pe_int (nomark _)) (pss_one (ps_ret (pe_cal (c_L_num (P := P) (w := w) (K := K) (mg := mg) (base := base) T) (hr.mono (by omega)) (by rfl) (pa_cons (pe_cal (c_L_low (P := P) (w := w) (K := K) (mg := mg) (base := base) T) (hr.mono (by omega)) (by rfl) (pa_cons (pe_op op_sub (pe_op op_mulW pe_int (pe_cal (c_L_take (P := P) (w := w) (K := K) (mg := mg) (base := base) T) (hr.mono (by omega)) (by rfl) (pa_cons (pv 0) (pa_cons pe_int pa_nil)))) pe_int) (pa_cons (pe_op (op_addXK (K := K) rfl) pe_int (pe_cal (c_L_take (P := P) (w := w) (K := K) (mg := mg) (base := base) T) (hr.mono (by omega)) (by rfl) (pa_cons (pv 0) (pa_cons pe_int pa_nil)))) pa_nil))) pa_nil)))) pss_nil)
    (pss_cons (ps_if (pt_cmpR (op_eqXK (K := K) rfl hr.units) (pv 1) pe_int (nomark _)) (pss_one (ps_ret (pe_ix (ix_XK (K := K) rfl) (pe_lst (pa_cons (pe_op op_mulW pe_int (pe_cal (c_L_take (P := P) (w := w) (K := K) (mg := mg) (base := base) T) (hr.mono (by omega)) (by rfl) (pa_cons (pv 0) (pa_cons pe_int pa_nil)))) (pa_cons pe_int (pa_cons pe_int (pa_cons (pe_op op_sub pe_int pe_int) pa_nil))))) (pe_cal (c_L_take (P := P) (w := w) (K := K) (mg := mg) (base := base) T) (hr.mono (by omega)) (by rfl) (pa_cons (pv 0) (pa_cons pe_int pa_nil))) (fun _ _ => rfl)))) pss_nil)
    (pss_cons (ps_if (pt_cmpR (op_eqXK (K := K) rfl hr.units) (pv 1) pe_int (nomark _)) (pss_one (ps_ret (pe_tup (pa_cons pe_str pa_nil)))) pss_nil)
    (pss_one (ps_ret (pe_ifExp (pt_cmpR op_lt (pv 1) pe_int (nomark _)) (pe_tup (pa_cons pe_str (pa_cons (pe_cal (c_L_take (P := P) (w := w) (K := K) (mg := mg) (base := base) T) (hr.mono (by omega)) (by rfl) (pa_cons (pv 0) (pa_cons pe_int pa_nil))) pa_nil))) (pe_tup (pa_cons pe_str (pa_cons (pe_cal (c_L_take (P := P) (w := w) (K := K) (mg := mg) (base := base) T) (hr.mono (by omega)) (by rfl) (pa_cons (pv 0) (pa_cons pe_int pa_nil))) pa_nil))))))))))), fun b bx ds hR => by
    obtain ⟨rfl, hp⟩ := hR
    obtain ⟨m, hm, hB, hQ⟩ := pb_min hp
    walk_at "d"
    refine we_take rfl hB (by omega) ?_
    walk_at "d"
    refine ⟨by first | decide | omega, rfl, fun t bx ht hB => ?_⟩
    have ht : t < 9 := ht
    walk_at "d"
    refine ⟨fun h => ?_, fun h => ?_⟩
    · walk_at "d"
      refine we_take rfl hB (by omega) ?_
      walk_at "d"
      refine ⟨by first | decide | omega, rfl, fun u bx hu hB => ?_⟩
      have hu : u < 30 := hu
      walk_at "d"
      refine ⟨leaf_int ?_, hQ _ (hB.mono (by omega))⟩
      unfold Bd
      omega
    walk_at "d"
    refine ⟨fun h2 => ?_, fun h2 => ?_⟩
    · walk_at "d"
      refine we_take rfl hB (by omega) ?_
      walk_at "d"
      refine ⟨by first | decide | omega, rfl, fun u bx hu hB => ?_⟩
      have hu : u < 40 := hu
      walk_at "d"
      have hu : Bd 8 (u : Int) := by unfold Bd; omega
      refine ⟨_, r2_intC (mulOk (bd8 (n := 8)) hu), ?_⟩
      walk_at "d"
      refine we_take rfl hB (by omega) ?_
      walk_at "d"
      refine ⟨by first | decide | omega, rfl, fun v bx hv hB => ?_⟩
      have hv : v < 6 := hv
      walk_at "d"
      refine ⟨_, ⟨_, _, rfl, by omega, by unfold Bd; omega, by unfold Bd; omega, rfl⟩, ?_⟩
      walk_at "d"
      have hv : (2 + (v : Int)) ≠ 0 := by omega
      refine ⟨⟨.num (redT (2 * u - 31) (2 + v)) (redB (2 * u - 31) (2 + v)), rfl, ns_of (red_nm hv) (Bd.redT hv (by unfold Bd; omega)) (Bd.redB hv (by unfold Bd; omega)), rfl⟩, hQ _ (hB.mono (by omega))⟩
    walk_at "d"
    refine ⟨fun h3 => ?_, fun h3 => ?_⟩
    · walk_at "d"
      refine we_take rfl hB (by omega) ?_
      walk_at "d"
      refine ⟨by first | decide | omega, rfl, fun u bx hu hB => ?_⟩
      have hu : u < 9 := hu
      walk_at "d"
      have hu : Bd 8 (u : Int) := by unfold Bd; omega
      refine ⟨_, r2_intC (mulOk (bd8 (n := 8)) hu), ?_⟩
      walk_at "d"
      refine we_take rfl hB (by omega) ?_
      walk_at "d"
      refine ⟨by first | decide | omega, rfl, fun v bx hv hB => ?_⟩
      have hv : v < 4 := hv
      walk_at "d"
      match v, hv with
      | 0, _ =>
        walk_at "d"
        exact ⟨leaf_int (((bd8 (n := 8)).mul hu).mono (by decide)), hQ _ (hB.mono (by omega))⟩
      | 1, _ =>
        walk_at "d"
        exact ⟨leaf_int bd8, hQ _ (hB.mono (by omega))⟩
      | 2, _ =>
        walk_at "d"
        exact ⟨leaf_int bd8, hQ _ (hB.mono (by omega))⟩
      | 3, _ =>
        walk_at "d"
        exact ⟨leaf_int bd8, hQ _ (hB.mono (by omega))⟩
    walk_at "d"
    refine ⟨fun h4 => ?_, fun h4 => ?_⟩
    · walk_at "d"
      exact ⟨⟨.size, rfl, trivial, rfl⟩, hQ _ (hB.mono (by omega))⟩
    walk_at "d"
    refine ⟨fun h5 => ?_, fun h5 => ?_⟩
    · walk_at "d"
      refine we_take rfl hB (by omega) ?_
      walk_at "d"
      refine ⟨by first | decide | omega, rfl, fun u bx hu hB => ?_⟩
      have hu : u < 8 := hu
      walk_at "d"
      exact ⟨⟨.load u, rfl, ⟨by omega, by omega⟩, rfl⟩, hQ _ (hB.mono (by omega))⟩
    · walk_at "d"
      refine we_take rfl hB (by omega) ?_
      walk_at "d"
      refine ⟨by first | decide | omega, rfl, fun u bx hu hB => ?_⟩
      have hu : u < 4 := hu
      walk_at "d"
      exact ⟨⟨.worth u, rfl, ⟨by omega, by omega⟩, rfl⟩, hQ _ (hB.mono (by omega))⟩⟩
end K77

set_option Elab.async false
set_option linter.all false
set_option maxRecDepth 100000
set_option pp.deepTerms false
set_option pp.deepTerms.threshold 6
set_option maxHeartbeats 4000000
namespace K77
open PySem PySem.Spec PyProof.Rows L2 DS
-- the steps that need no thought: one, as many as there are
local macro_rules | `(tactic| walk_at "d1") => `(tactic| with_reducible first
  | refine ws_seq ?_ | refine ws_next ?_ | refine ws_retN ?_ | refine ws_ret ?_ | refine ws_if ?_ | refine ws_par ?_ | refine ws_setK ?_ | refine ws_newD ?_ | refine wp_cons ?_ | refine wp_nil ?_ | refine ws_set ?_ | refine ws_star ?_ | refine ws_setO rfl ?_ | apply ws_asg
  | refine we_var rfl ?_ | refine we_int ?_ | refine we_bl ?_ | refine we_str ?_ | refine we_non ?_ | refine we_kd ?_ | refine we_ixO rfl ?_
  | refine we_isi isg_int ?_ | refine we_isi isg_bool ?_ | refine we_isi isg_str ?_ | refine we_isi isg_list ?_ | refine we_isi isg_tuple ?_ | refine we_isi2 isg_list isg_tuple ?_ | refine we_isi2 isg_int isg_tuple ?_
  | refine we_inK ?_ | refine we_ixK ?_ | refine we_op ?_ | refine we_un ?_ | refine we_cb ?_ | refine we_tup ?_ | refine we_lst ?_ | refine we_andV ?_ | refine we_orV ?_ | refine we_notV ?_ | refine we_if ?_ | refine we_chain ?_ | refine we_sl ?_ | refine we_call ?_
  | refine wa_nil ?_ | refine wa_cons ?_ | refine wo_none ?_ | refine wo_some ?_ | refine wt_test ?_ | refine wt_B ?_ | refine wt_and ?_ | refine wt_or ?_ | refine wt_not ?_
  | refine wg_tup rfl ?_ | refine wgs_cons ?_ | refine wgs_nil ?_ | refine wg_name ?_
  | refine ⟨_, r2_int, ?_⟩ | refine ⟨_, r2_bl, ?_⟩ | refine ⟨_, r2_addI, ?_⟩ | refine ⟨_, r2_eqI, ?_⟩ | refine ⟨_, r2_neI, ?_⟩ | refine ⟨_, r2_eqS, ?_⟩ | refine ⟨_, r2_neS, ?_⟩ | refine ⟨_, r2_isN, ?_⟩ | refine ⟨_, r1_neg, ?_⟩
  | refine ⟨_, rc_absI, ?_⟩ | refine ⟨_, rc_intI, ?_⟩ | refine ⟨_, rc_intB, ?_⟩ | refine ⟨_, rc_max, ?_⟩ | refine ⟨_, rc_min, ?_⟩ | refine ⟨_, rc_lenL, ?_⟩ | refine ⟨_, rc_lenT, ?_⟩ | refine ⟨_, rc_listL, ?_⟩ | refine ⟨_, rc_listT, ?_⟩ | refine ⟨_, rc_tupL, ?_⟩ | refine ⟨_, rc_tupT, ?_⟩
  | refine ⟨_, rfl, ?_⟩ | refine ⟨_, _, rfl, ?_⟩ | refine ⟨_, ⟨_, rfl, rfl⟩, ?_⟩ | refine ⟨_, ⟨_, _, rfl, rfl⟩, ?_⟩)
local macro_rules | `(tactic| walk_at "d") => `(tactic| repeat (first | walk_at "d1" | refine ⟨lenOk rfl, ?_⟩ | refine ⟨0, _, _, _, rfl, rfl, rfl, ?_⟩ | refine ⟨_, r2_ixXL rfl, ?_⟩ | refine ⟨_, r2_ixXT rfl, ?_⟩ | refine ⟨_, r2_ixXT at0, ?_⟩ | refine ⟨_, r2_ixXT at1, ?_⟩ | refine ⟨_, r2_ixXL at0, ?_⟩ | refine ⟨_, r2_ixXL at1, ?_⟩))
-- a condition whose truth comes out by computation
local macro_rules | `(tactic| walk_at "b1") => `(tactic| first
  | refine ⟨fun _ => ?_, fun h => Bool.noConfusion (show true = false from h)⟩
  | refine ⟨fun h => Bool.noConfusion (show false = true from h), fun _ => ?_⟩)
local macro_rules | `(tactic| walk_at "db") => `(tactic| repeat (first | walk_at "d1" | refine ⟨lenOk rfl, ?_⟩ | refine ⟨0, _, _, _, rfl, rfl, rfl, ?_⟩ | refine ⟨_, r2_ixXL rfl, ?_⟩ | refine ⟨_, r2_ixXT rfl, ?_⟩ | refine ⟨_, r2_ixXT at0, ?_⟩ | refine ⟨_, r2_ixXT at1, ?_⟩ | refine ⟨_, r2_ixXL at0, ?_⟩ | refine ⟨_, r2_ixXL at1, ?_⟩ | walk_at "b1"))
-- how many arguments there are
local macro_rules | `(tactic| walk_at "len") => `(tactic| (intro _ _ h; first
  | (obtain ⟨_, e, _⟩ := h; subst e; rfl) | (obtain ⟨_, _, e, _⟩ := h; subst e; rfl) | (obtain ⟨_, _, _, e, _⟩ := h; subst e; rfl) | (obtain ⟨_, _, _, _, e, _⟩ := h; subst e; rfl) | (obtain ⟨_, _, _, _, _, e, _⟩ := h; subst e; rfl)))
local macro_rules | `(tactic| walk_at "leno") => `(tactic| (intro _ _ h; first
  | (obtain ⟨⟨_, e, _⟩, _⟩ := h; subst e; rfl) | (obtain ⟨⟨_, _, e, _⟩, _⟩ := h; subst e; rfl) | (obtain ⟨e, _⟩ := h; subst e; rfl) | (obtain ⟨_, e, _⟩ := h; subst e; rfl) | (obtain ⟨_, _, e, _⟩ := h; subst e; rfl) | (obtain ⟨_, _, _, e, _⟩ := h; subst e; rfl) | (obtain ⟨_, _, _, _, e, _⟩ := h; subst e; rfl)))

variable {P : Program} {w : World} {K : PySem.W.Frag} {mg : Str → Option Value} {base : Heap}
/-! ### formulas of a box -/
def cf : Nat → Nat
  | 0 => 0
  | m + 1 => 2 * cf m + 8
theorem cf_s {m : Nat} : cf (m + 1) = 2 * cf m + 8 := rfl
def A_f (m : Nat) (ds : List PyData) : Prop := ∃ l : Nat, ds = [.int l] ∧ l < m ∧ l ≤ 100
def B_f (ds : List PyData) (d : PyData) : Prop := ∃ (e : Ex) (l : Nat), ds = [.int l] ∧ d = e.toD ∧ e.good ∧ e.dep ≤ l
def w14 : List Str := ["plus", "minus", "times", "over", "lesser", "greater", "same", "both", "either", "plus", "minus", "times", "minus", "over"]
theorem spl14 : Txt.split "plus minus times over lesser greater same both either plus minus times minus over" " " = w14 := by decide +kernel
theorem strs_at {ws : List Str} {t : Nat} (h : t < ws.length) : atI (ws.map PyData.str) t = some (.str ws[t]) := DS.atI_nat (by rw [List.getElem?_map, List.getElem?_eq_getElem h]; rfl)
theorem w14_2 {z : Str} (h : z ∈ w14) : z ∈ w2 := by
  simp [w14] at h
  rcases h with h | h | h | h | h | h | h | h | h | h | h | h | h | h <;> subst h <;> simp [w2]
theorem pb_zero {x : Str} {k : Nat} {ps : List Str} {Pre : List PyData → List PyData → Prop} {Post : List PyData → List PyData → PyData → List PyData → Prop} {st : Stmt} (h : Has K mg x st [])
    (hb : ∀ (kV doc pm : Value) (an : Option Addr) (cdv ct : Value) (us : List Value), us.length = ps.length → bindArgs (PySem.W.fnOf x x (defArgs st) (defBody st) (defScope st) .none kV doc pm an cdv ct) ⟨us, []⟩ = pure (ps.zip us)) (hR : ∀ bx ds, ¬ Pre bx ds) : Cal P w K mg base x k ps (spO K Pre Post) :=
  h.call hb fun f fd F m => ⟨fun vs H Q E h => (by
      obtain ⟨_, _, _, _, _, _, _, _, _, _, h, _⟩ := h
      exact absurd h (hR _ _)), fun A outer s H args us vs Q E _ _ _ _ h => (by
      obtain ⟨_, _, _, _, _, _, _, _, _, _, h, _⟩ := h
      exact absurd h (hR _ _))⟩
--%%SPECIAL {('rec', '_law_formula', '_law_formula'): 'C', ('room', '_law_formula', '_law_formula'): 'hr'}
theorem c_L_formula (T : Top K w mg) : ∀ m : Nat, Cal P w K mg base "_law_formula" (m + 3) p_L_formula (spO K (PreB (cf m) (A_f m)) (PostB (cf m) B_f))
  | 0 => pb_zero T.h_L_formula (fun _ _ _ _ _ _ us hl => match us, hl with | [_, _], _ => rfl) fun bx ds ⟨⟨_, _, h, _⟩, _⟩ => absurd h (Nat.not_lt_zero _)
  | k + 1 => by
    have C := c_L_formula T k
    exact T.h_L_formula.call (fun _ _ _ _ _ _ us hl => match us, hl with | [_, _], _ => rfl) fun f fd F mm => fn_own F sc_L_formula (by walk_at "leno") fun cdv A outer s H E hr => ⟨_, (pss_cons (ps_if (PW.pt (pw_or (pt_cmpR (op_eqXK (K := K) rfl hr.units) (pv 1) pe_int (nomark _)) (pw_or1 (pt_cmpR (op_eqXK (K := K) rfl hr.units) (pe_cal (c_L_take (P := P) (w := w) (K := K) (mg := mg) (base := base) T) (hr.mono (by omega)) (by rfl) (pa_cons (pv 0) (pa_cons pe_int pa_nil))) pe_int (nomark _))))) (pss_one (ps_ret (pe_cal (c_L_leaf (P := P) (w := w) (K := K) (mg := mg) (base := base) T) (hr.mono (by omega)) (by rfl) (pa_cons (pv 0) pa_nil)))) pss_nil)
    (pss_cons (ps_if (pt_cmpR (op_eqXK (K := K) rfl hr.units) (pe_cal (c_L_take (P := P) (w := w) (K := K) (mg := mg) (base := base) T) (hr.mono (by omega)) (by rfl) (pa_cons (pv 0) (pa_cons pe_int pa_nil))) pe_int (nomark _)) (pss_cons (ps_set (i := 2) sc_L_formula.nd rfl (.inl rfl) (pe_ix (ix_XK (K := K) rfl) (pe_lst (pa_cons pe_str (pa_cons pe_str (pa_cons pe_str (pa_cons pe_str (pa_cons pe_str pa_nil)))))) (pe_cal (c_L_take (P := P) (w := w) (K := K) (mg := mg) (base := base) T) (hr.mono (by omega)) (by rfl) (pa_cons (pv 0) (pa_cons pe_int pa_nil))) (fun _ _ => rfl)))
    (pss_one (ps_ret (pe_tup (pa_cons (pv 2) (pa_cons (pe_cal C hr (by rfl) (pa_cons (pv 0) (pa_cons (pe_op op_sub (pv 1) pe_int) pa_nil))) pa_nil)))))) pss_nil)
    (pss_cons (ps_set (i := 3) sc_L_formula.nd rfl (.inl rfl) (pe_splS pe_str pe_str))
    (pss_cons (ps_set (i := 2) sc_L_formula.nd rfl (.inl rfl) (pe_ix (ix_XK (K := K) rfl) (pv 3) (pe_cal (c_L_take (P := P) (w := w) (K := K) (mg := mg) (base := base) T) (hr.mono (by omega)) (by rfl) (pa_cons (pv 0) (pa_cons pe_int pa_nil))) (fun _ _ => rfl)))
    (pss_cons (ps_set (i := 4) sc_L_formula.nd rfl (.inl rfl) (pe_cal C hr (by rfl) (pa_cons (pv 0) (pa_cons (pe_op op_sub (pv 1) pe_int) pa_nil))))
    (pss_cons (ps_set (i := 5) sc_L_formula.nd rfl (.inl rfl) (pe_cmpR (op_eqXK (K := K) rfl hr.units) (pe_cal (c_L_take (P := P) (w := w) (K := K) (mg := mg) (base := base) T) (hr.mono (by omega)) (by rfl) (pa_cons (pv 0) (pa_cons pe_int pa_nil))) pe_int (nomark _)))
    (pss_one (ps_ret (pe_tup (pa_cons (pv 2) (pa_cons (pv 4) (pa_cons (pe_cal C hr (by rfl) (pa_cons (pv 0) (pa_cons (pe_ifExp (pt_val (pv 5)) (pe_cal (c_L_take (P := P) (w := w) (K := K) (mg := mg) (base := base) T) (hr.mono (by omega)) (by rfl) (pa_cons (pv 0) (pa_cons (pv 1) pa_nil))) (pe_op op_sub (pv 1) pe_int)) pa_nil))) pa_nil)))))))))))), fun b bx ds hR => by
    obtain ⟨⟨l, rfl, hl, hl2⟩, hp⟩ := hR
    obtain ⟨m, hm, hB, hQ⟩ := pb_min hp
    rw [cf_s] at hm hQ
    walk_at "d"
    refine ⟨fun h => ?_, fun h => ?_⟩
    · walk_at "db"
      refine we_box rfl ?_
      walk_at "d"
      refine ⟨_, _, _, rfl, hB, by omega, rfl, fun d bx ⟨e, hd, hg, he⟩ hB => ?_⟩
      walk_at "d"
      exact ⟨⟨e, l, rfl, hd, hg, by omega⟩, hQ _ (hB.mono (by omega))⟩
    have h := of_decide_eq_false h
    walk_at "d"
    refine we_take rfl hB (by omega) ?_
    walk_at "d"
    refine ⟨by first | decide | omega, rfl, fun t bx ht hB => ?_⟩
    have ht : t < 6 := ht
    walk_at "d"
    refine ⟨fun h2 => ?_, fun h2 => ?_⟩
    · walk_at "db"
      refine we_box rfl ?_
      walk_at "d"
      refine ⟨_, _, _, rfl, hB, by omega, rfl, fun d bx ⟨e, hd, hg, he⟩ hB => ?_⟩
      walk_at "d"
      exact ⟨⟨e, l, rfl, hd, hg, by omega⟩, hQ _ (hB.mono (by omega))⟩
    obtain ⟨l', rfl⟩ : ∃ l', l = l' + 1 := ⟨l - 1, by omega⟩
    walk_at "db"
    refine we_take rfl hB (by omega) ?_
    walk_at "d"
    refine ⟨by first | decide | omega, rfl, fun u bx hu hB => ?_⟩
    have hu : u < 4 := hu
    walk_at "d"
    refine ⟨fun h3 => ?_, fun h3 => ?_⟩
    · walk_at "d"
      refine we_take rfl hB (by omega) ?_
      walk_at "d"
      refine ⟨by first | decide | omega, rfl, fun v bx hv hB => ?_⟩
      have hv : v < 5 := hv
      walk_at "d"
      refine ⟨.str (w1[v]'hv), r2_ixXL (show atI (w1.map PyData.str) v = _ from strs_at hv), ?_⟩
      walk_at "d"
      refine we_box rfl ?_
      walk_at "d"
      rw [show (((l' + 1 : Nat) : Int) - 1) = (l' : Int) by omega]
      refine ⟨_, _, _, rfl, hB, by omega, ⟨l', rfl, by omega, by omega⟩, fun d bx hb hB => ?_⟩
      obtain ⟨e, l2, e1, rfl, hg, he⟩ := hb
      cases e1
      walk_at "d"
      exact ⟨⟨.one _ e, l' + 1, rfl, rfl, ⟨List.getElem_mem hv, hg⟩, Nat.succ_le_succ he⟩, hQ _ (hB.mono (by omega))⟩
    walk_at "d"
    refine we_spl ?_
    walk_at "d"
    refine ⟨_, _, rfl, spl14, rfl, lenOk rfl, ?_⟩
    walk_at "d"
    refine we_take rfl hB (by omega) ?_
    walk_at "d"
    refine ⟨by first | decide | omega, rfl, fun v bx hv hB => ?_⟩
    have hv : v < 14 := hv
    walk_at "d"
    refine ⟨.str (w14[v]'hv), r2_ixXL (show atI (w14.map PyData.str) v = _ from strs_at hv), ?_⟩
    have hz : w14[v]'hv ∈ w2 := w14_2 (List.getElem_mem hv)
    generalize w14[v]'hv = z at hz
    walk_at "d"
    refine we_box rfl ?_
    walk_at "d"
    rw [show (((l' + 1 : Nat) : Int) - 1) = (l' : Int) by omega]
    refine ⟨_, _, _, rfl, hB, by omega, ⟨l', rfl, by omega, by omega⟩, fun d bx hb hB => ?_⟩
    obtain ⟨e, l2, e1, rfl, hg, he⟩ := hb
    cases e1
    walk_at "d"
    refine we_take rfl hB (by omega) ?_
    walk_at "d"
    refine ⟨by first | decide | omega, rfl, fun s bx hs hB => ?_⟩
    have hs : s < 3 := hs
    walk_at "d"
    refine we_box rfl ?_
    walk_at "d"
    refine ⟨fun h4 => ?_, fun h4 => ?_⟩
    · walk_at "d"
      refine we_take rfl hB (by omega) ?_
      walk_at "d"
      refine ⟨by omega, rfl, fun t2 bx ht2 hB => ?_⟩
      walk_at "d"
      refine ⟨_, _, _, rfl, hB, by omega, ⟨t2, rfl, by omega, by omega⟩, fun d bx hb hB => ?_⟩
      obtain ⟨e2, l3, e1, rfl, hg2, he2⟩ := hb
      cases e1
      walk_at "d"
      exact ⟨⟨.two z e e2, l' + 1, rfl, rfl, ⟨hz, hg, hg2⟩, Nat.succ_le_succ (Nat.max_le.mpr ⟨he, by omega⟩)⟩, hQ _ (hB.mono (by omega))⟩
    · walk_at "d"
      rw [show (((l' + 1 : Nat) : Int) - 1) = (l' : Int) by omega]
      refine ⟨_, _, _, rfl, hB, by omega, ⟨l', rfl, by omega, by omega⟩, fun d bx hb hB => ?_⟩
      obtain ⟨e2, l3, e1, rfl, hg2, he2⟩ := hb
      cases e1
      walk_at "d"
      exact ⟨⟨.two z e e2, l' + 1, rfl, rfl, ⟨hz, hg, hg2⟩, Nat.succ_le_succ (Nat.max_le.mpr ⟨he, he2⟩)⟩, hQ _ (hB.mono (by omega))⟩⟩
end K77

set_option Elab.async false
set_option linter.all false
set_option maxRecDepth 100000
set_option pp.deepTerms false
set_option pp.deepTerms.threshold 6
set_option maxHeartbeats 4000000
namespace K77
open PySem PySem.Spec PyProof.Rows L2 DS
-- the steps that need no thought: one, as many as there are
local macro_rules | `(tactic| walk_at "d1") => `(tactic| with_reducible first
  | refine ws_seq ?_ | refine ws_next ?_ | refine ws_retN ?_ | refine ws_ret ?_ | refine ws_if ?_ | refine ws_par ?_ | refine ws_setK ?_ | refine ws_newD ?_ | refine wp_cons ?_ | refine wp_nil ?_ | refine ws_set ?_ | refine ws_star ?_ | refine ws_setO rfl ?_ | apply ws_asg
  | refine we_var rfl ?_ | refine we_int ?_ | refine we_bl ?_ | refine we_str ?_ | refine we_non ?_ | refine we_kd ?_ | refine we_ixO rfl ?_
  | refine we_isi isg_int ?_ | refine we_isi isg_bool ?_ | refine we_isi isg_str ?_ | refine we_isi isg_list ?_ | refine we_isi isg_tuple ?_ | refine we_isi2 isg_list isg_tuple ?_ | refine we_isi2 isg_int isg_tuple ?_
  | refine we_inK ?_ | refine we_ixK ?_ | refine we_op ?_ | refine we_un ?_ | refine we_cb ?_ | refine we_tup ?_ | refine we_lst ?_ | refine we_andV ?_ | refine we_orV ?_ | refine we_notV ?_ | refine we_if ?_ | refine we_chain ?_ | refine we_sl ?_ | refine we_call ?_
  | refine wa_nil ?_ | refine wa_cons ?_ | refine wo_none ?_ | refine wo_some ?_ | refine wt_test ?_ | refine wt_B ?_ | refine wt_and ?_ | refine wt_or ?_ | refine wt_not ?_
  | refine wg_tup rfl ?_ | refine wgs_cons ?_ | refine wgs_nil ?_ | refine wg_name ?_
  | refine ⟨_, r2_int, ?_⟩ | refine ⟨_, r2_bl, ?_⟩ | refine ⟨_, r2_addI, ?_⟩ | refine ⟨_, r2_eqI, ?_⟩ | refine ⟨_, r2_neI, ?_⟩ | refine ⟨_, r2_eqS, ?_⟩ | refine ⟨_, r2_neS, ?_⟩ | refine ⟨_, r2_isN, ?_⟩ | refine ⟨_, r1_neg, ?_⟩
  | refine ⟨_, rc_absI, ?_⟩ | refine ⟨_, rc_intI, ?_⟩ | refine ⟨_, rc_intB, ?_⟩ | refine ⟨_, rc_max, ?_⟩ | refine ⟨_, rc_min, ?_⟩ | refine ⟨_, rc_lenL, ?_⟩ | refine ⟨_, rc_lenT, ?_⟩ | refine ⟨_, rc_listL, ?_⟩ | refine ⟨_, rc_listT, ?_⟩ | refine ⟨_, rc_tupL, ?_⟩ | refine ⟨_, rc_tupT, ?_⟩
  | refine ⟨_, rfl, ?_⟩ | refine ⟨_, _, rfl, ?_⟩ | refine ⟨_, ⟨_, rfl, rfl⟩, ?_⟩ | refine ⟨_, ⟨_, _, rfl, rfl⟩, ?_⟩)
local macro_rules | `(tactic| walk_at "d") => `(tactic| repeat (first | walk_at "d1" | refine ⟨lenOk rfl, ?_⟩ | refine ⟨0, _, _, _, rfl, rfl, rfl, ?_⟩ | refine ⟨_, r2_ixXL rfl, ?_⟩ | refine ⟨_, r2_ixXT rfl, ?_⟩ | refine ⟨_, r2_ixXT at0, ?_⟩ | refine ⟨_, r2_ixXT at1, ?_⟩ | refine ⟨_, r2_ixXL at0, ?_⟩ | refine ⟨_, r2_ixXL at1, ?_⟩))
-- a condition whose truth comes out by computation
local macro_rules | `(tactic| walk_at "b1") => `(tactic| first
  | refine ⟨fun _ => ?_, fun h => Bool.noConfusion (show true = false from h)⟩
  | refine ⟨fun h => Bool.noConfusion (show false = true from h), fun _ => ?_⟩)
local macro_rules | `(tactic| walk_at "db") => `(tactic| repeat (first | walk_at "d1" | refine ⟨lenOk rfl, ?_⟩ | refine ⟨0, _, _, _, rfl, rfl, rfl, ?_⟩ | refine ⟨_, r2_ixXL rfl, ?_⟩ | refine ⟨_, r2_ixXT rfl, ?_⟩ | refine ⟨_, r2_ixXT at0, ?_⟩ | refine ⟨_, r2_ixXT at1, ?_⟩ | refine ⟨_, r2_ixXL at0, ?_⟩ | refine ⟨_, r2_ixXL at1, ?_⟩ | walk_at "b1"))
-- how many arguments there are
local macro_rules | `(tactic| walk_at "len") => `(tactic| (intro _ _ h; first
  | (obtain ⟨_, e, _⟩ := h; subst e; rfl) | (obtain ⟨_, _, e, _⟩ := h; subst e; rfl) | (obtain ⟨_, _, _, e, _⟩ := h; subst e; rfl) | (obtain ⟨_, _, _, _, e, _⟩ := h; subst e; rfl) | (obtain ⟨_, _, _, _, _, e, _⟩ := h; subst e; rfl)))
local macro_rules | `(tactic| walk_at "leno") => `(tactic| (intro _ _ h; first
  | (obtain ⟨⟨_, e, _⟩, _⟩ := h; subst e; rfl) | (obtain ⟨⟨_, _, e, _⟩, _⟩ := h; subst e; rfl) | (obtain ⟨e, _⟩ := h; subst e; rfl) | (obtain ⟨_, e, _⟩ := h; subst e; rfl) | (obtain ⟨_, _, e, _⟩ := h; subst e; rfl) | (obtain ⟨_, _, _, e, _⟩ := h; subst e; rfl) | (obtain ⟨_, _, _, _, e, _⟩ := h; subst e; rfl)))

variable {P : Program} {w : World} {K : PySem.W.Frag} {mg : Str → Option Value} {base : Heap}
/-! ### things that are no formulas -/
def wdB : Nat → PyData → Bool
  | 0, _ => false
  | n + 1, .tuple ds => Nat.ble ds.length 16000 && ds.all (wdB n)
  | _ + 1, _ => true
theorem wd_of : ∀ {n : Nat} {d : PyData}, wdB n d = true → Wd d := by
  intro n
  induction n with
  | zero => intro d h; cases h
  | succ n ih =>
    intro d h
    match d, h with
    | .tuple ds, h =>
      have h : (Nat.ble ds.length 16000 && ds.all (wdB n)) = true := h
      rw [Bool.and_eq_true] at h
      exact .tup (Nat.le_of_ble_eq_true h.1) fun d hd => ih (List.all_eq_true.mp h.2 d hd)
    | .none, _ | .bool _, _ | .int _, _ | .str _, _ | .list _, _ | .dict _, _ => exact .oth rfl
theorem wds_of {n : Nat} {ds : List PyData} (h : ds.all (wdB n) = true) : ∀ d ∈ ds, Wd d := fun d hd => wd_of (List.all_eq_true.mp h d hd)
theorem at_wd {ds : List PyData} {t : Nat} (h : ∀ d ∈ ds, Wd d) (ht : t < ds.length) : ∃ d, atI ds t = some d ∧ Wd d := ⟨ds[t], DS.atI_nat (List.getElem?_eq_getElem ht), h _ (List.getElem_mem ht)⟩
theorem wd_num {a b : Int} : Wd (numD a b) := by
  rcases num_cases a b with ⟨h, _⟩ | ⟨h, _⟩ <;> rw [h]
  · exact .oth rfl
  · exact wd_of (n := 2) rfl
theorem wd_toD : ∀ e : Ex, Wd e.toD
  | .num a b => wd_num
  | .size => wd_of (n := 2) rfl
  | .load i => wd_of (n := 2) rfl
  | .worth i => wd_of (n := 2) rfl
  | .one w e => .tup (Nat.le_of_ble_eq_true rfl) fun d hd => by
    rcases List.mem_cons.mp hd with rfl | hd
    · exact .oth rfl
    rcases List.mem_cons.mp hd with rfl | hd
    · exact wd_toD e
    cases hd
  | .two w e f => .tup (Nat.le_of_ble_eq_true rfl) fun d hd => by
    rcases List.mem_cons.mp hd with rfl | hd
    · exact .oth rfl
    rcases List.mem_cons.mp hd with rfl | hd
    · exact wd_toD e
    rcases List.mem_cons.mp hd with rfl | hd
    · exact wd_toD f
    cases hd
abbrev R_lparts (ds : List PyData) (d : PyData) : Prop := ∃ e : Ex, ds = [e.toD] ∧ e.good ∧ d = .list (e.parts.map Ex.toD)
theorem c_L_parts (T : Top K w mg) : Cal P w K mg base "_law_parts" 1 p_L_parts (spP K R_lparts) :=
  T.h_L_parts.call (fun _ _ _ _ _ _ us hl => match us, hl with | [_], _ => rfl) fun f fd F m => fn_pure F sc_L_parts (by walk_at "len") fun cdv A outer s H E hr => ⟨_, (pss_cons (ps_if (PW.pt (pw_or (pt_not (pt_val (pe_callB (call_isiXK (K := K) rfl) (by rfl) T.m_isinstance (by decide +kernel) (pa_cons (pv 0) (pa_cons (pe_ty "tuple" (by rfl) T.m_tuple (by decide +kernel)) pa_nil))))) (pw_or (pt_not (pt_val (pe_callB (call_isiXK (K := K) rfl) (by rfl) T.m_isinstance (by decide +kernel) (pa_cons (pe_ix (ix_XK (K := K) rfl) (pv 0) pe_int (fun _ _ => rfl)) (pa_cons (pe_ty "str" (by rfl) T.m_str (by decide +kernel)) pa_nil))))) (pw_or1 (pt_cmpR (op_inSK (K := K) rfl) (pe_ix (ix_XK (K := K) rfl) (pv 0) pe_int (fun _ _ => rfl)) (pe_lst (pa_cons pe_str (pa_cons pe_str (pa_cons pe_str pa_nil)))) (by rfl)))))) (pss_one (ps_ret (pe_lst pa_nil))) pss_nil)
    (pss_one (ps_ret (pe_callTy (call_listXK (K := K) rfl) (by rfl) T.m_list (by decide +kernel) (pa_cons (pe_slice (sl_XK (K := K) rfl) (pv 0) (po_some pe_int) po_none) pa_nil))))), fun ds d hR => by
    obtain ⟨e, rfl, hg, rfl⟩ := hR
    cases e with
    | num a b =>
      rw [toD_num]
      rcases num_cases a b with ⟨h, _⟩ | ⟨h, _⟩ <;> rw [h] <;> walk_at "db" <;> rfl
    | size =>
      rw [toD_size]
      walk_at "db"
      refine ⟨.bool (in3 "size"), r2_inL rfl rfl, ?_⟩
      rw [in3_s]
      walk_at "db"
      rfl
    | load i =>
      rw [toD_load]
      walk_at "db"
      refine ⟨.bool (in3 "load"), r2_inL rfl rfl, ?_⟩
      rw [in3_l]
      walk_at "db"
      rfl
    | worth i =>
      rw [toD_worth]
      walk_at "db"
      refine ⟨.bool (in3 "worth"), r2_inL rfl rfl, ?_⟩
      rw [in3_w]
      walk_at "db"
      rfl
    | one z e =>
      obtain ⟨h1, h2, h3, _⟩ := w1_no hg.1
      rw [toD_one]
      walk_at "db"
      refine ⟨.bool (in3 z), r2_inL rfl rfl, ?_⟩
      rw [in3_n h1 h2 h3]
      walk_at "db"
      refine ⟨_, rs_tail, ?_⟩
      walk_at "d"
      rfl
    | two z e f =>
      obtain ⟨h1, h2, h3⟩ := w2_no hg.1
      rw [toD_two]
      walk_at "db"
      refine ⟨.bool (in3 z), r2_inL rfl rfl, ?_⟩
      rw [in3_n h1 h2 h3]
      walk_at "db"
      refine ⟨_, rs_tail, ?_⟩
      walk_at "d"
      rfl⟩
theorem ix_wd {ds : List PyData} {t n : Nat} {Q : PyData → Prop} (hw : ds.all (wdB 4) = true) (hl : ds.length = n) (ht : t < n) (h : ∀ d, Wd d → Q d) : ∃ z, R2D K (rIxX K) (.list ds) (.int t) z ∧ Q z := by
  obtain ⟨d, h1, h2⟩ := at_wd (wds_of hw) (hl ▸ ht)
  exact ⟨d, r2_ixXL h1, h d h2⟩
theorem bd59 : Bd 200 ((10 : Int) ^ Int.toNat 59) := by
  unfold Bd
  rw [Int.natAbs_pow]
  decide +kernel
def B_wd (_ : List PyData) (d : PyData) : Prop := Wd d
abbrev Pre_odd := PreB 1 (fun ds => ds = [])
abbrev Post_odd := PostB 1 B_wd
theorem c_L_odd (T : Top K w mg) : Cal P w K mg base "_law_odd" 2 p_L_odd (spO K Pre_odd Post_odd) :=
  T.h_L_odd.call (fun _ _ _ _ _ _ us hl => match us, hl with | [_], _ => rfl) fun f fd F m => fn_own F sc_L_odd (by walk_at "leno") fun cdv A outer s H E hr => ⟨_, (pss_cons (ps_set (i := 1) sc_L_odd.nd rfl (.inl rfl) (pe_lst (pa_cons pe_non (pa_cons pe_bl (pa_cons pe_str (pa_cons (pe_lst pa_nil) (pa_cons (pe_tup pa_nil) (pa_cons (pe_op op_sub (pe_op op_pow pe_int pe_int) pe_int) (pa_cons (pe_op op_pow pe_int pe_int) (pa_cons (pe_tup (pa_cons pe_int (pa_cons (pe_op op_sub (pe_op op_pow pe_int pe_int) pe_int) pa_nil))) (pa_cons (pe_tup (pa_cons pe_int (pa_cons pe_int pa_nil))) (pa_cons (pe_tup (pa_cons pe_int (pa_cons pe_int pa_nil))) (pa_cons (pe_tup (pa_cons pe_int (pa_cons pe_int pa_nil))) (pa_cons (pe_tup (pa_cons pe_int (pa_cons (pe_un un_neg pe_int) pa_nil))) pa_nil))))))))))))))
    (pss_cons (ps_set (i := 1) sc_L_odd.nd rfl (.inl rfl) (pe_op (op_addXK (K := K) rfl) (pv 1) (pe_lst (pa_cons (pe_tup (pa_cons pe_str (pa_cons pe_int pa_nil))) (pa_cons (pe_tup (pa_cons pe_str pa_nil)) (pa_cons (pe_tup (pa_cons pe_str (pa_cons pe_int pa_nil))) (pa_cons (pe_tup (pa_cons pe_str (pa_cons pe_int pa_nil))) (pa_cons (pe_tup (pa_cons pe_str (pa_cons pe_int pa_nil))) (pa_cons (pe_tup (pa_cons pe_str (pa_cons pe_int pa_nil))) (pa_cons (pe_tup (pa_cons pe_str (pa_cons (pe_un un_neg pe_int) pa_nil))) (pa_cons (pe_lst (pa_cons pe_str pa_nil)) pa_nil)))))))))))
    (pss_cons (ps_set (i := 1) sc_L_odd.nd rfl (.inl rfl) (pe_op (op_addXK (K := K) rfl) (pv 1) (pe_lst (pa_cons (pe_tup (pa_cons pe_str (pa_cons pe_bl pa_nil))) (pa_cons (pe_tup (pa_cons pe_str (pa_cons pe_int pa_nil))) (pa_cons (pe_tup (pa_cons pe_str (pa_cons pe_int (pa_cons pe_int (pa_cons pe_int pa_nil))))) (pa_cons (pe_tup (pa_cons pe_str pa_nil)) (pa_cons (pe_tup (pa_cons pe_str (pa_cons pe_int (pa_cons pe_int pa_nil)))) (pa_cons (pe_tup (pa_cons pe_str (pa_cons pe_int pa_nil))) (pa_cons (pe_tup (pa_cons pe_str (pa_cons pe_int pa_nil))) pa_nil))))))))))
    (pss_cons (ps_set (i := 1) sc_L_odd.nd rfl (.inl rfl) (pe_op (op_addXK (K := K) rfl) (pv 1) (pe_lst (pa_cons (pe_tup (pa_cons pe_str (pa_cons pe_non pa_nil))) (pa_cons (pe_tup (pa_cons pe_str (pa_cons pe_int (pa_cons pe_int pa_nil)))) (pa_cons (pe_tup (pa_cons pe_str (pa_cons pe_int (pa_cons pe_int pa_nil)))) (pa_cons (pe_tup (pa_cons pe_bl (pa_cons pe_int pa_nil))) (pa_cons (pe_tup (pa_cons pe_str (pa_cons (pe_tup (pa_cons pe_str (pa_cons (pe_lst (pa_cons pe_int pa_nil)) pa_nil))) pa_nil))) pa_nil))))))))
    (pss_one (ps_ret (pe_ix (ix_XK (K := K) rfl) (pv 1) (pe_cal (c_L_take (P := P) (w := w) (K := K) (mg := mg) (base := base) T) (hr.mono (by omega)) (by rfl) (pa_cons (pv 0) (pa_cons pe_int pa_nil))) (fun _ _ => rfl)))))))), fun b bx ds hR => by
    obtain ⟨rfl, hp⟩ := hR
    obtain ⟨m, hm, hB, hQ⟩ := pb_min hp
    walk_at "d"
    refine ⟨_, r2_p60, ?_⟩
    walk_at "d"
    refine ⟨_, r2_intC ⟨by decide, by decide, by decide⟩, ?_⟩
    walk_at "d"
    refine ⟨_, r2_p60, ?_⟩
    walk_at "d"
    refine ⟨_, r2_addL (lenOk rfl), ?_⟩
    walk_at "d"
    refine ⟨_, r2_addL (lenOk rfl), ?_⟩
    walk_at "d"
    refine ⟨_, r2_addL (lenOk rfl), ?_⟩
    walk_at "d"
    refine we_take rfl hB (by omega) ?_
    walk_at "d"
    refine ⟨by first | decide | omega, rfl, fun t bx ht hB => ?_⟩
    have ht : t < 32 := ht
    walk_at "d"
    refine ix_wd (n := 32) rfl rfl ht fun d hd => ?_
    walk_at "d"
    exact ⟨hd, hQ _ hB⟩⟩
abbrev Pre_gf := PreB 3 (fun ds => ds = [])
abbrev Post_gf := PostB 3 B_wd
theorem c_L_great_formula (T : Top K w mg) : Cal P w K mg base "_law_great_formula" 2 p_L_great_formula (spO K Pre_gf Post_gf) :=
  T.h_L_great_formula.call (fun _ _ _ _ _ _ us hl => match us, hl with | [_], _ => rfl) fun f fd F m => fn_own F sc_L_great_formula (by walk_at "leno") fun cdv A outer s H E hr => ⟨_, (pss_cons (ps_set (i := 1) sc_L_great_formula.nd rfl (.inl rfl) (pe_ix (ix_XK (K := K) rfl) (pe_lst (pa_cons (pe_op op_pow pe_int pe_int) (pa_cons (pe_op op_sub (pe_op op_pow pe_int pe_int) pe_int) (pa_cons (pe_op op_pow pe_int pe_int) (pa_cons (pe_tup (pa_cons pe_int (pa_cons (pe_op op_pow pe_int pe_int) pa_nil))) (pa_cons (pe_tup (pa_cons pe_int (pa_cons (pe_op op_pow pe_int pe_int) pa_nil))) pa_nil)))))) (pe_cal (c_L_take (P := P) (w := w) (K := K) (mg := mg) (base := base) T) (hr.mono (by omega)) (by rfl) (pa_cons (pv 0) (pa_cons pe_int pa_nil))) (fun _ _ => rfl)))
    (pss_cons (ps_set (i := 2) sc_L_great_formula.nd rfl (.inl rfl) (pe_ix (ix_XK (K := K) rfl) (pe_lst (pa_cons (pe_op op_pow pe_int pe_int) (pa_cons (pe_op op_sub (pe_op op_pow pe_int pe_int) pe_int) (pa_cons (pe_op op_mulW pe_int (pe_op op_pow pe_int pe_int)) (pa_cons (pe_tup (pa_cons pe_str (pa_cons pe_int pa_nil))) (pa_cons (pe_tup (pa_cons pe_int (pa_cons (pe_op op_sub (pe_op op_pow pe_int pe_int) pe_int) pa_nil))) pa_nil)))))) (pe_cal (c_L_take (P := P) (w := w) (K := K) (mg := mg) (base := base) T) (hr.mono (by omega)) (by rfl) (pa_cons (pv 0) (pa_cons pe_int pa_nil))) (fun _ _ => rfl)))
    (pss_one (ps_ret (pe_tup (pa_cons (pe_ix (ix_XK (K := K) rfl) (pe_lst (pa_cons pe_str (pa_cons pe_str (pa_cons pe_str (pa_cons pe_str pa_nil))))) (pe_cal (c_L_take (P := P) (w := w) (K := K) (mg := mg) (base := base) T) (hr.mono (by omega)) (by rfl) (pa_cons (pv 0) (pa_cons pe_int pa_nil))) (fun _ _ => rfl)) (pa_cons (pv 1) (pa_cons (pv 2) pa_nil)))))))), fun b bx ds hR => by
    obtain ⟨rfl, hp⟩ := hR
    obtain ⟨m, hm, hB, hQ⟩ := pb_min hp
    walk_at "d"
    repeat (refine ⟨_, r2_intC (C := CPow) ⟨by decide, by decide, by decide⟩, ?_⟩
            walk_at "d")
    refine we_take rfl hB (by omega) ?_
    walk_at "d"
    refine ⟨by first | decide | omega, rfl, fun t bx ht hB => ?_⟩
    have ht : t < 5 := ht
    walk_at "d"
    refine ix_wd (n := 5) rfl rfl ht fun d hd => ?_
    walk_at "d"
    repeat (refine ⟨_, r2_intC (C := CPow) ⟨by decide, by decide, by decide⟩, ?_⟩
            walk_at "d")
    refine ⟨_, r2_intC (mulOk (bd8 (n := 8)) bd59), ?_⟩
    walk_at "d"
    repeat (refine ⟨_, r2_intC (C := CPow) ⟨by decide, by decide, by decide⟩, ?_⟩
            walk_at "d")
    refine we_take rfl hB (by omega) ?_
    walk_at "d"
    refine ⟨by first | decide | omega, rfl, fun u bx hu hB => ?_⟩
    have hu : u < 5 := hu
    walk_at "d"
    refine ix_wd (n := 5) rfl rfl hu fun d2 hd2 => ?_
    walk_at "d"
    refine we_take rfl hB (by omega) ?_
    walk_at "d"
    refine ⟨by first | decide | omega, rfl, fun v bx hv hB => ?_⟩
    have hv : v < 4 := hv
    walk_at "d"
    refine ⟨.str ((["times", "plus", "over", "minus"] : List Str)[v]'hv), r2_ixXL (show atI ((["times", "plus", "over", "minus"] : List Str).map PyData.str) v = _ from strs_at hv), ?_⟩
    walk_at "d"
    refine ⟨.tup (Nat.le_of_ble_eq_true rfl) fun d3 h3 => ?_, hQ _ hB⟩
    rcases List.mem_cons.mp h3 with rfl | h3
    · exact .oth rfl
    rcases List.mem_cons.mp h3 with rfl | h3
    · exact hd
    rcases List.mem_cons.mp h3 with rfl | h3
    · exact hd2
    cases h3⟩
end K77

set_option Elab.async false
set_option linter.all false
set_option maxRecDepth 100000
set_option pp.deepTerms false
set_option pp.deepTerms.threshold 6
set_option maxHeartbeats 4000000
namespace K77
open PySem PySem.Spec PyProof.Rows L2 DS
-- the steps that need no thought: one, as many as there are
local macro_rules | `(tactic| walk_at "d1") => `(tactic| with_reducible first
  | refine ws_seq ?_ | refine ws_next ?_ | refine ws_retN ?_ | refine ws_ret ?_ | refine ws_if ?_ | refine ws_par ?_ | refine ws_setK ?_ | refine ws_newD ?_ | refine wp_cons ?_ | refine wp_nil ?_ | refine ws_set ?_ | refine ws_star ?_ | refine ws_setO rfl ?_ | apply ws_asg
  | refine we_var rfl ?_ | refine we_int ?_ | refine we_bl ?_ | refine we_str ?_ | refine we_non ?_ | refine we_kd ?_ | refine we_ixO rfl ?_
  | refine we_isi isg_int ?_ | refine we_isi isg_bool ?_ | refine we_isi isg_str ?_ | refine we_isi isg_list ?_ | refine we_isi isg_tuple ?_ | refine we_isi2 isg_list isg_tuple ?_ | refine we_isi2 isg_int isg_tuple ?_
  | refine we_inK ?_ | refine we_ixK ?_ | refine we_op ?_ | refine we_un ?_ | refine we_cb ?_ | refine we_tup ?_ | refine we_lst ?_ | refine we_andV ?_ | refine we_orV ?_ | refine we_notV ?_ | refine we_if ?_ | refine we_chain ?_ | refine we_sl ?_ | refine we_call ?_
  | refine wa_nil ?_ | refine wa_cons ?_ | refine wo_none ?_ | refine wo_some ?_ | refine wt_test ?_ | refine wt_B ?_ | refine wt_and ?_ | refine wt_or ?_ | refine wt_not ?_
  | refine wg_tup rfl ?_ | refine wgs_cons ?_ | refine wgs_nil ?_ | refine wg_name ?_
  | refine ⟨_, r2_int, ?_⟩ | refine ⟨_, r2_bl, ?_⟩ | refine ⟨_, r2_addI, ?_⟩ | refine ⟨_, r2_eqI, ?_⟩ | refine ⟨_, r2_neI, ?_⟩ | refine ⟨_, r2_eqS, ?_⟩ | refine ⟨_, r2_neS, ?_⟩ | refine ⟨_, r2_isN, ?_⟩ | refine ⟨_, r1_neg, ?_⟩
  | refine ⟨_, rc_absI, ?_⟩ | refine ⟨_, rc_intI, ?_⟩ | refine ⟨_, rc_intB, ?_⟩ | refine ⟨_, rc_max, ?_⟩ | refine ⟨_, rc_min, ?_⟩ | refine ⟨_, rc_lenL, ?_⟩ | refine ⟨_, rc_lenT, ?_⟩ | refine ⟨_, rc_listL, ?_⟩ | refine ⟨_, rc_listT, ?_⟩ | refine ⟨_, rc_tupL, ?_⟩ | refine ⟨_, rc_tupT, ?_⟩
  | refine ⟨_, rfl, ?_⟩ | refine ⟨_, _, rfl, ?_⟩ | refine ⟨_, ⟨_, rfl, rfl⟩, ?_⟩ | refine ⟨_, ⟨_, _, rfl, rfl⟩, ?_⟩)
local macro_rules | `(tactic| walk_at "d") => `(tactic| repeat (first | walk_at "d1" | refine ⟨lenOk rfl, ?_⟩ | refine ⟨0, _, _, _, rfl, rfl, rfl, ?_⟩ | refine ⟨_, r2_ixXL rfl, ?_⟩ | refine ⟨_, r2_ixXT rfl, ?_⟩ | refine ⟨_, r2_ixXT at0, ?_⟩ | refine ⟨_, r2_ixXT at1, ?_⟩ | refine ⟨_, r2_ixXL at0, ?_⟩ | refine ⟨_, r2_ixXL at1, ?_⟩))
-- a condition whose truth comes out by computation
local macro_rules | `(tactic| walk_at "b1") => `(tactic| first
  | refine ⟨fun _ => ?_, fun h => Bool.noConfusion (show true = false from h)⟩
  | refine ⟨fun h => Bool.noConfusion (show false = true from h), fun _ => ?_⟩)
local macro_rules | `(tactic| walk_at "db") => `(tactic| repeat (first | walk_at "d1" | refine ⟨lenOk rfl, ?_⟩ | refine ⟨0, _, _, _, rfl, rfl, rfl, ?_⟩ | refine ⟨_, r2_ixXL rfl, ?_⟩ | refine ⟨_, r2_ixXT rfl, ?_⟩ | refine ⟨_, r2_ixXT at0, ?_⟩ | refine ⟨_, r2_ixXT at1, ?_⟩ | refine ⟨_, r2_ixXL at0, ?_⟩ | refine ⟨_, r2_ixXL at1, ?_⟩ | walk_at "b1"))
-- how many arguments there are
local macro_rules | `(tactic| walk_at "len") => `(tactic| (intro _ _ h; first
  | (obtain ⟨_, e, _⟩ := h; subst e; rfl) | (obtain ⟨_, _, e, _⟩ := h; subst e; rfl) | (obtain ⟨_, _, _, e, _⟩ := h; subst e; rfl) | (obtain ⟨_, _, _, _, e, _⟩ := h; subst e; rfl) | (obtain ⟨_, _, _, _, _, e, _⟩ := h; subst e; rfl)))
local macro_rules | `(tactic| walk_at "leno") => `(tactic| (intro _ _ h; first
  | (obtain ⟨⟨_, e, _⟩, _⟩ := h; subst e; rfl) | (obtain ⟨⟨_, _, e, _⟩, _⟩ := h; subst e; rfl) | (obtain ⟨e, _⟩ := h; subst e; rfl) | (obtain ⟨_, e, _⟩ := h; subst e; rfl) | (obtain ⟨_, _, e, _⟩ := h; subst e; rfl) | (obtain ⟨_, _, _, e, _⟩ := h; subst e; rfl) | (obtain ⟨_, _, _, _, e, _⟩ := h; subst e; rfl)))

variable {P : Program} {w : World} {K : PySem.W.Frag} {mg : Str → Option Value} {base : Heap}
/-! ### spoilt formulas -/
def cs : Nat → Nat
  | 0 => 0
  | m + 1 => cs m + 4
theorem cs_s {m : Nat} : cs (m + 1) = cs m + 4 := rfl
def A_s (m : Nat) (ds : List PyData) : Prop := ∃ e : Ex, ds = [e.toD] ∧ e.good ∧ e.dep < m
theorem parts_toD {e : Ex} (h : e.parts ≠ []) : ∃ z, e.toD = .tuple (.str z :: e.parts.map Ex.toD) := by
  cases e with
  | one z e => exact ⟨z, rfl⟩
  | two z e f => exact ⟨z, rfl⟩
  | num _ _ | size | load _ | worth _ => exact absurd rfl h
theorem parts_len {e : Ex} : e.parts.length ≤ 2 := by cases e <;> exact Nat.le_of_ble_eq_true rfl
theorem parts_mem {e p : Ex} (hg : e.good) (h : p ∈ e.parts) : p.good ∧ p.dep < e.dep := by
  cases e with
  | one z e =>
    rcases List.mem_cons.mp h with rfl | h
    · exact ⟨hg.2, Nat.lt_succ_self _⟩
    · cases h
  | two z e f =>
    rcases List.mem_cons.mp h with rfl | h
    · exact ⟨hg.2.1, Nat.lt_succ_of_le (Nat.le_max_left _ _)⟩
    rcases List.mem_cons.mp h with rfl | h
    · exact ⟨hg.2.2, Nat.lt_succ_of_le (Nat.le_max_right _ _)⟩
    · cases h
  | num _ _ | size | load _ | worth _ => cases h
theorem cutD_mem {ds : List PyData} {lo hi : Option Int} {d : PyData} (h : d ∈ cutD ds lo hi) : d ∈ ds := by
  unfold DS.cutD at h
  exact List.mem_of_mem_drop (List.mem_of_mem_take h)
theorem cutD_len {ds : List PyData} {lo hi : Option Int} : (cutD ds lo hi).length ≤ ds.length := by
  unfold DS.cutD
  rw [List.length_take, List.length_drop]
  omega
theorem sl_len (n : Nat) (h : n ≤ 100000) : n ≤ sizeLine := Nat.le_trans h (by decide)
--%%SPECIAL {('rec', '_law_spoilt', '_law_spoilt'): 'C', ('room', '_law_spoilt', '_law_spoilt'): 'hr'}
theorem c_L_spoilt (T : Top K w mg) : ∀ m : Nat, Cal P w K mg base "_law_spoilt" (m + 3) p_L_spoilt (spO K (PreB (cs m) (A_s m)) (PostB (cs m) B_wd))
  | 0 => pb_zero T.h_L_spoilt (fun _ _ _ _ _ _ us hl => match us, hl with | [_, _], _ => rfl) fun bx ds ⟨⟨_, _, _, h⟩, _⟩ => absurd h (Nat.not_lt_zero _)
  | k + 1 => by
    have C := c_L_spoilt T k
    exact T.h_L_spoilt.call (fun _ _ _ _ _ _ us hl => match us, hl with | [_, _], _ => rfl) fun f fd F mm => fn_own F sc_L_spoilt (by walk_at "leno") fun cdv A outer s H E hr => ⟨_, (pss_cons (ps_set (i := 2) sc_L_spoilt.nd rfl (.inl rfl) (pe_cal (c_L_parts (P := P) (w := w) (K := K) (mg := mg) (base := base) T) (hr.mono (by omega)) (by rfl) (pa_cons (pv 1) pa_nil)))
    (pss_cons (ps_if (PW.pt (pw_or (pt_cmpR (op_eqXK (K := K) rfl hr.units) (pv 2) (pe_lst pa_nil) (nomark _)) (pw_or1 (pt_cmpR (op_eqXK (K := K) rfl hr.units) (pe_cal (c_L_take (P := P) (w := w) (K := K) (mg := mg) (base := base) T) (hr.mono (by omega)) (by rfl) (pa_cons (pv 0) (pa_cons pe_int pa_nil))) pe_int (nomark _))))) (pss_one (ps_ret (pe_cal (c_L_odd (P := P) (w := w) (K := K) (mg := mg) (base := base) T) (hr.mono (by omega)) (by rfl) (pa_cons (pv 0) pa_nil)))) pss_nil)
    (pss_cons (ps_set (i := 3) sc_L_spoilt.nd rfl (.inl rfl) (pe_cal (c_L_take (P := P) (w := w) (K := K) (mg := mg) (base := base) T) (hr.mono (by omega)) (by rfl) (pa_cons (pv 0) (pa_cons pe_int pa_nil))))
    (pss_cons (ps_if (pt_cmpR (op_eqXK (K := K) rfl hr.units) (pv 3) pe_int (nomark _)) (pss_one (ps_ret (pe_op (op_addXK (K := K) rfl) (pv 1) (pe_tup (pa_cons pe_int pa_nil))))) pss_nil)
    (pss_cons (ps_if (pt_cmpR (op_eqXK (K := K) rfl hr.units) (pv 3) pe_int (nomark _)) (pss_one (ps_ret (pe_slice (sl_XK (K := K) rfl) (pv 1) po_none (po_some (pe_op op_sub (pe_callB (call_lenXK (K := K) rfl) (by rfl) T.m_len (by decide +kernel) (pa_cons (pv 1) pa_nil)) pe_int))))) pss_nil)
    (pss_cons (ps_if (pt_cmpR (op_eqXK (K := K) rfl hr.units) (pv 3) pe_int (nomark _)) (pss_one (ps_ret (pe_callTy (call_listXK (K := K) rfl) (by rfl) T.m_list (by decide +kernel) (pa_cons (pv 1) pa_nil)))) pss_nil)
    (pss_cons (ps_set (i := 4) sc_L_spoilt.nd rfl (.inl rfl) (pe_cal (c_L_take (P := P) (w := w) (K := K) (mg := mg) (base := base) T) (hr.mono (by omega)) (by rfl) (pa_cons (pv 0) (pa_cons (pe_callB (call_lenXK (K := K) rfl) (by rfl) T.m_len (by decide +kernel) (pa_cons (pv 2) pa_nil)) pa_nil))))
    (pss_one (ps_ret (pe_callTy (call_tupXK (K := K) rfl) (by rfl) T.m_tuple (by decide +kernel) (pa_cons (pe_op (op_addXK (K := K) rfl) (pe_op (op_addXK (K := K) rfl) (pe_op (op_addXK (K := K) rfl) (pe_lst (pa_cons (pe_ix (ix_XK (K := K) rfl) (pv 1) pe_int (fun _ _ => rfl)) pa_nil)) (pe_slice (sl_XK (K := K) rfl) (pv 2) po_none (po_some (pv 4)))) (pe_lst (pa_cons (pe_cal C hr (by rfl) (pa_cons (pv 0) (pa_cons (pe_ix (ix_XK (K := K) rfl) (pv 2) (pv 4) (fun _ _ => rfl)) pa_nil))) pa_nil))) (pe_slice (sl_XK (K := K) rfl) (pv 2) (po_some (pe_op (op_addXK (K := K) rfl) (pv 4) pe_int)) po_none)) pa_nil))))))))))), fun b bx ds hR => by
    obtain ⟨⟨e, rfl, hg, hl⟩, hp⟩ := hR
    obtain ⟨m, hm, hB, hQ⟩ := pb_min hp
    rw [cs_s] at hm hQ
    walk_at "d"
    refine ⟨_, ⟨e, rfl, hg, rfl⟩, ?_⟩
    walk_at "d"
    refine ⟨_, r2_eqE (Nat.le_trans (Nat.min_le_right _ _) dep_lnil), ?_⟩
    rw [eqv_lnil]
    by_cases hpe : e.parts = []
    · rw [hpe]
      walk_at "db"
      refine we_box rfl ?_
      walk_at "d"
      refine ⟨_, _, _, rfl, hB, by omega, rfl, fun d bx hb hB => ?_⟩
      walk_at "d"
      exact ⟨hb, hQ _ (hB.mono (by omega))⟩
    obtain ⟨z, hz⟩ := parts_toD hpe
    have hwd : ∀ d ∈ e.parts.map Ex.toD, Wd d := fun d hd => by
      obtain ⟨p, _, rfl⟩ := List.mem_map.mp hd
      exact wd_toD p
    have hsub : ∀ (i : Nat) (d : PyData), (e.parts.map Ex.toD)[i]? = some d → ∃ p : Ex, d = p.toD ∧ p.good ∧ p.dep < k := fun i d hd => by
      obtain ⟨p, hp, rfl⟩ := List.mem_map.mp (List.mem_of_getElem? hd)
      obtain ⟨h1, h2⟩ := parts_mem hg hp
      exact ⟨p, rfl, h1, by omega⟩
    have hlen : (e.parts.map Ex.toD).length ≤ 2 := by rw [List.length_map]; exact parts_len
    have hpos : 1 ≤ (e.parts.map Ex.toD).length := by
      rw [List.length_map]
      cases q : e.parts
      · exact absurd q hpe
      · rw [List.length_cons]; omega
    rw [hz]
    clear hz
    generalize e.parts.map Ex.toD = ps at *
    rw [show ps.isEmpty = false by cases ps with | nil => (exact absurd hpos (by decide)) | cons _ _ => rfl]
    walk_at "db"
    refine we_take rfl hB (by omega) ?_
    walk_at "d"
    refine ⟨by first | decide | omega, rfl, fun t bx ht hB => ?_⟩
    have ht : t < 4 := ht
    walk_at "d"
    refine ⟨fun h => ?_, fun h => ?_⟩
    · walk_at "db"
      refine we_box rfl ?_
      walk_at "d"
      refine ⟨_, _, _, rfl, hB, by omega, rfl, fun d bx hb hB => ?_⟩
      walk_at "d"
      exact ⟨hb, hQ _ (hB.mono (by omega))⟩
    walk_at "db"
    refine we_take rfl hB (by omega) ?_
    walk_at "d"
    refine ⟨by first | decide | omega, rfl, fun u bx hu hB => ?_⟩
    have hu : u < 5 := hu
    walk_at "d"
    refine ⟨fun h => ?_, fun h => ?_⟩
    · walk_at "d"
      refine ⟨_, r2_addT (by simp) (sl_len _ (by simp; omega)), ?_⟩
      walk_at "d"
      refine ⟨.tup (by simp; omega) fun d hd => ?_, hQ _ (hB.mono (by omega))⟩
      rcases List.mem_append.mp hd with hd | hd
      · rcases List.mem_cons.mp hd with rfl | hd
        · exact .oth rfl
        · exact hwd d hd
      · rcases List.mem_cons.mp hd with rfl | hd
        · exact .oth rfl
        · cases hd
    walk_at "d"
    refine ⟨fun h => ?_, fun h => ?_⟩
    · walk_at "d"
      have e1 : (((PyData.str z :: ps).length : Int) - 1) = (ps.length : Int) := by rw [List.length_cons]; omega
      rw [e1]
      refine ⟨_, rs_XT (fun q => ?_), ?_⟩
      · have q := q.2
        rw [HT.sIx_nat, List.length_cons] at q
        omega
      walk_at "d"
      refine ⟨.tup (Nat.le_trans cutD_len (by rw [List.length_cons]; omega)) fun d hd => ?_, hQ _ (hB.mono (by omega))⟩
      rcases List.mem_cons.mp (cutD_mem hd) with rfl | hd
      · exact .oth rfl
      · exact hwd d hd
    walk_at "d"
    refine ⟨fun h => ?_, fun h => ?_⟩
    · walk_at "d"
      exact ⟨.oth rfl, hQ _ (hB.mono (by omega))⟩
    walk_at "d"
    refine we_take rfl hB (by omega) ?_
    walk_at "d"
    refine ⟨by omega, rfl, fun v bx hv hB => ?_⟩
    walk_at "d"
    refine ⟨_, rs_XL, ?_⟩
    walk_at "d"
    refine ⟨_, r2_addL (sl_len _ (by have := cutD_len (ds := ps) (lo := none) (hi := some (v : Int)); simp; omega)), ?_⟩
    walk_at "d"
    refine we_box rfl ?_
    walk_at "d"
    obtain ⟨p, hp1, hp2, hp3⟩ := hsub v ps[v] (List.getElem?_eq_getElem hv)
    refine ⟨_, r2_ixXL (DS.atI_nat (List.getElem?_eq_getElem hv)), ?_⟩
    walk_at "d"
    refine ⟨_, _, _, rfl, hB, by omega, ⟨p, by rw [hp1], hp2, hp3⟩, fun d bx hb hB => ?_⟩
    walk_at "d"
    have hl1 := cutD_len (ds := ps) (lo := none) (hi := some (v : Int))
    refine ⟨_, r2_addL (sl_len _ (by simp; omega)), ?_⟩
    walk_at "d"
    refine ⟨_, rs_XL, ?_⟩
    walk_at "d"
    have hl2 := cutD_len (ds := ps) (lo := some ((v : Int) + 1)) (hi := none)
    refine ⟨_, r2_addL (sl_len _ (by simp; omega)), ?_⟩
    walk_at "d"
    refine ⟨.tup (by simp; omega) fun d2 hd => ?_, hQ _ (hB.mono (by omega))⟩
    rcases List.mem_append.mp hd with hd | hd
    · rcases List.mem_append.mp hd with hd | hd
      · rcases List.mem_append.mp hd with hd | hd
        · rcases List.mem_cons.mp hd with rfl | hd
          · exact .oth rfl
          · cases hd
        · exact hwd _ (cutD_mem hd)
      · rcases List.mem_cons.mp hd with rfl | hd
        · exact hb
        · cases hd
    · exact hwd _ (cutD_mem hd)⟩
end K77

set_option Elab.async false
set_option linter.all false
set_option maxRecDepth 100000
set_option pp.deepTerms false
set_option pp.deepTerms.threshold 6
set_option maxHeartbeats 4000000
namespace K77
open PySem PySem.Spec PyProof.Rows L2 DS
-- the steps that need no thought: one, as many as there are
local macro_rules | `(tactic| walk_at "d1") => `(tactic| with_reducible first
  | refine ws_seq ?_ | refine ws_next ?_ | refine ws_retN ?_ | refine ws_ret ?_ | refine ws_if ?_ | refine ws_par ?_ | refine ws_setK ?_ | refine ws_newD ?_ | refine wp_cons ?_ | refine wp_nil ?_ | refine ws_set ?_ | refine ws_star ?_ | refine ws_setO rfl ?_ | apply ws_asg
  | refine we_var rfl ?_ | refine we_int ?_ | refine we_bl ?_ | refine we_str ?_ | refine we_non ?_ | refine we_kd ?_ | refine we_ixO rfl ?_
  | refine we_isi isg_int ?_ | refine we_isi isg_bool ?_ | refine we_isi isg_str ?_ | refine we_isi isg_list ?_ | refine we_isi isg_tuple ?_ | refine we_isi2 isg_list isg_tuple ?_ | refine we_isi2 isg_int isg_tuple ?_
  | refine we_inK ?_ | refine we_ixK ?_ | refine we_op ?_ | refine we_un ?_ | refine we_cb ?_ | refine we_tup ?_ | refine we_lst ?_ | refine we_andV ?_ | refine we_orV ?_ | refine we_notV ?_ | refine we_if ?_ | refine we_chain ?_ | refine we_sl ?_ | refine we_call ?_
  | refine wa_nil ?_ | refine wa_cons ?_ | refine wo_none ?_ | refine wo_some ?_ | refine wt_test ?_ | refine wt_B ?_ | refine wt_and ?_ | refine wt_or ?_ | refine wt_not ?_
  | refine wg_tup rfl ?_ | refine wgs_cons ?_ | refine wgs_nil ?_ | refine wg_name ?_
  | refine ⟨_, r2_int, ?_⟩ | refine ⟨_, r2_bl, ?_⟩ | refine ⟨_, r2_addI, ?_⟩ | refine ⟨_, r2_eqI, ?_⟩ | refine ⟨_, r2_neI, ?_⟩ | refine ⟨_, r2_eqS, ?_⟩ | refine ⟨_, r2_neS, ?_⟩ | refine ⟨_, r2_isN, ?_⟩ | refine ⟨_, r1_neg, ?_⟩
  | refine ⟨_, rc_absI, ?_⟩ | refine ⟨_, rc_intI, ?_⟩ | refine ⟨_, rc_intB, ?_⟩ | refine ⟨_, rc_max, ?_⟩ | refine ⟨_, rc_min, ?_⟩ | refine ⟨_, rc_lenL, ?_⟩ | refine ⟨_, rc_lenT, ?_⟩ | refine ⟨_, rc_listL, ?_⟩ | refine ⟨_, rc_listT, ?_⟩ | refine ⟨_, rc_tupL, ?_⟩ | refine ⟨_, rc_tupT, ?_⟩
  | refine ⟨_, rfl, ?_⟩ | refine ⟨_, _, rfl, ?_⟩ | refine ⟨_, ⟨_, rfl, rfl⟩, ?_⟩ | refine ⟨_, ⟨_, _, rfl, rfl⟩, ?_⟩)
local macro_rules | `(tactic| walk_at "d") => `(tactic| repeat (first | walk_at "d1" | refine ⟨lenOk rfl, ?_⟩ | refine ⟨0, _, _, _, rfl, rfl, rfl, ?_⟩ | refine ⟨_, r2_ixXL rfl, ?_⟩ | refine ⟨_, r2_ixXT rfl, ?_⟩ | refine ⟨_, r2_ixXT at0, ?_⟩ | refine ⟨_, r2_ixXT at1, ?_⟩ | refine ⟨_, r2_ixXL at0, ?_⟩ | refine ⟨_, r2_ixXL at1, ?_⟩))
-- a condition whose truth comes out by computation
local macro_rules | `(tactic| walk_at "b1") => `(tactic| first
  | refine ⟨fun _ => ?_, fun h => Bool.noConfusion (show true = false from h)⟩
  | refine ⟨fun h => Bool.noConfusion (show false = true from h), fun _ => ?_⟩)
local macro_rules | `(tactic| walk_at "db") => `(tactic| repeat (first | walk_at "d1" | refine ⟨lenOk rfl, ?_⟩ | refine ⟨0, _, _, _, rfl, rfl, rfl, ?_⟩ | refine ⟨_, r2_ixXL rfl, ?_⟩ | refine ⟨_, r2_ixXT rfl, ?_⟩ | refine ⟨_, r2_ixXT at0, ?_⟩ | refine ⟨_, r2_ixXT at1, ?_⟩ | refine ⟨_, r2_ixXL at0, ?_⟩ | refine ⟨_, r2_ixXL at1, ?_⟩ | walk_at "b1"))
-- how many arguments there are
local macro_rules | `(tactic| walk_at "len") => `(tactic| (intro _ _ h; first
  | (obtain ⟨_, e, _⟩ := h; subst e; rfl) | (obtain ⟨_, _, e, _⟩ := h; subst e; rfl) | (obtain ⟨_, _, _, e, _⟩ := h; subst e; rfl) | (obtain ⟨_, _, _, _, e, _⟩ := h; subst e; rfl) | (obtain ⟨_, _, _, _, _, e, _⟩ := h; subst e; rfl)))
local macro_rules | `(tactic| walk_at "leno") => `(tactic| (intro _ _ h; first
  | (obtain ⟨⟨_, e, _⟩, _⟩ := h; subst e; rfl) | (obtain ⟨⟨_, _, e, _⟩, _⟩ := h; subst e; rfl) | (obtain ⟨e, _⟩ := h; subst e; rfl) | (obtain ⟨_, e, _⟩ := h; subst e; rfl) | (obtain ⟨_, _, e, _⟩ := h; subst e; rfl) | (obtain ⟨_, _, _, e, _⟩ := h; subst e; rfl) | (obtain ⟨_, _, _, _, e, _⟩ := h; subst e; rfl)))

variable {P : Program} {w : World} {K : PySem.W.Frag} {mg : Str → Option Value} {base : Heap}
/-! ### cases -/
def B_case (_ : List PyData) (d : PyData) : Prop := ∃ c : Env, c.good ∧ d = caseD c
abbrev Pre_case := PreB 50 (fun ds => ds = [])
abbrev Post_case := PostB 50 B_case
theorem num_low {t b : Int} (hb : b ≠ 0) : Nm (redT t b) (redB t b) := red_nm hb
theorem int_pD {i : Int} : PyData.int i = pD (i, 1) := rfl
theorem pushed {l : List (Int × Int)} {p : Int × Int} : l.map pD ++ [pD p] = (l ++ [p]).map pD := by rw [List.map_append]; rfl
theorem c_L_case (T : Top K w mg) : Cal P w K mg base "_law_case" 2 p_L_case (spO K Pre_case Post_case) :=
  T.h_L_case.call (fun _ _ _ _ _ _ us hl => match us, hl with | [_], _ => rfl) fun f fd F m => fn_own F sc_L_case (by walk_at "leno") fun cdv A outer s H E hr => ⟨_, (pss_cons (ps_par (i := 1) (j := 2) (by rfl) sc_L_case.nd rfl rfl (by decide) rfl rfl (pa_cons (pe_lst pa_nil) (pa_cons (pe_lst pa_nil) pa_nil)) (by rfl))
    (pss_cons (ps_for PassesOwn.never rfl (pi_range1 (by rfl) T.m_range (pa_cons pe_int pa_nil)) (pg_name (i := 3) sc_L_case.nd rfl (.inl rfl))
    (pss_one (ps_expr (pe_bm PySem.F.plainAttrs_list PySem.F.slot_list_append PySem.F.type_list_append mt_append (pv 1) (pa_cons (pe_ix (ix_XK (K := K) rfl) (pe_lst (pa_cons (pe_op op_sub (pe_cal (c_L_take (P := P) (w := w) (K := K) (mg := mg) (base := base) T) (hr.mono (by omega)) (by rfl) (pa_cons (pv 0) (pa_cons pe_int pa_nil))) pe_int) (pa_cons pe_int (pa_cons pe_int (pa_cons (pe_cal (c_L_num (P := P) (w := w) (K := K) (mg := mg) (base := base) T) (hr.mono (by omega)) (by rfl) (pa_cons (pe_cal (c_L_low (P := P) (w := w) (K := K) (mg := mg) (base := base) T) (hr.mono (by omega)) (by rfl) (pa_cons (pe_op op_sub (pe_cal (c_L_take (P := P) (w := w) (K := K) (mg := mg) (base := base) T) (hr.mono (by omega)) (by rfl) (pa_cons (pv 0) (pa_cons pe_int pa_nil))) pe_int) (pa_cons pe_int pa_nil))) pa_nil)) (pa_cons pe_int pa_nil)))))) (pe_cal (c_L_take (P := P) (w := w) (K := K) (mg := mg) (base := base) T) (hr.mono (by omega)) (by rfl) (pa_cons (pv 0) (pa_cons pe_int pa_nil))) (fun _ _ => rfl)) pa_nil)))))
    (pss_cons (ps_for PassesOwn.never rfl (pi_range1 (by rfl) T.m_range (pa_cons (pe_ix (ix_XK (K := K) rfl) (pe_lst (pa_cons pe_int (pa_cons pe_int (pa_cons pe_int (pa_cons pe_int pa_nil))))) (pe_cal (c_L_take (P := P) (w := w) (K := K) (mg := mg) (base := base) T) (hr.mono (by omega)) (by rfl) (pa_cons (pv 0) (pa_cons pe_int pa_nil))) (fun _ _ => rfl)) pa_nil)) (pg_name (i := 3) sc_L_case.nd rfl (.inl rfl))
    (pss_one (ps_expr (pe_bm PySem.F.plainAttrs_list PySem.F.slot_list_append PySem.F.type_list_append mt_append (pv 2) (pa_cons (pe_ix (ix_XK (K := K) rfl) (pe_lst (pa_cons (pe_cal (c_L_take (P := P) (w := w) (K := K) (mg := mg) (base := base) T) (hr.mono (by omega)) (by rfl) (pa_cons (pv 0) (pa_cons pe_int pa_nil))) (pa_cons pe_int (pa_cons (pe_cal (c_L_num (P := P) (w := w) (K := K) (mg := mg) (base := base) T) (hr.mono (by omega)) (by rfl) (pa_cons (pe_cal (c_L_low (P := P) (w := w) (K := K) (mg := mg) (base := base) T) (hr.mono (by omega)) (by rfl) (pa_cons (pe_op op_sub (pe_cal (c_L_take (P := P) (w := w) (K := K) (mg := mg) (base := base) T) (hr.mono (by omega)) (by rfl) (pa_cons (pv 0) (pa_cons pe_int pa_nil))) pe_int) (pa_cons pe_int pa_nil))) pa_nil)) pa_nil)))) (pe_cal (c_L_take (P := P) (w := w) (K := K) (mg := mg) (base := base) T) (hr.mono (by omega)) (by rfl) (pa_cons (pv 0) (pa_cons pe_int pa_nil))) (fun _ _ => rfl)) pa_nil)))))
    (pss_one (ps_ret (pe_tup (pa_cons (pe_op (op_addXK (K := K) rfl) pe_int (pe_cal (c_L_take (P := P) (w := w) (K := K) (mg := mg) (base := base) T) (hr.mono (by omega)) (by rfl) (pa_cons (pv 0) (pa_cons pe_int pa_nil)))) (pa_cons (pv 1) (pa_cons (pv 2) pa_nil))))))))), fun b bx ds hR => by
    obtain ⟨rfl, hp⟩ := hR
    obtain ⟨m, hm, hB, hQ⟩ := pb_min hp
    refine ws_seq (ws_par2O fun p q hpd hqd hqp => ?_)
    have hpb : p ≠ b := fun z => hpd (by simp [z])
    have hqb : q ≠ b := fun z => hqd (by simp [z])
    refine ws_seq (ws_for (wi_rng1 ?_))
    walk_at "d"
    refine ⟨by decide, by decide, fun i ρ β => ∃ (s : Slot) (bx : List PyData) (l : List (Int × Int)), Bx (m + 3 * i) bx ∧ l.length = i ∧ (∀ p ∈ l, Nm p.1 p.2) ∧ ρ = [.raw (.ref b), .raw (.ref p), .raw (.ref q), s] ∧ β = [(b, .lst bx), (p, .lst (l.map pD)), (q, .lst [])],
      ⟨.no, bx, [], hB, rfl, (fun _ h => by cases h), rfl, rfl⟩, ?_, ?_⟩
    · rintro i d ρ' β' hd ⟨s, bx, l, hB, hl, hln, rfl, rfl⟩
      obtain ⟨hi, rfl⟩ := rngD_get hd
      have hi : i < 8 := hi
      refine wg_name ?_
      refine ws_appO (j := 1) rfl ⟨_, rfl⟩ ?_
      walk_at "d"
      have hlt : (l.map pD).length < sizeLine := Nat.lt_of_lt_of_le (by rw [List.length_map]; omega) (sl_len 100 (by decide))
      have hln2 : ∀ p0 : Int × Int, Nm p0.1 p0.2 → ∀ p ∈ l ++ [p0], Nm p.1 p.2 := fun p0 h0 p hp => by
        rcases List.mem_append.mp hp with hp | hp
        · exact hln p hp
        · rcases List.mem_cons.mp hp with rfl | hp
          · exact h0
          · cases hp
      refine we_take rfl hB (by omega) ?_
      walk_at "d"
      refine ⟨by first | decide | omega, rfl, fun t bx ht hB => ?_⟩
      have ht : t < 20 := ht
      walk_at "d"
      refine we_take rfl hB (by omega) ?_
      walk_at "d"
      refine ⟨by first | decide | omega, rfl, fun u bx hu hB => ?_⟩
      have hu : u < 60 := hu
      walk_at "d"
      refine ⟨_, ⟨_, _, rfl, by decide, by unfold Bd; omega, bd8, rfl⟩, ?_⟩
      walk_at "d"
      refine we_take rfl hB (by omega) ?_
      walk_at "d"
      refine ⟨by first | decide | omega, rfl, fun v bx hv hB => ?_⟩
      have hv : v < 5 := hv
      walk_at "d"
      match v, hv with
      | 0, _ =>
        walk_at "d"
        exact ⟨hlt, _, _, l ++ [((t : Int) - 5, 1)], hB.mono (by omega), by simp [hl], hln2 _ (nm_one _), rfl, by rw [← pushed]; rfl⟩
      | 1, _ =>
        walk_at "d"
        exact ⟨hlt, _, _, l ++ [(0, 1)], hB.mono (by omega), by simp [hl], hln2 _ (nm_one _), rfl, by rw [← pushed]; rfl⟩
      | 2, _ =>
        walk_at "d"
        exact ⟨hlt, _, _, l ++ [(1, 1)], hB.mono (by omega), by simp [hl], hln2 _ (nm_one _), rfl, by rw [← pushed]; rfl⟩
      | 3, _ =>
        walk_at "d"
        exact ⟨hlt, _, _, l ++ [(redT ((u : Int) - 29) 4, redB ((u : Int) - 29) 4)], hB.mono (by omega), by simp [hl], hln2 _ (red_nm (by decide)), rfl, by rw [← pushed]; rfl⟩
      | 4, _ =>
        walk_at "d"
        exact ⟨hlt, _, _, l ++ [(64, 1)], hB.mono (by omega), by simp [hl], hln2 _ (nm_one _), rfl, by rw [← pushed]; rfl⟩
    · rintro ρ' β' ⟨s, bx, l, hB, hl, hln, rfl, rfl⟩
      have hl : l.length = 8 := hl
      have hB : Bx (m + 24) bx := hB
      refine ws_seq (ws_for (wi_rng1 ?_))
      walk_at "d"
      refine we_take rfl hB (by omega) ?_
      walk_at "d"
      refine ⟨by first | decide | omega, rfl, fun t bx ht hB => ?_⟩
      have ht : t < 4 := ht
      walk_at "d"
      have hidx : ∃ (n : Nat), atI [PyData.int 4, .int 4, .int 4, .int 2] t = some (.int n) ∧ n ≤ 4 := by
        match t, ht with
        | 0, _ => exact ⟨4, rfl, by decide⟩
        | 1, _ => exact ⟨4, rfl, by decide⟩
        | 2, _ => exact ⟨4, rfl, by decide⟩
        | 3, _ => exact ⟨2, rfl, by decide⟩
      obtain ⟨n, hn1, hn2⟩ := hidx
      refine ⟨_, r2_ixXL hn1, ?_⟩
      walk_at "d"
      rw [Int.toNat_natCast]
      refine ⟨by omega, by omega, fun i ρ β => ∃ (s : Slot) (bx : List PyData) (l2 : List (Int × Int)), Bx (m + 25 + 3 * i) bx ∧ l2.length = i ∧ (∀ p ∈ l2, Nm p.1 p.2) ∧ ρ = [.raw (.ref b), .raw (.ref p), .raw (.ref q), s] ∧ β = [(b, .lst bx), (p, .lst (l.map pD)), (q, .lst (l2.map pD))],
        ⟨s, bx, [], hB, rfl, (fun _ h => by cases h), rfl, rfl⟩, ?_, ?_⟩
      · rintro i d ρ' β' hd ⟨s, bx, l2, hB, hl2, hln2, rfl, rfl⟩
        obtain ⟨hi, rfl⟩ := rngD_get hd
        have hi : i < n := hi
        refine wg_name ?_
        refine ws_appO (j := 2) rfl ⟨_, rfl⟩ ?_
        walk_at "d"
        have hlt : (l2.map pD).length < sizeLine := Nat.lt_of_lt_of_le (by rw [List.length_map]; omega) (sl_len 100 (by decide))
        have hln3 : ∀ p0 : Int × Int, Nm p0.1 p0.2 → ∀ p ∈ l2 ++ [p0], Nm p.1 p.2 := fun p0 h0 p hp => by
          rcases List.mem_append.mp hp with hp | hp
          · exact hln2 p hp
          · rcases List.mem_cons.mp hp with rfl | hp
            · exact h0
            · cases hp
        refine we_take rfl hB (by omega) ?_
        walk_at "d"
        refine ⟨by first | decide | omega, rfl, fun t bx ht hB => ?_⟩
        have ht : t < 300 := ht
        walk_at "d"
        refine we_take rfl hB (by omega) ?_
        walk_at "d"
        refine ⟨by first | decide | omega, rfl, fun u bx hu hB => ?_⟩
        have hu : u < 60 := hu
        walk_at "d"
        refine ⟨_, ⟨_, _, rfl, by decide, by unfold Bd; omega, bd8, rfl⟩, ?_⟩
        walk_at "d"
        refine we_take rfl hB (by omega) ?_
        walk_at "d"
        refine ⟨by first | decide | omega, rfl, fun v bx hv hB => ?_⟩
        have hv : v < 3 := hv
        walk_at "d"
        match v, hv with
        | 0, _ =>
          walk_at "d"
          exact ⟨hlt, _, _, l2 ++ [((t : Int), 1)], hB.mono (by omega), by simp [hl2], hln3 _ (nm_one _), rfl, by rw [← pushed]; rfl⟩
        | 1, _ =>
          walk_at "d"
          exact ⟨hlt, _, _, l2 ++ [(0, 1)], hB.mono (by omega), by simp [hl2], hln3 _ (nm_one _), rfl, by rw [← pushed]; rfl⟩
        | 2, _ =>
          walk_at "d"
          exact ⟨hlt, _, _, l2 ++ [(redT ((u : Int) - 29) 3, redB ((u : Int) - 29) 3)], hB.mono (by omega), by simp [hl2], hln3 _ (red_nm (by decide)), rfl, by rw [← pushed]; rfl⟩
      · rintro ρ' β' ⟨s, bx, l2, hB, hl2, hln2, rfl, rfl⟩
        have hl2 : l2.length = n := by rw [hl2, rngD_len]
        have hB : Bx (m + 25 + 3 * n) bx := by rw [rngD_len] at hB; exact hB
        refine ws_frz (i := 1) (j := 1) rfl rfl (by simpa using hpb) ?_
        refine ws_frz (i := 2) (j := 1) rfl rfl (by simpa using hqb) ?_
        walk_at "d"
        refine we_take rfl hB (by omega) ?_
        walk_at "d"
        refine ⟨by first | decide | omega, rfl, fun t bx ht hB => ?_⟩
        have ht : t < 200 := ht
        walk_at "d"
        exact ⟨⟨⟨1 + t, l, l2⟩, ⟨by show (1 : Int) ≤ 1 + t; omega, by show (1 : Int) + t ≤ 200; omega, hl, by show l2.length ≤ 12; omega, hln, hln2⟩, rfl⟩, hQ _ (hB.mono (by omega))⟩⟩
end K77

set_option Elab.async false
set_option linter.all false
set_option maxRecDepth 100000
set_option pp.deepTerms false
set_option pp.deepTerms.threshold 6
set_option maxHeartbeats 4000000
namespace K77
open PySem PySem.Spec PyProof.Rows L2 DS
-- the steps that need no thought: one, as many as there are
local macro_rules | `(tactic| walk_at "d1") => `(tactic| with_reducible first
  | refine ws_seq ?_ | refine ws_next ?_ | refine ws_retN ?_ | refine ws_ret ?_ | refine ws_if ?_ | refine ws_par ?_ | refine ws_setK ?_ | refine ws_newD ?_ | refine wp_cons ?_ | refine wp_nil ?_ | refine ws_set ?_ | refine ws_star ?_ | refine ws_setO rfl ?_ | apply ws_asg
  | refine we_var rfl ?_ | refine we_int ?_ | refine we_bl ?_ | refine we_str ?_ | refine we_non ?_ | refine we_kd ?_ | refine we_ixO rfl ?_
  | refine we_isi isg_int ?_ | refine we_isi isg_bool ?_ | refine we_isi isg_str ?_ | refine we_isi isg_list ?_ | refine we_isi isg_tuple ?_ | refine we_isi2 isg_list isg_tuple ?_ | refine we_isi2 isg_int isg_tuple ?_
  | refine we_inK ?_ | refine we_ixK ?_ | refine we_op ?_ | refine we_un ?_ | refine we_cb ?_ | refine we_tup ?_ | refine we_lst ?_ | refine we_andV ?_ | refine we_orV ?_ | refine we_notV ?_ | refine we_if ?_ | refine we_chain ?_ | refine we_sl ?_ | refine we_call ?_
  | refine wa_nil ?_ | refine wa_cons ?_ | refine wo_none ?_ | refine wo_some ?_ | refine wt_test ?_ | refine wt_B ?_ | refine wt_and ?_ | refine wt_or ?_ | refine wt_not ?_
  | refine wg_tup rfl ?_ | refine wgs_cons ?_ | refine wgs_nil ?_ | refine wg_name ?_
  | refine ⟨_, r2_int, ?_⟩ | refine ⟨_, r2_bl, ?_⟩ | refine ⟨_, r2_addI, ?_⟩ | refine ⟨_, r2_eqI, ?_⟩ | refine ⟨_, r2_neI, ?_⟩ | refine ⟨_, r2_eqS, ?_⟩ | refine ⟨_, r2_neS, ?_⟩ | refine ⟨_, r2_isN, ?_⟩ | refine ⟨_, r1_neg, ?_⟩
  | refine ⟨_, rc_absI, ?_⟩ | refine ⟨_, rc_intI, ?_⟩ | refine ⟨_, rc_intB, ?_⟩ | refine ⟨_, rc_max, ?_⟩ | refine ⟨_, rc_min, ?_⟩ | refine ⟨_, rc_lenL, ?_⟩ | refine ⟨_, rc_lenT, ?_⟩ | refine ⟨_, rc_listL, ?_⟩ | refine ⟨_, rc_listT, ?_⟩ | refine ⟨_, rc_tupL, ?_⟩ | refine ⟨_, rc_tupT, ?_⟩
  | refine ⟨_, rfl, ?_⟩ | refine ⟨_, _, rfl, ?_⟩ | refine ⟨_, ⟨_, rfl, rfl⟩, ?_⟩ | refine ⟨_, ⟨_, _, rfl, rfl⟩, ?_⟩)
local macro_rules | `(tactic| walk_at "d") => `(tactic| repeat (first | walk_at "d1" | refine ⟨lenOk rfl, ?_⟩ | refine ⟨0, _, _, _, rfl, rfl, rfl, ?_⟩ | refine ⟨_, r2_ixXL rfl, ?_⟩ | refine ⟨_, r2_ixXT rfl, ?_⟩ | refine ⟨_, r2_ixXT at0, ?_⟩ | refine ⟨_, r2_ixXT at1, ?_⟩ | refine ⟨_, r2_ixXL at0, ?_⟩ | refine ⟨_, r2_ixXL at1, ?_⟩))
-- a condition whose truth comes out by computation
local macro_rules | `(tactic| walk_at "b1") => `(tactic| first
  | refine ⟨fun _ => ?_, fun h => Bool.noConfusion (show true = false from h)⟩
  | refine ⟨fun h => Bool.noConfusion (show false = true from h), fun _ => ?_⟩)
local macro_rules | `(tactic| walk_at "db") => `(tactic| repeat (first | walk_at "d1" | refine ⟨lenOk rfl, ?_⟩ | refine ⟨0, _, _, _, rfl, rfl, rfl, ?_⟩ | refine ⟨_, r2_ixXL rfl, ?_⟩ | refine ⟨_, r2_ixXT rfl, ?_⟩ | refine ⟨_, r2_ixXT at0, ?_⟩ | refine ⟨_, r2_ixXT at1, ?_⟩ | refine ⟨_, r2_ixXL at0, ?_⟩ | refine ⟨_, r2_ixXL at1, ?_⟩ | walk_at "b1"))
-- how many arguments there are
local macro_rules | `(tactic| walk_at "len") => `(tactic| (intro _ _ h; first
  | (obtain ⟨_, e, _⟩ := h; subst e; rfl) | (obtain ⟨_, _, e, _⟩ := h; subst e; rfl) | (obtain ⟨_, _, _, e, _⟩ := h; subst e; rfl) | (obtain ⟨_, _, _, _, e, _⟩ := h; subst e; rfl) | (obtain ⟨_, _, _, _, _, e, _⟩ := h; subst e; rfl)))
local macro_rules | `(tactic| walk_at "leno") => `(tactic| (intro _ _ h; first
  | (obtain ⟨⟨_, e, _⟩, _⟩ := h; subst e; rfl) | (obtain ⟨⟨_, _, e, _⟩, _⟩ := h; subst e; rfl) | (obtain ⟨e, _⟩ := h; subst e; rfl) | (obtain ⟨_, e, _⟩ := h; subst e; rfl) | (obtain ⟨_, _, e, _⟩ := h; subst e; rfl) | (obtain ⟨_, _, _, e, _⟩ := h; subst e; rfl) | (obtain ⟨_, _, _, _, e, _⟩ := h; subst e; rfl)))

variable {P : Program} {w : World} {K : PySem.W.Frag} {mg : Str → Option Value} {base : Heap}
/-! ### long formulas -/
theorem rgc2 {n : Nat} (h1 : 1 ≤ n) (h : n < 102) : RgC 0 ((n : Int) - 1) 2 (n / 2) := by
  have key : ∀ n : Fin 102, 1 ≤ n.val → Builtin.Range.small 0 ((n.val : Int) - 1) 2 = true ∧ Builtin.Range.rangeSize 0 ((n.val : Int) - 1) 2 = ((n.val / 2 : Nat) : Int) := by decide +kernel
  exact ⟨by decide, by decide, key ⟨n, h⟩ h1⟩
theorem cutD_from {ds : List PyData} {k : Nat} : (DS.cutD ds (some (k : Int)) none).length = ds.length - min k ds.length := by
  unfold DS.cutD
  rw [HT.sIx_nat, HT.sIx_none, List.length_take, List.length_drop]
  omega
theorem wd_neg {d : PyData} (h : Wd d) {z : Str} : Wd (.tuple [.str z, d]) := .tup (Nat.le_of_ble_eq_true rfl) fun x hx => by
  rcases List.mem_cons.mp hx with rfl | hx
  · exact .oth rfl
  rcases List.mem_cons.mp hx with rfl | hx
  · exact h
  · cases hx
theorem wd_two {d e : PyData} (h : Wd d) (h2 : Wd e) {z : Str} : Wd (.tuple [.str z, d, e]) := .tup (Nat.le_of_ble_eq_true rfl) fun x hx => by
  rcases List.mem_cons.mp hx with rfl | hx
  · exact .oth rfl
  rcases List.mem_cons.mp hx with rfl | hx
  · exact h
  rcases List.mem_cons.mp hx with rfl | hx
  · exact h2
  · cases hx
abbrev Pre_long := PreB 500 (fun ds => ds = [])
abbrev Post_long := PostB 500 B_wd
theorem c_L_long (T : Top K w mg) : Cal P w K mg base "_law_long" 3 p_L_long (spO K Pre_long Post_long) :=
  T.h_L_long.call (fun _ _ _ _ _ _ us hl => match us, hl with | [_], _ => rfl) fun f fd F m => fn_own F sc_L_long (by walk_at "leno") fun cdv A outer s H E hr => ⟨_, (pss_cons (ps_if (pt_cmpR (op_eqXK (K := K) rfl hr.units) (pe_cal (c_L_take (P := P) (w := w) (K := K) (mg := mg) (base := base) T) (hr.mono (by omega)) (by rfl) (pa_cons (pv 0) (pa_cons pe_int pa_nil))) pe_int (nomark _)) (pss_cons (ps_set (i := 1) sc_L_long.nd rfl (.inl rfl) (pe_cal (c_L_leaf (P := P) (w := w) (K := K) (mg := mg) (base := base) T) (hr.mono (by omega)) (by rfl) (pa_cons (pv 0) pa_nil)))
    (pss_cons (ps_for PassesOwn.never rfl (pi_range1 (by rfl) T.m_range (pa_cons (pe_op (op_addXK (K := K) rfl) pe_int (pe_cal (c_L_take (P := P) (w := w) (K := K) (mg := mg) (base := base) T) (hr.mono (by omega)) (by rfl) (pa_cons (pv 0) (pa_cons pe_int pa_nil)))) pa_nil)) (pg_name (i := 2) sc_L_long.nd rfl (.inl rfl))
    (pss_one (ps_set (i := 1) sc_L_long.nd rfl (.inl rfl) (pe_ifExp (pt_cmpR (op_eqXK (K := K) rfl hr.units) (pe_cal (c_L_take (P := P) (w := w) (K := K) (mg := mg) (base := base) T) (hr.mono (by omega)) (by rfl) (pa_cons (pv 0) (pa_cons pe_int pa_nil))) pe_int (nomark _)) (pe_tup (pa_cons pe_str (pa_cons (pv 1) pa_nil))) (pe_tup (pa_cons pe_str (pa_cons (pv 1) (pa_cons pe_int pa_nil))))))))
    (pss_one (ps_ret (pv 1))))) pss_nil)
    (pss_cons (ps_set (i := 3) sc_L_long.nd rfl (.inr rfl) (pe_lc (own := [("k", 2)]) (g := gName 2) rfl sc_L_long.nd  (pi_range1 (by rfl) T.m_range (pa_cons (pe_op (op_addXK (K := K) rfl) pe_int (pe_cal (c_L_take (P := P) (w := w) (K := K) (mg := mg) (base := base) T) (hr.mono (by omega)) (by rfl) (pa_cons (pv 0) (pa_cons pe_int pa_nil)))) pa_nil))
      (blkOk_by (own := [("k", 2)]) (N := N_L_long) (sc := defScope s_L_long) (by decide +kernel)) (fun _ _ _ _ _ => pg_name (i := 2) sc_L_long.nd rfl (Or.inl rfl))
      (fun _ _ _ _ _ => pts_nil) (fun _ _ _ _ _ => (pe_cal (c_L_leaf (P := P) (w := w) (K := K) (mg := mg) (base := base) T) (hr.mono (by omega)) (by rfl) (pa_cons (pv 0) pa_nil)))))
    (pss_cons (ps_while PassesOwn.never (pt_cmpR op_gt (pe_callB (call_lenXK (K := K) rfl) (by rfl) T.m_len (by decide +kernel) (pa_cons (pv 3) pa_nil)) pe_int (nomark _))
    (pss_one (ps_set (i := 3) sc_L_long.nd rfl (.inr rfl) (pe_op (op_addXK (K := K) rfl) (pe_lc (own := [("k", 2)]) (g := gName 2) rfl sc_L_long.nd  (pi_range3 (by rfl) T.m_range (pa_cons pe_int (pa_cons (pe_op op_sub (pe_callB (call_lenXK (K := K) rfl) (by rfl) T.m_len (by decide +kernel) (pa_cons (pv 3) pa_nil)) pe_int) (pa_cons pe_int pa_nil))))
      (blkOk_by (own := [("k", 2)]) (N := N_L_long) (sc := defScope s_L_long) (by decide +kernel)) (fun _ _ _ _ _ => pg_name (i := 2) sc_L_long.nd rfl (Or.inl rfl))
      (fun _ _ _ _ _ => pts_nil) (fun _ _ _ _ _ => (pe_tup (pa_cons pe_str (pa_cons (pe_ix (ix_XK (K := K) rfl) (pv 3) (pv 2) (fun _ _ => rfl)) (pa_cons (pe_ix (ix_XK (K := K) rfl) (pv 3) (pe_op (op_addXK (K := K) rfl) (pv 2) pe_int) (fun _ _ => rfl)) pa_nil)))))) (pe_slice (sl_XK (K := K) rfl) (pv 3) (po_some (pe_op op_sub (pe_callB (call_lenXK (K := K) rfl) (by rfl) T.m_len (by decide +kernel) (pa_cons (pv 3) pa_nil)) (pe_op op_modA (pe_callTy call_int1' (by rfl) T.m_int (by decide +kernel) (pa_cons (pe_callB (call_lenXK (K := K) rfl) (by rfl) T.m_len (by decide +kernel) (pa_cons (pv 3) pa_nil)) pa_nil)) pe_int))) po_none)))))
    (pss_one (ps_ret (pe_ifExp (pt_cmpR (op_eqXK (K := K) rfl hr.units) (pe_cal (c_L_take (P := P) (w := w) (K := K) (mg := mg) (base := base) T) (hr.mono (by omega)) (by rfl) (pa_cons (pv 0) (pa_cons pe_int pa_nil))) pe_int (nomark _)) (pe_tup (pa_cons pe_str (pa_cons (pe_ix (ix_XK (K := K) rfl) (pv 3) pe_int (fun _ _ => rfl)) pa_nil))) (pe_ix (ix_XK (K := K) rfl) (pv 3) pe_int (fun _ _ => rfl)))))))), fun b bx ds hR => by
    obtain ⟨rfl, hp⟩ := hR
    obtain ⟨m, hm, hB, hQ⟩ := pb_min hp
    walk_at "d"
    refine we_take rfl hB (by omega) ?_
    walk_at "d"
    refine ⟨by first | decide | omega, rfl, fun t bx ht hB => ?_⟩
    have ht : t < 2 := ht
    walk_at "d"
    refine ⟨fun h => ?_, fun h => ?_⟩
    · walk_at "d"
      refine we_box rfl ?_
      walk_at "d"
      refine ⟨_, _, _, rfl, hB, by omega, rfl, fun d bx hb hB => ?_⟩
      obtain ⟨e, rfl, _, _⟩ := hb
      walk_at "d"
      refine ws_for (wi_rng1 ?_)
      walk_at "d"
      refine we_take rfl hB (by omega) ?_
      walk_at "d"
      refine ⟨by first | decide | omega, rfl, fun u bx hu hB => ?_⟩
      have hu : u < 3 := hu
      walk_at "d"
      refine ⟨by omega, by omega, fun i ρ β => ∃ (s s2 : Slot) (bx : List PyData) (d : PyData), Bx (m + 10 + i) bx ∧ Wd d ∧ ρ = [.raw (.ref b), .dat d, s, s2] ∧ β = [(b, .lst bx)],
        ⟨.no, .no, bx, _, hB.mono (by omega), wd_toD e, rfl, rfl⟩, ?_, ?_⟩
      · rintro i d ρ' β' hd ⟨s, s2, bx, d2, hB, hw, rfl, rfl⟩
        obtain ⟨hi, rfl⟩ := rngD_get hd
        have hi : i < 50 := by omega
        refine wg_name ?_
        walk_at "d"
        refine we_take rfl hB (by omega) ?_
        walk_at "d"
        refine ⟨by first | decide | omega, rfl, fun v bx hv hB => ?_⟩
        have hv : v < 2 := hv
        walk_at "d"
        refine ⟨fun h => ?_, fun h => ?_⟩
        · walk_at "d"
          exact ⟨_, _, _, _, hB, wd_neg hw, rfl, rfl⟩
        · walk_at "d"
          exact ⟨_, _, _, _, hB, wd_two hw (.oth rfl), rfl, rfl⟩
      · rintro ρ' β' ⟨s, s2, bx, d2, hB, hw, rfl, rfl⟩
        rw [rngD_len] at hB
        walk_at "d"
        exact ⟨hw, hQ _ (hB.mono (by omega))⟩
    walk_at "d"
    refine we_lc (tg := [2]) (by decide) (wi_rng1 ?_)
    walk_at "d"
    refine we_take rfl hB (by omega) ?_
    walk_at "d"
    refine ⟨by first | decide | omega, rfl, fun u bx hu hB => ?_⟩
    have hu : u < 2 := hu
    walk_at "d"
    refine ⟨by omega, by omega, fun i acc β => ∃ bx, β = [(b, Oc.lst bx)] ∧ Bx (m + 2 + 3 * i) bx ∧ acc.length = i ∧ ∀ d ∈ acc, Wd d, ⟨bx, rfl, hB.mono (by omega), rfl, fun _ h => by cases h⟩, ?_, ?_, ?_⟩
    · rintro i d acc β' hd ⟨bx, rfl, hB, hl, hw⟩ _
      obtain ⟨hi, rfl⟩ := rngD_get hd
      have hi : i < 102 := by omega
      refine wgc_name (wt_yes ⟨fun _ => ?_, fun z => nomatch z⟩)
      refine we_box rfl ?_
      walk_at "d"
      refine ⟨_, _, _, rfl, hB, by omega, rfl, fun d bx hb hB => ?_⟩
      obtain ⟨e, rfl, _, _⟩ := hb
      refine ⟨_, rfl, hB.mono (by omega), by simp [hl], fun d hd => ?_⟩
      rcases List.mem_append.mp hd with hd | hd
      · exact hw d hd
      · rcases List.mem_cons.mp hd with rfl | hd
        · exact wd_toD e
        · cases hd
    · rw [rngD_len]; exact sl_len _ (by omega)
    rintro acc β' ⟨bx, rfl, hB, hl, hw⟩ _
    rw [rngD_len] at hB hl
    have hB : Bx (m + 400) bx := hB.mono (by omega)
    walk_at "d"
    refine ws_while (fun n ρ β => ∃ (s1 s2 : Slot) (bx row : List PyData), ρ = [.raw (.ref b), s1, s2, .dat (.list row)] ∧ β = [(b, Oc.lst bx)] ∧ Bx (m + 400) bx ∧ row.length = n ∧ 1 ≤ n ∧ n < 102 ∧ ∀ d ∈ row, Wd d) acc.length
      ⟨_, _, _, acc, rfl, rfl, hB, rfl, by omega, by omega, hw⟩ ?_
    rintro n ρ' β' ⟨s1, s2, bx, row, rfl, rfl, hB, hl, h1, h2, hw⟩
    walk_at "d"
    rw [hl]
    refine ⟨fun hc => ?_, fun hc => ?_⟩
    · have hc := of_decide_eq_true hc
      walk_at "d"
      refine we_lc (tg := [2]) (by decide) (wi_rng3 ?_)
      walk_at "d"
      rw [hl]
      refine ⟨0, (n : Int) - 1, 2, n / 2, rfl, rgc2 h1 h2, fun i acc β => β = [(b, Oc.lst bx)] ∧ acc.length = i ∧ ∀ d ∈ acc, Wd d, ⟨rfl, rfl, fun _ h => by cases h⟩, ?_, ?_, ?_⟩
      · rintro i d acc β' hd ⟨rfl, hla, hwa⟩ _
        obtain ⟨hi, rfl⟩ := rngC_get hd
        refine wgc_name (wt_yes ⟨fun _ => ?_, fun z => nomatch z⟩)
        rw [show (0 + (i : Int) * 2) = ((2 * i : Nat) : Int) by omega]
        have q1 : 2 * i < row.length := by omega
        have q2 : 2 * i + 1 < row.length := by omega
        walk_at "d"
        refine ⟨_, r2_ixXL (DS.atI_nat (List.getElem?_eq_getElem q1)), ?_⟩
        walk_at "d"
        rw [show (((2 * i : Nat) : Int) + 1) = ((2 * i + 1 : Nat) : Int) by omega]
        refine ⟨_, r2_ixXL (DS.atI_nat (List.getElem?_eq_getElem q2)), ?_⟩
        walk_at "d"
        refine ⟨rfl, by simp [hla], fun d hd => ?_⟩
        rcases List.mem_append.mp hd with hd | hd
        · exact hwa d hd
        · rcases List.mem_cons.mp hd with rfl | hd
          · exact wd_two (hw _ (List.getElem_mem q1)) (hw _ (List.getElem_mem q2))
          · cases hd
      · rw [rngC_len]; exact sl_len _ (by omega)
      rintro acc β' ⟨rfl, hla, hwa⟩ _
      rw [rngC_len] at hla
      walk_at "d"
      rw [hl]
      refine ⟨_, r2_intC (by decide), ?_⟩
      walk_at "d"
      rw [show (n : Int) - (n : Int).fmod 2 = ((n - n % 2 : Nat) : Int) by rw [Int.fmod_eq_emod_of_nonneg _ (by decide)]; omega]
      refine ⟨_, rs_XL, ?_⟩
      have hcl := cutD_from (ds := row) (k := n - n % 2)
      rw [hl] at hcl
      refine ⟨_, r2_addL (sl_len _ (by omega)), ?_⟩
      walk_at "d"
      refine ⟨n / 2 + n % 2, by omega, _, _, bx, _, rfl, rfl, hB, ?_, by omega, by omega, fun d hd => ?_⟩
      · rw [List.length_append]; omega
      · rcases List.mem_append.mp hd with hd | hd
        · exact hwa d hd
        · exact hw d (cutD_mem hd)
    · have hc := of_decide_eq_false hc
      have hn : n = 1 := by omega
      subst hn
      match row, hl, hw with
      | [x], _, hw =>
      have hx := hw x (by simp)
      walk_at "d"
      refine we_take rfl hB (by omega) ?_
      walk_at "d"
      refine ⟨by first | decide | omega, rfl, fun v bx hv hB => ?_⟩
      have hv : v < 2 := hv
      walk_at "d"
      refine ⟨fun h => ?_, fun h => ?_⟩
      · walk_at "d"
        exact ⟨wd_neg hx, hQ _ (hB.mono (by omega))⟩
      · walk_at "d"
        exact ⟨hx, hQ _ (hB.mono (by omega))⟩⟩
end K77

set_option Elab.async false
set_option linter.all false
set_option maxRecDepth 100000
set_option pp.deepTerms false
set_option pp.deepTerms.threshold 6
set_option maxHeartbeats 4000000
namespace K77
open PySem PySem.Spec PyProof.Rows L2 DS
-- the steps that need no thought: one, as many as there are
local macro_rules | `(tactic| walk_at "d1") => `(tactic| with_reducible first
  | refine ws_seq ?_ | refine ws_next ?_ | refine ws_retN ?_ | refine ws_ret ?_ | refine ws_if ?_ | refine ws_par ?_ | refine ws_setK ?_ | refine ws_newD ?_ | refine wp_cons ?_ | refine wp_nil ?_ | refine ws_set ?_ | refine ws_star ?_ | refine ws_setO rfl ?_ | apply ws_asg
  | refine we_var rfl ?_ | refine we_int ?_ | refine we_bl ?_ | refine we_str ?_ | refine we_non ?_ | refine we_kd ?_ | refine we_ixO rfl ?_
  | refine we_isi isg_int ?_ | refine we_isi isg_bool ?_ | refine we_isi isg_str ?_ | refine we_isi isg_list ?_ | refine we_isi isg_tuple ?_ | refine we_isi2 isg_list isg_tuple ?_ | refine we_isi2 isg_int isg_tuple ?_
  | refine we_inK ?_ | refine we_ixK ?_ | refine we_op ?_ | refine we_un ?_ | refine we_cb ?_ | refine we_tup ?_ | refine we_lst ?_ | refine we_andV ?_ | refine we_orV ?_ | refine we_notV ?_ | refine we_if ?_ | refine we_chain ?_ | refine we_sl ?_ | refine we_call ?_
  | refine wa_nil ?_ | refine wa_cons ?_ | refine wo_none ?_ | refine wo_some ?_ | refine wt_test ?_ | refine wt_B ?_ | refine wt_and ?_ | refine wt_or ?_ | refine wt_not ?_
  | refine wg_tup rfl ?_ | refine wgs_cons ?_ | refine wgs_nil ?_ | refine wg_name ?_
  | refine ⟨_, r2_int, ?_⟩ | refine ⟨_, r2_bl, ?_⟩ | refine ⟨_, r2_addI, ?_⟩ | refine ⟨_, r2_eqI, ?_⟩ | refine ⟨_, r2_neI, ?_⟩ | refine ⟨_, r2_eqS, ?_⟩ | refine ⟨_, r2_neS, ?_⟩ | refine ⟨_, r2_isN, ?_⟩ | refine ⟨_, r1_neg, ?_⟩
  | refine ⟨_, rc_absI, ?_⟩ | refine ⟨_, rc_intI, ?_⟩ | refine ⟨_, rc_intB, ?_⟩ | refine ⟨_, rc_max, ?_⟩ | refine ⟨_, rc_min, ?_⟩ | refine ⟨_, rc_lenL, ?_⟩ | refine ⟨_, rc_lenT, ?_⟩ | refine ⟨_, rc_listL, ?_⟩ | refine ⟨_, rc_listT, ?_⟩ | refine ⟨_, rc_tupL, ?_⟩ | refine ⟨_, rc_tupT, ?_⟩
  | refine ⟨_, rfl, ?_⟩ | refine ⟨_, _, rfl, ?_⟩ | refine ⟨_, ⟨_, rfl, rfl⟩, ?_⟩ | refine ⟨_, ⟨_, _, rfl, rfl⟩, ?_⟩)
local macro_rules | `(tactic| walk_at "d") => `(tactic| repeat (first | walk_at "d1" | refine ⟨lenOk rfl, ?_⟩ | refine ⟨0, _, _, _, rfl, rfl, rfl, ?_⟩ | refine ⟨_, r2_ixXL rfl, ?_⟩ | refine ⟨_, r2_ixXT rfl, ?_⟩ | refine ⟨_, r2_ixXT at0, ?_⟩ | refine ⟨_, r2_ixXT at1, ?_⟩ | refine ⟨_, r2_ixXL at0, ?_⟩ | refine ⟨_, r2_ixXL at1, ?_⟩))
-- a condition whose truth comes out by computation
local macro_rules | `(tactic| walk_at "b1") => `(tactic| first
  | refine ⟨fun _ => ?_, fun h => Bool.noConfusion (show true = false from h)⟩
  | refine ⟨fun h => Bool.noConfusion (show false = true from h), fun _ => ?_⟩)
local macro_rules | `(tactic| walk_at "db") => `(tactic| repeat (first | walk_at "d1" | refine ⟨lenOk rfl, ?_⟩ | refine ⟨0, _, _, _, rfl, rfl, rfl, ?_⟩ | refine ⟨_, r2_ixXL rfl, ?_⟩ | refine ⟨_, r2_ixXT rfl, ?_⟩ | refine ⟨_, r2_ixXT at0, ?_⟩ | refine ⟨_, r2_ixXT at1, ?_⟩ | refine ⟨_, r2_ixXL at0, ?_⟩ | refine ⟨_, r2_ixXL at1, ?_⟩ | walk_at "b1"))
-- how many arguments there are
local macro_rules | `(tactic| walk_at "len") => `(tactic| (intro _ _ h; first
  | (obtain ⟨_, e, _⟩ := h; subst e; rfl) | (obtain ⟨_, _, e, _⟩ := h; subst e; rfl) | (obtain ⟨_, _, _, e, _⟩ := h; subst e; rfl) | (obtain ⟨_, _, _, _, e, _⟩ := h; subst e; rfl) | (obtain ⟨_, _, _, _, _, e, _⟩ := h; subst e; rfl)))
local macro_rules | `(tactic| walk_at "leno") => `(tactic| (intro _ _ h; first
  | (obtain ⟨⟨_, e, _⟩, _⟩ := h; subst e; rfl) | (obtain ⟨⟨_, _, e, _⟩, _⟩ := h; subst e; rfl) | (obtain ⟨e, _⟩ := h; subst e; rfl) | (obtain ⟨_, e, _⟩ := h; subst e; rfl) | (obtain ⟨_, _, e, _⟩ := h; subst e; rfl) | (obtain ⟨_, _, _, e, _⟩ := h; subst e; rfl) | (obtain ⟨_, _, _, _, e, _⟩ := h; subst e; rfl)))

variable {P : Program} {w : World} {K : PySem.W.Frag} {mg : Str → Option Value} {base : Heap}
/-! ### the law -/
--%%SPECIAL {('rec', 'law', '_law_formula'): '(c_L_formula (P := P) (w := w) (K := K) (mg := mg) (base := base) T 7)', ('rec', 'law', '_law_spoilt'): '(c_L_spoilt (P := P) (w := w) (K := K) (mg := mg) (base := base) T 7)', ('rec', 'law', '_law_counted'): '(c_L_counted (P := P) (w := w) (K := K) (mg := mg) (base := base) T 41)', ('rec', 'law', '_law_value'): '(c_L_value (P := P) (w := w) (K := K) (mg := mg) (base := base) T 41)', ('rec', 'law', '_law_same'): '(c_L_same (P := P) (w := w) (K := K) (mg := mg) (base := base) T 4)'}
theorem ws_end {t : TS} {ρ : List Slot} {β : Bt} {E : Out} (h : WS K t ρ β { E with nx := fun ρ1 β1 => WS K tNext ρ1 β1 E }) : WS K t ρ β E := ws_seq (u := tNext) h
theorem nc_num {n : Nat} {a b : Int} : Nc (n + 1) (numD a b) := by
  rcases num_cases a b with ⟨h, _⟩ | ⟨h, _⟩ <;> rw [h]
  · exact .int
  · refine .tup (Nat.le_of_ble_eq_true rfl) fun d hd => ?_
    rcases List.mem_cons.mp hd with rfl | hd
    · exact .int
    rcases List.mem_cons.mp hd with rfl | hd
    · exact .int
    cases hd
theorem nc_ans {n : Nat} {o : Option (Int × Int)} : Nc (n + 1) (ansD o) := by
  cases o with
  | none => exact .non
  | some p => exact nc_num
theorem nc_list {l : List (Int × Int)} (h : l.length ≤ 1000) : Nc 2 (.list (l.map pD)) := .lst (by rw [List.length_map]; exact h) fun d hd => by
  obtain ⟨p, _, rfl⟩ := List.mem_map.mp hd
  exact nc_num
theorem nc_two {c : Env} (hc : c.good) : Nc 3 (.list [.list (c.st.map pD), .list (c.wo.map pD)]) := .lst (by exact Nat.le_of_ble_eq_true rfl) fun d hd => by
  have h1 := hc.sl
  have h2 := hc.wl
  rcases List.mem_cons.mp hd with rfl | hd
  · exact nc_list (by omega)
  rcases List.mem_cons.mp hd with rfl | hd
  · exact nc_list (by omega)
  cases hd
abbrev R_law (ds : List PyData) (d : PyData) : Prop := ∃ ns : List Int, ds = [.list (ns.map .int)] ∧ d = .bool true
theorem isF_eq (x : PyData) : isF x = (decide (1 ≤ cnt 40 x) && decide (cnt 40 x ≤ 200)) := rfl
theorem ok_law (T : Top K w mg) : ∀ f fd, FunD K "law" "law" (defArgs s_law) (defBody s_law) (defScope s_law) [] [] f fd → mg "law" = some (.ref f) → FnOk P w K mg base CXN 51 f fd p_law (spP K R_law) :=
  fun f fd F m => fn_pure F sc_law (by walk_at "len") fun cdv A outer s H E hr => ⟨_, (pss_cons (ps_for PassesOwn.never rfl (pi_range1 (by rfl) T.m_range (pa_cons (pe_callB (call_max' rfl) (by rfl) T.m_max (by decide +kernel) (pa_cons pe_int (pa_cons (pe_callB (call_min' rfl) (by rfl) T.m_min (by decide +kernel) (pa_cons pe_int (pa_cons (pe_callB (call_lenXK (K := K) rfl) (by rfl) T.m_len (by decide +kernel) (pa_cons (pv 0) pa_nil)) pa_nil))) pa_nil))) pa_nil)) (pg_name (i := 1) sc_law.nd rfl (.inl rfl))
    (pss_cons (ps_set (i := 2) sc_law.nd rfl (.inl rfl) (pe_cal (c_L_box (P := P) (w := w) (K := K) (mg := mg) (base := base) T) (hr.mono (by omega)) (by rfl) (pa_cons (pe_cal (c_L_cell (P := P) (w := w) (K := K) (mg := mg) (base := base) T) (hr.mono (by omega)) (by rfl) (pa_cons (pv 0) (pa_cons (pv 1) pa_nil))) pa_nil)))
    (pss_cons (ps_set (i := 3) sc_law.nd rfl (.inl rfl) (pe_cal (c_L_formula (P := P) (w := w) (K := K) (mg := mg) (base := base) T 7) (hr.mono (by omega)) (by rfl) (pa_cons (pv 2) (pa_cons (pe_op (op_addXK (K := K) rfl) pe_int (pe_cal (c_L_take (P := P) (w := w) (K := K) (mg := mg) (base := base) T) (hr.mono (by omega)) (by rfl) (pa_cons (pv 2) (pa_cons pe_int pa_nil)))) pa_nil))))
    (pss_cons (ps_for PassesOwn.never rfl (pi_XK (K := K) rfl (pe_lst (pa_cons (pv 3) (pa_cons (pe_cal (c_L_spoilt (P := P) (w := w) (K := K) (mg := mg) (base := base) T 7) (hr.mono (by omega)) (by rfl) (pa_cons (pv 2) (pa_cons (pv 3) pa_nil))) (pa_cons (pe_cal (c_L_odd (P := P) (w := w) (K := K) (mg := mg) (base := base) T) (hr.mono (by omega)) (by rfl) (pa_cons (pv 2) pa_nil)) (pa_cons (pe_cal (c_L_long (P := P) (w := w) (K := K) (mg := mg) (base := base) T) (hr.mono (by omega)) (by rfl) (pa_cons (pv 2) pa_nil)) pa_nil)))))) (pg_name (i := 4) sc_law.nd rfl (.inl rfl))
    (pss_one (ps_if (pt_not (pt_val (pe_cal (c_L_same (P := P) (w := w) (K := K) (mg := mg) (base := base) T 4) (hr.mono (by omega)) (by rfl) (pa_cons (pe_cal (c_is_formula (P := P) (w := w) (K := K) (mg := mg) (base := base) T) (hr.mono (by omega)) (by rfl) (pa_cons (pv 4) pa_nil)) (pa_cons (pe_chain op_le op_le pe_int (pe_cal (c_L_counted (P := P) (w := w) (K := K) (mg := mg) (base := base) T 41) (hr.mono (by omega)) (by rfl) (pa_cons (pv 4) (pa_cons pe_int pa_nil))) pe_int) pa_nil))))) (pss_one (ps_ret pe_bl)) pss_nil)))
    (pss_one (ps_for PassesOwn.never rfl (pi_XK (K := K) rfl (pe_lst (pa_cons (pv 3) (pa_cons (pe_cal (c_L_great_formula (P := P) (w := w) (K := K) (mg := mg) (base := base) T) (hr.mono (by omega)) (by rfl) (pa_cons (pv 2) pa_nil)) (pa_cons (pe_cal (c_L_long (P := P) (w := w) (K := K) (mg := mg) (base := base) T) (hr.mono (by omega)) (by rfl) (pa_cons (pv 2) pa_nil)) pa_nil))))) (pg_name (i := 4) sc_law.nd rfl (.inl rfl))
    (pss_cons (ps_set (i := 5) sc_law.nd rfl (.inl rfl) (pe_cal (c_L_case (P := P) (w := w) (K := K) (mg := mg) (base := base) T) (hr.mono (by omega)) (by rfl) (pa_cons (pv 2) pa_nil)))
    (pss_one (ps_if (pt_chain op_le op_le pe_int (pe_cal (c_L_counted (P := P) (w := w) (K := K) (mg := mg) (base := base) T 41) (hr.mono (by omega)) (by rfl) (pa_cons (pv 4) (pa_cons pe_int pa_nil))) pe_int) (pss_cons (ps_set (i := 6) sc_law.nd rfl (.inl rfl) (pe_cal (c_L_answer (P := P) (w := w) (K := K) (mg := mg) (base := base) T) (hr.mono (by omega)) (by rfl) (pa_cons (pe_cal (c_L_value (P := P) (w := w) (K := K) (mg := mg) (base := base) T 41) (hr.mono (by omega)) (by rfl) (pa_cons (pv 4) (pa_cons (pv 5) pa_nil))) pa_nil)))
    (pss_cons (ps_par (i := 7) (j := 8) (by rfl) sc_law.nd rfl rfl (by decide) rfl rfl (pa_cons (pe_callTy (call_listXK (K := K) rfl) (by rfl) T.m_list (by decide +kernel) (pa_cons (pe_ix (ix_XK (K := K) rfl) (pv 5) pe_int (fun _ _ => rfl)) pa_nil)) (pa_cons (pe_callTy (call_listXK (K := K) rfl) (by rfl) T.m_list (by decide +kernel) (pa_cons (pe_ix (ix_XK (K := K) rfl) (pv 5) pe_int (fun _ _ => rfl)) pa_nil)) pa_nil)) (by rfl))
    (pss_cons (ps_set (i := 9) sc_law.nd rfl (.inl rfl) (pe_calK (ck_fn (P := P) (w := w) (K := K) (mg := mg) (base := base) T) (hr.mono (by omega)) (by rfl) (pa_cons (pv 4) pa_nil) (pk_cons (pe_ix (ix_XK (K := K) rfl) (pv 5) pe_int (fun _ _ => rfl)) (pk_cons (pv 7) (pk_cons (pv 8) pk_nil)))))
    (pss_cons (ps_if (PW.pt (pw_or (pt_not (pt_val (pe_cal (c_L_same (P := P) (w := w) (K := K) (mg := mg) (base := base) T 4) (hr.mono (by omega)) (by rfl) (pa_cons (pv 9) (pa_cons (pv 6) pa_nil))))) (pw_or1 (pt_not (pt_val (pe_cal (c_L_same (P := P) (w := w) (K := K) (mg := mg) (base := base) T 4) (hr.mono (by omega)) (by rfl) (pa_cons (pe_lst (pa_cons (pv 7) (pa_cons (pv 8) pa_nil))) (pa_cons (pe_lst (pa_cons (pe_ix (ix_XK (K := K) rfl) (pv 5) pe_int (fun _ _ => rfl)) (pa_cons (pe_ix (ix_XK (K := K) rfl) (pv 5) pe_int (fun _ _ => rfl)) pa_nil))) pa_nil)))))))) (pss_one (ps_ret pe_bl)) pss_nil)
    (pss_cons (ps_set (i := 10) sc_law.nd rfl (.inl rfl) (pe_calK0 (ck_fn2 (P := P) (w := w) (K := K) (mg := mg) (base := base) T) (hr.mono (by omega)) (by rfl)  (pk_cons (pe_callTy (call_tupXK (K := K) rfl) (by rfl) T.m_tuple (by decide +kernel) (pa_cons (pv 8) pa_nil)) (pk_cons (pe_callTy (call_tupXK (K := K) rfl) (by rfl) T.m_tuple (by decide +kernel) (pa_cons (pv 7) pa_nil)) (pk_cons (pe_ix (ix_XK (K := K) rfl) (pv 5) pe_int (fun _ _ => rfl)) (pk_cons (pv 4) pk_nil))))))
    (pss_one (ps_if (pt_not (pt_val (pe_cal (c_L_same (P := P) (w := w) (K := K) (mg := mg) (base := base) T 4) (hr.mono (by omega)) (by rfl) (pa_cons (pv 10) (pa_cons (pv 6) pa_nil))))) (pss_one (ps_ret pe_bl)) pss_nil))))))) pss_nil)))))))))
    (pss_one (ps_ret pe_bl))), fun ds d hR => by
    obtain ⟨ns, rfl, rfl⟩ := hR
    walk_at "d"
    refine ws_for (wi_rng1 ?_)
    walk_at "d"
    rw [List.length_map]
    obtain ⟨j, hj, hj6⟩ : ∃ j : Nat, (if (if (ns.length : Int) < 6 then (ns.length : Int) else 6) > 2 then (if (ns.length : Int) < 6 then (ns.length : Int) else 6) else 2) = (j : Int) ∧ j ≤ 6 := by
      refine ⟨(if (if (ns.length : Int) < 6 then (ns.length : Int) else 6) > 2 then (if (ns.length : Int) < 6 then (ns.length : Int) else 6) else 2).toNat, ?_, ?_⟩ <;> (split <;> split at * <;> omega)
    rw [hj, Int.toNat_natCast]
    refine ⟨by omega, by omega, fun _ ρ β => ∃ s1 s2 s3 s4 s5 s6 s7 s8 s9 s10 : Slot, ρ = [.dat (.list (ns.map .int)), s1, s2, s3, s4, s5, s6, s7, s8, s9, s10] ∧ β = [],
      ⟨.no, .no, .no, .no, .no, .no, .no, .no, .no, .no, rfl, rfl⟩, ?_, ?_⟩
    · rintro k d ρ' β' hd ⟨s1, s2, s3, s4, s5, s6, s7, s8, s9, s10, rfl, rfl⟩
      obtain ⟨hk, rfl⟩ := rngD_get hd
      rw [Int.zero_add]
      refine wg_name ?_
      refine ws_end ?_
      refine ws_seq (ws_newC ?_)
      walk_at "d"
      refine ⟨_, ⟨ns, k, rfl, by omega, rfl⟩, ?_⟩
      walk_at "d"
      intro b _
      have hB : Bx 0 (boxOf (cellOf ns k)) := box_bx
      generalize boxOf (cellOf ns k) = bx at hB
      walk_at "d"
      refine we_box rfl ?_
      walk_at "d"
      refine we_take rfl hB (by omega) ?_
      walk_at "d"
      refine ⟨by decide, rfl, fun t bx ht hB => ?_⟩
      walk_at "d"
      have ht : t < 6 := ht
      rw [show (1 : Int) + (t : Int) = ((1 + t : Nat) : Int) by omega]
      refine ⟨_, _, _, rfl, hB, by decide, ⟨1 + t, rfl, by omega, by omega⟩, fun d bx hb hB => ?_⟩
      obtain ⟨e, l, e1, rfl, hg, he⟩ := hb
      have hl : 1 + t = l := by
        injection e1 with e1
        injection e1 with e1
        omega
      have he : e.dep ≤ 6 := by omega
      have hB : Bx 1017 bx := hB
      walk_at "d"
      -- the first things
      refine ws_for (wi_X ?_)
      walk_at "d"
      refine we_box rfl ?_
      walk_at "d"
      refine ⟨_, _, _, rfl, hB, by decide, ⟨e, rfl, hg, by omega⟩, fun d1 bx hw1 hB => ?_⟩
      walk_at "d"
      refine we_box rfl ?_
      walk_at "d"
      refine ⟨_, _, _, rfl, hB, by decide, rfl, fun d2 bx hw2 hB => ?_⟩
      walk_at "d"
      refine we_box rfl ?_
      walk_at "d"
      refine ⟨_, _, _, rfl, hB, by decide, rfl, fun d3 bx hw3 hB => ?_⟩
      walk_at "d"
      have hB : Bx 1546 bx := hB
      refine ⟨_, .inl rfl, fun i ρ β => ∃ s4 : Slot, ρ = [.dat (.list (ns.map .int)), .dat (.int k), .raw (.ref b), .dat e.toD, s4, s5, s6, s7, s8, s9, s10] ∧ β = [(b, .lst bx)], ⟨_, rfl, rfl⟩, ?_, ?_⟩
      · rintro i d ρ' β' hd ⟨s4', rfl, rfl⟩
        have hwd : Wd d := by
          have hm := List.mem_of_getElem? hd
          rcases List.mem_cons.mp hm with rfl | hm
          · exact wd_toD e
          rcases List.mem_cons.mp hm with rfl | hm
          · exact hw1
          rcases List.mem_cons.mp hm with rfl | hm
          · exact hw2
          rcases List.mem_cons.mp hm with rfl | hm
          · exact hw3
          cases hm
        refine wg_name ?_
        walk_at "d"
        refine ⟨_, ⟨d, rfl, hwd, rfl⟩, ?_⟩
        walk_at "d"
        refine ⟨_, ⟨40, d, rfl, by decide, hwd, rfl⟩, _, r2_bl, ?_⟩
        rw [isF_eq]
        generalize cnt 40 d = c
        refine ⟨fun h => ?_, fun h => ?_⟩
        · rw [h]
          walk_at "d"
          refine ⟨_, ⟨0, _, rfl, by decide, .bl, rfl⟩, ?_⟩
          walk_at "db"
          rfl
        · rw [h]
          walk_at "d"
          refine ⟨_, ⟨0, _, rfl, by decide, .bl, rfl⟩, ?_⟩
          walk_at "db"
          rfl
      rintro ρ' β' ⟨s4', rfl, rfl⟩
      -- the second things
      refine ws_for (wi_X ?_)
      walk_at "d"
      refine we_box rfl ?_
      walk_at "d"
      refine ⟨_, _, _, rfl, hB, by decide, rfl, fun d4 bx hw4 hB => ?_⟩
      walk_at "d"
      refine we_box rfl ?_
      walk_at "d"
      refine ⟨_, _, _, rfl, hB, by decide, rfl, fun d5 bx hw5 hB => ?_⟩
      walk_at "d"
      have hB : Bx 2049 bx := hB
      refine ⟨_, .inl rfl, fun i ρ β => ∃ (s4 s5 s6 s7 s8 s9 s10 : Slot) (bx : List PyData), Bx (2049 + 50 * i) bx ∧ ρ = [.dat (.list (ns.map .int)), .dat (.int k), .raw (.ref b), .dat e.toD, s4, s5, s6, s7, s8, s9, s10] ∧ β = [(b, .lst bx)], ⟨_, _, _, _, _, _, _, _, hB, rfl, rfl⟩, ?_, ?_⟩
      · rintro i d ρ' β' hd ⟨s4, s5, s6, s7, s8, s9, s10, bx, hB, rfl, rfl⟩
        have hi : i < 3 := (List.getElem?_eq_some_iff.mp hd).1
        have hwd : Wd d := by
          have hm := List.mem_of_getElem? hd
          rcases List.mem_cons.mp hm with rfl | hm
          · exact wd_toD e
          rcases List.mem_cons.mp hm with rfl | hm
          · exact hw4
          rcases List.mem_cons.mp hm with rfl | hm
          · exact hw5
          cases hm
        clear hd
        refine wg_name ?_
        walk_at "d"
        refine we_box rfl ?_
        walk_at "d"
        refine ⟨_, _, _, rfl, hB, by omega, rfl, fun dc bx hc hB => ?_⟩
        obtain ⟨c, hc, rfl⟩ := hc
        walk_at "d"
        refine ⟨_, ⟨40, d, rfl, by decide, hwd, rfl⟩, _, r2_bl, ?_⟩
        refine ⟨fun h => ?_, fun h => ?_⟩
        · walk_at "d"
          refine ⟨fun h2 => ?_, fun h2 => ?_⟩
          · have hF : isF d = true := by rw [isF_eq, h, h2]; rfl
            have hne : cnt 40 d ≠ 0 := by have := of_decide_eq_true h; omega
            obtain ⟨f, rfl, hfg, hfd⟩ := ex_of hne
            walk_at "d"
            refine ⟨_, ⟨f, c, rfl, by omega, hfg, hc, rfl⟩, ?_⟩
            walk_at "d"
            refine we_callK ?_
            walk_at "d"
            refine ⟨rfl, ?_⟩
            walk_at "d"
            refine ⟨rfl, _, ⟨f, c, true, true, rfl, hfd, hfg, hc, hwd, hF, rfl⟩, ?_⟩
            walk_at "d"
            refine ⟨_, ⟨1, _, rfl, by decide, nc_ans, rfl⟩, ?_⟩
            walk_at "db"
            refine ⟨_, ⟨3, _, rfl, by decide, nc_two hc, rfl⟩, ?_⟩
            walk_at "db"
            refine we_callK ?_
            walk_at "d"
            refine ⟨rfl, ?_⟩
            walk_at "d"
            refine ⟨rfl, _, ⟨f, c, false, false, rfl, hfd, hfg, hc, hwd, hF, rfl⟩, ?_⟩
            walk_at "d"
            refine ⟨_, ⟨1, _, rfl, by decide, nc_ans, rfl⟩, ?_⟩
            walk_at "db"
            exact ⟨_, _, _, _, _, _, _, _, hB.mono (by omega), rfl, rfl⟩
          · walk_at "db"
            exact ⟨_, _, _, _, _, _, _, _, hB.mono (by omega), rfl, rfl⟩
        · walk_at "db"
          exact ⟨_, _, _, _, _, _, _, _, hB.mono (by omega), rfl, rfl⟩
      rintro ρ' β' ⟨s4, s5, s6, s7, s8, s9, s10, bx, hB, rfl, rfl⟩
      refine ws_frz (i := 2) (j := 0) rfl rfl (by simp) ?_
      walk_at "d"
      exact ⟨_, _, _, _, _, _, _, _, _, _, rfl, rfl⟩
    · rintro ρ' β' ⟨s1, s2, s3, s4, s5, s6, s7, s8, s9, s10, rfl, rfl⟩
      walk_at "d"
      rfl⟩
end K77

set_option Elab.async false
set_option linter.all false
set_option maxRecDepth 100000
set_option maxHeartbeats 0
namespace K77
open PySem PySem.Spec PyProof.Rows L2 DS
theorem ns_none_l {P : Params} {z : Str} : ∀ {l : List DictEntry} {ks : List Str}, l.map He.keyOf = He.keysIn P ks → z ∉ ks → l.find? (·.key.isStr z) = none ∧ l.any (·.refKey) = false
  | [], _, _, _ => ⟨rfl, rfl⟩
  | e :: r, [], h, _ => by cases h
  | e :: r, k :: ks, h, hz => by
    have h1 : He.keyOf e :: r.map He.keyOf = some (k, PyData.keyHash P k) :: He.keysIn P ks := h
    injection h1 with h2 h3
    obtain ⟨i1, i2⟩ := ns_none_l h3 fun q => hz (List.mem_cons_of_mem _ q)
    unfold He.keyOf at h2
    split at h2
    · rename_i x t q
      obtain ⟨h5, h6⟩ := Prod.mk.inj (Option.some.inj h2)
      have hne : x ≠ z := fun w => hz (by rw [← w, h5]; exact List.mem_cons_self)
      refine ⟨?_, ?_⟩
      · rw [List.find?_cons, q]
        have : (Value.str x t).isStr z = false := by
          show (x == z) = false
          exact beq_false_of_ne hne
        rw [this]
        exact i1
      · rw [List.any_cons, i2]
        unfold DictEntry.refKey
        rw [q]
        rfl
    · cases h2
theorem ns_none {K : PySem.W.Frag} {P : Params} {a : Addr} {ks : List Str} {z : Str} (h : He.dicW K a = some (He.keysIn P ks)) (hz : z ∉ ks) : PySem.W.nsIn K a z = some none := by
  unfold He.dicW at h
  cases q : K.lookup a with
  | none => rw [q] at h; cases h
  | some ob =>
    obtain ⟨oc, od, dt, osl⟩ := ob
    rw [q] at h
    cases oc with
    | type c =>
      cases od with
      | none =>
        cases dt with
        | dict es n =>
          have h1 : (match decide (c = "dict") && (osl.isEmpty && !(a == sysModules)) with
            | true => some (es.toList.map He.keyOf)
            | false => none) = some (He.keysIn P ks) := h
          split at h1
          · obtain ⟨i1, i2⟩ := ns_none_l (Option.some.inj h1) hz
            unfold PySem.W.nsIn
            rw [q]
            show (match es.toList.find? (·.key.isStr z) with
              | some e => some (some e.val)
              | none => if es.toList.any (·.refKey) then none else some none) = some none
            rw [i1, i2]
            rfl
          · cases h1
        | _ => cases h
      | some b => cases dt <;> cases h
    | _ => cases od <;> cases dt <;> cases h
theorem isKd_of {K : PySem.W.Frag} {w : World} {a : Addr} {kvs : List (Str × He.Dv)} {look : Str → Option V} (hd : He.dicW K a = some (He.keysIn w.params (kvs.map (·.1)))) (hv : He.valsB K a kvs = true)
    (h0 : ∀ z, look z = none → z ∉ kvs.map (·.1)) (h1 : ∀ z x, look z = some x → ∃ q ∈ kvs, q.1 = z ∧ q.2.v K = x) : isKd K w look (.ref a) := by
  obtain ⟨es, n, kd⟩ := He.dicW_ok hd
  refine ⟨a, es, n, rfl, kd, fun z => ⟨fun e => ns_none hd (h0 z e), fun x e => ?_⟩⟩
  obtain ⟨q, hq, rfl, rfl⟩ := h1 z x e
  exact He.valsB_ok hv hq
theorem tabEq {fa : List He.Fa} {fn : List He.DefD} {ts : List He.Tab} {w : World} {K : PySem.W.Frag} (c : He.SaysT fa fn ts w K) (i : Nat) {t : He.Tab} (h : ts[i]? = some t) : He.dicW K (t.1 K) = some (He.keysIn w.params t.2) := by
  have e : ts.map (fun t => He.dicW K (t.1 K)) = ts.map fun t => some (He.keysIn w.params t.2) := congrArg (fun z : He.AlT => z.2) c
  have e2 : (ts.map fun t => He.dicW K (t.1 K))[i]? = (ts.map fun t => some (He.keysIn w.params t.2))[i]? := by rw [e]
  rw [List.getElem?_map, List.getElem?_map, h] at e2
  exact Option.some.inj e2
theorem strs_dp {K : PySem.W.Frag} {G : Hp} : ∀ ws : List Str, DS.DpAll K G ((ws.map He.Dv.str).map (He.Dv.v K)) (ws.map PyData.str)
  | [] => .nil
  | x :: ws => .cons (.str x) (strs_dp ws)
theorem great_eq : (1000000000000000000000000000000000000000000000000000000000000 : Int) = G60 := by
  rw [g60_eq]
  have h : (10 : Nat) ^ 60 = 1000000000000000000000000000000000000000000000000000000000000 := by decide +kernel
  have h2 : ((10 : Int) ^ 60) = (((10 : Nat) ^ 60 : Nat) : Int) := (Int.natCast_pow 10 60).symm
  rw [h2, h]
  rfl
section
variable {w : World} {K : PySem.W.Frag} {mg : Str → Option Value} {h : Heap}
theorem kc_int (X : K.In h) (G : h.Ns mainGlobals mg) {x : Str} {i : Int} (c : (He.Fa.int x i).ok K = true) : KC K mg x (.int i) := by
  obtain ⟨t, e⟩ := He.int_ok X G c
  exact ⟨.int i, _, e, ⟨t, rfl⟩, fun _ => .int _⟩
theorem kc_tup (X : K.In h) (G : h.Ns mainGlobals mg) {x : Str} {ws : List Str} (c : (He.Fa.glo x).ok K = true) (t : He.tupB K x (ws.map He.Dv.str) = true) : KC K mg x (.tuple (ws.map .str)) :=
  ⟨.ref (He.ga K x), _, He.glo_ok X G c, rfl, fun H => .tup (He.tupB_ok t H) (strs_dp ws)⟩
theorem has_of (X : K.In h) (G : h.Ns mainGlobals mg) {x : Str} {st : Stmt} {kws : List (Str × V)} (c : (He.Fa.glo x).ok K = true) (d : ∃ fd, FunD K x x (defArgs st) (defBody st) (defScope st) [] kws (He.ga K x) fd) : Has K mg x st kws := by
  obtain ⟨fd, F⟩ := d
  exact ⟨_, fd, F, He.glo_ok X G c⟩
def lookR (K : PySem.W.Frag) (z : Str) : Option V := (rkv.find? fun q => decide (q.1 = z)).map fun q => q.2.v K
theorem top_of (X : K.In h) (G : h.Ns mainGlobals mg) (c : He.SaysX fa fn ts [] ex w h K) : Top K w mg := by
  have d := c.t.d
  obtain ⟨_, e1⟩ := He.ba c.more
  obtain ⟨e1, e2⟩ := He.ba e1
  obtain ⟨e2, e3⟩ := He.ba e2
  obtain ⟨e3, e4⟩ := He.ba e3
  exact {
    h_is_plain := has_of X G (d.fact 0 (f := .glo "is_plain") rfl) (d.def_ 0 (d := e_is_plain) rfl)
    h_is_whole := has_of X G (d.fact 1 (f := .glo "is_whole") rfl) (d.def_ 1 (d := e_is_whole) rfl)
    h_common_part := has_of X G (d.fact 2 (f := .glo "common_part") rfl) (d.def_ 2 (d := e_common_part) rfl)
    h_is_part := has_of X G (d.fact 3 (f := .glo "is_part") rfl) (d.def_ 3 (d := e_is_part) rfl)
    h_is_number := has_of X G (d.fact 4 (f := .glo "is_number") rfl) (d.def_ 4 (d := e_is_number) rfl)
    h_reckoned := has_of X G (d.fact 5 (f := .glo "reckoned") rfl) (d.def_ 5 (d := e_reckoned) rfl)
    h_pair_of := has_of X G (d.fact 6 (f := .glo "pair_of") rfl) (d.def_ 6 (d := e_pair_of) rfl)
    h_plus := has_of X G (d.fact 7 (f := .glo "plus") rfl) (d.def_ 7 (d := e_plus) rfl)
    h_minus := has_of X G (d.fact 8 (f := .glo "minus") rfl) (d.def_ 8 (d := e_minus) rfl)
    h_times := has_of X G (d.fact 9 (f := .glo "times") rfl) (d.def_ 9 (d := e_times) rfl)
    h_over := has_of X G (d.fact 10 (f := .glo "over") rfl) (d.def_ 10 (d := e_over) rfl)
    h_bare_of := has_of X G (d.fact 11 (f := .glo "bare_of") rfl) (d.def_ 11 (d := e_bare_of) rfl)
    h_less := has_of X G (d.fact 12 (f := .glo "less") rfl) (d.def_ 12 (d := e_less) rfl)
    h_floor_of := has_of X G (d.fact 13 (f := .glo "floor_of") rfl) (d.def_ 13 (d := e_floor_of) rfl)
    h_is_small := has_of X G (d.fact 14 (f := .glo "is_small") rfl) (d.def_ 14 (d := e_is_small) rfl)
    h_things_copied := has_of X G (d.fact 15 (f := .glo "things_copied") rfl) (d.def_ 15 (d := e_things_copied) rfl)
    h_things_dropped := has_of X G (d.fact 16 (f := .glo "things_dropped") rfl) (d.def_ 16 (d := e_things_dropped) rfl)
    h_things_swapped := has_of X G (d.fact 17 (f := .glo "things_swapped") rfl) (d.def_ 17 (d := e_things_swapped) rfl)
    h_things_picked := has_of X G (d.fact 18 (f := .glo "things_picked") rfl) (d.def_ 18 (d := e_things_picked) rfl)
    h_things_summed := has_of X G (d.fact 19 (f := .glo "things_summed") rfl) (d.def_ 19 (d := e_things_summed) rfl)
    h_things_lessened := has_of X G (d.fact 20 (f := .glo "things_lessened") rfl) (d.def_ 20 (d := e_things_lessened) rfl)
    h_things_multiplied := has_of X G (d.fact 21 (f := .glo "things_multiplied") rfl) (d.def_ 21 (d := e_things_multiplied) rfl)
    h_things_lesser := has_of X G (d.fact 22 (f := .glo "things_lesser") rfl) (d.def_ 22 (d := e_things_lesser) rfl)
    h_things_greater := has_of X G (d.fact 23 (f := .glo "things_greater") rfl) (d.def_ 23 (d := e_things_greater) rfl)
    h_things_alike := has_of X G (d.fact 24 (f := .glo "things_alike") rfl) (d.def_ 24 (d := e_things_alike) rfl)
    h_things_both_told := has_of X G (d.fact 25 (f := .glo "things_both_told") rfl) (d.def_ 25 (d := e_things_both_told) rfl)
    h_things_either_told := has_of X G (d.fact 26 (f := .glo "things_either_told") rfl) (d.def_ 26 (d := e_things_either_told) rfl)
    h_things_none_told := has_of X G (d.fact 27 (f := .glo "things_none_told") rfl) (d.def_ 27 (d := e_things_none_told) rfl)
    h_things_negated := has_of X G (d.fact 28 (f := .glo "things_negated") rfl) (d.def_ 28 (d := e_things_negated) rfl)
    h_things_bared := has_of X G (d.fact 29 (f := .glo "things_bared") rfl) (d.def_ 29 (d := e_things_bared) rfl)
    h_things_floored := has_of X G (d.fact 30 (f := .glo "things_floored") rfl) (d.def_ 30 (d := e_things_floored) rfl)
    h_things_ceiled := has_of X G (d.fact 31 (f := .glo "things_ceiled") rfl) (d.def_ 31 (d := e_things_ceiled) rfl)
    h_are_numbers := has_of X G (d.fact 32 (f := .glo "are_numbers") rfl) (d.def_ 32 (d := e_are_numbers) rfl)
    h_parts_counted := has_of X G (d.fact 33 (f := .glo "parts_counted") rfl) (d.def_ 33 (d := e_parts_counted) rfl)
    h_is_formula := has_of X G (d.fact 34 (f := .glo "is_formula") rfl) (d.def_ 34 (d := e_is_formula) rfl)
    h_need_formula := has_of X G (d.fact 35 (f := .glo "need_formula") rfl) (d.def_ 35 (d := e_need_formula) rfl)
    h_inner_parts := has_of X G (d.fact 36 (f := .glo "inner_parts") rfl) (d.def_ 36 (d := e_inner_parts) rfl)
    h_small_of := has_of X G (d.fact 37 (f := .glo "small_of") rfl) (d.def_ 37 (d := e_small_of) rfl)
    h_asked_number := has_of X G (d.fact 38 (f := .glo "asked_number") rfl) (d.def_ 38 (d := e_asked_number) rfl)
    h_number_by := has_of X G (d.fact 39 (f := .glo "number_by") rfl) (d.def_ 39 (d := e_number_by) rfl)
    h_formula_number := has_of X G (d.fact 40 (f := .glo "formula_number") rfl) (d.def_ 40 (d := e_formula_number) rfl)
    h_L_cell := has_of X G (d.fact 41 (f := .glo "_law_cell") rfl) (d.def_ 41 (d := e_L_cell) rfl)
    h_L_box := has_of X G (d.fact 42 (f := .glo "_law_box") rfl) (d.def_ 42 (d := e_L_box) rfl)
    h_L_take := has_of X G (d.fact 43 (f := .glo "_law_take") rfl) (d.def_ 43 (d := e_L_take) rfl)
    h_L_same := has_of X G (d.fact 44 (f := .glo "_law_same") rfl) (d.def_ 44 (d := e_L_same) rfl)
    h_L_low := has_of X G (d.fact 45 (f := .glo "_law_low") rfl) (d.def_ 45 (d := e_L_low) rfl)
    h_L_pair := has_of X G (d.fact 46 (f := .glo "_law_pair") rfl) (d.def_ 46 (d := e_L_pair) rfl)
    h_L_num := has_of X G (d.fact 47 (f := .glo "_law_num") rfl) (d.def_ 47 (d := e_L_num) rfl)
    h_L_plus := has_of X G (d.fact 48 (f := .glo "_law_plus") rfl) (d.def_ 48 (d := e_L_plus) rfl)
    h_L_minus := has_of X G (d.fact 49 (f := .glo "_law_minus") rfl) (d.def_ 49 (d := e_L_minus) rfl)
    h_L_times := has_of X G (d.fact 50 (f := .glo "_law_times") rfl) (d.def_ 50 (d := e_L_times) rfl)
    h_L_over := has_of X G (d.fact 51 (f := .glo "_law_over") rfl) (d.def_ 51 (d := e_L_over) rfl)
    h_L_less := has_of X G (d.fact 52 (f := .glo "_law_less") rfl) (d.def_ 52 (d := e_L_less) rfl)
    h_L_leaf := has_of X G (d.fact 53 (f := .glo "_law_leaf") rfl) (d.def_ 53 (d := e_L_leaf) rfl)
    h_L_formula := has_of X G (d.fact 54 (f := .glo "_law_formula") rfl) (d.def_ 54 (d := e_L_formula) rfl)
    h_L_parts := has_of X G (d.fact 55 (f := .glo "_law_parts") rfl) (d.def_ 55 (d := e_L_parts) rfl)
    h_L_great := has_of X G (d.fact 56 (f := .glo "_law_great") rfl) (d.def_ 56 (d := e_L_great) rfl)
    h_L_one := has_of X G (d.fact 57 (f := .glo "_law_one") rfl) (d.def_ 57 (d := e_L_one) rfl)
    h_L_two := has_of X G (d.fact 58 (f := .glo "_law_two") rfl) (d.def_ 58 (d := e_L_two) rfl)
    h_L_value := has_of X G (d.fact 59 (f := .glo "_law_value") rfl) (d.def_ 59 (d := e_L_value) rfl)
    h_L_case := has_of X G (d.fact 60 (f := .glo "_law_case") rfl) (d.def_ 60 (d := e_L_case) rfl)
    h_L_answer := has_of X G (d.fact 61 (f := .glo "_law_answer") rfl) (d.def_ 61 (d := e_L_answer) rfl)
    h_L_counted := has_of X G (d.fact 62 (f := .glo "_law_counted") rfl) (d.def_ 62 (d := e_L_counted) rfl)
    h_L_is_part := has_of X G (d.fact 63 (f := .glo "_law_is_part") rfl) (d.def_ 63 (d := e_L_is_part) rfl)
    h_L_odd := has_of X G (d.fact 64 (f := .glo "_law_odd") rfl) (d.def_ 64 (d := e_L_odd) rfl)
    h_L_spoilt := has_of X G (d.fact 65 (f := .glo "_law_spoilt") rfl) (d.def_ 65 (d := e_L_spoilt) rfl)
    h_L_long := has_of X G (d.fact 66 (f := .glo "_law_long") rfl) (d.def_ 66 (d := e_L_long) rfl)
    h_L_great_formula := has_of X G (d.fact 67 (f := .glo "_law_great_formula") rfl) (d.def_ 67 (d := e_L_great_formula) rfl)
    h_law := has_of X G (d.fact 68 (f := .glo "law") rfl) (d.def_ 68 (d := e_law) rfl)
    m_len := He.free_ok X G (d.fact 73 (f := .free "len") rfl)
    m_abs := He.free_ok X G (d.fact 74 (f := .free "abs") rfl)
    m_max := He.free_ok X G (d.fact 75 (f := .free "max") rfl)
    m_min := He.free_ok X G (d.fact 76 (f := .free "min") rfl)
    m_sum := He.free_ok X G (d.fact 77 (f := .free "sum") rfl)
    m_all := He.free_ok X G (d.fact 78 (f := .free "all") rfl)
    m_int := He.free_ok X G (d.fact 79 (f := .free "int") rfl)
    m_bool := He.free_ok X G (d.fact 80 (f := .free "bool") rfl)
    m_str := He.free_ok X G (d.fact 81 (f := .free "str") rfl)
    m_list := He.free_ok X G (d.fact 82 (f := .free "list") rfl)
    m_tuple := He.free_ok X G (d.fact 83 (f := .free "tuple") rfl)
    m_isinstance := He.free_ok X G (d.fact 84 (f := .free "isinstance") rfl)
    m_range := He.free_ok X G (d.fact 85 (f := .free "range") rfl)
    k_CELL := kc_int X G (d.fact 86 (f := .int "CELL" 64) rfl)
    k_MOST_SIZE := kc_int X G (d.fact 87 (f := .int "MOST_SIZE" 200) rfl)
    k_GREAT := great_eq ▸ kc_int X G (d.fact 88 (f := .int "GREAT" 1000000000000000000000000000000000000000000000000000000000000) rfl)
    k_STORE := kc_int X G (d.fact 89 (f := .int "STORE" 8) rfl)
    k_MOST_WORTHS := kc_int X G (d.fact 90 (f := .int "MOST_WORTHS" 12) rfl)
    k_MOST_PARTS := kc_int X G (d.fact 91 (f := .int "MOST_PARTS" 200) rfl)
    k_MOST_WITHIN := kc_int X G (d.fact 92 (f := .int "MOST_WITHIN" 40) rfl)
    k_SINGLE := kc_tup (ws := ["negate", "bare", "floor", "ceil", "not"]) X G (d.fact 69 (f := .glo "SINGLE") rfl) e1
    k_DOUBLE := kc_tup (ws := ["plus", "minus", "times", "over", "lesser", "greater", "same", "both", "either"]) X G (d.fact 70 (f := .glo "DOUBLE") rfl) e2
    d_KEPT := ⟨.ref (He.ga K "KEPT"), _, He.glo_ok X G (d.fact 71 (f := .glo "KEPT") rfl), rfl, isKd_of (tabEq c.t 0 rfl) e3 (fun z hz => by
      unfold lookKEPT at hz
      split at hz
      · cases hz
      split at hz
      · cases hz
      rename_i n1 n2
      show z ∉ [("load" : Str), "worth"]
      simp [n1, n2]) (fun z x hx => by
      unfold lookKEPT at hx
      split at hx
      · rename_i e
        cases hx
        exact ⟨("load", .int 8), by simp [kpv], e.symm, rfl⟩
      split at hx
      · rename_i e
        cases hx
        exact ⟨("worth", .int 12), by simp [kpv], e.symm, rfl⟩
      · cases hx)⟩
    f_RECKONED := ⟨lookR K, ⟨.ref (He.ga K "RECKONED"), _, He.glo_ok X G (d.fact 72 (f := .glo "RECKONED") rfl), rfl, isKd_of (tabEq c.t 1 rfl) e4 (fun z hz hm => by
      obtain ⟨q, hq, rfl⟩ := List.mem_map.mp hm
      unfold lookR at hz
      have h2 := Option.map_eq_none_iff.mp hz
      have h3 := List.find?_eq_none.mp h2 q hq
      exact h3 (decide_eq_true rfl)) (fun z x hx => by
      unfold lookR at hx
      obtain ⟨q, h2, rfl⟩ := Option.map_eq_some_iff.mp hx
      exact ⟨q, List.mem_of_find?_eq_some h2, of_decide_eq_true (show decide (q.1 = z) = true from List.find?_some (p := fun q : Str × He.Dv => decide (q.1 = z)) h2), rfl⟩)⟩, fun p hp => by
      simp only [pRECK, List.mem_cons, List.not_mem_nil, or_false] at hp
      rcases hp with rfl | rfl | rfl | rfl | rfl | rfl | rfl | rfl | rfl | rfl | rfl | rfl | rfl
      · exact ⟨He.ga K "things_summed", rfl, He.glo_ok X G (d.fact 19 (f := .glo "things_summed") rfl)⟩
      · exact ⟨He.ga K "things_lessened", rfl, He.glo_ok X G (d.fact 20 (f := .glo "things_lessened") rfl)⟩
      · exact ⟨He.ga K "things_multiplied", rfl, He.glo_ok X G (d.fact 21 (f := .glo "things_multiplied") rfl)⟩
      · exact ⟨He.ga K "things_lesser", rfl, He.glo_ok X G (d.fact 22 (f := .glo "things_lesser") rfl)⟩
      · exact ⟨He.ga K "things_greater", rfl, He.glo_ok X G (d.fact 23 (f := .glo "things_greater") rfl)⟩
      · exact ⟨He.ga K "things_alike", rfl, He.glo_ok X G (d.fact 24 (f := .glo "things_alike") rfl)⟩
      · exact ⟨He.ga K "things_both_told", rfl, He.glo_ok X G (d.fact 25 (f := .glo "things_both_told") rfl)⟩
      · exact ⟨He.ga K "things_either_told", rfl, He.glo_ok X G (d.fact 26 (f := .glo "things_either_told") rfl)⟩
      · exact ⟨He.ga K "things_none_told", rfl, He.glo_ok X G (d.fact 27 (f := .glo "things_none_told") rfl)⟩
      · exact ⟨He.ga K "things_negated", rfl, He.glo_ok X G (d.fact 28 (f := .glo "things_negated") rfl)⟩
      · exact ⟨He.ga K "things_bared", rfl, He.glo_ok X G (d.fact 29 (f := .glo "things_bared") rfl)⟩
      · exact ⟨He.ga K "things_floored", rfl, He.glo_ok X G (d.fact 30 (f := .glo "things_floored") rfl)⟩
      · exact ⟨He.ga K "things_ceiled", rfl, He.glo_ok X G (d.fact 31 (f := .glo "things_ceiled") rfl)⟩⟩ }
theorem no_list (c : He.SaysX fa fn ts [] ex w h K) {a : Addr} {ob : Obj} (e : K.lookup a = some ob) : ob.cls ≠ .type "list" := fun z => by
  have h1 := (He.ba c.more).1
  have h2 := List.all_eq_true.mp h1 _ (He.lookup_mem e)
  have h3 : (match ob.cls with
    | .type c => !decide (c = "list")
    | _ => true) = true := h2
  rw [z] at h3
  exact absurd h3 (by decide)
end
end K77

set_option Elab.async false
set_option linter.all false
set_option maxRecDepth 100000
set_option maxHeartbeats 0
namespace K77
open PySem PySem.Spec PyProof.Rows L2 DS
theorem ints_dp {K : PySem.W.Frag} {G : Hp} : ∀ ns : List Int, DS.DpAll K G (ns.map V.int) (ns.map PyData.int)
  | [] => .nil
  | x :: ns => .cons (.int x) (ints_dp ns)
theorem law_sp {w : World} {K : PySem.W.Frag} {h : Heap} (c : He.SaysX fa fn ts [] ex w h K) (H : Hp) (a : Addr) (ns : List Int) (hS : SqL K H a (ns.map V.int)) : spP K R_law [.ref a] H (fun v _ => v = .bl true) fun _ _ _ => False := by
  have hR : Rd H a (.lst (ns.map V.int)) := by
    rcases hS with h | ⟨o, its, n, hk, hc, _⟩
    · exact h
    · exact absurd hc (no_list c hk)
  have hO : Off [] H = H := by
    funext b
    exact off_out (by simp)
  refine ⟨[], [.list (ns.map .int)], .bool true, (fun _ h => by cases h), ?_, ⟨ns, rfl, rfl⟩, fun v H' _ hv => dp_bool hv⟩
  rw [hO]
  exact .cons (.lst hR (ints_dp ns)) .nil
end K77
open PySem PySem.W PySem.Calls PyProof.Rows
theorem PySem.Challenge.cw_hintscribe_k77_formulas_and_their_number_holds : PySem.Challenge.rw_hintscribe_k77_formulas_and_their_number.Holds := by
  w_on; o_law
  refine HandSHeadRun.head_any (r := OpenLaw.row PySem.Challenge.rw_hintscribe_k77_formulas_and_their_number) (q := view (OpenLaw.row PySem.Challenge.rw_hintscribe_k77_formulas_and_their_number).prog [92]) (H := K77.hk) (ob := K77.ob) (M := 6000) (loose := K77.loose) (d := HandSHeadRun.topDef (OpenLaw.row PySem.Challenge.rw_hintscribe_k77_formulas_and_their_number).prog 92) (kwd := []) K77.ob_eq
    (by kernel_rfl) (fun s => by kernel_rfl) K77.run (by kernel_rfl) (by kernel_rfl) (by kernel_rfl) (by rfl) (by first | assumption | decide +kernel) (by decide +kernel) ⟨rfl, rfl, rfl, rfl, rfl, by decide +kernel⟩ ?hw ?hc
  case hw => w_witness2
  case hc =>
    refine L2.walk_ofE (l := PySem.Challenge.rw_hintscribe_k77_formulas_and_their_number) (n := 63) (k := 51) (x := "script") (CX := DS.CXN) rfl (by decide) (by kernel_rfl) ⟨rfl, by decide, by decide⟩ ?F (fun _ _ _ _ z => z)
    intro w mg fa h Y G hmg0
    obtain ⟨K, KX, c⟩ := Y
    have hmg : mg ("law" : PySem.Str) = some (.ref fa) := by
      have e : (HandSHeadRun.topDef (OpenLaw.row PySem.Challenge.rw_hintscribe_k77_formulas_and_their_number).prog 92).name = ("law" : PySem.Str) := by kernel_rfl
      rw [← e]
      exact hmg0
    have T := K77.top_of KX G c
    obtain ⟨f, fd, F, m⟩ := T.h_law.ex
    have e := hmg.symm.trans m
    cases e
    have b := L2.FunD.bindsA (ps := ["script"]) F fun _ _ _ _ _ _ us hl => match us, hl with | [_], _ => rfl
    exact ⟨K, fd, DS.spP K K77.R_law, KX, fun s v => b s [v] rfl, fun H a ns _ _ hS => K77.law_sp c H a ns hS, fun base _ _ => K77.ok_law T _ fd F m⟩
