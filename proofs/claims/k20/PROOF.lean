import PyProof.Rows.All
import Wide.All
import OpenK.AllK
import Wide.FinOn
import HandS.ForMost
import HandS.Slots
import HandS.SlotsOwn
import HandS.IsInst
import HandS.TupAny
import HandS.TupMul
import HandS.FStr
import HandS.Wide
import HandS.Zip
import HandS.Walk
import KE.GoesEnum
import PyProof.InstNe
import PyProof.CallStr
import HandS.Text
import HandS.Star
import PySem.Challenge.RW_rampworks_k20_whole_networks_put_togethe
import HandS.Ends
set_option Elab.async false
set_option linter.all false
set_option maxRecDepth 100000
set_option maxHeartbeats 4000000
/-! DLa: data without heap (D), what stands for it (Rep), readings over data. -/
namespace DL
open PySem PySem.Spec PyProof.Rows L2 SlX

/-- data: own p is a list that is known by its address and may change; obj an instance with slots that does not change any more; scr the law's own list -/
inductive D where
  | non | bl (b : Bool) | int (i : Int) | str (x : Str)
  | tup (ds : List D) | lst (ds : List D) | own (p : Addr) | obj (C : Addr) (ds : List D) | scr (ns : List Int)

abbrev Sl := List (Option D)
abbrev Mu := Addr → Option (List D)
def muSet (μ : Mu) (p : Addr) (ds : List D) : Mu := fun q => if q = p then some ds else μ q
def muDel (μ : Mu) (p : Addr) : Mu := fun q => if q = p then none else μ q
theorem muSet_same {μ : Mu} {p : Addr} {ds : List D} : muSet μ p ds p = some ds := by unfold muSet; rw [if_pos rfl]
theorem muSet_ne {μ : Mu} {p q : Addr} {ds : List D} (h : q ≠ p) : muSet μ p ds q = μ q := by unfold muSet; rw [if_neg h]
theorem muDel_same {μ : Mu} {p : Addr} : muDel μ p p = none := by unfold muDel; rw [if_pos rfl]
theorem muDel_ne {μ : Mu} {p q : Addr} (h : q ≠ p) : muDel μ p q = μ q := by unfold muDel; rw [if_neg h]
theorem muSet_set {μ : Mu} {p : Addr} {a b : List D} : muSet (muSet μ p a) p b = muSet μ p b := by
  funext q; unfold muSet; split <;> rfl
theorem muDel_set {μ : Mu} {p : Addr} {a : List D} : muDel (muSet μ p a) p = muDel μ p := by
  funext q; unfold muSet muDel
  by_cases h : q = p
  · rw [if_pos h, if_pos h]
  · rw [if_neg h, if_neg h]
    show (if q = p then some a else μ q) = μ q
    rw [if_neg h]

def Ex (H H' : Hp) : Prop := ∀ a o, H a = some o → H' a = some o
theorem Ex.refl (H : Hp) : Ex H H := fun _ _ h => h
theorem Ex.trans {H H1 H2 : Hp} (a : Ex H H1) (b : Ex H1 H2) : Ex H H2 := fun x o h => b x o (a x o h)
theorem Ex.new {H : Hp} {p : Addr} {o : HO} (h : H p = none) : Ex H (upd H p o) := fun a u e => by
  rw [upd_ne (ne_of_none e h)]; exact e
theorem Ex.l {K : PySem.W.Frag} {H H' : Hp} {a : Addr} {xs : List V} (e : Ex H H') (h : SqL K H a xs) : SqL K H' a xs := by
  rcases h with (h | ⟨o, h⟩) | h
  · exact .inl (.inl (e _ _ h))
  · exact .inl (.inr ⟨o, e _ _ h⟩)
  · exact .inr h
theorem Ex.t {K : PySem.W.Frag} {H H' : Hp} {a : Addr} {xs : List V} (e : Ex H H') (h : SqT K H a xs) : SqT K H' a xs := by
  rcases h with (h | ⟨o, h⟩) | h
  · exact .inl (.inl (e _ _ h))
  · exact .inl (.inr ⟨o, e _ _ h⟩)
  · exact .inr h
theorem Ex.slt {H H' : Hp} {a C dx : Addr} {vs : List (Option V)} (e : Ex H H') (h : Slt H a C dx vs) : Slt H' a C dx vs := by
  rcases h with ⟨h1, h2⟩ | ⟨h1, h2⟩
  · exact .inl ⟨e _ _ h1, h2⟩
  · exact .inr ⟨e _ _ h1, e _ _ h2⟩

mutual
/-- the value stands for the data, in the heap G of what does not change -/
inductive Rep (K : PySem.W.Frag) (G : Hp) : V → D → Prop
  | non : Rep K G .non .non
  | bl (b : Bool) : Rep K G (.bl b) (.bl b)
  | int (i : Int) : Rep K G (.int i) (.int i)
  | str (x : Str) : Rep K G (.str x) (.str x)
  | tup {a : Addr} {vs : List V} {ds : List D} : SqT K G a vs → RepL K G vs ds → Rep K G (.ref a) (.tup ds)
  | lst {a : Addr} {vs : List V} {ds : List D} : G a = some (.lst vs) → RepL K G vs ds → Rep K G (.ref a) (.lst ds)
  | own (p : Addr) : Rep K G (.ref p) (.own p)
  | obj {a C dx : Addr} {vs : List V} {ds : List D} : Slt G a C dx (vs.map some) → RepL K G vs ds → Rep K G (.ref a) (.obj C ds)
  | scr {a : Addr} {ns : List Int} : SqL K G a (ns.map V.int) → Rep K G (.ref a) (.scr ns)
inductive RepL (K : PySem.W.Frag) (G : Hp) : List V → List D → Prop
  | nil : RepL K G [] []
  | cons {v : V} {d : D} {vs : List V} {ds : List D} : Rep K G v d → RepL K G vs ds → RepL K G (v :: vs) (d :: ds)
end

section
variable {K : PySem.W.Frag} {G G' : Hp}
mutual
theorem Rep.mono (e : Ex G G') : ∀ {d : D} {v : V}, Rep K G v d → Rep K G' v d
  | _, _, .non => .non
  | _, _, .bl b => .bl b
  | _, _, .int i => .int i
  | _, _, .str x => .str x
  | _, _, .tup h r => .tup (e.t h) (RepL.mono e r)
  | _, _, .lst h r => .lst (e _ _ h) (RepL.mono e r)
  | _, _, .own p => .own p
  | _, _, .obj h r => .obj (e.slt h) (RepL.mono e r)
  | _, _, .scr h => .scr (e.l h)
theorem RepL.mono (e : Ex G G') : ∀ {ds : List D} {vs : List V}, RepL K G vs ds → RepL K G' vs ds
  | _, _, .nil => .nil
  | _, _, .cons h t => .cons (Rep.mono e h) (RepL.mono e t)
end
theorem RepL.length : ∀ {ds : List D} {vs : List V}, RepL K G vs ds → vs.length = ds.length
  | _, _, .nil => rfl
  | _, _, .cons _ t => congrArg (· + 1) (RepL.length t)
theorem RepL.get : ∀ {ds : List D} {vs : List V} {i : Nat} {v : V}, RepL K G vs ds → vs[i]? = some v → ∃ d, ds[i]? = some d ∧ Rep K G v d
  | _, _, _, _, .nil, e => by simp at e
  | _, _, 0, _, .cons r _, e => by simp at e; subst e; exact ⟨_, rfl, r⟩
  | _, _, i + 1, v, .cons _ t, e => by
    obtain ⟨d, h1, h2⟩ := RepL.get (i := i) (v := v) t (by simpa using e)
    exact ⟨d, by simpa using h1, h2⟩
theorem RepL.getD' : ∀ {ds : List D} {vs : List V} {i : Nat} {d : D}, RepL K G vs ds → ds[i]? = some d → ∃ v, vs[i]? = some v ∧ Rep K G v d
  | _, _, _, _, .nil, e => by simp at e
  | _, _, 0, _, .cons r _, e => by simp at e; subst e; exact ⟨_, rfl, r⟩
  | _, _, i + 1, d, .cons _ t, e => by
    obtain ⟨v, h1, h2⟩ := RepL.getD' (i := i) (d := d) t (by simpa using e)
    exact ⟨v, by simpa using h1, h2⟩
theorem RepL.append : ∀ {ds es : List D} {vs ws : List V}, RepL K G vs ds → RepL K G ws es → RepL K G (vs ++ ws) (ds ++ es)
  | _, _, _, _, .nil, s => s
  | _, _, _, _, .cons r t, s => .cons r (RepL.append t s)
theorem RepL.set {v : V} {d : D} (r : Rep K G v d) : ∀ {ds : List D} {vs : List V} (i : Nat), RepL K G vs ds → RepL K G (vs.set i v) (ds.set i d)
  | _, _, _, .nil => .nil
  | _, _, 0, .cons _ t => .cons r t
  | _, _, i + 1, .cons q t => .cons q (RepL.set r i t)
theorem RepL.take : ∀ {ds : List D} {vs : List V} (n : Nat), RepL K G vs ds → RepL K G (vs.take n) (ds.take n)
  | _, _, 0, _ => .nil
  | _, _, _ + 1, .nil => .nil
  | _, _, n + 1, .cons r t => .cons r (RepL.take n t)
theorem RepL.drop : ∀ {ds : List D} {vs : List V} (n : Nat), RepL K G vs ds → RepL K G (vs.drop n) (ds.drop n)
  | _, _, 0, r => r
  | _, _, _ + 1, .nil => .nil
  | _, _, n + 1, .cons _ t => RepL.drop n t
theorem RepL.replicate {v : V} {d : D} (r : Rep K G v d) : ∀ n : Nat, RepL K G (List.replicate n v) (List.replicate n d)
  | 0 => .nil
  | n + 1 => .cons r (RepL.replicate r n)
/-- what rows of ints stand for -/
theorem RepL.ints : ∀ {ns : List Int} {vs : List V}, RepL K G vs (ns.map D.int) → vs = ns.map V.int
  | [], _, h => by cases h; rfl
  | n :: ns, _, h => by
    cases h with
    | cons a b => cases a; rw [RepL.ints b]; rfl
theorem RepL.of_ints : ∀ (ns : List Int), RepL K G (ns.map V.int) (ns.map D.int)
  | [] => .nil
  | n :: ns => .cons (.int n) (RepL.of_ints ns)
theorem RepL.bls : ∀ {ns : List Bool} {vs : List V}, RepL K G vs (ns.map D.bl) → vs = ns.map V.bl
  | [], _, h => by cases h; rfl
  | n :: ns, _, h => by
    cases h with
    | cons a b => cases a; rw [RepL.bls b]; rfl
theorem RepL.strs : ∀ {ns : List Str} {vs : List V}, RepL K G vs (ns.map D.str) → vs = ns.map V.str
  | [], _, h => by cases h; rfl
  | n :: ns, _, h => by
    cases h with
    | cons a b => cases a; rw [RepL.strs b]; rfl
end

/-- the slots -/
structure SlOk (K : PySem.W.Frag) (G : Hp) (σ : L2.St) (δ : Sl) : Prop where
  len : σ.length = δ.length
  at_ : ∀ (i : Nat) (d : D), δ[i]? = some (some d) → ∃ v, σ[i]? = some (some v) ∧ Rep K G v d
/-- the heap: what does not change, the own lists -/
structure Wd (K : PySem.W.Frag) (G H : Hp) (μ : Mu) : Prop where
  ex : Ex G H
  mu : ∀ p ds, μ p = some ds → G p = none ∧ ∃ vs, H p = some (.lst vs) ∧ RepL K G vs ds
/-- from one state to a later one -/
structure Go (μ : Mu) (G H : Hp) (μ' : Mu) (G' H' : Hp) : Prop where
  eg : Ex G G'
  kp : ∀ a o, H a = some o → μ a = none → H' a = some o
  dm : ∀ a, μ' a ≠ none → μ a ≠ none ∨ H a = none
  gf : ∀ a, G' a ≠ none → G a ≠ none ∨ μ a ≠ none ∨ H a = none
theorem Go.refl (μ : Mu) (G H : Hp) : Go μ G H μ G H := ⟨Ex.refl G, fun _ _ h _ => h, fun _ h => .inl h, fun _ h => .inl h⟩
theorem Go.none_mu {μ μ1 : Mu} {G G1 H H1 : Hp} (x : Go μ G H μ1 G1 H1) {a : Addr} {o : HO} (h : H a = some o) (hm : μ a = none) : μ1 a = none := by
  cases e : μ1 a with
  | none => rfl
  | some d =>
    rcases x.dm a (by rw [e]; simp) with z | z
    · exact absurd hm z
    · rw [h] at z; cases z
theorem Go.back {μ μ1 : Mu} {G G1 H H1 : Hp} (x : Go μ G H μ1 G1 H1) {a : Addr} (h : H1 a = none) : μ a ≠ none ∨ H a = none := by
  cases e : H a with
  | none => exact .inr rfl
  | some o =>
    by_cases hm : μ a = none
    · have := x.kp a o e hm
      rw [h] at this; cases this
    · exact .inl hm
theorem Go.trans {μ μ1 μ2 : Mu} {G G1 G2 H H1 H2 : Hp} (x : Go μ G H μ1 G1 H1) (y : Go μ1 G1 H1 μ2 G2 H2) : Go μ G H μ2 G2 H2 where
  eg := x.eg.trans y.eg
  kp := fun a o h hm => y.kp a o (x.kp a o h hm) (x.none_mu h hm)
  dm := fun a h => by
    rcases y.dm a h with z | z
    · exact x.dm a z
    · exact x.back z
  gf := fun a h => by
    rcases y.gf a h with z | z | z
    · exact x.gf a z
    · rcases x.dm a z with w | w
      · exact .inr (.inl w)
      · exact .inr (.inr w)
    · exact .inr (x.back z)
section
variable {K : PySem.W.Frag} {G G' H H' : Hp} {μ μ' : Mu} {σ : L2.St} {δ : Sl}
theorem SlOk.mono (h : SlOk K G σ δ) (e : Ex G G') : SlOk K G' σ δ := ⟨h.len, fun i d q => let ⟨v, a, b⟩ := h.at_ i d q; ⟨v, a, b.mono e⟩⟩
theorem SlOk.set {v : V} {d : D} (h : SlOk K G σ δ) (r : Rep K G v d) (i : Nat) : SlOk K G (σ.set i (some v)) (δ.set i (some d)) := by
  refine ⟨by rw [List.length_set, List.length_set]; exact h.len, fun j e q => ?_⟩
  by_cases hj : i = j
  · subst hj
    by_cases hi : i < δ.length
    · rw [List.getElem?_set_self hi] at q
      cases q
      exact ⟨v, by rw [List.getElem?_set_self (by rw [h.len]; exact hi)], r⟩
    · rw [List.getElem?_eq_none (by simpa using hi)] at q
      cases q
  · rw [List.getElem?_set_ne hj] at q
    rw [List.getElem?_set_ne hj]
    exact h.at_ j e q
theorem SlOk.unset (h : SlOk K G σ δ) (i : Nat) (x : Option V) : SlOk K G (σ.set i x) (δ.set i none) := by
  refine ⟨by rw [List.length_set, List.length_set]; exact h.len, fun j e q => ?_⟩
  by_cases hj : i = j
  · subst hj
    by_cases hi : i < δ.length
    · rw [List.getElem?_set_self hi] at q
      cases q
    · rw [List.getElem?_eq_none (by simpa using hi)] at q
      cases q
  · rw [List.getElem?_set_ne hj] at q
    rw [List.getElem?_set_ne hj]
    exact h.at_ j e q
/-- a new object of what does not change -/
theorem Wd.new (w : Wd K G H μ) {p : Addr} {o : HO} (hp : H p = none) : Wd K (upd G p o) (upd H p o) μ := by
  have gp : G p = none := by
    cases e : G p with
    | none => rfl
    | some u => have := w.ex _ _ e; rw [hp] at this; cases this
  refine ⟨fun a u e => ?_, fun q ds e => ?_⟩
  · by_cases h : a = p
    · subst h; rw [upd_same] at e ⊢; exact e
    · rw [upd_ne h] at e ⊢; exact w.ex _ _ e
  · obtain ⟨h1, vs, h2, h3⟩ := w.mu q ds e
    have hq : q ≠ p := ne_of_none h2 hp
    exact ⟨by rw [upd_ne hq]; exact h1, vs, by rw [upd_ne hq]; exact h2, h3.mono (Ex.new gp)⟩
theorem Wd.gnone (w : Wd K G H μ) {p : Addr} (hp : H p = none) : G p = none := by
  cases e : G p with
  | none => rfl
  | some u => have := w.ex _ _ e; rw [hp] at this; cases this
theorem Wd.mnone (w : Wd K G H μ) {p : Addr} (hp : H p = none) : μ p = none := by
  cases e : μ p with
  | none => rfl
  | some u => obtain ⟨_, vs, h2, _⟩ := w.mu p u e; rw [hp] at h2; cases h2
theorem Go.new (w : Wd K G H μ) {p : Addr} {o : HO} (hp : H p = none) : Go μ G H μ (upd G p o) (upd H p o) := by
  refine ⟨Ex.new (w.gnone hp), fun a u h _ => ?_, fun _ h => .inl h, fun a h => ?_⟩
  · rw [upd_ne (ne_of_none h hp)]; exact h
  · by_cases e : a = p
    · subst e; exact .inr (.inr hp)
    · rw [upd_ne e] at h; exact .inl h
/-- a new own list -/
theorem Wd.newO (w : Wd K G H μ) {p : Addr} {vs : List V} {ds : List D} (hp : H p = none) (r : RepL K G vs ds) : Wd K G (upd H p (.lst vs)) (muSet μ p ds) := by
  refine ⟨fun a u e => ?_, fun q es e => ?_⟩
  · have := w.ex _ _ e
    rw [upd_ne (ne_of_none this hp)]; exact this
  · by_cases h : q = p
    · subst h
      rw [muSet_same] at e
      cases e
      exact ⟨w.gnone hp, vs, upd_same, r⟩
    · rw [muSet_ne h] at e
      obtain ⟨h1, ws, h2, h3⟩ := w.mu q es e
      exact ⟨h1, ws, by rw [upd_ne h]; exact h2, h3⟩
theorem Go.newO (w : Wd K G H μ) {p : Addr} {vs : List V} {ds : List D} (hp : H p = none) : Go μ G H (muSet μ p ds) G (upd H p (.lst vs)) := by
  refine ⟨Ex.refl G, fun a u h _ => ?_, fun a h => ?_, fun _ h => .inl h⟩
  · rw [upd_ne (ne_of_none h hp)]; exact h
  · by_cases e : a = p
    · subst e; exact .inr hp
    · rw [muSet_ne e] at h; exact .inl h
/-- an own list changes -/
theorem Wd.wr (w : Wd K G H μ) {p : Addr} {vs : List V} {ds es : List D} (hp : μ p = some es) (r : RepL K G vs ds) : Wd K G (upd H p (.lst vs)) (muSet μ p ds) := by
  obtain ⟨gp, ws, hw, _⟩ := w.mu p es hp
  refine ⟨fun a u e => ?_, fun q es e => ?_⟩
  · have hne : a ≠ p := ne_of_none e gp
    rw [upd_ne hne]; exact w.ex _ _ e
  · by_cases h : q = p
    · subst h
      rw [muSet_same] at e
      cases e
      exact ⟨gp, vs, upd_same, r⟩
    · rw [muSet_ne h] at e
      obtain ⟨h1, ws, h2, h3⟩ := w.mu q es e
      exact ⟨h1, ws, by rw [upd_ne h]; exact h2, h3⟩
theorem Go.wr {p : Addr} {vs : List V} {ds es : List D} (hp : μ p = some es) : Go μ G H (muSet μ p ds) G (upd H p (.lst vs)) := by
  refine ⟨Ex.refl G, fun a u h hm => ?_, fun a h => ?_, fun _ h => .inl h⟩
  · have hne : a ≠ p := fun z => by subst z; rw [hp] at hm; cases hm
    rw [upd_ne hne]; exact h
  · by_cases e : a = p
    · subst e; exact .inl (by rw [hp]; simp)
    · rw [muSet_ne e] at h; exact .inl h
/-- an own list is let go of: it does not change any more -/
theorem Wd.frz (w : Wd K G H μ) {p : Addr} {ds : List D} (hp : μ p = some ds) : ∃ vs, Wd K (upd G p (.lst vs)) H (muDel μ p) ∧ Rep K (upd G p (.lst vs)) (.ref p) (.lst ds) ∧ Go μ G H (muDel μ p) (upd G p (.lst vs)) H := by
  obtain ⟨gp, vs, hv, r⟩ := w.mu p ds hp
  refine ⟨vs, ⟨fun a u e => ?_, fun q es e => ?_⟩, .lst upd_same (r.mono (Ex.new gp)), Ex.new gp, fun _ _ h _ => h, fun a h => ?_, fun a h => ?_⟩
  · by_cases h : a = p
    · subst h; rw [upd_same] at e; cases e; exact hv
    · rw [upd_ne h] at e; exact w.ex _ _ e
  · by_cases h : q = p
    · subst h; rw [muDel_same] at e; cases e
    · rw [muDel_ne h] at e
      obtain ⟨h1, ws, h2, h3⟩ := w.mu q es e
      exact ⟨by rw [upd_ne h]; exact h1, ws, h2, h3.mono (Ex.new gp)⟩
  · by_cases e : a = p
    · subst e; rw [muDel_same] at h; exact absurd rfl h
    · rw [muDel_ne e] at h; exact .inl h
  · by_cases e : a = p
    · subst e; exact .inr (.inl (by rw [hp]; simp))
    · rw [upd_ne e] at h; exact .inl h
end

/-! ### readings over data -/
abbrev DK := D → Mu → Prop
abbrev RE := Sl → Mu → DK → Prop
abbrev RT := Sl → Mu → (Bool → Mu → Prop) → Prop
abbrev RA := Sl → Mu → (List D → Mu → Prop) → Prop
structure DEnds where
  nx : Sl → Mu → Prop
  rt : DK
  bk : Sl → Mu → Prop := fun _ _ => False
  ct : Sl → Mu → Prop := fun _ _ => False
abbrev RS := DEnds → Sl → Mu → Prop
/-- a target: the data to be stored -/
abbrev RG := D → Sl → Mu → (Sl → Mu → Prop) → Prop

section
variable (K : PySem.W.Frag)
def OkE (t : TE) (r : RE) : Prop := ∀ (σ : L2.St) (δ : Sl) (μ : Mu) (G H : Hp) (k : DK) (Q : VK), SlOk K G σ δ → Wd K G H μ → r δ μ k →
  (∀ v d μ' G' H', k d μ' → Wd K G' H' μ' → Go μ G H μ' G' H' → Rep K G' v d → Q v H') → t σ H Q
def OkT (t : TT) (r : RT) : Prop := ∀ (σ : L2.St) (δ : Sl) (μ : Mu) (G H : Hp) (k : Bool → Mu → Prop) (Q : Bool → Hp → Prop), SlOk K G σ δ → Wd K G H μ → r δ μ k →
  (∀ b μ' G' H', k b μ' → Wd K G' H' μ' → Go μ G H μ' G' H' → Q b H') → t σ H Q
def OkA (t : TA) (r : RA) : Prop := ∀ (σ : L2.St) (δ : Sl) (μ : Mu) (G H : Hp) (k : List D → Mu → Prop) (Q : List V → Hp → Prop), SlOk K G σ δ → Wd K G H μ → r δ μ k →
  (∀ vs ds μ' G' H', k ds μ' → Wd K G' H' μ' → Go μ G H μ' G' H' → RepL K G' vs ds → Q vs H') → t σ H Q
/-- what is wanted behind a statement -/
structure Back (μ : Mu) (G H : Hp) (DD : DEnds) (D : Ends) : Prop where
  nx : ∀ σ' δ' μ' G' H', DD.nx δ' μ' → SlOk K G' σ' δ' → Wd K G' H' μ' → Go μ G H μ' G' H' → D.nx σ' H'
  bk : ∀ σ' δ' μ' G' H', DD.bk δ' μ' → SlOk K G' σ' δ' → Wd K G' H' μ' → Go μ G H μ' G' H' → D.bk σ' H'
  ct : ∀ σ' δ' μ' G' H', DD.ct δ' μ' → SlOk K G' σ' δ' → Wd K G' H' μ' → Go μ G H μ' G' H' → D.ct σ' H'
  rt : ∀ v d μ' G' H', DD.rt d μ' → Wd K G' H' μ' → Go μ G H μ' G' H' → Rep K G' v d → D.rt v H'
def OkS (t : TS) (r : RS) : Prop := ∀ (σ : L2.St) (δ : Sl) (μ : Mu) (G H : Hp) (DD : DEnds) (D : Ends), SlOk K G σ δ → Wd K G H μ → r DD δ μ → Back K μ G H DD D → t D σ H
/-- js: the slots that are stored -/
def OkG (g : TG) (r : RG) (js : List Nat) : Prop := ∀ (v : V) (d : D) (σ : L2.St) (δ : Sl) (μ : Mu) (G H : Hp) (k : Sl → Mu → Prop) (Q : L2.St → Hp → Prop), SlOk K G σ δ → Wd K G H μ → Rep K G v d → r d δ μ k →
  (∀ σ' δ' μ' G' H', k δ' μ' → SlOk K G' σ' δ' → Wd K G' H' μ' → Go μ G H μ' G' H' → (σ'.length = σ.length ∧ ∀ i, i ∉ js → σ'[i]? = σ[i]?) → Q σ' H') → g v σ H Q
end
theorem Back.go {K : PySem.W.Frag} {μ μ1 : Mu} {G G1 H H1 : Hp} {DD : DEnds} {D : Ends} (b : Back K μ G H DD D) (g : Go μ G H μ1 G1 H1) : Back K μ1 G1 H1 DD D :=
  ⟨fun σ' δ' μ' G' H' h s w x => b.nx σ' δ' μ' G' H' h s w (g.trans x), fun σ' δ' μ' G' H' h s w x => b.bk σ' δ' μ' G' H' h s w (g.trans x),
   fun σ' δ' μ' G' H' h s w x => b.ct σ' δ' μ' G' H' h s w (g.trans x), fun v d μ' G' H' h w x r => b.rt v d μ' G' H' h w (g.trans x) r⟩

/-! ### the judgements: the rule of HandS and the reading over data -/
structure DE (X : Cx) (e : Expr) (t : TE) (r : RE) : Prop where
  p : PE X e t
  o : OkE X.K t r
structure DT (X : Cx) (e : Expr) (t : TT) (r : RT) : Prop where
  p : PT X e t
  o : OkT X.K t r
structure DW (X : Cx) (e : Expr) (t : TT) (r : RT) : Prop where
  p : PW X e t
  o : OkT X.K t r
structure DA (X : Cx) (es : List Expr) (t : TA) (r : RA) : Prop where
  p : PA X es t
  o : OkA X.K t r
structure DS (X : Cx) (st : Stmt) (t : TS) (r : RS) : Prop where
  p : PS X st t
  o : OkS X.K t r
structure DSs (X : Cx) (st : List Stmt) (t : TS) (r : RS) : Prop where
  p : PSs X st t
  o : OkS X.K t r
structure DG (X : Cx) (tg : Expr) (g : TG) (r : RG) (js : List Nat) : Prop where
  p : PG X tg g
  o : OkG X.K g r js
end DL


set_option Elab.async false
set_option linter.all false
set_option maxRecDepth 100000
set_option maxHeartbeats 4000000
/-! DLb: rules for expressions, tests, arguments over data. -/
namespace DL
open PySem PySem.Spec PyProof.Rows L2 SlX

/-- what is wanted behind a value -/
abbrev Then (K : PySem.W.Frag) (μ : Mu) (G H : Hp) (k : DK) (Q : VK) : Prop := ∀ v d μ' G' H', k d μ' → Wd K G' H' μ' → Go μ G H μ' G' H' → Rep K G' v d → Q v H'
abbrev F2 := D → D → Mu → DK → Prop
abbrev F1 := D → Mu → DK → Prop
abbrev FL := List D → Mu → DK → Prop
section
variable (K : PySem.W.Frag)
def OkOp (r : R2) (f : F2) : Prop := ∀ (x y : V) (a b : D) (μ : Mu) (G H : Hp) (k : DK) (Q : VK), Wd K G H μ → Rep K G x a → Rep K G y b → f a b μ k → Then K μ G H k Q → r x y H Q
def OkU (r : V → Hp → VK → Prop) (f : F1) : Prop := ∀ (x : V) (a : D) (μ : Mu) (G H : Hp) (k : DK) (Q : VK), Wd K G H μ → Rep K G x a → f a μ k → Then K μ G H k Q → r x H Q
def OkC (r : List V → Hp → VK → Prop) (f : FL) : Prop := ∀ (xs : List V) (as : List D) (μ : Mu) (G H : Hp) (k : DK) (Q : VK), Wd K G H μ → RepL K G xs as → f as μ k → Then K μ G H k Q → r xs H Q
/-- a method by values: the object, the arguments -/
def OkM (r : V → List V → Hp → VK → Prop) (f : D → List D → Mu → DK → Prop) : Prop :=
  ∀ (x : V) (xs : List V) (a : D) (as : List D) (μ : Mu) (G H : Hp) (k : DK) (Q : VK), Wd K G H μ → Rep K G x a → RepL K G xs as → f a as μ k → Then K μ G H k Q → r x xs H Q
end

/-! ### readings -/
@[simp] def rVar (i : Nat) : RE := fun δ μ k => match δ[i]? with | some (some d) => k d μ | _ => False
@[simp] def rC (d : D) : RE := fun _ μ k => k d μ
@[simp] def rOp (f : F2) (ra rb : RE) : RE := fun δ μ k => ra δ μ fun x μ1 => rb δ μ1 fun y μ2 => f x y μ2 k
@[simp] def rUn (f : F1) (ra : RE) : RE := fun δ μ k => ra δ μ fun x μ1 => f x μ1 k
@[simp] def rIf (rt : RT) (ra rb : RE) : RE := fun δ μ k => rt δ μ fun b μ1 => if b = true then ra δ μ1 k else rb δ μ1 k
@[simp] def asB (d : D) (k : Bool → Prop) : Prop := match d with | .bl b => k b | _ => False
@[simp] def rAndV (ra rb : RE) : RE := fun δ μ k => ra δ μ fun x μ1 => asB x fun c => if c = true then rb δ μ1 k else k (.bl false) μ1
@[simp] def rOrV (ra rb : RE) : RE := fun δ μ k => ra δ μ fun x μ1 => asB x fun c => if c = true then k (.bl true) μ1 else rb δ μ1 k
@[simp] def rNotV (ra : RE) : RE := fun δ μ k => ra δ μ fun x μ1 => asB x fun c => k (.bl (!c)) μ1
@[simp] def rB (ra : RE) : RT := fun δ μ k => ra δ μ fun x μ1 => asB x fun c => k c μ1
@[simp] def rAnd (ra rb : RT) : RT := fun δ μ k => ra δ μ fun c μ1 => if c = true then rb δ μ1 k else k false μ1
@[simp] def rOr (ra rb : RT) : RT := fun δ μ k => ra δ μ fun c μ1 => if c = true then k true μ1 else rb δ μ1 k
@[simp] def rNot (ra : RT) : RT := fun δ μ k => ra δ μ fun c μ1 => k (!c) μ1
@[simp] def rChain (f f' : F2) (ra rb rc : RE) : RE := fun δ μ k => ra δ μ fun x μ1 => rb δ μ1 fun y μ2 => f x y μ2 fun z μ3 => asB z fun c => if c = true then rc δ μ3 (fun w μ4 => f' y w μ4 k) else k (.bl false) μ3
@[simp] def rNil : RA := fun _ μ k => k [] μ
@[simp] def rCons (ra : RE) (rr : RA) : RA := fun δ μ k => ra δ μ fun x μ1 => rr δ μ1 fun xs μ2 => k (x :: xs) μ2
@[simp] def rTup (ra : RA) : RE := fun δ μ k => ra δ μ fun xs μ1 => xs.length ≤ 1000000 ∧ k (.tup xs) μ1
@[simp] def rLst (ra : RA) : RE := fun δ μ k => ra δ μ fun xs μ1 => xs.length ≤ 1000000 ∧ k (.lst xs) μ1
/-- a new list that will change -/
@[simp] def rLstO (ra : RA) : RE := fun δ μ k => ra δ μ fun xs μ1 => xs.length ≤ 1000000 ∧ ∀ p, μ1 p = none → k (.own p) (muSet μ1 p xs)
@[simp] def rCB (f : FL) (ra : RA) : RE := fun δ μ k => ra δ μ fun xs μ1 => f xs μ1 k
@[simp] def rBM (f : D → List D → Mu → DK → Prop) (ro : RE) (ra : RA) : RE := fun δ μ k => ro δ μ fun x μ1 => ra δ μ1 fun xs μ2 => f x xs μ2 k
def RO := Sl → Mu → (Option Int → Mu → Prop) → Prop
@[simp] def rNo : RO := fun _ μ k => k none μ
@[simp] def rPart (ra : RE) : RO := fun δ μ k => ra δ μ fun x μ1 => match x with | .int i => k (some i) μ1 | _ => False
@[simp] def rSlc (f : D → Option Int → Option Int → Mu → DK → Prop) (ra : RE) (rl rh : RO) : RE := fun δ μ k => ra δ μ fun x μ1 => rl δ μ1 fun l μ2 => rh δ μ2 fun u μ3 => f x l u μ3 k

section
variable {K : PySem.W.Frag} {ta tb tc : TE} {ra rb rc : RE} {t u : TT} {s s' : RT}
theorem okE_var (i : Nat) : OkE K (tVar i) (rVar i) := fun σ δ μ G H k Q S w q b => by
  unfold rVar at q
  split at q
  · rename_i d e
    obtain ⟨v, h1, h2⟩ := S.at_ i d e
    exact ⟨v, h1, b v d μ G H q w (Go.refl _ _ _) h2⟩
  · exact q.elim
theorem okE_C {v : V} {d : D} (h : ∀ G, Rep K G v d) : OkE K (tC v) (rC d) := fun σ δ μ G H k Q S w q b => b v d μ G H q w (Go.refl _ _ _) (h G)
theorem okE_op {r : R2} {f : F2} (h : OkOp K r f) (ha : OkE K ta ra) (hb : OkE K tb rb) : OkE K (tOp r ta tb) (rOp f ra rb) := fun σ δ μ G H k Q S w q b =>
  ha σ δ μ G H _ _ S w q fun x dx μ1 G1 H1 q1 w1 g1 r1 => hb σ δ μ1 G1 H1 _ _ (S.mono g1.eg) w1 q1 fun y dy μ2 G2 H2 q2 w2 g2 r2 =>
  h x y dx dy μ2 G2 H2 k Q w2 (r1.mono g2.eg) r2 q2 fun v d μ' G' H' qk w' g' r' => b v d μ' G' H' qk w' ((g1.trans g2).trans g') r'
theorem okE_un {r : V → Hp → VK → Prop} {f : F1} (h : OkU K r f) (ha : OkE K ta ra) : OkE K (tUn r ta) (rUn f ra) := fun σ δ μ G H k Q S w q b =>
  ha σ δ μ G H _ _ S w q fun x dx μ1 G1 H1 q1 w1 g1 r1 => h x dx μ1 G1 H1 k Q w1 r1 q1 fun v d μ' G' H' qk w' g' r' => b v d μ' G' H' qk w' (g1.trans g') r'
theorem okE_if (h : OkT K t s) (ha : OkE K ta ra) (hb : OkE K tb rb) : OkE K (tIf t ta tb) (rIf s ra rb) := fun σ δ μ G H k Q S w q b =>
  h σ δ μ G H _ _ S w q fun c μ1 G1 H1 q1 w1 g1 => by
    cases c with
    | true => exact ha σ δ μ1 G1 H1 k Q (S.mono g1.eg) w1 q1 fun v d μ' G' H' qk w' g' r' => b v d μ' G' H' qk w' (g1.trans g') r'
    | false => exact hb σ δ μ1 G1 H1 k Q (S.mono g1.eg) w1 q1 fun v d μ' G' H' qk w' g' r' => b v d μ' G' H' qk w' (g1.trans g') r'
theorem asB_out {G : Hp} {v : V} {d : D} {k : Bool → Prop} (r : Rep K G v d) (h : asB d k) : ∃ c, v = .bl c ∧ k c := by
  cases r with
  | bl c => exact ⟨c, rfl, h⟩
  | _ => exact h.elim
theorem okE_andV (ha : OkE K ta ra) (hb : OkE K tb rb) : OkE K (tAndV ta tb) (rAndV ra rb) := fun σ δ μ G H k Q S w q b =>
  ha σ δ μ G H _ _ S w q fun x dx μ1 G1 H1 q1 w1 g1 r1 => by
    obtain ⟨c, rfl, q2⟩ := asB_out r1 q1
    refine ⟨c, rfl, ?_⟩
    cases c with
    | true => exact hb σ δ μ1 G1 H1 k Q (S.mono g1.eg) w1 q2 fun v d μ' G' H' qk w' g' r' => b v d μ' G' H' qk w' (g1.trans g') r'
    | false => exact b _ _ μ1 G1 H1 q2 w1 g1 (.bl false)
theorem okE_orV (ha : OkE K ta ra) (hb : OkE K tb rb) : OkE K (tOrV ta tb) (rOrV ra rb) := fun σ δ μ G H k Q S w q b =>
  ha σ δ μ G H _ _ S w q fun x dx μ1 G1 H1 q1 w1 g1 r1 => by
    obtain ⟨c, rfl, q2⟩ := asB_out r1 q1
    refine ⟨c, rfl, ?_⟩
    cases c with
    | true => exact b _ _ μ1 G1 H1 q2 w1 g1 (.bl true)
    | false => exact hb σ δ μ1 G1 H1 k Q (S.mono g1.eg) w1 q2 fun v d μ' G' H' qk w' g' r' => b v d μ' G' H' qk w' (g1.trans g') r'
theorem okE_notV (ha : OkE K ta ra) : OkE K (tNotV ta) (rNotV ra) := fun σ δ μ G H k Q S w q b =>
  ha σ δ μ G H _ _ S w q fun x dx μ1 G1 H1 q1 w1 g1 r1 => by
    obtain ⟨c, rfl, q2⟩ := asB_out r1 q1
    exact ⟨c, rfl, b _ _ μ1 G1 H1 q2 w1 g1 (.bl _)⟩
theorem okT_B (ha : OkE K ta ra) : OkT K (tB ta) (rB ra) := fun σ δ μ G H k Q S w q b =>
  ha σ δ μ G H _ _ S w q fun x dx μ1 G1 H1 q1 w1 g1 r1 => by
    obtain ⟨c, rfl, q2⟩ := asB_out r1 q1
    exact ⟨c, rfl, b c μ1 G1 H1 q2 w1 g1⟩
theorem okT_test (ha : OkE K ta ra) : OkT K (tTest ta) (rB ra) := fun σ δ μ G H k Q S w q b =>
  ha σ δ μ G H _ _ S w q fun x dx μ1 G1 H1 q1 w1 g1 r1 => by
    obtain ⟨c, rfl, q2⟩ := asB_out r1 q1
    exact ⟨c, rfl, b c μ1 G1 H1 q2 w1 g1⟩
theorem okT_and (ha : OkT K t s) (hb : OkT K u s') : OkT K (tAnd t u) (rAnd s s') := fun σ δ μ G H k Q S w q b =>
  ha σ δ μ G H _ _ S w q fun c μ1 G1 H1 q1 w1 g1 => by
    cases c with
    | true => exact hb σ δ μ1 G1 H1 k Q (S.mono g1.eg) w1 q1 fun v μ' G' H' qk w' g' => b v μ' G' H' qk w' (g1.trans g')
    | false => exact b false μ1 G1 H1 q1 w1 g1
theorem okT_or (ha : OkT K t s) (hb : OkT K u s') : OkT K (tOr t u) (rOr s s') := fun σ δ μ G H k Q S w q b =>
  ha σ δ μ G H _ _ S w q fun c μ1 G1 H1 q1 w1 g1 => by
    cases c with
    | true => exact b true μ1 G1 H1 q1 w1 g1
    | false => exact hb σ δ μ1 G1 H1 k Q (S.mono g1.eg) w1 q1 fun v μ' G' H' qk w' g' => b v μ' G' H' qk w' (g1.trans g')
theorem okT_not (ha : OkT K t s) : OkT K (tNot t) (rNot s) := fun σ δ μ G H k Q S w q b =>
  ha σ δ μ G H _ _ S w q fun c μ1 G1 H1 q1 w1 g1 => b (!c) μ1 G1 H1 q1 w1 g1
theorem okE_chain {r r2 : R2} {f f2 : F2} (h : OkOp K r f) (h2 : OkOp K r2 f2) (ha : OkE K ta ra) (hb : OkE K tb rb) (hc : OkE K tc rc) : OkE K (tChain r r2 ta tb tc) (rChain f f2 ra rb rc) := by
  intro σ δ μ G H k Q S w q b
  refine ha σ δ μ G H _ _ S w q fun x dx μ1 G1 H1 q1 w1 g1 r1 => ?_
  refine hb σ δ μ1 G1 H1 _ _ (S.mono g1.eg) w1 q1 fun y dy μ2 G2 H2 q2 w2 g2 r2 => ?_
  refine h x y dx dy μ2 G2 H2 _ _ w2 (r1.mono g2.eg) r2 q2 fun z dz μ3 G3 H3 q3 w3 g3 r3 => ?_
  obtain ⟨c, rfl, q4⟩ := asB_out r3 q3
  refine ⟨c, rfl, ?_⟩
  cases c with
  | true =>
    refine hc σ δ μ3 G3 H3 _ _ (S.mono (g1.eg.trans (g2.eg.trans g3.eg))) w3 q4 fun z2 d2 μ4 G4 H4 q5 w4 g4 r4 => ?_
    exact h2 y z2 dy d2 μ4 G4 H4 k Q w4 (r2.mono (g3.eg.trans g4.eg)) r4 q5 fun v d μ' G' H' qk w' g' r' => b v d μ' G' H' qk w' ((g1.trans g2).trans ((g3.trans g4).trans g')) r'
  | false => exact b _ _ μ3 G3 H3 q4 w3 ((g1.trans g2).trans g3) (.bl false)
theorem okA_nil : OkA K tNil rNil := fun σ δ μ G H k Q S w q b => b [] [] μ G H q w (Go.refl _ _ _) .nil
theorem okA_cons {tr : TA} {rr : RA} (ha : OkE K ta ra) (hr : OkA K tr rr) : OkA K (tCons ta tr) (rCons ra rr) := fun σ δ μ G H k Q S w q b =>
  ha σ δ μ G H _ _ S w q fun x dx μ1 G1 H1 q1 w1 g1 r1 => hr σ δ μ1 G1 H1 _ _ (S.mono g1.eg) w1 q1 fun xs ds μ2 G2 H2 q2 w2 g2 r2 =>
  b (x :: xs) (dx :: ds) μ2 G2 H2 q2 w2 (g1.trans g2) (.cons (r1.mono g2.eg) r2)
theorem sz_of {n : Nat} (h : n ≤ 1000000) : n ≤ sizeLine := Nat.le_trans h (by decide)
theorem sz_lt {n : Nat} (h : n < 1000000) : n < sizeLine := Nat.lt_of_lt_of_le h (by decide)
theorem mkTup {μ : Mu} {G H : Hp} {k : DK} {Q : VK} {xs : List V} {ds : List D} (w : Wd K G H μ) (r : RepL K G xs ds) (q : k (.tup ds) μ) (b : Then K μ G H k Q) (p : Addr) (hp : H p = none) : Q (.ref p) (upd H p (.tup xs)) :=
  b _ _ μ (upd G p (.tup xs)) _ q (w.new hp) (Go.new w hp) (.tup (SqT.of upd_same) (r.mono (Ex.new (w.gnone hp))))
theorem mkLst {μ : Mu} {G H : Hp} {k : DK} {Q : VK} {xs : List V} {ds : List D} (w : Wd K G H μ) (r : RepL K G xs ds) (q : k (.lst ds) μ) (b : Then K μ G H k Q) (p : Addr) (hp : H p = none) : Q (.ref p) (upd H p (.lst xs)) :=
  b _ _ μ (upd G p (.lst xs)) _ q (w.new hp) (Go.new w hp) (.lst upd_same (r.mono (Ex.new (w.gnone hp))))
theorem mkOwn {μ : Mu} {G H : Hp} {k : DK} {Q : VK} {xs : List V} {ds : List D} (w : Wd K G H μ) (r : RepL K G xs ds) (q : ∀ p, μ p = none → k (.own p) (muSet μ p ds)) (b : Then K μ G H k Q) (p : Addr) (hp : H p = none) : Q (.ref p) (upd H p (.lst xs)) :=
  b _ _ (muSet μ p ds) G _ (q p (w.mnone hp)) (w.newO hp r) (Go.newO w hp) (.own p)
theorem okE_tup {tt : TA} {rr : RA} (h : OkA K tt rr) : OkE K (tTup tt) (rTup rr) := fun σ δ μ G H k Q S w q b =>
  h σ δ μ G H _ _ S w q fun xs ds μ1 G1 H1 ⟨q0, q1⟩ w1 g1 r1 => ⟨sz_of (by rw [r1.length]; exact q0), fun p hp => mkTup w1 r1 q1 (fun v d μ' G' H' qk w' g' r' => b v d μ' G' H' qk w' (g1.trans g') r') p hp⟩
theorem okE_lst {tt : TA} {rr : RA} (h : OkA K tt rr) : OkE K (tLst tt) (rLst rr) := fun σ δ μ G H k Q S w q b =>
  h σ δ μ G H _ _ S w q fun xs ds μ1 G1 H1 ⟨q0, q1⟩ w1 g1 r1 => ⟨sz_of (by rw [r1.length]; exact q0), fun p hp => mkLst w1 r1 q1 (fun v d μ' G' H' qk w' g' r' => b v d μ' G' H' qk w' (g1.trans g') r') p hp⟩
theorem okE_lstO {tt : TA} {rr : RA} (h : OkA K tt rr) : OkE K (tLst tt) (rLstO rr) := fun σ δ μ G H k Q S w q b =>
  h σ δ μ G H _ _ S w q fun xs ds μ1 G1 H1 ⟨q0, q1⟩ w1 g1 r1 => ⟨sz_of (by rw [r1.length]; exact q0), fun p hp => mkOwn w1 r1 q1 (fun v d μ' G' H' qk w' g' r' => b v d μ' G' H' qk w' (g1.trans g') r') p hp⟩
theorem okE_CB {r : List V → Hp → VK → Prop} {f : FL} {tt : TA} {rr : RA} (hc : OkC K r f) (h : OkA K tt rr) : OkE K (tCB r tt) (rCB f rr) := fun σ δ μ G H k Q S w q b =>
  h σ δ μ G H _ _ S w q fun xs ds μ1 G1 H1 q1 w1 g1 r1 => hc xs ds μ1 G1 H1 k Q w1 r1 q1 fun v d μ' G' H' qk w' g' r' => b v d μ' G' H' qk w' (g1.trans g') r'
def OkO (K : PySem.W.Frag) (t : TO) (r : RO) : Prop := ∀ (σ : L2.St) (δ : Sl) (μ : Mu) (G H : Hp) (k : Option Int → Mu → Prop) (Q : Option Int → Hp → Prop), SlOk K G σ δ → Wd K G H μ → r δ μ k →
  (∀ o μ' G' H', k o μ' → Wd K G' H' μ' → Go μ G H μ' G' H' → Q o H') → t σ H Q
theorem okO_no : OkO K tNoPart rNo := fun σ δ μ G H k Q S w q b => b none μ G H q w (Go.refl _ _ _)
theorem okO_part (ha : OkE K ta ra) : OkO K (tPart ta) (rPart ra) := fun σ δ μ G H k Q S w q b =>
  ha σ δ μ G H _ _ S w q fun x dx μ1 G1 H1 q1 w1 g1 r1 => by
    cases r1 with
    | int i => exact ⟨i, rfl, b _ μ1 G1 H1 q1 w1 g1⟩
    | _ => exact q1.elim
def OkSl (K : PySem.W.Frag) (r : V → Option Int → Option Int → Hp → VK → Prop) (f : D → Option Int → Option Int → Mu → DK → Prop) : Prop :=
  ∀ (x : V) (a : D) (l u : Option Int) (μ : Mu) (G H : Hp) (k : DK) (Q : VK), Wd K G H μ → Rep K G x a → f a l u μ k → Then K μ G H k Q → r x l u H Q
theorem okE_slc {r : V → Option Int → Option Int → Hp → VK → Prop} {f : D → Option Int → Option Int → Mu → DK → Prop} {tl th : TO} {rl rh : RO} (h : OkSl K r f) (ha : OkE K ta ra) (hl : OkO K tl rl) (hh : OkO K th rh) : OkE K (L2.tSl r ta tl th) (rSlc f ra rl rh) := fun σ δ μ G H k Q S w q b =>
  ha σ δ μ G H _ _ S w q fun x dx μ1 G1 H1 q1 w1 g1 r1 => hl σ δ μ1 G1 H1 _ _ (S.mono g1.eg) w1 q1 fun l μ2 G2 H2 q2 w2 g2 =>
  hh σ δ μ2 G2 H2 _ _ (S.mono (g1.eg.trans g2.eg)) w2 q2 fun u μ3 G3 H3 q3 w3 g3 =>
  h x dx l u μ3 G3 H3 k Q w3 (r1.mono (g2.eg.trans g3.eg)) q3 fun v d μ' G' H' qk w' g' r' => b v d μ' G' H' qk w' ((g1.trans (g2.trans g3)).trans g') r'
end

/-! ### operators -/
section
variable {K : PySem.W.Frag}
/-- two ints to an int -/
@[simp] def oI (g : Int → Int → Int) : F2 := fun x y μ k => match x, y with | .int i, .int j => k (.int (g i j)) μ | _, _ => False
@[simp] def oIc (C : Int → Int → Prop) (g : Int → Int → Int) : F2 := fun x y μ k => match x, y with | .int i, .int j => C i j ∧ k (.int (g i j)) μ | _, _ => False
@[simp] def oB (g : Int → Int → Bool) : F2 := fun x y μ k => match x, y with | .int i, .int j => k (.bl (g i j)) μ | _, _ => False
theorem okI {g : Int → Int → Int} : OkOp K (rI0 fun i j => .int (g i j)) (oI g) := fun x y a b μ G H k Q w rx ry q t => by
  cases rx with
  | int i =>
    cases ry with
    | int j => exact ⟨i, j, rfl, rfl, t _ _ μ G H q w (Go.refl _ _ _) (.int _)⟩
    | _ => exact q.elim
  | _ => exact q.elim
theorem okIc {C : Int → Int → Prop} {g : Int → Int → Int} : OkOp K (rI C fun i j => .int (g i j)) (oIc C g) := fun x y a b μ G H k Q w rx ry q t => by
  cases rx with
  | int i =>
    cases ry with
    | int j => exact ⟨i, j, rfl, rfl, q.1, t _ _ μ G H q.2 w (Go.refl _ _ _) (.int _)⟩
    | _ => exact q.elim
  | _ => exact q.elim
theorem okB {g : Int → Int → Bool} : OkOp K (rI0 fun i j => .bl (g i j)) (oB g) := fun x y a b μ G H k Q w rx ry q t => by
  cases rx with
  | int i =>
    cases ry with
    | int j => exact ⟨i, j, rfl, rfl, t _ _ μ G H q w (Go.refl _ _ _) (.bl _)⟩
    | _ => exact q.elim
  | _ => exact q.elim
@[simp] def oNeg : F1 := fun x μ k => match x with | .int i => k (.int (-i)) μ | _ => False
theorem okNeg : OkU K (rU fun i => .int (-i)) oNeg := fun x a μ G H k Q w rx q t => by
  cases rx with
  | int i => exact ⟨i, rfl, t _ _ μ G H q w (Go.refl _ _ _) (.int _)⟩
  | _ => exact q.elim

/-- a list that is read -/
@[simp] def asL (μ : Mu) : D → Option (List D)
  | .lst ds => some ds
  | .own p => μ p
  | _ => none
theorem asL_out {μ : Mu} {G H : Hp} {v : V} {d : D} {ds : List D} (w : Wd K G H μ) (r : Rep K G v d) (e : asL μ d = some ds) : ∃ a vs, v = .ref a ∧ H a = some (.lst vs) ∧ RepL K G vs ds := by
  cases r with
  | lst h q => cases e; exact ⟨_, _, rfl, w.ex _ _ h, q⟩
  | own p =>
    obtain ⟨_, vs, h, q⟩ := w.mu p ds e
    exact ⟨_, vs, rfl, h, q⟩
  | _ => cases e
/-- a list or a tuple that is read -/
@[simp] def asQ (μ : Mu) : D → Option (List D)
  | .lst ds => some ds
  | .own p => μ p
  | .tup ds => some ds
  | _ => none
theorem asQ_out {μ : Mu} {G H : Hp} {v : V} {d : D} {ds : List D} (w : Wd K G H μ) (r : Rep K G v d) (e : asQ μ d = some ds) : ∃ a vs, v = .ref a ∧ (SqL K H a vs ∨ SqT K H a vs) ∧ RepL K G vs ds := by
  cases r with
  | lst h q => cases e; exact ⟨_, _, rfl, .inl (SqL.of (w.ex _ _ h)), q⟩
  | own p =>
    obtain ⟨_, vs, h, q⟩ := w.mu p ds e
    exact ⟨_, vs, rfl, .inl (SqL.of h), q⟩
  | tup h q => cases e; exact ⟨_, _, rfl, .inr (w.ex.t h), q⟩
  | _ => cases e
@[simp] def oCat : F2 := fun x y μ k => ∃ xs ys, asL μ x = some xs ∧ asL μ y = some ys ∧ xs.length + ys.length ≤ 1000000 ∧ k (.lst (xs ++ ys)) μ
theorem okCat : OkOp K rCat oCat := fun x y a b μ G H k Q w rx ry ⟨xs, ys, e1, e2, hl, q⟩ t => by
  obtain ⟨p, vs, rfl, h1, r1⟩ := asL_out w rx e1
  obtain ⟨p', vs', rfl, h2, r2⟩ := asL_out w ry e2
  exact ⟨p, p', vs, vs', rfl, rfl, h1, h2, sz_of (by rw [r1.length, r2.length]; exact hl), fun l hl => mkLst w (r1.append r2) q t l hl⟩
@[simp] def oCatO : F2 := fun x y μ k => ∃ xs ys, asL μ x = some xs ∧ asL μ y = some ys ∧ xs.length + ys.length ≤ 1000000 ∧ ∀ p, μ p = none → k (.own p) (muSet μ p (xs ++ ys))
theorem okCatO : OkOp K rCat oCatO := fun x y a b μ G H k Q w rx ry ⟨xs, ys, e1, e2, hl, q⟩ t => by
  obtain ⟨p, vs, rfl, h1, r1⟩ := asL_out w rx e1
  obtain ⟨p', vs', rfl, h2, r2⟩ := asL_out w ry e2
  exact ⟨p, p', vs, vs', rfl, rfl, h1, h2, sz_of (by rw [r1.length, r2.length]; exact hl), fun l hl => mkOwn w (r1.append r2) q t l hl⟩
/-- tuples -/
@[simp] def oCatT : F2 := fun x y μ k => match x, y with | .tup xs, .tup ys => xs.length + ys.length ≤ 1000000 ∧ k (.tup (xs ++ ys)) μ | _, _ => False
theorem okCatT : OkOp K (rCatA K) oCatT := fun x y a b μ G H k Q w rx ry q t => by
  cases rx with
  | tup h1 r1 =>
    cases ry with
    | tup h2 r2 =>
      obtain ⟨hl, q⟩ := q
      refine ⟨_, _, _, _, rfl, rfl, w.ex.t h1, w.ex.t h2, sz_of (by rw [r1.length, r2.length]; exact hl), fun z => ?_, fun z1 z2 => ?_, fun z1 z2 p hp => mkTup w (r1.append r2) q t p hp⟩
      · subst z
        cases r1
        exact t _ _ μ G H q w (Go.refl _ _ _) (.tup h2 r2)
      · subst z2
        cases r2
        rw [List.append_nil] at q
        exact t _ _ μ G H q w (Go.refl _ _ _) (.tup h1 r1)
    | _ => exact q.elim
  | _ => exact q.elim
@[simp] def oCatS : F2 := fun x y μ k => match x, y with | .str a, .str b => a.length + b.length ≤ 1000000 ∧ k (.str (a ++ b)) μ | _, _ => False
theorem okCatS : OkOp K (fun x y H Q => ∃ i j, x = .str i ∧ y = .str j ∧ i.length + j.length ≤ sizeLine ∧ Q (.str (i ++ j)) H) oCatS := fun x y a b μ G H k Q w rx ry q t => by
  cases rx with
  | str i =>
    cases ry with
    | str j => exact ⟨i, j, rfl, rfl, sz_of q.1, t _ _ μ G H q.2 w (Go.refl _ _ _) (.str _)⟩
    | _ => exact q.elim
  | _ => exact q.elim
theorem RepL.flat {G : Hp} {xs : List V} {ds : List D} (r : RepL K G xs ds) : ∀ n : Nat, RepL K G (List.replicate n xs).flatten (List.replicate n ds).flatten
  | 0 => .nil
  | n + 1 => by rw [List.replicate_succ, List.replicate_succ, List.flatten_cons, List.flatten_cons]; exact r.append (RepL.flat r n)
@[simp] def oRep : F2 := fun x y μ k => ∃ xs, asL μ x = some xs ∧ ∃ j, y = .int j ∧ xs.length ≤ 1000 ∧ j ≤ 1000 ∧ -1000 ≤ j ∧ k (.lst (List.replicate j.toNat xs).flatten) μ
theorem okRep : OkOp K rRep oRep := fun x y a b μ G H k Q w rx ry ⟨xs, e1, j, e2, hl, h1, h0, q⟩ t => by
  obtain ⟨p, vs, rfl, hp, r1⟩ := asL_out w rx e1
  subst e2
  cases ry
  refine ⟨p, j, vs, rfl, rfl, hp, by omega, by omega, ?_, fun l hl => mkLst w (r1.flat _) q t l hl⟩
  rw [r1.length]
  exact Nat.le_trans (Nat.mul_le_mul hl (show j.toNat ≤ 1000 by omega)) (by decide)

/-! ### equality -/
mutual
def toPy : D → Option PyData
  | .non => some .none
  | .bl b => some (.bool b)
  | .int i => some (.int i)
  | .str x => some (.str x)
  | .tup ds => match toPyL ds with | some xs => some (.tuple xs) | none => none
  | .lst ds => match toPyL ds with | some xs => some (.list xs) | none => none
  | .own _ => none
  | .obj _ _ => none
  | .scr _ => none
def toPyL : List D → Option (List PyData)
  | [] => some []
  | d :: ds => match toPy d, toPyL ds with
    | some x, some xs => some (x :: xs)
    | _, _ => none
end
mutual
theorem toPy_dp {G : Hp} : ∀ {d : D} {v : V} {x : PyData}, Rep K G v d → toPy d = some x → Dp K G v x
  | _, _, _, .non, e => by unfold toPy at e; cases e; exact .non
  | _, _, _, .bl b, e => by unfold toPy at e; cases e; exact .bl b
  | _, _, _, .int i, e => by unfold toPy at e; cases e; exact .int i
  | _, _, _, .str s, e => by unfold toPy at e; cases e; exact .str s
  | _, _, _, .tup h r, e => by
    unfold toPy at e
    split at e
    · rename_i xs q
      cases e
      exact .tup h (toPyL_dp r q)
    · cases e
  | _, _, _, .lst h r, e => by
    unfold toPy at e
    split at e
    · rename_i xs q
      cases e
      exact .lst (SqL.of h) (toPyL_dp r q)
    · cases e
  | _, _, _, .own p, e => by unfold toPy at e; cases e
  | _, _, _, .obj h r, e => by unfold toPy at e; cases e
  | _, _, _, .scr h, e => by unfold toPy at e; cases e
theorem toPyL_dp {G : Hp} : ∀ {ds : List D} {vs : List V} {xs : List PyData}, RepL K G vs ds → toPyL ds = some xs → DpAll K G vs xs
  | _, _, _, .nil, e => by unfold toPyL at e; cases e; exact .nil
  | _, _, _, .cons h t, e => by
    unfold toPyL at e
    split at e
    · rename_i x xs q1 q2
      cases e
      exact .cons (toPy_dp h q1) (toPyL_dp t q2)
    · cases e
end
mutual
theorem dp_mono {H H' : Hp} (e : Ex H H') : ∀ {x : PyData} {v : V}, Dp K H v x → Dp K H' v x
  | _, _, .non => .non
  | _, _, .bl b => .bl b
  | _, _, .int i => .int i
  | _, _, .str s => .str s
  | _, _, .lst h r => .lst (e.l h) (dpAll_mono e r)
  | _, _, .tup h r => .tup (e.t h) (dpAll_mono e r)
theorem dpAll_mono {H H' : Hp} (e : Ex H H') : ∀ {xs : List PyData} {vs : List V}, DpAll K H vs xs → DpAll K H' vs xs
  | _, _, .nil => .nil
  | _, _, .cons h t => .cons (dp_mono e h) (dpAll_mono e t)
end
/-- data as it is compared: an own list by what it holds -/
def asPy (μ : Mu) (d : D) : Option PyData := match d with
  | .own p => match μ p with
    | some ds => match toPyL ds with | some xs => some (.list xs) | none => none
    | none => none
  | d => toPy d
theorem asPy_out {μ : Mu} {G H : Hp} {v : V} {d : D} {x : PyData} (w : Wd K G H μ) (r : Rep K G v d) (e : asPy μ d = some x) : Dp K H v x := by
  cases r with
  | own p =>
    unfold asPy at e
    simp only at e
    split at e
    · rename_i ds q
      split at e
      · rename_i xs q2
        cases e
        obtain ⟨_, vs, h, rr⟩ := w.mu p ds q
        exact .lst (SqL.of h) (dpAll_mono w.ex (toPyL_dp rr q2))
      · cases e
    · cases e
  | non => exact dp_mono w.ex (toPy_dp .non e)
  | bl b => exact dp_mono w.ex (toPy_dp (.bl b) e)
  | int b => exact dp_mono w.ex (toPy_dp (.int b) e)
  | str b => exact dp_mono w.ex (toPy_dp (.str b) e)
  | tup h r => exact dp_mono w.ex (toPy_dp (.tup h r) e)
  | lst h r => exact dp_mono w.ex (toPy_dp (.lst h r) e)
  | obj h r => exact dp_mono w.ex (toPy_dp (.obj h r) e)
  | scr h => exact dp_mono w.ex (toPy_dp (.scr h) e)
set_option checkBinderAnnotations false in
/-- the continuation stands where simp does not go -/
def hEq (x y : D) (μ : Mu) [k : DK] : Prop := ∃ a b, asPy μ x = some a ∧ asPy μ y = some b ∧ SeqAt.shaped a = true ∧ SeqAt.shaped b = true ∧ k (.bl (PyData.eqv a b)) μ
set_option checkBinderAnnotations false in
def hNe (x y : D) (μ : Mu) [k : DK] : Prop := ∃ a b, asPy μ x = some a ∧ asPy μ y = some b ∧ SeqAt.shaped a = true ∧ SeqAt.shaped b = true ∧ k (.bl (!PyData.eqv a b)) μ
@[simp] def oEq : F2 := fun x y μ k => @hEq x y μ k
@[simp] def oNe : F2 := fun x y μ k => @hNe x y μ k
theorem okEq : OkOp K (rEqD K) oEq := fun x y a b μ G H k Q w rx ry ⟨d, e, h1, h2, s1, s2, q⟩ t => ⟨d, e, asPy_out w rx h1, asPy_out w ry h2, s1, s2, t _ _ μ G H q w (Go.refl _ _ _) (.bl _)⟩
theorem okNe : OkOp K (rNeD K) oNe := fun x y a b μ G H k Q w rx ry ⟨d, e, h1, h2, s1, s2, q⟩ t => ⟨d, e, asPy_out w rx h1, asPy_out w ry h2, s1, s2, t _ _ μ G H q w (Go.refl _ _ _) (.bl _)⟩

/-! ### items, slices -/
/-- xs[i], t[i] -/
@[simp] def oIx : F2 := fun x y μ k => ∃ xs d, asQ μ x = some xs ∧ (∃ i, y = .int i ∧ atI xs i = some d) ∧ k d μ
theorem atI_rep {G : Hp} {vs : List V} {ds : List D} {i : Int} {d : D} (r : RepL K G vs ds) (e : atI ds i = some d) : ∃ v, atI vs i = some v ∧ Rep K G v d := by
  unfold atI at e ⊢
  rw [r.length]
  cases q : ixN ds.length i with
  | none => rw [q] at e; cases e
  | some j =>
    rw [q] at e
    exact r.getD' e
theorem okIx : OkOp K (rIx K) oIx := fun x y a b μ G H k Q w rx ry ⟨xs, d, e1, ⟨i, e2, e3⟩, q⟩ t => by
  subst e2
  cases ry
  obtain ⟨p, vs, rfl, hs, r⟩ := asQ_out w rx e1
  obtain ⟨v, h1, h2⟩ := atI_rep r e3
  rcases hs with hs | hs
  · exact .inl ⟨p, vs, i, v, rfl, rfl, hs, h1, t _ _ μ G H q w (Go.refl _ _ _) h2⟩
  · exact .inr (.inl ⟨p, vs, i, v, rfl, rfl, hs, h1, t _ _ μ G H q w (Go.refl _ _ _) h2⟩)
/-- the law's list -/
@[simp] def oIxS : F2 := fun x y μ k => match x, y with | .scr ns, .int i => ∃ n, atI ns i = some n ∧ k (.int n) μ | _, _ => False
theorem okIxS : OkOp K (rIxL K) oIxS := fun x y a b μ G H k Q w rx ry q t => by
  cases rx with
  | scr h =>
    cases ry with
    | int i =>
      obtain ⟨n, e, q⟩ := q
      refine ⟨_, _, i, .int n, rfl, rfl, w.ex.l h, ?_, t _ _ μ G H q w (Go.refl _ _ _) (.int n)⟩
      unfold atI at e ⊢
      rw [List.length_map]
      cases z : ixN _ i with
      | none => rw [z] at e; cases e
      | some j =>
        rw [z] at e
        show (List.map V.int _)[j]? = some (V.int n)
        have e2 : _ = some n := e
        simp only [Option.bind_some] at e2
        rw [List.getElem?_map, e2]
        rfl
    | _ => exact q.elim
  | _ => exact q.elim
def cutD (xs : List D) (lo hi : Option Int) : List D := (xs.drop (HT.sIx xs.length 0 lo)).take (HT.sIx xs.length xs.length hi - HT.sIx xs.length 0 lo)
theorem cut_rep {G : Hp} {vs : List V} {ds : List D} (r : RepL K G vs ds) (lo hi : Option Int) : RepL K G (cutV vs lo hi) (cutD ds lo hi) := by
  unfold cutV cutD
  rw [r.length]
  exact RepL.take _ (RepL.drop _ r)
@[simp] def oSlL : D → Option Int → Option Int → Mu → DK → Prop := fun x lo hi μ k => ∃ xs, asL μ x = some xs ∧ k (.lst (cutD xs lo hi)) μ
theorem okSlL : OkSl K (rSlL K) oSlL := fun x a lo hi μ G H k Q w rx ⟨xs, e, q⟩ t => by
  obtain ⟨p, vs, rfl, h, r⟩ := asL_out w rx e
  exact ⟨p, vs, rfl, SqL.of h, fun l hl => mkLst w (cut_rep r lo hi) q t l hl⟩
@[simp] def oSlT : D → Option Int → Option Int → Mu → DK → Prop := fun x lo hi μ k => match x with | .tup xs => k (.tup (cutD xs lo hi)) μ | _ => False
theorem okSlT : OkSl K (rSlA K) oSlT := fun x a lo hi μ G H k Q w rx q t => by
  cases rx with
  | @tup p0 vs0 ds0 h r =>
    have q : k (.tup (cutD ds0 lo hi)) μ := q
    refine ⟨_, _, rfl, w.ex.t h, fun z => ?_, fun z p hp => mkTup w (cut_rep r lo hi) q t p hp⟩
    have e : cutD ds0 lo hi = ds0 := by
      unfold cutD
      rw [← r.length, z.1, z.2, List.drop_zero, Nat.sub_zero, r.length, List.take_length]
    rw [e] at q
    exact t _ _ μ G H q w (Go.refl _ _ _) (.tup h r)
  | _ => exact q.elim
end
end DL


set_option Elab.async false
set_option linter.all false
set_option maxRecDepth 100000
set_option maxHeartbeats 4000000
/-! DLc: what is walked, comprehensions, statements over data. -/
namespace DL
open PySem PySem.Spec PyProof.Rows L2 SlX

/-- what is walked: n turns, at turn i the data at_ i, as long as ok stands -/
structure DIt where
  n : Nat
  at_ : Nat → Option D
  ok : Mu → Prop
abbrev RI := Sl → Mu → (DIt → Mu → Prop) → Prop
section
variable (K : PySem.W.Frag)
def ItOk (G : Hp) (J : It) (it : DIt) : Prop := ∀ (i : Nat) (μ : Mu) (G1 H1 : Hp), Ex G G1 → Wd K G1 H1 μ → it.ok μ →
  (it.n = i → J.stop i H1) ∧ (i < it.n → J.go i H1 ∧ ∀ x H2, J.yld i H1 x H2 → ∃ d G2, it.at_ i = some d ∧ Wd K G2 H2 μ ∧ Go μ G1 H1 μ G2 H2 ∧ Rep K G2 x d)
def OkI (wi : TI) (ri : RI) : Prop := ∀ (σ : L2.St) (δ : Sl) (μ : Mu) (G H : Hp) (k : DIt → Mu → Prop) (R : It → Hp → Prop), SlOk K G σ δ → Wd K G H μ → ri δ μ k →
  (∀ J it μ' G' H', k it μ' → Wd K G' H' μ' → Go μ G H μ' G' H' → ItOk K G' J it → R J H') → wi σ H R
end
structure DI (X : Cx) (tg e : Expr) (wi : TI) (ri : RI) : Prop where
  p : PI X tg e wi
  o : OkI X.K wi ri
section
variable {K : PySem.W.Frag}
/-- a sequence's walk -/
def itL (ds : List D) : DIt := ⟨ds.length, fun i => ds[i]?, fun _ => True⟩
def itO (p : Addr) (ds : List D) : DIt := ⟨ds.length, fun i => ds[i]?, fun μ => μ p = some ds⟩
@[simp] def itOf (μ : Mu) : D → Option DIt
  | .lst ds => some (itL ds)
  | .own p => match μ p with | some ds => some (itO p ds) | none => none
  | _ => none
theorem itOk_list {G H : Hp} {μ : Mu} {v : V} {d : D} {it : DIt} (w : Wd K G H μ) (r : Rep K G v d) (e : itOf μ d = some it) : ∃ a, v = .ref a ∧ (∃ xs, SqL K H a xs) ∧ ItOk K G (Itl K a) it := by
  cases r with
  | @lst a vs ds h q =>
    cases e
    refine ⟨a, rfl, ⟨vs, SqL.of (w.ex _ _ h)⟩, fun i μ1 G1 H1 e1 w1 _ => ⟨fun hi => ⟨vs, SqL.of (w1.ex _ _ (e1 _ _ h)), by rw [q.length]; exact Nat.le_of_eq hi⟩, fun hi => ?_⟩⟩
    have hv : i < vs.length := by rw [q.length]; exact hi
    have hs : SqL K H1 a vs := SqL.of (w1.ex _ _ (e1 _ _ h))
    refine ⟨⟨vs, vs[i], hs, List.getElem?_eq_getElem hv⟩, fun x H2 ⟨hH, hx⟩ => ?_⟩
    subst hH
    obtain ⟨d, h1, h2⟩ := q.get (hx vs hs)
    exact ⟨d, G1, h1, w1, Go.refl _ _ _, h2.mono e1⟩
  | own p =>
    unfold itOf at e
    simp only at e
    split at e
    · rename_i ds q
      cases e
      obtain ⟨_, vs, h, _⟩ := w.mu p ds q
      refine ⟨p, rfl, ⟨vs, SqL.of h⟩, fun i μ1 G1 H1 e1 w1 ok => ?_⟩
      obtain ⟨_, vs1, h1, r1⟩ := w1.mu p ds ok
      have hs : SqL K H1 p vs1 := SqL.of h1
      refine ⟨fun hi => ⟨vs1, hs, by rw [r1.length]; exact Nat.le_of_eq hi⟩, fun hi => ?_⟩
      have hv : i < vs1.length := by rw [r1.length]; exact hi
      refine ⟨⟨vs1, vs1[i], hs, List.getElem?_eq_getElem hv⟩, fun x H2 ⟨hH, hx⟩ => ?_⟩
      subst hH
      obtain ⟨d, h2, h3⟩ := r1.get (hx vs1 hs)
      exact ⟨d, G1, h2, w1, Go.refl _ _ _, h3⟩
    · cases e
  | _ => cases e
@[simp] def rIL (ra : RE) : RI := fun δ μ k => ra δ μ fun d μ1 => ∃ it, itOf μ1 d = some it ∧ k it μ1
theorem okI_list {tl : TE} {ra : RE} (h : OkE K tl ra) : OkI K (iList K tl) (rIL ra) := fun σ δ μ G H k R S w q b =>
  h σ δ μ G H _ _ S w q fun v d μ1 G1 H1 ⟨it, e, q1⟩ w1 g1 r1 => by
    obtain ⟨a, rfl, hx, ok⟩ := itOk_list w1 r1 e
    exact ⟨a, rfl, hx, b _ it μ1 G1 H1 q1 w1 g1 ok⟩
theorem itOk_tup {G : Hp} {a : Addr} {vs : List V} {ds : List D} (h : SqT K G a vs) (q : RepL K G vs ds) : ItOk K G (Itt K a) (itL ds) := fun i μ1 G1 H1 e1 w1 _ => by
  have hs : SqT K H1 a vs := w1.ex.t (e1.t h)
  refine ⟨fun hi => ⟨vs, hs, by rw [q.length]; exact Nat.le_of_eq hi⟩, fun hi => ?_⟩
  have hv : i < vs.length := by rw [q.length]; exact hi
  refine ⟨⟨vs, vs[i], hs, List.getElem?_eq_getElem hv⟩, fun x H2 ⟨hH, hx⟩ => ?_⟩
  subst hH
  obtain ⟨d, h1, h2⟩ := q.get (hx vs hs)
  exact ⟨d, G1, h1, w1, Go.refl _ _ _, h2.mono e1⟩
@[simp] def rIT (ra : RE) : RI := fun δ μ k => ra δ μ fun d μ1 => match d with | .tup ds => k (itL ds) μ1 | _ => False
theorem okI_tup {tl : TE} {ra : RE} (h : OkE K tl ra) : OkI K (iTup K tl) (rIT ra) := fun σ δ μ G H k R S w q b =>
  h σ δ μ G H _ _ S w q fun v d μ1 G1 H1 q1 w1 g1 r1 => by
    cases r1 with
    | tup hs rr => exact ⟨_, rfl, ⟨_, w1.ex.t hs⟩, b _ _ μ1 G1 H1 q1 w1 g1 (itOk_tup hs rr)⟩
    | _ => exact q1.elim
/-- range -/
def itR (lo : Int) (n : Nat) : DIt := ⟨n, fun i => some (.int (lo + i)), fun _ => True⟩
theorem itOk_range {G : Hp} {lo : Int} {n : Nat} : ItOk K G (Itr lo n) (itR lo n) := fun i μ1 G1 H1 e1 w1 _ =>
  ⟨fun hi => Nat.le_of_eq hi, fun hi => ⟨hi, fun x H2 ⟨hH, hx⟩ => by subst hH; subst hx; exact ⟨_, G1, rfl, w1, Go.refl _ _ _, .int _⟩⟩⟩
@[simp] def rIR1 (ra : RA) : RI := fun δ μ k => ra δ μ fun ds μ1 => match ds with | [.int j] => (-1000000 ≤ j ∧ j ≤ 1000000) ∧ k (itR 0 j.toNat) μ1 | _ => False
theorem okI_range1 {ta : TA} {ra : RA} (h : OkA K ta ra) : OkI K (iRng1 ta) (rIR1 ra) := fun σ δ μ G H k R S w q b =>
  h σ δ μ G H _ _ S w q fun vs ds μ1 G1 H1 q1 w1 g1 r1 => by
    split at q1
    · rename_i j
      cases r1 with
      | cons a t =>
        cases a; cases t
        exact ⟨j, rfl, by omega, by omega, b _ _ μ1 G1 H1 q1.2 w1 g1 itOk_range⟩
    · exact q1.elim
@[simp] def rIR2 (ra : RA) : RI := fun δ μ k => ra δ μ fun ds μ1 => match ds with | [.int i, .int j] => (-1000000 ≤ i ∧ i ≤ 1000000 ∧ -1000000 ≤ j ∧ j ≤ 1000000) ∧ k (itR i (j - i).toNat) μ1 | _ => False
theorem okI_range2 {ta : TA} {ra : RA} (h : OkA K ta ra) : OkI K (iRng2 ta) (rIR2 ra) := fun σ δ μ G H k R S w q b =>
  h σ δ μ G H _ _ S w q fun vs ds μ1 G1 H1 q1 w1 g1 r1 => by
    split at q1
    · rename_i i j
      cases r1 with
      | cons a t =>
        cases a
        cases t with
        | cons a t =>
          cases a; cases t
          exact ⟨i, j, rfl, ⟨by omega, by omega, by omega, by omega⟩, b _ _ μ1 G1 H1 q1.2 w1 g1 itOk_range⟩
    · exact q1.elim
def rIR3 (ra : RA) : RI := fun δ μ k => ra δ μ fun ds μ1 => match ds with | [.int i, .int j, .int c] => ∃ n, RgC i j c n ∧ k ⟨n, fun t => some (.int (i + (t : Nat) * c)), fun _ => True⟩ μ1 | _ => False
theorem okI_range3 {ta : TA} {ra : RA} (h : OkA K ta ra) : OkI K (iRng3 ta) (rIR3 ra) := fun σ δ μ G H k R S w q b =>
  h σ δ μ G H _ _ S w q fun vs ds μ1 G1 H1 q1 w1 g1 r1 => by
    split at q1
    · rename_i i j c
      cases r1 with
      | cons a t =>
        cases a
        cases t with
        | cons a t =>
          cases a
          cases t with
          | cons a t =>
            cases a; cases t
            obtain ⟨n, hn, q2⟩ := q1
            exact ⟨i, j, c, n, rfl, hn, b _ _ μ1 G1 H1 q2 w1 g1 fun i2 μ2 G2 H2 e1 w2 _ =>
              ⟨fun hi => Nat.le_of_eq hi, fun hi => ⟨hi, fun x H3 ⟨hH, hx⟩ => by subst hH; subst hx; exact ⟨_, G2, rfl, w2, Go.refl _ _ _, .int _⟩⟩⟩⟩
    · exact q1.elim
theorem OkI.or {wi wj : TI} {ri rj : RI} (h : OkI K wi ri) (h' : OkI K wj rj) : OkI K (fun σ H R => wi σ H R ∨ wj σ H R) (fun δ μ k => ri δ μ k ∨ rj δ μ k) := fun σ δ μ G H k R S w q b => by
  rcases q with q | q
  · exact .inl (h σ δ μ G H k R S w q b)
  · exact .inr (h' σ δ μ G H k R S w q b)
end
theorem pi_or {X : Cx} {tg e : Expr} {wi wj : TI} (h : PI X tg e wi) (h' : PI X tg e wj) : PI X tg e (fun σ H R => wi σ H R ∨ wj σ H R) := ⟨fun pins s σ H R I q => by
  rcases q with q | q
  · exact h.run pins s σ H R I q
  · exact h'.run pins s σ H R I q⟩

/-! ### zip of lists and tuples in any mix -/
section
variable {K : PySem.W.Frag}
/-- true: a list; false: a tuple -/
def SqA (c : Bool) (K : PySem.W.Frag) (H : Hp) (a : Addr) (xs : List V) : Prop := if c = true then SqL K H a xs else SqT K H a xs
def IterA (c : Bool) (h : Heap) (it a : Addr) (i : Nat) : Prop := if c = true then h.IsListIter it a i else h.IsTupleIter it a i
def IsA (c : Bool) (h : Heap) (a : Addr) (its : Array Value) : Prop := if c = true then h.IsList a its else h.IsTuple a its
def objA (c : Bool) (a : Addr) : Obj := if c = true then { cls := .type "list_iterator", data := .fields #[.ref a, .int 0 0] } else { cls := .type "tuple_iterator", data := .fields #[.ref a, .int 0 0] }
theorem inv_sqA {X : Cx} {pins : List (Addr × Obj)} {σ : L2.St} {H : Hp} {s : Shared} {c : Bool} {a : Addr} {xs : List V} (I : Inv X pins σ H s) (h : SqA c X.K H a xs) : ∃ its : List Value, Vals xs its ∧ IsA c s.heap a its.toArray := by
  cases c with
  | true => obtain ⟨its, r, p, _⟩ := I.list h; exact ⟨its, r, p.isList⟩
  | false => obtain ⟨its, r, p, _⟩ := I.tuple h; exact ⟨its, r, p⟩
theorem inv_injA {X : Cx} {pins : List (Addr × Obj)} {σ : L2.St} {H : Hp} {s : Shared} {c : Bool} {a : Addr} {xs ys : List V} (I : Inv X pins σ H s) (h : SqA c X.K H a xs) (h' : SqA c X.K H a ys) : xs = ys := by
  cases c with
  | true => exact I.list_inj h h'
  | false => exact I.tuple_inj h h'
theorem isA_lt {c : Bool} {h : Heap} {a : Addr} {its : Array Value} (p : IsA c h a its) : a < h.objs.size := by
  cases c with
  | true => obtain ⟨o, e, _⟩ := p; exact Heap.lt_size e
  | false => obtain ⟨o, e, _⟩ := p; exact Heap.lt_size e
theorem iterA_at {c : Bool} {h h' : Heap} {it a : Addr} {i : Nat} (x : IterA c h it a i) (k : ∀ o, h.get? it = some o → h'.get? it = some o) : IterA c h' it a i := by
  cases c with
  | true => exact Heap.IsListIter.at x k
  | false => exact Heap.IsTupleIter.at x k
theorem iterA_obj {c : Bool} {h : Heap} {it a : Addr} {i : Nat} (x : IterA c h it a i) : ∃ o, h.get? it = some o ∧ ∀ v, o.data ≠ .cell v := by
  cases c with
  | true => obtain ⟨o, e, _, d⟩ := x; exact ⟨o, e, fun v q => by rw [d] at q; cases q⟩
  | false => obtain ⟨o, e, _, d⟩ := x; exact ⟨o, e, fun v q => by rw [d] at q; cases q⟩
theorem drawsA {prog : Program} {w : World} {A : Around} (hh : A.handled = none) (c : Bool) (it a : Addr) (hne : a ≠ it) (its : Array Value) :
    Draws prog w A it [it, a] its.size (fun i v => its[i]? = some v) (fun i h => IterA c h it a i ∧ IsA c h a its) := by
  cases c with
  | true => exact Draws.list hh it a hne its
  | false => exact Draws.tuple hh it a hne its
theorem beginsA (c : Bool) (a : Addr) (its : Array Value) : Begins (.ref a) (objA c a) (fun h => IsA c h a its) := by
  cases c with
  | true => exact begins_list a its
  | false => exact begins_tuple a its
theorem iterA_0 {c : Bool} {h : Heap} {it a : Addr} (e : h.get? it = some (objA c a)) : IterA c h it a 0 := by
  cases c with
  | true => exact ⟨_, e, rfl, rfl⟩
  | false => exact ⟨_, e, rfl, rfl⟩
/-- what zip over the sequences at a and b walks -/
def ItzM (c1 c2 : Bool) (K : PySem.W.Frag) (a b : Addr) : It where
  go := fun i H => ∃ xs ys x y, SqA c1 K H a xs ∧ SqA c2 K H b ys ∧ xs[i]? = some x ∧ ys[i]? = some y
  yld := fun i H v H' => ∃ T x y, v = V.ref T ∧ H T = none ∧ H' = upd H T (.tup [x, y]) ∧
    (∀ xs, SqA c1 K H a xs → xs[i]? = some x) ∧ (∀ ys, SqA c2 K H b ys → ys[i]? = some y)
  stop := fun i H => ∃ xs ys, SqA c1 K H a xs ∧ SqA c2 K H b ys ∧ i = min xs.length ys.length
theorem mem5 {c z TI TO i1 i2 : Addr} (h : c ∈ [z, TI, TO, i1, i2]) : c = z ∨ c = TI ∨ c = TO ∨ c = i1 ∨ c = i2 := by simpa using h
theorem turn_zipM {P : Program} {w : World} {elts : List Expr} {kk : Nat} {tpos : Pos} {c1 c2 : Bool} {a b z TI TO i1 i2 : Addr} (S : ZipSep2 z TI TO i1 i2 [i1, a] [i2, b]) (ha : a ≠ i1) (hb : b ≠ i2) :
    Turn P w K (.Tuple elts kk tpos) (ItzM c1 c2 K a b) [z, TI, TO, i1, i2] z
      (fun i h => IsZip h z TI TO .none ∧ IsTupOf2 h TI (.ref i1) (.ref i2) ∧ (∃ x y, IsTupOf2 h TO x y) ∧ IterA c1 h i1 a i ∧ IterA c2 h i2 b i) where
  mem := by simp
  obj := fun i h ⟨hz, hTI, ⟨x, y, hTO⟩, h1, h2⟩ c hc => by
    rcases mem5 hc with q | q | q | q | q
    · subst q; exact ⟨_, hz, fun v e => nomatch e⟩
    · subst q; exact ⟨_, hTI, fun v e => nomatch e⟩
    · subst q; exact ⟨_, hTO, fun v e => nomatch e⟩
    · subst q; exact iterA_obj h1
    · subst q; exact iterA_obj h2
  keep := fun i h h' ⟨hz, hTI, ⟨x, y, hTO⟩, h1, h2⟩ k =>
    ⟨k z (by simp) _ hz, k TI (by simp) _ hTI, ⟨x, y, k TO (by simp) _ hTO⟩, iterA_at h1 (k i1 (by simp)), iterA_at h2 (k i2 (by simp))⟩
  item := by
    intro X hP hw hK hc i pins s σ H E I hf ⟨hz, hTI, hTO, h1, h2⟩ hg
    subst hP hw hK
    obtain ⟨xs, ys, x, y, sx, sy, ex, ey⟩ := hg
    obtain ⟨its, rv, p1⟩ := inv_sqA I sx
    obtain ⟨jts, rw, p2⟩ := inv_sqA I sy
    obtain ⟨u, hu, ru⟩ := rv.get ex
    obtain ⟨u', hu', ru'⟩ := rw.get ey
    have hh : X.A.in1.handled = none := I.ok.hd hc
    have W := WalksT.zipD2 (prog := X.prog) (w := X.w) (A := X.A) S (drawsA hh c1 i1 a ha its.toArray) (drawsA hh c2 i2 b hb jts.toArray)
    have l1 : i < its.length := (List.getElem?_eq_some_iff.mp hu).1
    have l2 : i < jts.length := (List.getElem?_eq_some_iff.mp hu').1
    refine W.item i s _ _ (by simp; omega) ⟨hz, hTI, hTO, ⟨h1, p1⟩, ⟨h2, p2⟩⟩ fun T vals h' tk hv hT hIs mid hk => ?_
    obtain ⟨x1, x2, e1, e2, rfl⟩ := hv
    have e1 : x1 = u := by have e1 : its.toArray[i]? = some x1 := e1; rw [List.getElem?_toArray, hu] at e1; exact (Option.some.inj e1).symm
    have e2 : x2 = u' := by have e2 : jts.toArray[i]? = some x2 := e2; rw [List.getElem?_toArray, hu'] at e2; exact (Option.some.inj e2).symm
    subst e1 e2
    have apart := W.apart i T h' mid
    refine ⟨_, rfl, W.go elts kk tpos i T { s with heap := h', toks := tk } _ _ mid fun h'' st hk2 => ?_⟩
    obtain ⟨hz', hTI', hTO', ⟨h1', _⟩, ⟨h2', _⟩⟩ := st
    have hTn : H T = none := I.hok.fresh hT
    have tneq : ∀ c, c ∈ [z, TI, TO, i1, i2] → c < T := fun c hm => by
      have q : c < s.heap.objs.size := by
        rcases mem5 hm with q | q | q | q | q
        · subst q; exact Heap.lt_size hz
        · subst q; exact Heap.lt_size hTI
        · subst q; obtain ⟨_, _, e⟩ := hTO; exact Heap.lt_size e
        · subst q; obtain ⟨_, e, _⟩ := iterA_obj h1; exact Heap.lt_size e
        · subst q; obtain ⟨_, e, _⟩ := iterA_obj h2; exact Heap.lt_size e
      exact Nat.lt_of_lt_of_le q hT
    obtain ⟨oT, eT, cT, nT, dT⟩ := id hIs
    have new : ObjOk X.prog X.w (upd H T (.tup [x, y])) h'' T (.tup [x, y]) :=
      ⟨by show 2 ≤ sizeLine; decide, [x1, x2], .cons ru (.cons ru' .nil), ⟨oT, hk2 T oT apart eT, cT, nT, dT⟩⟩
    refine ⟨.ref T, _, I.turnedNew (t' := tk) (ch := [z, TI, TO, i1, i2]) (fun c o hb q => ?_) hf hT new, rfl, ⟨T, x, y, rfl, hTn, rfl, fun l hl => by rw [inv_injA I hl sx]; exact ex, fun l hl => by rw [inv_injA I hl sy]; exact ey⟩,
      ⟨hz', hTI', hTO', h1', h2'⟩, fun c hm => ?_⟩
    · have hb' : c ∉ [z, TO, i1, i2] := fun q' => hb (by
        have : c = z ∨ c = TO ∨ c = i1 ∨ c = i2 := by simpa using q'
        rcases this with r | r | r | r <;> simp [r])
      exact hk2 c o hb' (hk c o hb' q)
    · rw [upd_ne (Nat.ne_of_lt (tneq c hm))]
      exact (hf c hm).1
  done := by
    intro X hP hw hK hc i pins s σ H E I hf ⟨hz, hTI, hTO, h1, h2⟩ hg
    subst hP hw hK
    obtain ⟨xs, ys, sx, sy, hend⟩ := hg
    obtain ⟨its, rv, p1⟩ := inv_sqA I sx
    obtain ⟨jts, rw, p2⟩ := inv_sqA I sy
    have hh : X.A.in1.handled = none := I.ok.hd hc
    have l1 := rv.length
    have l2 := rw.length
    have W := WalksT.zipD2 (prog := X.prog) (w := X.w) (A := X.A) S (drawsA hh c1 i1 a ha its.toArray) (drawsA hh c2 i2 b hb jts.toArray)
    have ei : i = min its.toArray.size jts.toArray.size := by rw [hend, l1, l2]; simp
    rw [ei] at h1 h2
    refine W.done s _ _ ⟨hz, hTI, hTO, ⟨h1, p1⟩, ⟨h2, p2⟩⟩ fun h' tk hk => ⟨rfl, I.turnedL (t' := tk) (ch := [z, TI, TO, i1, i2]) (fun c o hb q => hk c o (fun q' => hb ?_) q) hf⟩
    have : c = z ∨ c = TO ∨ c = i1 ∨ c = i2 := by simpa using q'
    rcases this with r | r | r | r <;> simp [r]
  self := fun A i s Q E st h => wpAny_pyIter_zip st.1 h
end
end DL


set_option Elab.async false
set_option linter.all false
set_option maxRecDepth 100000
set_option maxHeartbeats 4000000
/-! DLd: zip's rule, targets, comprehensions, statements, loops over data. -/
namespace DL
open PySem PySem.Spec PyProof.Rows L2 SlX

section
variable {K : PySem.W.Frag}
def kindA : D → Bool
  | .tup _ => false
  | _ => true
theorem asQ_outA {μ : Mu} {G H : Hp} {v : V} {d : D} {ds : List D} (w : Wd K G H μ) (r : Rep K G v d) (e : asQ μ d = some ds) : ∃ a vs, v = .ref a ∧ SqA (kindA d) K H a vs ∧ RepL K G vs ds := by
  cases r with
  | lst h q => cases e; exact ⟨_, _, rfl, SqL.of (w.ex _ _ h), q⟩
  | own p =>
    obtain ⟨_, vs, h, q⟩ := w.mu p ds e
    exact ⟨_, vs, rfl, SqL.of h, q⟩
  | tup h q => cases e; exact ⟨_, _, rfl, w.ex.t h, q⟩
  | _ => cases e
def iZipM (K : PySem.W.Frag) (ta : TA) : TI := fun σ H R => ta σ H fun vs H1 => ∃ (c1 c2 : Bool) (a b : Addr) (xs ys : List V), vs = [V.ref a, V.ref b] ∧ SqA c1 K H1 a xs ∧ SqA c2 K H1 b ys ∧ R (ItzM c1 c2 K a b) H1
theorem pi_zipM {X : Cx} {e e2 : Expr} {ta : TA} {p pos tpos : Pos} {elts : List Expr} {kk : Nat} (hg : Gl X "zip") (hm : X.mg "zip" = none) (ha : PA X [e, e2] ta)
    (hs : starEach [e, e2] X.env = (false, eval e X.env) :: starEach [e2] X.env := by rfl) (hpl : (backTo pos (starEach [e2] X.env)).any (·.1) = false := by rfl) :
    PI X (.Tuple elts kk tpos) (.Call (.Name "zip" p) [e, e2] [] pos) (iZipM X.K ta) := ⟨fun pins s σ H R I h => by
  refine Call_ (ld_blt I hg hm PyProof.Rows.boot_zip (PyProof.Rows.callWith_type1 (thn (ha.run pos pins s σ H _ I h) fun us s1 ⟨vs, H1, I1, r1, q1⟩ => ?_) hs hpl))
  obtain ⟨c1, c2, a, b, xs, ys, rfl, sx, sy, q⟩ := q1
  obtain ⟨u1, u2, rfl, e1, e2⟩ := vals2 r1
  cases e1
  cases e2
  obtain ⟨its, rv, p1⟩ := inv_sqA I1 sx
  obtain ⟨jts, rw, p2⟩ := inv_sqA I1 sy
  have la := isA_lt p1
  have lb := isA_lt p2
  refine zip_begins2 (beginsA c1 a its.toArray) (beginsA c2 b jts.toArray) p1 p2 fun h' hz hTI hTO g1 g2 hsz hk => wpAny_pyIter_zip hz ?_
  have I2 : Inv X pins σ H1 { s1 with heap := h' } := I1.kept (t' := s1.toks) hk
  have sep := zip_sep2 (N := s1.heap.objs.size) (fp1 := [a]) (fp2 := [b]) (fun c hc => by rw [List.mem_singleton.mp hc]; exact la) (fun c hc => by rw [List.mem_singleton.mp hc]; exact lb)
  have na : a ≠ s1.heap.objs.size := Nat.ne_of_lt la
  have nb : b ≠ s1.heap.objs.size + 1 := Nat.ne_of_lt (Nat.lt_succ_of_lt lb)
  refine ⟨s1.heap.objs.size + 4, [s1.heap.objs.size + 4, s1.heap.objs.size + 2, s1.heap.objs.size + 3, s1.heap.objs.size, s1.heap.objs.size + 1], _, _, H1, rfl, I2, turn_zipM (c1 := c1) (c2 := c2) sep na nb,
    ⟨hz, hTI, ⟨_, _, hTO⟩, iterA_0 g1, iterA_0 g2⟩, fun c hc => ?_, q⟩
  have hle : s1.heap.objs.size ≤ c := by
    rcases mem5 hc with r | r | r | r | r
    · rw [r]; exact Nat.le_add_right _ _
    · rw [r]; exact Nat.le_add_right _ _
    · rw [r]; exact Nat.le_add_right _ _
    · rw [r]; exact Nat.le_refl _
    · rw [r]; exact Nat.le_add_right _ _
  exact I1.fpOk hle (I1.hok.fresh hle)⟩
@[simp] def pairD : Option D → Option D → Option D
  | some x, some y => some (.tup [x, y])
  | _, _ => none
def itZ (x y : D) (xs ys : List D) : DIt := ⟨min xs.length ys.length, fun i => pairD xs[i]? ys[i]?, fun μ => asQ μ x = some xs ∧ asQ μ y = some ys⟩
@[simp] def rIZ (ra : RA) : RI := fun δ μ k => ra δ μ fun ds μ1 => match ds with | [x, y] => ∃ xs ys, asQ μ1 x = some xs ∧ asQ μ1 y = some ys ∧ k (itZ x y xs ys) μ1 | _ => False
theorem itOk_zip {G : Hp} {va vb : Addr} {x y : D} {xs ys : List D} (r1 : Rep K G (.ref va) x) (r2 : Rep K G (.ref vb) y) : ItOk K G (ItzM (kindA x) (kindA y) K va vb) (itZ x y xs ys) := fun i μ G1 H1 e w ⟨o1, o2⟩ => by
  obtain ⟨a, vs, ea, sa, ra⟩ := asQ_outA w (r1.mono e) o1
  obtain ⟨b, ws, eb, sb, rb⟩ := asQ_outA w (r2.mono e) o2
  cases ea; cases eb
  refine ⟨fun hi => ⟨vs, ws, sa, sb, by rw [ra.length, rb.length]; exact hi.symm⟩, fun hi => ?_⟩
  have hi : i < min xs.length ys.length := hi
  have l1 : i < vs.length := by rw [ra.length]; omega
  have l2 : i < ws.length := by rw [rb.length]; omega
  refine ⟨⟨vs, ws, vs[i], ws[i], sa, sb, List.getElem?_eq_getElem l1, List.getElem?_eq_getElem l2⟩, fun v H2 ⟨T, u, u', hv, hT, hH, h1, h2⟩ => ?_⟩
  subst hv hH
  obtain ⟨d1, g1, q1⟩ := ra.get (h1 vs sa)
  obtain ⟨d2, g2, q2⟩ := rb.get (h2 ws sb)
  refine ⟨.tup [d1, d2], upd G1 T (.tup [u, u']), ?_, w.new hT, Go.new w hT, .tup (SqT.of upd_same) (.cons (q1.mono (Ex.new (w.gnone hT))) (.cons (q2.mono (Ex.new (w.gnone hT))) .nil))⟩
  show pairD xs[i]? ys[i]? = _
  rw [g1, g2]
  rfl
theorem okI_zip {ta : TA} {ra : RA} (h : OkA K ta ra) : OkI K (iZipM K ta) (rIZ ra) := fun σ δ μ G H k R S w q b =>
  h σ δ μ G H _ _ S w q fun vs ds μ1 G1 H1 q1 w1 g1 r1 => by
    split at q1
    · rename_i x y
      obtain ⟨xs, ys, e1, e2, q2⟩ := q1
      cases r1 with
      | cons a t =>
        cases t with
        | cons a' t =>
          cases t
          obtain ⟨p, vs1, rfl, s1, _⟩ := asQ_outA w1 a e1
          obtain ⟨p', vs2, rfl, s2, _⟩ := asQ_outA w1 a' e2
          exact ⟨_, _, p, p', vs1, vs2, rfl, s1, s2, b _ _ μ1 G1 H1 q2 w1 g1 (itOk_zip a a')⟩
    · exact q1.elim

/-! ### targets -/
@[simp] def rgName (i : Nat) : RG := fun d δ μ k => k (δ.set i (some d)) μ
theorem okG_name (i : Nat) : OkG K (gName i) (rgName i) [i] := fun v d σ δ μ G H k Q S w r q b =>
  b _ _ μ G H q (S.set r i) w (Go.refl _ _ _) ⟨List.length_set, fun j hj => List.getElem?_set_ne (fun e => hj (by simp [e]))⟩
abbrev RGs := List D → Sl → Mu → (Sl → Mu → Prop) → Prop
def OkGs (K : PySem.W.Frag) (g : TGs) (r : RGs) (js : List Nat) : Prop := ∀ (vs : List V) (ds : List D) (σ : L2.St) (δ : Sl) (μ : Mu) (G H : Hp) (k : Sl → Mu → Prop) (Q : L2.St → Hp → Prop), SlOk K G σ δ → Wd K G H μ → RepL K G vs ds → r ds δ μ k →
  (∀ σ' δ' μ' G' H', k δ' μ' → SlOk K G' σ' δ' → Wd K G' H' μ' → Go μ G H μ' G' H' → (σ'.length = σ.length ∧ ∀ i, i ∉ js → σ'[i]? = σ[i]?) → Q σ' H') → g vs σ H Q
@[simp] def rgNil : RGs := fun ds δ μ k => match ds with | [] => k δ μ | _ => False
@[simp] def rgCons (r : RG) (rr : RGs) : RGs := fun ds δ μ k => match ds with | d :: ds => r d δ μ fun δ1 μ1 => rr ds δ1 μ1 k | [] => False
theorem okGs_nil : OkGs K gNil rgNil [] := fun vs ds σ δ μ G H k Q S w r q b => by
  cases r with
  | nil => exact ⟨rfl, b σ δ μ G H q S w (Go.refl _ _ _) ⟨rfl, fun _ _ => rfl⟩⟩
  | cons _ _ => exact q.elim
theorem okGs_cons {g : TG} {gs : TGs} {r : RG} {rr : RGs} {js is : List Nat} (h : OkG K g r js) (hs : OkGs K gs rr is) : OkGs K (gCons g gs) (rgCons r rr) (js ++ is) := fun vs ds σ δ μ G H k Q S w rl q b => by
  cases rl with
  | nil => exact q.elim
  | cons r1 r2 =>
    refine ⟨_, _, rfl, h _ _ σ δ μ G H _ _ S w r1 q fun σ1 δ1 μ1 G1 H1 q1 S1 w1 g1 l1 => hs _ _ σ1 δ1 μ1 G1 H1 k Q S1 w1 (r2.mono g1.eg) q1 fun σ2 δ2 μ2 G2 H2 q2 S2 w2 g2 l2 => b σ2 δ2 μ2 G2 H2 q2 S2 w2 (g1.trans g2) ⟨l2.1.trans l1.1, fun i hi => ?_⟩⟩
    rw [l2.2 i (fun z => hi (List.mem_append_right _ z)), l1.2 i (fun z => hi (List.mem_append_left _ z))]
@[simp] def rgTup (n : Nat) (r : RGs) : RG := fun d δ μ k => match d with | .tup ds => ds.length = n ∧ r ds δ μ k | _ => False
theorem okG_tup {n : Nat} {gs : TGs} {r : RGs} {js : List Nat} (h : OkGs K gs r js) : OkG K (gTup K n gs) (rgTup n r) js := fun v d σ δ μ G H k Q S w rp q b => by
  cases rp with
  | tup hs rl => exact ⟨_, _, rfl, w.ex.t hs, rl.length.trans q.1, h _ _ σ δ μ G H k Q S w rl q.2 b⟩
  | _ => exact q.elim
/-- xs[i] = v, xs a list that changes -/
@[simp] def rgSetL (ro ri : RE) : RG := fun d δ μ k => ro δ μ fun o μ1 => ri δ μ1 fun i μ2 => match o, i with
  | .own p, .int i => ∃ ds j, μ2 p = some ds ∧ ixN ds.length i = some j ∧ k δ (muSet μ2 p (ds.set j d))
  | _, _ => False
theorem okG_setL {to ti : TE} {ro ri : RE} (ho : OkE K to ro) (hi : OkE K ti ri) : OkG K (gSub to ti rSetL) (rgSetL ro ri) [] := fun v d σ δ μ G H k Q S w rp q b =>
  ho σ δ μ G H _ _ S w q fun x dx μ1 G1 H1 q1 w1 g1 r1 => hi σ δ μ1 G1 H1 _ _ (S.mono g1.eg) w1 q1 fun y dy μ2 G2 H2 q2 w2 g2 r2 => by
    have r1 := r1.mono g2.eg
    cases r1 with
    | own p =>
      cases r2 with
      | int i =>
        obtain ⟨ds, j, e1, e2, q3⟩ := q2
        obtain ⟨_, vs, h, rl⟩ := w2.mu p ds e1
        have rl2 := RepL.set (rp.mono (g1.eg.trans g2.eg)) j rl
        exact ⟨p, vs, i, j, rfl, rfl, h, by rw [rl.length]; exact e2, b σ δ _ G2 _ q3 (S.mono (g1.eg.trans g2.eg)) (w2.wr e1 rl2) ((g1.trans g2).trans (Go.wr e1)) ⟨rfl, fun _ _ => rfl⟩⟩
      | _ => exact q2.elim
    | _ => exact q2.elim

/-! ### comprehensions -/
@[simp] def wipeD (δ : Sl) : List Nat → Sl
  | [] => δ
  | v :: vs => (wipeD δ vs).set v none
theorem SlOk.wipe {G : Hp} {σ : L2.St} {δ : Sl} (h : SlOk K G σ δ) : ∀ vs : List Nat, SlOk K G (L2.wipe σ vs) (wipeD δ vs)
  | [] => h
  | v :: vs => (SlOk.wipe h vs).unset v none
theorem wipe_of {σ σ' : L2.St} {vs : List Nat} (hl : σ'.length = σ.length) (h : ∀ i, i ∉ vs → σ'[i]? = σ[i]?) : L2.wipe σ' vs = L2.wipe σ vs := by
  apply List.ext_getElem?
  intro i
  by_cases hi : i ∈ vs
  · have both : ∀ τ : L2.St, (L2.wipe τ vs)[i]? = if i < τ.length then some none else none := fun τ => by
      by_cases hl : i < τ.length
      · rw [if_pos hl]
        have hw : i < (L2.wipe τ vs).length := by rw [wipe_length]; exact hl
        cases e : (L2.wipe τ vs)[i]? with
        | none => rw [List.getElem?_eq_none_iff] at e; omega
        | some o =>
          cases o with
          | none => rfl
          | some x => exact absurd hi (wipe_some e).2
      · rw [if_neg hl, List.getElem?_eq_none_iff.mpr (by rw [wipe_length]; omega)]
    rw [both, both, hl]
  · rw [wipe_out hi, wipe_out hi]
    exact h i hi
theorem wipe_wipe (σ : L2.St) (vs : List Nat) : L2.wipe (L2.wipe σ vs) vs = L2.wipe σ vs := wipe_of (wipe_length σ vs) fun i hi => wipe_out hi
@[simp] def rYes : RT := fun _ μ k => k true μ
theorem okT_yes : OkT K tYes rYes := fun σ δ μ G H k Q S w q b => b true μ G H q w (Go.refl _ _ _)
set_option checkBinderAnnotations false in
def rLcW (it : DIt) (rg : RG) (rt : RT) (re : RE) (vs : List Nat) (δ : Sl) (μ1 : Mu) [fin : List D → Mu → Prop] : Prop :=
  it.n ≤ 1000000 ∧ ∃ Inv : Nat → List D → Mu → Prop, Inv 0 [] μ1 ∧ (∀ i acc μ, Inv i acc μ → it.ok μ) ∧
    (∀ i acc μ d, i < it.n → it.at_ i = some d → Inv i acc μ → rg d (wipeD δ vs) μ fun δ2 μ2 => rt δ2 μ2 fun b μ3 => if b = true then re δ2 μ3 fun y μ4 => Inv (i + 1) (acc ++ [y]) μ4 else Inv (i + 1) acc μ3) ∧
    (∀ acc μ, Inv it.n acc μ → fin acc μ)
@[simp] def rLc (ri : RI) (rg : RG) (rt : RT) (re : RE) (vs : List Nat) : RE := fun δ μ k => ri δ μ fun it μ1 => @rLcW it rg rt re vs δ μ1 fun acc μ' => k (.lst acc) μ'
@[simp] def rLcO (ri : RI) (rg : RG) (rt : RT) (re : RE) (vs : List Nat) : RE := fun δ μ k => ri δ μ fun it μ1 => @rLcW it rg rt re vs δ μ1 fun acc μ' => ∀ p, μ' p = none → k (.own p) (muSet μ' p acc)
theorem lc_run {J : It} {it : DIt} {g : TG} {rg : RG} {tt : TT} {rt : RT} {te : TE} {re : RE} {vs js : List Nat} {fin : List D → Mu → Prop} {σ : L2.St} {δ : Sl} {μ : Mu} {G H : Hp} {Dl : Addr} {Qd : Hp → Prop}
    (hg : OkG K g rg js) (ht : OkT K tt rt) (he : OkE K te re) (hj : js.all (fun i => decide (i ∈ vs)) = true) (S : SlOk K G σ δ) (w : Wd K G H μ) (io : ItOk K G J it) (hD : H Dl = none) (q : @rLcW it rg rt re vs δ μ fin)
    (b : ∀ acc μ' G' H' xs, fin acc μ' → Wd K G' H' μ' → Go μ G H μ' G' (fun a => if a = Dl then none else H' a) → H' Dl = some (.lst xs) → G' Dl = none → μ' Dl = none → RepL K G' xs acc → Qd H') :
    ∃ W : Nat → Nat → Hp → Prop, (∃ m, W 0 m (upd H Dl (.lst []))) ∧ ∀ i m H1, W i m H1 →
      (J.stop i H1 ∧ Qd H1) ∨ (J.go i H1 ∧ ∃ Nx : Hp → Prop, (∀ H', Nx H' → ∃ m', m' < m ∧ W (i + 1) m' H') ∧ ∀ x H', J.yld i H1 x H' → g x (L2.wipe σ vs) H' fun σ2 H2 => L2.wipe σ2 vs = L2.wipe σ vs ∧ tt σ2 H2 fun b H3 =>
        if b = true then te σ2 H3 fun y H4 => ∃ acc, H4 Dl = some (.lst acc) ∧ acc.length < sizeLine ∧ Nx (upd H4 Dl (.lst (acc ++ [y]))) else Nx H3) := by
  obtain ⟨hn, Inv, i0, iok, istep, iend⟩ := q
  have gD : G Dl = none := w.gnone hD
  have mD : μ Dl = none := w.mnone hD
  have wD : Wd K G (upd H Dl (.lst [])) μ := ⟨fun a o e => by rw [upd_ne (ne_of_none (w.ex _ _ e) hD)]; exact w.ex _ _ e, fun p ds e => by
    obtain ⟨a1, vs', a2, a3⟩ := w.mu p ds e
    exact ⟨a1, vs', by rw [upd_ne (ne_of_none a2 hD)]; exact a2, a3⟩⟩
  -- the state between two turns; Dl stands in the heap, out of G and μ
  refine ⟨fun i m H1 => m = it.n - i ∧ i ≤ it.n ∧ ∃ acc μ1 G1 xs, Inv i acc μ1 ∧ Wd K G1 H1 μ1 ∧ Go μ G (upd H Dl (.lst [])) μ1 G1 (fun a => if a = Dl then some (.lst []) else H1 a) ∧ H1 Dl = some (.lst xs) ∧ G1 Dl = none ∧ μ1 Dl = none ∧ RepL K G1 xs acc ∧ acc.length ≤ i,
    ⟨it.n, rfl, Nat.zero_le _, [], μ, G, [], i0, wD, ?_, upd_same, gD, mD, .nil, Nat.le_refl _⟩, ?_⟩
  · have e : (fun a => if a = Dl then some (HO.lst []) else upd H Dl (.lst []) a) = upd H Dl (.lst []) := by
      funext a
      by_cases h : a = Dl
      · simp only [h, if_true]; rw [upd_same]
      · simp only [h, if_false]
    rw [e]
    exact Go.refl _ _ _
  · rintro i m H1 ⟨hm, hi, acc, μ1, G1, xs, hI, w1, g1, hx, gx, mx, rl, la⟩
    have e1 : Ex G G1 := g1.eg
    obtain ⟨hstop, hgo⟩ := io i μ1 G1 H1 e1 w1 (iok i acc μ1 hI)
    by_cases hin : i = it.n
    · refine .inl ⟨hstop hin.symm, b acc μ1 G1 H1 xs (iend acc μ1 (hin ▸ hI)) w1 ⟨e1, fun a o e hm => ?_, fun a e => ?_, fun a e => ?_⟩ hx gx mx rl⟩
      · have hne : a ≠ Dl := ne_of_none e hD
        have := g1.kp a o (by rw [upd_ne hne]; exact e) hm
        simp only [hne, if_false] at this ⊢
        exact this
      · rcases g1.dm a e with z | z
        · exact .inl z
        · by_cases hne : a = Dl
          · subst hne; exact .inr hD
          · rw [upd_ne hne] at z; exact .inr z
      · rcases g1.gf a e with z | z | z
        · exact .inl z
        · exact .inr (.inl z)
        · by_cases hne : a = Dl
          · subst hne; exact .inr (.inr hD)
          · rw [upd_ne hne] at z; exact .inr (.inr z)
    · have hlt : i < it.n := Nat.lt_of_le_of_ne hi hin
      obtain ⟨hgo, hy⟩ := hgo hlt
      refine .inr ⟨hgo, fun H' => ∃ acc' μ' G' xs', Inv (i + 1) acc' μ' ∧ Wd K G' H' μ' ∧ Go μ G (upd H Dl (.lst [])) μ' G' (fun a => if a = Dl then some (.lst []) else H' a) ∧ H' Dl = some (.lst xs') ∧ G' Dl = none ∧ μ' Dl = none ∧ RepL K G' xs' acc' ∧ acc'.length ≤ i + 1,
        fun H' hN => ⟨it.n - (i + 1), by omega, rfl, hlt, hN⟩, fun x H' hyl => ?_⟩
      obtain ⟨d, G2, ed, w2, g2, rd⟩ := hy x H' hyl
      have S1 : SlOk K G2 (L2.wipe σ vs) (wipeD δ vs) := (S.mono (e1.trans g2.eg)).wipe vs
      -- what stands of Dl through a step
      have keepD : ∀ {μa μb : Mu} {Ga Gb Ha Hb : Hp} {xs : List V}, Go μa Ga Ha μb Gb Hb → Ha Dl = some (.lst xs) → Ga Dl = none → μa Dl = none → Hb Dl = some (.lst xs) ∧ Gb Dl = none ∧ μb Dl = none := fun g h1 h2 h3 => by
        refine ⟨g.kp _ _ h1 h3, ?_, g.none_mu h1 h3⟩
        rename_i μa μb Ga Gb Ha Hb xs
        cases e : Gb Dl with
        | none => rfl
        | some o =>
          rcases g.gf Dl (by rw [e]; simp) with z | z | z
          · exact absurd h2 z
          · exact absurd h3 z
          · rw [h1] at z; cases z
      have hide : ∀ {μa μb : Mu} {Ga Gb Ha Hb : Hp} {xs : List V}, Go μa Ga Ha μb Gb Hb → Ha Dl = some (.lst xs) → Go μa Ga (fun a => if a = Dl then some (.lst []) else Ha a) μb Gb (fun a => if a = Dl then some (.lst []) else Hb a) := fun g h1 => by
        refine ⟨g.eg, fun a o e hm => ?_, fun a e => ?_, fun a e => ?_⟩
        · by_cases hne : a = Dl
          · simp only [hne, if_true] at e ⊢; exact e
          · simp only [hne, if_false] at e ⊢; exact g.kp a o e hm
        · rcases g.dm a e with z | z
          · exact .inl z
          · by_cases hne : a = Dl
            · rw [hne, h1] at z; cases z
            · right; simp only [hne, if_false]; exact z
        · rcases g.gf a e with z | z | z
          · exact .inl z
          · exact .inr (.inl z)
          · by_cases hne : a = Dl
            · rw [hne, h1] at z; cases z
            · right; right; simp only [hne, if_false]; exact z
      obtain ⟨hx2, gx2, mx2⟩ := keepD g2 hx gx mx
      have g12 := g1.trans (hide g2 hx)
      refine hg x d (L2.wipe σ vs) (wipeD δ vs) μ1 G2 H' _ _ S1 w2 rd (istep i acc μ1 d hlt ed hI) fun σ2 δ2 μ3 G3 H3 q3 S3 w3 g3 l3 => ⟨?_, ?_⟩
      · rw [← wipe_wipe σ vs]
        refine wipe_of l3.1 fun j hjv => l3.2 j fun z => hjv ?_
        have := List.all_eq_true.mp hj j z
        exact of_decide_eq_true this
      · obtain ⟨hx3, gx3, mx3⟩ := keepD g3 hx2 gx2 mx2
        refine ht σ2 δ2 μ3 G3 H3 _ _ S3 w3 q3 fun c μ4 G4 H4 q4 w4 g4 => ?_
        obtain ⟨hx4, gx4, mx4⟩ := keepD g4 hx3 gx3 mx3
        have g14 := (g12.trans (hide g3 hx2)).trans (hide g4 hx3)
        cases c with
        | true =>
          refine he σ2 δ2 μ4 G4 H4 _ _ (S3.mono g4.eg) w4 q4 fun v y μ5 G5 H5 q5 w5 g5 r5 => ?_
          obtain ⟨hx5, gx5, mx5⟩ := keepD g5 hx4 gx4 mx4
          have g15 := g14.trans (hide g5 hx4)
          refine ⟨xs, hx5, sz_lt (by rw [rl.length]; omega), acc ++ [y], μ5, G5, xs ++ [v], q5, ⟨fun a o e => ?_, fun p ds e => ?_⟩, ?_, upd_same, gx5, mx5, (rl.mono (g2.eg.trans (g3.eg.trans (g4.eg.trans g5.eg)))).append (.cons r5 .nil), by rw [List.length_append]; simp; omega⟩
          · have hne : a ≠ Dl := ne_of_none e gx5
            rw [upd_ne hne]; exact w5.ex _ _ e
          · obtain ⟨a1, vs', a2, a3⟩ := w5.mu p ds e
            have hne : p ≠ Dl := fun z => by subst z; rw [mx5] at e; cases e
            exact ⟨a1, vs', by rw [upd_ne hne]; exact a2, a3⟩
          · have e : (fun a => if a = Dl then some (HO.lst []) else upd H5 Dl (.lst (xs ++ [v])) a) = (fun a => if a = Dl then some (HO.lst []) else H5 a) := by
              funext a
              by_cases h : a = Dl
              · simp only [h, if_true]
              · simp only [h, if_false]; rw [upd_ne h]
            rw [e]
            exact g15
        | false =>
          exact ⟨acc, μ4, G4, xs, q4, w4, g14, hx4, gx4, mx4, rl.mono (g2.eg.trans (g3.eg.trans g4.eg)), by omega⟩
theorem okE_lc {wi : TI} {ri : RI} {g : TG} {rg : RG} {tt : TT} {rt : RT} {te : TE} {re : RE} {vs js : List Nat} (hi : OkI K wi ri) (hg : OkG K g rg js) (ht : OkT K tt rt) (he : OkE K te re) (hj : js.all (fun i => decide (i ∈ vs)) = true) :
    OkE K (tLc wi g tt te vs) (rLc ri rg rt re vs) := fun σ δ μ G H k Q S w q b =>
  hi σ δ μ G H _ _ S w q fun J it μ1 G1 H1 q1 w1 g1 io Dl hD => lc_run hg ht he hj (S.mono g1.eg) w1 io hD q1 fun acc μ' G' H' xs fn w' g' hx gx mx rl => by
    have hup : (fun a => if a = Dl then none else H' a) Dl = none := by simp
    refine b _ _ μ' (upd G' Dl (.lst xs)) H' fn ⟨fun a o e => ?_, fun p ds e => ?_⟩ ⟨g1.eg.trans (g'.eg.trans (Ex.new gx)), fun a o e hm => ?_, fun a e => ?_, fun a e => ?_⟩ (.lst upd_same (rl.mono (Ex.new gx)))
    · by_cases hne : a = Dl
      · subst hne; rw [upd_same] at e; rw [← e]; exact hx
      · rw [upd_ne hne] at e; exact w'.ex _ _ e
    · obtain ⟨a1, vs', a2, a3⟩ := w'.mu p ds e
      have hne : p ≠ Dl := fun z => by subst z; rw [mx] at e; cases e
      exact ⟨by rw [upd_ne hne]; exact a1, vs', a2, a3.mono (Ex.new gx)⟩
    · have e1 := (g1.trans g').kp a o e hm
      have hne : a ≠ Dl := fun z => by subst z; simp at e1
      simp only [hne, if_false] at e1
      exact e1
    · exact (g1.trans g').dm a e
    · by_cases hne : a = Dl
      · subst hne
        rcases g1.back hD with z | z
        · exact .inr (.inl z)
        · exact .inr (.inr z)
      · rw [upd_ne hne] at e; exact (g1.trans g').gf a e
theorem okE_lcO {wi : TI} {ri : RI} {g : TG} {rg : RG} {tt : TT} {rt : RT} {te : TE} {re : RE} {vs js : List Nat} (hi : OkI K wi ri) (hg : OkG K g rg js) (ht : OkT K tt rt) (he : OkE K te re) (hj : js.all (fun i => decide (i ∈ vs)) = true) :
    OkE K (tLc wi g tt te vs) (rLcO ri rg rt re vs) := fun σ δ μ G H k Q S w q b =>
  hi σ δ μ G H _ _ S w q fun J it μ1 G1 H1 q1 w1 g1 io Dl hD => lc_run hg ht he hj (S.mono g1.eg) w1 io hD q1 fun acc μ' G' H' xs fn w' g' hx gx mx rl => by
    refine b _ _ (muSet μ' Dl acc) G' H' (fn Dl mx) ⟨w'.ex, fun p ds e => ?_⟩ ⟨g1.eg.trans g'.eg, fun a o e hm => ?_, fun a e => ?_, fun a e => (g1.trans g').gf a e⟩ (.own Dl)
    · by_cases hne : p = Dl
      · subst hne; rw [muSet_same] at e; cases e; exact ⟨gx, xs, hx, rl⟩
      · rw [muSet_ne hne] at e; exact w'.mu p ds e
    · have e1 := (g1.trans g').kp a o e hm
      have hne : a ≠ Dl := fun z => by subst z; simp at e1
      simp only [hne, if_false] at e1
      exact e1
    · by_cases hne : a = Dl
      · subst hne
        exact g1.back hD
      · rw [muSet_ne hne] at e; exact (g1.trans g').dm a e
end
end DL


set_option Elab.async false
set_option linter.all false
set_option maxRecDepth 100000
set_option maxHeartbeats 4000000
/-! DLe: comprehensions with two for, statements, loops over data. -/
namespace DL
open PySem PySem.Spec PyProof.Rows L2 SlX

section
variable {K : PySem.W.Frag}
/-- while a list is made at Dl, hidden from G and μ -/
def mask (Dl : Addr) (H : Hp) : Hp := fun a => if a = Dl then some (.lst []) else H a
theorem mask_same {Dl : Addr} {H : Hp} : mask Dl H Dl = some (.lst []) := by unfold mask; rw [if_pos rfl]
theorem mask_ne {Dl a : Addr} {H : Hp} (h : a ≠ Dl) : mask Dl H a = H a := by unfold mask; rw [if_neg h]
structure Hid (K : PySem.W.Frag) (μ : Mu) (G H : Hp) (Dl : Addr) (acc : List D) (xs : List V) (μ1 : Mu) (G1 H1 : Hp) : Prop where
  wd : Wd K G1 H1 μ1
  go : Go μ G (upd H Dl (.lst [])) μ1 G1 (mask Dl H1)
  hD : H1 Dl = some (.lst xs)
  gD : G1 Dl = none
  mD : μ1 Dl = none
  rl : RepL K G1 xs acc
theorem Hid.start {μ : Mu} {G H : Hp} {Dl : Addr} (w : Wd K G H μ) (hD : H Dl = none) : Hid K μ G H Dl [] [] μ G (upd H Dl (.lst [])) := by
  refine ⟨⟨fun a o e => by rw [upd_ne (ne_of_none (w.ex _ _ e) hD)]; exact w.ex _ _ e, fun p ds e => ?_⟩, ?_, upd_same, w.gnone hD, w.mnone hD, .nil⟩
  · obtain ⟨a1, vs', a2, a3⟩ := w.mu p ds e
    exact ⟨a1, vs', by rw [upd_ne (ne_of_none a2 hD)]; exact a2, a3⟩
  · have e : mask Dl (upd H Dl (.lst [])) = upd H Dl (.lst []) := by
      funext a
      by_cases h : a = Dl
      · rw [h, mask_same, upd_same]
      · rw [mask_ne h]
    rw [e]
    exact Go.refl _ _ _
theorem Hid.step {μ μ1 μ2 : Mu} {G H G1 H1 G2 H2 : Hp} {Dl : Addr} {acc : List D} {xs : List V} (h : Hid K μ G H Dl acc xs μ1 G1 H1) (w : Wd K G2 H2 μ2) (g : Go μ1 G1 H1 μ2 G2 H2) : Hid K μ G H Dl acc xs μ2 G2 H2 := by
  have hD2 := g.kp _ _ h.hD h.mD
  refine ⟨w, h.go.trans ⟨g.eg, fun a o e hm => ?_, fun a e => ?_, fun a e => ?_⟩, hD2, ?_, g.none_mu h.hD h.mD, h.rl.mono g.eg⟩
  · by_cases hne : a = Dl
    · rw [hne, mask_same] at e ⊢; exact e
    · rw [mask_ne hne] at e ⊢; exact g.kp a o e hm
  · rcases g.dm a e with z | z
    · exact .inl z
    · by_cases hne : a = Dl
      · rw [hne, h.hD] at z; cases z
      · right; rw [mask_ne hne]; exact z
  · rcases g.gf a e with z | z | z
    · exact .inl z
    · exact .inr (.inl z)
    · by_cases hne : a = Dl
      · rw [hne, h.hD] at z; cases z
      · right; right; rw [mask_ne hne]; exact z
  · cases e : G2 Dl with
    | none => rfl
    | some o =>
      rcases g.gf Dl (by rw [e]; simp) with z | z | z
      · exact absurd h.gD z
      · exact absurd h.mD z
      · rw [h.hD] at z; cases z
theorem Hid.push {μ μ1 : Mu} {G H G1 H1 : Hp} {Dl : Addr} {acc : List D} {xs : List V} {v : V} {y : D} (h : Hid K μ G H Dl acc xs μ1 G1 H1) (r : Rep K G1 v y) : Hid K μ G H Dl (acc ++ [y]) (xs ++ [v]) μ1 G1 (upd H1 Dl (.lst (xs ++ [v]))) := by
  refine ⟨⟨fun a o e => ?_, fun p ds e => ?_⟩, ?_, upd_same, h.gD, h.mD, h.rl.append (.cons r .nil)⟩
  · have hne : a ≠ Dl := ne_of_none e h.gD
    rw [upd_ne hne]; exact h.wd.ex _ _ e
  · obtain ⟨a1, vs', a2, a3⟩ := h.wd.mu p ds e
    have hne : p ≠ Dl := fun z => by rw [z, h.mD] at e; cases e
    exact ⟨a1, vs', by rw [upd_ne hne]; exact a2, a3⟩
  · have e : mask Dl (upd H1 Dl (.lst (xs ++ [v]))) = mask Dl H1 := by
      funext a
      by_cases hne : a = Dl
      · rw [hne, mask_same, mask_same]
      · rw [mask_ne hne, mask_ne hne, upd_ne hne]
    rw [e]
    exact h.go
/-- at the end the list is data -/
theorem Hid.done {μ μ1 : Mu} {G H G1 H1 : Hp} {Dl : Addr} {acc : List D} {xs : List V} (h : Hid K μ G H Dl acc xs μ1 G1 H1) (hD : H Dl = none) :
    Wd K (upd G1 Dl (.lst xs)) H1 μ1 ∧ Go μ G H μ1 (upd G1 Dl (.lst xs)) H1 ∧ Rep K (upd G1 Dl (.lst xs)) (.ref Dl) (.lst acc) := by
  refine ⟨⟨fun a o e => ?_, fun p ds e => ?_⟩, ⟨h.go.eg.trans (Ex.new h.gD), fun a o e hm => ?_, fun a e => ?_, fun a e => ?_⟩, .lst upd_same (h.rl.mono (Ex.new h.gD))⟩
  · by_cases hne : a = Dl
    · rw [hne, upd_same] at e; rw [hne, ← e]; exact h.hD
    · rw [upd_ne hne] at e; exact h.wd.ex _ _ e
  · obtain ⟨a1, vs', a2, a3⟩ := h.wd.mu p ds e
    have hne : p ≠ Dl := fun z => by rw [z, h.mD] at e; cases e
    exact ⟨by rw [upd_ne hne]; exact a1, vs', a2, a3.mono (Ex.new h.gD)⟩
  · have hne : a ≠ Dl := ne_of_none e hD
    have := h.go.kp a o (by rw [upd_ne hne]; exact e) hm
    rw [mask_ne hne] at this
    exact this
  · rcases h.go.dm a e with z | z
    · exact .inl z
    · by_cases hne : a = Dl
      · rw [hne]; exact .inr hD
      · rw [upd_ne hne] at z; exact .inr z
  · by_cases hne : a = Dl
    · rw [hne]; exact .inr (.inr hD)
    · rw [upd_ne hne] at e
      rcases h.go.gf a e with z | z | z
      · exact .inl z
      · exact .inr (.inl z)
      · rw [upd_ne hne] at z; exact .inr (.inr z)

set_option checkBinderAnnotations false in
def rInW (it1 : DIt) (rg1 : RG) (rt1 : RT) (re : RE) (vs1 : List Nat) (δ2 : Sl) (μ4 : Mu) (acc : List D) [fin : List D → Mu → Prop] : Prop := ∃ Inv1 : Nat → List D → Mu → Prop, Inv1 0 acc μ4 ∧ (∀ j acc μ, Inv1 j acc μ → it1.ok μ ∧ acc.length < 1000000) ∧
      (∀ j acc μ e, j < it1.n → it1.at_ j = some e → Inv1 j acc μ → rg1 e (wipeD δ2 vs1) μ fun δ5 μ5 => rt1 δ5 μ5 fun b μ6 => if b = true then re δ5 μ6 fun y μ7 => Inv1 (j + 1) (acc ++ [y]) μ7 else Inv1 (j + 1) acc μ6) ∧
      (∀ acc μ, Inv1 it1.n acc μ → fin acc μ)
set_option checkBinderAnnotations false in
def rLc2W (it : DIt) (rg : RG) (rt : RT) (ri1 : RI) (rg1 : RG) (rt1 : RT) (re : RE) (vs vs1 : List Nat) (δ : Sl) (μ1 : Mu) [fin : List D → Mu → Prop] : Prop := it.n ≤ 1000000 ∧ ∃ Inv : Nat → List D → Mu → Prop, Inv 0 [] μ1 ∧ (∀ i acc μ, Inv i acc μ → it.ok μ) ∧
  (∀ i acc μ d, i < it.n → it.at_ i = some d → Inv i acc μ → rg d (wipeD δ vs) μ fun δ2 μ2 => rt δ2 μ2 fun b μ3 => if b = true then
    ri1 δ2 μ3 fun it1 μ4 => @rInW it1 rg1 rt1 re vs1 δ2 μ4 acc fun acc μ => Inv (i + 1) acc μ
    else Inv (i + 1) acc μ3) ∧
  (∀ acc μ, Inv it.n acc μ → fin acc μ)
@[simp] def rLc2 (ri : RI) (rg : RG) (rt : RT) (ri1 : RI) (rg1 : RG) (rt1 : RT) (re : RE) (vs vs1 : List Nat) : RE := fun δ μ k => ri δ μ fun it μ1 => @rLc2W it rg rt ri1 rg1 rt1 re vs vs1 δ μ1 fun acc μ' => k (.lst acc) μ'
theorem okE_lc2 {wi wi1 : TI} {ri ri1 : RI} {g g1 : TG} {rg rg1 : RG} {tt tt1 : TT} {rt rt1 : RT} {te : TE} {re : RE} {vs vs1 js js1 : List Nat} (hi : OkI K wi ri) (hg : OkG K g rg js) (ht : OkT K tt rt) (hi1 : OkI K wi1 ri1) (hg1 : OkG K g1 rg1 js1) (ht1 : OkT K tt1 rt1) (he : OkE K te re)
    (hj : js.all (fun i => decide (i ∈ vs)) = true) (hj1 : js1.all (fun i => decide (i ∈ vs1)) = true) : OkE K (tLc2 wi g tt wi1 g1 tt1 te vs vs1) (rLc2 ri rg rt ri1 rg1 rt1 re vs vs1) := fun σ δ μ G H k Q S w q b =>
  hi σ δ μ G H _ _ S w q fun J it μ1 G1 H1 ⟨hn, Iv, i0, iok, istep, iend⟩ w1 gg1 io Dl hD => by
    have S1 := S.mono gg1.eg
    refine ⟨fun i m H2 => m = it.n - i ∧ i ≤ it.n ∧ ∃ acc xs μ2 G2, Iv i acc μ2 ∧ Hid K μ1 G1 H1 Dl acc xs μ2 G2 H2, ⟨it.n, rfl, Nat.zero_le _, [], [], μ1, G1, i0, Hid.start w1 hD⟩, ?_⟩
    rintro i m H2 ⟨hm, hi, acc, xs, μ2, G2, hI, hh⟩
    obtain ⟨hstop, hgo⟩ := io i μ2 G2 H2 hh.go.eg hh.wd (iok i acc μ2 hI)
    by_cases hin : i = it.n
    · obtain ⟨a1, a2, a3⟩ := hh.done hD
      exact .inl ⟨hstop hin.symm, b _ _ μ2 _ H2 (iend acc μ2 (hin ▸ hI)) a1 (gg1.trans a2) a3⟩
    · have hlt : i < it.n := Nat.lt_of_le_of_ne hi hin
      obtain ⟨hgo, hy⟩ := hgo hlt
      refine .inr ⟨hgo, fun H' => ∃ acc' xs' μ' G', Iv (i + 1) acc' μ' ∧ Hid K μ1 G1 H1 Dl acc' xs' μ' G' H', fun H' hN => ⟨it.n - (i + 1), by omega, rfl, hlt, hN⟩, fun x H' hyl => ?_⟩
      obtain ⟨d, G3, ed, w3, g3, rd⟩ := hy x H' hyl
      have h3 := hh.step w3 g3
      refine hg x d (L2.wipe σ vs) (wipeD δ vs) μ2 G3 H' _ _ ((S1.mono h3.go.eg).wipe vs) w3 rd (istep i acc μ2 d hlt ed hI) fun σ2 δ2 μ4 G4 H4 q4 S4 w4 g4 l4 => ⟨?_, ?_⟩
      · rw [← wipe_wipe σ vs]
        exact wipe_of l4.1 fun j hjv => l4.2 j fun z => hjv (of_decide_eq_true (List.all_eq_true.mp hj j z))
      · have h4 := h3.step w4 g4
        refine ht σ2 δ2 μ4 G4 H4 _ _ S4 w4 q4 fun c μ5 G5 H5 q5 w5 g5 => ?_
        have h5 := h4.step w5 g5
        cases c with
        | false => exact ⟨acc, xs, μ5, G5, q5, h5⟩
        | true =>
          refine hi1 σ2 δ2 μ5 G5 H5 _ _ (S4.mono g5.eg) w5 q5 fun J1 it1 μ6 G6 H6 ⟨Inv1, j0, jok, jstep, jend⟩ w6 g6 io1 => ?_
          have S6 := S4.mono (g5.eg.trans g6.eg)
          have h6 := h5.step w6 g6
          refine ⟨fun j m H7 => m = it1.n - j ∧ j ≤ it1.n ∧ ∃ acc xs μ7 G7, Inv1 j acc μ7 ∧ Ex G6 G7 ∧ Hid K μ1 G1 H1 Dl acc xs μ7 G7 H7, ⟨it1.n, rfl, Nat.zero_le _, acc, xs, μ6, G6, j0, Ex.refl _, h6⟩, ?_⟩
          rintro j m1 H7 ⟨hm1, hjn, acc7, xs7, μ7, G7, hI1, ex7, h7⟩
          obtain ⟨hok1, hlen⟩ := jok j acc7 μ7 hI1
          obtain ⟨hstop1, hgo1⟩ := io1 j μ7 G7 H7 ex7 h7.wd hok1
          by_cases hjin : j = it1.n
          · exact .inl ⟨hstop1 hjin.symm, acc7, xs7, μ7, G7, jend acc7 μ7 (hjin ▸ hI1), h7⟩
          · have hlt1 : j < it1.n := Nat.lt_of_le_of_ne hjn hjin
            obtain ⟨hgo1, hy1⟩ := hgo1 hlt1
            refine .inr ⟨hgo1, fun H' => ∃ acc' xs' μ' G', Inv1 (j + 1) acc' μ' ∧ Ex G6 G' ∧ Hid K μ1 G1 H1 Dl acc' xs' μ' G' H', fun H' hN => ⟨it1.n - (j + 1), by omega, rfl, hlt1, hN⟩, fun x1 H8 hyl1 => ?_⟩
            obtain ⟨e1, G8, ee1, w8, g8, re1⟩ := hy1 x1 H8 hyl1
            have h8 := h7.step w8 g8
            refine hg1 x1 e1 (L2.wipe σ2 vs1) (wipeD δ2 vs1) μ7 G8 H8 _ _ ((S6.mono (ex7.trans g8.eg)).wipe vs1) w8 re1 (jstep j acc7 μ7 e1 hlt1 ee1 hI1) fun σ3 δ3 μ9 G9 H9 q9 S9 w9 g9 l9 => ⟨?_, ?_⟩
            · rw [← wipe_wipe σ2 vs1]
              exact wipe_of l9.1 fun j hjv => l9.2 j fun z => hjv (of_decide_eq_true (List.all_eq_true.mp hj1 j z))
            · have h9 := h8.step w9 g9
              refine ht1 σ3 δ3 μ9 G9 H9 _ _ S9 w9 q9 fun c μ10 G10 H10 q10 w10 g10 => ?_
              have h10 := h9.step w10 g10
              have ex10 := ex7.trans (g8.eg.trans (g9.eg.trans g10.eg))
              cases c with
              | false => exact ⟨acc7, xs7, μ10, G10, q10, ex10, h10⟩
              | true =>
                refine he σ3 δ3 μ10 G10 H10 _ _ (S9.mono g10.eg) w10 q10 fun v y μ11 G11 H11 q11 w11 g11 r11 => ?_
                have h11 := h10.step w11 g11
                exact ⟨xs7, h11.hD, sz_lt (by rw [h11.rl.length]; exact hlen), acc7 ++ [y], xs7 ++ [v], μ11, G11, q11, ex10.trans g11.eg, h11.push r11⟩
end

/-! ### statements -/
@[simp] def rNext : RS := fun DD δ μ => DD.nx δ μ
@[simp] def rSeq (r s : RS) : RS := fun DD δ μ => r { DD with nx := s DD } δ μ
@[simp] def rDrop (re : RE) : RS := fun DD δ μ => re δ μ fun _ μ1 => DD.nx δ μ1
@[simp] def frzD (μ : Mu) (d : D) : D := match d with
  | .own p => match μ p with | some ds => .lst ds | none => .own p
  | d => d
@[simp] def frzM (μ : Mu) (d : D) : Mu := match d with
  | .own p => muDel μ p
  | _ => μ
@[simp] def rRet (re : RE) : RS := fun DD δ μ => re δ μ DD.rt
/-- a list of one's own is handed out as data -/
@[simp] def rRetF (re : RE) : RS := fun DD δ μ => re δ μ fun d μ1 => DD.rt (frzD μ1 d) (frzM μ1 d)
@[simp] def rRetN : RS := fun DD _ μ => DD.rt .non μ
@[simp] def rIfS (rt : RT) (r s : RS) : RS := fun DD δ μ => rt δ μ fun b μ1 => if b = true then r DD δ μ1 else s DD δ μ1
@[simp] def rNever : RS := fun _ _ _ => False
@[simp] def rAsg (re : RE) (rg : RG) : RS := fun DD δ μ => re δ μ fun d μ1 => rg d δ μ1 DD.nx
@[simp] def rPar (i j : Nat) (ra : RA) : RS := fun DD δ μ => ra δ μ fun ds μ1 => match ds with | [a, b] => DD.nx ((δ.set i (some a)).set j (some b)) μ1 | _ => False
@[simp] def rAug (i : Nat) (re : RE) (f : Int → Int → Int) : RS := fun DD δ μ => match δ[i]? with
  | some (some (.int a)) => re δ μ fun y μ1 => match y with | .int b => DD.nx (δ.set i (some (.int (f a b)))) μ1 | _ => False
  | _ => False
@[simp] def rBreak : RS := fun DD δ μ => DD.bk δ μ
@[simp] def rCont : RS := fun DD δ μ => DD.ct δ μ
def rForW (it : DIt) (rg : RG) (rb : RS) (DD : DEnds) (δ : Sl) (μ1 : Mu) : Prop := ∃ Inv : Nat → Sl → Mu → Prop, Inv 0 δ μ1 ∧ (∀ i δ μ, Inv i δ μ → it.ok μ) ∧
  (∀ i δ μ d, i < it.n → it.at_ i = some d → Inv i δ μ → rg d δ μ fun δ2 μ2 => rb { nx := Inv (i + 1), ct := Inv (i + 1), bk := DD.nx, rt := DD.rt } δ2 μ2) ∧ (∀ δ μ, Inv it.n δ μ → DD.nx δ μ)
def rFor (ri : RI) (rg : RG) (rb : RS) : RS := fun DD δ μ => ri δ μ fun it μ1 => rForW it rg rb DD δ μ1
def rWhile (rc : RT) (rb : RS) : RS := fun DD δ μ => ∃ Inv : Nat → Sl → Mu → Prop, (∃ m, Inv m δ μ) ∧ ∀ m δ μ, Inv m δ μ → rc δ μ fun b μ1 => if b = true then
  rb { nx := fun δ μ => ∃ m', m' < m ∧ Inv m' δ μ, ct := fun δ μ => ∃ m', m' < m ∧ Inv m' δ μ, bk := DD.nx, rt := DD.rt } δ μ1 else DD.nx δ μ1
/-- a word of the proof: the list in slot i does not change any more -/
@[simp] def rFrz (i : Nat) (r : RS) : RS := fun DD δ μ => match δ[i]? with
  | some (some (.own p)) => match μ p with | some ds => r DD (δ.set i (some (.lst ds))) (muDel μ p) | none => False
  | _ => False
section
variable {K : PySem.W.Frag} {t u : TS} {r s : RS} {te : TE} {re : RE} {tt : TT} {rt : RT}
theorem okS_next : OkS K tNext rNext := fun σ δ μ G H DD D S w q b => b.nx σ δ μ G H q S w (Go.refl _ _ _)
theorem okS_seq (h : OkS K t r) (h' : OkS K u s) : OkS K (tSeq t u) (rSeq r s) := fun σ δ μ G H DD D S w q b =>
  h σ δ μ G H _ _ S w q ⟨fun σ1 δ1 μ1 G1 H1 q1 S1 w1 g1 => h' σ1 δ1 μ1 G1 H1 DD D S1 w1 q1 (b.go g1), b.bk, b.ct, b.rt⟩
theorem okS_drop (h : OkE K te re) : OkS K (tDrop te) (rDrop re) := fun σ δ μ G H DD D S w q b =>
  h σ δ μ G H _ _ S w q fun v d μ1 G1 H1 q1 w1 g1 r1 => b.nx σ δ μ1 G1 H1 q1 (S.mono g1.eg) w1 g1
theorem okS_ret (h : OkE K te re) : OkS K (tRet te) (rRet re) := fun σ δ μ G H DD D S w q b => h σ δ μ G H _ _ S w q fun v d μ1 G1 H1 q1 w1 g1 r1 => b.rt v d μ1 G1 H1 q1 w1 g1 r1
theorem okS_retF (h : OkE K te re) : OkS K (tRet te) (rRetF re) := fun σ δ μ G H DD D S w q b => h σ δ μ G H _ _ S w q fun v d μ1 G1 H1 q1 w1 g1 r1 => by
  cases r1 with
  | own p =>
    cases e : μ1 p with
    | none =>
      have e1 : frzD μ1 (.own p) = .own p := by simp only [frzD, e]
      have e2 : frzM μ1 (.own p) = μ1 := by
        funext q; show (if q = p then none else μ1 q) = μ1 q
        by_cases hq : q = p
        · rw [if_pos hq, hq, e]
        · rw [if_neg hq]
      rw [e1, e2] at q1
      exact b.rt _ _ μ1 G1 H1 q1 w1 g1 (.own p)
    | some ds =>
      obtain ⟨vs, a1, a2, a3⟩ := w1.frz e
      have e1 : frzD μ1 (.own p) = .lst ds := by simp only [frzD, e]
      rw [e1] at q1
      exact b.rt _ _ _ _ H1 q1 a1 (g1.trans a3) a2
  | non => exact b.rt _ _ μ1 G1 H1 q1 w1 g1 .non
  | bl c => exact b.rt _ _ μ1 G1 H1 q1 w1 g1 (.bl c)
  | int c => exact b.rt _ _ μ1 G1 H1 q1 w1 g1 (.int c)
  | str c => exact b.rt _ _ μ1 G1 H1 q1 w1 g1 (.str c)
  | tup h c => exact b.rt _ _ μ1 G1 H1 q1 w1 g1 (.tup h c)
  | lst h c => exact b.rt _ _ μ1 G1 H1 q1 w1 g1 (.lst h c)
  | obj h c => exact b.rt _ _ μ1 G1 H1 q1 w1 g1 (.obj h c)
  | scr h => exact b.rt _ _ μ1 G1 H1 q1 w1 g1 (.scr h)
theorem okS_retN : OkS K tRetN rRetN := fun σ δ μ G H DD D S w q b => b.rt _ _ μ G H q w (Go.refl _ _ _) .non
theorem okS_if (h : OkT K tt rt) (h1 : OkS K t r) (h2 : OkS K u s) : OkS K (tIfS tt t u) (rIfS rt r s) := fun σ δ μ G H DD D S w q b => h σ δ μ G H _ _ S w q fun c μ1 G1 H1 q1 w1 g1 => by
  cases c with
  | true => exact h1 σ δ μ1 G1 H1 DD D (S.mono g1.eg) w1 q1 (b.go g1)
  | false => exact h2 σ δ μ1 G1 H1 DD D (S.mono g1.eg) w1 q1 (b.go g1)
theorem okS_never : OkS K tNever rNever := fun σ δ μ G H DD D S w q b => q
theorem okS_asg {g : TG} {rg : RG} {js : List Nat} (h : OkE K te re) (hg : OkG K g rg js) : OkS K (tAsg te g) (rAsg re rg) := fun σ δ μ G H DD D S w q b => h σ δ μ G H _ _ S w q fun v d μ1 G1 H1 q1 w1 g1 r1 =>
  hg v d σ δ μ1 G1 H1 _ _ (S.mono g1.eg) w1 r1 q1 fun σ2 δ2 μ2 G2 H2 q2 S2 w2 g2 _ => b.nx σ2 δ2 μ2 G2 H2 q2 S2 w2 (g1.trans g2)
theorem okS_par {i j : Nat} {ta : TA} {ra : RA} (h : OkA K ta ra) : OkS K (tPar i j ta) (rPar i j ra) := fun σ δ μ G H DD D S w q b => h σ δ μ G H _ _ S w q fun vs ds μ1 G1 H1 q1 w1 g1 r1 => by
  split at q1
  · rename_i x y
    cases r1 with
    | cons a rr =>
      cases rr with
      | cons a' rr =>
        cases rr
        exact ⟨_, _, rfl, b.nx _ _ μ1 G1 H1 q1 (((S.mono g1.eg).set a i).set a' j) w1 g1⟩
  · exact q1.elim
theorem okS_aug {i : Nat} {f : Int → Int → Int} (h : OkE K te re) : OkS K (tAug i te (ipI f)) (rAug i re f) := fun σ δ μ G H DD D S w q b => by
  unfold rAug at q
  split at q
  · rename_i a e
    obtain ⟨v, h1, h2⟩ := S.at_ i _ e
    cases h2
    refine ⟨_, h1, h σ δ μ G H _ _ S w q fun v d μ1 G1 H1 q1 w1 g1 r1 => ?_⟩
    cases r1 with
    | int c => exact ⟨_, c, rfl, rfl, b.nx _ _ μ1 G1 H1 q1 ((S.mono g1.eg).set (.int _) i) w1 g1⟩
    | _ => exact q1.elim
  · exact q.elim
theorem okS_break : OkS K tBreak rBreak := fun σ δ μ G H DD D S w q b => b.bk σ δ μ G H q S w (Go.refl _ _ _)
theorem okS_cont : OkS K tCont rCont := fun σ δ μ G H DD D S w q b => b.ct σ δ μ G H q S w (Go.refl _ _ _)
theorem okS_for {wi : TI} {ri : RI} {g : TG} {rg : RG} {js : List Nat} (hi : OkI K wi ri) (hg : OkG K g rg js) (hb : OkS K t r) : OkS K (tFor wi g t) (rFor ri rg r) := fun σ δ μ G H DD D S w q b =>
  hi σ δ μ G H _ _ S w q fun J it μ1 G1 H1 ⟨Iv, i0, iok, istep, iend⟩ w1 g1 io => by
    refine ⟨fun i m σ2 H2 => m = it.n - i ∧ i ≤ it.n ∧ ∃ δ2 μ2 G2, Iv i δ2 μ2 ∧ SlOk K G2 σ2 δ2 ∧ Wd K G2 H2 μ2 ∧ Go μ1 G1 H1 μ2 G2 H2, ⟨it.n, rfl, Nat.zero_le _, δ, μ1, G1, i0, S.mono g1.eg, w1, Go.refl _ _ _⟩, ?_⟩
    rintro i m σ2 H2 ⟨hm, hi, δ2, μ2, G2, hI, S2, w2, g2⟩
    obtain ⟨hstop, hgo⟩ := io i μ2 G2 H2 g2.eg w2 (iok i δ2 μ2 hI)
    by_cases hin : i = it.n
    · exact .inl ⟨hstop hin.symm, b.nx σ2 δ2 μ2 G2 H2 (iend δ2 μ2 (hin ▸ hI)) S2 w2 (g1.trans g2)⟩
    · have hlt : i < it.n := Nat.lt_of_le_of_ne hi hin
      obtain ⟨hgo, hy⟩ := hgo hlt
      refine .inr ⟨hgo, fun σ3 H3 => ∃ δ3 μ3 G3, Iv (i + 1) δ3 μ3 ∧ SlOk K G3 σ3 δ3 ∧ Wd K G3 H3 μ3 ∧ Go μ1 G1 H1 μ3 G3 H3, fun σ3 H3 hN => ⟨it.n - (i + 1), by omega, rfl, hlt, hN⟩, fun x H3 hyl => ?_⟩
      obtain ⟨d, G3, ed, w3, g3, rd⟩ := hy x H3 hyl
      refine hg x d σ2 δ2 μ2 G3 H3 _ _ (S2.mono g3.eg) w3 rd (istep i δ2 μ2 d hlt ed hI) fun σ4 δ4 μ4 G4 H4 q4 S4 w4 g4 _ => ?_
      have g14 := (g2.trans g3).trans g4
      exact hb σ4 δ4 μ4 G4 H4 _ _ S4 w4 q4 ⟨fun σ5 δ5 μ5 G5 H5 q5 S5 w5 g5 => ⟨δ5, μ5, G5, q5, S5, w5, g14.trans g5⟩, fun σ5 δ5 μ5 G5 H5 q5 S5 w5 g5 => b.nx σ5 δ5 μ5 G5 H5 q5 S5 w5 ((g1.trans g14).trans g5),
        fun σ5 δ5 μ5 G5 H5 q5 S5 w5 g5 => ⟨δ5, μ5, G5, q5, S5, w5, g14.trans g5⟩, fun v d μ5 G5 H5 q5 w5 g5 r5 => b.rt v d μ5 G5 H5 q5 w5 ((g1.trans g14).trans g5) r5⟩
theorem okS_while (hc : OkT K tt rt) (hb : OkS K t r) : OkS K (tWhile tt t) (rWhile rt r) := fun σ δ μ G H DD D S w ⟨Iv, ⟨m0, i0⟩, istep⟩ b => by
  refine ⟨fun m σ2 H2 => ∃ δ2 μ2 G2, Iv m δ2 μ2 ∧ SlOk K G2 σ2 δ2 ∧ Wd K G2 H2 μ2 ∧ Go μ G H μ2 G2 H2, ⟨m0, δ, μ, G, i0, S, w, Go.refl _ _ _⟩, ?_⟩
  rintro m σ2 H2 ⟨δ2, μ2, G2, hI, S2, w2, g2⟩
  refine hc σ2 δ2 μ2 G2 H2 _ _ S2 w2 (istep m δ2 μ2 hI) fun c μ3 G3 H3 q3 w3 g3 => ?_
  cases c with
  | false => exact b.nx σ2 δ2 μ3 G3 H3 q3 (S2.mono g3.eg) w3 (g2.trans g3)
  | true =>
    refine ⟨fun σ4 H4 => ∃ m', m' < m ∧ ∃ δ4 μ4 G4, Iv m' δ4 μ4 ∧ SlOk K G4 σ4 δ4 ∧ Wd K G4 H4 μ4 ∧ Go μ G H μ4 G4 H4, fun σ4 H4 h => h, ?_⟩
    exact hb σ2 δ2 μ3 G3 H3 _ _ (S2.mono g3.eg) w3 q3 ⟨fun σ5 δ5 μ5 G5 H5 ⟨m', hm, q5⟩ S5 w5 g5 => ⟨m', hm, δ5, μ5, G5, q5, S5, w5, (g2.trans g3).trans g5⟩, fun σ5 δ5 μ5 G5 H5 q5 S5 w5 g5 => b.nx σ5 δ5 μ5 G5 H5 q5 S5 w5 ((g2.trans g3).trans g5),
      fun σ5 δ5 μ5 G5 H5 ⟨m', hm, q5⟩ S5 w5 g5 => ⟨m', hm, δ5, μ5, G5, q5, S5, w5, (g2.trans g3).trans g5⟩, fun v d μ5 G5 H5 q5 w5 g5 r5 => b.rt v d μ5 G5 H5 q5 w5 ((g2.trans g3).trans g5) r5⟩
theorem okS_frz {i : Nat} (h : OkS K t r) : OkS K t (rFrz i r) := fun σ δ μ G H DD D S w q b => by
  unfold rFrz at q
  split at q
  · rename_i p e
    split at q
    · rename_i ds e2
      obtain ⟨v, h1, h2⟩ := S.at_ i _ e
      cases h2
      obtain ⟨vs, a1, a2, a3⟩ := w.frz e2
      have hs : σ.set i (some (.ref p)) = σ := by
        apply List.ext_getElem?
        intro j
        by_cases hj : i = j
        · subst hj
          rw [List.getElem?_set_self (List.getElem?_eq_some_iff.mp h1).1, h1]
        · rw [List.getElem?_set_ne hj]
      have S2 := (S.mono a3.eg).set a2 i
      rw [hs] at S2
      exact h σ _ _ _ H DD D S2 a1 q (b.go a3)
    · exact q.elim
  · exact q.elim
end
end DL


set_option Elab.async false
set_option linter.all false
set_option maxRecDepth 100000
set_option maxHeartbeats 4000000
/-! DLf: builtins, functions over data. -/
namespace DL
open PySem PySem.Spec PyProof.Rows L2 SlX

section
variable {K : PySem.W.Frag}
theorem OkOp.or {r r' : R2} {f f' : F2} (h : OkOp K r f) (h' : OkOp K r' f') : OkOp K (fun x y H Q => r x y H Q ∨ r' x y H Q) (fun x y μ k => f x y μ k ∨ f' x y μ k) := fun x y a b μ G H k Q w rx ry q t => by
  rcases q with q | q
  · exact .inl (h x y a b μ G H k Q w rx ry q t)
  · exact .inr (h' x y a b μ G H k Q w rx ry q t)
theorem one_arg {G : Hp} {xs : List V} {d : D} (r : RepL K G xs [d]) : ∃ v, xs = [v] ∧ Rep K G v d := by
  cases r with
  | cons a t => cases t; exact ⟨_, rfl, a⟩
theorem two_args {G : Hp} {xs : List V} {d e : D} (r : RepL K G xs [d, e]) : ∃ v u, xs = [v, u] ∧ Rep K G v d ∧ Rep K G u e := by
  cases r with
  | cons a t =>
    obtain ⟨u, rfl, b⟩ := one_arg t
    exact ⟨_, _, rfl, a, b⟩

/-- len -/
@[simp] def lenD (μ : Mu) : D → Option Nat
  | .lst ds => some ds.length
  | .own p => (μ p).map List.length
  | .tup ds => some ds.length
  | .str x => if x.length ≤ 1000000 then some x.length else none
  | .scr ns => some ns.length
  | _ => none
@[simp] def oLen : FL := fun xs μ k => match xs with | [x] => ∃ n, lenD μ x = some n ∧ k (.int (n : Int)) μ | _ => False
theorem okLen : OkC K (fun xs H Q => ∃ x n, xs = [x] ∧ LenV K x H n ∧ Q (.int (n : Nat)) H) oLen := fun xs as μ G H k Q w r q t => by
  unfold oLen at q
  split at q
  · rename_i x
    obtain ⟨n, e, q⟩ := q
    obtain ⟨v, rfl, rx⟩ := one_arg r
    refine ⟨v, n, rfl, ?_, t _ _ μ G H q w (Go.refl _ _ _) (.int _)⟩
    cases rx with
    | lst h rl => cases e; exact .inl ⟨_, SqL.of (w.ex _ _ h), rl.length.symm⟩
    | own p =>
      cases e2 : μ p with
      | none => simp only [lenD, e2] at e; cases e
      | some ds =>
        simp only [lenD, e2] at e
        cases e
        obtain ⟨_, vs, h, rl⟩ := w.mu p ds e2
        exact .inl ⟨vs, SqL.of h, rl.length.symm⟩
    | tup h rl => cases e; exact .inr ⟨_, w.ex.t h, rl.length.symm⟩
    | str x =>
      simp only [lenD] at e
      split at e
      · rename_i hl
        cases e
        exact ⟨sz_of hl, rfl⟩
      · cases e
    | scr h => cases e; exact .inl ⟨_, w.ex.l h, (List.length_map _).symm⟩
    | _ => cases e
  · exact q.elim
@[simp] def oAbs : FL := fun xs μ k => match xs with | [.int i] => k (.int (if i < 0 then -i else i)) μ | _ => False
theorem okAbs : OkC K (fun xs H Q => ∃ i, xs = [.int i] ∧ Q (.int (if i < 0 then -i else i)) H) oAbs := fun xs as μ G H k Q w r q t => by
  unfold oAbs at q
  split at q
  · obtain ⟨v, rfl, rx⟩ := one_arg r
    cases rx
    exact ⟨_, rfl, t _ _ μ G H q w (Go.refl _ _ _) (.int _)⟩
  · exact q.elim
@[simp] def o2I (g : Int → Int → Int) : FL := fun xs μ k => match xs with | [.int i, .int j] => k (.int (g i j)) μ | _ => False
theorem ok2I {g : Int → Int → Int} : OkC K (fun xs H Q => ∃ i j, xs = [.int i, .int j] ∧ Q (.int (g i j)) H) (o2I g) := fun xs as μ G H k Q w r q t => by
  unfold o2I at q
  split at q
  · obtain ⟨v, u, rfl, rx, ry⟩ := two_args r
    cases rx; cases ry
    exact ⟨_, _, rfl, t _ _ μ G H q w (Go.refl _ _ _) (.int _)⟩
  · exact q.elim
@[simp] def oInt : FL := fun xs μ k => match xs with | [.int i] => k (.int i) μ | [.bl b] => k (.int (if b then 1 else 0)) μ | _ => False
theorem okInt : OkC K (fun xs H Q => (∃ i, xs = [.int i] ∧ Q (.int i) H) ∨ ∃ k, xs = [.bl k] ∧ Q (.int (if k then 1 else 0)) H) oInt := fun xs as μ G H k Q w r q t => by
  unfold oInt at q
  split at q
  · obtain ⟨v, rfl, rx⟩ := one_arg r
    cases rx
    exact .inl ⟨_, rfl, t _ _ μ G H q w (Go.refl _ _ _) (.int _)⟩
  · obtain ⟨v, rfl, rx⟩ := one_arg r
    cases rx
    exact .inr ⟨_, rfl, t _ _ μ G H q w (Go.refl _ _ _) (.int _)⟩
  · exact q.elim
@[simp] def oStrI : FL := fun xs μ k => match xs with | [.int i] => i.natAbs.log2 < 1920 ∧ k (.str (toString i)) μ | _ => False
theorem okStrI : OkC K (fun xs H Q => ∃ i : Int, xs = [.int i] ∧ i.natAbs.log2 < 1920 ∧ Q (.str (toString i)) H) oStrI := fun xs as μ G H k Q w r q t => by
  unfold oStrI at q
  split at q
  · obtain ⟨v, rfl, rx⟩ := one_arg r
    cases rx
    exact ⟨_, rfl, q.1, t _ _ μ G H q.2 w (Go.refl _ _ _) (.str _)⟩
  · exact q.elim
/-- what the data is as a row of ints, of bools -/
def asI (μ : Mu) (d : D) (ns : List Int) : Prop := asL μ d = some (ns.map D.int)
theorem asI_out {μ : Mu} {G H : Hp} {v : V} {d : D} {ns : List Int} (w : Wd K G H μ) (r : Rep K G v d) (e : asL μ d = some (ns.map D.int)) : ∃ a, v = .ref a ∧ H a = some (.lst (ns.map V.int)) := by
  obtain ⟨a, vs, rfl, h, rl⟩ := asL_out w r e
  rw [rl.ints] at h
  exact ⟨a, rfl, h⟩
set_option checkBinderAnnotations false in
def hSum (xs : List D) (μ : Mu) [k : DK] : Prop := match xs with | [x] => ∃ ns : List Int, asL μ x = some (ns.map D.int) ∧ k (.int ns.sum) μ | _ => False
@[simp] def oSum : FL := fun xs μ k => @hSum xs μ k
theorem okSum : OkC K (rSum K) oSum := fun xs as μ G H k Q w r q t => by
  unfold oSum hSum at q
  split at q
  · obtain ⟨ns, e, q⟩ := q
    obtain ⟨v, rfl, rx⟩ := one_arg r
    obtain ⟨a, rfl, h⟩ := asI_out w rx e
    exact ⟨a, ns, rfl, SqL.of h, t _ _ μ G H q w (Go.refl _ _ _) (.int _)⟩
  · exact q.elim
theorem asB_list {μ : Mu} {G H : Hp} {v : V} {d : D} {ns : List Bool} (w : Wd K G H μ) (r : Rep K G v d) (e : asL μ d = some (ns.map D.bl)) : ∃ a, v = .ref a ∧ H a = some (.lst (ns.map V.bl)) := by
  obtain ⟨a, vs, rfl, h, rl⟩ := asL_out w r e
  rw [rl.bls] at h
  exact ⟨a, rfl, h⟩
set_option checkBinderAnnotations false in
def hAll (xs : List D) (μ : Mu) [k : DK] : Prop := match xs with | [x] => ∃ bs : List Bool, asL μ x = some (bs.map D.bl) ∧ k (.bl (bs.all id)) μ | _ => False
@[simp] def oAll : FL := fun xs μ k => @hAll xs μ k
theorem okAll : OkC K (rAll K) oAll := fun xs as μ G H k Q w r q t => by
  unfold oAll hAll at q
  split at q
  · obtain ⟨ns, e, q⟩ := q
    obtain ⟨v, rfl, rx⟩ := one_arg r
    obtain ⟨a, rfl, h⟩ := asB_list w rx e
    exact ⟨a, ns, rfl, SqL.of h, t _ _ μ G H q w (Go.refl _ _ _) (.bl _)⟩
  · exact q.elim
set_option checkBinderAnnotations false in
def hAny (xs : List D) (μ : Mu) [k : DK] : Prop := match xs with | [x] => ∃ bs : List Bool, asL μ x = some (bs.map D.bl) ∧ k (.bl (bs.any id)) μ | _ => False
@[simp] def oAny : FL := fun xs μ k => @hAny xs μ k
theorem okAny : OkC K (rAny K) oAny := fun xs as μ G H k Q w r q t => by
  unfold oAny hAny at q
  split at q
  · obtain ⟨ns, e, q⟩ := q
    obtain ⟨v, rfl, rx⟩ := one_arg r
    obtain ⟨a, rfl, h⟩ := asB_list w rx e
    exact ⟨a, ns, rfl, SqL.of h, t _ _ μ G H q w (Go.refl _ _ _) (.bl _)⟩
  · exact q.elim
/-- list(x) -/
@[simp] def oList : FL := fun xs μ k => match xs with | [x] => ∃ ds, asQ μ x = some ds ∧ k (.lst ds) μ | _ => False
@[simp] def oListO : FL := fun xs μ k => match xs with | [x] => ∃ ds, asQ μ x = some ds ∧ ∀ p, μ p = none → k (.own p) (muSet μ p ds) | _ => False
theorem okList : OkC K (fun xs H Q => ∃ p ys, xs = [.ref p] ∧ (SqL K H p ys ∨ SqT K H p ys) ∧ ∀ l, H l = none → Q (.ref l) (upd H l (.lst ys))) oList := fun xs as μ G H k Q w r q t => by
  unfold oList at q
  split at q
  · obtain ⟨ds, e, q⟩ := q
    obtain ⟨v, rfl, rx⟩ := one_arg r
    obtain ⟨a, vs, rfl, h, rl⟩ := asQ_out w rx e
    exact ⟨a, vs, rfl, h, fun l hl => mkLst w rl q t l hl⟩
  · exact q.elim
theorem okListO : OkC K (fun xs H Q => ∃ p ys, xs = [.ref p] ∧ (SqL K H p ys ∨ SqT K H p ys) ∧ ∀ l, H l = none → Q (.ref l) (upd H l (.lst ys))) oListO := fun xs as μ G H k Q w r q t => by
  unfold oListO at q
  split at q
  · obtain ⟨ds, e, q⟩ := q
    obtain ⟨v, rfl, rx⟩ := one_arg r
    obtain ⟨a, vs, rfl, h, rl⟩ := asQ_out w rx e
    exact ⟨a, vs, rfl, h, fun l hl => mkOwn w rl q t l hl⟩
  · exact q.elim
/-- tuple(x) -/
@[simp] def oTuple : FL := fun xs μ k => match xs with | [x] => ∃ ds, asQ μ x = some ds ∧ k (.tup ds) μ | _ => False
theorem okTuple : OkC K (fun xs H Q => ∃ p ys, xs = [.ref p] ∧ ((SqL K H p ys ∧ ∀ l, H l = none → Q (.ref l) (upd H l (.tup ys))) ∨ (SqT K H p ys ∧ Q (.ref p) H))) oTuple := fun xs as μ G H k Q w r q t => by
  unfold oTuple at q
  split at q
  · obtain ⟨ds, e, q⟩ := q
    obtain ⟨v, rfl, rx⟩ := one_arg r
    cases rx with
    | lst h rl => cases e; exact ⟨_, _, rfl, .inl ⟨SqL.of (w.ex _ _ h), fun l hl => mkTup w rl q t l hl⟩⟩
    | own p =>
      obtain ⟨_, vs, h, rl⟩ := w.mu p ds e
      exact ⟨_, _, rfl, .inl ⟨SqL.of h, fun l hl => mkTup w rl q t l hl⟩⟩
    | tup h rl => cases e; exact ⟨_, _, rfl, .inr ⟨w.ex.t h, t _ _ μ G H q w (Go.refl _ _ _) (.tup h rl)⟩⟩
    | _ => cases e
  · exact q.elim
/-- isinstance(x, T), T a built-in class; the class's value itself is not read as data -/
@[simp] def tyN (μ : Mu) : D → Option String
  | .non => some "NoneType"
  | .bl _ => some "bool"
  | .int _ => some "int"
  | .str _ => some "str"
  | .tup _ => some "tuple"
  | .lst _ => some "list"
  | .own p => if (μ p).isSome then some "list" else none
  | _ => none
theorem tyN_out {μ : Mu} {G H : Hp} {v : V} {d : D} {T : String} (w : Wd K G H μ) (r : Rep K G v d) (e : tyN μ d = some T) : TyX K H v (.type T) := by
  cases r with
  | non => cases e; exact .base .non
  | bl b => cases e; exact .base (.bl b)
  | int b => cases e; exact .base (.int b)
  | str b => cases e; exact .base (.str b)
  | tup h rl =>
    cases e
    rcases w.ex.t h with (h | ⟨o, h⟩) | ⟨o, its, n, h, hc, _⟩
    · exact .base (.tup h)
    · exact .fTuple h
    · exact .kTuple h hc
  | lst h rl => cases e; exact .base (.lst (w.ex _ _ h))
  | own p =>
    cases e2 : μ p with
    | none => simp [tyN, e2] at e
    | some ds =>
      have e3 : T = "list" := by simp [tyN, e2] at e; exact e.symm
      subst e3
      obtain ⟨_, vs, h, _⟩ := w.mu p ds e2
      exact .base (.lst h)
  | _ => cases e
@[simp] def rIsiB (T : String) (re : RE) : RE := fun δ μ k => re δ μ fun x μ1 => ∃ a b, tyN μ1 x = some a ∧ kitB a T = some b ∧ k (.bl b) μ1
theorem okE_isi {T : String} {te : TE} {re : RE} (h : OkE K te re) : OkE K (tCB (rIsi K) (tCons te (tCons (tC (.ty T)) tNil))) (rIsiB T re) := fun σ δ μ G H k Q S w q b =>
  h σ δ μ G H _ _ S w q fun v d μ1 G1 H1 ⟨a, c, e1, e2, q1⟩ w1 g1 r1 => ⟨v, .ty T, .type a, .type T, c, rfl, .ty T, tyN_out w1 r1 e1, kit_ty e2, b _ _ μ1 G1 H1 q1 w1 g1 (.bl c)⟩
end

/-! ### methods of a list that changes -/
section
variable {K : PySem.W.Frag}
@[simp] def rApp (ro re : RE) : RE := fun δ μ k => ro δ μ fun o μ1 => match o with
  | .own p => μ1 p ≠ none ∧ re δ μ1 fun d μ2 => ∃ ds, μ2 p = some ds ∧ ds.length < 1000000 ∧ k .non (muSet μ2 p (ds ++ [d]))
  | _ => False
theorem own_ty {μ : Mu} {G H : Hp} {p : Addr} (w : Wd K G H μ) (h : μ p ≠ none) : tyV K "list" (.ref p) H := by
  cases e2 : μ p with
  | none => exact absurd e2 h
  | some ds =>
    obtain ⟨_, vs, h, _⟩ := w.mu p ds e2
    exact .inl ⟨rfl, vs, SqL.of h⟩
theorem okE_app {to te : TE} {ro re : RE} (ho : OkE K to ro) (he : OkE K te re) : OkE K (tBM K "list" rAppend to (tCons te tNil)) (rApp ro re) := fun σ δ μ G H k Q S w q b =>
  ho σ δ μ G H _ _ S w q fun x o μ1 G1 H1 q1 w1 g1 r1 => by
    cases r1 with
    | own p =>
      obtain ⟨hp, q1⟩ := q1
      refine ⟨own_ty w1 hp, he σ δ μ1 G1 H1 _ _ (S.mono g1.eg) w1 q1 fun v d μ2 G2 H2 ⟨ds, e, hl, q2⟩ w2 g2 r2 => ?_⟩
      obtain ⟨_, vs, h, rl⟩ := w2.mu p ds e
      have rl2 : RepL K G2 (vs ++ [v]) (ds ++ [d]) := rl.append (.cons r2 .nil)
      exact ⟨p, vs, v, rfl, rfl, h, sz_lt (by rw [rl.length]; exact hl), b _ _ _ G2 _ q2 (w2.wr e rl2) ((g1.trans g2).trans (Go.wr e)) .non⟩
    | _ => exact q1.elim
/-- xs.extend(ys), ys another list -/
@[simp] def rExt (ro re : RE) : RE := fun δ μ k => ro δ μ fun o μ1 => match o with
  | .own p => μ1 p ≠ none ∧ re δ μ1 fun d μ2 => ∃ ds es, μ2 p = some ds ∧ asL μ2 d = some es ∧ ds.length + es.length ≤ 1000000 ∧ k .non (muSet μ2 p (ds ++ es))
  | _ => False
theorem okE_ext {to te : TE} {ro re : RE} (ho : OkE K to ro) (he : OkE K te re) : OkE K (tBM K "list" rExtend to (tCons te tNil)) (rExt ro re) := fun σ δ μ G H k Q S w q b =>
  ho σ δ μ G H _ _ S w q fun x o μ1 G1 H1 q1 w1 g1 r1 => by
    cases r1 with
    | own p =>
      obtain ⟨hp, q1⟩ := q1
      refine ⟨own_ty w1 hp, he σ δ μ1 G1 H1 _ _ (S.mono g1.eg) w1 q1 fun v d μ2 G2 H2 ⟨ds, es, e, e2, hl, q2⟩ w2 g2 r2 => ?_⟩
      obtain ⟨_, vs, h, rl⟩ := w2.mu p ds e
      obtain ⟨a, ws, rfl, h2, rl2⟩ := asL_out w2 r2 e2
      exact ⟨p, a, vs, ws, rfl, rfl, h, h2, sz_of (by rw [rl.length, rl2.length]; exact hl), b _ _ _ G2 _ q2 (w2.wr e (rl.append rl2)) ((g1.trans g2).trans (Go.wr e)) .non⟩
    | _ => exact q1.elim
end

/-! ### functions -/
abbrev DSp := List D → Mu → DK → Prop
def spOf (K : PySem.W.Frag) (dsp : DSp) : Sp := fun vs H Q _ => ∃ ds μ G k, Wd K G H μ ∧ RepL K G vs ds ∧ dsp ds μ k ∧ Then K μ G H k Q
set_option checkBinderAnnotations false in
def dCall (dsp : DSp) (ds : List D) (μ : Mu) [k : DK] : Prop := dsp ds μ k
@[simp] def rCall (dsp : DSp) (ra : RA) : RE := fun δ μ k => ra δ μ fun ds μ1 => @dCall dsp ds μ1 k
@[simp] def startD (N : List Str) (ds : List D) : Sl := ds.map some ++ List.replicate (N.length - ds.length) none
section
variable {K : PySem.W.Frag}
theorem okE_call {dsp : DSp} {E : XK} {t : TA} {r : RA} (h : OkA K t r) : OkE K (tCall (spOf K dsp) [] E t) (rCall dsp r) := fun σ δ μ G H k Q S w q b =>
  h σ δ μ G H _ _ S w q fun vs ds μ1 G1 H1 q1 w1 g1 r1 => by
    show spOf K dsp (vs ++ []) H1 Q E
    rw [List.append_nil]
    exact ⟨ds, μ1, G1, k, w1, r1, q1, fun v d μ' G' H' qk w' g' r' => b v d μ' G' H' qk w' (g1.trans g') r'⟩
theorem RepL.somes {G : Hp} : ∀ {vs : List V} {ds : List D} {i : Nat} {d : D}, RepL K G vs ds → (ds.map some)[i]? = some (some d) → ∃ v, (vs.map some)[i]? = some (some v) ∧ Rep K G v d := fun {vs ds i d} r e => by
  rw [List.getElem?_map] at e
  cases q : ds[i]? with
  | none => rw [q] at e; cases e
  | some d' =>
    rw [q] at e
    cases e
    obtain ⟨v, h1, h2⟩ := r.getD' q
    exact ⟨v, by rw [List.getElem?_map, h1]; rfl, h2⟩
theorem start_ok {G : Hp} {vs : List V} {ds : List D} {N : List Str} (r : RepL K G vs ds) : SlOk K G (L2.start N vs) (startD N ds) := by
  unfold L2.start startD
  rw [r.length]
  refine ⟨by simp [r.length], fun i d e => ?_⟩
  by_cases hi : i < ds.length
  · rw [List.getElem?_append_left (by simpa using hi)] at e
    obtain ⟨v, h1, h2⟩ := RepL.somes r e
    exact ⟨v, by rw [List.getElem?_append_left (by rw [List.length_map, r.length]; exact hi)]; exact h1, h2⟩
  · rw [List.getElem?_append_right (by simpa using hi), List.getElem?_replicate] at e
    split at e <;> cases e
/-- a def as its callers want it -/
structure FnD (P : Program) (w : World) (K : PySem.W.Frag) (mg : Str → Option Value) (base : Heap) (x : Str) (k : Nat) (dsp : DSp) : Prop where
  ex : ∃ (f : Addr) (fd : FuncData) (ps : List Str), FnOk P w K mg base CX0 k f fd ps (spOf K dsp) ∧ mg x = some (.ref f) ∧ PySem.W.keepIn K (.ref f) = true ∧ Binds K fd ps []
/-- the rule for a def -/
theorem fn_mk {P : Program} {w : World} {mg : Str → Option Value} {base : Heap} {x qual : Str} {st : Stmt} {f : Addr} {fd : FuncData} {N ps : List Str} {k : Nat} {dsp : DSp} {t : TS} {r : RS} (F : Fun K x qual st f fd) (S : FnScope N ps (defScope st))
    (len : ∀ ds μ k, dsp ds μ k → ds.length = ps.length)
    (body : ∀ (cdv : Value) (A : Around) (outer : List Env) (s : Shared) (H : Hp) (E : XK), Room k (A.deeper (envOfC qual (defScope st) s.heap.objs.size f cdv)) → DSs (cxOf CX0 P w K mg base N qual (defScope st) f cdv A outer s H E).nox (defBody st) t r)
    (vc : ∀ ds μ k, dsp ds μ k → r { nx := fun _ μ' => k .non μ', rt := k } (startD N ds) μ) : FnOk P w K mg base CX0 (k + 1) f fd ps (spOf K dsp) := by
  refine F.ok S (fun vs H Q E h => ?_) (fun cdv A outer s H vs Q E hr h => ?_)
  · obtain ⟨ds, μ, G, k, _, rl, hd, _⟩ := h
    rw [rl.length]
    exact len ds μ k hd
  · obtain ⟨ds, μ, G, k', wd, rl, hd, th⟩ := h
    have B := body cdv A outer s H E hr
    refine ⟨t, B.p, B.o (L2.start N vs) (startD N ds) μ G H _ _ (start_ok rl) wd (vc ds μ k' hd) ⟨fun σ' δ' μ' G' H' h S' w' g' => th _ _ μ' G' H' h w' g' .non, fun _ _ _ _ _ h => h.elim, fun _ _ _ _ _ h => h.elim, fun v d μ' G' H' h w' g' r' => th v d μ' G' H' h w' g' r'⟩⟩
/-- less is known of the own lists -/
def Sub (μ' μ : Mu) : Prop := ∀ p ds, μ' p = some ds → μ p = some ds
theorem Wd.sub {G H : Hp} {μ μ' : Mu} (w : Wd K G H μ) (s : Sub μ' μ) : Wd K G H μ' := ⟨w.ex, fun p ds e => w.mu p ds (s p ds e)⟩
theorem Go.sub {μ0 μ μ' : Mu} {G0 H0 G H : Hp} (g : Go μ0 G0 H0 μ G H) (s : Sub μ' μ) : Go μ0 G0 H0 μ' G H := ⟨g.eg, g.kp, fun a h => g.dm a (fun z => h (by
  cases e : μ' a with
  | none => rfl
  | some d => rw [s a d e] at z; cases z)), g.gf⟩
/-- the rule for a def; own lists may be left behind -/
theorem fn_mkW {P : Program} {w : World} {mg : Str → Option Value} {base : Heap} {x qual : Str} {st : Stmt} {f : Addr} {fd : FuncData} {N ps : List Str} {k : Nat} {dsp : DSp} {t : TS} {r : RS} (F : Fun K x qual st f fd) (S : FnScope N ps (defScope st))
    (len : ∀ ds μ k, dsp ds μ k → ds.length = ps.length)
    (body : ∀ (cdv : Value) (A : Around) (outer : List Env) (s : Shared) (H : Hp) (E : XK), Room k (A.deeper (envOfC qual (defScope st) s.heap.objs.size f cdv)) → DSs (cxOf CX0 P w K mg base N qual (defScope st) f cdv A outer s H E).nox (defBody st) t r)
    (vc : ∀ ds μ k, dsp ds μ k → r { nx := fun _ μ' => ∃ μ'', Sub μ'' μ' ∧ k .non μ'', rt := fun d μ' => ∃ μ'', Sub μ'' μ' ∧ k d μ'' } (startD N ds) μ) : FnOk P w K mg base CX0 (k + 1) f fd ps (spOf K dsp) := by
  refine F.ok S (fun vs H Q E h => ?_) (fun cdv A outer s H vs Q E hr h => ?_)
  · obtain ⟨ds, μ, G, k, _, rl, hd, _⟩ := h
    rw [rl.length]
    exact len ds μ k hd
  · obtain ⟨ds, μ, G, k', wd, rl, hd, th⟩ := h
    have B := body cdv A outer s H E hr
    refine ⟨t, B.p, B.o (L2.start N vs) (startD N ds) μ G H _ _ (start_ok rl) wd (vc ds μ k' hd) ⟨fun σ' δ' μ' G' H' ⟨μ'', hs, h⟩ S' w' g' => th _ _ μ'' G' H' h (w'.sub hs) (g'.sub hs) .non, fun _ _ _ _ _ h => h.elim, fun _ _ _ _ _ h => h.elim, fun v d μ' G' H' ⟨μ'', hs, h⟩ w' g' r' => th v d μ'' G' H' h (w'.sub hs) (g'.sub hs) r'⟩⟩
end
end DL


set_option Elab.async false
set_option linter.all false
set_option maxRecDepth 100000
set_option maxHeartbeats 4000000
/-! DLg: calls of defs as a rule, bodies, instances with slots, texts. -/
namespace DL
open PySem PySem.Spec PyProof.Rows L2 SlX

/-- a def's body: what is to be shown of it, once -/
def Body (P : Program) (w : World) (K : PySem.W.Frag) (mg : Str → Option Value) (base : Heap) (k : Nat) (qual : Str) (st : Stmt) (N : List Str) (r : RS) : Prop :=
  ∀ f : Addr, ∃ t : TS, ∀ (cdv : Value) (A : Around) (outer : List Env) (s : Shared) (H : Hp) (E : XK), Room k (A.deeper (envOfC qual (defScope st) s.heap.objs.size f cdv)) → DSs (cxOf CX0 P w K mg base N qual (defScope st) f cdv A outer s H E).nox (defBody st) t r
section
variable {P : Program} {w : World} {K : PySem.W.Frag} {mg : Str → Option Value} {base : Heap}
theorem fn_body {x qual : Str} {st : Stmt} {f : Addr} {fd : FuncData} {N ps : List Str} {k : Nat} {dsp : DSp} {r : RS} (B : Body P w K mg base k qual st N r) (F : Fun K x qual st f fd) (S : FnScope N ps (defScope st))
    (len : ∀ ds μ k, dsp ds μ k → ds.length = ps.length)
    (vc : ∀ ds μ k, dsp ds μ k → r { nx := fun _ μ' => k .non μ', rt := k } (startD N ds) μ) : FnOk P w K mg base CX0 (k + 1) f fd ps (spOf K dsp) := by
  obtain ⟨t, h⟩ := B f
  exact fn_mk F S len h vc
/-- where a def of the module stands -/
structure At (K : PySem.W.Frag) (mg : Str → Option Value) (x : Str) (st : Stmt) : Prop where
  ex : ∃ (f : Addr) (fd : FuncData), Fun K x x st f fd ∧ mg x = some (.ref f) ∧ PySem.W.keepIn K (.ref f) = true
/-- a def of the module, for its callers; hb: as in Fun.binds -/
theorem fnD_of {x : Str} {st : Stmt} {N ps : List Str} {k : Nat} {dsp : DSp} {r : RS} (a : At K mg x st) (B : Body P w K mg base k x st N r) (S : FnScope N ps (defScope st))
    (hb : ∀ (kV doc pm : Value) (an : Option Addr) (cdv ct : Value) (us : List Value), us.length = ps.length → bindArgs (PySem.W.fnOf x x (defArgs st) (defBody st) (defScope st) .none kV doc pm an cdv ct) ⟨us, []⟩ = pure (ps.zip us))
    (len : ∀ ds μ k, dsp ds μ k → ds.length = ps.length)
    (vc : ∀ ds μ k, dsp ds μ k → r { nx := fun _ μ' => k .non μ', rt := k } (startD N ds) μ) : FnD P w K mg base x (k + 1) dsp := by
  obtain ⟨f, fd, F, hm, hk⟩ := a.ex
  exact ⟨f, fd, ps, fn_body B F S len vc, hm, hk, F.binds hb⟩
theorem fnD_ofW {x : Str} {st : Stmt} {N ps : List Str} {k : Nat} {dsp : DSp} {r : RS} (a : At K mg x st) (B : Body P w K mg base k x st N r) (S : FnScope N ps (defScope st))
    (hb : ∀ (kV doc pm : Value) (an : Option Addr) (cdv ct : Value) (us : List Value), us.length = ps.length → bindArgs (PySem.W.fnOf x x (defArgs st) (defBody st) (defScope st) .none kV doc pm an cdv ct) ⟨us, []⟩ = pure (ps.zip us))
    (len : ∀ ds μ k, dsp ds μ k → ds.length = ps.length)
    (vc : ∀ ds μ k, dsp ds μ k → r { nx := fun _ μ' => ∃ μ'', Sub μ'' μ' ∧ k .non μ'', rt := fun d μ' => ∃ μ'', Sub μ'' μ' ∧ k d μ'' } (startD N ds) μ) : FnD P w K mg base x (k + 1) dsp := by
  obtain ⟨f, fd, F, hm, hk⟩ := a.ex
  obtain ⟨t, h⟩ := B f
  exact ⟨f, fd, ps, fn_mkW F S len h vc, hm, hk, F.binds hb⟩
end
theorem pe_callD {X : Cx} {x : Str} {k j : Nat} {dsp : DSp} {e : Expr} {es : List Expr} {p pos : Pos} {t : TA} (F : FnD X.prog X.w X.K X.mg X.base x k dsp) (hr : Room k X.A) (hg : Gl X x) (ha : PA X (e :: es) t)
    (hdb : (x == ("__debug__" : Str)) = false := by decide) (he : starEach (e :: es) X.env = (false, eval e X.env) :: starEach es X.env := by rfl) (hpl : (backTo pos (starEach es X.env)).any (·.1) = false := by rfl) :
    PE X (.Call (.Name x p) (e :: es) [] pos) (tCall (spOf X.K dsp) [] E0 t) := by
  obtain ⟨f, fd, ps, G, hm, hk, hb⟩ := F.ex
  exact pe_call G hr hg hm hk hb .nil pass0 ha hdb he hpl

/-! ### great powers, a tuple times a number -/
def CPowW (i j : Int) : Prop := 0 ≤ j ∧ j ≤ 100 ∧ i.natAbs < 2 ^ 1000
section
variable {K : PySem.W.Frag}
/-- e.f, a slot -/
@[simp] def rFld (C : Addr) (i : Nat) (ra : RE) : RE := fun δ μ k => ra δ μ fun x μ1 => match x with | .obj C' ds => C' = C ∧ ∃ d, ds[i]? = some d ∧ k d μ1 | _ => False
theorem okE_fld {C p : Addr} {f : Str} {i : Nat} {te : TE} {ra : RE} (c : SCls K C) (s1 : Slot1 K C f p i) (h : OkE K te ra) : OkE K (SlX.tSl K te f) (rFld C i ra) := fun σ δ μ G H k Q S w q b =>
  h σ δ μ G H _ _ S w q fun v d μ1 G1 H1 q1 w1 g1 r1 => by
    cases r1 with
    | @obj a C' dx vs ds hs rl =>
      obtain ⟨rfl, d, e, q2⟩ := q1
      obtain ⟨u, h1, h2⟩ := rl.getD' e
      exact ⟨a, C', dx, p, _, i, u, rfl, w1.ex.slt hs, c, s1, by rw [List.getElem?_map, h1]; rfl, b u d μ1 G1 H1 q2 w1 g1 h2⟩
    | _ => exact q1.elim
/-- e.f, a property; o.m() -/
@[simp] def rGet (C : Addr) (dsp : DSp) (ra : RE) : RE := fun δ μ k => ra δ μ fun x μ1 => match x with | .obj C' _ => C' = C ∧ @dCall dsp [x] μ1 k | _ => False
theorem okE_prop {C : Addr} {dsp : DSp} {E : XK} {te : TE} {ra : RE} (h : OkE K te ra) : OkE K (tPropSl C (spOf K dsp) E te) (rGet C dsp ra) := fun σ δ μ G H k Q S w q b =>
  h σ δ μ G H _ _ S w q fun v d μ1 G1 H1 q1 w1 g1 r1 => by
    cases r1 with
    | @obj a C' dx vs ds hs rl =>
      obtain ⟨rfl, q2⟩ := q1
      exact ⟨a, dx, _, rfl, w1.ex.slt hs, _, μ1, G1, k, w1, .cons (.obj hs rl) .nil, q2, fun v d μ' G' H' qk w' g' r' => b v d μ' G' H' qk w' (g1.trans g') r'⟩
    | _ => exact q1.elim
theorem okE_meth0 {C : Addr} {dsp : DSp} {E : XK} {te : TE} {ra : RE} (h : OkE K te ra) : OkE K (tMethSl C (spOf K dsp) E te tNil) (rGet C dsp ra) := fun σ δ μ G H k Q S w q b =>
  h σ δ μ G H _ _ S w q fun v d μ1 G1 H1 q1 w1 g1 r1 => by
    cases r1 with
    | @obj a C' dx vs ds hs rl =>
      obtain ⟨rfl, q2⟩ := q1
      exact ⟨a, dx, _, rfl, w1.ex.slt hs, _, μ1, G1, k, w1, .cons (.obj hs rl) .nil, q2, fun v d μ' G' H' qk w' g' r' => b v d μ' G' H' qk w' (g1.trans g') r'⟩
    | _ => exact q1.elim
end
/-- where a property of the class at C stands, and its getter's promise -/
structure PropD (P : Program) (w : World) (K : PySem.W.Frag) (mg : Str → Option Value) (base : Heap) (C : Addr) (f : Str) (n : Nat) (dsp : DSp) : Prop where
  ex : ∃ p g : Addr, PySem.W.findIn K (.ref C) f = some (some (.ref p)) ∧ PySem.W.specialIn K (.ref p) "__get__" = some (some (.builtin "property.__get__")) ∧ PySem.W.takesIn K (.ref p) = some true ∧
    (∃ rest, PySem.W.recIn K p "property" = some (.ref g :: rest)) ∧ FnR P w K mg base CX0 n g (spOf K dsp)
theorem pe_propD {X : Cx} {C : Addr} {f : Str} {n : Nat} {dsp : DSp} {e : Expr} {te : TE} {pos : Pos} (c : SCls X.K C) (F : PropD X.prog X.w X.K X.mg X.base C f n dsp) (hr : Room (n + 1) X.A) (he : PE X e te) (hb : attributeBase e f X.env (eval e X.env) = eval e X.env := by rfl) :
    PE X (.Attribute e f pos) (tPropSl C (spOf X.K dsp) E0 te) := by
  obtain ⟨p, g, h1, h2, h3, h4, F⟩ := F.ex
  exact pe_propSl he c h1 h2 h3 h4 F hr (fun _ _ _ _ h => h.elim) hb
structure MethD (P : Program) (w : World) (K : PySem.W.Frag) (mg : Str → Option Value) (base : Heap) (C : Addr) (m : Str) (n : Nat) (dsp : DSp) : Prop where
  ex : ∃ g : Addr, Meth K C m g ∧ FnR P w K mg base CX0 n g (spOf K dsp)
theorem FnOk.pos {P : Program} {w : World} {K : PySem.W.Frag} {mg : Str → Option Value} {base : Heap} {k : Nat} {f : Addr} {fd : FuncData} {ps : List Str} {dsp : DSp} (F : FnOk P w K mg base CX0 k f fd ps (spOf K dsp)) (hb : Binds K fd ps []) : FnR P w K mg base CX0 k f (spOf K dsp) :=
  (F.raw hb .nil).imp fun vs H Q E h => by
    show spOf K dsp (vs ++ []) H Q E
    rw [List.append_nil]
    exact h

/-! ### texts -/
section
variable {K : PySem.W.Frag}
/-- {e} in an f-string -/
@[simp] def rFmt (ra : RE) : RE := fun δ μ k => ra δ μ fun x μ1 => match x with
  | .str y => y.length ≤ 1000000 ∧ k (.str y) μ1
  | .int i => i.natAbs.log2 < 1920 ∧ k (.str (toString i)) μ1
  | _ => False
theorem okE_fmt {te : TE} {ra : RE} (h : OkE K te ra) : OkE K (tFmt te) (rFmt ra) := fun σ δ μ G H k Q S w q b =>
  h σ δ μ G H _ _ S w q fun v d μ1 G1 H1 q1 w1 g1 r1 => by
    cases r1 with
    | str y => exact .inl ⟨y, rfl, sz_of q1.1, b _ _ μ1 G1 H1 q1.2 w1 g1 (.str _)⟩
    | int i => exact .inr ⟨i, rfl, q1.1, b _ _ μ1 G1 H1 q1.2 w1 g1 (.str _)⟩
    | _ => exact q1.elim
@[simp] def rJs : List RE → Str → Sl → Mu → (Str → Mu → Prop) → Prop
  | [], acc, _, μ, k => k acc μ
  | r :: rs, acc, δ, μ, k => r δ μ fun x μ1 => match x with
    | .str y => (acc ++ y).length ≤ 1000000 ∧ rJs rs (acc ++ y) δ μ1 k
    | _ => False
def OkJ (K : PySem.W.Frag) (ts : List TE) (rs : List RE) : Prop := ∀ (acc : Str) (σ : L2.St) (δ : Sl) (μ : Mu) (G H : Hp) (k : Str → Mu → Prop) (Q : Str → Hp → Prop), SlOk K G σ δ → Wd K G H μ → rJs rs acc δ μ k →
  (∀ x μ' G' H', k x μ' → Wd K G' H' μ' → Go μ G H μ' G' H' → Q x H') → tJs ts acc σ H Q
theorem okJ_nil : OkJ K [] [] := fun acc σ δ μ G H k Q S w q b => b acc μ G H q w (Go.refl _ _ _)
theorem okJ_cons {t : TE} {r : RE} {ts : List TE} {rs : List RE} (h : OkE K t r) (hs : OkJ K ts rs) : OkJ K (t :: ts) (r :: rs) := fun acc σ δ μ G H k Q S w q b =>
  h σ δ μ G H _ _ S w q fun v d μ1 G1 H1 q1 w1 g1 r1 => by
    cases r1 with
    | str y => exact ⟨y, rfl, sz_of q1.1, hs _ σ δ μ1 G1 H1 k Q (S.mono g1.eg) w1 q1.2 fun x μ' G' H' qk w' g' => b x μ' G' H' qk w' (g1.trans g')⟩
    | _ => exact q1.elim
@[simp] def rJoined (rs : List RE) : RE := fun δ μ k => rJs rs Str.empty δ μ fun x μ1 => k (.str x) μ1
theorem okE_joined {ts : List TE} {rs : List RE} (h : OkJ K ts rs) : OkE K (fun σ H Q => tJs ts Str.empty σ H fun out H1 => Q (.str out) H1) (rJoined rs) := fun σ δ μ G H k Q S w q b =>
  h _ σ δ μ G H _ _ S w q fun x μ' G' H' qk w' g' => b _ _ μ' G' H' qk w' g' (.str x)
/-- sep.join(xs), xs a list or a tuple of texts -/
@[simp] def rJoin (ro ra : RE) : RE := fun δ μ k => ro δ μ fun o μ1 => match o with
  | .str a => ra δ μ1 fun x μ2 => ∃ ys : List Str, asQ μ2 x = some (ys.map D.str) ∧ (ys.map (·.length)).sum + ys.length * a.length ≤ 16777216 ∧ k (.str (Txt.join a ys)) μ2
  | _ => False
end
end DL


set_option Elab.async false
set_option linter.all false
set_option maxRecDepth 100000
set_option maxHeartbeats 4000000
/-! DLh: great powers, tuple times int, join. -/
namespace DL
open PySem PySem.Spec PyProof.Rows L2 SlX

/-- t * 1 is t itself -/
theorem tup_mul_one (l : Addr) (items : Array Value) (n : Nat) (dd : Option Addr) (sl : Array (Option Value)) (u : Tok) :
    Meets (Builtin.«tuple.__mul__» ⟨[.ref l, .int 1 u], []⟩) (fun _ R s => s.heap.get? l = some { cls := .type "tuple", dict := dd, data := .seq items n, slots := sl } ∧ R (.ok (.ret (.ref l))) s) :=
  .of_wp fun prog w A R s h => by
    obtain ⟨hp, g, d, tk, os⟩ := s
    obtain ⟨hl, h⟩ := h
    have f1 := AutoSeq1.idx_int
    have c0 : (decide ((1 : Int) < -(2 ^ 63)) || decide ((1 : Int) ≥ 2 ^ 63)) = false := by decide
    have c1 : (items.isEmpty || (1 : Int) == 1) = true := by simp
    wp_walk using wpAny_loadPart' hl
    repeat (first
      | (refine wpAny_ite_false (decide_eq_false (by rw [c0]; exact Bool.false_ne_true)) ?_; wp_walk using wpAny_loadPart' hl)
      | (refine wpAny_ite_true (decide_eq_true (by rw [c1])) ?_; wp_walk using wpAny_loadPart' hl))
    exact ⟨_, rfl, h⟩
section
variable {X : Cx}
/-- a tuple times an int from 1 on -/
def rRepA (K : PySem.W.Frag) : R2 := fun x y H Q => ∃ l k xs, x = .ref l ∧ y = .int k ∧ SqT K H l xs ∧ xs ≠ [] ∧ 1 ≤ k ∧ k ≤ 1000 ∧ xs.length ≤ 1000 ∧ (k = 1 → Q (.ref l) H) ∧ (k ≠ 1 → ∀ p, H p = none → Q (.ref p) (upd H p (.tup (List.replicate k.toNat xs).flatten)))
theorem op_repTA : OpR X (binaryOp .Mult) (rRepA X.K) := by
  intro pins s σ H x y v u Q I rx ry h
  obtain ⟨l, k, xs, hx, hy, hT, hne, h1, h2, hz, q1, q2⟩ := h
  by_cases hk : k = 1
  · have q := q1 hk
    subst hx hy hk
    cases rx
    obtain ⟨t, rfl⟩ := ry
    obtain ⟨its, r, ⟨⟨cls, dd, data, sl⟩, ho, hc, n, hd⟩, hs⟩ := I.tuple hT
    simp only at hc hd
    subst hc hd
    exact wpAny_binaryOp_repeat_ref (T := "tuple") (U := "int") (by decide) ⟨_, ho, rfl⟩ (fun s' => typeIs_int s' 1 t) noFill_tuple_mul F.fills_int_mul F.slot_int_rmul repeat_tuple F.slot_int_index.lookup
      (call_meets F.slot_int_rmul (typeIs_int s 1 t) F.entry_int_rmul (F.args_int_rmul_2 _ _) (int_rmul_tuple 1 t l its.toArray n dd sl)
        ⟨ho, rfl, ⟨_, ho, rfl⟩, call_meets F.slot_tuple_mul ⟨_, ho, rfl⟩ F.entry_tuple_mul (F.args_tuple_mul_2 _ _) (tup_mul_one l its.toArray n dd sl t) ⟨ho, .ref l, H, I, rfl, q⟩⟩)
  · exact op_repT pins s σ H x y v u Q I rx ry ⟨l, k, xs, hx, hy, hT, hne, by omega, h2, hz, q2 hk⟩
/-- ints of up to a thousand bits to powers of at most a hundred -/
theorem op_powW : OpR X (binaryOp .Pow) (rI CPowW fun i j => .int (i ^ j.toNat)) := by
  intro pins s σ H x y v u Q I rx ry h
  obtain ⟨i, j, rfl, rfl, ⟨h0, h1, hb⟩, q⟩ := h
  obtain ⟨t, rfl⟩ := rx
  obtain ⟨t', rfl⟩ := ry
  have b1 : Builtin.Int.intBits i ≤ i.natAbs.log2 + 1 := by
    unfold Builtin.Int.intBits
    split <;> omega
  have b2 := PySem.Flt.log2_lt_of (by decide : 0 < 1000) hb
  refine pow_int h0 ?_ ⟨.int _, H, I.tok _, ⟨_, rfl⟩, q⟩
  have : (Builtin.Int.intBits i : Int) ≤ 1000 := by omega
  calc (Builtin.Int.intBits i : Int) * j ≤ 1000 * j := Int.mul_le_mul_of_nonneg_right this h0
    _ ≤ 2 ^ 27 := by omega
end
section
variable {K : PySem.W.Frag}
@[simp] def oRepT : F2 := fun x y μ k => match x, y with | .tup xs, .int j => xs ≠ [] ∧ 1 ≤ j ∧ j ≤ 1000 ∧ xs.length ≤ 1000 ∧ k (.tup (List.replicate j.toNat xs).flatten) μ | _, _ => False
theorem okRepT : OkOp K (rRepA K) oRepT := fun x y a b μ G H k Q w rx ry q t => by
  cases rx with
  | @tup l vs ds h r =>
    cases ry with
    | int j =>
      obtain ⟨h0, h1, h2, h3, q⟩ := q
      refine ⟨l, j, vs, rfl, rfl, w.ex.t h, fun z => h0 ?_, h1, h2, by rw [r.length]; exact h3, fun z => ?_, fun z p hp => mkTup w (r.flat _) q t p hp⟩
      · have := r.length
        rw [z] at this
        exact List.eq_nil_of_length_eq_zero this.symm
      · subst z
        have e : (List.replicate (1 : Int).toNat ds).flatten = ds := by simp
        rw [e] at q
        exact t _ _ μ G H q w (Go.refl _ _ _) (.tup h r)
    | _ => exact q.elim
  | _ => exact q.elim
theorem okE_join {to ta : TE} {ro ra : RE} (ho : OkE K to ro) (ha : OkE K ta ra) : OkE K (tM1 (fun x xs H Q => ∃ a p, ∃ ys : List Str, x = .str a ∧ xs = [.ref p] ∧ (SqL K H p (ys.map V.str) ∨ SqT K H p (ys.map V.str)) ∧
      (ys.map (·.length)).sum + ys.length * a.length ≤ 16777216 ∧ Q (.str (Txt.join a ys)) H) to ta) (rJoin ro ra) := fun σ δ μ G H k Q S w q b =>
  ho σ δ μ G H _ _ S w q fun v o μ1 G1 H1 q1 w1 g1 r1 => by
    cases r1 with
    | str a =>
      refine ⟨⟨a, rfl⟩, ha σ δ μ1 G1 H1 _ _ (S.mono g1.eg) w1 q1 fun x d μ2 G2 H2 ⟨ys, e, hl, q2⟩ w2 g2 r2 => ?_⟩
      obtain ⟨p, vs, rfl, hp, rl⟩ := asQ_out w2 r2 e
      rw [rl.strs] at hp
      exact ⟨a, p, ys, rfl, rfl, hp, hl, b _ _ μ2 G2 H2 q2 w2 (g1.trans g2) (.str _)⟩
    | _ => exact q1.elim
end
end DL


set_option Elab.async false
set_option linter.all false
set_option maxRecDepth 100000
set_option maxHeartbeats 4000000
/-! DLr: the rules of HandS with the written part K said outright (so that readings do not hang on the frame). -/
namespace DL
open PySem PySem.Spec PyProof.Rows L2 SlX
section
variable (K : PySem.W.Frag) {X : Cx}
theorem kc_isi (hK : X.K = K := by rfl) : CallR X (.builtin "isinstance") (rIsi K) := by subst hK; exact call_isi
theorem kc_len (hK : X.K = K := by rfl) : CallR X (.builtin "len") (fun xs H Q => ∃ x n, xs = [x] ∧ LenV K x H n ∧ Q (.int (n : Nat)) H) := by subst hK; exact call_len
theorem kc_sum (hc : X.calm = true := by rfl) (hK : X.K = K := by rfl) : CallR X (.builtin "sum") (rSum K) := by subst hK; exact cr_sum hc
theorem kc_all (hc : X.calm = true := by rfl) (hK : X.K = K := by rfl) : CallR X (.builtin "all") (rAll K) := by subst hK; exact cr_all hc
theorem kc_any (hc : X.calm = true := by rfl) (hK : X.K = K := by rfl) : CallR X (.builtin "any") (rAny K) := by subst hK; exact cr_any hc
theorem kc_list (hK : X.K = K := by rfl) : CallR X (.type "list") (fun xs H Q => ∃ p ys, xs = [V.ref p] ∧ (SqL K H p ys ∨ SqT K H p ys) ∧ ∀ l, H l = none → Q (.ref l) (upd H l (.lst ys))) := by subst hK; exact call_list_of
theorem kc_tuple (hK : X.K = K := by rfl) : CallR X (.type "tuple") (fun xs H Q => ∃ p ys, xs = [V.ref p] ∧ ((SqL K H p ys ∧ ∀ l, H l = none → Q (.ref l) (upd H l (.tup ys))) ∨ (SqT K H p ys ∧ Q (.ref p) H))) := by subst hK; exact call_tuple_of
theorem ko_eqD (hu : X.A.units + 64 < cLine) (hK : X.K = K := by rfl) : OpR X (compareOp .Eq) (rEqD K) := by subst hK; exact op_eqD hu
theorem ko_neD (hu : X.A.units + 64 < cLine) (hK : X.K = K := by rfl) : OpR X (compareOp .NotEq) (rNeD K) := by subst hK; exact op_neD hu
theorem ko_catA (hK : X.K = K := by rfl) : OpR X (binaryOp .Add) (rCatA K) := by subst hK; exact op_catA
theorem ko_repTA (hK : X.K = K := by rfl) : OpR X (binaryOp .Mult) (rRepA K) := by subst hK; exact op_repTA
theorem kx_seq (hK : X.K = K := by rfl) : IxR X (rIx K) := by subst hK; exact ix_seq
theorem kx_list (hK : X.K = K := by rfl) : IxR X (rIxL K) := by subst hK; exact ix_list
theorem ks_list (hK : X.K = K := by rfl) : SlR X (rSlL K) := by subst hK; exact sl_list
theorem ks_tupA (hK : X.K = K := by rfl) : SlR X (rSlA K) := by subst hK; exact sl_tupA
theorem ki_list {tg l : Expr} {tl : TE} (hl : PE X l tl) (hK : X.K = K := by rfl) : PI X tg l (iList K tl) := by subst hK; exact pi_list hl
theorem ki_tup {tg l : Expr} {tl : TE} (hl : PE X l tl) (hK : X.K = K := by rfl) : PI X tg l (iTup K tl) := by subst hK; exact pi_tup hl
theorem ki_zip {e e2 : Expr} {ta : TA} {p pos tpos : Pos} {elts : List Expr} {kk : Nat} (hg : Gl X "zip") (hm : X.mg "zip" = none) (ha : PA X [e, e2] ta) (hK : X.K = K := by rfl)
    (hs : starEach [e, e2] X.env = (false, eval e X.env) :: starEach [e2] X.env := by rfl) (hpl : (backTo pos (starEach [e2] X.env)).any (·.1) = false := by rfl) :
    PI X (.Tuple elts kk tpos) (.Call (.Name "zip" p) [e, e2] [] pos) (iZipM K ta) := by subst hK; exact pi_zipM hg hm ha hs hpl
theorem kg_tup {es : List Expr} {k : Nat} {pos : Pos} {t : TGs} {n : Nat} (h : PGs X es t) (hc : X.calm = true := by rfl) (hK : X.K = K := by rfl)
    (hn : (assignEach es X.env).length = n := by rfl) (hst : (assignEach es X.env).findIdx? (·.1) = none := by rfl) : PG X (.Tuple es k pos) (gTup K n t) := by subst hK; exact pg_tup hc h hn hst
theorem ke_app {o e : Expr} {apos cpos : Pos} {to : TE} {t : TA} (ho : PE X o to) (ha : PA X [e] t) (hK : X.K = K := by rfl)
    (hbase : attributeBase o "append" X.env (eval o X.env) = eval o X.env := by rfl)
    (hfew : ((backTo cpos (starEach [e] X.env)).all (fun x => !x.1) && (backToKw cpos (keywordEach [] X.env)).all (fun x => x.1.isSome) && decide ([e].length + ([] : List Keyword).length + (if ([] : List Keyword).isEmpty then 0 else 1) < 30)) = true := by rfl)
    (hline : (apos.endLine == cpos.line) = true := by rfl) (hs : starEach [e] X.env = (false, eval e X.env) :: starEach [] X.env := by rfl) (hplain : (backTo cpos (starEach [] X.env)).any (·.1) = false := by rfl) :
    PE X (.Call (.Attribute o "append" apos) [e] [] cpos) (tBM K "list" rAppend to t) := by
  subst hK; exact pe_bm PySem.F.plainAttrs_list PySem.F.slot_list_append PySem.F.type_list_append mt_append ho ha hbase hfew hline hs hplain
theorem ke_ext {o e : Expr} {apos cpos : Pos} {to : TE} {t : TA} (ho : PE X o to) (ha : PA X [e] t) (hK : X.K = K := by rfl)
    (hbase : attributeBase o "extend" X.env (eval o X.env) = eval o X.env := by rfl)
    (hfew : ((backTo cpos (starEach [e] X.env)).all (fun x => !x.1) && (backToKw cpos (keywordEach [] X.env)).all (fun x => x.1.isSome) && decide ([e].length + ([] : List Keyword).length + (if ([] : List Keyword).isEmpty then 0 else 1) < 30)) = true := by rfl)
    (hline : (apos.endLine == cpos.line) = true := by rfl) (hs : starEach [e] X.env = (false, eval e X.env) :: starEach [] X.env := by rfl) (hplain : (backTo cpos (starEach [] X.env)).any (·.1) = false := by rfl) :
    PE X (.Call (.Attribute o "extend" apos) [e] [] cpos) (tBM K "list" rExtend to t) := by
  subst hK; exact pe_bm PySem.F.plainAttrs_list PySem.F.slot_list_extend PySem.F.type_list_extend mt_extend ho ha hbase hfew hline hs hplain
theorem ke_call {x : Str} {k : Nat} {dsp : DSp} {e : Expr} {es : List Expr} {p pos : Pos} {t : TA} {P : Program} {w : World} {mg : Str → Option Value} {base : Heap} (F : FnD P w K mg base x k dsp) {j : Nat} (hr : Room j X.A) (ha : PA X (e :: es) t)
    (hj : k ≤ j := by decide) (hg : Gl X x := by rfl) (hP : X.prog = P := by rfl) (hw : X.w = w := by rfl) (hK : X.K = K := by rfl) (hm : X.mg = mg := by rfl) (hb : X.base = base := by rfl)
    (hdb : (x == ("__debug__" : Str)) = false := by decide) (he : starEach (e :: es) X.env = (false, eval e X.env) :: starEach es X.env := by rfl) (hpl : (backTo pos (starEach es X.env)).any (·.1) = false := by rfl) :
    PE X (.Call (.Name x p) (e :: es) [] pos) (tCall (spOf K dsp) [] E0 t) := by
  subst hP hw hK hm hb
  exact pe_callD (j := 0) F (hr.mono hj) hg ha hdb he hpl
theorem ke_globI {x : Str} {i : Int} {pos : Pos} {mg : Str → Option Value} (h : ∃ t, mg x = some (.int i t)) (hm : X.mg = mg := by rfl) (hg : Gl X x := by rfl) (hd : (x == ("__debug__" : Str)) = false := by decide) : PE X (.Name x pos) (tC (.int i)) := by
  subst hm
  obtain ⟨t, h⟩ := h
  exact pe_glob hg h ⟨_, rfl⟩ hd
theorem ke_sl {e : Expr} {f : Str} {pos : Pos} {ta : TE} (he : PE X e ta) (hK : X.K = K := by rfl) (hb : attributeBase e f X.env (eval e X.env) = eval e X.env := by rfl) : PE X (.Attribute e f pos) (SlX.tSl K ta f) := by subst hK; exact pe_sl he hb
theorem ke_prop {C : Addr} {f : Str} {n j : Nat} {dsp : DSp} {e : Expr} {te : TE} {pos : Pos} {P : Program} {w : World} {mg : Str → Option Value} {base : Heap} (c : SCls K C) (F : PropD P w K mg base C f n dsp) (hr : Room j X.A) (he : PE X e te)
    (hj : n + 1 ≤ j := by decide) (hP : X.prog = P := by rfl) (hw : X.w = w := by rfl) (hK : X.K = K := by rfl) (hm : X.mg = mg := by rfl) (hb : X.base = base := by rfl) (hbb : attributeBase e f X.env (eval e X.env) = eval e X.env := by rfl) :
    PE X (.Attribute e f pos) (tPropSl C (spOf K dsp) E0 te) := by
  subst hP hw hK hm hb
  exact pe_propD c F (hr.mono hj) he hbb
theorem ke_join {o e : Expr} {to te : TE} {apos pos : Pos} (ho : PE X o to) (he : PE X e te) (hK : X.K = K := by rfl) (hs : starEach [e] X.env = [(false, eval e X.env)] := by rfl) (hbase : attributeBase o "join" X.env (eval o X.env) = eval o X.env := by rfl) (hline : (apos.endLine == pos.line) = true := by rfl) :
    PE X (.Call (.Attribute o "join" apos) [e] [] pos) (tM1 (fun x xs H Q => ∃ a p, ∃ ys : List Str, x = .str a ∧ xs = [.ref p] ∧ (SqL K H p (ys.map V.str) ∨ SqT K H p (ys.map V.str)) ∧ (ys.map (·.length)).sum + ys.length * a.length ≤ 16777216 ∧ Q (.str (Txt.join a ys)) H) to te) := by
  subst hK; exact pe_join ho he hs hbase hline
end
/-- a built-in by its name -/
theorem kb_call {X : Cx} {x : Str} {id : String} {r : List V → Hp → VK → Prop} {e : Expr} {es : List Expr} {t : TA} {p pos : Pos} {mg : Str → Option Value} (hc : CallR X (.builtin id) r) (hm : mg x = none) (ha : PA X (e :: es) t) (hg : Gl X x := by rfl) (hmg : X.mg = mg := by rfl) (hv : bootBuiltins x = some (.builtin id) := by decide +kernel)
    (hn : x ≠ "__name__" := by decide) (hdb : (x == ("__debug__" : Str)) = false := by decide) (he : starEach (e :: es) X.env = (false, eval e X.env) :: starEach es X.env := by rfl) (hpl : (backTo pos (starEach es X.env)).any (·.1) = false := by rfl) : PE X (.Call (.Name x p) (e :: es) [] pos) (tCB r t) := by
  subst hmg; exact pe_callB hc hg hm hv ha hn hdb he hpl
theorem kt_call {X : Cx} {x : Str} {T : String} {r : List V → Hp → VK → Prop} {e : Expr} {es : List Expr} {t : TA} {p pos : Pos} {mg : Str → Option Value} (hc : CallR X (.type T) r) (hm : mg x = none) (ha : PA X (e :: es) t) (hg : Gl X x := by rfl) (hmg : X.mg = mg := by rfl) (hv : bootBuiltins x = some (.type T) := by decide +kernel)
    (hn : x ≠ "__name__" := by decide) (hdb : (x == ("__debug__" : Str)) = false := by decide) (he : starEach (e :: es) X.env = (false, eval e X.env) :: starEach es X.env := by rfl) (hpl : (backTo pos (starEach es X.env)).any (·.1) = false := by rfl) : PE X (.Call (.Name x p) (e :: es) [] pos) (tCB r t) := by
  subst hmg; exact pe_callTy hc hg hm hv ha hn hdb he hpl
theorem kb_ty {X : Cx} {x : Str} {T : String} {pos : Pos} {mg : Str → Option Value} (hm : mg x = none) (hg : Gl X x := by rfl) (hmg : X.mg = mg := by rfl) (hv : bootBuiltins x = some (.type T) := by decide +kernel) (hn : x ≠ "__name__" := by decide) (hdb : (x == ("__debug__" : Str)) = false := by decide) : PE X (.Name x pos) (tC (.ty T)) := by
  subst hmg; exact pe_bltn hg hm hv rfl hn hdb
theorem kr_range1 {X : Cx} {tg a : Expr} {ta : TA} {p pos : Pos} {mg : Str → Option Value} (hm : mg "range" = none) (ha : PA X [a] ta) (hg : Gl X "range" := by rfl) (hmg : X.mg = mg := by rfl) (hs : starEach [a] X.env = [(false, eval a X.env)] := by rfl) : PI X tg (.Call (.Name "range" p) [a] [] pos) (iRng1 ta) := by
  subst hmg; exact pi_range1 hg hm ha hs
theorem kr_range2 {X : Cx} {tg a b : Expr} {ta : TA} {p pos : Pos} {mg : Str → Option Value} (hm : mg "range" = none) (ha : PA X [a, b] ta) (hg : Gl X "range" := by rfl) (hmg : X.mg = mg := by rfl) (hs : starEach [a, b] X.env = [(false, eval a X.env), (false, eval b X.env)] := by rfl) (hs2 : starEach [b] X.env = [(false, eval b X.env)] := by rfl) : PI X tg (.Call (.Name "range" p) [a, b] [] pos) (iRng2 ta) := by
  subst hmg; exact pi_range2 hg hm ha hs hs2
end DL


set_option Elab.async false
set_option linter.all false
set_option maxRecDepth 100000
set_option maxHeartbeats 4000000
/-! DLv: plain laws for what is to be shown of readings. -/
namespace DL
open PySem PySem.Spec PyProof.Rows L2 SlX

/-- the walk yields just these data -/
structure Src (it : DIt) (μ : Mu) (ds : List D) : Prop where
  len : it.n = ds.length
  at_ : ∀ i d, i < it.n → it.at_ i = some d → ds[i]? = some d
  ok : it.ok μ
theorem Src.l {μ : Mu} (ds : List D) : Src (itL ds) μ ds := ⟨rfl, fun _ _ _ h => h, trivial⟩
theorem Src.o {μ : Mu} {p : Addr} {ds : List D} (h : μ p = some ds) : Src (itO p ds) μ ds := ⟨rfl, fun _ _ _ h => h, h⟩
theorem Src.r {μ : Mu} (lo : Int) (n : Nat) : Src (itR lo n) μ ((List.range n).map fun i => .int (lo + (i : Nat))) := by
  refine ⟨by simp [itR], fun i d hi h => ?_, trivial⟩
  have hi : i < n := hi
  have h : some (D.int (lo + (i : Nat))) = some d := h
  rw [List.getElem?_map, List.getElem?_range hi]
  exact h
theorem Src.z {μ : Mu} {x y : D} {xs ys : List D} (h1 : asQ μ x = some xs) (h2 : asQ μ y = some ys) : Src (itZ x y xs ys) μ ((xs.zip ys).map fun q => .tup [q.1, q.2]) := by
  refine ⟨by simp [itZ], fun i d hi h => ?_, h1, h2⟩
  have hi : i < min xs.length ys.length := hi
  have hx : i < xs.length := by omega
  have hy : i < ys.length := by omega
  have h : pairD xs[i]? ys[i]? = some d := h
  have hz : i < (xs.zip ys).length := by rw [List.length_zip]; exact hi
  rw [List.getElem?_eq_getElem hx, List.getElem?_eq_getElem hy] at h
  rw [List.getElem?_map, List.getElem?_eq_getElem hz, List.getElem_zip]
  exact h
theorem Src.get {it : DIt} {μ : Mu} {α : Type} {e : α → D} {xs : List α} (s : Src it μ (xs.map e)) {i : Nat} {d : D} (hi : i < it.n) (h : it.at_ i = some d) : ∃ x, xs[i]? = some x ∧ d = e x := by
  have := s.at_ i d hi h
  rw [List.getElem?_map] at this
  cases q : xs[i]? with
  | none => rw [q] at this; cases this
  | some x => rw [q] at this; cases this; exact ⟨x, rfl, rfl⟩
theorem take_succ_of {α : Type} {xs : List α} {i : Nat} {x : α} (h : xs[i]? = some x) : xs.take (i + 1) = xs.take i ++ [x] := by
  have hi : i < xs.length := by
    by_cases hi : i < xs.length
    · exact hi
    · rw [List.getElem?_eq_none (by omega)] at h; cases h
  rw [List.getElem?_eq_getElem hi] at h
  cases h
  simp
/-- each element alone, nothing changes: kept by p, made by g -/
theorem lcW_filt {it : DIt} {rg : RG} {rt : RT} {re : RE} {vs : List Nat} {δ : Sl} {μ : Mu} {fin : List D → Mu → Prop} {α : Type} (xs : List α) (e g : α → D) (p : α → Bool) (s : Src it μ (xs.map e)) (hn : xs.length ≤ 1000000)
    (step : ∀ x ∈ xs, ∀ (kt : DK) (kf : Mu → Prop), (p x = true → kt (g x) μ) → (p x = false → kf μ) → rg (e x) (wipeD δ vs) μ fun δ2 μ2 => rt δ2 μ2 fun b μ3 => if b = true then re δ2 μ3 kt else kf μ3)
    (h : fin ((xs.filter p).map g) μ) : @rLcW it rg rt re vs δ μ fin := by
  refine ⟨by rw [s.len, List.length_map]; exact hn, fun i acc μ' => μ' = μ ∧ acc = ((xs.take i).filter p).map g, ⟨rfl, by simp⟩, fun i acc μ' q => q.1 ▸ s.ok, fun i acc μ' d hi hd q => ?_, fun acc μ' q => ?_⟩
  · obtain ⟨rfl, rfl⟩ := q
    obtain ⟨x, hx, rfl⟩ := s.get hi hd
    refine step x (List.mem_of_getElem? hx) _ _ (fun hp => ⟨rfl, ?_⟩) (fun hp => ⟨rfl, ?_⟩)
    · rw [take_succ_of hx, List.filter_append, List.map_append]; simp [hp]
    · rw [take_succ_of hx, List.filter_append, List.map_append]; simp [hp]
  · obtain ⟨rfl, rfl⟩ := q
    rw [s.len, List.length_map, List.take_length]
    exact h
theorem lcW_map {it : DIt} {rg : RG} {rt : RT} {re : RE} {vs : List Nat} {δ : Sl} {μ : Mu} {fin : List D → Mu → Prop} {α : Type} (xs : List α) (e g : α → D) (s : Src it μ (xs.map e)) (hn : xs.length ≤ 1000000)
    (step : ∀ x ∈ xs, ∀ (kt : DK) (kf : Mu → Prop), kt (g x) μ → rg (e x) (wipeD δ vs) μ fun δ2 μ2 => rt δ2 μ2 fun b μ3 => if b = true then re δ2 μ3 kt else kf μ3)
    (h : fin (xs.map g) μ) : @rLcW it rg rt re vs δ μ fin :=
  lcW_filt xs e g (fun _ => true) s hn (fun x hx kt kf h1 _ => step x hx kt kf (h1 rfl)) (by rw [List.filter_eq_self.mpr (fun _ _ => rfl)]; exact h)
/-- a walk that changes something: Inv by the turn -/
theorem lcW_inv {it : DIt} {rg : RG} {rt : RT} {re : RE} {vs : List Nat} {δ : Sl} {μ : Mu} {fin : List D → Mu → Prop} {α : Type} (xs : List α) (e : α → D) (s : Src it μ (xs.map e)) (hn : xs.length ≤ 1000000)
    (Inv : Nat → List D → Mu → Prop) (h0 : Inv 0 [] μ) (hok : ∀ i acc μ', Inv i acc μ' → it.ok μ')
    (step : ∀ i x acc μ', xs[i]? = some x → Inv i acc μ' → rg (e x) (wipeD δ vs) μ' fun δ2 μ2 => rt δ2 μ2 fun b μ3 => if b = true then re δ2 μ3 fun y μ4 => Inv (i + 1) (acc ++ [y]) μ4 else Inv (i + 1) acc μ3)
    (h : ∀ acc μ', Inv xs.length acc μ' → fin acc μ') : @rLcW it rg rt re vs δ μ fin := by
  have hl : it.n = xs.length := by rw [s.len, List.length_map]
  refine ⟨by rw [hl]; exact hn, Inv, h0, hok, fun i acc μ' d hi hd q => ?_, fun acc μ' q => h acc μ' (hl ▸ q)⟩
  obtain ⟨x, hx, rfl⟩ := s.get hi hd
  exact step i x acc μ' hx q
/-- the inner walk of two -/
theorem inW_map {it : DIt} {rg : RG} {rt : RT} {re : RE} {vs : List Nat} {δ : Sl} {μ : Mu} {acc0 : List D} {fin : List D → Mu → Prop} {α : Type} (xs : List α) (e g : α → D) (s : Src it μ (xs.map e)) (hn : acc0.length + xs.length < 1000000)
    (step : ∀ x ∈ xs, ∀ (kt : DK) (kf : Mu → Prop), kt (g x) μ → rg (e x) (wipeD δ vs) μ fun δ2 μ2 => rt δ2 μ2 fun b μ3 => if b = true then re δ2 μ3 kt else kf μ3)
    (h : fin (acc0 ++ xs.map g) μ) : @rInW it rg rt re vs δ μ acc0 fin := by
  refine ⟨fun i acc μ' => μ' = μ ∧ acc = acc0 ++ (xs.take i).map g, ⟨rfl, by simp⟩, fun i acc μ' q => ⟨q.1 ▸ s.ok, ?_⟩, fun i acc μ' d hi hd q => ?_, fun acc μ' q => ?_⟩
  · rw [q.2, List.length_append, List.length_map, List.length_take]
    omega
  · obtain ⟨rfl, rfl⟩ := q
    obtain ⟨x, hx, rfl⟩ := s.get hi hd
    refine step x (List.mem_of_getElem? hx) _ _ ⟨rfl, ?_⟩
    rw [take_succ_of hx, List.map_append]; simp
  · obtain ⟨rfl, rfl⟩ := q
    rw [s.len, List.length_map, List.take_length]
    exact h
theorem lc2_map {it : DIt} {rg : RG} {rt : RT} {ri1 : RI} {rg1 : RG} {rt1 : RT} {re : RE} {vs vs1 : List Nat} {δ : Sl} {μ : Mu} {fin : List D → Mu → Prop} {α : Type} (xs : List α) (e : α → D) (g : α → List D) (s : Src it μ (xs.map e)) (hn : xs.length ≤ 1000000)
    (step : ∀ x ∈ xs, ∀ (acc : List D) (kt : List D → Mu → Prop) (kf : Mu → Prop), (∃ i, acc = (xs.take i).flatMap g ∧ xs[i]? = some x) → kt (acc ++ g x) μ → rg (e x) (wipeD δ vs) μ fun δ2 μ2 => rt δ2 μ2 fun b μ3 => if b = true then ri1 δ2 μ3 fun it1 μ4 => @rInW it1 rg1 rt1 re vs1 δ2 μ4 acc kt else kf μ3)
    (h : fin (xs.flatMap g) μ) : @rLc2W it rg rt ri1 rg1 rt1 re vs vs1 δ μ fin := by
  refine ⟨by rw [s.len, List.length_map]; exact hn, fun i acc μ' => μ' = μ ∧ acc = (xs.take i).flatMap g, ⟨rfl, by simp⟩, fun i acc μ' q => q.1 ▸ s.ok, fun i acc μ' d hi hd q => ?_, fun acc μ' q => ?_⟩
  · obtain ⟨rfl, rfl⟩ := q
    obtain ⟨x, hx, rfl⟩ := s.get hi hd
    refine step x (List.mem_of_getElem? hx) _ _ _ ⟨i, rfl, hx⟩ ⟨rfl, ?_⟩
    rw [take_succ_of hx, List.flatMap_append]; simp
  · obtain ⟨rfl, rfl⟩ := q
    rw [s.len, List.length_map, List.take_length]
    exact h
/-- a for statement over known data -/
theorem for_inv {ri : RI} {rg : RG} {rb : RS} {DD : DEnds} {δ : Sl} {μ : Mu} {α : Type} (xs : List α) (e : α → D) (Inv : Nat → Sl → Mu → Prop)
    (s : ∀ k : DIt → Mu → Prop, (∀ it μ1, Src it μ1 (xs.map e) → Inv 0 δ μ1 → (∀ i δ μ, Inv i δ μ → it.ok μ) → k it μ1) → ri δ μ k)
    (step : ∀ i x δ μ, xs[i]? = some x → Inv i δ μ → rg (e x) δ μ fun δ2 μ2 => rb { nx := Inv (i + 1), ct := Inv (i + 1), bk := DD.nx, rt := DD.rt } δ2 μ2)
    (h : ∀ δ μ, Inv xs.length δ μ → DD.nx δ μ) : rFor ri rg rb DD δ μ := by
  refine s _ fun it μ1 sr h0 hok => ⟨Inv, h0, hok, fun i δ μ d hi hd q => ?_, fun δ μ q => h δ μ ?_⟩
  · obtain ⟨x, hx, rfl⟩ := sr.get hi hd
    exact step i x δ μ hx q
  · have hl : it.n = xs.length := by rw [sr.len, List.length_map]
    exact hl ▸ q
theorem forW_inv {rg : RG} {rb : RS} {DD : DEnds} {δ : Sl} {μ1 : Mu} {it : DIt} {α : Type} (xs : List α) (e : α → D) (sr : Src it μ1 (xs.map e)) (Inv : Nat → Sl → Mu → Prop) (h0 : Inv 0 δ μ1) (hok : ∀ i δ μ, Inv i δ μ → it.ok μ)
    (step : ∀ i x δ μ, xs[i]? = some x → Inv i δ μ → rg (e x) δ μ fun δ2 μ2 => rb { nx := Inv (i + 1), ct := Inv (i + 1), bk := DD.nx, rt := DD.rt } δ2 μ2)
    (h : ∀ δ μ, Inv xs.length δ μ → DD.nx δ μ) : rForW it rg rb DD δ μ1 := by
  refine ⟨Inv, h0, hok, fun i δ μ d hi hd q => ?_, fun δ μ q => h δ μ ?_⟩
  · obtain ⟨x, hx, rfl⟩ := sr.get hi hd
    exact step i x δ μ hx q
  · have hl : it.n = xs.length := by rw [sr.len, List.length_map]
    exact hl ▸ q
/-! ### equality of data -/
structure Cm {α : Type} [DecidableEq α] (e : α → D) (q : α → PyData) (n : Nat) : Prop where
  py : ∀ x, toPy (e x) = some (q x)
  own : ∀ x p, e x ≠ .own p
  eqv : ∀ x y, PyData.eqv (q x) (q y) = decide (x = y)
  lay : ∀ x, (q x).canLay0 = true
  dep : ∀ x, (q x).depth ≤ n
section
variable {α : Type} [DecidableEq α] {e : α → D} {q : α → PyData} {n : Nat}
theorem Cm.int : Cm D.int PyData.int 0 := ⟨fun _ => rfl, fun _ _ h => (by cases h), fun x y => by simp only [PyData.eqv]; rfl, fun _ => rfl, fun _ => Nat.le_refl _⟩
theorem Cm.bl : Cm D.bl PyData.bool 0 := ⟨fun _ => rfl, fun _ _ h => (by cases h), fun x y => by cases x <;> cases y <;> rfl, fun _ => rfl, fun _ => Nat.le_refl _⟩
theorem Cm.pyL (c : Cm e q n) : ∀ xs : List α, toPyL (xs.map e) = some (xs.map q)
  | [] => rfl
  | x :: xs => by
    simp only [List.map_cons]
    unfold toPyL
    rw [c.py x, Cm.pyL c xs]
theorem Cm.eqvAll (c : Cm e q n) : ∀ xs ys : List α, PyData.eqvAll (xs.map q) (ys.map q) = decide (xs = ys)
  | [], [] => rfl
  | [], y :: ys => by simp [PyData.eqvAll]
  | x :: xs, [] => by simp [PyData.eqvAll]
  | x :: xs, y :: ys => by
    simp only [List.map_cons, PyData.eqvAll]
    rw [c.eqv, Cm.eqvAll c xs ys, Bool.eq_iff_iff]
    simp
theorem Cm.layAll (c : Cm e q n) : ∀ xs : List α, PyData.canLayAll0 (xs.map q) = true
  | [] => rfl
  | x :: xs => by simp only [List.map_cons, PyData.canLayAll0, c.lay x, Cm.layAll c xs]; rfl
theorem Cm.depAll (c : Cm e q n) : ∀ xs : List α, PyData.depthAll (xs.map q) ≤ n
  | [] => by simp [PyData.depthAll]
  | x :: xs => by
    have h1 := c.dep x
    have h2 := Cm.depAll c xs
    simp only [List.map_cons, PyData.depthAll]
    omega
theorem Cm.tup (c : Cm e q n) : Cm (fun xs : List α => D.tup (xs.map e)) (fun xs => PyData.tuple (xs.map q)) (n + 1) :=
  ⟨fun xs => by unfold toPy; rw [c.pyL], fun _ _ h => (by cases h), fun xs ys => by simp only [PyData.eqv]; exact c.eqvAll xs ys, fun xs => by simp only [PyData.canLay0]; exact c.layAll xs, fun xs => by simp only [PyData.depth]; have := c.depAll xs; omega⟩
theorem Cm.lst (c : Cm e q n) : Cm (fun xs : List α => D.lst (xs.map e)) (fun xs => PyData.list (xs.map q)) (n + 1) :=
  ⟨fun xs => by unfold toPy; rw [c.pyL], fun _ _ h => (by cases h), fun xs ys => by simp only [PyData.eqv]; exact c.eqvAll xs ys, fun xs => by simp only [PyData.canLay0]; exact c.layAll xs, fun xs => by simp only [PyData.depth]; have := c.depAll xs; omega⟩
/-- the data d is what x stands for, an own list too -/
theorem Cm.as (c : Cm e q n) (μ : Mu) (x : α) : asPy μ (e x) = some (q x) := by
  unfold asPy
  split
  · rename_i p h; exact absurd h (c.own x p)
  · exact c.py x
theorem Cm.asO (c : Cm e q n) {μ : Mu} {p : Addr} {xs : List α} (h : μ p = some (xs.map e)) : asPy μ (.own p) = some (.list (xs.map q)) := by
  unfold asPy
  simp only [h, c.pyL]
theorem Cm.sh (c : Cm e q n) (x : α) (hn : n ≤ 64) : SeqAt.shaped (q x) = true := by
  unfold SeqAt.shaped
  rw [c.lay x]
  have := c.dep x
  simp; omega
theorem Cm.toEq (c : Cm e q n) {a b : D} {x y : α} {μ : Mu} {k : DK} (h1 : asPy μ a = some (q x)) (h2 : asPy μ b = some (q y)) (hn : n ≤ 64) (h : k (.bl (decide (x = y))) μ) : oEq a b μ k :=
  ⟨_, _, h1, h2, c.sh x hn, c.sh y hn, by rw [c.eqv]; exact h⟩
theorem Cm.toNe (c : Cm e q n) {a b : D} {x y : α} {μ : Mu} {k : DK} (h1 : asPy μ a = some (q x)) (h2 : asPy μ b = some (q y)) (hn : n ≤ 64) (h : k (.bl (!decide (x = y))) μ) : oNe a b μ k :=
  ⟨_, _, h1, h2, c.sh x hn, c.sh y hn, by rw [c.eqv]; exact h⟩
end
/-- tuples of unlike things -/
structure CmL {α : Type} [DecidableEq α] (e : α → List D) (q : α → List PyData) (n : Nat) : Prop where
  py : ∀ x, toPyL (e x) = some (q x)
  eqv : ∀ x y, PyData.eqvAll (q x) (q y) = decide (x = y)
  lay : ∀ x, PyData.canLayAll0 (q x) = true
  dep : ∀ x, PyData.depthAll (q x) ≤ n
theorem CmL.nil : CmL (fun _ : Unit => []) (fun _ => []) 0 := ⟨fun _ => rfl, fun _ _ => rfl, fun _ => rfl, fun _ => by simp [PyData.depthAll]⟩
theorem CmL.cons {α β : Type} [DecidableEq α] [DecidableEq β] {e : α → D} {q : α → PyData} {e2 : β → List D} {q2 : β → List PyData} {n m : Nat} (c : Cm e q n) (d : CmL e2 q2 m) : CmL (fun t : α × β => e t.1 :: e2 t.2) (fun t => q t.1 :: q2 t.2) (max n m) := by
  refine ⟨fun x => ?_, fun x y => ?_, fun x => ?_, fun x => ?_⟩
  · unfold toPyL; rw [c.py, d.py]
  · simp only [PyData.eqvAll]; rw [c.eqv, d.eqv, Bool.eq_iff_iff]; simp [Prod.ext_iff]
  · simp only [PyData.canLayAll0, c.lay, d.lay]; rfl
  · simp only [PyData.depthAll]; have := c.dep x.1; have := d.dep x.2; omega
theorem CmL.tup {α : Type} [DecidableEq α] {e : α → List D} {q : α → List PyData} {n : Nat} (c : CmL e q n) : Cm (fun x => D.tup (e x)) (fun x => PyData.tuple (q x)) (n + 1) :=
  ⟨fun xs => by unfold toPy; rw [c.py], fun _ _ h => (by cases h), fun xs ys => by simp only [PyData.eqv]; exact c.eqv xs ys, fun xs => by simp only [PyData.canLay0]; exact c.lay xs, fun xs => by simp only [PyData.depth]; have := c.dep xs; omega⟩
theorem CmL.lst {α : Type} [DecidableEq α] {e : α → List D} {q : α → List PyData} {n : Nat} (c : CmL e q n) : Cm (fun x => D.lst (e x)) (fun x => PyData.list (q x)) (n + 1) :=
  ⟨fun xs => by unfold toPy; rw [c.py], fun _ _ h => (by cases h), fun xs ys => by simp only [PyData.eqv]; exact c.eqv xs ys, fun xs => by simp only [PyData.canLay0]; exact c.lay xs, fun xs => by simp only [PyData.depth]; have := c.dep xs; omega⟩
theorem py_int {i : Int} {μ : Mu} : asPy μ (.int i) = some (.int i) := Cm.int.as μ i
@[simp] theorem oEq_int {i j : Int} {μ : Mu} {k : DK} : @hEq (.int i) (.int j) μ k ↔ k (.bl (decide (i = j))) μ := by
  refine ⟨fun ⟨a, b, h1, h2, _, _, q⟩ => ?_, fun h => Cm.int.toEq (Cm.int.as μ i) (Cm.int.as μ j) (by decide) h⟩
  rw [py_int] at h1 h2; cases h1; cases h2
  rw [Cm.int.eqv] at q; exact q
@[simp] theorem oNe_int {i j : Int} {μ : Mu} {k : DK} : @hNe (.int i) (.int j) μ k ↔ k (.bl (!decide (i = j))) μ := by
  refine ⟨fun ⟨a, b, h1, h2, _, _, q⟩ => ?_, fun h => Cm.int.toNe (Cm.int.as μ i) (Cm.int.as μ j) (by decide) h⟩
  rw [py_int] at h1 h2; cases h1; cases h2
  rw [Cm.int.eqv] at q; exact q
theorem all_of {α : Type} {f : α → Bool} {xs : List α} {d : D} {μ : Mu} {k : DK} (hd : asL μ d = some (xs.map fun x => .bl (f x))) (h : k (.bl (xs.all f)) μ) : oAll [d] μ k := by
  refine ⟨xs.map f, by rw [hd, List.map_map]; rfl, ?_⟩
  have : (xs.map f).all id = xs.all f := by rw [List.all_map]; rfl
  rw [this]; exact h
theorem any_of {α : Type} {f : α → Bool} {xs : List α} {d : D} {μ : Mu} {k : DK} (hd : asL μ d = some (xs.map fun x => .bl (f x))) (h : k (.bl (xs.any f)) μ) : oAny [d] μ k := by
  refine ⟨xs.map f, by rw [hd, List.map_map]; rfl, ?_⟩
  have : (xs.map f).any id = xs.any f := by rw [List.any_map]; rfl
  rw [this]; exact h
theorem sum_of {α : Type} {f : α → Int} {xs : List α} {d : D} {μ : Mu} {k : DK} (hd : asL μ d = some (xs.map fun x => .int (f x))) (h : k (.int (xs.map f).sum) μ) : oSum [d] μ k :=
  ⟨xs.map f, by rw [hd, List.map_map]; rfl, h⟩
@[simp] theorem kitB_int : kitB "int" "int" = some true := by decide +kernel
@[simp] theorem kitB_intb : kitB "int" "bool" = some false := by decide +kernel
@[simp] theorem kitB_tup : kitB "tuple" "tuple" = some true := by decide +kernel
theorem py_str {x : Str} {μ : Mu} : asPy μ (.str x) = some (.str x) := rfl
theorem oNe_str {x y : Str} {μ : Mu} {k : DK} (hx : PyData.strOk x = true) (hy : PyData.strOk y = true) (h : k (.bl (!decide (x = y))) μ) : oNe (.str x) (.str y) μ k :=
  ⟨_, _, py_str, py_str, by simp [SeqAt.shaped, PyData.canLay0, hx, PyData.depth], by simp [SeqAt.shaped, PyData.canLay0, hy, PyData.depth], by
    have e : PyData.eqv (.str x) (.str y) = decide (x = y) := by simp only [PyData.eqv]; rw [Bool.eq_iff_iff]; simp
    rw [e]; exact h⟩
theorem oEq_str {x y : Str} {μ : Mu} {k : DK} (hx : PyData.strOk x = true) (hy : PyData.strOk y = true) (h : k (.bl (decide (x = y))) μ) : oEq (.str x) (.str y) μ k :=
  ⟨_, _, py_str, py_str, by simp [SeqAt.shaped, PyData.canLay0, hx, PyData.depth], by simp [SeqAt.shaped, PyData.canLay0, hy, PyData.depth], by
    have e : PyData.eqv (.str x) (.str y) = decide (x = y) := by simp only [PyData.eqv]; rw [Bool.eq_iff_iff]; simp
    rw [e]; exact h⟩
theorem Sub.refl (μ : Mu) : Sub μ μ := fun _ _ h => h
theorem Sub.set {μ : Mu} {p : Addr} {ds : List D} (h : μ p = none) : Sub μ (muSet μ p ds) := fun q es e => by
  rw [muSet_ne (fun z => by subst z; rw [h] at e; cases e)]; exact e
theorem Sub.trans {a b c : Mu} (h : Sub a b) (h' : Sub b c) : Sub a c := fun p ds e => h' p ds (h p ds e)
theorem Sub.up {μ μ' : Mu} {p : Addr} {ds : List D} (h : Sub μ μ') (hp : μ' p = none) : Sub μ (muSet μ' p ds) := Sub.trans h (Sub.set hp)
theorem Sub.upd {μ μ' : Mu} {p : Addr} {ds : List D} (h : Sub μ μ') (hp : μ p = none) : Sub μ (muSet μ' p ds) := fun q es e => by
  rw [muSet_ne (fun z => by subst z; rw [hp] at e; cases e)]; exact h q es e
theorem Sub.non {μ μ' : Mu} {p : Addr} (h : Sub μ μ') (hp : μ' p = none) : μ p = none := by
  cases e : μ p with
  | none => rfl
  | some d => rw [h p d e] at hp; cases hp
theorem Sub.del {μ μ' : Mu} {p : Addr} (h : Sub μ μ') (hp : μ p = none) : Sub μ (muDel μ' p) := fun q es e => by
  rw [muDel_ne (fun z => by subst z; rw [hp] at e; cases e)]; exact h q es e
theorem Sub.setBoth {μ μ' : Mu} {p : Addr} {a b : List D} (h : Sub (muSet μ p a) μ') : Sub (muSet μ p b) (muSet μ' p b) := fun q es e => by
  by_cases hq : q = p
  · subst hq; rw [muSet_same] at e ⊢; exact e
  · rw [muSet_ne hq] at e ⊢; exact h q es (by rw [muSet_ne hq]; exact e)
theorem Sub.at_ {μ μ' : Mu} {p : Addr} {a : List D} (h : Sub (muSet μ p a) μ') : μ' p = some a := h p a muSet_same
/-- one statement at a time: what follows stands under a name -/
theorem seq_gen {r s : RS} {DD : DEnds} {δ : Sl} {μ : Mu} (h : ∀ NX : Sl → Mu → Prop, NX = s DD → r { DD with nx := NX } δ μ) : rSeq r s DD δ μ := h _ rfl
end DL


set_option Elab.async false
set_option linter.all false
set_option maxRecDepth 100000
set_option maxHeartbeats 4000000
/-! DLo: own ==, != with any right side, str(x) of an instance with __str__, a slot as a target. -/
namespace DL
open PySem PySem.Spec PyProof.Rows L2 SlX
open Builtin Builtin.Str
section
variable {prog : Program} {w : World} {A : Around} {E : Value → Shared → Prop} {s : Shared} {K : PySem.W.Frag} {x C f : Addr} {ox : Obj} {od : Option Obj} {b tb : Value}
theorem ne_slot : Slot "object" "__ne__" "object.__ne__" := Slot.of (T := "object") (name := "__ne__") (owner := "object") (n := "__ne__") (by rw [typeLookup_type, builtinLookup_eq_fast]; kernel_rfl) (by decide +kernel) (by decide +kernel) (by decide +kernel)
    (.inl (by decide +kernel)) (by rw [isSubtype_type]; kernel_rfl)
theorem ne_entry (X : K.In s.heap) (I : PySem.W.InstAt s.heap x ox C od) (he : PySem.W.findIn K (.ref C) "__eq__" = some (some (.ref f))) (hf : PySem.W.isFn K (.ref f) = true) (hu : A.units < cLine) {Q : Fin → Shared → Prop}
    (h : wpAny (model prog w) A (call (.ref f) [.ref x, b]) (fun v s' => ∃ c, v = .bool c ∧ Q (.done (.ret (.bool (!c)))) s') E s) : wpAny (model prog w) A (Builtin.«object.__ne__» ⟨[.ref x, b], []⟩) Q E s := by
  unfold Builtin.«object.__ne__»
  repeat (first
    | with_reducible refine wpAny_cRoomFor hu ?_
    | (refine wpAny_bind (m := callSpecialIfBound? (.ref x) (Str.ofString "__eq__") [b])
        (PySem.W.ifBound_K X I he hf (wpAny_mono h (fun r s' hr => by
          obtain ⟨c, rfl, hq⟩ := hr
          repeat (first | exact hq | exact wpAny_pure hq | exact wpAny_truthy_bool hq | (refine wpAny_bind (m := truthy (.bool _)) (wpAny_truthy_bool ?_)) | wp_step)) fun _ _ e => e)))
    | wp_step)
theorem ifBound_ne {M : Model} {args : List Value} {Q : Option Value → Shared → Prop} (X : K.In s.heap) (I : PySem.W.InstAt s.heap x ox C od) (hs : PySem.W.findIn K (.ref C) "__ne__" = some (some (.builtin "object.__ne__")))
    (h : wpAny M A (call (.builtin "object.__ne__") (.ref x :: args)) (fun v => Q (some v)) E s) : wpAny M A (callSpecialIfBound? (.ref x) "__ne__" args) Q E s := by
  simp only [callSpecialIfBound?, bindSpecialIfBound?]
  refine wpAny_holding (wpAny_bind (wpAny_bind (wpAny_bind (I.type.here ((PySem.W.looks_findIn X hs).here ?_)))))
  simp only [ne_slot.bind]
  refine wpAny_bind (wpAny_askSetting (wpAny_ite ?_))
  have fin : wpAny M A (call (.builtin "object.__ne__") ([.ref x] ++ args) >>= fun v => pure (some v)) Q E s := wpAny_bind (wpAny_mono h (fun v s' h' => wpAny_pure h') fun _ _ h' => h')
  split
  · exact wpAny_bind (wpAny_pure (wpAny_pure fin))
  · exact wpAny_tryCatch (wpAny_bind (wpAny_pure (wpAny_pure fin)))
theorem ne_K {Q : Value → Shared → Prop} (hu : A.units + 1 < cLine) (X : K.In s.heap) (I : PySem.W.InstAt s.heap x ox C od) (hb : PySem.W.Looks (model prog w) s.heap (typeOf b) tb) (hn : PySem.W.notFirst K C tb = true)
    (hs : PySem.W.findIn K (.ref C) "__ne__" = some (some (.builtin "object.__ne__"))) (he : PySem.W.findIn K (.ref C) "__eq__" = some (some (.ref f))) (hf : PySem.W.isFn K (.ref f) = true) (ho : PySem.W.mroIn K C (.type "object") = some true)
    (h : wpAny (model prog w) A.in1 (call (.ref f) [.ref x, b]) (fun v s' => ∃ c, v = .bool c ∧ Q (.bool (!c)) s') E s) : wpAny (model prog w) A (richCompare .NotEq (.ref x) b) Q E s := by
  have one : wpAny (model prog w) A (tryCompare (.ref x) "__ne__" b) (fun r s' => ∃ v, r = some v ∧ Q v s') E s := by
    unfold tryCompare
    refine wpAny_bind (ifBound_ne X I hs (wpAny_call (codeAny_call_builtin ne_slot.plain F.cmpEntry_ne (PySem.W.check_slot F.cmpKind_ne F.cmpSplit_ne (I.type.andThen (PySem.W.looks_mroIn X ho)) (F.cmpArgs_ne _ _)
      (ne_entry (A := A.in1) X I he hf hu (wpAny_mono h (fun v s' hv => ?_) fun _ _ e => e))))))
    obtain ⟨c, rfl, hq⟩ := hv
    first | exact ⟨c, rfl, wpAny_pure ⟨_, rfl, hq⟩⟩ | exact ⟨c, rfl, wpAny_pure (wpAny_pure ⟨_, rfl, hq⟩)⟩
  unfold richCompare
  simp only [oneThing_ref]
  refine wpAny_holding (wpAny_bind (wpAny_cRoomFor (Nat.lt_of_succ_lt hu) ?_))
  rw [cmpInfo_NotEq]
  dsimp only
  refine wpAny_bind (I.type.here (wpAny_bind (hb.here ?_)))
  split
  · rename_i q
    have e : PySem.W.subIn K tb (.ref C) = some false := by
      rcases Bool.or_eq_true_iff.mp hn with e | e
      · rw [beq_iff_eq.mp e] at q; simp at q
      · exact beq_iff_eq.mp e
    refine wpAny_bind ((PySem.W.looks_subIn X e).here ?_)
    simp only [Bool.false_eq_true, if_false]
    refine wpAny_bind (wpAny_mono one (fun r s' z => ?_) fun _ _ e => e)
    obtain ⟨v, rfl, hq⟩ := z
    exact wpAny_pure hq
  · refine wpAny_bind (wpAny_pure ?_)
    simp only [Bool.false_eq_true, if_false]
    refine wpAny_bind (wpAny_mono one (fun r s' z => ?_) fun _ _ e => e)
    obtain ⟨v, rfl, hq⟩ := z
    exact wpAny_pure hq
/-- str(x) of an instance with a __str__ that hands out a str -/
theorem str_own {Q : Value → Shared → Prop} (X : K.In s.heap) (I : PySem.W.InstAt s.heap x ox C od) (hs : PySem.W.findIn K (.ref C) "__str__" = some (some (.ref f))) (hf : PySem.W.isFn K (.ref f) = true) (hu : A.in1.in1.units < cLine)
    (h : wpAny (model prog w) A.in1.in1 (call (.ref f) [.ref x]) (fun r s₁ => ∃ y u, r = Value.str y u ∧ Q r s₁) E s) : wpAny (model prog w) A (call (.type "str") [.ref x]) Q E s := by
  refine callType_codes (T := "str") (Bi := Builtin.«object.__init__») (Q₁ := fun r s₁ => ∃ y u, r = Value.str y u ∧ Q r s₁) PySem.F.called_str (PySem.F.typeCall_str_1 _) PySem.F.entry_object_init ?_ ?_
  · refine codeAny_of_tree ?_
    show wpAny _ A.in1.in1 (do checkBuiltinCall "str.__new__" ⟨[.type "str", .ref x], []⟩; again (.builtin "str.__new__" ⟨[.type "str", .ref x], []⟩)) _ _ s
    refine wpAny_bind (wpAny_of_eq (PySem.F.newCall_str_1 _) (wpAny_pure ⟨plainId_quiet (by decide +kernel) _, codeAny_builtin PySem.F.entry_str_new ?_⟩))
    rw [Around.under_plainId (by decide +kernel) _]
    rw [str_new_tree]
    refine wpAny_bind (wpAny_pure ?_)
    refine wpAny_bind (wpAny_of_eq isSubtype_str_str ?_)
    refine wpAny_bind ?_
    unfold Builtin.Str.strOf
    rw [show isExactStr (.ref x) = false from rfl]
    simp only [Bool.false_eq_true, if_false]
    refine wpAny_bind (wpAny_cRoomFor hu ?_)
    refine wpAny_bind (m := callSpecial? (.ref x) (Str.ofString "__str__")) (PySem.W.special_fn X I hs (beq_iff_eq.mp hf) (wpAny_mono h (fun r s' hr => ?_) fun _ _ y => y))
    obtain ⟨y, u, rfl, hq⟩ := hr
    exact wpAny_bind (wpAny_pure (wpAny_pure (wpAny_pure ⟨y, u, rfl, hq⟩)))
  · rintro obj s₁ ⟨y, u, rfl, hq⟩
    exact ⟨typeIs_str _ _ _, PySem.F.args_object_init_2 _ _, object_init_meets PySem.F.called_str.init.lookup PySem.F.called_str.made (by decide) prog w A.in1 _ s₁ ⟨typeIs_str _ _ _, rfl, hq⟩⟩
end
end DL


set_option Elab.async false
set_option linter.all false
set_option maxRecDepth 100000
set_option maxHeartbeats 4000000
/-! DLp: own classes with slots over data: made, compared, asked, told. -/
namespace DL
open PySem PySem.Spec PyProof.Rows L2 SlX

/-- any value's class, an instance with slots too -/
def TyA (K : PySem.W.Frag) (H : Hp) (y : V) (t : Value) : Prop := TyX K H y t ∨ ∃ b C' dy ws, y = .ref b ∧ Slt H b C' dy ws ∧ t = .ref C'
/-- what of the text a class with its own == must have -/
structure Cmp (K : PySem.W.Frag) (C : Addr) : Prop where
  cls : SCls K C
  isi : SIsi K C
  nNon : PySem.W.notFirst K C (.type "NoneType") = true
  nInt : PySem.W.notFirst K C (.type "int") = true
  nTup : PySem.W.notFirst K C (.type "tuple") = true
  kNon : PySem.W.kitOne K (.type "NoneType") (.ref C) = some false
  kInt : PySem.W.kitOne K (.type "int") (.ref C) = some false
  kTup : PySem.W.kitOne K (.type "tuple") (.ref C) = some false
  kOwn : PySem.W.kitOne K (.ref C) (.ref C) = some true
  ne : PySem.W.findIn K (.ref C) "__ne__" = some (some (.builtin "object.__ne__"))
/-- a special def of the class, and its promise -/
structure SpD (P : Program) (w : World) (K : PySem.W.Frag) (mg : Str → Option Value) (base : Heap) (C : Addr) (m : Str) (n : Nat) (dsp : DSp) : Prop where
  ex : ∃ g : Addr, PySem.W.findIn K (.ref C) m = some (some (.ref g)) ∧ PySem.W.isFn K (.ref g) = true ∧ FnR P w K mg base CX0 n g (spOf K dsp)
/-- a class that may be made by its name; sp: its __init__ -/
structure MakD (P : Program) (w : World) (K : PySem.W.Frag) (mg : Str → Option Value) (base : Heap) (k : Nat) (x : Str) (C : Addr) (sp : Sp) : Prop where
  ex : ∃ (f : Addr) (fd : FuncData) (ps : List Str), Mk K C f ∧ FnOk P w K mg base CX0 k f fd ps sp ∧ mg x = some (.ref C) ∧ Binds K fd ps []
def rEqA (K : PySem.W.Frag) (C : Addr) (sp : Sp) : R2 := fun x y H Q => ∃ a dx vs t, x = .ref a ∧ Slt H a C dx vs ∧ TyA K H y t ∧ PySem.W.notFirst K C t = true ∧ sp [x, y] H Q E0
def rNeA (K : PySem.W.Frag) (C : Addr) (sp : Sp) : R2 := fun x y H Q => ∃ a dx vs t, x = .ref a ∧ Slt H a C dx vs ∧ TyA K H y t ∧ PySem.W.notFirst K C t = true ∧ sp [x, y] H (fun z H' => ∃ c, z = .bl c ∧ Q (.bl (!c)) H') E0
section
variable {X : Cx} {C g : Addr} {n : Nat} {sp : Sp}
theorem looks_A {pins : List (Addr × Obj)} {σ : L2.St} {H : Hp} {s : Shared} {y : V} {u t : Value} (I : Inv X pins σ H s) (ry : RelV y u) (h : TyA X.K H y t) : PySem.W.Looks (model X.prog X.w) s.heap (typeOf u) t := by
  rcases h with h | ⟨b, C', dy, ws, rfl, hs, rfl⟩
  · obtain ⟨P, kx, hp, _⟩ := kit_of I ry h
    exact kx.ty _ _ I.kIn hp
  · cases (show u = Value.ref b from ry)
    obtain ⟨sl', od', _, J', _⟩ := slt_inst I hs
    exact J'.type
theorem op_eqA (hs : PySem.W.findIn X.K (.ref C) "__eq__" = some (some (.ref g))) (hf : PySem.W.isFn X.K (.ref g) = true) (F : FnR X.prog X.w X.K X.mg X.base CX0 n g sp) (hr : Room n X.A) : OpR X (compareOp .Eq) (rEqA X.K C sp) := by
  intro pins s σ H x y v u Q I rx ry h
  obtain ⟨a, dx, vs, t, rfl, ha, ht, hn, q⟩ := h
  cases (show v = Value.ref a from rx)
  obtain ⟨sl, od, _, J, _⟩ := slt_inst I ha
  obtain ⟨m, hF⟩ := I.fr
  show wpAny _ _ (richCompare .Eq _ _) _ _ _
  refine PySem.W.cmp_K (op := .Eq) (tb := t) hr.units0 hF I.ok.mod.kin J (looks_A I ry ht) hn hs hf ?_
  refine wpAny_mono (wpAny_call (run_fnR (us := [.ref a, u]) (vs := [.ref a, y]) F hr pass0 I (.cons rfl (.cons ry .nil)) q)) (fun w s' z => ?_) fun _ _ x => x
  obtain ⟨z', H', I', rz, qz⟩ := z
  exact cmpback rz ⟨z', H', I', rz, qz⟩
theorem op_neA (hs : PySem.W.findIn X.K (.ref C) "__eq__" = some (some (.ref g))) (hf : PySem.W.isFn X.K (.ref g) = true) (hne : PySem.W.findIn X.K (.ref C) "__ne__" = some (some (.builtin "object.__ne__"))) (ho : PySem.W.mroIn X.K C (.type "object") = some true)
    (F : FnR X.prog X.w X.K X.mg X.base CX0 n g sp) (hr : Room (n + 1) X.A) : OpR X (compareOp .NotEq) (rNeA X.K C sp) := by
  intro pins s σ H x y v u Q I rx ry h
  obtain ⟨a, dx, vs, t, rfl, ha, ht, hn, q⟩ := h
  cases (show v = Value.ref a from rx)
  obtain ⟨sl, od, _, J, _⟩ := slt_inst I ha
  show wpAny _ _ (richCompare .NotEq _ _) _ _ _
  refine ne_K (tb := t) (by have := hr.units; omega) I.kIn J (looks_A I ry ht) hn hne hs hf ho ?_
  refine wpAny_mono (wpAny_call (run_at (us := [.ref a, u]) (ws := [.ref a, y]) F hr.in1 I.env0.in1 pass0 I (.cons rfl (.cons ry .nil)) q)) (fun w s' z => ?_) fun _ _ x => x
  obtain ⟨z', H', I', rz, c, rfl, qz⟩ := z
  cases (show w = Value.bool c from rz)
  exact ⟨c, rfl, .bl (!c), H', I', rfl, qz⟩
def rStrA (C : Addr) (sp : Sp) : List V → Hp → VK → Prop := fun xs H Q => ∃ a dx vs, xs = [V.ref a] ∧ Slt H a C dx vs ∧ sp [.ref a] H (fun z H' => ∃ y, z = .str y ∧ Q z H') E0
theorem call_strA (hs : PySem.W.findIn X.K (.ref C) "__str__" = some (some (.ref g))) (hf : PySem.W.isFn X.K (.ref g) = true) (F : FnR X.prog X.w X.K X.mg X.base CX0 n g sp) (hr : Room (n + 2) X.A) : CallR X (.type "str") (rStrA C sp) := by
  intro pins s σ H xs us Q I r h
  obtain ⟨a, dx, vs, rfl, hsl, q⟩ := h
  obtain ⟨u, rfl, ru⟩ := r.one
  cases (show u = Value.ref a from ru)
  obtain ⟨sl, od, _, J, _⟩ := slt_inst I hsl
  have hr2 : Room n X.A.in1.in1 := (show Room (n + 1) X.A.in1 from Room.in1 hr).in1
  refine str_own I.kIn J hs hf hr2.units0 (wpAny_mono (wpAny_call (run_at (us := [.ref a]) (ws := [.ref a]) F hr2 I.env0.in1.in1 pass0 I (.cons rfl .nil) q)) (fun w s' z => ?_) fun _ _ x => x)
  obtain ⟨z', H', I', rz, y, ey, qz⟩ := z
  subst ey
  obtain ⟨t, e⟩ := (show ∃ t, w = Value.str y t from rz)
  cases e
  exact ⟨y, t, rfl, .str y, H', I', ⟨t, rfl⟩, qz⟩
theorem cr_or {f : Value} {r r' : List V → Hp → VK → Prop} (h : CallR X f r) (h' : CallR X f r') : CallR X f (fun xs H Q => r xs H Q ∨ r' xs H Q) := fun pins s σ H xs us Q I rr q => by
  rcases q with q | q
  · exact h pins s σ H xs us Q I rr q
  · exact h' pins s σ H xs us Q I rr q
/-- o.f = .. among other targets, a slot -/
def gSlA (K : PySem.W.Frag) (to : TE) (f : Str) : TG := fun v σ H Q => to σ H fun x H1 => ∃ a C dx p vs i, x = .ref a ∧ Slt H1 a C dx vs ∧ SCls K C ∧ Slot1 K C f p i ∧ Q σ (slH H1 a C dx (putS i v vs))
theorem pg_slA {o : Expr} {f : Str} {pos : Pos} {to : TE} (ho : PE X o to) : PG X (.Attribute o f pos) (gSlA X.K to f) := by
  refine ⟨fun pins s σ H v u Q I r h => ?_⟩
  rw [assign_Attribute]
  refine wpAny_bind (wpAny_holding (thn (ho.run pins s σ H _ I h) fun ov s1 ⟨x, H1, I1, r1, q1⟩ => ?_))
  obtain ⟨a, C, dx, p, vs, i, ex, hsl, c, t, q2⟩ := q1
  subst ex
  obtain rfl : ov = Value.ref a := r1
  refine wpAny_bind (wpAny_standAt (wpAny_bind (wpAny_holding (setslot_ok I1 hsl c t r fun s3 I3 => ?_))))
  exact wpAny_release ⟨σ, _, I3, q2⟩
end

/-! ### readings over data -/
section
variable {K : PySem.W.Frag} {C : Addr}
/-- what == may meet on its right side -/
def okR (C : Addr) : D → Prop
  | .obj C' _ => C' = C
  | .non => True
  | .int _ => True
  | .tup _ => True
  | _ => False
def isObj : D → Bool
  | .obj _ _ => true
  | _ => false
@[simp] theorem okR_obj {C' : Addr} {ds : List D} : okR C (.obj C' ds) ↔ C' = C := Iff.rfl
@[simp] theorem okR_non : okR C .non := trivial
@[simp] theorem okR_int {i : Int} : okR C (.int i) := trivial
@[simp] theorem okR_tup {ds : List D} : okR C (.tup ds) := trivial
@[simp] theorem isObj_obj {ds : List D} : isObj (.obj C ds) = true := rfl
theorem okR_out {μ : Mu} {G H : Hp} {y : V} {d : D} (c : Cmp K C) (w : Wd K G H μ) (r : Rep K G y d) (h : okR C d) : ∃ t, TyA K H y t ∧ PySem.W.notFirst K C t = true := by
  cases r with
  | non => exact ⟨_, .inl (tyN_out w .non rfl), c.nNon⟩
  | int i => exact ⟨_, .inl (tyN_out w (.int i) rfl), c.nInt⟩
  | tup h1 h2 => exact ⟨_, .inl (tyN_out w (.tup h1 h2) rfl), c.nTup⟩
  | obj h1 h2 =>
    have h : _ = C := h
    subst h
    exact ⟨_, .inr ⟨_, _, _, _, rfl, w.ex.slt h1, rfl⟩, by unfold PySem.W.notFirst; simp⟩
  | _ => exact h.elim
@[simp] def oEqC (C : Addr) (dsp : DSp) : F2 := fun x y μ k => (match x with | .obj C' _ => C' = C | _ => False) ∧ okR C y ∧ @dCall dsp [x, y] μ k
@[simp] def oNeC (C : Addr) (dsp : DSp) : F2 := fun x y μ k => (match x with | .obj C' _ => C' = C | _ => False) ∧ okR C y ∧ @dCall dsp [x, y] μ fun d μ' => asB d fun c => k (.bl (!c)) μ'
theorem okEqC {dsp : DSp} (c : Cmp K C) : OkOp K (rEqA K C (spOf K dsp)) (oEqC C dsp) := fun x y a b μ G H k Q w rx ry ⟨hx, hy, q⟩ th => by
  obtain ⟨t, ht, hn⟩ := okR_out c w ry hy
  cases rx with
  | obj h1 h2 =>
    have hx : _ = C := hx
    subst hx
    exact ⟨_, _, _, t, rfl, w.ex.slt h1, ht, hn, _, μ, G, k, w, .cons (.obj h1 h2) (.cons ry .nil), q, th⟩
  | _ => exact hx.elim
theorem okNeC {dsp : DSp} (c : Cmp K C) : OkOp K (rNeA K C (spOf K dsp)) (oNeC C dsp) := fun x y a b μ G H k Q w rx ry ⟨hx, hy, q⟩ th => by
  obtain ⟨t, ht, hn⟩ := okR_out c w ry hy
  cases rx with
  | obj h1 h2 =>
    have hx : _ = C := hx
    subst hx
    refine ⟨_, _, _, t, rfl, w.ex.slt h1, ht, hn, _, μ, G, _, w, .cons (.obj h1 h2) (.cons ry .nil), q, fun v d μ' G' H' qk w' g' r' => ?_⟩
    obtain ⟨c, rfl, qk⟩ := asB_out r' qk
    exact ⟨c, rfl, th _ _ μ' G' H' qk w' g' (.bl _)⟩
  | _ => exact hx.elim
/-- isinstance(x, C) -/
@[simp] def rIsiC (C : Addr) (re : RE) : RE := fun δ μ k => re δ μ fun x μ1 => okR C x ∧ k (.bl (isObj x)) μ1
theorem okE_isiC {te : TE} {re : RE} (c : Cmp K C) (h : OkE K te re) : OkE K (tCB (fun xs H Q => rIsi K xs H Q ∨ rIsiSl K (.ref C) xs H Q) (tCons te (tCons (tC (.ref C)) tNil))) (rIsiC C re) := fun σ δ μ G H k Q S w q b =>
  h σ δ μ G H _ _ S w q fun v d μ1 G1 H1 ⟨hd, q1⟩ w1 g1 r1 => by
    cases r1 with
    | non => exact .inl ⟨_, _, _, _, false, rfl, .own C, tyN_out w1 .non rfl, c.kNon, b _ _ μ1 G1 H1 q1 w1 g1 (.bl _)⟩
    | int i => exact .inl ⟨_, _, _, _, false, rfl, .own C, tyN_out w1 (.int i) rfl, c.kInt, b _ _ μ1 G1 H1 q1 w1 g1 (.bl _)⟩
    | tup h1 h2 => exact .inl ⟨_, _, _, _, false, rfl, .own C, tyN_out w1 (.tup h1 h2) rfl, c.kTup, b _ _ μ1 G1 H1 q1 w1 g1 (.bl _)⟩
    | obj h1 h2 =>
      have hd : _ = C := hd
      subst hd
      exact .inr ⟨_, _, _, _, _, true, rfl, rfl, fun w r => r, w1.ex.slt h1, c.cls, c.isi, c.kOwn, b _ _ μ1 G1 H1 q1 w1 g1 (.bl _)⟩
    | _ => exact hd.elim
/-- str(x) -/
@[simp] def rStrC (C : Addr) (dsp : DSp) (ra : RE) : RE := fun δ μ k => ra δ μ fun x μ1 => (match x with | .obj C' _ => C' = C | _ => False) ∧ @dCall dsp [x] μ1 fun d μ' => (match d with | .str _ => True | _ => False) ∧ k d μ'
theorem okE_strC {dsp : DSp} {te : TE} {ra : RE} (h : OkE K te ra) : OkE K (tCB (rStrA C (spOf K dsp)) (tCons te tNil)) (rStrC C dsp ra) := fun σ δ μ G H k Q S w q b =>
  h σ δ μ G H _ _ S w q fun v d μ1 G1 H1 ⟨hx, q1⟩ w1 g1 r1 => by
    cases r1 with
    | obj h1 h2 =>
      have hx : _ = C := hx
      subst hx
      refine ⟨_, _, _, rfl, w1.ex.slt h1, _, μ1, G1, _, w1, .cons (.obj h1 h2) .nil, q1, fun v d μ' G' H' ⟨hs, qk⟩ w' g' r' => ?_⟩
      cases r' with
      | str y => exact ⟨y, rfl, b _ _ μ' G' H' qk w' (g1.trans g') (.str y)⟩
      | _ => exact hs.elim
    | _ => exact hx.elim
/-! C(..): inm tells which arguments are let, and the slots -/
def spMk (K : PySem.W.Frag) (C : Addr) (inm : List D → List D → Prop) : Sp := fun vs H Q _ => ∃ (a dx : Addr) (ws : List V) (ds fs : List D) (μ : Mu) (G H1 : Hp) (k : DK), vs = .ref a :: ws ∧ H1 a = none ∧ H1 dx = none ∧ dx ≠ a ∧ H = upd (upd H1 dx (.own a)) a (.ins C dx []) ∧ Wd K G H1 μ ∧ RepL K G ws ds ∧ inm ds fs ∧
  k (.obj C fs) μ ∧ (∀ μ' G' H', k (.obj C fs) μ' → Wd K G' H' μ' → Go μ G H1 μ' G' H' → Rep K G' (.ref a) (.obj C fs) → Q .non H')
@[simp] def rMk (C : Addr) (inm : List D → List D → Prop) (ra : RA) : RE := fun δ μ k => ra δ μ fun ds μ1 => ∃ fs, inm ds fs ∧ k (.obj C fs) μ1
theorem okE_mk {inm : List D → List D → Prop} {t : TA} {ra : RA} (h : OkA K t ra) : OkE K (tMake C (spMk K C inm) [] E0 t) (rMk C inm ra) := fun σ δ μ G H k Q S w q b =>
  h σ δ μ G H _ _ S w q fun vs ds μ1 G1 H1 ⟨fs, hi, q1⟩ w1 g1 r1 x dx hx hd hne => by
    show spMk K C inm (.ref x :: (vs ++ [])) _ _ _
    rw [List.append_nil]
    exact ⟨x, dx, vs, ds, fs, μ1, G1, H1, k, rfl, hx, hd, hne, rfl, w1, r1, hi, q1, fun μ' G' H' qk w' g' r' => ⟨rfl, b _ _ μ' G' H' qk w' (g1.trans g') r'⟩⟩
/-- the heap in which __init__ begins -/
theorem wd_made {μ : Mu} {G H1 : Hp} {a dx : Addr} (w : Wd K G H1 μ) (ha : H1 a = none) (hd : H1 dx = none) : Wd K G (upd (upd H1 dx (.own a)) a (.ins C dx [])) μ := by
  refine ⟨fun b o e => ?_, fun p ds e => ?_⟩
  · have := w.ex _ _ e
    rw [upd_ne (ne_of_none this ha), upd_ne (ne_of_none this hd)]; exact this
  · obtain ⟨h1, vs, h2, h3⟩ := w.mu p ds e
    exact ⟨h1, vs, by rw [upd_ne (ne_of_none h2 ha), upd_ne (ne_of_none h2 hd)]; exact h2, h3⟩
/-- .. and at its end: H2 is the heap ahead of the stores -/
theorem mk_done {μ : Mu} {G H1 G2 H2 : Hp} {a dx : Addr} {vs : List V} {fs : List D} (w : Wd K G H1 μ) (ha : H1 a = none) (hd : H1 dx = none) (hne : dx ≠ a)
    (w2 : Wd K G2 H2 μ) (g2 : Go μ G (upd (upd H1 dx (.own a)) a (.ins C dx [])) μ G2 H2) (r : RepL K G2 vs fs) :
    ∃ G3, Wd K G3 (slH H2 a C dx (vs.map some)) μ ∧ Go μ G H1 μ G3 (slH H2 a C dx (vs.map some)) ∧ Rep K G3 (.ref a) (.obj C fs) := by
  have ma : μ a = none := w.mnone ha
  have md : μ dx = none := w.mnone hd
  have ia : (upd (upd H1 dx (.own a)) a (.ins C dx [])) a = some (.ins C dx []) := upd_same
  have id : (upd (upd H1 dx (.own a)) a (.ins C dx [])) dx = some (.own a) := by rw [upd_ne hne, upd_same]
  have fresh : ∀ {c : Addr} {u : HO}, (upd (upd H1 dx (.own a)) a (.ins C dx [])) c = some u → G c = none → μ c = none → G2 c = none := fun {c u} h1 h2 h3 => by
    cases e : G2 c with
    | none => rfl
    | some o =>
      rcases g2.gf c (by rw [e]; simp) with z | z | z
      · exact absurd h2 z
      · exact absurd h3 z
      · rw [h1] at z; cases z
  have ga : G2 a = none := fresh ia (w.gnone ha) ma
  have gd : G2 dx = none := fresh id (w.gnone hd) md
  have ex3 : Ex G2 (upd (upd G2 dx (.xd [])) a (SlO a C dx (vs.map some))) := fun b o e => by
    rw [upd_ne (ne_of_none e ga), upd_ne (ne_of_none e gd)]; exact e
  refine ⟨upd (upd G2 dx (.xd [])) a (SlO a C dx (vs.map some)), ⟨fun b o e => ?_, fun p ds e => ?_⟩, ⟨g2.eg.trans ex3, fun b o e hm => ?_, fun b e => ?_, fun b e => ?_⟩, .obj (.inr ⟨upd_same, by rw [upd_ne hne, upd_same]⟩) (r.mono ex3)⟩
  · unfold slH
    by_cases h1 : b = a
    · subst h1; rw [upd_same] at e ⊢; exact e
    · rw [upd_ne h1] at e ⊢
      by_cases h2 : b = dx
      · subst h2; rw [upd_same] at e ⊢; exact e
      · rw [upd_ne h2] at e ⊢; exact w2.ex _ _ e
  · obtain ⟨h1, xs, h2, h3⟩ := w2.mu p ds e
    have n1 : p ≠ a := fun z => by subst z; rw [ma] at e; cases e
    have n2 : p ≠ dx := fun z => by subst z; rw [md] at e; cases e
    exact ⟨by rw [upd_ne n1, upd_ne n2]; exact h1, xs, by rw [slH_ne n1 n2]; exact h2, h3.mono ex3⟩
  · have n1 : b ≠ a := ne_of_none e ha
    have n2 : b ≠ dx := ne_of_none e hd
    rw [slH_ne n1 n2]
    exact g2.kp b o (by rw [upd_ne n1, upd_ne n2]; exact e) hm
  · exact .inl e
  · by_cases h1 : b = a
    · subst h1; exact .inr (.inr ha)
    · by_cases h2 : b = dx
      · subst h2; exact .inr (.inr hd)
      · rw [upd_ne h1, upd_ne h2] at e
        rcases g2.gf b e with z | z | z
        · exact .inl z
        · exact .inr (.inl z)
        · rw [upd_ne h1, upd_ne h2] at z; exact .inr (.inr z)
end
/-! ### the rules with K said outright -/
section
variable {X : Cx} {K : PySem.W.Frag} {P : Program} {w : World} {mg : Str → Option Value} {base : Heap} {C : Addr}
theorem ko_eqC {n j : Nat} {dsp : DSp} (F : SpD P w K mg base C "__eq__" n dsp) (hr : Room j X.A) (hj : n ≤ j := by decide) (hP : X.prog = P := by rfl) (hw : X.w = w := by rfl) (hK : X.K = K := by rfl) (hm : X.mg = mg := by rfl) (hb : X.base = base := by rfl) : OpR X (compareOp .Eq) (rEqA K C (spOf K dsp)) := by
  subst hP hw hK hm hb
  obtain ⟨g, h1, h2, F⟩ := F.ex
  exact op_eqA h1 h2 F (hr.mono hj)
theorem ko_neC {n j : Nat} {dsp : DSp} (c : Cmp K C) (F : SpD P w K mg base C "__eq__" n dsp) (hr : Room j X.A) (hj : n + 1 ≤ j := by decide) (hP : X.prog = P := by rfl) (hw : X.w = w := by rfl) (hK : X.K = K := by rfl) (hm : X.mg = mg := by rfl) (hb : X.base = base := by rfl) : OpR X (compareOp .NotEq) (rNeA K C (spOf K dsp)) := by
  subst hP hw hK hm hb
  obtain ⟨g, h1, h2, F⟩ := F.ex
  exact op_neA h1 h2 c.ne c.isi.cm F (hr.mono hj)
theorem ke_strC {n j : Nat} {dsp : DSp} {e : Expr} {te : TE} {p pos : Pos} (F : SpD P w K mg base C "__str__" n dsp) (hr : Room j X.A) (hmS : mg "str" = none) (he : PE X e te) (hj : n + 2 ≤ j := by decide) (hg : Gl X "str" := by rfl) (hP : X.prog = P := by rfl) (hw : X.w = w := by rfl) (hK : X.K = K := by rfl) (hm : X.mg = mg := by rfl) (hb : X.base = base := by rfl)
    (hs : starEach [e] X.env = (false, eval e X.env) :: starEach [] X.env := by rfl) (hpl : (backTo pos (starEach [] X.env)).any (·.1) = false := by rfl) : PE X (.Call (.Name "str" p) [e] [] pos) (tCB (rStrA C (spOf K dsp)) (tCons te tNil)) := by
  subst hP hw hK hm hb
  obtain ⟨g, h1, h2, F⟩ := F.ex
  exact kt_call (call_strA h1 h2 F (hr.mono hj)) hmS (pa_cons he pa_nil hs) hg rfl (by decide +kernel) (by decide) (by decide) hs hpl
theorem ke_isiC {x : Str} {e : Expr} {te : TE} {p q pos : Pos} (hmI : mg "isinstance" = none) (hmC : mg x = some (.ref C)) (he : PE X e te) (hg : Gl X "isinstance" := by rfl) (hgx : Gl X x := by rfl) (hK : X.K = K := by rfl) (hm : X.mg = mg := by rfl) (hd : (x == ("__debug__" : Str)) = false := by decide)
    (hs : starEach [e, .Name x q] X.env = (false, eval e X.env) :: starEach [.Name x q] X.env := by rfl) (hs2 : starEach [.Name x q] X.env = (false, eval (.Name x q) X.env) :: starEach [] X.env := by rfl) (hpl : (backTo pos (starEach [.Name x q] X.env)).any (·.1) = false := by rfl) :
    PE X (.Call (.Name "isinstance" p) [e, .Name x q] [] pos) (tCB (fun xs H Q => rIsi K xs H Q ∨ rIsiSl K (.ref C) xs H Q) (tCons te (tCons (tC (.ref C)) tNil))) := by
  subst hK hm
  exact kb_call (cr_or call_isi (call_isiSl (.ref C))) hmI (pa_cons he (pa_cons (pe_glob hgx hmC rfl hd) pa_nil hs2) hs) hg rfl (by decide +kernel) (by decide) (by decide) hs hpl
theorem ke_mk {x : Str} {k j : Nat} {inm : List D → List D → Prop} {e : Expr} {es : List Expr} {p pos : Pos} {t : TA} (c : MakD P w K mg base k x C (spMk K C inm)) (hr : Room j X.A) (ha : PA X (e :: es) t) (hk : k + 1 ≤ j := by decide) (hg : Gl X x := by rfl) (hP : X.prog = P := by rfl) (hw : X.w = w := by rfl) (hK : X.K = K := by rfl) (hm : X.mg = mg := by rfl) (hb : X.base = base := by rfl)
    (hdb : (x == ("__debug__" : Str)) = false := by decide) (he : starEach (e :: es) X.env = (false, eval e X.env) :: starEach es X.env := by rfl) (hpl : (backTo pos (starEach es X.env)).any (·.1) = false := by rfl) : PE X (.Call (.Name x p) (e :: es) [] pos) (tMake C (spMk K C inm) [] E0 t) := by
  subst hP hw hK hm hb
  obtain ⟨f, fd, ps, M, F, h1, h2⟩ := c.ex
  exact pe_make M F (hr.mono hk) hg h1 h2 .nil pass0 ha hdb he hpl
theorem ke_meth0 {m : Str} {n j : Nat} {dsp : DSp} {o : Expr} {ta : TE} {apos pos : Pos} {pl : Sem Bool} (c : SCls K C) (F : MethD P w K mg base C m n dsp) (hr : Room j X.A) (he : PE X o ta) (hj : n ≤ j := by decide) (hP : X.prog = P := by rfl) (hw : X.w = w := by rfl) (hK : X.K = K := by rfl) (hm : X.mg = mg := by rfl) (hb : X.base = base := by rfl)
    (ht : eval (.Call (.Attribute o m apos) [] [] pos) X.env = (do
      let ov ← eval o X.env
      standAt apos.atName
      let (f, first) ← holding [ov] (getMethod ov m pl)
      callWith pos f first (backTo pos (starEach [] X.env)) (backToKw pos (keywordEach [] X.env))) := by rfl) :
    PE X (.Call (.Attribute o m apos) [] [] pos) (tMethSl C (spOf K dsp) E0 ta tNil) := by
  subst hP hw hK hm hb
  obtain ⟨g, h1, F⟩ := F.ex
  exact pe_methSl0 he c h1 F (hr.mono hj) pass0 ht
theorem kg_slA {o : Expr} {f : Str} {pos : Pos} {to : TE} (ho : PE X o to) (hK : X.K = K := by rfl) : PG X (.Attribute o f pos) (gSlA K to f) := by subst hK; exact pg_slA ho
end
/-! ### the defs of a class -/
def BindsF (x qual : Str) (st : Stmt) (ps : List Str) : Prop := ∀ (kV doc pm : Value) (an : Option Addr) (cdv ct : Value) (us : List Value), us.length = ps.length → bindArgs (PySem.W.fnOf x qual (defArgs st) (defBody st) (defScope st) .none kV doc pm an cdv ct) ⟨us, []⟩ = pure (ps.zip us)
/-- where a property's getter stands -/
structure AtP (K : PySem.W.Frag) (C : Addr) (f qual : Str) (st : Stmt) : Prop where
  ex : ∃ (p g : Addr) (fd : FuncData), PySem.W.findIn K (.ref C) f = some (some (.ref p)) ∧ PySem.W.specialIn K (.ref p) "__get__" = some (some (.builtin "property.__get__")) ∧ PySem.W.takesIn K (.ref p) = some true ∧
    (∃ rest, PySem.W.recIn K p "property" = some (.ref g :: rest)) ∧ Fun K f qual st g fd
/-- where a def of the class stands -/
structure AtM (K : PySem.W.Frag) (C : Addr) (f qual : Str) (st : Stmt) : Prop where
  ex : ∃ (g : Addr) (fd : FuncData), Meth K C f g ∧ Fun K f qual st g fd
section
variable {P : Program} {w : World} {K : PySem.W.Frag} {mg : Str → Option Value} {base : Heap} {C : Addr} {x qual : Str} {st : Stmt} {N ps : List Str} {k : Nat} {dsp : DSp} {r : RS}
theorem propD_of (a : AtP K C x qual st) (B : Body P w K mg base k qual st N r) (S : FnScope N ps (defScope st)) (hb : BindsF x qual st ps) (len : ∀ ds μ k, dsp ds μ k → ds.length = ps.length)
    (vc : ∀ ds μ k, dsp ds μ k → r { nx := fun _ μ' => k .non μ', rt := k } (startD N ds) μ) : PropD P w K mg base C x (k + 1) dsp := by
  obtain ⟨p, g, fd, h1, h2, h3, h4, F⟩ := a.ex
  exact ⟨p, g, h1, h2, h3, h4, FnOk.pos (fn_body B F S len vc) (F.binds hb)⟩
theorem methD_of (a : AtM K C x qual st) (B : Body P w K mg base k qual st N r) (S : FnScope N ps (defScope st)) (hb : BindsF x qual st ps) (len : ∀ ds μ k, dsp ds μ k → ds.length = ps.length)
    (vc : ∀ ds μ k, dsp ds μ k → r { nx := fun _ μ' => k .non μ', rt := k } (startD N ds) μ) : MethD P w K mg base C x (k + 1) dsp := by
  obtain ⟨g, fd, h1, F⟩ := a.ex
  exact ⟨g, h1, FnOk.pos (fn_body B F S len vc) (F.binds hb)⟩
theorem spD_of (a : AtM K C x qual st) (B : Body P w K mg base k qual st N r) (S : FnScope N ps (defScope st)) (hb : BindsF x qual st ps) (len : ∀ ds μ k, dsp ds μ k → ds.length = ps.length)
    (vc : ∀ ds μ k, dsp ds μ k → r { nx := fun _ μ' => k .non μ', rt := k } (startD N ds) μ) : SpD P w K mg base C x (k + 1) dsp := by
  obtain ⟨g, fd, h1, F⟩ := a.ex
  exact ⟨g, h1.at_, h1.fn, FnOk.pos (fn_body B F S len vc) (F.binds hb)⟩
end
end DL


set_option Elab.async false
set_option linter.all false
set_option maxRecDepth 100000
set_option maxHeartbeats 4000000
/-! DLt: texts. -/
namespace DL
open PySem PySem.Spec PyProof.Rows L2 SlX TL
theorem len_tl (x : Str) : x.length = (tl x).length := by
  show x.cps.size = x.cps.toList.length
  simp
theorem ok_tl (x : Str) : PyData.strOk x = true ↔ ∀ c ∈ tl x, c < 0x110000 := by
  unfold PyData.strOk
  rw [Array.all_eq_true']
  simp [tl]
theorem joinL_mem {S : List Nat} {c : Nat} : ∀ {ps : List (List Nat)}, c ∈ joinL S ps → c ∈ S ∨ ∃ p ∈ ps, c ∈ p
  | [], h => by simp [joinL] at h
  | [p], h => .inr ⟨p, by simp, h⟩
  | p :: q :: r, h => by
    simp only [joinL, List.mem_append] at h
    rcases h with h | h | h
    · exact .inr ⟨p, by simp, h⟩
    · exact .inl h
    · rcases joinL_mem h with z | ⟨p', h1, h2⟩
      · exact .inl z
      · exact .inr ⟨p', List.mem_cons_of_mem _ h1, h2⟩
theorem joinL_len {S : List Nat} {b : Nat} : ∀ {ps : List (List Nat)}, (∀ p ∈ ps, p.length ≤ b) → (joinL S ps).length ≤ ps.length * (b + S.length)
  | [], _ => by simp [joinL]
  | [p], h => by have := h p (by simp); simp [joinL]; omega
  | p :: q :: r, h => by
    have h1 := h p (by simp)
    have h2 := joinL_len (S := S) (ps := q :: r) (b := b) (fun z hz => h z (List.mem_cons_of_mem _ hz))
    have e : (p :: q :: r).length * (b + S.length) = (b + S.length) + (q :: r).length * (b + S.length) := by
      simp only [List.length_cons]
      rw [Nat.add_mul (r.length + 1) 1, Nat.one_mul, Nat.add_comm]
    rw [e]
    simp only [joinL, List.length_append]
    omega
theorem joinL_nil {S : List Nat} : ∀ {ps : List (List Nat)}, (∀ p ∈ ps, p ≠ []) → joinL S ps = [] → ps = []
  | [], _, _ => rfl
  | [p], h, e => absurd e (h p (by simp))
  | p :: q :: r, h, e => by
    simp only [joinL] at e
    exact absurd (List.append_eq_nil_iff.mp e).1 (h p (by simp))
theorem tl_joinT (y : Str) (ys : List Str) : tl (Txt.join y ys) = joinL (tl y) (ys.map tl) := by rw [join_eq, tl_join]
theorem len_app (x y : Str) : (x ++ y).length = x.length + y.length := by rw [len_tl, len_tl x, len_tl y, tl_append, List.length_append]
end DL


set_option Elab.async false
set_option linter.all false
set_option maxRecDepth 100000
set_option maxHeartbeats 4000000
/-! DLs: starred items of displays. -/
namespace DL
open PySem PySem.Spec PyProof.Rows L2 SlX StX
section
variable {K : PySem.W.Frag}
@[simp] def rStar (re : RE) (rr : RA) : RA := fun δ μ k => re δ μ fun x μ1 => ∃ ds, asQ μ1 x = some ds ∧ rr δ μ1 fun es μ2 => k (ds ++ es) μ2
theorem okA_star {te : TE} {re : RE} {tr : TA} {rr : RA} (he : OkE K te re) (hr : OkA K tr rr) : OkA K (tStar K te tr) (rStar re rr) := fun σ δ μ G H k Q S w q b =>
  he σ δ μ G H _ _ S w q fun x dx μ1 G1 H1 ⟨ds, e, q1⟩ w1 g1 r1 => by
    obtain ⟨a, vs, rfl, hs, rl⟩ := asQ_out w1 r1 e
    exact ⟨a, vs, rfl, hs.symm, hr σ δ μ1 G1 H1 _ _ (S.mono g1.eg) w1 q1 fun ys es μ2 G2 H2 q2 w2 g2 r2 => b (vs ++ ys) (ds ++ es) μ2 G2 H2 q2 w2 (g1.trans g2) ((rl.mono g2.eg).append r2)⟩
theorem ka_star (K : PySem.W.Frag) {X : Cx} {e : Expr} {es : List Expr} {te : TE} {t : TA} {p : Pos} (he : PE X e te) (hr : PA X es t) (hK : X.K = K := by rfl) (hs : starEach (.Starred e p :: es) X.env = (true, eval e X.env) :: starEach es X.env := by rfl) : PA X (.Starred e p :: es) (tStar K te t) := by
  subst hK; exact pa_star he hr hs
end
end DL


set_option Elab.async false
set_option linter.all false
set_option maxRecDepth 100000
set_option maxHeartbeats 4000000
/-! DLn: enumerate over a list or a tuple. -/
namespace DL
open PySem PySem.Spec PyProof.Rows L2 SlX
open Sem (wp)
set_option maxHeartbeats 8000000 in
theorem meets_enumerate_new1 {v : Value} {o : Obj} {H : Heap → Prop} (B : Begins v o H) :
    Meets (Builtin.«enumerate.__new__» ⟨[.type "enumerate", v], []⟩) (fun _ R s => H s.heap ∧
      R (.ok (.ret (.ref (s.heap.push o).objs.size))) { s with heap := (s.heap.push o).push { cls := .type "enumerate", data := .fields #[.none, .bool false, .ref s.heap.objs.size, rawInt 0, .none, .none] } }) :=
  .of_wp fun prog w A R s h => by
    obtain ⟨hp, g, d, tk, os⟩ := s; obtain ⟨h1, h⟩ := h
    have hsub := sub_enumerate
    have q1 : ∀ {A' : Around} {E : Value → Shared → Prop} {Q : Value → Shared → Prop}, Q (.ref hp.objs.size) ⟨hp.push o, g, d, tk, os⟩ → wpAny (model prog w) A' (pyIter v) Q E ⟨hp, g, d, tk, os⟩ :=
      fun q => B.iter prog w _ _ ⟨hp, g, d, tk, os⟩ _ h1 q
    wp_walk using q1
    refine wpAny_stack_any fun st => wpAny_pure ?_
    split
    · rename_i c _ _ _ _ _
      cases (c == Value.type "enumerate")
      · wp_walk using q1
        exact ⟨_, rfl, h⟩
      · wp_walk using q1
        exact ⟨_, rfl, h⟩
    · wp_walk using q1
      exact ⟨_, rfl, h⟩
theorem enum_begins1 {prog : Program} {w : World} {A : Around} {E : Value → Shared → Prop} {s : Shared} {v : Value} {o : Obj} {H : Heap → Prop} {Q : Value → Shared → Prop} (B : Begins v o H) (h1 : H s.heap)
    (h : ∀ h', IsEnum h' (s.heap.objs.size + 1) s.heap.objs.size 0 .none → h'.get? s.heap.objs.size = some o → h'.objs.size = s.heap.objs.size + 2 →
      (∀ b o, s.heap.get? b = some o → h'.get? b = some o) → Q (.ref (s.heap.objs.size + 1)) { s with heap := h' }) :
    wpAny (model prog w) A (call (.type "enumerate") [v]) Q E s := by
  refine callType_new F.called_enumerate (by decide) (F.typeCall_enumerate_1 _) (F.newCall_enumerate_1 _) (fun obj => F.args_object_init_2 obj _) F.entry_enumerate_new
    (meets_enumerate_new1 B) ⟨h1, ?_⟩
  have hz : (s.heap.push o).objs.size = s.heap.objs.size + 1 := Heap.size_push ..
  show _ ∧ _
  rw [hz]
  have he : IsEnum ((s.heap.push o).push { cls := .type "enumerate", data := .fields #[.none, .bool false, .ref s.heap.objs.size, rawInt 0, .none, .none] }) (s.heap.objs.size + 1) s.heap.objs.size 0 .none := by
    have := Heap.get?_push_size (s.heap.push o) (o := { cls := .type "enumerate", data := .fields #[.none, .bool false, .ref s.heap.objs.size, rawInt 0, .none, .none] }) rfl
    rw [hz] at this; exact this
  refine ⟨⟨_, he, rfl⟩, h _ he (Heap.get?_push_of_some _ (Heap.get?_push_size _ B.free)) (by rw [Heap.size_push, hz]) fun b o x => Heap.get?_push_of_some _ (Heap.get?_push_of_some _ x)⟩
/-- what enumerate over the sequence at a walks -/
def IteM (c : Bool) (K : PySem.W.Frag) (a : Addr) : It where
  go := fun i H => ∃ xs x, SqA c K H a xs ∧ xs[i]? = some x
  yld := fun i H v H' => ∃ T x, v = V.ref T ∧ H T = none ∧ H' = upd H T (.tup [.int (i : Nat), x]) ∧ ∀ xs, SqA c K H a xs → xs[i]? = some x
  stop := fun i H => ∃ xs, SqA c K H a xs ∧ i = xs.length
theorem turn_enumM {P : Program} {w : World} {K : PySem.W.Frag} {elts : List Expr} {kk : Nat} {tpos : Pos} {c : Bool} {a e it : Addr} (ha : a ≠ it) (hei : e ≠ it) (hea : e ≠ a) :
    Turn P w K (.Tuple elts kk tpos) (IteM c K a) [e, it] e
      (fun i h => (∃ old, IsEnum h e it (0 + (i : Int)) old) ∧ IterA c h it a i) where
  mem := by simp
  obj := fun i h ⟨⟨old, he⟩, h1⟩ c hc => by
    have q : c = e ∨ c = it := by simpa using hc
    rcases q with q | q
    · subst q; exact ⟨_, he, fun v e => nomatch e⟩
    · subst q; exact iterA_obj h1
  keep := fun i h h' ⟨⟨old, he⟩, h1⟩ k => ⟨⟨old, k e (by simp) _ he⟩, iterA_at h1 (k it (by simp))⟩
  item := by
    intro X hP hw hK hc i pins s σ H E I hf ⟨⟨old, he⟩, h1⟩ hg
    subst hP hw hK
    obtain ⟨xs, x, sx, ex⟩ := hg
    obtain ⟨its, rv, p1⟩ := inv_sqA I sx
    obtain ⟨u, hu, ru⟩ := rv.get ex
    have hh : X.A.in1.handled = none := I.ok.hd hc
    have W := WalksT.enumFrom (prog := X.prog) (w := X.w) (A := X.A) 0 (drawsA hh c it a ha its.toArray) e hei (by simp [hei, hea]) (by simp)
    have l1 : i < its.length := (List.getElem?_eq_some_iff.mp hu).1
    refine W.item i s _ _ (by simp; omega) ⟨⟨old, he⟩, ⟨h1, p1⟩⟩ fun T vals h' tk hv hT hIs mid hk => ?_
    obtain ⟨t, x1, e1, rfl⟩ := hv
    have e1 : x1 = u := by have e1 : its.toArray[i]? = some x1 := e1; rw [List.getElem?_toArray, hu] at e1; exact (Option.some.inj e1).symm
    subst e1
    have apart := W.apart i T h' mid
    refine ⟨_, rfl, W.go elts kk tpos i T { s with heap := h', toks := tk } _ _ mid fun h'' st hk2 => ?_⟩
    obtain ⟨⟨old', he'⟩, ⟨h1', _⟩⟩ := st
    have hTn : H T = none := I.hok.fresh hT
    have tneq : ∀ c, c ∈ [e, it] → c < T := fun c hm => by
      have q : c < s.heap.objs.size := by
        have q : c = e ∨ c = it := by simpa using hm
        rcases q with q | q
        · subst q; exact Heap.lt_size he
        · subst q; obtain ⟨_, e, _⟩ := iterA_obj h1; exact Heap.lt_size e
      exact Nat.lt_of_lt_of_le q hT
    obtain ⟨oT, eT, cT, nT, dT⟩ := id hIs
    have new : ObjOk X.prog X.w (upd H T (.tup [.int (i : Nat), x])) h'' T (.tup [.int (i : Nat), x]) :=
      ⟨by show 2 ≤ sizeLine; decide, [.int (0 + (i : Int)) t, x1], .cons ⟨t, by rw [Int.zero_add]⟩ (.cons ru .nil), ⟨oT, hk2 T oT apart eT, cT, nT, dT⟩⟩
    refine ⟨.ref T, _, I.turnedNew (t' := tk) (ch := [e, it]) (fun c o hb q => hk2 c o hb (hk c o hb q)) hf hT new, rfl, ⟨T, x, rfl, hTn, rfl, fun l hl => by rw [inv_injA I hl sx]; exact ex⟩,
      ⟨⟨old', he'⟩, h1'⟩, fun c hm => ?_⟩
    rw [upd_ne (Nat.ne_of_lt (tneq c hm))]
    exact (hf c hm).1
  done := by
    intro X hP hw hK hc i pins s σ H E I hf ⟨⟨old, he⟩, h1⟩ hg
    subst hP hw hK
    obtain ⟨xs, sx, hend⟩ := hg
    obtain ⟨its, rv, p1⟩ := inv_sqA I sx
    have hh : X.A.in1.handled = none := I.ok.hd hc
    have l1 := rv.length
    have W := WalksT.enumFrom (prog := X.prog) (w := X.w) (A := X.A) 0 (drawsA hh c it a ha its.toArray) e hei (by simp [hei, hea]) (by simp)
    have ei : i = its.toArray.size := by rw [hend, l1]; simp
    rw [ei] at h1 he
    exact W.done s _ _ ⟨⟨old, he⟩, ⟨h1, p1⟩⟩ fun h' tk hk => ⟨rfl, I.turnedL (t' := tk) (ch := [e, it]) (fun c o hb q => hk c o hb q) hf⟩
  self := fun A i s Q E st h => let ⟨⟨_, he⟩, _⟩ := st; wpAny_pyIter_enum he h
section
variable {K : PySem.W.Frag}
def iEnumM (K : PySem.W.Frag) (ta : TA) : TI := fun σ H R => ta σ H fun vs H1 => ∃ (c : Bool) (a : Addr) (xs : List V), vs = [V.ref a] ∧ SqA c K H1 a xs ∧ R (IteM c K a) H1
theorem pi_enumM {X : Cx} {e : Expr} {ta : TA} {p pos tpos : Pos} {elts : List Expr} {kk : Nat} (hg : Gl X "enumerate") (hm : X.mg "enumerate" = none) (ha : PA X [e] ta)
    (hs : starEach [e] X.env = [(false, eval e X.env)] := by rfl) :
    PI X (.Tuple elts kk tpos) (.Call (.Name "enumerate" p) [e] [] pos) (iEnumM X.K ta) := ⟨fun pins s σ H R I h => by
  refine Call_ (ld_blt I hg hm boot_enumerate (PyProof.Rows.callWith_type1 (thn (ha.run pos pins s σ H _ I h) fun us s1 ⟨vs, H1, I1, r1, q1⟩ => ?_) hs rfl))
  obtain ⟨c, a, xs, rfl, sx, q⟩ := q1
  cases r1 with
  | cons r rr =>
    cases rr
    cases r
    obtain ⟨its, rv, p1⟩ := inv_sqA I1 sx
    have la := isA_lt p1
    refine enum_begins1 (beginsA c a its.toArray) p1 fun h' he hit hsz hk => wpAny_pyIter_enum he ?_
    have I2 : Inv X pins σ H1 { s1 with heap := h' } := I1.kept (t' := s1.toks) hk
    have na : a ≠ s1.heap.objs.size := Nat.ne_of_lt la
    refine ⟨s1.heap.objs.size + 1, [s1.heap.objs.size + 1, s1.heap.objs.size], _, _, H1, rfl, I2, turn_enumM (c := c) na (Nat.succ_ne_self _) (Nat.ne_of_gt (Nat.lt_succ_of_lt la)), ⟨⟨.none, he⟩, iterA_0 hit⟩, fun b hb => ?_, q⟩
    have e' : b = s1.heap.objs.size + 1 ∨ b = s1.heap.objs.size := by simpa using hb
    have hle : s1.heap.objs.size ≤ b := by
      rcases e' with z | z
      · rw [z]; exact Nat.le_add_right _ _
      · rw [z]; exact Nat.le_refl _
    exact I1.fpOk hle (I1.hok.fresh hle)⟩
theorem ki_enum (K : PySem.W.Frag) {X : Cx} {e : Expr} {ta : TA} {p pos tpos : Pos} {elts : List Expr} {kk : Nat} (hg : Gl X "enumerate") (hm : X.mg "enumerate" = none) (ha : PA X [e] ta) (hK : X.K = K := by rfl)
    (hs : starEach [e] X.env = [(false, eval e X.env)] := by rfl) :
    PI X (.Tuple elts kk tpos) (.Call (.Name "enumerate" p) [e] [] pos) (iEnumM K ta) := by subst hK; exact pi_enumM hg hm ha hs
@[simp] def numD : Nat → Option D → Option D
  | i, some x => some (.tup [.int (i : Nat), x])
  | _, _ => none
def itE (x : D) (xs : List D) : DIt := ⟨xs.length, fun i => numD i xs[i]?, fun μ => asQ μ x = some xs⟩
@[simp] def rIE (ra : RA) : RI := fun δ μ k => ra δ μ fun ds μ1 => match ds with | [x] => ∃ xs, asQ μ1 x = some xs ∧ k (itE x xs) μ1 | _ => False
theorem itOk_enum {G : Hp} {va : Addr} {x : D} {xs : List D} (r1 : Rep K G (.ref va) x) : ItOk K G (IteM (kindA x) K va) (itE x xs) := fun i μ G1 H1 e w o1 => by
  obtain ⟨a, vs, ea, sa, ra⟩ := asQ_outA w (r1.mono e) o1
  cases ea
  refine ⟨fun hi => ⟨vs, sa, by rw [ra.length]; exact hi.symm⟩, fun hi => ?_⟩
  have hi : i < xs.length := hi
  have l1 : i < vs.length := by rw [ra.length]; omega
  refine ⟨⟨vs, vs[i], sa, List.getElem?_eq_getElem l1⟩, fun v H2 ⟨T, u, hv, hT, hH, h1⟩ => ?_⟩
  subst hv hH
  obtain ⟨d1, g1, q1⟩ := ra.get (h1 vs sa)
  refine ⟨.tup [.int (i : Nat), d1], upd G1 T (.tup [.int (i : Nat), u]), ?_, w.new hT, Go.new w hT, .tup (SqT.of upd_same) (.cons (.int _) (.cons (q1.mono (Ex.new (w.gnone hT))) .nil))⟩
  show numD i xs[i]? = _
  rw [g1]
  rfl
theorem okI_enum {ta : TA} {ra : RA} (h : OkA K ta ra) : OkI K (iEnumM K ta) (rIE ra) := fun σ δ μ G H k R S w q b =>
  h σ δ μ G H _ _ S w q fun vs ds μ1 G1 H1 q1 w1 g1 r1 => by
    split at q1
    · rename_i x
      obtain ⟨xs, e1, q2⟩ := q1
      cases r1 with
      | cons a t =>
        cases t
        obtain ⟨p, vs1, rfl, s1, _⟩ := asQ_outA w1 a e1
        exact ⟨_, p, vs1, rfl, s1, b _ _ μ1 G1 H1 q2 w1 g1 (itOk_enum a)⟩
    · exact q1.elim
theorem Src.e {μ : Mu} {x : D} {xs : List D} (h1 : asQ μ x = some xs) : Src (itE x xs) μ (xs.zipIdx.map fun q => .tup [.int (q.2 : Nat), q.1]) := by
  refine ⟨by simp [itE], fun i d hi h => ?_, h1⟩
  have hi : i < xs.length := hi
  have h : numD i xs[i]? = some d := h
  rw [List.getElem?_eq_getElem hi] at h
  rw [List.getElem?_map, List.getElem?_zipIdx, List.getElem?_eq_getElem hi]
  simpa using h
end
end DL


set_option Elab.async false
set_option linter.all false
set_option maxRecDepth 100000
set_option maxHeartbeats 4000000
namespace K20
open PySem PySem.Spec PyProof.Rows L2 SlX DL
def topS (i : Nat) : Stmt := PySem.Challenge.pw_rampworks_k20_whole_networks_put_togethe.main.body.getD i (.Pass ⟨0, 0, 0, 0⟩)
def sixty : Int := 1000000000000000000000000000000000000000000000000000000000000
/-- what the module's names hold -/
structure Txt (K : PySem.W.Frag) (mg : Str → Option Value) : Prop where
  b_isinstance : mg "isinstance" = none
  b_int : mg "int" = none
  b_bool : mg "bool" = none
  b_tuple : mg "tuple" = none
  b_len : mg "len" = none
  b_all : mg "all" = none
  b_sum : mg "sum" = none
  b_zip : mg "zip" = none
  b_range : mg "range" = none
  b_max : mg "max" = none
  b_min : mg "min" = none
  b_abs : mg "abs" = none
  b_list : mg "list" = none
  b_str : mg "str" = none
  b_any : mg "any" = none
  b_enumerate : mg "enumerate" = none
  c_MOST_WEIGHT : ∃ t, mg "MOST_WEIGHT" = some (.int sixty t)
  c_SIXTY : ∃ t, mg "SIXTY" = some (.int sixty t)
  c_MOST_INPUTS : ∃ t, mg "MOST_INPUTS" = some (.int 8 t)
  c_MOST_LAYERS : ∃ t, mg "MOST_LAYERS" = some (.int 4 t)
  c_MOST_IN_LAYER : ∃ t, mg "MOST_IN_LAYER" = some (.int 64 t)
  c_MOST_UNITS : ∃ t, mg "MOST_UNITS" = some (.int 128 t)
/-! the promises -/
abbrev intsD (ns : List Int) : List D := ns.map D.int
abbrev rowD (ns : List Int) : D := .tup (intsD ns)
abbrev layerD (rs : List (List Int)) : D := .tup (rs.map rowD)
abbrev layersD (ls : List (List (List Int))) : D := .tup (ls.map layerD)
def short (i : Int) : Bool := decide (-sixty < i) && decide (i < sixty)
def areShort (ns : List Int) (m : Int) : Bool := decide ((ns.length : Int) = m) && ns.all short
def isLayer (rs : List (List Int)) (m : Int) : Bool := decide (1 ≤ rs.length ∧ rs.length ≤ 64) && rs.all fun r => areShort r m
def d_is_whole : DSp := fun ds μ k => ∃ i, ds = [.int i] ∧ k (.bl true) μ
def d_is_short : DSp := fun ds μ k => ∃ i, ds = [.int i] ∧ k (.bl (short i)) μ
def d_is_from : DSp := fun ds μ k => ∃ i a b, ds = [.int i, .int a, .int b] ∧ k (.bl (decide (a ≤ i) && decide (i ≤ b))) μ
def d_are_short : DSp := fun ds μ k => ∃ ns m, ds = [rowD ns, .int m] ∧ ns.length ≤ 1000000 ∧ k (.bl (areShort ns m)) μ
def d_is_layer : DSp := fun ds μ k => ∃ rs m, ds = [layerD rs, .int m] ∧ rs.length ≤ 1000000 ∧ (∀ r ∈ rs, r.length ≤ 1000000) ∧ k (.bl (isLayer rs m)) μ
/-- the layers of a network, the first one seeing m numbers -/
def Lays : List (List (List Int)) → Nat → Prop
  | [], _ => True
  | l :: ls, m => (1 ≤ l.length ∧ l.length ≤ 64) ∧ (∀ r ∈ l, r.length = m ∧ ∀ x ∈ r, short x = true) ∧ Lays ls (m + l.length)
def total (ls : List (List (List Int))) : Nat := (ls.map List.length).sum
structure IsNet (n : Nat) (ls : List (List (List Int))) (la : List Int) : Prop where
  lo : 1 ≤ n
  hi : n ≤ 8
  few : ls.length ≤ 4
  lays : Lays ls n
  tot : total ls ≤ 128
  len : la.length = n + total ls
  short : ∀ x ∈ la, short x = true
theorem total_take_succ {ls : List (List (List Int))} {i : Nat} {l : List (List Int)} (h : ls[i]? = some l) : total (ls.take (i + 1)) = total (ls.take i) + l.length := by
  unfold total
  rw [take_succ_of h, List.map_append, List.sum_append]
  simp
theorem lays_at : ∀ {ls : List (List (List Int))} {m i : Nat} {l : List (List Int)}, Lays ls m → ls[i]? = some l → (1 ≤ l.length ∧ l.length ≤ 64) ∧ ∀ r ∈ l, r.length = m + total (ls.take i) ∧ ∀ x ∈ r, short x = true
  | [], _, _, _, _, h => by simp at h
  | l :: ls, m, 0, _, q, h => by
    simp at h; subst h
    exact ⟨q.1, fun r hr => ⟨by rw [(q.2.1 r hr).1]; simp [total], (q.2.1 r hr).2⟩⟩
  | l :: ls, m, i + 1, l', q, h => by
    obtain ⟨h1, h2⟩ := lays_at (ls := ls) (m := m + l.length) (i := i) (l := l') q.2.2 (by simpa using h)
    refine ⟨h1, fun r hr => ⟨?_, (h2 r hr).2⟩⟩
    rw [(h2 r hr).1]
    simp [total]
    omega
theorem total_le {ls : List (List (List Int))} (i : Nat) : total (ls.take i) ≤ total ls := by
  conv => rhs; rw [← List.take_append_drop i ls]
  unfold total
  rw [List.map_append, List.sum_append]
  omega
def d_are_parts : DSp := fun ds μ k => ∃ n ls la, ds = [.int (n : Nat), layersD ls, rowD la] ∧ IsNet n ls la ∧ k (.bl true) μ
section
variable {P : Program} {w : World} {K : PySem.W.Frag} {mg : Str → Option Value} {base : Heap}
abbrev s_is_whole : Stmt := topS 9
abbrev N_is_whole : List Str := ["value"]
theorem sc_is_whole : FnScope N_is_whole ["value"] (defScope s_is_whole) := ⟨rfl, rfl, rfl, by decide +kernel, rfl, by decide +kernel, by decide +kernel⟩
def r_is_whole : RS :=
  (rRet (rAndV (rIsiB "int" (rVar 0)) (rNotV (rIsiB "bool" (rVar 0)))))
theorem b_is_whole (T : Txt K mg) : Body P w K mg base 0 "is_whole" s_is_whole N_is_whole (r_is_whole) := by
  refine fun f => ⟨_, fun cdv A outer s H E hr => ⟨(pss_one (ps_ret (pe_and (kb_call (kc_isi K) T.b_isinstance (pa_cons (pv 0) (pa_cons (kb_ty (T := "int") T.b_int) pa_nil))) (pe_one (pe_not (kb_call (kc_isi K) T.b_isinstance (pa_cons (pv 0) (pa_cons (kb_ty (T := "bool") T.b_bool) pa_nil)))))))),
    (okS_ret (okE_andV (okE_isi (okE_var 0)) (okE_notV (okE_isi (okE_var 0)))))⟩⟩

abbrev s_is_short : Stmt := topS 10
abbrev N_is_short : List Str := ["value"]
theorem sc_is_short : FnScope N_is_short ["value"] (defScope s_is_short) := ⟨rfl, rfl, rfl, by decide +kernel, rfl, by decide +kernel, by decide +kernel⟩
def r_is_short : RS :=
  (rRet (rAndV (rCall d_is_whole (rCons (rVar 0) rNil)) (rChain (oB (fun i j => decide (i < j))) (oB (fun i j => decide (i < j))) (rUn oNeg (rC (.int sixty))) (rVar 0) (rC (.int sixty)))))
theorem b_is_short (F_is_whole : FnD P w K mg base "is_whole" 1 d_is_whole) (T : Txt K mg) : Body P w K mg base 1 "is_short" s_is_short N_is_short (r_is_short) := by
  refine fun f => ⟨_, fun cdv A outer s H E hr => ⟨(pss_one (ps_ret (pe_and (ke_call K F_is_whole hr (pa_cons (pv 0) pa_nil)) (pe_one (pe_chain op_lt op_lt (pe_un un_neg (ke_globI T.c_SIXTY)) (pv 0) (ke_globI T.c_SIXTY)))))),
    (okS_ret (okE_andV (okE_call (okA_cons (okE_var 0) okA_nil)) (okE_chain okB okB (okE_un okNeg (okE_C fun _ => .int _)) (okE_var 0) (okE_C fun _ => .int _))))⟩⟩

abbrev s_is_from : Stmt := topS 11
abbrev N_is_from : List Str := ["value", "least", "most"]
theorem sc_is_from : FnScope N_is_from ["value", "least", "most"] (defScope s_is_from) := ⟨rfl, rfl, rfl, by decide +kernel, rfl, by decide +kernel, by decide +kernel⟩
def r_is_from : RS :=
  (rRet (rAndV (rCall d_is_whole (rCons (rVar 0) rNil)) (rChain (oB (fun i j => decide (i ≤ j))) (oB (fun i j => decide (i ≤ j))) (rVar 1) (rVar 0) (rVar 2))))
theorem b_is_from (F_is_whole : FnD P w K mg base "is_whole" 1 d_is_whole) (T : Txt K mg) : Body P w K mg base 2 "is_from" s_is_from N_is_from (r_is_from) := by
  refine fun f => ⟨_, fun cdv A outer s H E hr => ⟨(pss_one (ps_ret (pe_and (ke_call K F_is_whole hr (pa_cons (pv 0) pa_nil)) (pe_one (pe_chain op_le op_le (pv 1) (pv 0) (pv 2)))))),
    (okS_ret (okE_andV (okE_call (okA_cons (okE_var 0) okA_nil)) (okE_chain okB okB (okE_var 1) (okE_var 0) (okE_var 2))))⟩⟩

abbrev s_are_short : Stmt := topS 19
abbrev N_are_short : List Str := ["value", "many", "one"]
theorem sc_are_short : FnScope N_are_short ["value", "many"] (defScope s_are_short) := ⟨rfl, rfl, rfl, by decide +kernel, rfl, by decide +kernel, by decide +kernel⟩
def r_are_short : RS :=
  (rRet (rAndV (rIsiB "tuple" (rVar 0)) (rAndV (rOp oEq (rCB oLen (rCons (rVar 0) rNil)) (rVar 1)) (rCB oAll (rCons (rLc (rIT (rVar 0)) (rgName 2) rYes (rCall d_is_short (rCons (rVar 2) rNil)) [2]) rNil)))))
theorem b_are_short (F_is_short : FnD P w K mg base "is_short" 2 d_is_short) (T : Txt K mg) : Body P w K mg base 3 "are_short" s_are_short N_are_short (r_are_short) := by
  refine fun f => ⟨_, fun cdv A outer s H E hr => ⟨(pss_one (ps_ret (pe_and (kb_call (kc_isi K) T.b_isinstance (pa_cons (pv 0) (pa_cons (kb_ty (T := "tuple") T.b_tuple) pa_nil))) (pe_and (pe_cmpR (ko_eqD K hr.units) (kb_call (kc_len K) T.b_len (pa_cons (pv 0) pa_nil)) (pv 1) (nomark _)) (pe_one (kb_call (kc_all K) T.b_all (pa_cons (pe_lc (own := [("one", 2)]) rfl sc_are_short.nd (ki_tup K (pv 0)) (blkOk_by (own := [("one", 2)]) (N := N_are_short) (sc := defScope s_are_short) (by decide +kernel)) (fun _ _ _ _ _ => (pg_name (i := 2) sc_are_short.nd rfl (by first | exact Or.inl rfl | exact Or.inr rfl))) (fun _ _ _ _ _ => pts_nil) (fun _ _ _ _ _ => (ke_call K F_is_short hr (pa_cons (pv 2) pa_nil)))) pa_nil))))))),
    (okS_ret (okE_andV (okE_isi (okE_var 0)) (okE_andV (okE_op okEq (okE_CB okLen (okA_cons (okE_var 0) okA_nil)) (okE_var 1)) (okE_CB okAll (okA_cons (okE_lc (okI_tup (okE_var 0)) (okG_name 2) okT_yes (okE_call (okA_cons (okE_var 2) okA_nil)) (by decide)) okA_nil)))))⟩⟩

abbrev s_is_layer : Stmt := topS 20
abbrev N_is_layer : List Str := ["value", "many", "unit"]
theorem sc_is_layer : FnScope N_is_layer ["value", "many"] (defScope s_is_layer) := ⟨rfl, rfl, rfl, by decide +kernel, rfl, by decide +kernel, by decide +kernel⟩
def r_is_layer : RS :=
  (rSeq (rIfS (rOr (rNot (rB (rIsiB "tuple" (rVar 0)))) (rNot (rB (rChain (oB (fun i j => decide (i ≤ j))) (oB (fun i j => decide (i ≤ j))) (rC (.int 1)) (rCB oLen (rCons (rVar 0) rNil)) (rC (.int 64)))))) (rRet (rC (.bl false))) rNext)
  (rRet (rCB oAll (rCons (rLc (rIT (rVar 0)) (rgName 2) rYes (rCall d_are_short (rCons (rVar 2) (rCons (rVar 1) rNil))) [2]) rNil))))
theorem b_is_layer (F_are_short : FnD P w K mg base "are_short" 4 d_are_short) (T : Txt K mg) : Body P w K mg base 4 "is_layer" s_is_layer N_is_layer (r_is_layer) := by
  refine fun f => ⟨_, fun cdv A outer s H E hr => ⟨(pss_cons (ps_if (PW.pt (pw_or (pt_not (pt_val (kb_call (kc_isi K) T.b_isinstance (pa_cons (pv 0) (pa_cons (kb_ty (T := "tuple") T.b_tuple) pa_nil))))) (pw_or1 (pt_not (pt_chain op_le op_le pe_int (kb_call (kc_len K) T.b_len (pa_cons (pv 0) pa_nil)) (ke_globI T.c_MOST_IN_LAYER)))))) (pss_one (ps_ret pe_bl)) pss_nil)
      (pss_one (ps_ret (kb_call (kc_all K) T.b_all (pa_cons (pe_lc (own := [("unit", 2)]) rfl sc_is_layer.nd (ki_tup K (pv 0)) (blkOk_by (own := [("unit", 2)]) (N := N_is_layer) (sc := defScope s_is_layer) (by decide +kernel)) (fun _ _ _ _ _ => (pg_name (i := 2) sc_is_layer.nd rfl (by first | exact Or.inl rfl | exact Or.inr rfl))) (fun _ _ _ _ _ => pts_nil) (fun _ _ _ _ _ => (ke_call K F_are_short hr (pa_cons (pv 2) (pa_cons (pv 1) pa_nil))))) pa_nil))))),
    (okS_seq (okS_if (okT_or (okT_not (okT_B (okE_isi (okE_var 0)))) (okT_not (okT_test (okE_chain okB okB (okE_C fun _ => .int _) (okE_CB okLen (okA_cons (okE_var 0) okA_nil)) (okE_C fun _ => .int _))))) (okS_ret (okE_C fun _ => .bl _)) okS_next)
      (okS_ret (okE_CB okAll (okA_cons (okE_lc (okI_tup (okE_var 0)) (okG_name 2) okT_yes (okE_call (okA_cons (okE_var 2) (okA_cons (okE_var 1) okA_nil))) (by decide)) okA_nil))))⟩⟩

abbrev s_are_parts : Stmt := topS 21
abbrev N_are_parts : List Str := ["inputs", "layers", "last", "seen", "layer"]
theorem sc_are_parts : FnScope N_are_parts ["inputs", "layers", "last"] (defScope s_are_parts) := ⟨rfl, rfl, rfl, by decide +kernel, rfl, by decide +kernel, by decide +kernel⟩
def r_are_parts : RS :=
  (rSeq (rIfS (rOr (rNot (rB (rCall d_is_from (rCons (rVar 0) (rCons (rC (.int 1)) (rCons (rC (.int 8)) rNil)))))) (rOr (rNot (rB (rIsiB "tuple" (rVar 1)))) (rB (rOp (oB (fun i j => decide (j < i))) (rCB oLen (rCons (rVar 1) rNil)) (rC (.int 4)))))) (rRet (rC (.bl false))) rNext)
  (rSeq (rAsg (rVar 0) (rgName 3))
  (rSeq (rFor (rIT (rVar 1)) (rgName 4) (rSeq (rIfS (rNot (rB (rCall d_is_layer (rCons (rVar 4) (rCons (rVar 3) rNil))))) (rRet (rC (.bl false))) rNext)
  (rAug 3 (rCB oLen (rCons (rVar 4) rNil)) (fun i j => i + j))))
  (rRet (rAndV (rOp (oB (fun i j => decide (i ≤ j))) (rVar 3) (rOp (oI fun i j => i + j) (rVar 0) (rC (.int 128)))) (rCall d_are_short (rCons (rVar 2) (rCons (rVar 3) rNil))))))))
theorem b_are_parts (F_is_from : FnD P w K mg base "is_from" 3 d_is_from) (F_is_layer : FnD P w K mg base "is_layer" 5 d_is_layer) (F_are_short : FnD P w K mg base "are_short" 4 d_are_short) (T : Txt K mg) : Body P w K mg base 5 "are_parts" s_are_parts N_are_parts (r_are_parts) := by
  refine fun f => ⟨_, fun cdv A outer s H E hr => ⟨(pss_cons (ps_if (PW.pt (pw_or (pt_not (pt_val (ke_call K F_is_from hr (pa_cons (pv 0) (pa_cons pe_int (pa_cons (ke_globI T.c_MOST_INPUTS) pa_nil)))))) (pw_or (pt_not (pt_val (kb_call (kc_isi K) T.b_isinstance (pa_cons (pv 1) (pa_cons (kb_ty (T := "tuple") T.b_tuple) pa_nil))))) (pw_or1 (pt_cmpR op_gt (kb_call (kc_len K) T.b_len (pa_cons (pv 1) pa_nil)) (ke_globI T.c_MOST_LAYERS) (nomark _)))))) (pss_one (ps_ret pe_bl)) pss_nil)
      (pss_cons (ps_set (i := 3) sc_are_parts.nd rfl (Or.inl rfl) (pv 0))
      (pss_cons (ps_for PassesOwn.never rfl (ki_tup K (pv 1)) (pg_name (i := 4) sc_are_parts.nd rfl (Or.inl rfl)) (pss_cons (ps_if (pt_not (pt_val (ke_call K F_is_layer hr (pa_cons (pv 4) (pa_cons (pv 3) pa_nil))))) (pss_one (ps_ret pe_bl)) pss_nil)
      (pss_one (ps_aug (i := 3) sc_are_parts.nd rfl (Or.inl rfl) (kb_call (kc_len K) T.b_len (pa_cons (pv 4) pa_nil)) ip_add))))
      (pss_one (ps_ret (pe_and (pe_cmpR op_le (pv 3) (pe_op op_add (pv 0) (ke_globI T.c_MOST_UNITS)) (nomark _)) (pe_one (ke_call K F_are_short hr (pa_cons (pv 2) (pa_cons (pv 3) pa_nil)))))))))),
    (okS_seq (okS_if (okT_or (okT_not (okT_B (okE_call (okA_cons (okE_var 0) (okA_cons (okE_C fun _ => .int _) (okA_cons (okE_C fun _ => .int _) okA_nil)))))) (okT_or (okT_not (okT_B (okE_isi (okE_var 1)))) (okT_test (okE_op okB (okE_CB okLen (okA_cons (okE_var 1) okA_nil)) (okE_C fun _ => .int _))))) (okS_ret (okE_C fun _ => .bl _)) okS_next)
      (okS_seq (okS_asg (okE_var 0) (okG_name 3))
      (okS_seq (okS_for (okI_tup (okE_var 1)) (okG_name 4) (okS_seq (okS_if (okT_not (okT_B (okE_call (okA_cons (okE_var 4) (okA_cons (okE_var 3) okA_nil))))) (okS_ret (okE_C fun _ => .bl _)) okS_next)
      (okS_aug (okE_CB okLen (okA_cons (okE_var 4) okA_nil)))))
      (okS_ret (okE_andV (okE_op okB (okE_var 3) (okE_op okI (okE_var 0) (okE_C fun _ => .int _))) (okE_call (okA_cons (okE_var 2) (okA_cons (okE_var 3) okA_nil))))))))⟩⟩



theorem ok_is_whole (a : At K mg "is_whole" s_is_whole) (T : Txt K mg) : FnD P w K mg base "is_whole" 1 d_is_whole := by
  refine fnD_of a (b_is_whole T) sc_is_whole (fun _ _ _ _ _ _ us hl => match us, hl with | [_], _ => rfl) ?_ ?_
  · rintro ds μ k ⟨i, rfl, _⟩; rfl
  · rintro ds μ k ⟨i, rfl, h⟩
    simp [r_is_whole]
    exact h
theorem ok_is_short (a : At K mg "is_short" s_is_short) (F : FnD P w K mg base "is_whole" 1 d_is_whole) (T : Txt K mg) : FnD P w K mg base "is_short" 2 d_is_short := by
  refine fnD_of a (b_is_short F T) sc_is_short (fun _ _ _ _ _ _ us hl => match us, hl with | [_], _ => rfl) ?_ ?_
  · rintro ds μ k ⟨i, rfl, _⟩; rfl
  · rintro ds μ k ⟨i, rfl, h⟩
    simp [r_is_short]
    refine ⟨i, rfl, ?_⟩
    simp [short] at h ⊢
    split <;> simp_all
theorem ok_is_from (a : At K mg "is_from" s_is_from) (F : FnD P w K mg base "is_whole" 1 d_is_whole) (T : Txt K mg) : FnD P w K mg base "is_from" 3 d_is_from := by
  refine fnD_of a (b_is_from F T) sc_is_from (fun _ _ _ _ _ _ us hl => match us, hl with | [_, _, _], _ => rfl) ?_ ?_
  · rintro ds μ k ⟨i, _, _, rfl, _⟩; rfl
  · rintro ds μ k ⟨i, a, b, rfl, h⟩
    simp [r_is_from]
    refine ⟨i, rfl, ?_⟩
    simp at h ⊢
    split <;> simp_all
theorem ok_are_short (a : At K mg "are_short" s_are_short) (F : FnD P w K mg base "is_short" 2 d_is_short) (T : Txt K mg) : FnD P w K mg base "are_short" 4 d_are_short := by
  refine fnD_of a (b_are_short F T) sc_are_short (fun _ _ _ _ _ _ us hl => match us, hl with | [_, _], _ => rfl) ?_ ?_
  · rintro ds μ k ⟨ns, m, rfl, _⟩; rfl
  · rintro ds μ k ⟨ns, m, rfl, hn, h⟩
    simp [r_are_short]
    split
    · rename_i hm
      refine lcW_map ns D.int (fun i => .bl (short i)) (.l _) hn (fun x hx kt kf h1 => ?_) ?_
      · simp
        exact ⟨x, rfl, h1⟩
      · refine all_of rfl ?_
        simpa [areShort, hm] using h
    · rename_i hm
      simpa [areShort, hm] using h
theorem ok_is_layer (a : At K mg "is_layer" s_is_layer) (F : FnD P w K mg base "are_short" 4 d_are_short) (T : Txt K mg) : FnD P w K mg base "is_layer" 5 d_is_layer := by
  refine fnD_of a (b_is_layer F T) sc_is_layer (fun _ _ _ _ _ _ us hl => match us, hl with | [_, _], _ => rfl) ?_ ?_
  · rintro ds μ k ⟨rs, m, rfl, _⟩; rfl
  · rintro ds μ k ⟨rs, m, rfl, hn, hr, h⟩
    simp [r_is_layer]
    have hi : ∀ b : Bool, isLayer rs m = b → k (.bl b) μ := fun b e => e ▸ h
    split
    · rename_i h1
      split
      · rename_i h2
        exact hi false (by simp [isLayer]; intro _ _; omega)
      · rename_i h2
        refine lcW_map rs rowD (fun r => .bl (areShort r m)) (.l _) hn (fun x hx kt kf h1 => ?_) ?_
        · simp
          exact ⟨x, m, rfl, hr x hx, h1⟩
        · refine all_of rfl (hi _ ?_)
          have h3 : 1 ≤ rs.length ∧ rs.length ≤ 64 := ⟨by omega, by omega⟩
          simp [isLayer, h3]
    · rename_i h1
      exact hi false (by simp [isLayer]; intro z; omega)
theorem ok_are_parts (a : At K mg "are_parts" s_are_parts) (F1 : FnD P w K mg base "is_from" 3 d_is_from) (F2 : FnD P w K mg base "is_layer" 5 d_is_layer) (F3 : FnD P w K mg base "are_short" 4 d_are_short) (T : Txt K mg) : FnD P w K mg base "are_parts" 6 d_are_parts := by
  refine fnD_of a (b_are_parts F1 F2 F3 T) sc_are_parts (fun _ _ _ _ _ _ us hl => match us, hl with | [_, _, _], _ => rfl) ?_ ?_
  · rintro ds μ k ⟨n, ls, la, rfl, _⟩; rfl
  · rintro ds μ k ⟨n, ls, la, rfl, N, h⟩
    simp [r_are_parts]
    have h1 : (1 : Int) ≤ (n : Int) := by have := N.lo; omega
    have h2 : (n : Int) ≤ 8 := by have := N.hi; omega
    refine ⟨_, _, _, rfl, ?_⟩
    simp [h1, h2]
    have h3 : ¬ (4 : Int) < (ls.length : Int) := by have := N.few; omega
    simp [h3]
    refine for_inv ls layerD (fun i δ μ' => μ' = μ ∧ ∃ x, δ = [some (.int (n : Nat)), some (layersD ls), some (rowD la), some (.int ((n + total (ls.take i) : Nat) : Int)), x]) (fun kk hk => ?_) (fun i l δ μ' hl q => ?_) (fun δ μ' q => ?_)
    · simp
      exact hk _ _ (.l _) ⟨rfl, none, by simp [total]⟩ (fun _ _ _ _ => trivial)
    · obtain ⟨rfl, x, rfl⟩ := q
      obtain ⟨a1, a2⟩ := lays_at N.lays hl
      have a3 := total_le (ls := ls) (i + 1)
      have a4 := N.tot
      have a5 := N.hi
      rw [total_take_succ hl] at a3
      simp
      refine ⟨l, _, rfl, by omega, fun r hr => by rw [(a2 r hr).1]; omega, ?_⟩
      have e : isLayer l ((n + total (ls.take i) : Nat) : Int) = true := by
        simp only [isLayer, areShort, Bool.and_eq_true, decide_eq_true_eq, List.all_eq_true]
        exact ⟨a1, fun r hr => ⟨by rw [(a2 r hr).1], fun x hx => (a2 r hr).2 x hx⟩⟩
      have e' : isLayer l ((n : Int) + (total (ls.take i) : Nat)) = true := by rw [← e]; congr 1
      simp [e']
      rw [total_take_succ hl]
      simp
      omega
    · obtain ⟨rfl, x, rfl⟩ := q
      have a4 := N.tot
      rw [List.take_length]
      have h4 : (n : Int) + (total ls : Nat) ≤ (n : Int) + 128 := by omega
      simp [h4]
      refine ⟨la, _, rfl, by have := N.len; have := N.hi; omega, ?_⟩
      have e : areShort la ((n : Int) + (total ls : Nat)) = true := by
        simp only [areShort, Bool.and_eq_true, decide_eq_true_eq, List.all_eq_true]
        exact ⟨by rw [N.len]; simp, fun x hx => N.short x hx⟩
      rw [e]
      exact h
end
end K20


set_option Elab.async false
set_option linter.all false
set_option maxRecDepth 100000
set_option maxHeartbeats 4000000
namespace K20
open PySem PySem.Spec PyProof.Rows L2 SlX DL
def inClass (s : Stmt) (j : Nat) : Stmt := match s with
  | .ClassDef (body := b) .. => b.getD j (.Pass ⟨0, 0, 0, 0⟩)
  | _ => .Pass ⟨0, 0, 0, 0⟩
/-- what the class holds -/
structure TxC (K : PySem.W.Frag) (mg : Str → Option Value) (C : Addr) : Prop extends Txt K mg where
  mgC : mg "Network" = some (.ref C)
  cmp : Cmp K C
  sx_own_inputs : ∃ p, Slot1 K C "own_inputs" p 0
  sx_own_last : ∃ p, Slot1 K C "own_last" p 1
  sx_own_layers : ∃ p, Slot1 K C "own_layers" p 2
abbrev netD (C : Addr) (n : Nat) (ls : List (List (List Int))) (la : List Int) : D := .obj C [.int n, rowD la, layersD ls]
def d_inputs (C : Addr) : DSp := fun ds μ k => ∃ n ls la, ds = [netD C n ls la] ∧ k (.int (n : Nat)) μ
def d_layers (C : Addr) : DSp := fun ds μ k => ∃ n ls la, ds = [netD C n ls la] ∧ k (layersD ls) μ
def d_last (C : Addr) : DSp := fun ds μ k => ∃ n ls la, ds = [netD C n ls la] ∧ k (rowD la) μ
def d_depth (C : Addr) : DSp := fun ds μ k => ∃ n ls la, ds = [netD C n ls la] ∧ k (.int (ls.length : Nat)) μ
def d_units (C : Addr) : DSp := fun ds μ k => ∃ n ls la, ds = [netD C n ls la] ∧ ls.length ≤ 1000000 ∧ total ls < 1000000 ∧ k (layerD ls.flatten) μ
def d_parts (C : Addr) : DSp := fun ds μ k => ∃ n ls la, ds = [netD C n ls la] ∧ k (.tup [.int (n : Nat), layersD ls, rowD la]) μ
def d_eq (C : Addr) : DSp := fun ds μ k => ∃ n ls la y, ds = [netD C n ls la, y] ∧
  ((∃ n' ls' la', y = netD C n' ls' la' ∧ k (.bl (decide (n = n' ∧ ls = ls' ∧ la = la'))) μ) ∨ (isObj y = false ∧ okR C y ∧ k (.bl false) μ))
def sizesT (ls : List (List (List Int))) : Str := Txt.join " " (ls.map fun l => (Str.ofString (toString ((l.length : Nat) : Int))))
def netText (n : Nat) (ls : List (List (List Int))) : Str :=
  Str.empty ++ "network of " ++ Str.ofString (toString ((n : Nat) : Int)) ++ " inputs, " ++ (if sizesT ls = "" then Str.ofString "no layers" else Str.empty ++ "layers " ++ sizesT ls)
def d_str (C : Addr) : DSp := fun ds μ k => ∃ n ls la, ds = [netD C n ls la] ∧ IsNet n ls la ∧ k (.str (netText n ls)) μ
def inm_Network : List D → List D → Prop := fun ds fs => ∃ n ls la, ds = [.int (n : Nat), layersD ls, rowD la] ∧ IsNet n ls la ∧ fs = [.int (n : Nat), rowD la, layersD ls]
/-- the text of a small number -/
def numT (n : Nat) : Str := Str.ofString (toString ((n : Nat) : Int))
theorem num_small (n : Nat) (h : n < 200) : (numT n).length ≤ 3 ∧ TL.tl (numT n) ≠ [] ∧ ∀ c ∈ TL.tl (numT n), c < 0x110000 := by
  have : ∀ n < 200, (numT n).length ≤ 3 ∧ TL.tl (numT n) ≠ [] ∧ ∀ c ∈ TL.tl (numT n), c < 0x110000 := by decide +kernel
  exact this n h
theorem lays_mem : ∀ {ls : List (List (List Int))} {m : Nat} {l : List (List Int)}, Lays ls m → l ∈ ls → 1 ≤ l.length ∧ l.length ≤ 64
  | _ :: ls, m, l, q, h => by
    rcases List.mem_cons.mp h with rfl | h
    · exact q.1
    · exact lays_mem q.2.2 h
theorem sizes_facts {n : Nat} {ls : List (List (List Int))} {la : List Int} (N : IsNet n ls la) : (sizesT ls).length ≤ 100 ∧ PyData.strOk (sizesT ls) = true ∧ (sizesT ls = "" ↔ ls = []) := by
  have small : ∀ l ∈ ls, l.length < 200 := fun l hl => by have := (lays_mem N.lays hl).2; omega
  have e : TL.tl (sizesT ls) = TL.joinL (TL.tl (Str.ofString " ")) ((ls.map fun l => numT l.length).map TL.tl) := tl_joinT _ _
  have e1 : (TL.tl (Str.ofString " ")).length = 1 := by decide +kernel
  refine ⟨?_, ?_, ?_⟩
  · rw [len_tl, e]
    refine Nat.le_trans (joinL_len (b := 3) fun p hp => ?_) ?_
    · obtain ⟨x, hx, rfl⟩ := List.mem_map.mp hp
      obtain ⟨l, hl, rfl⟩ := List.mem_map.mp hx
      rw [← len_tl]
      exact (num_small _ (small l hl)).1
    · rw [e1, List.length_map, List.length_map]
      have := N.few
      omega
  · rw [ok_tl, e]
    intro c hc
    rcases joinL_mem hc with z | ⟨p, hp, z⟩
    · have : ∀ c ∈ TL.tl (Str.ofString " "), c < 0x110000 := by decide +kernel
      exact this c z
    · obtain ⟨x, hx, rfl⟩ := List.mem_map.mp hp
      obtain ⟨l, hl, rfl⟩ := List.mem_map.mp hx
      exact (num_small _ (small l hl)).2.2 c z
  · constructor
    · intro h
      have h2 : TL.joinL (TL.tl (Str.ofString " ")) ((ls.map fun l => numT l.length).map TL.tl) = [] := by rw [← e, h]; decide +kernel
      have h3 := joinL_nil (fun p hp => by
        obtain ⟨x, hx, rfl⟩ := List.mem_map.mp hp
        obtain ⟨l, hl, rfl⟩ := List.mem_map.mp hx
        exact (num_small _ (small l hl)).2.1) h2
      simpa using h3
    · rintro rfl; decide +kernel
theorem sizes_sum {n : Nat} {ls : List (List (List Int))} {la : List Int} (N : IsNet n ls la) : ((ls.map fun l => numT l.length).map (fun x => x.length)).sum + (ls.map fun l => numT l.length).length * (Str.ofString " ").length ≤ 16777216 := by
  have small : ∀ l ∈ ls, l.length < 200 := fun l hl => by have := (lays_mem N.lays hl).2; omega
  have gen : ∀ qs : List (List (List Int)), (∀ l ∈ qs, l.length < 200) → ((qs.map fun l => numT l.length).map (fun x => x.length)).sum ≤ 3 * qs.length := fun qs => by
    induction qs with
    | nil => intro _; simp
    | cons q qs ih =>
      intro h
      have h1 := (num_small _ (h q (by simp))).1
      have h2 := ih (fun l hl => h l (List.mem_cons_of_mem _ hl))
      simp only [List.map_cons, List.sum_cons, List.length_cons] at h2 ⊢
      omega
  have h1 := gen ls small
  have h2 : (Str.ofString " ").length = 1 := by decide +kernel
  rw [h2, List.length_map]
  have := N.few
  omega
theorem cmRow : Cm (fun ns : List Int => D.tup (ns.map D.int)) (fun ns => PyData.tuple (ns.map PyData.int)) 1 := Cm.int.tup
theorem cmLs : Cm layersD (fun ls : List (List (List Int)) => PyData.tuple (ls.map fun rs => PyData.tuple (rs.map fun ns => PyData.tuple (ns.map PyData.int)))) 3 := cmRow.tup.tup
section
variable {P : Program} {w : World} {K : PySem.W.Frag} {mg : Str → Option Value} {base : Heap} {C : Addr}
theorem fld {f : Str} {i : Nat} {te : TE} {ra : RE} (c : SCls K C) (s : ∃ p, Slot1 K C f p i) (h : OkE K te ra) : OkE K (SlX.tSl K te f) (rFld C i ra) := by
  obtain ⟨p, s⟩ := s
  exact okE_fld c s h
abbrev s_Network_inputs : Stmt := inClass (topS 22) 2
abbrev N_Network_inputs : List Str := ["self"]
theorem sc_Network_inputs : FnScope N_Network_inputs ["self"] (defScope s_Network_inputs) := ⟨rfl, rfl, rfl, by decide +kernel, rfl, by decide +kernel, by decide +kernel⟩
def r_Network_inputs (C : Addr) : RS :=
  (rRet (rFld C 0 (rVar 0)))
theorem b_Network_inputs (T : TxC K mg C) : Body P w K mg base 0 "Network.inputs" s_Network_inputs N_Network_inputs (r_Network_inputs C) := by
  refine fun f => ⟨_, fun cdv A outer s H E hr => ⟨(pss_one (ps_ret (ke_sl K (pv 0)))),
    (okS_ret (fld T.cmp.cls T.sx_own_inputs (okE_var 0)))⟩⟩

abbrev s_Network_layers : Stmt := inClass (topS 22) 3
abbrev N_Network_layers : List Str := ["self"]
theorem sc_Network_layers : FnScope N_Network_layers ["self"] (defScope s_Network_layers) := ⟨rfl, rfl, rfl, by decide +kernel, rfl, by decide +kernel, by decide +kernel⟩
def r_Network_layers (C : Addr) : RS :=
  (rRet (rFld C 2 (rVar 0)))
theorem b_Network_layers (T : TxC K mg C) : Body P w K mg base 0 "Network.layers" s_Network_layers N_Network_layers (r_Network_layers C) := by
  refine fun f => ⟨_, fun cdv A outer s H E hr => ⟨(pss_one (ps_ret (ke_sl K (pv 0)))),
    (okS_ret (fld T.cmp.cls T.sx_own_layers (okE_var 0)))⟩⟩

abbrev s_Network_last : Stmt := inClass (topS 22) 4
abbrev N_Network_last : List Str := ["self"]
theorem sc_Network_last : FnScope N_Network_last ["self"] (defScope s_Network_last) := ⟨rfl, rfl, rfl, by decide +kernel, rfl, by decide +kernel, by decide +kernel⟩
def r_Network_last (C : Addr) : RS :=
  (rRet (rFld C 1 (rVar 0)))
theorem b_Network_last (T : TxC K mg C) : Body P w K mg base 0 "Network.last" s_Network_last N_Network_last (r_Network_last C) := by
  refine fun f => ⟨_, fun cdv A outer s H E hr => ⟨(pss_one (ps_ret (ke_sl K (pv 0)))),
    (okS_ret (fld T.cmp.cls T.sx_own_last (okE_var 0)))⟩⟩

abbrev s_Network_depth : Stmt := inClass (topS 22) 5
abbrev N_Network_depth : List Str := ["self"]
theorem sc_Network_depth : FnScope N_Network_depth ["self"] (defScope s_Network_depth) := ⟨rfl, rfl, rfl, by decide +kernel, rfl, by decide +kernel, by decide +kernel⟩
def r_Network_depth (C : Addr) : RS :=
  (rRet (rCB oLen (rCons (rFld C 2 (rVar 0)) rNil)))
theorem b_Network_depth (T : TxC K mg C) : Body P w K mg base 0 "Network.depth" s_Network_depth N_Network_depth (r_Network_depth C) := by
  refine fun f => ⟨_, fun cdv A outer s H E hr => ⟨(pss_one (ps_ret (kb_call (kc_len K) T.b_len (pa_cons (ke_sl K (pv 0)) pa_nil)))),
    (okS_ret (okE_CB okLen (okA_cons (fld T.cmp.cls T.sx_own_layers (okE_var 0)) okA_nil)))⟩⟩

abbrev s_Network_units : Stmt := inClass (topS 22) 6
abbrev N_Network_units : List Str := ["self", "layer", "unit"]
theorem sc_Network_units : FnScope N_Network_units ["self"] (defScope s_Network_units) := ⟨rfl, rfl, rfl, by decide +kernel, rfl, by decide +kernel, by decide +kernel⟩
def r_Network_units (C : Addr) : RS :=
  (rRet (rCB oTuple (rCons (rLc2 (rIT (rFld C 2 (rVar 0))) (rgName 1) rYes (rIT (rVar 1)) (rgName 2) rYes (rVar 2) [1, 2] [2]) rNil)))
theorem b_Network_units (T : TxC K mg C) : Body P w K mg base 0 "Network.units" s_Network_units N_Network_units (r_Network_units C) := by
  refine fun f => ⟨_, fun cdv A outer s H E hr => ⟨(pss_one (ps_ret (kt_call (kc_tuple K) T.b_tuple (pa_cons (pe_lc2 (own := [("layer", 1), ("unit", 2)]) rfl sc_Network_units.nd (ki_tup K (ke_sl K (pv 0))) (blkOk_by (own := [("layer", 1), ("unit", 2)]) (N := N_Network_units) (sc := defScope s_Network_units) (by decide +kernel)) (vs1 := [2]) (by decide) (fun _ _ _ _ _ => (pg_name (i := 1) sc_Network_units.nd rfl (by first | exact Or.inl rfl | exact Or.inr rfl))) (fun _ _ _ _ _ => pts_nil) (fun _ _ _ _ _ => (ki_tup K (pv 1))) (fun _ _ _ _ _ => (pg_name (i := 2) sc_Network_units.nd rfl (by first | exact Or.inl rfl | exact Or.inr rfl))) (fun _ _ _ _ _ => pts_nil) (fun _ _ _ _ _ => (pv 2))) pa_nil)))),
    (okS_ret (okE_CB okTuple (okA_cons (okE_lc2 (okI_tup (fld T.cmp.cls T.sx_own_layers (okE_var 0))) (okG_name 1) okT_yes (okI_tup (okE_var 1)) (okG_name 2) okT_yes (okE_var 2) (by decide) (by decide)) okA_nil)))⟩⟩

abbrev s_Network_parts : Stmt := inClass (topS 22) 7
abbrev N_Network_parts : List Str := ["self"]
theorem sc_Network_parts : FnScope N_Network_parts ["self"] (defScope s_Network_parts) := ⟨rfl, rfl, rfl, by decide +kernel, rfl, by decide +kernel, by decide +kernel⟩
def r_Network_parts (C : Addr) : RS :=
  (rRet (rTup (rCons (rFld C 0 (rVar 0)) (rCons (rFld C 2 (rVar 0)) (rCons (rFld C 1 (rVar 0)) rNil)))))
theorem b_Network_parts (T : TxC K mg C) : Body P w K mg base 0 "Network.parts" s_Network_parts N_Network_parts (r_Network_parts C) := by
  refine fun f => ⟨_, fun cdv A outer s H E hr => ⟨(pss_one (ps_ret (pe_tup (pa_cons (ke_sl K (pv 0)) (pa_cons (ke_sl K (pv 0)) (pa_cons (ke_sl K (pv 0)) pa_nil)))))),
    (okS_ret (okE_tup (okA_cons (fld T.cmp.cls T.sx_own_inputs (okE_var 0)) (okA_cons (fld T.cmp.cls T.sx_own_layers (okE_var 0)) (okA_cons (fld T.cmp.cls T.sx_own_last (okE_var 0)) okA_nil)))))⟩⟩

abbrev s_Network___eq__ : Stmt := inClass (topS 22) 8
abbrev N_Network___eq__ : List Str := ["self", "other"]
theorem sc_Network___eq__ : FnScope N_Network___eq__ ["self", "other"] (defScope s_Network___eq__) := ⟨rfl, rfl, rfl, by decide +kernel, rfl, by decide +kernel, by decide +kernel⟩
def r_Network___eq__ (C : Addr) : RS :=
  (rRet (rAndV (rIsiC C (rVar 1)) (rOp oEq (rGet C (d_parts C) (rVar 0)) (rGet C (d_parts C) (rVar 1)))))
theorem b_Network___eq__ (P_parts : MethD P w K mg base C "parts" 1 (d_parts C)) (T : TxC K mg C) : Body P w K mg base 1 "Network.__eq__" s_Network___eq__ N_Network___eq__ (r_Network___eq__ C) := by
  refine fun f => ⟨_, fun cdv A outer s H E hr => ⟨(pss_one (ps_ret (pe_and (ke_isiC T.b_isinstance T.mgC (pv 1)) (pe_one (pe_cmpR (ko_eqD K hr.units) (ke_meth0 T.cmp.cls P_parts hr (pv 0)) (ke_meth0 T.cmp.cls P_parts hr (pv 1)) (nomark _)))))),
    (okS_ret (okE_andV (okE_isiC T.cmp (okE_var 1)) (okE_op okEq (okE_meth0 (okE_var 0)) (okE_meth0 (okE_var 1)))))⟩⟩

abbrev s_Network___str__ : Stmt := inClass (topS 22) 9
abbrev N_Network___str__ : List Str := ["self", "sizes", "told", "layer"]
theorem sc_Network___str__ : FnScope N_Network___str__ ["self"] (defScope s_Network___str__) := ⟨rfl, rfl, rfl, by decide +kernel, rfl, by decide +kernel, by decide +kernel⟩
def r_Network___str__ (C : Addr) : RS :=
  (rSeq (rAsg (rJoin (rC (.str " ")) (rLc (rIT (rFld C 2 (rVar 0))) (rgName 3) rYes (rCB oStrI (rCons (rCB oLen (rCons (rVar 3) rNil)) rNil)) [3])) (rgName 1))
  (rSeq (rAsg (rIf (rB (rOp oNe (rVar 1) (rC (.str "")))) (rJoined ((rC (.str "layers ")) :: ((rFmt (rVar 1)) :: []))) (rC (.str "no layers"))) (rgName 2))
  (rRet (rJoined ((rC (.str "network of ")) :: ((rFmt (rFld C 0 (rVar 0))) :: ((rC (.str " inputs, ")) :: ((rFmt (rVar 2)) :: []))))))))
theorem b_Network___str__ (T : TxC K mg C) : Body P w K mg base 0 "Network.__str__" s_Network___str__ N_Network___str__ (r_Network___str__ C) := by
  refine fun f => ⟨_, fun cdv A outer s H E hr => ⟨(pss_cons (ps_set (i := 1) sc_Network___str__.nd rfl (Or.inl rfl) (ke_join K pe_str (pe_lc (own := [("layer", 3)]) rfl sc_Network___str__.nd (ki_tup K (ke_sl K (pv 0))) (blkOk_by (own := [("layer", 3)]) (N := N_Network___str__) (sc := defScope s_Network___str__) (by decide +kernel)) (fun _ _ _ _ _ => (pg_name (i := 3) sc_Network___str__.nd rfl (by first | exact Or.inl rfl | exact Or.inr rfl))) (fun _ _ _ _ _ => pts_nil) (fun _ _ _ _ _ => (kt_call call_str_int T.b_str (pa_cons (kb_call (kc_len K) T.b_len (pa_cons (pv 3) pa_nil)) pa_nil))))))
      (pss_cons (ps_set (i := 2) sc_Network___str__.nd rfl (Or.inl rfl) (pe_ifExp (pt_cmpR (ko_neD K hr.units) (pv 1) pe_str (nomark _)) (pe_joined (.cons pe_str (.cons (pe_fmt (pv 1)) .nil))) pe_str))
      (pss_one (ps_ret (pe_joined (.cons pe_str (.cons (pe_fmt (ke_sl K (pv 0))) (.cons pe_str (.cons (pe_fmt (pv 2)) .nil))))))))),
    (okS_seq (okS_asg (okE_join (okE_C fun _ => .str _) (okE_lc (okI_tup (fld T.cmp.cls T.sx_own_layers (okE_var 0))) (okG_name 3) okT_yes (okE_CB okStrI (okA_cons (okE_CB okLen (okA_cons (okE_var 3) okA_nil)) okA_nil)) (by decide))) (okG_name 1))
      (okS_seq (okS_asg (okE_if (okT_test (okE_op okNe (okE_var 1) (okE_C fun _ => .str _))) (okE_joined (okJ_cons (okE_C fun _ => .str _) (okJ_cons (okE_fmt (okE_var 1)) okJ_nil))) (okE_C fun _ => .str _)) (okG_name 2))
      (okS_ret (okE_joined (okJ_cons (okE_C fun _ => .str _) (okJ_cons (okE_fmt (fld T.cmp.cls T.sx_own_inputs (okE_var 0))) (okJ_cons (okE_C fun _ => .str _) (okJ_cons (okE_fmt (okE_var 2)) okJ_nil))))))))⟩⟩



/-! ### the properties -/
theorem ok_inputs (a : AtP K C "inputs" "Network.inputs" s_Network_inputs) (T : TxC K mg C) : PropD P w K mg base C "inputs" 1 (d_inputs C) := by
  refine propD_of a (b_Network_inputs T) sc_Network_inputs (fun _ _ _ _ _ _ us hl => match us, hl with | [_], _ => rfl) ?_ ?_
  · rintro ds μ k ⟨n, ls, la, rfl, h⟩; rfl
  · rintro ds μ k ⟨n, ls, la, rfl, h⟩
    simpa [r_Network_inputs] using h
theorem ok_layers (a : AtP K C "layers" "Network.layers" s_Network_layers) (T : TxC K mg C) : PropD P w K mg base C "layers" 1 (d_layers C) := by
  refine propD_of a (b_Network_layers T) sc_Network_layers (fun _ _ _ _ _ _ us hl => match us, hl with | [_], _ => rfl) ?_ ?_
  · rintro ds μ k ⟨n, ls, la, rfl, h⟩; rfl
  · rintro ds μ k ⟨n, ls, la, rfl, h⟩
    simpa [r_Network_layers] using h
theorem ok_last (a : AtP K C "last" "Network.last" s_Network_last) (T : TxC K mg C) : PropD P w K mg base C "last" 1 (d_last C) := by
  refine propD_of a (b_Network_last T) sc_Network_last (fun _ _ _ _ _ _ us hl => match us, hl with | [_], _ => rfl) ?_ ?_
  · rintro ds μ k ⟨n, ls, la, rfl, h⟩; rfl
  · rintro ds μ k ⟨n, ls, la, rfl, h⟩
    simpa [r_Network_last] using h
theorem ok_depth (a : AtP K C "depth" "Network.depth" s_Network_depth) (T : TxC K mg C) : PropD P w K mg base C "depth" 1 (d_depth C) := by
  refine propD_of a (b_Network_depth T) sc_Network_depth (fun _ _ _ _ _ _ us hl => match us, hl with | [_], _ => rfl) ?_ ?_
  · rintro ds μ k ⟨n, ls, la, rfl, h⟩; rfl
  · rintro ds μ k ⟨n, ls, la, rfl, h⟩
    simpa [r_Network_depth] using h
theorem ok_units (a : AtP K C "units" "Network.units" s_Network_units) (T : TxC K mg C) : PropD P w K mg base C "units" 1 (d_units C) := by
  refine propD_of a (b_Network_units T) sc_Network_units (fun _ _ _ _ _ _ us hl => match us, hl with | [_], _ => rfl) ?_ ?_
  · rintro ds μ k ⟨n, ls, la, rfl, h⟩; rfl
  · rintro ds μ k ⟨n, ls, la, rfl, h1, h2, h⟩
    simp [r_Network_units]
    refine lc2_map ls layerD (fun l => l.map rowD) (.l _) h1 (fun l hl acc kt kf hacc hk => ?_) ?_
    · obtain ⟨i, rfl, hi⟩ := hacc
      simp
      refine inW_map l rowD rowD (.l _) ?_ (fun r hr kt kf h => ?_) ?_
      · have h3 := total_le (ls := ls) (i + 1)
        rw [total_take_succ hi] at h3
        have : ((ls.take i).flatMap fun l => l.map rowD).length = total (ls.take i) := by
          simp [total, List.length_flatMap]
        rw [this]; omega
      · simpa using h
      · exact hk
    · have e : (ls.flatMap fun l => l.map rowD) = ls.flatten.map rowD := by rw [List.map_flatten]; rfl
      rw [e]
      exact h
theorem ok_parts (a : AtM K C "parts" "Network.parts" s_Network_parts) (T : TxC K mg C) : MethD P w K mg base C "parts" 1 (d_parts C) := by
  refine methD_of a (b_Network_parts T) sc_Network_parts (fun _ _ _ _ _ _ us hl => match us, hl with | [_], _ => rfl) ?_ ?_
  · rintro ds μ k ⟨n, ls, la, rfl, h⟩; rfl
  · rintro ds μ k ⟨n, ls, la, rfl, h⟩
    simpa [r_Network_parts] using h
theorem ok_eq (a : AtM K C "__eq__" "Network.__eq__" s_Network___eq__) (Pp : MethD P w K mg base C "parts" 1 (d_parts C)) (T : TxC K mg C) : SpD P w K mg base C "__eq__" 2 (d_eq C) := by
  refine spD_of a (b_Network___eq__ Pp T) sc_Network___eq__ (fun _ _ _ _ _ _ us hl => match us, hl with | [_, _], _ => rfl) ?_ ?_
  · rintro ds μ k ⟨n, ls, la, y, rfl, h⟩; rfl
  · rintro ds μ k ⟨n, ls, la, y, rfl, h⟩
    simp [r_Network___eq__]
    rcases h with ⟨n', ls', la', rfl, h⟩ | ⟨h1, h2, h⟩
    · simp
      refine ⟨n, ls, la, rfl, n', ls', la', rfl, ?_⟩
      have cm := (CmL.cons Cm.int (CmL.cons cmLs (CmL.cons cmRow CmL.nil))).tup
      refine cm.toEq (x := ((n : Int), ls, la, ())) (y := ((n' : Int), ls', la', ())) (cm.as μ ((n : Int), ls, la, ())) (cm.as μ ((n' : Int), ls', la', ())) (by decide) ?_
      have e : decide (((n : Int), ls, la, ()) = ((n' : Int), ls', la', ())) = decide (n = n' ∧ ls = ls' ∧ la = la') := by
        rw [Bool.eq_iff_iff]; simp; intro _ _; omega
      rw [e]
      exact h
    · refine ⟨h2, ?_⟩
      simp [h1]
      exact h
theorem ok_str (a : AtM K C "__str__" "Network.__str__" s_Network___str__) (T : TxC K mg C) : SpD P w K mg base C "__str__" 1 (d_str C) := by
  refine spD_of a (b_Network___str__ T) sc_Network___str__ (fun _ _ _ _ _ _ us hl => match us, hl with | [_], _ => rfl) ?_ ?_
  · rintro ds μ k ⟨n, ls, la, rfl, h⟩; rfl
  · rintro ds μ k ⟨n, ls, la, rfl, N, h⟩
    simp [r_Network___str__]
    refine lcW_map ls layerD (fun l => .str (numT l.length)) (.l _) (by have := N.few; omega) (fun l hl kt kf h1 => ?_) ?_
    · have hl2 := (lays_mem N.lays hl)
      simp
      refine ⟨?_, h1⟩
      have : l.length.log2 ≤ l.length := Nat.log2_le_self _
      omega
    · refine ⟨ls.map fun l => numT l.length, by simp, ?_⟩
      obtain ⟨hlen, hok, hnil⟩ := sizes_facts N
      have hnn : n.log2 < 1920 := by
        have : n.log2 ≤ n := Nat.log2_le_self _
        have := N.hi
        omega
      have ht := num_small n (by have := N.hi; omega)
      have h' : k (.str (netText n ls)) μ := h
      refine ⟨?_, ?_⟩
      · have := sizes_sum N
        simpa using this
      · refine oNe_str hok (by decide +kernel) ?_
        have l1 : (Str.ofString "layers ").length = 7 := by decide +kernel
        have l2 : (Str.ofString "network of ").length = 11 := by decide +kernel
        have l3 : (Str.ofString " inputs, ").length = 9 := by decide +kernel
        have l4 : (Str.ofString "no layers").length = 9 := by decide +kernel
        have l5 : (Str.empty).length = 0 := by decide +kernel
        have l6 : (Str.ofString (↑n : Int).repr).length ≤ 3 := ht.1
        have l7 : (Txt.join (Str.ofString " ") (ls.map fun l => numT l.length)).length ≤ 100 := hlen
        by_cases he : sizesT ls = ""
        · have he' : Txt.join (Str.ofString " ") (ls.map fun l => numT l.length) = "" := he
          simp only [len_app]
          rw [he']
          simp only [l1, l2, l3, l4, l5]
          simp [hnn]
          have e1 : netText n ls = Str.empty ++ Str.ofString "network of " ++ Str.ofString (↑n : Int).repr ++ Str.ofString " inputs, " ++ Str.ofString "no layers" := by
            unfold netText; rw [if_pos he]; rfl
          rw [e1] at h'
          refine ⟨by omega, by omega, by omega, h'⟩
        · have he' : ¬ Txt.join (Str.ofString " ") (ls.map fun l => numT l.length) = "" := he
          have e1 : netText n ls = Str.empty ++ Str.ofString "network of " ++ Str.ofString (↑n : Int).repr ++ Str.ofString " inputs, " ++ (Str.empty ++ Str.ofString "layers " ++ Txt.join (Str.ofString " ") (ls.map fun l => numT l.length)) := by
            unfold netText; rw [if_neg he]; rfl
          rw [e1] at h'
          simp only [len_app, l1, l2, l3, l4, l5]
          simp [hnn, he']
          refine ⟨by omega, by omega, by omega, by omega, by omega, by omega, h'⟩
/-- __init__ -/
abbrev s_Network___init__ : Stmt := inClass (topS 22) 1
abbrev N_Network___init__ : List Str := ["self", "inputs", "layers", "last"]
theorem sc_Network___init__ : FnScope N_Network___init__ ["self", "inputs", "layers", "last"] (defScope s_Network___init__) := ⟨rfl, rfl, rfl, by decide +kernel, rfl, by decide +kernel, by decide +kernel⟩
structure AtI (K : PySem.W.Frag) (mg : Str → Option Value) (C : Addr) (x qual : Str) (st : Stmt) : Prop where
  ex : ∃ (g : Addr) (fd : FuncData), Mk K C g ∧ Fun K "__init__" qual st g fd ∧ mg x = some (.ref C)
theorem ok_init (at_ : AtI K mg C "Network" "Network.__init__" s_Network___init__) (F_are_parts : FnD P w K mg base "are_parts" 6 d_are_parts) (T : TxC K mg C) : MakD P w K mg base 7 "Network" C (spMk K C inm_Network) := by
  obtain ⟨f, fd, M, F, hm⟩ := at_.ex
  refine ⟨f, fd, ["self", "inputs", "layers", "last"], M, ?_, hm, F.binds (fun _ _ _ _ _ _ us hl => match us, hl with | [_, _, _, _], _ => rfl)⟩
  refine F.ok sc_Network___init__ (fun vs H Q E h => ?_) (fun cdv A outer s H vs Q E hr h => ⟨_, (pss_cons (ps_if (pt_not (pt_val (ke_call K F_are_parts hr (pa_cons (pv 1) (pa_cons (pv 2) (pa_cons (pv 3) pa_nil)))))) (pss_one ps_never) pss_nil)
      (pss_one (ps_asg (pe_tup (pa_cons (pv 1) (pa_cons (pv 2) (pa_cons (pv 3) pa_nil)))) (kg_tup K (pgs_cons (kg_slA (K := K) (pv 0)) (pgs_cons (kg_slA (K := K) (pv 0)) (pgs_cons (kg_slA (K := K) (pv 0)) pgs_nil))))))), ?_⟩)
  · obtain ⟨a, dx, ws, ds, fs, μ, G, H1, k, rfl, _, _, _, _, _, rl, ⟨n, ls, la, rfl, _⟩, _⟩ := h
    rw [List.length_cons, rl.length]; rfl
  · obtain ⟨a, dx, ws, ds, fs, μ, G, H1, k, rfl, ha, hd, hne, rfl, wd, rl, ⟨n, ls, la, rfl, N, rfl⟩, hk, hQ⟩ := h
    cases rl with
    | cons r1 rl =>
      cases rl with
      | cons r2 rl =>
        cases rl with
        | cons r3 rl =>
          cases rl
          rename_i v1 v2 v3
          obtain ⟨p0, t0⟩ := T.sx_own_inputs
          obtain ⟨p1, t1⟩ := T.sx_own_last
          obtain ⟨p2, t2⟩ := T.sx_own_layers
          have w0 := wd_made (C := C) wd ha hd
          refine ⟨v1, rfl, v2, rfl, v3, rfl, ?_⟩
          refine ⟨[.int n, layersD ls, rowD la], μ, G, fun d μ' => d = .bl true ∧ μ' = μ, w0, .cons r1 (.cons r2 (.cons r3 .nil)), ⟨n, ls, la, rfl, N, rfl, rfl⟩, fun v d μ' G' H' hkk w' g' r' => ?_⟩
          obtain ⟨rfl, rfl⟩ := hkk
          cases r'
          refine ⟨true, rfl, ?_⟩
          refine ⟨v1, rfl, v2, rfl, v3, rfl, (by show 3 ≤ sizeLine; decide), fun p hp => ?_⟩
          have hs0 : Slt (upd H' p (.tup [v1, v2, v3])) a C dx [] := by
            have e := g'.kp a (.ins C dx []) upd_same (wd.mnone ha)
            exact .inl ⟨by rw [upd_ne (ne_of_none e hp)]; exact e, rfl⟩
          refine ⟨p, [v1, v2, v3], rfl, SqT.of upd_same, rfl, ?_⟩
          refine ⟨v1, _, rfl, .ref a, rfl, a, C, dx, p0, [], 0, rfl, hs0, T.cmp.cls, t0, ?_⟩
          refine ⟨v2, _, rfl, .ref a, rfl, a, C, dx, p2, _, 2, rfl, slH_slt hne, T.cmp.cls, t2, ?_⟩
          refine ⟨v3, _, rfl, .ref a, rfl, a, C, dx, p1, _, 1, rfl, slH_slt hne, T.cmp.cls, t1, ?_⟩
          refine ⟨rfl, ?_⟩
          rw [slH_twice hne, slH_twice hne]
          have w3 := w'.new (o := .tup [v1, v2, v3]) hp
          have g3 := g'.trans (Go.new (o := .tup [v1, v2, v3]) w' hp)
          obtain ⟨G3, a1, a2, a3⟩ := mk_done (C := C) (vs := [v1, v3, v2]) wd ha hd hne w3 g3 (.cons (r1.mono g3.eg) (.cons (r3.mono g3.eg) (.cons (r2.mono g3.eg) .nil)))
          exact hQ _ G3 _ hk a1 a2 a3
end
end K20


set_option Elab.async false
set_option linter.all false
set_option maxRecDepth 100000
set_option maxHeartbeats 4000000
namespace K20
open PySem PySem.Spec PyProof.Rows L2 SlX DL
/-! what the functions tell -/
def told (ws ns : List Int) : Int := (List.zipWith (fun w n => w * n) ws ns).sum
def numbers : List (List (List Int)) → List Int → List Int
  | [], f => f
  | l :: ls, f => numbers ls (f ++ l.map fun u => max 0 (told u f))
def sumForms (ws : List Int) (fs : List (List Int)) (m : Nat) : List Int := (List.range m).map fun p => (List.zipWith (fun w f => w * f.getD p 0) ws fs).sum
def forms0 (n : Nat) : List (List Int) := (List.range n).map fun a => (List.range n).map fun p => if p = a then 1 else 0
def formStep (n : Nat) (fs : List (List Int)) (u : List Int × Bool) : List (List Int) := fs ++ [if u.2 = true then sumForms u.1 fs n else List.replicate n 0]
def formsIn (n : Nat) (us : List (List Int × Bool)) : List (List Int) := us.foldl (formStep n) (forms0 n)
def formIn (n : Nat) (ls : List (List (List Int))) (la : List Int) (ps : List Bool) : List Int := sumForms la (formsIn n (ls.flatten.zip ps)) n
def pattern (n : Nat) (ls : List (List (List Int))) (xs : List Int) : List Bool := ((numbers ls xs).drop n).map fun x => decide (0 < x)
def Sm (b : Nat) (x : Int) : Prop := x.natAbs < 2 ^ b
/-! sizes -/
theorem Sm.mono {a b : Nat} {x : Int} (h : Sm a x) (l : a ≤ b) : Sm b x := Nat.lt_of_lt_of_le h (Nat.pow_le_pow_right (by decide) l)
theorem short_iff {x : Int} : short x = true ↔ -sixty < x ∧ x < sixty := by unfold short; simp
theorem sm_short {x : Int} (h : short x = true) : Sm 200 x := by
  rw [short_iff] at h
  have e : sixty = 10 ^ 60 := by decide +kernel
  rw [e] at h
  unfold Sm
  have : (10 : Nat) ^ 60 < 2 ^ 200 := by decide +kernel
  omega
theorem sm_mulW {a b : Nat} {x y : Int} (hx : Sm a x) (hy : Sm b y) (ha : 0 < a) (hb : 0 < b) (h : a + b ≤ 1000000) : CMulW x y := by
  have h1 := PySem.Flt.log2_lt_of ha hx
  have h2 := PySem.Flt.log2_lt_of hb hy
  unfold CMulW
  omega
theorem sm_mul {a b : Nat} {x y : Int} (hx : Sm a x) (hy : Sm b y) : Sm (a + b) (x * y) := by
  unfold Sm at *
  rw [Int.natAbs_mul, Nat.pow_add]
  exact Nat.mul_lt_mul'' hx hy
theorem sum_bound {M : Nat} : ∀ {zs : List Int}, (∀ z ∈ zs, z.natAbs ≤ M) → zs.sum.natAbs ≤ zs.length * M
  | [], _ => by simp
  | z :: zs, h => by
    have h1 := h z (by simp)
    have h2 := sum_bound (fun y hy => h y (List.mem_cons_of_mem _ hy))
    simp only [List.sum_cons, List.length_cons]
    have h3 := Int.natAbs_add_le z zs.sum
    rw [Nat.add_mul, Nat.one_mul]
    omega
theorem sum_sm {a c : Nat} {zs : List Int} (h : ∀ z ∈ zs, Sm a z) (hl : zs.length ≤ 2 ^ c) (h0 : zs.length = 0 ∨ 0 < zs.length) : Sm (a + c) zs.sum := by
  by_cases hz : zs = []
  · subst hz
    show (0 : Int).natAbs < _
    exact Nat.pos_of_ne_zero (by simp)
  · have hp : 0 < zs.length := List.length_pos_iff.mpr hz
    have h1 : zs.sum.natAbs ≤ zs.length * (2 ^ a - 1) := sum_bound (fun z hz => by have : z.natAbs < 2 ^ a := h z hz; omega)
    have h2 : 0 < 2 ^ a := Nat.pos_of_ne_zero (by simp)
    show zs.sum.natAbs < _
    calc zs.sum.natAbs ≤ zs.length * (2 ^ a - 1) := h1
      _ < zs.length * 2 ^ a := Nat.mul_lt_mul_of_pos_left (by omega) hp
      _ ≤ 2 ^ c * 2 ^ a := Nat.mul_le_mul_right _ hl
      _ = 2 ^ (a + c) := by rw [Nat.pow_add, Nat.mul_comm]
theorem zipWith_mem {α β γ : Type} {f : α → β → γ} : ∀ {xs : List α} {ys : List β} {z : γ}, z ∈ List.zipWith f xs ys → ∃ x ∈ xs, ∃ y ∈ ys, z = f x y
  | [], _, _, h => by simp at h
  | _ :: _, [], _, h => by simp at h
  | x :: xs, y :: ys, z, h => by
    simp only [List.zipWith_cons_cons, List.mem_cons] at h
    rcases h with rfl | h
    · exact ⟨x, by simp, y, by simp, rfl⟩
    · obtain ⟨x', h1, y', h2, h3⟩ := zipWith_mem h
      exact ⟨x', List.mem_cons_of_mem _ h1, y', List.mem_cons_of_mem _ h2, h3⟩
theorem told_sm {a b c : Nat} {ws ns : List Int} (hw : ∀ w ∈ ws, Sm a w) (hn : ∀ n ∈ ns, Sm b n) (hl : ws.length ≤ 2 ^ c) : Sm (a + b + c) (told ws ns) := by
  refine sum_sm (fun z hz => ?_) (by rw [List.length_zipWith]; omega) (by omega)
  obtain ⟨x, hx, y, hy, rfl⟩ := zipWith_mem hz
  exact sm_mul (hw x hx) (hn y hy)
theorem sm_max {b : Nat} {x : Int} (h : Sm b x) : Sm b (max 0 x) := by
  unfold Sm at *
  omega
theorem numbers_append {ls ms : List (List (List Int))} : ∀ {f : List Int}, numbers (ls ++ ms) f = numbers ms (numbers ls f) := by
  induction ls with
  | nil => intro f; rfl
  | cons l ls ih => intro f; exact ih
theorem numbers_len : ∀ {ls : List (List (List Int))} {f : List Int}, (numbers ls f).length = f.length + total ls
  | [], f => by simp [numbers, total]
  | l :: ls, f => by
    have h1 := numbers_len (ls := ls) (f := f ++ l.map fun u => max 0 (told u f))
    show (numbers ls (f ++ l.map fun u => max 0 (told u f))).length = _
    rw [h1]
    simp [total]
    omega
theorem numbers_sm : ∀ {ls : List (List (List Int))} {m b : Nat} {f : List Int}, Lays ls m → f.length = m → m + total ls ≤ 256 → (∀ x ∈ f, Sm b x) → ∀ x ∈ numbers ls f, Sm (b + 300 * ls.length) x
  | [], m, b, f, _, _, _, h => fun x hx => (h x hx).mono (by simp)
  | l :: ls, m, b, f, q, hf, ht, h => fun x hx => by
    have ht' : m + (l.length + total ls) ≤ 256 := by simpa [total] using ht
    have h2 : ∀ y ∈ f ++ l.map (fun u => max 0 (told u f)), Sm (b + 300) y := fun y hy => by
      rcases List.mem_append.mp hy with hy | hy
      · exact (h y hy).mono (by omega)
      · obtain ⟨u, hu, rfl⟩ := List.mem_map.mp hy
        obtain ⟨a1, a2⟩ := q.2.1 u hu
        exact (sm_max (told_sm (a := 200) (b := b) (c := 8) (fun w hw => sm_short (a2 w hw)) h (by rw [a1]; omega))).mono (by omega)
    exact (numbers_sm (m := m + l.length) (b := b + 300) q.2.2 (by simp [hf]) (by omega) h2 x hx).mono (by simp only [List.length_cons]; omega)
theorem numbers_take_sm {ls : List (List (List Int))} {n b : Nat} {xs : List Int} (h : Lays ls n) (hx : xs.length = n) (ht : n + total ls ≤ 256) (hb : ∀ x ∈ xs, Sm b x) (i : Nat) : ∀ x ∈ numbers (ls.take i) xs, Sm (b + 300 * ls.length) x := fun x hxm => by
  have lt : ∀ {ls : List (List (List Int))} {m i : Nat}, Lays ls m → Lays (ls.take i) m := by
    intro ls
    induction ls with
    | nil => intro m i _; simp [Lays]
    | cons l ls ih =>
      intro m i q
      cases i with
      | zero => simp [Lays]
      | succ i => exact ⟨q.1, q.2.1, ih q.2.2⟩
  have := total_le (ls := ls) i
  exact (numbers_sm (lt h) hx (by omega) hb x hxm).mono (by simp; omega)
theorem flat_rows : ∀ {ls : List (List (List Int))} {m : Nat}, Lays ls m → ∀ r ∈ ls.flatten, r.length ≤ m + total ls ∧ ∀ x ∈ r, short x = true
  | [], _, _, r, h => by simp at h
  | l :: ls, m, q, r, h => by
    have e : total (l :: ls) = l.length + total ls := by simp [total]
    rw [List.flatten_cons, List.mem_append] at h
    rcases h with h | h
    · exact ⟨by rw [(q.2.1 r h).1]; omega, (q.2.1 r h).2⟩
    · obtain ⟨h1, h2⟩ := flat_rows q.2.2 r h
      exact ⟨by omega, h2⟩
theorem flat_len (ls : List (List (List Int))) : ls.flatten.length = total ls := by simp [total, List.length_flatten]
theorem getD_mem {f : List Int} {p : Nat} (h : p < f.length) : f.getD p 0 ∈ f := by
  rw [List.getD_eq_getElem?_getD, List.getElem?_eq_getElem h]
  exact List.getElem_mem h
theorem sumForms_sm {a b c m : Nat} {ws : List Int} {fs : List (List Int)} (hw : ∀ w ∈ ws, Sm a w) (hf : ∀ f ∈ fs, f.length = m ∧ ∀ x ∈ f, Sm b x) (hl : ws.length ≤ 2 ^ c) : (sumForms ws fs m).length = m ∧ ∀ x ∈ sumForms ws fs m, Sm (a + b + c) x := by
  refine ⟨by simp [sumForms], fun x hx => ?_⟩
  obtain ⟨p, hp, rfl⟩ := List.mem_map.mp hx
  have hp : p < m := List.mem_range.mp hp
  refine sum_sm (fun z hz => ?_) (by rw [List.length_zipWith]; omega) (by omega)
  obtain ⟨w, h1, f, h2, rfl⟩ := zipWith_mem hz
  exact sm_mul (hw w h1) ((hf f h2).2 _ (getD_mem (by rw [(hf f h2).1]; exact hp)))
theorem forms0_ok (n : Nat) : ∀ f ∈ forms0 n, f.length = n ∧ ∀ x ∈ f, Sm 2 x := fun f hf => by
  obtain ⟨a, _, rfl⟩ := List.mem_map.mp hf
  refine ⟨by simp, fun x hx => ?_⟩
  obtain ⟨p, _, rfl⟩ := List.mem_map.mp hx
  unfold Sm
  split <;> decide
theorem formsIn_okG {n : Nat} : ∀ {us : List (List Int × Bool)} {fs : List (List Int)} {b : Nat}, (∀ u ∈ us, u.1.length ≤ 256 ∧ ∀ x ∈ u.1, short x = true) → (∀ f ∈ fs, f.length = n ∧ ∀ x ∈ f, Sm b x) → ∀ f ∈ us.foldl (formStep n) fs, f.length = n ∧ ∀ x ∈ f, Sm (b + 210 * us.length) x
  | [], fs, b, _, h0, f, hf => by simpa using h0 f hf
  | u :: us, fs, b, h, h0, f, hf => by
    have hu := h u (by simp)
    rw [List.foldl_cons] at hf
    have h1 : ∀ f ∈ formStep n fs u, f.length = n ∧ ∀ x ∈ f, Sm (b + 210) x := fun f hf => by
      simp only [formStep, List.mem_append, List.mem_singleton] at hf
      rcases hf with hf | rfl
      · exact ⟨(h0 f hf).1, fun x hx => ((h0 f hf).2 x hx).mono (by omega)⟩
      · split
        · obtain ⟨a1, a2⟩ := sumForms_sm (a := 200) (b := b) (c := 8) (m := n) (ws := u.1) (fs := fs) (fun w hw => sm_short (hu.2 w hw)) h0 hu.1
          exact ⟨a1, fun x hx => (a2 x hx).mono (by omega)⟩
        · refine ⟨by simp, fun x hx => ?_⟩
          rw [List.mem_replicate] at hx
          rw [hx.2]
          exact Nat.pos_of_ne_zero (by simp)
    obtain ⟨a1, a2⟩ := formsIn_okG (b := b + 210) (fun v hv => h v (List.mem_cons_of_mem _ hv)) h1 f hf
    exact ⟨a1, fun x hx => (a2 x hx).mono (by simp only [List.length_cons]; omega)⟩
theorem formsIn_ok {n : Nat} {us : List (List Int × Bool)} (h : ∀ u ∈ us, u.1.length ≤ 256 ∧ ∀ x ∈ u.1, short x = true) : ∀ f ∈ formsIn n us, f.length = n ∧ ∀ x ∈ f, Sm (2 + 210 * us.length) x := formsIn_okG h (forms0_ok n)
theorem formsIn_len {n : Nat} (us : List (List Int × Bool)) : (formsIn n us).length = n + us.length := by
  unfold formsIn
  have : ∀ (us : List (List Int × Bool)) (fs : List (List Int)), (us.foldl (formStep n) fs).length = fs.length + us.length := by
    intro us
    induction us with
    | nil => intro fs; simp
    | cons u us ih => intro fs; rw [List.foldl_cons, ih]; simp [formStep]; omega
  rw [this]
  simp [forms0]
/-! the promises -/
def d_require_short : DSp := fun ds μ k => ∃ i, ds = [.int i] ∧ short i = true ∧ k .non μ
def d_told_by : DSp := fun ds μ k => ∃ ws d ns, ds = [rowD ws, d] ∧ asQ μ d = some (intsD ns) ∧ ws.length ≤ 1000000 ∧ (∀ w ∈ ws, ∀ n ∈ ns, CMulW w n) ∧ k (.int (told ws ns)) μ
def d_numbers_in (C : Addr) : DSp := fun ds μ k => ∃ n ls la xs, ds = [netD C n ls la, rowD xs] ∧ IsNet n ls la ∧ xs.length = n ∧ (∀ x ∈ xs, Sm 1000 x) ∧ k (.lst (intsD (numbers ls xs))) μ
def d_value_in (C : Addr) : DSp := fun ds μ k => ∃ n ls la xs, ds = [netD C n ls la, rowD xs] ∧ IsNet n ls la ∧ xs.length = n ∧ (∀ x ∈ xs, Sm 1000 x) ∧ k (.int (told la (numbers ls xs))) μ
def d_pattern_in (C : Addr) : DSp := fun ds μ k => ∃ n ls la xs, ds = [netD C n ls la, rowD xs] ∧ IsNet n ls la ∧ xs.length = n ∧ (∀ x ∈ xs, Sm 1000 x) ∧ k (.lst ((pattern n ls xs).map D.bl)) μ
def d_sum_of_forms : DSp := fun ds μ k => ∃ ws d fs m, ds = [rowD ws, d, .int (m : Nat)] ∧ asQ μ d = some (fs.map rowD) ∧ m ≤ 1000 ∧ (∀ f ∈ fs, f.length = m) ∧ ws.length ≤ 1000000 ∧ (∀ w ∈ ws, ∀ f ∈ fs, ∀ x ∈ f, CMulW w x) ∧ k (rowD (sumForms ws fs m)) μ
def d_form_in (C : Addr) : DSp := fun ds μ k => ∃ n ls la ps, ds = [netD C n ls la, .lst (ps.map D.bl)] ∧ IsNet n ls la ∧ k (rowD (formIn n ls la ps)) μ
def d_require_network (C : Addr) : DSp := fun ds μ k => ∃ n ls la, ds = [netD C n ls la] ∧ k .non μ
def d_require_inputs (C : Addr) : DSp := fun ds μ k => ∃ n ls la xs, ds = [netD C n ls la, rowD xs] ∧ xs.length = n ∧ n ≤ 8 ∧ (∀ x ∈ xs, short x = true) ∧ k .non μ
def d_require_place (C : Addr) : DSp := fun ds μ k => ∃ n ls la xs, ds = [netD C n ls la, rowD xs] ∧ xs.length = n ∧ n ≤ 8 ∧ (∀ x ∈ xs, short x = true) ∧ k .non μ
def d_value_of (C : Addr) : DSp := fun ds μ k => ∃ n ls la xs, ds = [netD C n ls la, rowD xs] ∧ IsNet n ls la ∧ xs.length = n ∧ (∀ x ∈ xs, short x = true) ∧ k (.int (told la (numbers ls xs))) μ
def d_unit_values (C : Addr) : DSp := fun ds μ k => ∃ n ls la xs, ds = [netD C n ls la, rowD xs] ∧ IsNet n ls la ∧ xs.length = n ∧ (∀ x ∈ xs, short x = true) ∧ k (rowD ((numbers ls xs).drop n)) μ
def d_pattern_at (C : Addr) : DSp := fun ds μ k => ∃ n ls la xs, ds = [netD C n ls la, rowD xs] ∧ IsNet n ls la ∧ xs.length = n ∧ (∀ x ∈ xs, short x = true) ∧ k (.tup ((pattern n ls xs).map D.bl)) μ
def d_form_at (C : Addr) : DSp := fun ds μ k => ∃ n ls la xs, ds = [netD C n ls la, rowD xs] ∧ IsNet n ls la ∧ xs.length = n ∧ (∀ x ∈ xs, short x = true) ∧ k (rowD (formIn n ls la (pattern n ls xs))) μ
def d_form_network (C : Addr) : DSp := fun ds μ k => ∃ ws, ds = [rowD ws] ∧ 1 ≤ ws.length ∧ ws.length ≤ 8 ∧ (∀ x ∈ ws, short x = true) ∧ k (netD C ws.length [] ws) μ
section
variable {P : Program} {w : World} {K : PySem.W.Frag} {mg : Str → Option Value} {base : Heap} {C : Addr}
abbrev s_told_by : Stmt := topS 23
abbrev N_told_by : List Str := ["row", "numbers", "weight", "number"]
theorem sc_told_by : FnScope N_told_by ["row", "numbers"] (defScope s_told_by) := ⟨rfl, rfl, rfl, by decide +kernel, rfl, by decide +kernel, by decide +kernel⟩
def r_told_by : RS :=
  (rRet (rCB oSum (rCons (rLc (rIZ (rCons (rVar 0) (rCons (rVar 1) rNil))) (rgTup 2 (rgCons (rgName 2) (rgCons (rgName 3) rgNil))) rYes (rOp (oIc CMulW fun i j => i * j) (rVar 2) (rVar 3)) [2, 3]) rNil)))
theorem b_told_by (T : TxC K mg C) : Body P w K mg base 6 "told_by" s_told_by N_told_by (r_told_by) := by
  refine fun f => ⟨_, fun cdv A outer s H E hr => ⟨(pss_one (ps_ret (kb_call (kc_sum K) T.b_sum (pa_cons (pe_lc (own := [("weight", 2), ("number", 3)]) rfl sc_told_by.nd (ki_zip K (by rfl) T.b_zip (pa_cons (pv 0) (pa_cons (pv 1) pa_nil))) (blkOk_by (own := [("weight", 2), ("number", 3)]) (N := N_told_by) (sc := defScope s_told_by) (by decide +kernel)) (fun _ _ _ _ _ => (kg_tup K (pgs_cons (pg_name (i := 2) sc_told_by.nd rfl (by first | exact Or.inl rfl | exact Or.inr rfl)) (pgs_cons (pg_name (i := 3) sc_told_by.nd rfl (by first | exact Or.inl rfl | exact Or.inr rfl)) pgs_nil)))) (fun _ _ _ _ _ => pts_nil) (fun _ _ _ _ _ => (pe_op op_mulW (pv 2) (pv 3)))) pa_nil)))),
    (okS_ret (okE_CB okSum (okA_cons (okE_lc (okI_zip (okA_cons (okE_var 0) (okA_cons (okE_var 1) okA_nil))) (okG_tup (okGs_cons (okG_name 2) (okGs_cons (okG_name 3) okGs_nil))) okT_yes (okE_op okIc (okE_var 2) (okE_var 3)) (by decide)) okA_nil)))⟩⟩

abbrev s_numbers_in : Stmt := topS 24
abbrev N_numbers_in : List Str := ["network", "row", "found", "layer", "unit"]
theorem sc_numbers_in : FnScope N_numbers_in ["network", "row"] (defScope s_numbers_in) := ⟨rfl, rfl, rfl, by decide +kernel, rfl, by decide +kernel, by decide +kernel⟩
def r_numbers_in (C : Addr) : RS :=
  (rSeq (rAsg (rCB oListO (rCons (rVar 1) rNil)) (rgName 2))
  (rSeq (rFor (rIT (rFld C 2 (rVar 0))) (rgName 3) (rDrop (rExt (rVar 2) (rLc (rIT (rVar 3)) (rgName 4) rYes (rCB (o2I fun i j => if j > i then j else i) (rCons (rC (.int 0)) (rCons (rCall d_told_by (rCons (rVar 4) (rCons (rVar 2) rNil))) rNil))) [4]))))
  (rRetF (rVar 2))))
theorem b_numbers_in (F_told_by : FnD P w K mg base "told_by" 7 d_told_by) (T : TxC K mg C) : Body P w K mg base 7 "numbers_in" s_numbers_in N_numbers_in (r_numbers_in C) := by
  refine fun f => ⟨_, fun cdv A outer s H E hr => ⟨(pss_cons (ps_set (i := 2) sc_numbers_in.nd rfl (Or.inr rfl) (kt_call (kc_list K) T.b_list (pa_cons (pv 1) pa_nil)))
      (pss_cons (ps_for PassesOwn.never rfl (ki_tup K (ke_sl K (pv 0))) (pg_name (i := 3) sc_numbers_in.nd rfl (Or.inl rfl)) (pss_one (ps_expr (ke_ext K (pv 2) (pa_cons (pe_lc (own := [("unit", 4)]) rfl sc_numbers_in.nd (ki_tup K (pv 3)) (blkOk_by (own := [("unit", 4)]) (N := N_numbers_in) (sc := defScope s_numbers_in) (by decide +kernel)) (fun _ _ _ _ _ => (pg_name (i := 4) sc_numbers_in.nd rfl (by first | exact Or.inl rfl | exact Or.inr rfl))) (fun _ _ _ _ _ => pts_nil) (fun _ _ _ _ _ => (kb_call (call_max2 rfl) T.b_max (pa_cons pe_int (pa_cons (ke_call K F_told_by hr (pa_cons (pv 4) (pa_cons (pv 2) pa_nil))) pa_nil))))) pa_nil)))))
      (pss_one (ps_ret (pv 2))))),
    (okS_seq (okS_asg (okE_CB okListO (okA_cons (okE_var 1) okA_nil)) (okG_name 2))
      (okS_seq (okS_for (okI_tup (fld T.cmp.cls T.sx_own_layers (okE_var 0))) (okG_name 3) (okS_drop (okE_ext (okE_var 2) (okE_lc (okI_tup (okE_var 3)) (okG_name 4) okT_yes (okE_CB ok2I (okA_cons (okE_C fun _ => .int _) (okA_cons (okE_call (okA_cons (okE_var 4) (okA_cons (okE_var 2) okA_nil))) okA_nil))) (by decide)))))
      (okS_retF (okE_var 2))))⟩⟩

abbrev s_value_in : Stmt := topS 25
abbrev N_value_in : List Str := ["network", "row"]
theorem sc_value_in : FnScope N_value_in ["network", "row"] (defScope s_value_in) := ⟨rfl, rfl, rfl, by decide +kernel, rfl, by decide +kernel, by decide +kernel⟩
def r_value_in (C : Addr) : RS :=
  (rRet (rCall d_told_by (rCons (rFld C 1 (rVar 0)) (rCons (rCall (d_numbers_in C) (rCons (rVar 0) (rCons (rVar 1) rNil))) rNil))))
theorem b_value_in (F_told_by : FnD P w K mg base "told_by" 7 d_told_by) (F_numbers_in : FnD P w K mg base "numbers_in" 8 (d_numbers_in C)) (T : TxC K mg C) : Body P w K mg base 8 "value_in" s_value_in N_value_in (r_value_in C) := by
  refine fun f => ⟨_, fun cdv A outer s H E hr => ⟨(pss_one (ps_ret (ke_call K F_told_by hr (pa_cons (ke_sl K (pv 0)) (pa_cons (ke_call K F_numbers_in hr (pa_cons (pv 0) (pa_cons (pv 1) pa_nil))) pa_nil))))),
    (okS_ret (okE_call (okA_cons (fld T.cmp.cls T.sx_own_last (okE_var 0)) (okA_cons (okE_call (okA_cons (okE_var 0) (okA_cons (okE_var 1) okA_nil))) okA_nil))))⟩⟩

abbrev s_require_short : Stmt := topS 12
abbrev N_require_short : List Str := ["value"]
theorem sc_require_short : FnScope N_require_short ["value"] (defScope s_require_short) := ⟨rfl, rfl, rfl, by decide +kernel, rfl, by decide +kernel, by decide +kernel⟩
def r_require_short : RS :=
  (rIfS (rNot (rB (rCall d_is_short (rCons (rVar 0) rNil)))) rNever rNext)
theorem b_require_short (F_is_short : FnD P w K mg base "is_short" 2 d_is_short) (T : TxC K mg C) : Body P w K mg base 9 "require_short" s_require_short N_require_short (r_require_short) := by
  refine fun f => ⟨_, fun cdv A outer s H E hr => ⟨(pss_one (ps_if (pt_not (pt_val (ke_call K F_is_short hr (pa_cons (pv 0) pa_nil)))) (pss_one ps_never) pss_nil)),
    (okS_if (okT_not (okT_B (okE_call (okA_cons (okE_var 0) okA_nil)))) okS_never okS_next)⟩⟩

abbrev s_require_network : Stmt := topS 37
abbrev N_require_network : List Str := ["value"]
theorem sc_require_network : FnScope N_require_network ["value"] (defScope s_require_network) := ⟨rfl, rfl, rfl, by decide +kernel, rfl, by decide +kernel, by decide +kernel⟩
def r_require_network (C : Addr) : RS :=
  (rIfS (rNot (rB (rIsiC C (rVar 0)))) rNever rNext)
theorem b_require_network (T : TxC K mg C) : Body P w K mg base 10 "require_network" s_require_network N_require_network (r_require_network C) := by
  refine fun f => ⟨_, fun cdv A outer s H E hr => ⟨(pss_one (ps_if (pt_not (pt_val (ke_isiC T.b_isinstance T.mgC (pv 0)))) (pss_one ps_never) pss_nil)),
    (okS_if (okT_not (okT_B (okE_isiC T.cmp (okE_var 0)))) okS_never okS_next)⟩⟩

abbrev s_require_inputs : Stmt := topS 38
abbrev N_require_inputs : List Str := ["network", "row"]
theorem sc_require_inputs : FnScope N_require_inputs ["network", "row"] (defScope s_require_inputs) := ⟨rfl, rfl, rfl, by decide +kernel, rfl, by decide +kernel, by decide +kernel⟩
def r_require_inputs (C : Addr) : RS :=
  (rIfS (rNot (rB (rCall d_are_short (rCons (rVar 1) (rCons (rFld C 0 (rVar 0)) rNil))))) rNever rNext)
theorem b_require_inputs (F_are_short : FnD P w K mg base "are_short" 4 d_are_short) (T : TxC K mg C) : Body P w K mg base 11 "require_inputs" s_require_inputs N_require_inputs (r_require_inputs C) := by
  refine fun f => ⟨_, fun cdv A outer s H E hr => ⟨(pss_one (ps_if (pt_not (pt_val (ke_call K F_are_short hr (pa_cons (pv 1) (pa_cons (ke_sl K (pv 0)) pa_nil))))) (pss_one ps_never) pss_nil)),
    (okS_if (okT_not (okT_B (okE_call (okA_cons (okE_var 1) (okA_cons (fld T.cmp.cls T.sx_own_inputs (okE_var 0)) okA_nil))))) okS_never okS_next)⟩⟩

abbrev s_require_place : Stmt := topS 39
abbrev N_require_place : List Str := ["network", "row"]
theorem sc_require_place : FnScope N_require_place ["network", "row"] (defScope s_require_place) := ⟨rfl, rfl, rfl, by decide +kernel, rfl, by decide +kernel, by decide +kernel⟩
def r_require_place (C : Addr) : RS :=
  (rSeq (rDrop (rCall (d_require_network C) (rCons (rVar 0) rNil)))
  (rDrop (rCall (d_require_inputs C) (rCons (rVar 0) (rCons (rVar 1) rNil)))))
theorem b_require_place (F_require_network : FnD P w K mg base "require_network" 11 (d_require_network C)) (F_require_inputs : FnD P w K mg base "require_inputs" 12 (d_require_inputs C)) (T : TxC K mg C) : Body P w K mg base 12 "require_place" s_require_place N_require_place (r_require_place C) := by
  refine fun f => ⟨_, fun cdv A outer s H E hr => ⟨(pss_cons (ps_expr (ke_call K F_require_network hr (pa_cons (pv 0) pa_nil)))
      (pss_one (ps_expr (ke_call K F_require_inputs hr (pa_cons (pv 0) (pa_cons (pv 1) pa_nil)))))),
    (okS_seq (okS_drop (okE_call (okA_cons (okE_var 0) okA_nil)))
      (okS_drop (okE_call (okA_cons (okE_var 0) (okA_cons (okE_var 1) okA_nil)))))⟩⟩

abbrev s_value_of : Stmt := topS 41
abbrev N_value_of : List Str := ["network", "row"]
theorem sc_value_of : FnScope N_value_of ["network", "row"] (defScope s_value_of) := ⟨rfl, rfl, rfl, by decide +kernel, rfl, by decide +kernel, by decide +kernel⟩
def r_value_of (C : Addr) : RS :=
  (rSeq (rDrop (rCall (d_require_place C) (rCons (rVar 0) (rCons (rVar 1) rNil))))
  (rRet (rCall (d_value_in C) (rCons (rVar 0) (rCons (rVar 1) rNil)))))
theorem b_value_of (F_require_place : FnD P w K mg base "require_place" 13 (d_require_place C)) (F_value_in : FnD P w K mg base "value_in" 9 (d_value_in C)) (T : TxC K mg C) : Body P w K mg base 13 "value_of" s_value_of N_value_of (r_value_of C) := by
  refine fun f => ⟨_, fun cdv A outer s H E hr => ⟨(pss_cons (ps_expr (ke_call K F_require_place hr (pa_cons (pv 0) (pa_cons (pv 1) pa_nil))))
      (pss_one (ps_ret (ke_call K F_value_in hr (pa_cons (pv 0) (pa_cons (pv 1) pa_nil)))))),
    (okS_seq (okS_drop (okE_call (okA_cons (okE_var 0) (okA_cons (okE_var 1) okA_nil))))
      (okS_ret (okE_call (okA_cons (okE_var 0) (okA_cons (okE_var 1) okA_nil)))))⟩⟩



/-! ### the VCs -/
theorem ok_told_by (a : At K mg "told_by" s_told_by) (T : TxC K mg C) : FnD P w K mg base "told_by" 7 d_told_by := by
  refine fnD_of a (b_told_by T) sc_told_by (fun _ _ _ _ _ _ us hl => match us, hl with | [_, _], _ => rfl) ?_ ?_
  · rintro ds μ k ⟨ws, d, ns, rfl, _⟩; rfl
  · rintro ds μ k ⟨ws, d, ns, rfl, hd, hl, hw, h⟩
    simp [r_told_by]
    refine ⟨_, hd, ?_⟩
    have sz := Src.z (μ := μ) (x := rowD ws) (y := d) rfl hd
    have e : ((ws.map D.int).zip (ns.map D.int)).map (fun q => D.tup [q.1, q.2]) = (ws.zip ns).map fun q => .tup [.int q.1, .int q.2] := by
      rw [List.zip_map, List.map_map]; rfl
    rw [e] at sz
    refine lcW_map (ws.zip ns) (fun q => .tup [.int q.1, .int q.2]) (fun q => .int (q.1 * q.2)) sz (by rw [List.length_zip]; omega) (fun q hq kt kf h1 => ?_) ?_
    · simp
      exact ⟨hw _ (List.of_mem_zip hq).1 _ (List.of_mem_zip hq).2, h1⟩
    · refine sum_of rfl ?_
      have e2 : ((ws.zip ns).map fun q => q.1 * q.2) = List.zipWith (fun w n => w * n) ws ns := by
        rw [List.zip, List.map_zipWith]
      rw [e2]
      exact h
theorem ixN_nat {p m : Nat} (h : p < m) : ixN m (p : Int) = some p := by
  unfold ixN
  simp [h]
theorem muSet_self {μ : Mu} {p : Addr} {ds : List D} (h : μ p = some ds) : muSet μ p ds = μ := by
  funext q; unfold muSet
  by_cases hq : q = p
  · rw [if_pos hq, hq, h]
  · rw [if_neg hq]
theorem muDel_none {μ : Mu} {p : Addr} (h : μ p = none) : muDel μ p = μ := by
  funext q; unfold muDel
  by_cases hq : q = p
  · rw [if_pos hq, hq, h]
  · rw [if_neg hq]
theorem ok_numbers_in (a : At K mg "numbers_in" s_numbers_in) (F : FnD P w K mg base "told_by" 7 d_told_by) (T : TxC K mg C) : FnD P w K mg base "numbers_in" 8 (d_numbers_in C) := by
  refine fnD_of a (b_numbers_in F T) sc_numbers_in (fun _ _ _ _ _ _ us hl => match us, hl with | [_, _], _ => rfl) ?_ ?_
  · rintro ds μ k ⟨n, ls, la, xs, rfl, _⟩; rfl
  · rintro ds μ k ⟨n, ls, la, xs, rfl, N, hx, hb, h⟩
    simp [r_numbers_in]
    intro p hp
    have ht := N.tot
    have hn := N.hi
    have hfew := N.few
    refine for_inv ls layerD (fun i δ μ' => μ' = muSet μ p (intsD (numbers (ls.take i) xs)) ∧ ∃ x, δ = [some (netD C n ls la), some (rowD xs), some (.own p), x, none]) (fun kk hk => ?_) (fun i l δ μ' hl q => ?_) (fun δ μ' q => ?_)
    · simp
      exact hk _ _ (.l _) ⟨rfl, none, rfl⟩ (fun _ _ _ _ => trivial)
    · obtain ⟨rfl, x, rfl⟩ := q
      obtain ⟨a1, a2⟩ := lays_at N.lays hl
      have a3 := numbers_len (ls := ls.take i) (f := xs)
      have a4 := total_le (ls := ls) i
      simp [muSet_same]
      refine lcW_map l rowD (fun u => .int (max 0 (told u (numbers (ls.take i) xs)))) (.l _) (by omega) (fun u hu kt kf h1 => ?_) ?_
      · simp
        refine ⟨u, .own p, _, rfl, muSet_same, by rw [(a2 u hu).1]; omega, fun w hw y hy => ?_, ?_⟩
        · exact sm_mulW (sm_short ((a2 u hu).2 w hw)) (numbers_take_sm N.lays hx (by omega) hb i y hy) (by omega) (by omega) (by omega)
        · have e : (if 0 < told u (numbers (ls.take i) xs) then told u (numbers (ls.take i) xs) else 0) = max 0 (told u (numbers (ls.take i) xs)) := by
            split <;> omega
          show kt (D.int (if 0 < told u (numbers (ls.take i) xs) then told u (numbers (ls.take i) xs) else 0)) _
          rw [e]
          exact h1
      · refine ⟨_, muSet_same, by simp; omega, ?_⟩
        rw [muSet_set, take_succ_of hl, numbers_append]
        congr 1
        simp [numbers, intsD]
    · obtain ⟨rfl, x, rfl⟩ := q
      simp [muSet_same]
      rw [muDel_set, muDel_none hp]
      exact h
theorem ok_value_in (a : At K mg "value_in" s_value_in) (F1 : FnD P w K mg base "told_by" 7 d_told_by) (F2 : FnD P w K mg base "numbers_in" 8 (d_numbers_in C)) (T : TxC K mg C) : FnD P w K mg base "value_in" 9 (d_value_in C) := by
  refine fnD_of a (b_value_in F1 F2 T) sc_value_in (fun _ _ _ _ _ _ us hl => match us, hl with | [_, _], _ => rfl) ?_ ?_
  · rintro ds μ k ⟨n, ls, la, xs, rfl, _⟩; rfl
  · rintro ds μ k ⟨n, ls, la, xs, rfl, N, hx, hb, h⟩
    have ht := N.tot
    have hn := N.hi
    have hfew := N.few
    have hlen := N.len
    simp [r_value_in]
    refine ⟨n, ls, la, xs, rfl, N, hx, hb, ?_⟩
    refine ⟨la, _, numbers ls xs, rfl, rfl, by omega, fun w hw y hy => ?_, h⟩
    exact sm_mulW (sm_short (N.short w hw)) (numbers_sm N.lays hx (by omega) hb y hy) (by omega) (by omega) (by omega)
theorem cut_drop (n : Nat) (ds : List D) (h : n ≤ ds.length) : DL.cutD ds (some (n : Int)) none = ds.drop n := by
  unfold DL.cutD
  have e1 : HT.sIx ds.length 0 (some (n : Int)) = n := by rw [HT.sIx_nat]; omega
  have e2 : HT.sIx ds.length ds.length none = ds.length := by unfold HT.sIx; rfl
  rw [e1, e2]
  rw [List.take_of_length_le (by simp)]
theorem units_ok {n : Nat} {ls : List (List (List Int))} {la : List Int} (N : IsNet n ls la) (ps : List Bool) : ∀ u ∈ ls.flatten.zip ps, u.1.length ≤ 256 ∧ ∀ x ∈ u.1, short x = true := fun u hu => by
  obtain ⟨h1, h2⟩ := flat_rows N.lays u.1 (List.of_mem_zip hu).1
  have := N.tot
  have := N.hi
  exact ⟨by omega, h2⟩
theorem ok_require_network (a : At K mg "require_network" s_require_network) (T : TxC K mg C) : FnD P w K mg base "require_network" 11 (d_require_network C) := by
  refine fnD_of a (b_require_network T) sc_require_network (fun _ _ _ _ _ _ us hl => match us, hl with | [_], _ => rfl) ?_ ?_
  · rintro ds μ k ⟨n, ls, la, rfl, h⟩; rfl
  · rintro ds μ k ⟨n, ls, la, rfl, h⟩
    simpa [r_require_network] using h
theorem ok_require_inputs (a : At K mg "require_inputs" s_require_inputs) (F : FnD P w K mg base "are_short" 4 d_are_short) (T : TxC K mg C) : FnD P w K mg base "require_inputs" 12 (d_require_inputs C) := by
  refine fnD_of a (b_require_inputs F T) sc_require_inputs (fun _ _ _ _ _ _ us hl => match us, hl with | [_, _], _ => rfl) ?_ ?_
  · rintro ds μ k ⟨n, ls, la, xs, rfl, _⟩; rfl
  · rintro ds μ k ⟨n, ls, la, xs, rfl, hx, hn, hb, h⟩
    simp [r_require_inputs]
    refine ⟨xs, _, rfl, by omega, ?_⟩
    have e : areShort xs (n : Int) = true := by
      simp only [areShort, Bool.and_eq_true, decide_eq_true_eq, List.all_eq_true]
      exact ⟨by omega, hb⟩
    simp [e]
    exact h
theorem ok_require_place (a : At K mg "require_place" s_require_place) (F1 : FnD P w K mg base "require_network" 11 (d_require_network C)) (F2 : FnD P w K mg base "require_inputs" 12 (d_require_inputs C)) (T : TxC K mg C) : FnD P w K mg base "require_place" 13 (d_require_place C) := by
  refine fnD_of a (b_require_place F1 F2 T) sc_require_place (fun _ _ _ _ _ _ us hl => match us, hl with | [_, _], _ => rfl) ?_ ?_
  · rintro ds μ k ⟨n, ls, la, xs, rfl, _⟩; rfl
  · rintro ds μ k ⟨n, ls, la, xs, rfl, hx, hn, hb, h⟩
    simp [r_require_place]
    refine ⟨n, ls, la, rfl, n, ls, la, xs, rfl, hx, hn, hb, h⟩
theorem ok_value_of (a : At K mg "value_of" s_value_of) (F1 : FnD P w K mg base "require_place" 13 (d_require_place C)) (F2 : FnD P w K mg base "value_in" 9 (d_value_in C)) (T : TxC K mg C) : FnD P w K mg base "value_of" 14 (d_value_of C) := by
  refine fnD_of a (b_value_of F1 F2 T) sc_value_of (fun _ _ _ _ _ _ us hl => match us, hl with | [_, _], _ => rfl) ?_ ?_
  · rintro ds μ k ⟨n, ls, la, xs, rfl, _⟩; rfl
  · rintro ds μ k ⟨n, ls, la, xs, rfl, N, hx, hb, h⟩
    simp [r_value_of]
    exact ⟨n, ls, la, xs, rfl, hx, N.hi, hb, n, ls, la, xs, rfl, N, hx, fun x hx => (sm_short (hb x hx)).mono (by omega), h⟩
theorem ok_require_short (a : At K mg "require_short" s_require_short) (F : FnD P w K mg base "is_short" 2 d_is_short) (T : TxC K mg C) : FnD P w K mg base "require_short" 10 d_require_short := by
  refine fnD_of a (b_require_short F T) sc_require_short (fun _ _ _ _ _ _ us hl => match us, hl with | [_], _ => rfl) ?_ ?_
  · rintro ds μ k ⟨i, rfl, _⟩; rfl
  · rintro ds μ k ⟨i, rfl, hi, h⟩
    simp [r_require_short]
    refine ⟨i, rfl, ?_⟩
    simp [hi]
    exact h
end
end K20


set_option Elab.async false
set_option linter.all false
set_option maxRecDepth 100000
set_option maxHeartbeats 4000000
namespace K20
open PySem PySem.Spec PyProof.Rows L2 SlX StX DL
/-! what the functions tell -/
def ly (ls : List (List (List Int))) (a : Nat) : List (List Int) := ls.getD a []
def sizesN (l1 l2 : List (List (List Int))) : List (Nat × Nat) := (List.range (max l1.length l2.length)).map fun a => ((ly l1 a).length, (ly l2 a).length)
def pairD (p : Nat × Nat) : D := .tup [.int (p.1 : Nat), .int (p.2 : Nat)]
def zeros (n : Nat) : List Int := List.replicate n 0
/-- a row behind the inputs, spread; side: whether it is the second -/
def spr (side : Bool) : List (Nat × Nat) → List Int → List Int
  | [], _ => []
  | (a, b) :: ss, r => if side = true then zeros a ++ (r.take b ++ spr side ss (r.drop b)) else r.take a ++ (zeros b ++ spr side ss (r.drop a))
def spread (side : Bool) (n : Nat) (ss : List (Nat × Nat)) (r : List Int) : List Int := r.take n ++ spr side ss (r.drop n)
def sideN (side : Bool) : Int := if side = true then 1 else 0
def beside (n : Nat) (l1 l2 : List (List (List Int))) : List (List (List Int)) := (List.range (max l1.length l2.length)).map fun a =>
  (ly l1 a).map (spread false n ((sizesN l1 l2).take a)) ++ (ly l2 a).map (spread true n ((sizesN l1 l2).take a))
/-! the promises -/
def d_layer_at (C : Addr) : DSp := fun ds μ k => ∃ n ls la a, ds = [netD C n ls la, .int (a : Nat)] ∧ k (layerD (ly ls a)) μ
def d_sizes_of (C : Addr) : DSp := fun ds μ k => ∃ n l1 a1 m l2 a2, ds = [netD C n l1 a1, netD C m l2 a2] ∧ l1.length ≤ 4 ∧ l2.length ≤ 4 ∧ k (.lst ((sizesN l1 l2).map pairD)) μ
def d_spread : DSp := fun ds μ k => ∃ r n ss side, ds = [rowD r, .int (n : Nat), .lst (ss.map pairD), .int (sideN side)] ∧ (∀ s ∈ ss, s.1 ≤ 64 ∧ s.2 ≤ 64) ∧ ss.length ≤ 4 ∧ r.length ≤ 1000 ∧ k (rowD (spread side n ss r)) μ
def d_beside (C : Addr) : DSp := fun ds μ k => ∃ n l1 a1 l2 a2, ds = [netD C n l1 a1, netD C n l2 a2] ∧ IsNet n l1 a1 ∧ IsNet n l2 a2 ∧ k (.lst ((beside n l1 l2).map layerD)) μ
def d_last_rows (C : Addr) : DSp := fun ds μ k => ∃ n l1 a1 l2 a2, ds = [netD C n l1 a1, netD C n l2 a2] ∧ IsNet n l1 a1 ∧ IsNet n l2 a2 ∧ k (.tup [rowD (spread false n (sizesN l1 l2) a1), rowD (spread true n (sizesN l1 l2) a2)]) μ
def asC (d : D) (ls : List (List (List Int))) : Prop := d = .lst (ls.map layerD) ∨ d = layersD ls
def d_need_sizes : DSp := fun ds μ k => ∃ d n ls la, ds = [d, rowD la] ∧ asC d ls ∧ IsNet n ls la ∧ k .non μ
def d_made (C : Addr) : DSp := fun ds μ k => ∃ d n ls la, ds = [.int (n : Nat), d, rowD la] ∧ asC d ls ∧ IsNet n ls la ∧ k (netD C n ls la) μ
def lastAdd (n : Nat) (l1 l2 : List (List (List Int))) (a1 a2 : List Int) : List Int := List.zipWith (fun x y => x + y) (spread false n (sizesN l1 l2) a1) (spread true n (sizesN l1 l2) a2)
def lastSub (n : Nat) (l1 l2 : List (List (List Int))) (a1 a2 : List Int) : List Int := List.zipWith (fun x y => x - y) (spread false n (sizesN l1 l2) a1) (spread true n (sizesN l1 l2) a2)
def d_added_in (C : Addr) : DSp := fun ds μ k => ∃ n l1 a1 l2 a2, ds = [netD C n l1 a1, netD C n l2 a2] ∧ IsNet n l1 a1 ∧ IsNet n l2 a2 ∧ IsNet n (beside n l1 l2) (lastAdd n l1 l2 a1 a2) ∧ k (netD C n (beside n l1 l2) (lastAdd n l1 l2 a1 a2)) μ
def d_multiplied_in (C : Addr) : DSp := fun ds μ k => ∃ n ls la c, ds = [netD C n ls la, .int c] ∧ IsNet n ls la ∧ short c = true ∧ IsNet n ls (la.map fun x => c * x) ∧ k (netD C n ls (la.map fun x => c * x)) μ
def d_ramped_in (C : Addr) : DSp := fun ds μ k => ∃ n ls la, ds = [netD C n ls la] ∧ IsNet n ls la ∧ IsNet n (ls ++ [[la]]) (zeros la.length ++ [1]) ∧ k (netD C n (ls ++ [[la]]) (zeros la.length ++ [1])) μ
def d_greater_in (C : Addr) : DSp := fun ds μ k => ∃ n l1 a1 l2 a2, ds = [netD C n l1 a1, netD C n l2 a2] ∧ IsNet n l1 a1 ∧ IsNet n l2 a2 ∧ IsNet n (beside n l1 l2 ++ [[lastSub n l1 l2 a1 a2]]) (spread true n (sizesN l1 l2) a2 ++ [1]) ∧
  k (netD C n (beside n l1 l2 ++ [[lastSub n l1 l2 a1 a2]]) (spread true n (sizesN l1 l2) a2 ++ [1])) μ
def d_require_two (C : Addr) : DSp := fun ds μ k => ∃ n l1 a1 l2 a2, ds = [netD C n l1 a1, netD C n l2 a2] ∧ k .non μ
def d_added : Addr → DSp := d_added_in
def d_multiplied : Addr → DSp := d_multiplied_in
def d_ramped : Addr → DSp := d_ramped_in
def d_greater : Addr → DSp := d_greater_in
section
variable {P : Program} {w : World} {K : PySem.W.Frag} {mg : Str → Option Value} {base : Heap} {C : Addr}
abbrev s_layer_at : Stmt := topS 26
abbrev N_layer_at : List Str := ["network", "depth"]
theorem sc_layer_at : FnScope N_layer_at ["network", "depth"] (defScope s_layer_at) := ⟨rfl, rfl, rfl, by decide +kernel, rfl, by decide +kernel, by decide +kernel⟩
def r_layer_at (C : Addr) : RS :=
  (rRet (rIf (rB (rOp (oB (fun i j => decide (i < j))) (rVar 1) (rCB oLen (rCons (rFld C 2 (rVar 0)) rNil)))) (rOp oIx (rFld C 2 (rVar 0)) (rVar 1)) (rTup rNil)))
theorem b_layer_at (T : TxC K mg C) : Body P w K mg base 14 "layer_at" s_layer_at N_layer_at (r_layer_at C) := by
  refine fun f => ⟨_, fun cdv A outer s H E hr => ⟨(pss_one (ps_ret (pe_ifExp (pt_cmpR op_lt (pv 1) (kb_call (kc_len K) T.b_len (pa_cons (ke_sl K (pv 0)) pa_nil)) (nomark _)) (pe_ix (kx_seq K) (ke_sl K (pv 0)) (pv 1) (fun _ _ => rfl)) (pe_tup pa_nil)))),
    (okS_ret (okE_if (okT_test (okE_op okB (okE_var 1) (okE_CB okLen (okA_cons (fld T.cmp.cls T.sx_own_layers (okE_var 0)) okA_nil)))) (okE_op okIx (fld T.cmp.cls T.sx_own_layers (okE_var 0)) (okE_var 1)) (okE_tup okA_nil)))⟩⟩

abbrev s_sizes_of : Stmt := topS 27
abbrev N_sizes_of : List Str := ["one", "other", "depth", "at"]
theorem sc_sizes_of : FnScope N_sizes_of ["one", "other"] (defScope s_sizes_of) := ⟨rfl, rfl, rfl, by decide +kernel, rfl, by decide +kernel, by decide +kernel⟩
def r_sizes_of (C : Addr) : RS :=
  (rSeq (rAsg (rCB (o2I fun i j => if j > i then j else i) (rCons (rCB oLen (rCons (rFld C 2 (rVar 0)) rNil)) (rCons (rCB oLen (rCons (rFld C 2 (rVar 1)) rNil)) rNil))) (rgName 2))
  (rRet (rLc (rIR1 (rCons (rVar 2) rNil)) (rgName 3) rYes (rTup (rCons (rCB oLen (rCons (rCall (d_layer_at C) (rCons (rVar 0) (rCons (rVar 3) rNil))) rNil)) (rCons (rCB oLen (rCons (rCall (d_layer_at C) (rCons (rVar 1) (rCons (rVar 3) rNil))) rNil)) rNil))) [3])))
theorem b_sizes_of (F_layer_at : FnD P w K mg base "layer_at" 15 (d_layer_at C)) (T : TxC K mg C) : Body P w K mg base 15 "sizes_of" s_sizes_of N_sizes_of (r_sizes_of C) := by
  refine fun f => ⟨_, fun cdv A outer s H E hr => ⟨(pss_cons (ps_set (i := 2) sc_sizes_of.nd rfl (Or.inl rfl) (kb_call (call_max2 rfl) T.b_max (pa_cons (kb_call (kc_len K) T.b_len (pa_cons (ke_sl K (pv 0)) pa_nil)) (pa_cons (kb_call (kc_len K) T.b_len (pa_cons (ke_sl K (pv 1)) pa_nil)) pa_nil))))
      (pss_one (ps_ret (pe_lc (own := [("at", 3)]) rfl sc_sizes_of.nd (kr_range1 T.b_range (pa_cons (pv 2) pa_nil)) (blkOk_by (own := [("at", 3)]) (N := N_sizes_of) (sc := defScope s_sizes_of) (by decide +kernel)) (fun _ _ _ _ _ => (pg_name (i := 3) sc_sizes_of.nd rfl (by first | exact Or.inl rfl | exact Or.inr rfl))) (fun _ _ _ _ _ => pts_nil) (fun _ _ _ _ _ => (pe_tup (pa_cons (kb_call (kc_len K) T.b_len (pa_cons (ke_call K F_layer_at hr (pa_cons (pv 0) (pa_cons (pv 3) pa_nil))) pa_nil)) (pa_cons (kb_call (kc_len K) T.b_len (pa_cons (ke_call K F_layer_at hr (pa_cons (pv 1) (pa_cons (pv 3) pa_nil))) pa_nil)) pa_nil)))))))),
    (okS_seq (okS_asg (okE_CB ok2I (okA_cons (okE_CB okLen (okA_cons (fld T.cmp.cls T.sx_own_layers (okE_var 0)) okA_nil)) (okA_cons (okE_CB okLen (okA_cons (fld T.cmp.cls T.sx_own_layers (okE_var 1)) okA_nil)) okA_nil))) (okG_name 2))
      (okS_ret (okE_lc (okI_range1 (okA_cons (okE_var 2) okA_nil)) (okG_name 3) okT_yes (okE_tup (okA_cons (okE_CB okLen (okA_cons (okE_call (okA_cons (okE_var 0) (okA_cons (okE_var 3) okA_nil))) okA_nil)) (okA_cons (okE_CB okLen (okA_cons (okE_call (okA_cons (okE_var 1) (okA_cons (okE_var 3) okA_nil))) okA_nil)) okA_nil))) (by decide))))⟩⟩

abbrev s_spread : Stmt := topS 28
abbrev N_spread : List Str := ["row", "inputs", "sizes", "side", "pair", "found", "at", "mine", "gap"]
theorem sc_spread : FnScope N_spread ["row", "inputs", "sizes", "side"] (defScope s_spread) := ⟨rfl, rfl, rfl, by decide +kernel, rfl, by decide +kernel, by decide +kernel⟩
def r_spread : RS :=
  (rSeq (rPar 5 6 (rCons (rCB oListO (rCons (rSlc oSlT (rVar 0) rNo (rPart (rVar 1))) rNil)) (rCons (rVar 1) rNil)))
  (rSeq (rFor (rIL (rVar 2)) (rgName 4) (rSeq (rPar 7 8 (rCons (rSlc oSlT (rVar 0) (rPart (rVar 6)) (rPart (rOp (oI fun i j => i + j) (rVar 6) (rOp oIx (rVar 4) (rVar 3))))) (rCons (rOp oRep (rLst (rCons (rC (.int 0)) rNil)) (rOp oIx (rVar 4) (rOp (oI fun i j => i - j) (rC (.int 1)) (rVar 3)))) rNil)))
  (rSeq (rDrop (rExt (rVar 5) (rIf (rB (rOp oEq (rVar 3) (rC (.int 0)))) (rLst (rStar (rVar 7) (rStar (rVar 8) rNil))) (rLst (rStar (rVar 8) (rStar (rVar 7) rNil))))))
  (rAug 6 (rOp oIx (rVar 4) (rVar 3)) (fun i j => i + j)))))
  (rRet (rCB oTuple (rCons (rVar 5) rNil)))))
theorem b_spread (T : TxC K mg C) : Body P w K mg base 16 "spread" s_spread N_spread (r_spread) := by
  refine fun f => ⟨_, fun cdv A outer s H E hr => ⟨(pss_cons (ps_par (i := 5) (j := 6) rfl sc_spread.nd rfl rfl (by decide) rfl rfl (pa_cons (kt_call (kc_list K) T.b_list (pa_cons (pe_slice (ks_tupA K) (pv 0) po_none (po_some (pv 1))) pa_nil)) (pa_cons (pv 1) pa_nil)) rfl)
      (pss_cons (ps_for PassesOwn.never rfl (ki_list K (pv 2)) (pg_name (i := 4) sc_spread.nd rfl (Or.inl rfl)) (pss_cons (ps_par (i := 7) (j := 8) rfl sc_spread.nd rfl rfl (by decide) rfl rfl (pa_cons (pe_slice (ks_tupA K) (pv 0) (po_some (pv 6)) (po_some (pe_op op_add (pv 6) (pe_ix (kx_seq K) (pv 4) (pv 3) (fun _ _ => rfl))))) (pa_cons (pe_op op_rep (pe_lst (pa_cons pe_int pa_nil)) (pe_ix (kx_seq K) (pv 4) (pe_op op_sub pe_int (pv 3)) (fun _ _ => rfl))) pa_nil)) rfl)
      (pss_cons (ps_expr (ke_ext K (pv 5) (pa_cons (pe_ifExp (pt_cmpR (ko_eqD K hr.units) (pv 3) pe_int (nomark _)) (pe_lst (ka_star K (pv 7) (ka_star K (pv 8) pa_nil))) (pe_lst (ka_star K (pv 8) (ka_star K (pv 7) pa_nil)))) pa_nil)))
      (pss_one (ps_aug (i := 6) sc_spread.nd rfl (Or.inl rfl) (pe_ix (kx_seq K) (pv 4) (pv 3) (fun _ _ => rfl)) ip_add)))))
      (pss_one (ps_ret (kt_call (kc_tuple K) T.b_tuple (pa_cons (pv 5) pa_nil)))))),
    (okS_seq (okS_par (okA_cons (okE_CB okListO (okA_cons (okE_slc okSlT (okE_var 0) okO_no (okO_part (okE_var 1))) okA_nil)) (okA_cons (okE_var 1) okA_nil)))
      (okS_seq (okS_for (okI_list (okE_var 2)) (okG_name 4) (okS_seq (okS_par (okA_cons (okE_slc okSlT (okE_var 0) (okO_part (okE_var 6)) (okO_part (okE_op okI (okE_var 6) (okE_op okIx (okE_var 4) (okE_var 3))))) (okA_cons (okE_op okRep (okE_lst (okA_cons (okE_C fun _ => .int _) okA_nil)) (okE_op okIx (okE_var 4) (okE_op okI (okE_C fun _ => .int _) (okE_var 3)))) okA_nil)))
      (okS_seq (okS_drop (okE_ext (okE_var 5) (okE_if (okT_test (okE_op okEq (okE_var 3) (okE_C fun _ => .int _))) (okE_lst (okA_star (okE_var 7) (okA_star (okE_var 8) okA_nil))) (okE_lst (okA_star (okE_var 8) (okA_star (okE_var 7) okA_nil))))))
      (okS_aug (okE_op okIx (okE_var 4) (okE_var 3))))))
      (okS_ret (okE_CB okTuple (okA_cons (okE_var 5) okA_nil)))))⟩⟩

abbrev s_beside : Stmt := topS 29
abbrev N_beside : List Str := ["one", "other", "at", "sizes", "found", "mine", "unit"]
theorem sc_beside : FnScope N_beside ["one", "other"] (defScope s_beside) := ⟨rfl, rfl, rfl, by decide +kernel, rfl, by decide +kernel, by decide +kernel⟩
def r_beside (C : Addr) : RS :=
  (rSeq (rAsg (rTup (rCons (rCall (d_sizes_of C) (rCons (rVar 0) (rCons (rVar 1) rNil))) (rCons (rLstO rNil) rNil))) (rgTup 2 (rgCons (rgName 3) (rgCons (rgName 4) rgNil))))
  (rSeq (rFor (rIR1 (rCons (rCB oLen (rCons (rVar 3) rNil)) rNil)) (rgName 2) (rSeq (rAsg (rLc (rIT (rCall (d_layer_at C) (rCons (rVar 0) (rCons (rVar 2) rNil)))) (rgName 6) rYes (rCall d_spread (rCons (rVar 6) (rCons (rFld C 0 (rVar 0)) (rCons (rSlc oSlL (rVar 3) rNo (rPart (rVar 2))) (rCons (rC (.int 0)) rNil))))) [6]) (rgName 5))
  (rDrop (rApp (rVar 4) (rTup (rStar (rVar 5) (rStar (rLc (rIT (rCall (d_layer_at C) (rCons (rVar 1) (rCons (rVar 2) rNil)))) (rgName 6) rYes (rCall d_spread (rCons (rVar 6) (rCons (rFld C 0 (rVar 0)) (rCons (rSlc oSlL (rVar 3) rNo (rPart (rVar 2))) (rCons (rC (.int 1)) rNil))))) [6]) rNil)))))))
  (rRetF (rVar 4))))
theorem b_beside (F_sizes_of : FnD P w K mg base "sizes_of" 16 (d_sizes_of C)) (F_layer_at : FnD P w K mg base "layer_at" 15 (d_layer_at C)) (F_spread : FnD P w K mg base "spread" 17 d_spread) (T : TxC K mg C) : Body P w K mg base 17 "beside" s_beside N_beside (r_beside C) := by
  refine fun f => ⟨_, fun cdv A outer s H E hr => ⟨(pss_cons (ps_asg (pe_tup (pa_cons (ke_call K F_sizes_of hr (pa_cons (pv 0) (pa_cons (pv 1) pa_nil))) (pa_cons (pe_lst pa_nil) pa_nil))) (kg_tup K (pgs_cons (pg_name (i := 3) sc_beside.nd rfl (Or.inr rfl)) (pgs_cons (pg_name (i := 4) sc_beside.nd rfl (Or.inl rfl)) pgs_nil))))
      (pss_cons (ps_for PassesOwn.never rfl (kr_range1 T.b_range (pa_cons (kb_call (kc_len K) T.b_len (pa_cons (pv 3) pa_nil)) pa_nil)) (pg_name (i := 2) sc_beside.nd rfl (Or.inr rfl)) (pss_cons (ps_setLc (i := 5) (own := [("unit", 6)]) rfl sc_beside.nd rfl rfl (sw_true rfl rfl rfl (by decide +kernel)) (ki_tup K (ke_call K F_layer_at hr (pa_cons (pv 0) (pa_cons (pv 2) pa_nil)))) (blkOk_by (own := [("unit", 6)]) (N := N_beside) (sc := defScope s_beside) (by decide +kernel)) (fun _ _ _ _ _ => (pg_name (i := 6) sc_beside.nd rfl (by first | exact Or.inl rfl | exact Or.inr rfl))) (fun _ _ _ _ _ => pts_nil) (fun _ _ _ _ _ => (ke_call K F_spread hr (pa_cons (pv 6) (pa_cons (ke_sl K (pv 0)) (pa_cons (pe_slice (ks_list K) (pv 3) po_none (po_some (pv 2))) (pa_cons pe_int pa_nil)))))))
      (pss_one (ps_expr (ke_app K (pv 4) (pa_cons (pe_tup (ka_star K (pv 5) (ka_star K (pe_lc (own := [("unit", 6)]) rfl sc_beside.nd (ki_tup K (ke_call K F_layer_at hr (pa_cons (pv 1) (pa_cons (pv 2) pa_nil)))) (blkOk_by (own := [("unit", 6)]) (N := N_beside) (sc := defScope s_beside) (by decide +kernel)) (fun _ _ _ _ _ => (pg_name (i := 6) sc_beside.nd rfl (by first | exact Or.inl rfl | exact Or.inr rfl))) (fun _ _ _ _ _ => pts_nil) (fun _ _ _ _ _ => (ke_call K F_spread hr (pa_cons (pv 6) (pa_cons (ke_sl K (pv 0)) (pa_cons (pe_slice (ks_list K) (pv 3) po_none (po_some (pv 2))) (pa_cons pe_int pa_nil))))))) pa_nil))) pa_nil))))))
      (pss_one (ps_ret (pv 4))))),
    (okS_seq (okS_asg (okE_tup (okA_cons (okE_call (okA_cons (okE_var 0) (okA_cons (okE_var 1) okA_nil))) (okA_cons (okE_lstO okA_nil) okA_nil))) (okG_tup (okGs_cons (okG_name 3) (okGs_cons (okG_name 4) okGs_nil))))
      (okS_seq (okS_for (okI_range1 (okA_cons (okE_CB okLen (okA_cons (okE_var 3) okA_nil)) okA_nil)) (okG_name 2) (okS_seq (okS_asg (okE_lc (okI_tup (okE_call (okA_cons (okE_var 0) (okA_cons (okE_var 2) okA_nil)))) (okG_name 6) okT_yes (okE_call (okA_cons (okE_var 6) (okA_cons (fld T.cmp.cls T.sx_own_inputs (okE_var 0)) (okA_cons (okE_slc okSlL (okE_var 3) okO_no (okO_part (okE_var 2))) (okA_cons (okE_C fun _ => .int _) okA_nil))))) (by decide)) (okG_name 5))
      (okS_drop (okE_app (okE_var 4) (okE_tup (okA_star (okE_var 5) (okA_star (okE_lc (okI_tup (okE_call (okA_cons (okE_var 1) (okA_cons (okE_var 2) okA_nil)))) (okG_name 6) okT_yes (okE_call (okA_cons (okE_var 6) (okA_cons (fld T.cmp.cls T.sx_own_inputs (okE_var 0)) (okA_cons (okE_slc okSlL (okE_var 3) okO_no (okO_part (okE_var 2))) (okA_cons (okE_C fun _ => .int _) okA_nil))))) (by decide)) okA_nil)))))))
      (okS_retF (okE_var 4))))⟩⟩

abbrev s_last_rows : Stmt := topS 30
abbrev N_last_rows : List Str := ["one", "other", "sizes"]
theorem sc_last_rows : FnScope N_last_rows ["one", "other"] (defScope s_last_rows) := ⟨rfl, rfl, rfl, by decide +kernel, rfl, by decide +kernel, by decide +kernel⟩
def r_last_rows (C : Addr) : RS :=
  (rSeq (rAsg (rCall (d_sizes_of C) (rCons (rVar 0) (rCons (rVar 1) rNil))) (rgName 2))
  (rRet (rTup (rCons (rCall d_spread (rCons (rFld C 1 (rVar 0)) (rCons (rFld C 0 (rVar 0)) (rCons (rVar 2) (rCons (rC (.int 0)) rNil))))) (rCons (rCall d_spread (rCons (rFld C 1 (rVar 1)) (rCons (rFld C 0 (rVar 0)) (rCons (rVar 2) (rCons (rC (.int 1)) rNil))))) rNil)))))
theorem b_last_rows (F_sizes_of : FnD P w K mg base "sizes_of" 16 (d_sizes_of C)) (F_spread : FnD P w K mg base "spread" 17 d_spread) (T : TxC K mg C) : Body P w K mg base 18 "last_rows" s_last_rows N_last_rows (r_last_rows C) := by
  refine fun f => ⟨_, fun cdv A outer s H E hr => ⟨(pss_cons (ps_set (i := 2) sc_last_rows.nd rfl (Or.inl rfl) (ke_call K F_sizes_of hr (pa_cons (pv 0) (pa_cons (pv 1) pa_nil))))
      (pss_one (ps_ret (pe_tup (pa_cons (ke_call K F_spread hr (pa_cons (ke_sl K (pv 0)) (pa_cons (ke_sl K (pv 0)) (pa_cons (pv 2) (pa_cons pe_int pa_nil))))) (pa_cons (ke_call K F_spread hr (pa_cons (ke_sl K (pv 1)) (pa_cons (ke_sl K (pv 0)) (pa_cons (pv 2) (pa_cons pe_int pa_nil))))) pa_nil)))))),
    (okS_seq (okS_asg (okE_call (okA_cons (okE_var 0) (okA_cons (okE_var 1) okA_nil))) (okG_name 2))
      (okS_ret (okE_tup (okA_cons (okE_call (okA_cons (fld T.cmp.cls T.sx_own_last (okE_var 0)) (okA_cons (fld T.cmp.cls T.sx_own_inputs (okE_var 0)) (okA_cons (okE_var 2) (okA_cons (okE_C fun _ => .int _) okA_nil))))) (okA_cons (okE_call (okA_cons (fld T.cmp.cls T.sx_own_last (okE_var 1)) (okA_cons (fld T.cmp.cls T.sx_own_inputs (okE_var 0)) (okA_cons (okE_var 2) (okA_cons (okE_C fun _ => .int _) okA_nil))))) okA_nil)))))⟩⟩

abbrev s_need_sizes : Stmt := topS 31
abbrev N_need_sizes : List Str := ["layers", "last", "rows", "layer", "row", "weight", "unit"]
theorem sc_need_sizes : FnScope N_need_sizes ["layers", "last"] (defScope s_need_sizes) := ⟨rfl, rfl, rfl, by decide +kernel, rfl, by decide +kernel, by decide +kernel⟩
def r_need_sizes : RS :=
  (rSeq (rIfS (rB (rOp (oB (fun i j => decide (j < i))) (rCB oLen (rCons (rVar 0) rNil)) (rC (.int 4)))) rNever rNext)
  (rSeq (rIfS (rB (rCB oAny (rCons (rLc (fun δ μ k => (rIL (rVar 0)) δ μ k ∨ (rIT (rVar 0)) δ μ k) (rgName 3) rYes (rOp (oB (fun i j => decide (j < i))) (rCB oLen (rCons (rVar 3) rNil)) (rC (.int 64))) [3]) rNil))) rNever rNext)
  (rSeq (rIfS (rB (rOp (oB (fun i j => decide (j < i))) (rCB oSum (rCons (rLc (fun δ μ k => (rIL (rVar 0)) δ μ k ∨ (rIT (rVar 0)) δ μ k) (rgName 3) rYes (rCB oLen (rCons (rVar 3) rNil)) [3]) rNil)) (rC (.int 128)))) rNever rNext)
  (rSeq (rAsg (rLst (rStar (rLc2 (fun δ μ k => (rIL (rVar 0)) δ μ k ∨ (rIT (rVar 0)) δ μ k) (rgName 3) rYes (rIT (rVar 3)) (rgName 6) rYes (rVar 6) [3, 6] [6]) (rCons (rVar 1) rNil))) (rgName 2))
  (rIfS (rB (rCB oAny (rCons (rLc2 (rIL (rVar 2)) (rgName 4) rYes (rIT (rVar 4)) (rgName 5) rYes (rOp (oB (fun i j => decide (j ≤ i))) (rCB oAbs (rCons (rVar 5) rNil)) (rC (.int sixty))) [4, 5] [5]) rNil))) rNever rNext)))))
theorem b_need_sizes (T : TxC K mg C) : Body P w K mg base 19 "need_sizes" s_need_sizes N_need_sizes (r_need_sizes) := by
  refine fun f => ⟨_, fun cdv A outer s H E hr => ⟨(pss_cons (ps_if (pt_cmpR op_gt (kb_call (kc_len K) T.b_len (pa_cons (pv 0) pa_nil)) (ke_globI T.c_MOST_LAYERS) (nomark _)) (pss_one ps_never) pss_nil)
      (pss_cons (ps_if (pt_val (kb_call (kc_any K) T.b_any (pa_cons (pe_lc (own := [("layer", 3)]) rfl sc_need_sizes.nd (pi_or (ki_list K (pv 0)) (ki_tup K (pv 0))) (blkOk_by (own := [("layer", 3)]) (N := N_need_sizes) (sc := defScope s_need_sizes) (by decide +kernel)) (fun _ _ _ _ _ => (pg_name (i := 3) sc_need_sizes.nd rfl (by first | exact Or.inl rfl | exact Or.inr rfl))) (fun _ _ _ _ _ => pts_nil) (fun _ _ _ _ _ => (pe_cmpR op_gt (kb_call (kc_len K) T.b_len (pa_cons (pv 3) pa_nil)) (ke_globI T.c_MOST_IN_LAYER) (nomark _)))) pa_nil))) (pss_one ps_never) pss_nil)
      (pss_cons (ps_if (pt_cmpR op_gt (kb_call (kc_sum K) T.b_sum (pa_cons (pe_lc (own := [("layer", 3)]) rfl sc_need_sizes.nd (pi_or (ki_list K (pv 0)) (ki_tup K (pv 0))) (blkOk_by (own := [("layer", 3)]) (N := N_need_sizes) (sc := defScope s_need_sizes) (by decide +kernel)) (fun _ _ _ _ _ => (pg_name (i := 3) sc_need_sizes.nd rfl (by first | exact Or.inl rfl | exact Or.inr rfl))) (fun _ _ _ _ _ => pts_nil) (fun _ _ _ _ _ => (kb_call (kc_len K) T.b_len (pa_cons (pv 3) pa_nil)))) pa_nil)) (ke_globI T.c_MOST_UNITS) (nomark _)) (pss_one ps_never) pss_nil)
      (pss_cons (ps_set (i := 2) sc_need_sizes.nd rfl (Or.inl rfl) (pe_lst (ka_star K (pe_lc2 (own := [("layer", 3), ("unit", 6)]) rfl sc_need_sizes.nd (pi_or (ki_list K (pv 0)) (ki_tup K (pv 0))) (blkOk_by (own := [("layer", 3), ("unit", 6)]) (N := N_need_sizes) (sc := defScope s_need_sizes) (by decide +kernel)) (vs1 := [6]) (by decide) (fun _ _ _ _ _ => (pg_name (i := 3) sc_need_sizes.nd rfl (by first | exact Or.inl rfl | exact Or.inr rfl))) (fun _ _ _ _ _ => pts_nil) (fun _ _ _ _ _ => (ki_tup K (pv 3))) (fun _ _ _ _ _ => (pg_name (i := 6) sc_need_sizes.nd rfl (by first | exact Or.inl rfl | exact Or.inr rfl))) (fun _ _ _ _ _ => pts_nil) (fun _ _ _ _ _ => (pv 6))) (pa_cons (pv 1) pa_nil))))
      (pss_one (ps_if (pt_val (kb_call (kc_any K) T.b_any (pa_cons (pe_lc2 (own := [("row", 4), ("weight", 5)]) rfl sc_need_sizes.nd (ki_list K (pv 2)) (blkOk_by (own := [("row", 4), ("weight", 5)]) (N := N_need_sizes) (sc := defScope s_need_sizes) (by decide +kernel)) (vs1 := [5]) (by decide) (fun _ _ _ _ _ => (pg_name (i := 4) sc_need_sizes.nd rfl (by first | exact Or.inl rfl | exact Or.inr rfl))) (fun _ _ _ _ _ => pts_nil) (fun _ _ _ _ _ => (ki_tup K (pv 4))) (fun _ _ _ _ _ => (pg_name (i := 5) sc_need_sizes.nd rfl (by first | exact Or.inl rfl | exact Or.inr rfl))) (fun _ _ _ _ _ => pts_nil) (fun _ _ _ _ _ => (pe_cmpR op_ge (kb_call call_abs T.b_abs (pa_cons (pv 5) pa_nil)) (ke_globI T.c_MOST_WEIGHT) (nomark _)))) pa_nil))) (pss_one ps_never) pss_nil)))))),
    (okS_seq (okS_if (okT_test (okE_op okB (okE_CB okLen (okA_cons (okE_var 0) okA_nil)) (okE_C fun _ => .int _))) okS_never okS_next)
      (okS_seq (okS_if (okT_B (okE_CB okAny (okA_cons (okE_lc (OkI.or (okI_list (okE_var 0)) (okI_tup (okE_var 0))) (okG_name 3) okT_yes (okE_op okB (okE_CB okLen (okA_cons (okE_var 3) okA_nil)) (okE_C fun _ => .int _)) (by decide)) okA_nil))) okS_never okS_next)
      (okS_seq (okS_if (okT_test (okE_op okB (okE_CB okSum (okA_cons (okE_lc (OkI.or (okI_list (okE_var 0)) (okI_tup (okE_var 0))) (okG_name 3) okT_yes (okE_CB okLen (okA_cons (okE_var 3) okA_nil)) (by decide)) okA_nil)) (okE_C fun _ => .int _))) okS_never okS_next)
      (okS_seq (okS_asg (okE_lst (okA_star (okE_lc2 (OkI.or (okI_list (okE_var 0)) (okI_tup (okE_var 0))) (okG_name 3) okT_yes (okI_tup (okE_var 3)) (okG_name 6) okT_yes (okE_var 6) (by decide) (by decide)) (okA_cons (okE_var 1) okA_nil))) (okG_name 2))
      (okS_if (okT_B (okE_CB okAny (okA_cons (okE_lc2 (okI_list (okE_var 2)) (okG_name 4) okT_yes (okI_tup (okE_var 4)) (okG_name 5) okT_yes (okE_op okB (okE_CB okAbs (okA_cons (okE_var 5) okA_nil)) (okE_C fun _ => .int _)) (by decide) (by decide)) okA_nil))) okS_never okS_next)))))⟩⟩

abbrev s_made : Stmt := topS 32
abbrev N_made : List Str := ["inputs", "layers", "last"]
theorem sc_made : FnScope N_made ["inputs", "layers", "last"] (defScope s_made) := ⟨rfl, rfl, rfl, by decide +kernel, rfl, by decide +kernel, by decide +kernel⟩
def r_made (C : Addr) : RS :=
  (rSeq (rDrop (rCall d_need_sizes (rCons (rVar 1) (rCons (rVar 2) rNil))))
  (rRet (rMk C inm_Network (rCons (rVar 0) (rCons (rCB oTuple (rCons (rVar 1) rNil)) (rCons (rVar 2) rNil))))))
theorem b_made (F_need_sizes : FnD P w K mg base "need_sizes" 20 d_need_sizes) (M_Network : MakD P w K mg base 7 "Network" C (spMk K C inm_Network)) (T : TxC K mg C) : Body P w K mg base 20 "made" s_made N_made (r_made C) := by
  refine fun f => ⟨_, fun cdv A outer s H E hr => ⟨(pss_cons (ps_expr (ke_call K F_need_sizes hr (pa_cons (pv 1) (pa_cons (pv 2) pa_nil))))
      (pss_one (ps_ret (ke_mk M_Network hr (pa_cons (pv 0) (pa_cons (kt_call (kc_tuple K) T.b_tuple (pa_cons (pv 1) pa_nil)) (pa_cons (pv 2) pa_nil))))))),
    (okS_seq (okS_drop (okE_call (okA_cons (okE_var 1) (okA_cons (okE_var 2) okA_nil))))
      (okS_ret (okE_mk (okA_cons (okE_var 0) (okA_cons (okE_CB okTuple (okA_cons (okE_var 1) okA_nil)) (okA_cons (okE_var 2) okA_nil))))))⟩⟩

abbrev s_added_in : Stmt := topS 33
abbrev N_added_in : List Str := ["one", "other", "first", "second", "here", "there"]
theorem sc_added_in : FnScope N_added_in ["one", "other"] (defScope s_added_in) := ⟨rfl, rfl, rfl, by decide +kernel, rfl, by decide +kernel, by decide +kernel⟩
def r_added_in (C : Addr) : RS :=
  (rSeq (rAsg (rCall (d_last_rows C) (rCons (rVar 0) (rCons (rVar 1) rNil))) (rgTup 2 (rgCons (rgName 2) (rgCons (rgName 3) rgNil))))
  (rRet (rCall (d_made C) (rCons (rFld C 0 (rVar 0)) (rCons (rCall (d_beside C) (rCons (rVar 0) (rCons (rVar 1) rNil))) (rCons (rCB oTuple (rCons (rLc (rIZ (rCons (rVar 2) (rCons (rVar 3) rNil))) (rgTup 2 (rgCons (rgName 4) (rgCons (rgName 5) rgNil))) rYes (rOp (oI fun i j => i + j) (rVar 4) (rVar 5)) [4, 5]) rNil)) rNil))))))
theorem b_added_in (F_last_rows : FnD P w K mg base "last_rows" 19 (d_last_rows C)) (F_made : FnD P w K mg base "made" 21 (d_made C)) (F_beside : FnD P w K mg base "beside" 18 (d_beside C)) (T : TxC K mg C) : Body P w K mg base 21 "added_in" s_added_in N_added_in (r_added_in C) := by
  refine fun f => ⟨_, fun cdv A outer s H E hr => ⟨(pss_cons (ps_asg (ke_call K F_last_rows hr (pa_cons (pv 0) (pa_cons (pv 1) pa_nil))) (kg_tup K (pgs_cons (pg_name (i := 2) sc_added_in.nd rfl (Or.inl rfl)) (pgs_cons (pg_name (i := 3) sc_added_in.nd rfl (Or.inl rfl)) pgs_nil))))
      (pss_one (ps_ret (ke_call K F_made hr (pa_cons (ke_sl K (pv 0)) (pa_cons (ke_call K F_beside hr (pa_cons (pv 0) (pa_cons (pv 1) pa_nil))) (pa_cons (kt_call (kc_tuple K) T.b_tuple (pa_cons (pe_lc (own := [("here", 4), ("there", 5)]) rfl sc_added_in.nd (ki_zip K (by rfl) T.b_zip (pa_cons (pv 2) (pa_cons (pv 3) pa_nil))) (blkOk_by (own := [("here", 4), ("there", 5)]) (N := N_added_in) (sc := defScope s_added_in) (by decide +kernel)) (fun _ _ _ _ _ => (kg_tup K (pgs_cons (pg_name (i := 4) sc_added_in.nd rfl (by first | exact Or.inl rfl | exact Or.inr rfl)) (pgs_cons (pg_name (i := 5) sc_added_in.nd rfl (by first | exact Or.inl rfl | exact Or.inr rfl)) pgs_nil)))) (fun _ _ _ _ _ => pts_nil) (fun _ _ _ _ _ => (pe_op op_add (pv 4) (pv 5)))) pa_nil)) pa_nil))))))),
    (okS_seq (okS_asg (okE_call (okA_cons (okE_var 0) (okA_cons (okE_var 1) okA_nil))) (okG_tup (okGs_cons (okG_name 2) (okGs_cons (okG_name 3) okGs_nil))))
      (okS_ret (okE_call (okA_cons (fld T.cmp.cls T.sx_own_inputs (okE_var 0)) (okA_cons (okE_call (okA_cons (okE_var 0) (okA_cons (okE_var 1) okA_nil))) (okA_cons (okE_CB okTuple (okA_cons (okE_lc (okI_zip (okA_cons (okE_var 2) (okA_cons (okE_var 3) okA_nil))) (okG_tup (okGs_cons (okG_name 4) (okGs_cons (okG_name 5) okGs_nil))) okT_yes (okE_op okI (okE_var 4) (okE_var 5)) (by decide)) okA_nil)) okA_nil))))))⟩⟩

abbrev s_multiplied_in : Stmt := topS 34
abbrev N_multiplied_in : List Str := ["network", "number", "weight"]
theorem sc_multiplied_in : FnScope N_multiplied_in ["network", "number"] (defScope s_multiplied_in) := ⟨rfl, rfl, rfl, by decide +kernel, rfl, by decide +kernel, by decide +kernel⟩
def r_multiplied_in (C : Addr) : RS :=
  (rRet (rCall (d_made C) (rCons (rFld C 0 (rVar 0)) (rCons (rFld C 2 (rVar 0)) (rCons (rCB oTuple (rCons (rLc (rIT (rFld C 1 (rVar 0))) (rgName 2) rYes (rOp (oIc CMulW fun i j => i * j) (rVar 1) (rVar 2)) [2]) rNil)) rNil)))))
theorem b_multiplied_in (F_made : FnD P w K mg base "made" 21 (d_made C)) (T : TxC K mg C) : Body P w K mg base 22 "multiplied_in" s_multiplied_in N_multiplied_in (r_multiplied_in C) := by
  refine fun f => ⟨_, fun cdv A outer s H E hr => ⟨(pss_one (ps_ret (ke_call K F_made hr (pa_cons (ke_sl K (pv 0)) (pa_cons (ke_sl K (pv 0)) (pa_cons (kt_call (kc_tuple K) T.b_tuple (pa_cons (pe_lc (own := [("weight", 2)]) rfl sc_multiplied_in.nd (ki_tup K (ke_sl K (pv 0))) (blkOk_by (own := [("weight", 2)]) (N := N_multiplied_in) (sc := defScope s_multiplied_in) (by decide +kernel)) (fun _ _ _ _ _ => (pg_name (i := 2) sc_multiplied_in.nd rfl (by first | exact Or.inl rfl | exact Or.inr rfl))) (fun _ _ _ _ _ => pts_nil) (fun _ _ _ _ _ => (pe_op op_mulW (pv 1) (pv 2)))) pa_nil)) pa_nil)))))),
    (okS_ret (okE_call (okA_cons (fld T.cmp.cls T.sx_own_inputs (okE_var 0)) (okA_cons (fld T.cmp.cls T.sx_own_layers (okE_var 0)) (okA_cons (okE_CB okTuple (okA_cons (okE_lc (okI_tup (fld T.cmp.cls T.sx_own_last (okE_var 0))) (okG_name 2) okT_yes (okE_op okIc (okE_var 1) (okE_var 2)) (by decide)) okA_nil)) okA_nil)))))⟩⟩

abbrev s_ramped_in : Stmt := topS 35
abbrev N_ramped_in : List Str := ["network", "last"]
theorem sc_ramped_in : FnScope N_ramped_in ["network"] (defScope s_ramped_in) := ⟨rfl, rfl, rfl, by decide +kernel, rfl, by decide +kernel, by decide +kernel⟩
def r_ramped_in (C : Addr) : RS :=
  (rSeq (rAsg (rTup (rStar (rOp oRep (rLst (rCons (rC (.int 0)) rNil)) (rCB oLen (rCons (rFld C 1 (rVar 0)) rNil))) (rCons (rC (.int 1)) rNil))) (rgName 1))
  (rRet (rCall (d_made C) (rCons (rFld C 0 (rVar 0)) (rCons (rLst (rStar (rFld C 2 (rVar 0)) (rCons (rTup (rCons (rFld C 1 (rVar 0)) rNil)) rNil))) (rCons (rVar 1) rNil))))))
theorem b_ramped_in (F_made : FnD P w K mg base "made" 21 (d_made C)) (T : TxC K mg C) : Body P w K mg base 23 "ramped_in" s_ramped_in N_ramped_in (r_ramped_in C) := by
  refine fun f => ⟨_, fun cdv A outer s H E hr => ⟨(pss_cons (ps_set (i := 1) sc_ramped_in.nd rfl (Or.inl rfl) (pe_tup (ka_star K (pe_op op_rep (pe_lst (pa_cons pe_int pa_nil)) (kb_call (kc_len K) T.b_len (pa_cons (ke_sl K (pv 0)) pa_nil))) (pa_cons pe_int pa_nil))))
      (pss_one (ps_ret (ke_call K F_made hr (pa_cons (ke_sl K (pv 0)) (pa_cons (pe_lst (ka_star K (ke_sl K (pv 0)) (pa_cons (pe_tup (pa_cons (ke_sl K (pv 0)) pa_nil)) pa_nil))) (pa_cons (pv 1) pa_nil))))))),
    (okS_seq (okS_asg (okE_tup (okA_star (okE_op okRep (okE_lst (okA_cons (okE_C fun _ => .int _) okA_nil)) (okE_CB okLen (okA_cons (fld T.cmp.cls T.sx_own_last (okE_var 0)) okA_nil))) (okA_cons (okE_C fun _ => .int _) okA_nil))) (okG_name 1))
      (okS_ret (okE_call (okA_cons (fld T.cmp.cls T.sx_own_inputs (okE_var 0)) (okA_cons (okE_lst (okA_star (fld T.cmp.cls T.sx_own_layers (okE_var 0)) (okA_cons (okE_tup (okA_cons (fld T.cmp.cls T.sx_own_last (okE_var 0)) okA_nil)) okA_nil))) (okA_cons (okE_var 1) okA_nil))))))⟩⟩

abbrev s_greater_in : Stmt := topS 36
abbrev N_greater_in : List Str := ["one", "other", "unit", "first", "second", "here", "there"]
theorem sc_greater_in : FnScope N_greater_in ["one", "other"] (defScope s_greater_in) := ⟨rfl, rfl, rfl, by decide +kernel, rfl, by decide +kernel, by decide +kernel⟩
def r_greater_in (C : Addr) : RS :=
  (rSeq (rAsg (rCall (d_last_rows C) (rCons (rVar 0) (rCons (rVar 1) rNil))) (rgTup 2 (rgCons (rgName 3) (rgCons (rgName 4) rgNil))))
  (rSeq (rAsg (rCB oTuple (rCons (rLc (rIZ (rCons (rVar 3) (rCons (rVar 4) rNil))) (rgTup 2 (rgCons (rgName 5) (rgCons (rgName 6) rgNil))) rYes (rOp (oI fun i j => i - j) (rVar 5) (rVar 6)) [5, 6]) rNil)) (rgName 2))
  (rRet (rCall (d_made C) (rCons (rFld C 0 (rVar 0)) (rCons (rLst (rStar (rCall (d_beside C) (rCons (rVar 0) (rCons (rVar 1) rNil))) (rCons (rTup (rCons (rVar 2) rNil)) rNil))) (rCons (rTup (rStar (rVar 4) (rCons (rC (.int 1)) rNil))) rNil)))))))
theorem b_greater_in (F_last_rows : FnD P w K mg base "last_rows" 19 (d_last_rows C)) (F_made : FnD P w K mg base "made" 21 (d_made C)) (F_beside : FnD P w K mg base "beside" 18 (d_beside C)) (T : TxC K mg C) : Body P w K mg base 24 "greater_in" s_greater_in N_greater_in (r_greater_in C) := by
  refine fun f => ⟨_, fun cdv A outer s H E hr => ⟨(pss_cons (ps_asg (ke_call K F_last_rows hr (pa_cons (pv 0) (pa_cons (pv 1) pa_nil))) (kg_tup K (pgs_cons (pg_name (i := 3) sc_greater_in.nd rfl (Or.inl rfl)) (pgs_cons (pg_name (i := 4) sc_greater_in.nd rfl (Or.inl rfl)) pgs_nil))))
      (pss_cons (ps_set (i := 2) sc_greater_in.nd rfl (Or.inl rfl) (kt_call (kc_tuple K) T.b_tuple (pa_cons (pe_lc (own := [("here", 5), ("there", 6)]) rfl sc_greater_in.nd (ki_zip K (by rfl) T.b_zip (pa_cons (pv 3) (pa_cons (pv 4) pa_nil))) (blkOk_by (own := [("here", 5), ("there", 6)]) (N := N_greater_in) (sc := defScope s_greater_in) (by decide +kernel)) (fun _ _ _ _ _ => (kg_tup K (pgs_cons (pg_name (i := 5) sc_greater_in.nd rfl (by first | exact Or.inl rfl | exact Or.inr rfl)) (pgs_cons (pg_name (i := 6) sc_greater_in.nd rfl (by first | exact Or.inl rfl | exact Or.inr rfl)) pgs_nil)))) (fun _ _ _ _ _ => pts_nil) (fun _ _ _ _ _ => (pe_op op_sub (pv 5) (pv 6)))) pa_nil)))
      (pss_one (ps_ret (ke_call K F_made hr (pa_cons (ke_sl K (pv 0)) (pa_cons (pe_lst (ka_star K (ke_call K F_beside hr (pa_cons (pv 0) (pa_cons (pv 1) pa_nil))) (pa_cons (pe_tup (pa_cons (pv 2) pa_nil)) pa_nil))) (pa_cons (pe_tup (ka_star K (pv 4) (pa_cons pe_int pa_nil))) pa_nil)))))))),
    (okS_seq (okS_asg (okE_call (okA_cons (okE_var 0) (okA_cons (okE_var 1) okA_nil))) (okG_tup (okGs_cons (okG_name 3) (okGs_cons (okG_name 4) okGs_nil))))
      (okS_seq (okS_asg (okE_CB okTuple (okA_cons (okE_lc (okI_zip (okA_cons (okE_var 3) (okA_cons (okE_var 4) okA_nil))) (okG_tup (okGs_cons (okG_name 5) (okGs_cons (okG_name 6) okGs_nil))) okT_yes (okE_op okI (okE_var 5) (okE_var 6)) (by decide)) okA_nil)) (okG_name 2))
      (okS_ret (okE_call (okA_cons (fld T.cmp.cls T.sx_own_inputs (okE_var 0)) (okA_cons (okE_lst (okA_star (okE_call (okA_cons (okE_var 0) (okA_cons (okE_var 1) okA_nil))) (okA_cons (okE_tup (okA_cons (okE_var 2) okA_nil)) okA_nil))) (okA_cons (okE_tup (okA_star (okE_var 4) (okA_cons (okE_C fun _ => .int _) okA_nil))) okA_nil)))))))⟩⟩

abbrev s_require_two : Stmt := topS 40
abbrev N_require_two : List Str := ["one", "other"]
theorem sc_require_two : FnScope N_require_two ["one", "other"] (defScope s_require_two) := ⟨rfl, rfl, rfl, by decide +kernel, rfl, by decide +kernel, by decide +kernel⟩
def r_require_two (C : Addr) : RS :=
  (rSeq (rDrop (rCall (d_require_network C) (rCons (rVar 0) rNil)))
  (rSeq (rDrop (rCall (d_require_network C) (rCons (rVar 1) rNil)))
  (rIfS (rB (rOp oNe (rFld C 0 (rVar 0)) (rFld C 0 (rVar 1)))) rNever rNext)))
theorem b_require_two (F_require_network : FnD P w K mg base "require_network" 11 (d_require_network C)) (T : TxC K mg C) : Body P w K mg base 25 "require_two" s_require_two N_require_two (r_require_two C) := by
  refine fun f => ⟨_, fun cdv A outer s H E hr => ⟨(pss_cons (ps_expr (ke_call K F_require_network hr (pa_cons (pv 0) pa_nil)))
      (pss_cons (ps_expr (ke_call K F_require_network hr (pa_cons (pv 1) pa_nil)))
      (pss_one (ps_if (pt_cmpR (ko_neD K hr.units) (ke_sl K (pv 0)) (ke_sl K (pv 1)) (nomark _)) (pss_one ps_never) pss_nil)))),
    (okS_seq (okS_drop (okE_call (okA_cons (okE_var 0) okA_nil)))
      (okS_seq (okS_drop (okE_call (okA_cons (okE_var 1) okA_nil)))
      (okS_if (okT_test (okE_op okNe (fld T.cmp.cls T.sx_own_inputs (okE_var 0)) (fld T.cmp.cls T.sx_own_inputs (okE_var 1)))) okS_never okS_next)))⟩⟩

abbrev s_added : Stmt := topS 42
abbrev N_added : List Str := ["one", "other"]
theorem sc_added : FnScope N_added ["one", "other"] (defScope s_added) := ⟨rfl, rfl, rfl, by decide +kernel, rfl, by decide +kernel, by decide +kernel⟩
def r_added (C : Addr) : RS :=
  (rSeq (rDrop (rCall (d_require_two C) (rCons (rVar 0) (rCons (rVar 1) rNil))))
  (rRet (rCall (d_added_in C) (rCons (rVar 0) (rCons (rVar 1) rNil)))))
theorem b_added (F_require_two : FnD P w K mg base "require_two" 26 (d_require_two C)) (F_added_in : FnD P w K mg base "added_in" 22 (d_added_in C)) (T : TxC K mg C) : Body P w K mg base 26 "added" s_added N_added (r_added C) := by
  refine fun f => ⟨_, fun cdv A outer s H E hr => ⟨(pss_cons (ps_expr (ke_call K F_require_two hr (pa_cons (pv 0) (pa_cons (pv 1) pa_nil))))
      (pss_one (ps_ret (ke_call K F_added_in hr (pa_cons (pv 0) (pa_cons (pv 1) pa_nil)))))),
    (okS_seq (okS_drop (okE_call (okA_cons (okE_var 0) (okA_cons (okE_var 1) okA_nil))))
      (okS_ret (okE_call (okA_cons (okE_var 0) (okA_cons (okE_var 1) okA_nil)))))⟩⟩

abbrev s_multiplied : Stmt := topS 43
abbrev N_multiplied : List Str := ["network", "number"]
theorem sc_multiplied : FnScope N_multiplied ["network", "number"] (defScope s_multiplied) := ⟨rfl, rfl, rfl, by decide +kernel, rfl, by decide +kernel, by decide +kernel⟩
def r_multiplied (C : Addr) : RS :=
  (rSeq (rDrop (rCall (d_require_network C) (rCons (rVar 0) rNil)))
  (rSeq (rDrop (rCall d_require_short (rCons (rVar 1) rNil)))
  (rRet (rCall (d_multiplied_in C) (rCons (rVar 0) (rCons (rVar 1) rNil))))))
theorem b_multiplied (F_require_network : FnD P w K mg base "require_network" 11 (d_require_network C)) (F_require_short : FnD P w K mg base "require_short" 10 d_require_short) (F_multiplied_in : FnD P w K mg base "multiplied_in" 23 (d_multiplied_in C)) (T : TxC K mg C) : Body P w K mg base 27 "multiplied" s_multiplied N_multiplied (r_multiplied C) := by
  refine fun f => ⟨_, fun cdv A outer s H E hr => ⟨(pss_cons (ps_expr (ke_call K F_require_network hr (pa_cons (pv 0) pa_nil)))
      (pss_cons (ps_expr (ke_call K F_require_short hr (pa_cons (pv 1) pa_nil)))
      (pss_one (ps_ret (ke_call K F_multiplied_in hr (pa_cons (pv 0) (pa_cons (pv 1) pa_nil))))))),
    (okS_seq (okS_drop (okE_call (okA_cons (okE_var 0) okA_nil)))
      (okS_seq (okS_drop (okE_call (okA_cons (okE_var 1) okA_nil)))
      (okS_ret (okE_call (okA_cons (okE_var 0) (okA_cons (okE_var 1) okA_nil))))))⟩⟩

abbrev s_ramped : Stmt := topS 44
abbrev N_ramped : List Str := ["network"]
theorem sc_ramped : FnScope N_ramped ["network"] (defScope s_ramped) := ⟨rfl, rfl, rfl, by decide +kernel, rfl, by decide +kernel, by decide +kernel⟩
def r_ramped (C : Addr) : RS :=
  (rSeq (rDrop (rCall (d_require_network C) (rCons (rVar 0) rNil)))
  (rRet (rCall (d_ramped_in C) (rCons (rVar 0) rNil))))
theorem b_ramped (F_require_network : FnD P w K mg base "require_network" 11 (d_require_network C)) (F_ramped_in : FnD P w K mg base "ramped_in" 24 (d_ramped_in C)) (T : TxC K mg C) : Body P w K mg base 28 "ramped" s_ramped N_ramped (r_ramped C) := by
  refine fun f => ⟨_, fun cdv A outer s H E hr => ⟨(pss_cons (ps_expr (ke_call K F_require_network hr (pa_cons (pv 0) pa_nil)))
      (pss_one (ps_ret (ke_call K F_ramped_in hr (pa_cons (pv 0) pa_nil))))),
    (okS_seq (okS_drop (okE_call (okA_cons (okE_var 0) okA_nil)))
      (okS_ret (okE_call (okA_cons (okE_var 0) okA_nil))))⟩⟩

abbrev s_greater : Stmt := topS 45
abbrev N_greater : List Str := ["one", "other"]
theorem sc_greater : FnScope N_greater ["one", "other"] (defScope s_greater) := ⟨rfl, rfl, rfl, by decide +kernel, rfl, by decide +kernel, by decide +kernel⟩
def r_greater (C : Addr) : RS :=
  (rSeq (rDrop (rCall (d_require_two C) (rCons (rVar 0) (rCons (rVar 1) rNil))))
  (rRet (rCall (d_greater_in C) (rCons (rVar 0) (rCons (rVar 1) rNil)))))
theorem b_greater (F_require_two : FnD P w K mg base "require_two" 26 (d_require_two C)) (F_greater_in : FnD P w K mg base "greater_in" 25 (d_greater_in C)) (T : TxC K mg C) : Body P w K mg base 29 "greater" s_greater N_greater (r_greater C) := by
  refine fun f => ⟨_, fun cdv A outer s H E hr => ⟨(pss_cons (ps_expr (ke_call K F_require_two hr (pa_cons (pv 0) (pa_cons (pv 1) pa_nil))))
      (pss_one (ps_ret (ke_call K F_greater_in hr (pa_cons (pv 0) (pa_cons (pv 1) pa_nil)))))),
    (okS_seq (okS_drop (okE_call (okA_cons (okE_var 0) (okA_cons (okE_var 1) okA_nil))))
      (okS_ret (okE_call (okA_cons (okE_var 0) (okA_cons (okE_var 1) okA_nil)))))⟩⟩


end
end K20


set_option Elab.async false
set_option linter.all false
set_option maxRecDepth 100000
set_option maxHeartbeats 4000000
namespace K20
open PySem PySem.Spec PyProof.Rows L2 SlX StX DL
theorem ly_lt {ls : List (List (List Int))} {a : Nat} (h : a < ls.length) : ly ls a = ls[a] := by
  unfold ly
  rw [List.getD_eq_getElem?_getD, List.getElem?_eq_getElem h]; rfl
theorem ly_ge {ls : List (List (List Int))} {a : Nat} (h : ls.length ≤ a) : ly ls a = [] := by
  unfold ly
  rw [List.getD_eq_getElem?_getD, List.getElem?_eq_none h]; rfl
def sel (side : Bool) (q : Nat × Nat) : Nat := if side = true then q.2 else q.1
/-! sums of products -/
theorem told_append : ∀ {a b u v : List Int}, a.length = u.length → told (a ++ b) (u ++ v) = told a u + told b v
  | [], b, [], v, _ => by simp [told]
  | x :: a, b, y :: u, v, h => by
    have ih := told_append (a := a) (b := b) (u := u) (v := v) (by simpa using h)
    unfold told at ih ⊢
    simp only [List.cons_append, List.zipWith_cons_cons, List.sum_cons, ih]
    omega
theorem told_zeros : ∀ {n : Nat} {u : List Int}, told (zeros n) u = 0
  | 0, u => by simp [told, zeros]
  | n + 1, [] => by simp [told, zeros]
  | n + 1, y :: u => by
    have ih := told_zeros (n := n) (u := u)
    unfold told zeros at ih ⊢
    simp [List.replicate_succ, ih]
theorem told_add : ∀ {p q u : List Int}, p.length = q.length → told (List.zipWith (fun x y => x + y) p q) u = told p u + told q u
  | [], [], u, _ => by simp [told]
  | x :: p, y :: q, [], _ => by simp [told]
  | x :: p, y :: q, z :: u, h => by
    have ih := told_add (p := p) (q := q) (u := u) (by simpa using h)
    unfold told at ih ⊢
    simp only [List.zipWith_cons_cons, List.sum_cons, ih, Int.add_mul]
    omega
theorem told_sub : ∀ {p q u : List Int}, p.length = q.length → told (List.zipWith (fun x y => x - y) p q) u = told p u - told q u
  | [], [], u, _ => by simp [told]
  | x :: p, y :: q, [], _ => by simp [told]
  | x :: p, y :: q, z :: u, h => by
    have ih := told_sub (p := p) (q := q) (u := u) (by simpa using h)
    unfold told at ih ⊢
    simp only [List.zipWith_cons_cons, List.sum_cons, ih, Int.sub_mul]
    omega
theorem told_mul (c : Int) : ∀ {p u : List Int}, told (p.map fun x => c * x) u = c * told p u
  | [], u => by simp [told]
  | x :: p, [] => by simp [told]
  | x :: p, z :: u => by
    have ih := told_mul c (p := p) (u := u)
    unfold told at ih ⊢
    simp only [List.map_cons, List.zipWith_cons_cons, List.sum_cons, ih, Int.mul_add, Int.mul_assoc]
theorem told_one (y : Int) : told [1] [y] = y := by simp [told]
/-! the numbers of both, block by block -/
def mixL (B : List (List Int × List Int)) : List Int := B.flatMap fun p => p.1 ++ p.2
def sideL (side : Bool) (B : List (List Int × List Int)) : List Int := B.flatMap fun p => if side = true then p.2 else p.1
def lens (B : List (List Int × List Int)) : List (Nat × Nat) := B.map fun p => (p.1.length, p.2.length)
theorem told_spr (side : Bool) : ∀ {B : List (List Int × List Int)} {r : List Int}, r.length = (sideL side B).length → told (spr side (lens B) r) (mixL B) = told r (sideL side B)
  | [], r, h => by
    have : r = [] := by simpa [sideL] using h
    subst this
    simp [spr, lens, mixL, sideL, told]
  | (b1, b2) :: B, r, h => by
    cases side with
    | true =>
      have hl : r.length = b2.length + (sideL true B).length := by simpa [sideL] using h
      have ih := told_spr true (B := B) (r := r.drop b2.length) (by simp; omega)
      have e1 : spr true (lens ((b1, b2) :: B)) r = zeros b1.length ++ (r.take b2.length ++ spr true (lens B) (r.drop b2.length)) := by simp [spr, lens]
      have e2 : mixL ((b1, b2) :: B) = b1 ++ (b2 ++ mixL B) := by simp [mixL]
      have e3 : sideL true ((b1, b2) :: B) = b2 ++ sideL true B := by simp [sideL]
      rw [e1, e2, e3, told_append (by simp [zeros]), told_append (by simp; omega), told_zeros, ih]
      conv => rhs; rw [← List.take_append_drop b2.length r]
      rw [told_append (by simp; omega)]
      omega
    | false =>
      have hl : r.length = b1.length + (sideL false B).length := by simpa [sideL] using h
      have ih := told_spr false (B := B) (r := r.drop b1.length) (by simp; omega)
      have e1 : spr false (lens ((b1, b2) :: B)) r = r.take b1.length ++ (zeros b2.length ++ spr false (lens B) (r.drop b1.length)) := by simp [spr, lens]
      have e2 : mixL ((b1, b2) :: B) = b1 ++ (b2 ++ mixL B) := by simp [mixL]
      have e3 : sideL false ((b1, b2) :: B) = b1 ++ sideL false B := by simp [sideL]
      rw [e1, e2, e3, told_append (by simp; omega), told_append (by simp [zeros]), told_zeros, ih]
      conv => rhs; rw [← List.take_append_drop b1.length r]
      rw [told_append (by simp; omega)]
      omega
theorem told_spread {side : Bool} {B : List (List Int × List Int)} {n : Nat} {x r : List Int} (hx : x.length = n) (h : r.length = n + (sideL side B).length) :
    told (spread side n (lens B) r) (x ++ mixL B) = told r (x ++ sideL side B) := by
  unfold spread
  rw [told_append (by simp; omega), told_spr side (by simp; omega)]
  conv => rhs; rw [← List.take_append_drop n r]
  rw [told_append (by simp; omega)]
def blk (ls : List (List (List Int))) (x : List Int) (k : Nat) : List Int := (ly ls k).map fun u => max 0 (told u (numbers (ls.take k) x))
def blks (l1 l2 : List (List (List Int))) (x : List Int) (k : Nat) : List (List Int × List Int) := (List.range k).map fun a => (blk l1 x a, blk l2 x a)
theorem numbers_take (ls : List (List (List Int))) (x : List Int) (k : Nat) : numbers (ls.take (k + 1)) x = numbers (ls.take k) x ++ blk ls x k := by
  by_cases h : k < ls.length
  · rw [take_succ_of (List.getElem?_eq_getElem h), numbers_append, blk, ly_lt h]
    rfl
  · rw [List.take_of_length_le (by omega), List.take_of_length_le (by omega), blk, ly_ge (by omega)]
    simp
theorem side_eq (l1 l2 : List (List (List Int))) (x : List Int) (side : Bool) : ∀ k, numbers ((if side = true then l2 else l1).take k) x = x ++ sideL side (blks l1 l2 x k)
  | 0 => by simp [numbers, blks, sideL]
  | k + 1 => by
    rw [numbers_take, side_eq l1 l2 x side k]
    cases side <;> simp [blks, sideL, List.range_succ, List.flatMap_append]
theorem lens_eq (l1 l2 : List (List (List Int))) (x : List Int) {k : Nat} (h : k ≤ max l1.length l2.length) : lens (blks l1 l2 x k) = (sizesN l1 l2).take k := by
  unfold lens blks sizesN
  rw [← List.map_take, List.take_range, Nat.min_eq_left h, List.map_map]
  congr 1
  funext a
  simp [blk]
theorem row_len {ls : List (List (List Int))} {n k : Nat} {x u : List Int} (L : Lays ls n) (hx : x.length = n) (hu : u ∈ ly ls k) : u.length = (numbers (ls.take k) x).length := by
  by_cases h : k < ls.length
  · rw [ly_lt h] at hu
    rw [numbers_len, hx]
    exact ((lays_at L (List.getElem?_eq_getElem h)).2 u hu).1
  · rw [ly_ge (by omega)] at hu; cases hu
theorem mix_eq {l1 l2 : List (List (List Int))} {n : Nat} {x : List Int} (h1 : Lays l1 n) (h2 : Lays l2 n) (hx : x.length = n) : ∀ k, k ≤ max l1.length l2.length → numbers ((beside n l1 l2).take k) x = x ++ mixL (blks l1 l2 x k)
  | 0, _ => by simp [numbers, blks, mixL]
  | k + 1, h => by
    have ih := mix_eq h1 h2 hx k (by omega)
    have hk : k < (beside n l1 l2).length := by simp [beside]; omega
    rw [take_succ_of (List.getElem?_eq_getElem hk), numbers_append, ih]
    have e : (beside n l1 l2)[k] = (ly l1 k).map (spread false n ((sizesN l1 l2).take k)) ++ (ly l2 k).map (spread true n ((sizesN l1 l2).take k)) := by simp [beside]
    rw [e, ← lens_eq l1 l2 x (by omega : k ≤ max l1.length l2.length)]
    have s1 := side_eq l1 l2 x false k
    have s2 := side_eq l1 l2 x true k
    simp only [Bool.false_eq_true, if_false, if_true] at s1 s2
    have m1 : (ly l1 k).map (fun u => max 0 (told (spread false n (lens (blks l1 l2 x k)) u) (x ++ mixL (blks l1 l2 x k)))) = blk l1 x k := by
      unfold blk
      refine List.map_congr_left fun u hu => ?_
      have hl := row_len h1 hx hu
      rw [s1] at hl ⊢
      rw [told_spread hx (by rw [hl, List.length_append, hx])]
    have m2 : (ly l2 k).map (fun u => max 0 (told (spread true n (lens (blks l1 l2 x k)) u) (x ++ mixL (blks l1 l2 x k)))) = blk l2 x k := by
      unfold blk
      refine List.map_congr_left fun u hu => ?_
      have hl := row_len h2 hx hu
      rw [s2] at hl ⊢
      rw [told_spread hx (by rw [hl, List.length_append, hx])]
    have m1' : (fun u => max 0 (told u (x ++ mixL (blks l1 l2 x k)))) ∘ spread false n (lens (blks l1 l2 x k)) = fun u => max 0 (told (spread false n (lens (blks l1 l2 x k)) u) (x ++ mixL (blks l1 l2 x k))) := rfl
    have m2' : (fun u => max 0 (told u (x ++ mixL (blks l1 l2 x k)))) ∘ spread true n (lens (blks l1 l2 x k)) = fun u => max 0 (told (spread true n (lens (blks l1 l2 x k)) u) (x ++ mixL (blks l1 l2 x k))) := rfl
    show (x ++ mixL (blks l1 l2 x k)) ++ List.map _ _ = _
    rw [List.map_append, List.map_map, List.map_map, m1', m2', m1, m2]
    simp [blks, mixL, List.range_succ, List.flatMap_append]
/-- what a last row, spread, tells -/
theorem told_beside {l1 l2 : List (List (List Int))} {n : Nat} {x a1 a2 : List Int} (N1 : IsNet n l1 a1) (N2 : IsNet n l2 a2) (hx : x.length = n) :
    told (spread false n (sizesN l1 l2) a1) (numbers (beside n l1 l2) x) = told a1 (numbers l1 x) ∧ told (spread true n (sizesN l1 l2) a2) (numbers (beside n l1 l2) x) = told a2 (numbers l2 x) := by
  have hm := mix_eq N1.lays N2.lays hx (max l1.length l2.length) (Nat.le_refl _)
  rw [List.take_of_length_le (by simp [beside])] at hm
  have hL := lens_eq l1 l2 x (Nat.le_refl (max l1.length l2.length))
  rw [List.take_of_length_le (by simp [sizesN])] at hL
  have s1 := side_eq l1 l2 x false (max l1.length l2.length)
  have s2 := side_eq l1 l2 x true (max l1.length l2.length)
  simp only [Bool.false_eq_true, if_false, if_true] at s1 s2
  rw [List.take_of_length_le (by omega)] at s1 s2
  have n1 := numbers_len (ls := l1) (f := x)
  have n2 := numbers_len (ls := l2) (f := x)
  rw [s1] at n1 ⊢
  rw [s2] at n2 ⊢
  rw [hm, ← hL]
  simp only [List.length_append] at n1 n2
  have := N1.len
  have := N2.len
  exact ⟨told_spread hx (by omega), told_spread hx (by omega)⟩
theorem spr_len_eq (side : Bool) : ∀ {ss : List (Nat × Nat)} {r : List Int}, r.length = (ss.map (sel side)).sum → (spr side ss r).length = (ss.map fun p => p.1 + p.2).sum
  | [], _, _ => by simp [spr]
  | (a, b) :: ss, r, h => by
    cases side with
    | true =>
      have hl : r.length = b + (ss.map (sel true)).sum := by simpa [sel] using h
      have ih := spr_len_eq true (ss := ss) (r := r.drop b) (by simp; omega)
      simp [spr, zeros, ih]
      omega
    | false =>
      have hl : r.length = a + (ss.map (sel false)).sum := by simpa [sel] using h
      have ih := spr_len_eq false (ss := ss) (r := r.drop a) (by simp; omega)
      simp [spr, zeros, ih]
      omega
theorem spread_len {side : Bool} {n : Nat} {ss : List (Nat × Nat)} {r : List Int} (h : r.length = n + (ss.map (sel side)).sum) : (spread side n ss r).length = n + (ss.map fun p => p.1 + p.2).sum := by
  unfold spread
  rw [List.length_append, spr_len_eq side (by simp; omega)]
  simp; omega
theorem spr_mem (side : Bool) : ∀ {ss : List (Nat × Nat)} {r : List Int} {z : Int}, z ∈ spr side ss r → z = 0 ∨ z ∈ r
  | [], _, _, h => by simp [spr] at h
  | (a, b) :: ss, r, z, h => by
    have ih := fun r => spr_mem side (ss := ss) (r := r) (z := z)
    cases side with
    | true =>
      simp only [spr, if_true, List.mem_append] at h
      rcases h with h | h | h
      · exact .inl (List.eq_of_mem_replicate h)
      · exact .inr (List.mem_of_mem_take h)
      · exact (ih _ h).imp id fun h => List.mem_of_mem_drop h
    | false =>
      simp only [spr, Bool.false_eq_true, if_false, List.mem_append] at h
      rcases h with h | h | h
      · exact .inr (List.mem_of_mem_take h)
      · exact .inl (List.eq_of_mem_replicate h)
      · exact (ih _ h).imp id fun h => List.mem_of_mem_drop h
theorem spread_mem {side : Bool} {n : Nat} {ss : List (Nat × Nat)} {r : List Int} {z : Int} (h : z ∈ spread side n ss r) : z = 0 ∨ z ∈ r := by
  unfold spread at h
  rcases List.mem_append.mp h with h | h
  · exact .inr (List.mem_of_mem_take h)
  · exact (spr_mem side h).imp id fun h => List.mem_of_mem_drop h
theorem total_snoc (ls : List (List (List Int))) (l : List (List Int)) : total (ls ++ [l]) = total ls + l.length := by simp [total]
theorem total_take_all (ls : List (List (List Int))) : ∀ k, total (ls.take k) = ((List.range k).map fun a => (ly ls a).length).sum
  | 0 => by simp [total]
  | k + 1 => by
    have ih := total_take_all ls k
    rw [List.range_succ, List.map_append, List.sum_append, ← ih]
    by_cases h : k < ls.length
    · rw [take_succ_of (List.getElem?_eq_getElem h), total_snoc]
      simp [ly_lt h]
    · have e0 : (ly ls k).length = 0 := by rw [ly_ge (by omega)]; rfl
      rw [List.take_of_length_le (by omega), List.take_of_length_le (by omega)]
      simp [e0]
theorem sel_sizes (l1 l2 : List (List (List Int))) (side : Bool) {k : Nat} (h : k ≤ max l1.length l2.length) : (((sizesN l1 l2).take k).map (sel side)).sum = total ((if side = true then l2 else l1).take k) := by
  rw [total_take_all]
  unfold sizesN
  rw [← List.map_take, List.take_range, Nat.min_eq_left h, List.map_map]
  congr 1
  cases side <;> simp [sel, Function.comp_def]
theorem sum_add (ss : List (Nat × Nat)) : (ss.map fun p => p.1 + p.2).sum = (ss.map (sel false)).sum + (ss.map (sel true)).sum := by
  induction ss with
  | nil => rfl
  | cons s ss ih => simp [ih, sel]; omega
theorem beside_take_total (n : Nat) (l1 l2 : List (List (List Int))) {k : Nat} (h : k ≤ max l1.length l2.length) : total ((beside n l1 l2).take k) = total (l1.take k) + total (l2.take k) := by
  have h1 := sel_sizes l1 l2 false h
  have h2 := sel_sizes l1 l2 true h
  simp only [Bool.false_eq_true, if_false, if_true] at h1 h2
  rw [← h1, ← h2, ← sum_add]
  unfold total beside sizesN
  rw [← List.map_take, ← List.map_take, List.take_range, Nat.min_eq_left h, List.map_map, List.map_map]
  congr 1
  refine List.map_congr_left fun a _ => ?_
  simp
theorem beside_total (n : Nat) (l1 l2 : List (List (List Int))) : total (beside n l1 l2) = total l1 + total l2 := by
  have := beside_take_total n l1 l2 (Nat.le_refl _)
  rw [List.take_of_length_le (by simp [beside]), List.take_of_length_le (by omega), List.take_of_length_le (by omega)] at this
  exact this
theorem lays_of : ∀ {ls : List (List (List Int))} {m : Nat}, (∀ i l, ls[i]? = some l → (1 ≤ l.length ∧ l.length ≤ 64) ∧ ∀ r ∈ l, r.length = m + total (ls.take i) ∧ ∀ x ∈ r, short x = true) → Lays ls m
  | [], _, _ => trivial
  | l :: ls, m, h => by
    have h0 := h 0 l (by simp)
    refine ⟨h0.1, fun r hr => ⟨by rw [(h0.2 r hr).1]; simp [total], (h0.2 r hr).2⟩, lays_of fun i l' hl => ?_⟩
    have h1 := h (i + 1) l' (by simpa using hl)
    refine ⟨h1.1, fun r hr => ⟨?_, (h1.2 r hr).2⟩⟩
    rw [(h1.2 r hr).1]
    simp [total]
    omega
theorem short0 : short 0 = true := by decide +kernel
theorem ly_short {ls : List (List (List Int))} {n k : Nat} {u : List Int} (L : Lays ls n) (hu : u ∈ ly ls k) : u.length = n + total (ls.take k) ∧ ∀ x ∈ u, short x = true := by
  by_cases h : k < ls.length
  · rw [ly_lt h] at hu
    exact (lays_at L (List.getElem?_eq_getElem h)).2 u hu
  · rw [ly_ge (by omega)] at hu; cases hu
theorem ly_pos {ls : List (List (List Int))} {n k : Nat} (L : Lays ls n) (h : k < ls.length) : 1 ≤ (ly ls k).length := by
  rw [ly_lt h]; exact (lays_at L (List.getElem?_eq_getElem h)).1.1
theorem beside_lays {l1 l2 : List (List (List Int))} {n : Nat} (h1 : Lays l1 n) (h2 : Lays l2 n) (hw : ∀ k, (ly l1 k).length + (ly l2 k).length ≤ 64) : Lays (beside n l1 l2) n := by
  refine lays_of fun k l hl => ?_
  have hk : k < max l1.length l2.length := by
    by_cases hk : k < (beside n l1 l2).length
    · simpa [beside] using hk
    · rw [List.getElem?_eq_none (by omega)] at hl; cases hl
  have e : l = (ly l1 k).map (spread false n ((sizesN l1 l2).take k)) ++ (ly l2 k).map (spread true n ((sizesN l1 l2).take k)) := by
    have hk2 : k < (beside n l1 l2).length := by simpa [beside] using hk
    rw [List.getElem?_eq_getElem hk2] at hl
    cases hl
    simp [beside]
  subst e
  have t := beside_take_total n l1 l2 (Nat.le_of_lt hk)
  have s1 := sel_sizes l1 l2 false (Nat.le_of_lt hk)
  have s2 := sel_sizes l1 l2 true (Nat.le_of_lt hk)
  simp only [Bool.false_eq_true, if_false, if_true] at s1 s2
  have sm := sum_add ((sizesN l1 l2).take k)
  refine ⟨⟨?_, by simpa using hw k⟩, fun r hr => ?_⟩
  · simp only [List.length_append, List.length_map]
    by_cases h : k < l1.length
    · have := ly_pos h1 h; omega
    · have := ly_pos h2 (by omega : k < l2.length); omega
  · rcases List.mem_append.mp hr with hr | hr
    · obtain ⟨u, hu, rfl⟩ := List.mem_map.mp hr
      obtain ⟨a1, a2⟩ := ly_short h1 hu
      refine ⟨?_, fun z hz => ?_⟩
      · rw [spread_len (by omega)]; omega
      · rcases spread_mem hz with rfl | hz
        · exact short0
        · exact a2 z hz
    · obtain ⟨u, hu, rfl⟩ := List.mem_map.mp hr
      obtain ⟨a1, a2⟩ := ly_short h2 hu
      refine ⟨?_, fun z hz => ?_⟩
      · rw [spread_len (by omega)]; omega
      · rcases spread_mem hz with rfl | hz
        · exact short0
        · exact a2 z hz
/-- rows of small weights -/
def Bd (x : Int) : Prop := -10 ≤ x ∧ x ≤ 10
theorem sixty_eq : sixty = 10 ^ 60 := by decide +kernel
theorem short_of {x : Int} {b : Int} (h : -b ≤ x ∧ x ≤ b) (hb : b ≤ 10 ^ 31) : short x = true := by
  rw [short_iff, sixty_eq]
  omega
theorem Bd.short {x : Int} (h : Bd x) : short x = true := short_of h (by decide)
/-- the networks of this law -/
structure Small (n : Nat) (ls : List (List (List Int))) (la : List Int) : Prop extends IsNet n ls la where
  bd : ∀ x ∈ la, Bd x
  dep : ls.length ≤ 3
  wid : ∀ k, (ly ls k).length ≤ 4
theorem total_small {n : Nat} {ls : List (List (List Int))} {la : List Int} (N : Small n ls la) : total ls ≤ 12 := by
  have e := total_take_all ls 3
  rw [List.take_of_length_le N.dep] at e
  have h0 := N.wid 0
  have h1 := N.wid 1
  have h2 := N.wid 2
  rw [e]
  simp [List.range_succ]
  omega
theorem last_len {n : Nat} {l1 l2 : List (List (List Int))} {a1 a2 : List Int} (N1 : IsNet n l1 a1) (N2 : IsNet n l2 a2) :
    (spread false n (sizesN l1 l2) a1).length = n + total (beside n l1 l2) ∧ (spread true n (sizesN l1 l2) a2).length = n + total (beside n l1 l2) := by
  have s1 := sel_sizes l1 l2 false (Nat.le_refl _)
  have s2 := sel_sizes l1 l2 true (Nat.le_refl _)
  have e : (sizesN l1 l2).take (max l1.length l2.length) = sizesN l1 l2 := List.take_of_length_le (by simp [sizesN])
  rw [e] at s1 s2
  simp only [Bool.false_eq_true, if_false, if_true] at s1 s2
  rw [List.take_of_length_le (by omega)] at s1 s2
  have sm := sum_add (sizesN l1 l2)
  rw [beside_total]
  have := N1.len
  have := N2.len
  exact ⟨by rw [spread_len (by omega)]; omega, by rw [spread_len (by omega)]; omega⟩
theorem bd0 : Bd 0 := by unfold Bd; omega
theorem spread_bd {n : Nat} {ss : List (Nat × Nat)} {side : Bool} {la : List Int} (h : ∀ x ∈ la, Bd x) : ∀ x ∈ spread side n ss la, Bd x := fun x hx => by
  rcases spread_mem hx with rfl | hx
  · exact bd0
  · exact h x hx
theorem small_beside {n : Nat} {l1 l2 : List (List (List Int))} {a1 a2 : List Int} (N1 : Small n l1 a1) (N2 : Small n l2 a2) : Lays (beside n l1 l2) n :=
  beside_lays N1.lays N2.lays fun k => by have := N1.wid k; have := N2.wid k; omega
theorem net_beside {n : Nat} {l1 l2 : List (List (List Int))} {a1 a2 la : List Int} (N1 : Small n l1 a1) (N2 : Small n l2 a2) (hl : la.length = n + total (beside n l1 l2)) (hs : ∀ x ∈ la, short x = true) : IsNet n (beside n l1 l2) la := by
  refine ⟨N1.lo, N1.hi, ?_, small_beside N1 N2, ?_, hl, hs⟩
  · have := N1.dep; have := N2.dep; simp [beside]; omega
  · rw [beside_total]; have := total_small N1; have := total_small N2; omega
theorem net_added {n : Nat} {l1 l2 : List (List (List Int))} {a1 a2 : List Int} (N1 : Small n l1 a1) (N2 : Small n l2 a2) : IsNet n (beside n l1 l2) (lastAdd n l1 l2 a1 a2) := by
  obtain ⟨e1, e2⟩ := last_len N1.toIsNet N2.toIsNet
  refine net_beside N1 N2 (by unfold lastAdd; rw [List.length_zipWith, e1, e2, Nat.min_self]) fun x hx => ?_
  obtain ⟨y, hy, z, hz, rfl⟩ := zipWith_mem hx
  have b1 := spread_bd N1.bd y hy
  have b2 := spread_bd N2.bd z hz
  unfold Bd at b1 b2
  exact short_of (b := 20) (by omega) (by decide)
theorem net_mul {n : Nat} {ls : List (List (List Int))} {la : List Int} {c : Int} (N : Small n ls la) (hc : -10 ^ 30 ≤ c ∧ c ≤ 10 ^ 30) : IsNet n ls (la.map fun x => c * x) := by
  refine ⟨N.lo, N.hi, N.few, N.lays, N.tot, by simp [N.len], fun x hx => ?_⟩
  obtain ⟨y, hy, rfl⟩ := List.mem_map.mp hx
  have b := N.bd y hy
  unfold Bd at b
  refine short_of (b := 10 ^ 31) ?_ (by decide)
  have h1 : (c * y).natAbs ≤ 10 ^ 30 * 10 := by
    rw [Int.natAbs_mul]
    exact Nat.mul_le_mul (by omega) (by omega)
  omega
theorem lays_snoc : ∀ {ls : List (List (List Int))} {l : List (List Int)} {m : Nat}, Lays ls m → (1 ≤ l.length ∧ l.length ≤ 64) → (∀ r ∈ l, r.length = m + total ls ∧ ∀ x ∈ r, short x = true) → Lays (ls ++ [l]) m
  | [], l, m, _, h1, h2 => ⟨h1, fun r hr => by simpa [total] using h2 r hr, trivial⟩
  | l' :: ls, l, m, q, h1, h2 => ⟨q.1, q.2.1, lays_snoc q.2.2 h1 fun r hr => ⟨by rw [(h2 r hr).1]; simp [total]; omega, (h2 r hr).2⟩⟩
theorem net_snoc {n : Nat} {ls : List (List (List Int))} {u la : List Int} (N : IsNet n ls u) (hd : ls.length ≤ 3) (ht : total ls ≤ 127) (hl : la.length = n + total ls + 1) (hs : ∀ x ∈ la, short x = true) : IsNet n (ls ++ [[u]]) la := by
  refine ⟨N.lo, N.hi, by simp; omega, lays_snoc N.lays (by simp) (fun r hr => ?_), by rw [total_snoc]; simp; omega, by rw [total_snoc]; simp; omega, hs⟩
  have : r = u := by simpa using hr
  subst this
  exact ⟨N.len, N.short⟩
theorem short1 : short 1 = true := by decide +kernel
theorem net_ramped {n : Nat} {ls : List (List (List Int))} {la : List Int} (N : Small n ls la) : IsNet n (ls ++ [[la]]) (zeros la.length ++ [1]) := by
  refine net_snoc N.toIsNet N.dep (by have := total_small N; omega) (by simp [zeros, N.len]) fun x hx => ?_
  rcases List.mem_append.mp hx with hx | hx
  · rw [List.eq_of_mem_replicate hx]; exact short0
  · have : x = 1 := by simpa using hx
    subst this; exact short1
theorem net_greater {n : Nat} {l1 l2 : List (List (List Int))} {a1 a2 : List Int} (N1 : Small n l1 a1) (N2 : Small n l2 a2) : IsNet n (beside n l1 l2 ++ [[lastSub n l1 l2 a1 a2]]) (spread true n (sizesN l1 l2) a2 ++ [1]) := by
  obtain ⟨e1, e2⟩ := last_len N1.toIsNet N2.toIsNet
  have M : IsNet n (beside n l1 l2) (lastSub n l1 l2 a1 a2) := by
    refine net_beside N1 N2 (by unfold lastSub; rw [List.length_zipWith, e1, e2, Nat.min_self]) fun x hx => ?_
    obtain ⟨y, hy, z, hz, rfl⟩ := zipWith_mem hx
    have b1 := spread_bd N1.bd y hy
    have b2 := spread_bd N2.bd z hz
    unfold Bd at b1 b2
    exact short_of (b := 20) (by omega) (by decide)
  refine net_snoc M ?_ ?_ (by rw [List.length_append, e2]; rfl) fun x hx => ?_
  · have := N1.dep; have := N2.dep; simp [beside]; omega
  · rw [beside_total]; have := total_small N1; have := total_small N2; omega
  · rcases List.mem_append.mp hx with hx | hx
    · exact (spread_bd N2.bd x hx).short
    · have : x = 1 := by simpa using hx
      subst this; exact short1
/-! what they tell -/
theorem val_added {n : Nat} {l1 l2 : List (List (List Int))} {a1 a2 x : List Int} (N1 : IsNet n l1 a1) (N2 : IsNet n l2 a2) (hx : x.length = n) : told (lastAdd n l1 l2 a1 a2) (numbers (beside n l1 l2) x) = told a1 (numbers l1 x) + told a2 (numbers l2 x) := by
  obtain ⟨e1, e2⟩ := last_len N1 N2
  obtain ⟨t1, t2⟩ := told_beside N1 N2 hx
  unfold lastAdd
  rw [told_add (by rw [e1, e2]), t1, t2]
theorem numbers_snoc (ls : List (List (List Int))) (u x : List Int) : numbers (ls ++ [[u]]) x = numbers ls x ++ [max 0 (told u (numbers ls x))] := by
  rw [numbers_append]; rfl
theorem val_ramped {n : Nat} {ls : List (List (List Int))} {la x : List Int} (N : IsNet n ls la) (hx : x.length = n) : told (zeros la.length ++ [1]) (numbers (ls ++ [[la]]) x) = max 0 (told la (numbers ls x)) := by
  rw [numbers_snoc, told_append (by rw [numbers_len, hx]; simp [zeros, N.len]), told_zeros, told_one]
  omega
theorem val_greater {n : Nat} {l1 l2 : List (List (List Int))} {a1 a2 x : List Int} (N1 : IsNet n l1 a1) (N2 : IsNet n l2 a2) (hx : x.length = n) :
    told (spread true n (sizesN l1 l2) a2 ++ [1]) (numbers (beside n l1 l2 ++ [[lastSub n l1 l2 a1 a2]]) x) = max (told a1 (numbers l1 x)) (told a2 (numbers l2 x)) := by
  obtain ⟨e1, e2⟩ := last_len N1 N2
  obtain ⟨t1, t2⟩ := told_beside N1 N2 hx
  rw [numbers_snoc, told_append (by rw [numbers_len, hx, e2]), told_one, t2]
  unfold lastSub
  rw [told_sub (by rw [e1, e2]), t1, t2]
  omega
/-! the law's own spreading -/
def lspr (side : Bool) : List (Nat × Nat) → List Int → List Int
  | [], _ => []
  | (a, b) :: ss, r => if side = true then zeros a ++ (r.take b ++ (zeros (b - r.length) ++ lspr side ss (r.drop b))) else r.take a ++ (zeros (a - r.length) ++ (zeros b ++ lspr side ss (r.drop a)))
def lspread (side : Bool) (n : Nat) (ss : List (Nat × Nat)) (r : List Int) : List Int := r.take n ++ lspr side ss (r.drop n)
theorem lspr_eq (side : Bool) : ∀ {ss : List (Nat × Nat)} {r : List Int}, r.length = (ss.map (sel side)).sum → lspr side ss r = spr side ss r
  | [], _, _ => rfl
  | (a, b) :: ss, r, h => by
    cases side with
    | true =>
      have hl : r.length = b + (ss.map (sel true)).sum := by simpa [sel] using h
      have ih := lspr_eq true (ss := ss) (r := r.drop b) (by simp; omega)
      have e : b - r.length = 0 := by omega
      simp [spr, lspr, ih, e, zeros]
    | false =>
      have hl : r.length = a + (ss.map (sel false)).sum := by simpa [sel] using h
      have ih := lspr_eq false (ss := ss) (r := r.drop a) (by simp; omega)
      have e : a - r.length = 0 := by omega
      simp [spr, lspr, ih, e, zeros]
theorem lspr_app (side : Bool) : ∀ (s1 s2 : List (Nat × Nat)) (r : List Int), lspr side (s1 ++ s2) r = lspr side s1 r ++ lspr side s2 (r.drop (s1.map (sel side)).sum)
  | [], s2, r => by simp [lspr]
  | (a, b) :: s1, s2, r => by
    cases side with
    | true =>
      have ih := lspr_app true s1 s2 (r.drop b)
      simp [lspr, ih, sel, List.drop_drop]
    | false =>
      have ih := lspr_app false s1 s2 (r.drop a)
      simp [lspr, ih, sel, List.drop_drop]
theorem lspr_len (side : Bool) : ∀ (ss : List (Nat × Nat)) (r : List Int), (lspr side ss r).length = (ss.map fun p => p.1 + p.2).sum
  | [], _ => rfl
  | (a, b) :: ss, r => by
    cases side with
    | true =>
      have ih := lspr_len true ss (r.drop b)
      simp [lspr, ih, zeros]; omega
    | false =>
      have ih := lspr_len false ss (r.drop a)
      simp [lspr, ih, zeros]; omega
/-- a row of the layer k, spread over all and cut -/
theorem lspread_cut {side : Bool} {n k : Nat} {ss : List (Nat × Nat)} {r : List Int} (h : r.length = n + ((ss.take k).map (sel side)).sum) : (lspread side n ss r).take (n + ((ss.take k).map fun p => p.1 + p.2).sum) = spread side n (ss.take k) r := by
  have e : lspread side n ss r = (r.take n ++ lspr side (ss.take k) (r.drop n)) ++ lspr side (ss.drop k) ((r.drop n).drop ((ss.take k).map (sel side)).sum) := by
    unfold lspread
    conv => lhs; rw [← List.take_append_drop k ss]
    rw [lspr_app, List.append_assoc]
  have hl : (r.take n ++ lspr side (ss.take k) (r.drop n)).length = n + ((ss.take k).map fun p => p.1 + p.2).sum := by
    rw [List.length_append, lspr_len]; simp; omega
  rw [e, ← hl, List.take_left, lspr_eq side (by rw [List.length_drop]; omega)]
  rfl
theorem lspread_eq {side : Bool} {n : Nat} {ss : List (Nat × Nat)} {r : List Int} (h : r.length = n + (ss.map (sel side)).sum) : lspread side n ss r = spread side n ss r := by
  unfold lspread spread
  rw [lspr_eq side (by simp; omega)]
theorem lspr_snoc (side : Bool) (ss : List (Nat × Nat)) (p : Nat × Nat) (r : List Int) : lspr side (ss ++ [p]) r =
    lspr side ss r ++ (if side = true then zeros p.1 ++ (((r.drop (ss.map (sel side)).sum).take p.2) ++ zeros (p.2 - (r.drop (ss.map (sel side)).sum).length)) else ((r.drop (ss.map (sel side)).sum).take p.1) ++ (zeros (p.1 - (r.drop (ss.map (sel side)).sum).length) ++ zeros p.2)) := by
  rw [lspr_app]
  cases side <;> simp [lspr]
end K20


set_option Elab.async false
set_option linter.all false
set_option maxRecDepth 100000
set_option maxHeartbeats 4000000
namespace K20
open PySem PySem.Spec PyProof.Rows L2 SlX StX DL
section
variable {P : Program} {w : World} {K : PySem.W.Frag} {mg : Str → Option Value} {base : Heap} {C : Addr}
theorem ixN_nat' {p m : Nat} (h : p < m) : ixN m (p : Int) = some p := by
  unfold ixN
  simp [h]
theorem ok_layer_at (a : At K mg "layer_at" s_layer_at) (T : TxC K mg C) : FnD P w K mg base "layer_at" 15 (d_layer_at C) := by
  refine fnD_of a (b_layer_at T) sc_layer_at (fun _ _ _ _ _ _ us hl => match us, hl with | [_, _], _ => rfl) ?_ ?_
  · rintro ds μ k ⟨n, ls, la, a, rfl, _⟩; rfl
  · rintro ds μ k ⟨n, ls, la, a, rfl, h⟩
    simp [r_layer_at]
    split
    · rename_i hl
      refine ⟨layerD ls[a], ?_, ?_⟩
      · unfold atI
        rw [List.length_map, ixN_nat' hl]
        simp
        rw [List.getElem?_eq_getElem hl]
        simp
      · rw [ly_lt hl] at h
        exact h
    · rename_i hl
      rw [ly_ge (by omega)] at h
      exact h
theorem ok_sizes_of (a : At K mg "sizes_of" s_sizes_of) (F : FnD P w K mg base "layer_at" 15 (d_layer_at C)) (T : TxC K mg C) : FnD P w K mg base "sizes_of" 16 (d_sizes_of C) := by
  refine fnD_of a (b_sizes_of F T) sc_sizes_of (fun _ _ _ _ _ _ us hl => match us, hl with | [_, _], _ => rfl) ?_ ?_
  · rintro ds μ k ⟨n, l1, a1, m, l2, a2, rfl, _⟩; rfl
  · rintro ds μ k ⟨n, l1, a1, m, l2, a2, rfl, h1, h2, h⟩
    simp [r_sizes_of]
    have e : (if l1.length < l2.length then (l2.length : Int) else (l1.length : Int)) = ((max l1.length l2.length : Nat) : Int) := by
      split <;> omega
    rw [e]
    refine ⟨⟨by omega, by omega⟩, ?_⟩
    rw [Int.toNat_natCast]
    refine lcW_map (List.range (max l1.length l2.length)) (fun i : Nat => .int (0 + (i : Nat))) (fun a => pairD ((ly l1 a).length, (ly l2 a).length)) (.r 0 _) (by simp; omega) (fun a ha kt kf hk => ?_) ?_
    · simp
      refine ⟨n, l1, a1, a, by simp, ?_⟩
      simp
      refine ⟨m, l2, a2, a, by simp, ?_⟩
      simp
      exact hk
    · simpa [sizesN, List.map_map, Function.comp_def] using h
theorem cut_both (xs : List Int) (i j : Nat) : DL.cutD (intsD xs) (some (i : Int)) (some (j : Int)) = intsD ((xs.drop i).take (j - i)) := by
  unfold DL.cutD
  rw [HT.sIx_nat, HT.sIx_nat]
  simp only [intsD, List.length_map, ← List.map_drop, ← List.map_take]
  congr 1
  by_cases hi : i ≤ xs.length
  · by_cases hj : j ≤ xs.length
    · rw [Nat.min_eq_left hi, Nat.min_eq_left hj]
    · rw [Nat.min_eq_left hi, Nat.min_eq_right (by omega)]
      rw [List.take_of_length_le (by simp), List.take_of_length_le (by simp; omega)]
  · rw [Nat.min_eq_right (by omega : xs.length ≤ i), List.drop_of_length_le (Nat.le_refl _), List.drop_of_length_le (by omega)]
    simp
theorem cut_take (la : List Int) (n : Nat) : DL.cutD (intsD la) none (some (n : Int)) = intsD (la.take n) := by
  unfold DL.cutD
  have e0 : HT.sIx (intsD la).length 0 none = 0 := rfl
  rw [e0, HT.sIx_nat, List.drop_zero, Nat.sub_zero]
  simp only [intsD, List.length_map, ← List.map_take]
  congr 1
  by_cases h : n ≤ la.length
  · rw [Nat.min_eq_left h]
  · rw [Nat.min_eq_right (by omega), List.take_of_length_le (Nat.le_refl _), List.take_of_length_le (by omega)]
/-- after some pairs: what is found, where the reading stands -/
theorem spr_snoc (side : Bool) : ∀ (ss : List (Nat × Nat)) (p : Nat × Nat) (r : List Int), spr side (ss ++ [p]) r =
    spr side ss r ++ (if side = true then zeros p.1 ++ (r.drop (ss.map fun q => if side = true then q.2 else q.1).sum).take p.2 else (r.drop (ss.map fun q => if side = true then q.2 else q.1).sum).take p.1 ++ zeros p.2)
  | [], p, r => by cases side <;> simp [spr]
  | (a, b) :: ss, p, r => by
    have ih := spr_snoc side ss p (r.drop (if side = true then b else a))
    cases side <;> simp_all [spr, List.drop_drop]
theorem sel_sum {side : Bool} : ∀ {ss : List (Nat × Nat)}, (∀ s ∈ ss, s.1 ≤ 64 ∧ s.2 ≤ 64) → (ss.map (sel side)).sum ≤ 64 * ss.length
  | [], _ => by simp
  | s :: ss, h => by
    have h1 := h s (by simp)
    have ih := sel_sum (side := side) (ss := ss) (fun t ht => h t (List.mem_cons_of_mem _ ht))
    simp only [List.map_cons, List.sum_cons, List.length_cons]
    have : sel side s ≤ 64 := by unfold sel; split <;> omega
    omega
theorem spr_len {side : Bool} : ∀ {ss : List (Nat × Nat)} {r : List Int}, (∀ s ∈ ss, s.1 ≤ 64 ∧ s.2 ≤ 64) → (spr side ss r).length ≤ 128 * ss.length
  | [], _, _ => by simp [spr]
  | (a, b) :: ss, r, h => by
    have h1 := h (a, b) (by simp)
    have ih := fun r => spr_len (side := side) (ss := ss) (r := r) (fun t ht => h t (List.mem_cons_of_mem _ ht))
    have i1 := ih (r.drop a)
    have i2 := ih (r.drop b)
    simp only [spr, List.length_cons]
    split
    · simp [zeros]; omega
    · simp [zeros]; omega
theorem ok_spread (a : At K mg "spread" s_spread) (T : TxC K mg C) : FnD P w K mg base "spread" 17 d_spread := by
  refine fnD_ofW a (b_spread T) sc_spread (fun _ _ _ _ _ _ us hl => match us, hl with | [_, _, _, _], _ => rfl) ?_ ?_
  · rintro ds μ k ⟨r, n, ss, side, rfl, _⟩; rfl
  · rintro ds μ k ⟨r, n, ss, side, rfl, hs, hl, hr, h⟩
    unfold r_spread
    refine seq_gen fun NX hNX => ?_
    simp
    intro q hq
    rw [cut_take]
    subst hNX
    refine seq_gen fun NX hNX => ?_
    refine for_inv ss pairD (fun i δ μ' => ∃ x4 x7 x8, δ = [some (rowD r), some (.int (n : Nat)), some (.lst (ss.map pairD)), some (.int (sideN side)), x4, some (.own q), some (.int ((n + ((ss.take i).map (sel side)).sum : Nat) : Int)), x7, x8] ∧ Sub μ μ' ∧ μ' q = some (intsD (r.take n ++ spr side (ss.take i) (r.drop n)))) (fun kk hk => ?_) (fun i p δ μ' hp z => ?_) (fun δ μ' z => ?_)
    · simp
      exact hk _ _ (.l _) ⟨none, none, none, by simp, Sub.set hq, by rw [muSet_same]; simp [spr, intsD]⟩ (fun _ _ _ _ => trivial)
    · obtain ⟨x4, x7, x8, rfl, hsub, hm⟩ := z
      have hp' := hs p (List.mem_of_getElem? hp)
      have hoff := sel_sum (side := side) (ss := ss.take i) (fun t ht => hs t (List.mem_of_mem_take ht))
      have hsl := spr_len (side := side) (ss := ss.take i) (r := r.drop n) (fun t ht => hs t (List.mem_of_mem_take ht))
      have hil : (ss.take i).length ≤ 4 := by rw [List.length_take]; omega
      have hsp := spr_snoc side (ss.take i) p (r.drop n)
      have hts := take_succ_of hp
      have hsum : (((ss.take (i + 1)).map (sel side)).sum) = ((ss.take i).map (sel side)).sum + sel side p := by rw [hts, List.map_append, List.sum_append]; simp
      rw [← hts] at hsp
      have hsp : spr side (ss.take (i + 1)) (r.drop n) = spr side (ss.take i) (r.drop n) ++ (if side = true then zeros p.1 ++ ((r.drop n).drop ((ss.take i).map (sel side)).sum).take p.2 else ((r.drop n).drop ((ss.take i).map (sel side)).sum).take p.1 ++ zeros p.2) := hsp
      rw [hsp, hsum]
      generalize ((ss.take i).map (sel side)).sum = o at hoff ⊢
      generalize spr side (ss.take i) (r.drop n) = S at hsl hm ⊢
      simp only [rgName, List.set_cons_succ, List.set_cons_zero]
      clear hNX hsp hsum hts
      refine seq_gen fun NX hNX => ?_
      simp [pairD]
      have eS : atI [D.int (p.1 : Nat), D.int (p.2 : Nat)] (sideN side) = some (.int ((sel side p : Nat) : Int)) := by cases side <;> rfl
      have eG : atI [D.int (p.1 : Nat), D.int (p.2 : Nat)] (1 - sideN side) = some (.int ((sel (!side) p : Nat) : Int)) := by cases side <;> rfl
      have sG : sel (!side) p ≤ 64 := by unfold sel; split <;> omega
      have sS : sel side p ≤ 64 := by unfold sel; split <;> omega
      refine ⟨_, eS, _, eG, _, rfl, by omega, by omega, ?_⟩
      have ec : DL.cutD (intsD r) (some ((n : Int) + (o : Nat))) (some ((n : Int) + (o : Nat) + ((sel side p : Nat) : Int))) = intsD ((r.drop (n + o)).take (sel side p)) := by
        have := cut_both r (n + o) (n + o + sel side p)
        rw [Nat.add_sub_cancel_left] at this
        rw [← this]
        congr 2 <;> simp
      rw [ec]
      subst hNX
      refine seq_gen fun NX hNX => ?_
      simp [hm]
      have hS : S.length ≤ 512 := by omega
      have hone : (sideN side = 0 ↔ side = false) := by cases side <;> simp [sideN]
      subst hNX
      have e0 : ((sel side p : Nat) : Int) = ((sel side p : Nat) : Int) := rfl
      cases side with
      | false =>
        rw [if_pos (by rfl)]
        refine ⟨by omega, by omega, ?_⟩
        simp
        refine ⟨_, eS, by omega, Sub.upd hsub hq, ?_⟩
        rw [muSet_same]
        simp [zeros, sel]
      | true =>
        rw [if_neg (by decide)]
        refine ⟨by omega, by omega, ?_⟩
        simp
        refine ⟨_, eS, by omega, Sub.upd hsub hq, ?_⟩
        rw [muSet_same]
        simp [zeros, sel]
    · obtain ⟨x4, x7, x8, rfl, hsub, hm⟩ := z
      rw [List.take_length] at hm
      subst hNX
      simp [hm]
      have hsl := spr_len (side := side) (ss := ss) (r := r.drop n) hs
      refine ⟨μ, hsub, ?_⟩
      have e : D.tup (List.take n (List.map D.int r) ++ List.map D.int (spr side ss (List.drop n r))) = rowD (spread side n ss r) := by simp [spread]
      rw [e]
      exact h
end
end K20


set_option Elab.async false
set_option linter.all false
set_option maxRecDepth 100000
set_option maxHeartbeats 4000000
namespace K20
open PySem PySem.Spec PyProof.Rows L2 SlX StX DL
section
variable {P : Program} {w : World} {K : PySem.W.Frag} {mg : Str → Option Value} {base : Heap} {C : Addr}
theorem cut_takeD (ds : List D) (i : Nat) : DL.cutD ds none (some (i : Int)) = ds.take i := by
  unfold DL.cutD
  have e0 : HT.sIx ds.length 0 none = 0 := rfl
  rw [e0, HT.sIx_nat, List.drop_zero, Nat.sub_zero]
  by_cases h : i ≤ ds.length
  · rw [Nat.min_eq_left h]
  · rw [Nat.min_eq_right (by omega), List.take_of_length_le (Nat.le_refl _), List.take_of_length_le (by omega)]
theorem ly_le {ls : List (List (List Int))} {n : Nat} (L : Lays ls n) (k : Nat) : (ly ls k).length ≤ 64 := by
  by_cases h : k < ls.length
  · rw [ly_lt h]; exact (lays_at L (List.getElem?_eq_getElem h)).1.2
  · rw [ly_ge (by omega)]; simp
theorem sizes_small {l1 l2 : List (List (List Int))} {n : Nat} (h1 : Lays l1 n) (h2 : Lays l2 n) : ∀ s ∈ sizesN l1 l2, s.1 ≤ 64 ∧ s.2 ≤ 64 := fun s hs => by
  obtain ⟨a, _, rfl⟩ := List.mem_map.mp hs
  exact ⟨ly_le h1 a, ly_le h2 a⟩
theorem sizes_len (l1 l2 : List (List (List Int))) : (sizesN l1 l2).length = max l1.length l2.length := by simp [sizesN]
theorem ok_beside (a : At K mg "beside" s_beside) (F1 : FnD P w K mg base "sizes_of" 16 (d_sizes_of C)) (F2 : FnD P w K mg base "layer_at" 15 (d_layer_at C)) (F3 : FnD P w K mg base "spread" 17 d_spread) (T : TxC K mg C) : FnD P w K mg base "beside" 18 (d_beside C) := by
  refine fnD_of a (b_beside F1 F2 F3 T) sc_beside (fun _ _ _ _ _ _ us hl => match us, hl with | [_, _], _ => rfl) ?_ ?_
  · rintro ds μ k ⟨n, l1, a1, l2, a2, rfl, _⟩; rfl
  · rintro ds μ k ⟨n, l1, a1, l2, a2, rfl, N1, N2, h⟩
    have f1 := N1.few
    have f2 := N2.few
    have hi := N1.hi
    have hz := sizes_small N1.lays N2.lays
    have zl := sizes_len l1 l2
    simp [r_beside]
    refine ⟨n, l1, a1, n, l2, a2, by simp, f1, f2, ?_⟩
    intro p hp
    refine for_inv (List.range (max l1.length l2.length)) (fun i : Nat => .int (0 + (i : Nat))) (fun i δ μ' => μ' = muSet μ p (((beside n l1 l2).take i).map layerD) ∧ ∃ x2 x5 x6, δ = [some (netD C n l1 a1), some (netD C n l2 a2), x2, some (.lst ((sizesN l1 l2).map pairD)), some (.own p), x5, x6]) (fun kk hk => ?_) (fun i l δ μ' hl q => ?_) (fun δ μ' q => ?_)
    · simp
      refine ⟨by omega, ?_⟩
      rw [zl]
      exact hk _ _ (.r 0 _) ⟨by simp, none, none, none, rfl⟩ (fun _ _ _ _ => trivial)
    · obtain ⟨rfl, x2, x5, x6, rfl⟩ := q
      have hi' : i < max l1.length l2.length := by
        by_cases hi' : i < max l1.length l2.length
        · exact hi'
        · rw [List.getElem?_eq_none (by simp; omega)] at hl; cases hl
      have : l = i := by rw [List.getElem?_range hi'] at hl; cases hl; rfl
      subst this
      refine seq_gen fun NX hNX => ?_
      simp
      refine ⟨n, l1, a1, l, by simp, ?_⟩
      simp
      have tz : ∀ s ∈ (sizesN l1 l2).take l, s.1 ≤ 64 ∧ s.2 ≤ 64 := fun s hs => hz s (List.mem_of_mem_take hs)
      have tl : ((sizesN l1 l2).take l).length ≤ 4 := by rw [List.length_take]; omega
      have t1 := N1.tot
      have t2 := N2.tot
      have u1 := total_le (ls := l1) l
      have u2 := total_le (ls := l2) l
      refine lcW_map (ly l1 l) rowD (fun u => rowD (spread false n ((sizesN l1 l2).take l) u)) (.l _) (by have := ly_le N1.lays l; omega) (fun u hu kt kf hk => ?_) ?_
      · simp
        refine ⟨u, n, (sizesN l1 l2).take l, false, ?_, tz, tl, ?_, hk⟩
        · rw [cut_takeD, List.map_take]; rfl
        · rw [(ly_short N1.lays hu).1]; omega
      subst hNX
      simp
      refine ⟨by rw [muSet_same]; simp, n, l2, a2, l, by simp, ?_⟩
      simp
      refine lcW_map (ly l2 l) rowD (fun u => rowD (spread true n ((sizesN l1 l2).take l) u)) (.l _) (by have := ly_le N2.lays l; omega) (fun u hu kt kf hk => ?_) ?_
      · simp
        refine ⟨u, n, (sizesN l1 l2).take l, true, ?_, tz, tl, ?_, hk⟩
        · rw [cut_takeD, List.map_take]; rfl
        · rw [(ly_short N2.lays hu).1]; omega
      simp [muSet_same]
      refine ⟨by have := ly_le N1.lays l; have := ly_le N2.lays l; omega, by omega, ?_⟩
      rw [muSet_set]
      congr 1
      have hk : l < (beside n l1 l2).length := by simpa [beside] using hi'
      have e : (beside n l1 l2)[l] = (ly l1 l).map (spread false n ((sizesN l1 l2).take l)) ++ (ly l2 l).map (spread true n ((sizesN l1 l2).take l)) := by simp [beside]
      rw [← List.map_take, ← List.map_take, take_succ_of (List.getElem?_eq_getElem hk), e]
      simp
      rfl
    · obtain ⟨rfl, x2, x5, x6, rfl⟩ := q
      rw [List.take_of_length_le (by simp [beside])]
      simp [muSet_same]
      rw [muDel_set, muDel_none hp]
      exact h
theorem ok_last_rows (a : At K mg "last_rows" s_last_rows) (F1 : FnD P w K mg base "sizes_of" 16 (d_sizes_of C)) (F3 : FnD P w K mg base "spread" 17 d_spread) (T : TxC K mg C) : FnD P w K mg base "last_rows" 19 (d_last_rows C) := by
  refine fnD_of a (b_last_rows F1 F3 T) sc_last_rows (fun _ _ _ _ _ _ us hl => match us, hl with | [_, _], _ => rfl) ?_ ?_
  · rintro ds μ k ⟨n, l1, a1, l2, a2, rfl, _⟩; rfl
  · rintro ds μ k ⟨n, l1, a1, l2, a2, rfl, N1, N2, h⟩
    have f1 := N1.few
    have f2 := N2.few
    have hi := N1.hi
    have hz := sizes_small N1.lays N2.lays
    have zl := sizes_len l1 l2
    have t1 := N1.tot
    have t2 := N2.tot
    have e1 := N1.len
    have e2 := N2.len
    simp [r_last_rows]
    refine ⟨n, l1, a1, n, l2, a2, by simp, f1, f2, ?_⟩
    refine ⟨a1, n, sizesN l1 l2, false, rfl, hz, by omega, by omega, ?_⟩
    exact ⟨a2, n, sizesN l1 l2, true, rfl, hz, by omega, by omega, h⟩
theorem any_false {α : Type} {f : α → Bool} {xs : List α} (h : ∀ x ∈ xs, f x = false) : xs.any f = false := by
  rw [List.any_eq_false]
  intro x hx
  simp [h x hx]
theorem sum_len (ls : List (List (List Int))) : (ls.map fun l => (l.length : Int)).sum = (total ls : Int) := by
  induction ls with
  | nil => rfl
  | cons l ls ih => simp only [List.map_cons, List.sum_cons, ih, total]; omega
theorem flat_le {α β : Type} {b : Nat} {g : α → List β} : ∀ {xs : List α}, (∀ x ∈ xs, (g x).length ≤ b) → (xs.flatMap g).length ≤ b * xs.length
  | [], _ => by simp
  | x :: xs, h => by
    have h1 := h x (by simp)
    have ih := flat_le (xs := xs) (g := g) (b := b) (fun y hy => h y (List.mem_cons_of_mem _ hy))
    simp only [List.flatMap_cons, List.length_append, List.length_cons, Nat.mul_add]
    omega
theorem short_abs {x : Int} (h : short x = true) : ¬ (sixty ≤ (if x < 0 then -x else x)) := by
  rw [short_iff] at h
  split <;> omega
theorem src_zip {μ : Mu} (xs ys : List Int) : Src (itZ (rowD xs) (rowD ys) (intsD xs) (intsD ys)) μ ((xs.zip ys).map fun q => D.tup [.int q.1, .int q.2]) := by
  have sz := Src.z (μ := μ) (x := rowD xs) (y := rowD ys) (xs := intsD xs) (ys := intsD ys) rfl rfl
  have e : ((xs.map D.int).zip (ys.map D.int)).map (fun q => D.tup [q.1, q.2]) = (xs.zip ys).map fun q => .tup [.int q.1, .int q.2] := by
    rw [List.zip_map, List.map_map]; rfl
  rw [e] at sz
  exact sz
theorem ok_need_sizes (a : At K mg "need_sizes" s_need_sizes) (T : TxC K mg C) : FnD P w K mg base "need_sizes" 20 d_need_sizes := by
  refine fnD_of a (b_need_sizes T) sc_need_sizes (fun _ _ _ _ _ _ us hl => match us, hl with | [_, _], _ => rfl) ?_ ?_
  · rintro ds μ k ⟨d, n, ls, la, rfl, _⟩; rfl
  · rintro ds μ k ⟨d, n, ls, la, rfl, hd, N, h⟩
    have f1 := N.few
    have hi := N.hi
    have t1 := N.tot
    have hn : ¬ (4 : Int) < (ls.length : Nat) := by omega
    have fr := flat_rows N.lays
    have fl := flat_len ls
    have e2 : ls.flatten.map rowD ++ [rowD la] = (ls.flatten ++ [la]).map rowD := by simp
    have hR1 : ∀ r ∈ ls.flatten ++ [la], r.length ≤ 200 ∧ ∀ x ∈ r, short x = true := fun r hr => by
      rcases List.mem_append.mp hr with hr | hr
      · obtain ⟨h1, h2⟩ := fr r hr
        exact ⟨by omega, h2⟩
      · have : r = la := by simpa using hr
        subst this
        exact ⟨by rw [N.len]; omega, N.short⟩
    have hR2 : (ls.flatten ++ [la]).length ≤ 200 := by rw [List.length_append, fl]; simp; omega
    unfold r_need_sizes
    rcases hd with rfl | rfl
    · refine seq_gen fun NX hNX => ?_
      simp [hn]
      refine ⟨by omega, ?_⟩
      subst hNX
      refine seq_gen fun NX hNX => ?_
      simp
      refine lcW_map ls layerD (fun l => .bl (decide (64 < (l.length : Int)))) (.l _) (by omega) (fun l hl kt kf hk => ?_) ?_
      · simp
        exact hk
      refine any_of (f := fun l : List (List Int) => decide (64 < (l.length : Int))) rfl ?_
      rw [any_false (fun l hl => by have := (lays_mem N.lays hl).2; simp; omega)]
      simp
      subst hNX
      refine seq_gen fun NX hNX => ?_
      simp
      refine lcW_map ls layerD (fun l => .int (l.length : Int)) (.l _) (by omega) (fun l hl kt kf hk => ?_) ?_
      · simp
        exact hk
      refine sum_of (f := fun l : List (List Int) => (l.length : Int)) rfl ?_
      rw [sum_len]
      simp
      refine ⟨by omega, ?_⟩
      subst hNX
      refine seq_gen fun NX hNX => ?_
      simp
      refine lc2_map ls layerD (fun l => l.map rowD) (.l _) (by omega) (fun l hl acc kt kf hacc hk => ?_) ?_
      · obtain ⟨i, rfl, hi⟩ := hacc
        simp
        refine inW_map l rowD rowD (.l _) ?_ (fun r hr kt kf h => ?_) ?_
        · have h3 := total_le (ls := ls) (i + 1)
          rw [total_take_succ hi] at h3
          have : ((ls.take i).flatMap fun l => l.map rowD).length = total (ls.take i) := by
            simp [total, List.length_flatMap]
          rw [this]; omega
        · simpa using h
        · exact hk
      have e : (ls.flatMap fun l => l.map rowD) = ls.flatten.map rowD := by rw [List.map_flatten]; rfl
      rw [e]
      refine ⟨by rw [List.length_map, fl]; omega, ?_⟩
      subst hNX
      rw [e2]
      generalize ls.flatten ++ [la] = R at hR1 hR2 ⊢
      simp
      refine lc2_map R rowD (fun r => r.map fun x => .bl (decide (sixty ≤ (if x < 0 then -x else x)))) (.l _) (by omega) (fun r hr acc kt kf hacc hk => ?_) ?_
      · obtain ⟨i, rfl, hi⟩ := hacc
        simp
        refine inW_map r D.int (fun x => .bl (decide (sixty ≤ (if x < 0 then -x else x)))) (.l _) ?_ (fun x hx kt kf h => ?_) ?_
        · have h3 := (hR1 r hr).1
          have h4 := flat_le (xs := R.take i) (g := fun r : List Int => r.map fun x => D.bl (decide (sixty ≤ (if x < 0 then -x else x)))) (b := 200) (fun y hy => by rw [List.length_map]; exact (hR1 y (List.mem_of_mem_take hy)).1)
          have h5 : (R.take i).length ≤ 200 := by rw [List.length_take]; omega
          omega
        · simpa using h
        · exact hk
      have e : (R.flatMap fun r => r.map fun x => D.bl (decide (sixty ≤ (if x < 0 then -x else x)))) = R.flatten.map fun x => D.bl (decide (sixty ≤ (if x < 0 then -x else x))) := by rw [List.map_flatten]; rfl
      rw [e]
      refine any_of (f := fun x : Int => decide (sixty ≤ (if x < 0 then -x else x))) rfl ?_
      rw [any_false (fun x hx => by
        obtain ⟨r, hr, hx⟩ := List.mem_flatten.mp hx
        simpa using short_abs ((hR1 r hr).2 x hx))]
      simpa using h
    · refine seq_gen fun NX hNX => ?_
      simp [hn]
      refine ⟨by omega, ?_⟩
      subst hNX
      refine seq_gen fun NX hNX => ?_
      simp
      refine lcW_map ls layerD (fun l => .bl (decide (64 < (l.length : Int)))) (.l _) (by omega) (fun l hl kt kf hk => ?_) ?_
      · simp
        exact hk
      refine any_of (f := fun l : List (List Int) => decide (64 < (l.length : Int))) rfl ?_
      rw [any_false (fun l hl => by have := (lays_mem N.lays hl).2; simp; omega)]
      simp
      subst hNX
      refine seq_gen fun NX hNX => ?_
      simp
      refine lcW_map ls layerD (fun l => .int (l.length : Int)) (.l _) (by omega) (fun l hl kt kf hk => ?_) ?_
      · simp
        exact hk
      refine sum_of (f := fun l : List (List Int) => (l.length : Int)) rfl ?_
      rw [sum_len]
      simp
      refine ⟨by omega, ?_⟩
      subst hNX
      refine seq_gen fun NX hNX => ?_
      simp
      refine lc2_map ls layerD (fun l => l.map rowD) (.l _) (by omega) (fun l hl acc kt kf hacc hk => ?_) ?_
      · obtain ⟨i, rfl, hi⟩ := hacc
        simp
        refine inW_map l rowD rowD (.l _) ?_ (fun r hr kt kf h => ?_) ?_
        · have h3 := total_le (ls := ls) (i + 1)
          rw [total_take_succ hi] at h3
          have : ((ls.take i).flatMap fun l => l.map rowD).length = total (ls.take i) := by
            simp [total, List.length_flatMap]
          rw [this]; omega
        · simpa using h
        · exact hk
      have e : (ls.flatMap fun l => l.map rowD) = ls.flatten.map rowD := by rw [List.map_flatten]; rfl
      rw [e]
      refine ⟨by rw [List.length_map, fl]; omega, ?_⟩
      subst hNX
      rw [e2]
      generalize ls.flatten ++ [la] = R at hR1 hR2 ⊢
      simp
      refine lc2_map R rowD (fun r => r.map fun x => .bl (decide (sixty ≤ (if x < 0 then -x else x)))) (.l _) (by omega) (fun r hr acc kt kf hacc hk => ?_) ?_
      · obtain ⟨i, rfl, hi⟩ := hacc
        simp
        refine inW_map r D.int (fun x => .bl (decide (sixty ≤ (if x < 0 then -x else x)))) (.l _) ?_ (fun x hx kt kf h => ?_) ?_
        · have h3 := (hR1 r hr).1
          have h4 := flat_le (xs := R.take i) (g := fun r : List Int => r.map fun x => D.bl (decide (sixty ≤ (if x < 0 then -x else x)))) (b := 200) (fun y hy => by rw [List.length_map]; exact (hR1 y (List.mem_of_mem_take hy)).1)
          have h5 : (R.take i).length ≤ 200 := by rw [List.length_take]; omega
          omega
        · simpa using h
        · exact hk
      have e : (R.flatMap fun r => r.map fun x => D.bl (decide (sixty ≤ (if x < 0 then -x else x)))) = R.flatten.map fun x => D.bl (decide (sixty ≤ (if x < 0 then -x else x))) := by rw [List.map_flatten]; rfl
      rw [e]
      refine any_of (f := fun x : Int => decide (sixty ≤ (if x < 0 then -x else x))) rfl ?_
      rw [any_false (fun x hx => by
        obtain ⟨r, hr, hx⟩ := List.mem_flatten.mp hx
        simpa using short_abs ((hR1 r hr).2 x hx))]
      simpa using h
theorem ok_made (a : At K mg "made" s_made) (F1 : FnD P w K mg base "need_sizes" 20 d_need_sizes) (M : MakD P w K mg base 7 "Network" C (spMk K C inm_Network)) (T : TxC K mg C) : FnD P w K mg base "made" 21 (d_made C) := by
  refine fnD_of a (b_made F1 M T) sc_made (fun _ _ _ _ _ _ us hl => match us, hl with | [_, _, _], _ => rfl) ?_ ?_
  · rintro ds μ k ⟨d, n, ls, la, rfl, _⟩; rfl
  · rintro ds μ k ⟨d, n, ls, la, rfl, hd, N, h⟩
    have f1 := N.few
    simp [r_made]
    refine ⟨d, n, ls, la, rfl, hd, N, ?_⟩
    rcases hd with rfl | rfl
    · simp
      exact ⟨_, ⟨n, ls, la, rfl, N, rfl⟩, h⟩
    · simp
      exact ⟨_, ⟨n, ls, la, rfl, N, rfl⟩, h⟩
theorem ok_added_in (a : At K mg "added_in" s_added_in) (F1 : FnD P w K mg base "last_rows" 19 (d_last_rows C)) (F2 : FnD P w K mg base "made" 21 (d_made C)) (F3 : FnD P w K mg base "beside" 18 (d_beside C)) (T : TxC K mg C) : FnD P w K mg base "added_in" 22 (d_added_in C) := by
  refine fnD_of a (b_added_in F1 F2 F3 T) sc_added_in (fun _ _ _ _ _ _ us hl => match us, hl with | [_, _], _ => rfl) ?_ ?_
  · rintro ds μ k ⟨n, l1, a1, l2, a2, rfl, _⟩; rfl
  · rintro ds μ k ⟨n, l1, a1, l2, a2, rfl, N1, N2, N3, h⟩
    simp [r_added_in]
    refine ⟨n, l1, a1, l2, a2, rfl, N1, N2, ?_⟩
    simp
    refine ⟨n, l1, a1, l2, a2, rfl, N1, N2, ?_⟩
    obtain ⟨e1, e2⟩ := last_len N1 N2
    have nl := N3.len
    have nt := N3.tot
    have hi := N1.hi
    unfold lastAdd at *
    generalize hs1 : spread false n (sizesN l1 l2) a1 = s1 at *
    generalize hs2 : spread true n (sizesN l1 l2) a2 = s2 at *
    refine lcW_map (s1.zip s2) (fun q => .tup [.int q.1, .int q.2]) (fun q => .int (q.1 + q.2)) (src_zip s1 s2) (by rw [List.length_zip]; omega) (fun q hq kt kf h1 => ?_) ?_
    · simpa using h1
    · refine ⟨_, n, beside n l1 l2, List.zipWith (fun x y => x + y) s1 s2, ?_, .inl rfl, N3, h⟩
      simp [rowD, intsD, List.zip, List.map_zipWith]
theorem ok_multiplied_in (a : At K mg "multiplied_in" s_multiplied_in) (F2 : FnD P w K mg base "made" 21 (d_made C)) (T : TxC K mg C) : FnD P w K mg base "multiplied_in" 23 (d_multiplied_in C) := by
  refine fnD_of a (b_multiplied_in F2 T) sc_multiplied_in (fun _ _ _ _ _ _ us hl => match us, hl with | [_, _], _ => rfl) ?_ ?_
  · rintro ds μ k ⟨n, ls, la, c, rfl, _⟩; rfl
  · rintro ds μ k ⟨n, ls, la, c, rfl, N, hc, N3, h⟩
    have hlen := N.len
    have ht := N.tot
    have hi := N.hi
    simp [r_multiplied_in]
    refine lcW_map la D.int (fun x => .int (c * x)) (.l _) (by omega) (fun x hx kt kf h1 => ?_) ?_
    · simp
      exact ⟨sm_mulW (sm_short hc) (sm_short (N.short x hx)) (by omega) (by omega) (by omega), h1⟩
    · refine ⟨_, n, ls, la.map fun x => c * x, ?_, .inr rfl, N3, h⟩
      simp [rowD, intsD]
theorem ok_ramped_in (a : At K mg "ramped_in" s_ramped_in) (F2 : FnD P w K mg base "made" 21 (d_made C)) (T : TxC K mg C) : FnD P w K mg base "ramped_in" 24 (d_ramped_in C) := by
  refine fnD_of a (b_ramped_in F2 T) sc_ramped_in (fun _ _ _ _ _ _ us hl => match us, hl with | [_], _ => rfl) ?_ ?_
  · rintro ds μ k ⟨n, ls, la, rfl, _⟩; rfl
  · rintro ds μ k ⟨n, ls, la, rfl, N, N3, h⟩
    have hlen := N.len
    have ht := N.tot
    have hi := N.hi
    have f1 := N.few
    simp [r_ramped_in]
    refine ⟨by omega, by omega, by omega, _, n, ls ++ [[la]], zeros la.length ++ [1], ?_, .inl rfl, N3, h⟩
    simp [zeros]
theorem ok_greater_in (a : At K mg "greater_in" s_greater_in) (F1 : FnD P w K mg base "last_rows" 19 (d_last_rows C)) (F2 : FnD P w K mg base "made" 21 (d_made C)) (F3 : FnD P w K mg base "beside" 18 (d_beside C)) (T : TxC K mg C) : FnD P w K mg base "greater_in" 25 (d_greater_in C) := by
  refine fnD_of a (b_greater_in F1 F2 F3 T) sc_greater_in (fun _ _ _ _ _ _ us hl => match us, hl with | [_, _], _ => rfl) ?_ ?_
  · rintro ds μ k ⟨n, l1, a1, l2, a2, rfl, _⟩; rfl
  · rintro ds μ k ⟨n, l1, a1, l2, a2, rfl, N1, N2, N3, h⟩
    simp [r_greater_in]
    refine ⟨n, l1, a1, l2, a2, rfl, N1, N2, ?_⟩
    obtain ⟨e1, e2⟩ := last_len N1 N2
    have nl := N3.len
    have nt := N3.tot
    have nf := N3.few
    have hi := N1.hi
    unfold lastSub at *
    generalize hs1 : spread false n (sizesN l1 l2) a1 = s1 at *
    generalize hs2 : spread true n (sizesN l1 l2) a2 = s2 at *
    simp
    refine lcW_map (s1.zip s2) (fun q => .tup [.int q.1, .int q.2]) (fun q => .int (q.1 - q.2)) (src_zip s1 s2) (by rw [List.length_zip]; rw [List.length_append] at nl; omega) (fun q hq kt kf h1 => ?_) ?_
    · simpa using h1
    · refine ⟨n, l1, a1, l2, a2, rfl, N1, N2, ?_⟩
      dsimp only
      rw [List.length_append] at nl
      rw [List.length_append] at nf
      refine ⟨_, rfl, by rw [List.length_map]; omega, by omega, _, n, beside n l1 l2 ++ [[List.zipWith (fun x y => x - y) s1 s2]], s2 ++ [1], ?_, .inl rfl, N3, h⟩
      simp [List.zip, List.map_zipWith]
theorem ok_require_two (a : At K mg "require_two" s_require_two) (F : FnD P w K mg base "require_network" 11 (d_require_network C)) (T : TxC K mg C) : FnD P w K mg base "require_two" 26 (d_require_two C) := by
  refine fnD_of a (b_require_two F T) sc_require_two (fun _ _ _ _ _ _ us hl => match us, hl with | [_, _], _ => rfl) ?_ ?_
  · rintro ds μ k ⟨n, l1, a1, l2, a2, rfl, _⟩; rfl
  · rintro ds μ k ⟨n, l1, a1, l2, a2, rfl, h⟩
    simp [r_require_two]
    refine ⟨n, l1, a1, rfl, n, l2, a2, rfl, ?_⟩
    simpa using h
theorem ok_added (a : At K mg "added" s_added) (F1 : FnD P w K mg base "require_two" 26 (d_require_two C)) (F2 : FnD P w K mg base "added_in" 22 (d_added_in C)) (T : TxC K mg C) : FnD P w K mg base "added" 27 (d_added C) := by
  refine fnD_of a (b_added F1 F2 T) sc_added (fun _ _ _ _ _ _ us hl => match us, hl with | [_, _], _ => rfl) ?_ ?_
  · rintro ds μ k ⟨n, l1, a1, l2, a2, rfl, _⟩; rfl
  · rintro ds μ k ⟨n, l1, a1, l2, a2, rfl, N1, N2, N3, h⟩
    simp [r_added]
    exact ⟨n, l1, a1, l2, a2, rfl, n, l1, a1, l2, a2, rfl, N1, N2, N3, h⟩
theorem ok_greater (a : At K mg "greater" s_greater) (F1 : FnD P w K mg base "require_two" 26 (d_require_two C)) (F2 : FnD P w K mg base "greater_in" 25 (d_greater_in C)) (T : TxC K mg C) : FnD P w K mg base "greater" 30 (d_greater C) := by
  refine fnD_of a (b_greater F1 F2 T) sc_greater (fun _ _ _ _ _ _ us hl => match us, hl with | [_, _], _ => rfl) ?_ ?_
  · rintro ds μ k ⟨n, l1, a1, l2, a2, rfl, _⟩; rfl
  · rintro ds μ k ⟨n, l1, a1, l2, a2, rfl, N1, N2, N3, h⟩
    simp [r_greater]
    exact ⟨n, l1, a1, l2, a2, rfl, n, l1, a1, l2, a2, rfl, N1, N2, N3, h⟩
theorem ok_ramped (a : At K mg "ramped" s_ramped) (F1 : FnD P w K mg base "require_network" 11 (d_require_network C)) (F2 : FnD P w K mg base "ramped_in" 24 (d_ramped_in C)) (T : TxC K mg C) : FnD P w K mg base "ramped" 29 (d_ramped C) := by
  refine fnD_of a (b_ramped F1 F2 T) sc_ramped (fun _ _ _ _ _ _ us hl => match us, hl with | [_], _ => rfl) ?_ ?_
  · rintro ds μ k ⟨n, l1, a1, rfl, _⟩; rfl
  · rintro ds μ k ⟨n, l1, a1, rfl, N1, N3, h⟩
    simp [r_ramped]
    exact ⟨n, l1, a1, rfl, n, l1, a1, rfl, N1, N3, h⟩
theorem ok_multiplied (a : At K mg "multiplied" s_multiplied) (F1 : FnD P w K mg base "require_network" 11 (d_require_network C)) (F3 : FnD P w K mg base "require_short" 10 d_require_short) (F2 : FnD P w K mg base "multiplied_in" 23 (d_multiplied_in C)) (T : TxC K mg C) : FnD P w K mg base "multiplied" 28 (d_multiplied C) := by
  refine fnD_of a (b_multiplied F1 F3 F2 T) sc_multiplied (fun _ _ _ _ _ _ us hl => match us, hl with | [_, _], _ => rfl) ?_ ?_
  · rintro ds μ k ⟨n, l1, a1, c, rfl, _⟩; rfl
  · rintro ds μ k ⟨n, l1, a1, c, rfl, N1, hc, N3, h⟩
    simp [r_multiplied]
    exact ⟨n, l1, a1, rfl, c, rfl, hc, n, l1, a1, c, rfl, N1, hc, N3, h⟩
end
end K20


set_option Elab.async false
set_option linter.all false
set_option maxRecDepth 100000
set_option maxHeartbeats 4000000
namespace K20
open PySem PySem.Spec PyProof.Rows L2 SlX DL
/-- the vat: the drawn numbers are any -/
def VOk (vs : List D) (N : Nat) : Prop := ∃ a b c : Int, vs = [.int a, .int b, .int c] ∧ 0 ≤ a ∧ Sm 2000 a ∧ Sm 100 b ∧ 0 ≤ c ∧ c ≤ N
theorem VOk.mono {vs : List D} {N M : Nat} (h : VOk vs N) (l : N ≤ M) : VOk vs M := by
  obtain ⟨a, b, c, h1, h2, h3, h4, h5, h6⟩ := h
  exact ⟨a, b, c, h1, h2, h3, h4, h5, by omega⟩
/-- of a drawn row -/
def BdN (b x : Int) : Prop := -(b + 1) ≤ x ∧ x ≤ b + 1
theorem BdN.short {b x : Int} (h : BdN b x) (hb : b ≤ 10 ^ 30) : short x = true := by
  rw [short_iff]
  unfold BdN at h
  have e : sixty = 10 ^ 60 := by decide +kernel
  rw [e]
  omega
def d__law_vat : DSp := fun ds μ k => ∃ ns i, ds = [.scr ns, .int i] ∧ 0 ≤ i ∧ i < 1000 ∧ ∀ p vs, μ p = none → VOk vs 0 → k (.own p) (muSet μ p vs)
def d__law_draw : DSp := fun ds μ k => ∃ p t N vs, ds = [.own p, .int t] ∧ μ p = some vs ∧ VOk vs N ∧ 0 < t ∧ Sm 1000 t ∧ N < 2 ^ 30 ∧ ∀ r vs', 0 ≤ r → r < t → VOk vs' (N + 1) → k (.int r) (muSet μ p vs')
def d__law_pick : DSp := fun ds μ k => ∃ p is N vs, ds = [.own p, .lst is] ∧ μ p = some vs ∧ VOk vs N ∧ is ≠ [] ∧ is.length ≤ 1000 ∧ N < 2 ^ 30 ∧ ∀ d vs', d ∈ is → VOk vs' (N + 1) → k d (muSet μ p vs')
def d__law_told : DSp := d_told_by
def d__law_numbers : DSp := fun ds μ k => ∃ n ls xs, ds = [.int (n : Nat), layersD ls, rowD xs] ∧ Lays ls n ∧ ls.length ≤ 4 ∧ xs.length = n ∧ n + total ls ≤ 256 ∧ (∀ x ∈ xs, Sm 1000 x) ∧ k (.lst (intsD (numbers ls xs))) μ
def d__law_row : DSp := fun ds μ k => ∃ p m sz N vs, ds = [.own p, .int (m : Nat), .int sz] ∧ μ p = some vs ∧ VOk vs N ∧ m ≤ 1000 ∧ 0 ≤ sz ∧ sz ≤ 10 ^ 30 ∧ N + 2 * m < 2 ^ 30 ∧ ∀ (r : List Int) vs', r.length = m → (∀ x ∈ r, BdN sz x) → VOk vs' (N + 2 * m) → k (rowD r) (muSet μ p vs')
def d__law_parts : DSp := fun ds μ k => ∃ p n dep wide sz N vs, ds = [.own p, .int (n : Nat), .int (dep : Nat), .int (wide : Nat), .int sz] ∧ μ p = some vs ∧ VOk vs N ∧ 1 ≤ n ∧ n ≤ 8 ∧ dep ≤ 4 ∧ 1 ≤ wide ∧ wide ≤ 4 ∧ 0 ≤ sz ∧ sz ≤ 10 ^ 30 ∧ N + 5000 < 2 ^ 30 ∧
  ∀ ls la vs', IsNet n ls la → ls.length = dep → (∀ l ∈ ls, l.length ≤ wide) → (∀ x ∈ la, BdN sz x) → VOk vs' (N + 5000) → k (.tup [layersD ls, rowD la]) (muSet μ p vs')
def d__law_value : DSp := fun ds μ k => ∃ n ls la xs, ds = [.int (n : Nat), layersD ls, rowD la, rowD xs] ∧ IsNet n ls la ∧ xs.length = n ∧ (∀ x ∈ xs, Sm 1000 x) ∧ k (.int (told la (numbers ls xs))) μ
def d__law_rows : DSp := fun ds μ k => ∃ p n t N vs, ds = [.own p, .int (n : Nat), .int (t : Nat)] ∧ μ p = some vs ∧ VOk vs N ∧ 1 ≤ n ∧ n ≤ 8 ∧ t ≤ 10 ∧ N + 1000 < 2 ^ 30 ∧ ∀ (rs : List (List Int)) vs', rs.length ≤ 11 → (∀ r ∈ rs, r.length = n ∧ ∀ x ∈ r, Sm 40 x) → VOk vs' (N + 1000) → k (.lst (rs.map rowD)) (muSet μ p vs')
section
variable {P : Program} {w : World} {K : PySem.W.Frag} {mg : Str → Option Value} {base : Heap} {C : Addr}
abbrev s__law_vat : Stmt := topS 47
abbrev N__law_vat : List Str := ["_law_script", "_law_spot", "_law_cell", "_law_great"]
theorem sc__law_vat : FnScope N__law_vat ["_law_script", "_law_spot"] (defScope s__law_vat) := ⟨rfl, rfl, rfl, by decide +kernel, rfl, by decide +kernel, by decide +kernel⟩
def r__law_vat : RS :=
  (rSeq (rAsg (rIf (rB (rOp (oB (fun i j => decide (i < j))) (rVar 1) (rCB oLen (rCons (rVar 0) rNil)))) (rCB oInt (rCons (rOp oIxS (rVar 0) (rVar 1)) rNil)) (rOp (oI fun i j => i + j) (rOp (oIc CMulW fun i j => i * j) (rC (.int 433)) (rVar 1)) (rC (.int 193)))) (rgName 2))
  (rSeq (rAsg (rOp (oIc (fun _ j => 0 < j) fun i j => i % j) (rCB oInt (rCons (rCB oAbs (rCons (rVar 2) rNil)) rNil)) (rOp (oIc CPowW fun i j => i ^ j.toNat) (rOp (oIc CPowW fun i j => i ^ j.toNat) (rC (.int 10)) (rC (.int 57))) (rC (.int 6)))) (rgName 3))
  (rRet (rLstO (rCons (rCB (o2I fun i j => if j > i then j else i) (rCons (rC (.int 0)) (rCons (rOp (oI fun i j => i - j) (rVar 3) (rOp (oIc CPowW fun i j => i ^ j.toNat) (rC (.int 10)) (rC (.int 16)))) rNil))) (rCons (rOp (oI fun i j => i + j) (rOp (oI fun i j => i + j) (rOp (oI fun i j => i + j) (rOp (oIc CMulW fun i j => i * j) (rOp (oIc (fun _ j => 0 < j) fun i j => i % j) (rCB oInt (rCons (rVar 3) rNil)) (rC (.int 2147483477))) (rC (.int 263))) (rOp (oIc CMulW fun i j => i * j) (rC (.int 587)) (rVar 1))) (rOp (oIc CMulW fun i j => i * j) (rC (.int 37)) (rCB oInt (rCons (rOp (oB (fun i j => decide (i < j))) (rVar 2) (rC (.int 0))) rNil)))) (rC (.int 9))) (rCons (rC (.int 0)) rNil)))))))
theorem b__law_vat (T : TxC K mg C) : Body P w K mg base 30 "_law_vat" s__law_vat N__law_vat (r__law_vat) := by
  refine fun f => ⟨_, fun cdv A outer s H E hr => ⟨(pss_cons (ps_set (i := 2) sc__law_vat.nd rfl (Or.inl rfl) (pe_ifExp (pt_cmpR op_lt (pv 1) (kb_call (kc_len K) T.b_len (pa_cons (pv 0) pa_nil)) (nomark _)) (kt_call call_int1 T.b_int (pa_cons (pe_ix (kx_list K) (pv 0) (pv 1) (fun _ _ => rfl)) pa_nil)) (pe_op op_add (pe_op op_mulW pe_int (pv 1)) pe_int)))
      (pss_cons (ps_set (i := 3) sc__law_vat.nd rfl (Or.inl rfl) (pe_op op_mod (kt_call call_int1 T.b_int (pa_cons (kb_call call_abs T.b_abs (pa_cons (pv 2) pa_nil)) pa_nil)) (pe_op op_powW (pe_op op_powW pe_int pe_int) pe_int)))
      (pss_one (ps_ret (pe_lst (pa_cons (kb_call (call_max2 rfl) T.b_max (pa_cons pe_int (pa_cons (pe_op op_sub (pv 3) (pe_op op_powW pe_int pe_int)) pa_nil))) (pa_cons (pe_op op_add (pe_op op_add (pe_op op_add (pe_op op_mulW (pe_op op_mod (kt_call call_int1 T.b_int (pa_cons (pv 3) pa_nil)) pe_int) pe_int) (pe_op op_mulW pe_int (pv 1))) (pe_op op_mulW pe_int (kt_call call_int1 T.b_int (pa_cons (pe_cmpR op_lt (pv 2) pe_int (nomark _)) pa_nil)))) pe_int) (pa_cons pe_int pa_nil)))))))),
    (okS_seq (okS_asg (okE_if (okT_test (okE_op okB (okE_var 1) (okE_CB okLen (okA_cons (okE_var 0) okA_nil)))) (okE_CB okInt (okA_cons (okE_op okIxS (okE_var 0) (okE_var 1)) okA_nil)) (okE_op okI (okE_op okIc (okE_C fun _ => .int _) (okE_var 1)) (okE_C fun _ => .int _))) (okG_name 2))
      (okS_seq (okS_asg (okE_op okIc (okE_CB okInt (okA_cons (okE_CB okAbs (okA_cons (okE_var 2) okA_nil)) okA_nil)) (okE_op okIc (okE_op okIc (okE_C fun _ => .int _) (okE_C fun _ => .int _)) (okE_C fun _ => .int _))) (okG_name 3))
      (okS_ret (okE_lstO (okA_cons (okE_CB ok2I (okA_cons (okE_C fun _ => .int _) (okA_cons (okE_op okI (okE_var 3) (okE_op okIc (okE_C fun _ => .int _) (okE_C fun _ => .int _))) okA_nil))) (okA_cons (okE_op okI (okE_op okI (okE_op okI (okE_op okIc (okE_op okIc (okE_CB okInt (okA_cons (okE_var 3) okA_nil)) (okE_C fun _ => .int _)) (okE_C fun _ => .int _)) (okE_op okIc (okE_C fun _ => .int _) (okE_var 1))) (okE_op okIc (okE_C fun _ => .int _) (okE_CB okInt (okA_cons (okE_op okB (okE_var 2) (okE_C fun _ => .int _)) okA_nil)))) (okE_C fun _ => .int _)) (okA_cons (okE_C fun _ => .int _) okA_nil)))))))⟩⟩

abbrev s__law_draw : Stmt := topS 48
abbrev N__law_draw : List Str := ["_law_vat_here", "_law_total", "_law_one", "_law_two", "_law_found"]
theorem sc__law_draw : FnScope N__law_draw ["_law_vat_here", "_law_total"] (defScope s__law_draw) := ⟨rfl, rfl, rfl, by decide +kernel, rfl, by decide +kernel, by decide +kernel⟩
def r__law_draw : RS :=
  (rSeq (rIfS (rB (rOp (oB (fun i j => decide (j < i))) (rOp oIx (rVar 0) (rC (.int 0))) (rC (.int 0)))) (rSeq (rAsg (rOp (oIc (fun _ j => 0 < j) fun i j => i % j) (rCB oInt (rCons (rOp oIx (rVar 0) (rC (.int 0))) rNil)) (rVar 1)) (rgName 4))
  (rSeq (rAsg (rOp (oIc CDivW fun i j => i / j) (rOp oIx (rVar 0) (rC (.int 0))) (rVar 1)) (rgSetL (rVar 0) (rC (.int 0))))
  (rRet (rVar 4)))) rNext)
  (rSeq (rAsg (rOp (oI fun i j => i + j) (rOp oIx (rVar 0) (rC (.int 2))) (rC (.int 1))) (rgSetL (rVar 0) (rC (.int 2))))
  (rSeq (rAsg (rOp (oIc (fun _ j => 0 < j) fun i j => i % j) (rCB oInt (rCons (rOp (oI fun i j => i + j) (rOp oIx (rVar 0) (rC (.int 1))) (rOp (oIc CMulW fun i j => i * j) (rC (.int 9699713)) (rOp oIx (rVar 0) (rC (.int 2))))) rNil)) (rC (.int 2305843009213693951))) (rgName 2))
  (rSeq (rAsg (rOp (oI fun i j => i + j) (rOp (oIc CMulW fun i j => i * j) (rOp (oIc (fun _ j => 0 < j) fun i j => i % j) (rCB oInt (rCons (rOp (oI fun i j => i + j) (rOp (oIc CMulW fun i j => i * j) (rVar 2) (rVar 2)) (rOp (oIc CMulW fun i j => i * j) (rC (.int 335)) (rOp oIx (rVar 0) (rC (.int 2))))) rNil)) (rC (.int 2305843009213693921))) (rC (.int 5800079))) (rVar 2)) (rgName 3))
  (rRet (rOp (oIc (fun _ j => 0 < j) fun i j => i % j) (rCB oInt (rCons (rOp (oIc CDivW fun i j => i / j) (rVar 3) (rC (.int 65537))) rNil)) (rVar 1)))))))
theorem b__law_draw (T : TxC K mg C) : Body P w K mg base 31 "_law_draw" s__law_draw N__law_draw (r__law_draw) := by
  refine fun f => ⟨_, fun cdv A outer s H E hr => ⟨(pss_cons (ps_if (pt_cmpR op_gt (pe_ix (kx_seq K) (pv 0) pe_int (fun _ _ => rfl)) pe_int (nomark _)) (pss_cons (ps_set (i := 4) sc__law_draw.nd rfl (Or.inl rfl) (pe_op op_mod (kt_call call_int1 T.b_int (pa_cons (pe_ix (kx_seq K) (pv 0) pe_int (fun _ _ => rfl)) pa_nil)) (pv 1)))
      (pss_cons (ps_asg (pe_op op_fdivW (pe_ix (kx_seq K) (pv 0) pe_int (fun _ _ => rfl)) (pv 1)) (pg_sub (pv 0) pe_int set_list))
      (pss_one (ps_ret (pv 4))))) pss_nil)
      (pss_cons (ps_asg (pe_op op_add (pe_ix (kx_seq K) (pv 0) pe_int (fun _ _ => rfl)) pe_int) (pg_sub (pv 0) pe_int set_list))
      (pss_cons (ps_set (i := 2) sc__law_draw.nd rfl (Or.inl rfl) (pe_op op_mod (kt_call call_int1 T.b_int (pa_cons (pe_op op_add (pe_ix (kx_seq K) (pv 0) pe_int (fun _ _ => rfl)) (pe_op op_mulW pe_int (pe_ix (kx_seq K) (pv 0) pe_int (fun _ _ => rfl)))) pa_nil)) pe_int))
      (pss_cons (ps_set (i := 3) sc__law_draw.nd rfl (Or.inl rfl) (pe_op op_add (pe_op op_mulW (pe_op op_mod (kt_call call_int1 T.b_int (pa_cons (pe_op op_add (pe_op op_mulW (pv 2) (pv 2)) (pe_op op_mulW pe_int (pe_ix (kx_seq K) (pv 0) pe_int (fun _ _ => rfl)))) pa_nil)) pe_int) pe_int) (pv 2)))
      (pss_one (ps_ret (pe_op op_mod (kt_call call_int1 T.b_int (pa_cons (pe_op op_fdivW (pv 3) pe_int) pa_nil)) (pv 1)))))))),
    (okS_seq (okS_if (okT_test (okE_op okB (okE_op okIx (okE_var 0) (okE_C fun _ => .int _)) (okE_C fun _ => .int _))) (okS_seq (okS_asg (okE_op okIc (okE_CB okInt (okA_cons (okE_op okIx (okE_var 0) (okE_C fun _ => .int _)) okA_nil)) (okE_var 1)) (okG_name 4))
      (okS_seq (okS_asg (okE_op okIc (okE_op okIx (okE_var 0) (okE_C fun _ => .int _)) (okE_var 1)) (okG_setL (okE_var 0) (okE_C fun _ => .int _)))
      (okS_ret (okE_var 4)))) okS_next)
      (okS_seq (okS_asg (okE_op okI (okE_op okIx (okE_var 0) (okE_C fun _ => .int _)) (okE_C fun _ => .int _)) (okG_setL (okE_var 0) (okE_C fun _ => .int _)))
      (okS_seq (okS_asg (okE_op okIc (okE_CB okInt (okA_cons (okE_op okI (okE_op okIx (okE_var 0) (okE_C fun _ => .int _)) (okE_op okIc (okE_C fun _ => .int _) (okE_op okIx (okE_var 0) (okE_C fun _ => .int _)))) okA_nil)) (okE_C fun _ => .int _)) (okG_name 2))
      (okS_seq (okS_asg (okE_op okI (okE_op okIc (okE_op okIc (okE_CB okInt (okA_cons (okE_op okI (okE_op okIc (okE_var 2) (okE_var 2)) (okE_op okIc (okE_C fun _ => .int _) (okE_op okIx (okE_var 0) (okE_C fun _ => .int _)))) okA_nil)) (okE_C fun _ => .int _)) (okE_C fun _ => .int _)) (okE_var 2)) (okG_name 3))
      (okS_ret (okE_op okIc (okE_CB okInt (okA_cons (okE_op okIc (okE_var 3) (okE_C fun _ => .int _)) okA_nil)) (okE_var 1)))))))⟩⟩

abbrev s__law_pick : Stmt := topS 49
abbrev N__law_pick : List Str := ["_law_vat_here", "_law_items"]
theorem sc__law_pick : FnScope N__law_pick ["_law_vat_here", "_law_items"] (defScope s__law_pick) := ⟨rfl, rfl, rfl, by decide +kernel, rfl, by decide +kernel, by decide +kernel⟩
def r__law_pick : RS :=
  (rRet (rOp oIx (rVar 1) (rCall d__law_draw (rCons (rVar 0) (rCons (rCB oLen (rCons (rVar 1) rNil)) rNil)))))
theorem b__law_pick (F__law_draw : FnD P w K mg base "_law_draw" 32 d__law_draw) (T : TxC K mg C) : Body P w K mg base 32 "_law_pick" s__law_pick N__law_pick (r__law_pick) := by
  refine fun f => ⟨_, fun cdv A outer s H E hr => ⟨(pss_one (ps_ret (pe_ix (kx_seq K) (pv 1) (ke_call K F__law_draw hr (pa_cons (pv 0) (pa_cons (kb_call (kc_len K) T.b_len (pa_cons (pv 1) pa_nil)) pa_nil))) (fun _ _ => rfl)))),
    (okS_ret (okE_op okIx (okE_var 1) (okE_call (okA_cons (okE_var 0) (okA_cons (okE_CB okLen (okA_cons (okE_var 1) okA_nil)) okA_nil)))))⟩⟩

abbrev s__law_told : Stmt := topS 50
abbrev N__law_told : List Str := ["_law_row_here", "_law_numbers_here", "_law_one", "_law_other"]
theorem sc__law_told : FnScope N__law_told ["_law_row_here", "_law_numbers_here"] (defScope s__law_told) := ⟨rfl, rfl, rfl, by decide +kernel, rfl, by decide +kernel, by decide +kernel⟩
def r__law_told : RS :=
  (rRet (rCB oSum (rCons (rLc (rIZ (rCons (rVar 0) (rCons (rVar 1) rNil))) (rgTup 2 (rgCons (rgName 2) (rgCons (rgName 3) rgNil))) rYes (rOp (oIc CMulW fun i j => i * j) (rVar 2) (rVar 3)) [2, 3]) rNil)))
theorem b__law_told (T : TxC K mg C) : Body P w K mg base 33 "_law_told" s__law_told N__law_told (r__law_told) := by
  refine fun f => ⟨_, fun cdv A outer s H E hr => ⟨(pss_one (ps_ret (kb_call (kc_sum K) T.b_sum (pa_cons (pe_lc (own := [("_law_one", 2), ("_law_other", 3)]) rfl sc__law_told.nd (ki_zip K (by rfl) T.b_zip (pa_cons (pv 0) (pa_cons (pv 1) pa_nil))) (blkOk_by (own := [("_law_one", 2), ("_law_other", 3)]) (N := N__law_told) (sc := defScope s__law_told) (by decide +kernel)) (fun _ _ _ _ _ => (kg_tup K (pgs_cons (pg_name (i := 2) sc__law_told.nd rfl (by first | exact Or.inl rfl | exact Or.inr rfl)) (pgs_cons (pg_name (i := 3) sc__law_told.nd rfl (by first | exact Or.inl rfl | exact Or.inr rfl)) pgs_nil)))) (fun _ _ _ _ _ => pts_nil) (fun _ _ _ _ _ => (pe_op op_mulW (pv 2) (pv 3)))) pa_nil)))),
    (okS_ret (okE_CB okSum (okA_cons (okE_lc (okI_zip (okA_cons (okE_var 0) (okA_cons (okE_var 1) okA_nil))) (okG_tup (okGs_cons (okG_name 2) (okGs_cons (okG_name 3) okGs_nil))) okT_yes (okE_op okIc (okE_var 2) (okE_var 3)) (by decide)) okA_nil)))⟩⟩

abbrev s__law_numbers : Stmt := topS 51
abbrev N__law_numbers : List Str := ["_law_inputs", "_law_layers", "_law_row_here", "_law_found", "_law_layer", "_law_more", "_law_unit", "_law_told_here"]
theorem sc__law_numbers : FnScope N__law_numbers ["_law_inputs", "_law_layers", "_law_row_here"] (defScope s__law_numbers) := ⟨rfl, rfl, rfl, by decide +kernel, rfl, by decide +kernel, by decide +kernel⟩
def r__law_numbers : RS :=
  (rSeq (rAsg (rCB oList (rCons (rVar 2) rNil)) (rgName 3))
  (rSeq (rFor (rIT (rVar 1)) (rgName 4) (rSeq (rAsg (rLstO rNil) (rgName 5))
  (rSeq (rFor (rIT (rVar 4)) (rgName 6) (rSeq (rAsg (rCall d__law_told (rCons (rVar 6) (rCons (rVar 3) rNil))) (rgName 7))
  (rDrop (rApp (rVar 5) (rIf (rB (rOp (oB (fun i j => decide (j < i))) (rVar 7) (rC (.int 0)))) (rVar 7) (rC (.int 0)))))))
  (rAsg (rOp oCat (rVar 3) (rVar 5)) (rgName 3)))))
  (rRet (rVar 3))))
theorem b__law_numbers (F__law_told : FnD P w K mg base "_law_told" 34 d__law_told) (T : TxC K mg C) : Body P w K mg base 34 "_law_numbers" s__law_numbers N__law_numbers (r__law_numbers) := by
  refine fun f => ⟨_, fun cdv A outer s H E hr => ⟨(pss_cons (ps_set (i := 3) sc__law_numbers.nd rfl (Or.inl rfl) (kt_call (kc_list K) T.b_list (pa_cons (pv 2) pa_nil)))
      (pss_cons (ps_for PassesOwn.never rfl (ki_tup K (pv 1)) (pg_name (i := 4) sc__law_numbers.nd rfl (Or.inl rfl)) (pss_cons (ps_set (i := 5) sc__law_numbers.nd rfl (Or.inl rfl) (pe_lst pa_nil))
      (pss_cons (ps_for PassesOwn.never rfl (ki_tup K (pv 4)) (pg_name (i := 6) sc__law_numbers.nd rfl (Or.inl rfl)) (pss_cons (ps_set (i := 7) sc__law_numbers.nd rfl (Or.inl rfl) (ke_call K F__law_told hr (pa_cons (pv 6) (pa_cons (pv 3) pa_nil))))
      (pss_one (ps_expr (ke_app K (pv 5) (pa_cons (pe_ifExp (pt_cmpR op_gt (pv 7) pe_int (nomark _)) (pv 7) pe_int) pa_nil))))))
      (pss_one (ps_set (i := 3) sc__law_numbers.nd rfl (Or.inl rfl) (pe_op op_cat (pv 3) (pv 5)))))))
      (pss_one (ps_ret (pv 3))))),
    (okS_seq (okS_asg (okE_CB okList (okA_cons (okE_var 2) okA_nil)) (okG_name 3))
      (okS_seq (okS_for (okI_tup (okE_var 1)) (okG_name 4) (okS_seq (okS_asg (okE_lstO okA_nil) (okG_name 5))
      (okS_seq (okS_for (okI_tup (okE_var 4)) (okG_name 6) (okS_seq (okS_asg (okE_call (okA_cons (okE_var 6) (okA_cons (okE_var 3) okA_nil))) (okG_name 7))
      (okS_drop (okE_app (okE_var 5) (okE_if (okT_test (okE_op okB (okE_var 7) (okE_C fun _ => .int _))) (okE_var 7) (okE_C fun _ => .int _))))))
      (okS_asg (okE_op okCat (okE_var 3) (okE_var 5)) (okG_name 3)))))
      (okS_ret (okE_var 3))))⟩⟩

abbrev s__law_row : Stmt := topS 52
abbrev N__law_row : List Str := ["_law_vat_here", "_law_many", "_law_size", "_law_place"]
theorem sc__law_row : FnScope N__law_row ["_law_vat_here", "_law_many", "_law_size"] (defScope s__law_row) := ⟨rfl, rfl, rfl, by decide +kernel, rfl, by decide +kernel, by decide +kernel⟩
def r__law_row : RS :=
  (rRet (rCB oTuple (rCons (rLc (rIR1 (rCons (rVar 1) rNil)) (rgName 3) rYes (rCall d__law_pick (rCons (rVar 0) (rCons (rLst (rCons (rC (.int 0)) (rCons (rC (.int 1)) (rCons (rUn oNeg (rC (.int 1))) (rCons (rC (.int 1)) (rCons (rOp (oI fun i j => i - j) (rCall d__law_draw (rCons (rVar 0) (rCons (rOp (oI fun i j => i + j) (rOp (oIc CMulW fun i j => i * j) (rC (.int 2)) (rVar 2)) (rC (.int 1))) rNil))) (rVar 2)) rNil)))))) rNil))) [3]) rNil)))
theorem b__law_row (F__law_pick : FnD P w K mg base "_law_pick" 33 d__law_pick) (F__law_draw : FnD P w K mg base "_law_draw" 32 d__law_draw) (T : TxC K mg C) : Body P w K mg base 35 "_law_row" s__law_row N__law_row (r__law_row) := by
  refine fun f => ⟨_, fun cdv A outer s H E hr => ⟨(pss_one (ps_ret (kt_call (kc_tuple K) T.b_tuple (pa_cons (pe_lc (own := [("_law_place", 3)]) rfl sc__law_row.nd (kr_range1 T.b_range (pa_cons (pv 1) pa_nil)) (blkOk_by (own := [("_law_place", 3)]) (N := N__law_row) (sc := defScope s__law_row) (by decide +kernel)) (fun _ _ _ _ _ => (pg_name (i := 3) sc__law_row.nd rfl (by first | exact Or.inl rfl | exact Or.inr rfl))) (fun _ _ _ _ _ => pts_nil) (fun _ _ _ _ _ => (ke_call K F__law_pick hr (pa_cons (pv 0) (pa_cons (pe_lst (pa_cons pe_int (pa_cons pe_int (pa_cons (pe_un un_neg pe_int) (pa_cons pe_int (pa_cons (pe_op op_sub (ke_call K F__law_draw hr (pa_cons (pv 0) (pa_cons (pe_op op_add (pe_op op_mulW pe_int (pv 2)) pe_int) pa_nil))) (pv 2)) pa_nil)))))) pa_nil))))) pa_nil)))),
    (okS_ret (okE_CB okTuple (okA_cons (okE_lc (okI_range1 (okA_cons (okE_var 1) okA_nil)) (okG_name 3) okT_yes (okE_call (okA_cons (okE_var 0) (okA_cons (okE_lst (okA_cons (okE_C fun _ => .int _) (okA_cons (okE_C fun _ => .int _) (okA_cons (okE_un okNeg (okE_C fun _ => .int _)) (okA_cons (okE_C fun _ => .int _) (okA_cons (okE_op okI (okE_call (okA_cons (okE_var 0) (okA_cons (okE_op okI (okE_op okIc (okE_C fun _ => .int _) (okE_var 2)) (okE_C fun _ => .int _)) okA_nil))) (okE_var 2)) okA_nil)))))) okA_nil))) (by decide)) okA_nil)))⟩⟩

abbrev s__law_parts : Stmt := topS 53
abbrev N__law_parts : List Str := ["_law_vat_here", "_law_inputs", "_law_depth", "_law_wide", "_law_size", "_law_turn", "_law_layers", "_law_seen", "_law_layer", "_law_unit"]
theorem sc__law_parts : FnScope N__law_parts ["_law_vat_here", "_law_inputs", "_law_depth", "_law_wide", "_law_size"] (defScope s__law_parts) := ⟨rfl, rfl, rfl, by decide +kernel, rfl, by decide +kernel, by decide +kernel⟩
def r__law_parts : RS :=
  (rSeq (rAsg (rTup (rCons (rLstO rNil) (rCons (rVar 1) rNil))) (rgTup 2 (rgCons (rgName 6) (rgCons (rgName 7) rgNil))))
  (rSeq (rFor (rIR1 (rCons (rVar 2) rNil)) (rgName 5) (rSeq (rAsg (rCB oTuple (rCons (rLc (rIR1 (rCons (rOp (oI fun i j => i + j) (rC (.int 1)) (rCall d__law_draw (rCons (rVar 0) (rCons (rVar 3) rNil)))) rNil)) (rgName 9) rYes (rCall d__law_row (rCons (rVar 0) (rCons (rVar 7) (rCons (rVar 4) rNil)))) [9]) rNil)) (rgName 8))
  (rSeq (rDrop (rApp (rVar 6) (rVar 8)))
  (rAsg (rOp (oI fun i j => i + j) (rVar 7) (rCB oLen (rCons (rVar 8) rNil))) (rgName 7)))))
  (rRet (rTup (rCons (rCB oTuple (rCons (rVar 6) rNil)) (rCons (rCall d__law_row (rCons (rVar 0) (rCons (rVar 7) (rCons (rVar 4) rNil)))) rNil))))))
theorem b__law_parts (F__law_draw : FnD P w K mg base "_law_draw" 32 d__law_draw) (F__law_row : FnD P w K mg base "_law_row" 36 d__law_row) (T : TxC K mg C) : Body P w K mg base 36 "_law_parts" s__law_parts N__law_parts (r__law_parts) := by
  refine fun f => ⟨_, fun cdv A outer s H E hr => ⟨(pss_cons (ps_asg (pe_tup (pa_cons (pe_lst pa_nil) (pa_cons (pv 1) pa_nil))) (kg_tup K (pgs_cons (pg_name (i := 6) sc__law_parts.nd rfl (Or.inl rfl)) (pgs_cons (pg_name (i := 7) sc__law_parts.nd rfl (Or.inr rfl)) pgs_nil))))
      (pss_cons (ps_for PassesOwn.never rfl (kr_range1 T.b_range (pa_cons (pv 2) pa_nil)) (pg_name (i := 5) sc__law_parts.nd rfl (Or.inl rfl)) (pss_cons (ps_set (i := 8) sc__law_parts.nd rfl (Or.inl rfl) (kt_call (kc_tuple K) T.b_tuple (pa_cons (pe_lc (own := [("_law_unit", 9)]) rfl sc__law_parts.nd (kr_range1 T.b_range (pa_cons (pe_op op_add pe_int (ke_call K F__law_draw hr (pa_cons (pv 0) (pa_cons (pv 3) pa_nil)))) pa_nil)) (blkOk_by (own := [("_law_unit", 9)]) (N := N__law_parts) (sc := defScope s__law_parts) (by decide +kernel)) (fun _ _ _ _ _ => (pg_name (i := 9) sc__law_parts.nd rfl (by first | exact Or.inl rfl | exact Or.inr rfl))) (fun _ _ _ _ _ => pts_nil) (fun _ _ _ _ _ => (ke_call K F__law_row hr (pa_cons (pv 0) (pa_cons (pv 7) (pa_cons (pv 4) pa_nil)))))) pa_nil)))
      (pss_cons (ps_expr (ke_app K (pv 6) (pa_cons (pv 8) pa_nil)))
      (pss_one (ps_set (i := 7) sc__law_parts.nd rfl (Or.inr rfl) (pe_op op_add (pv 7) (kb_call (kc_len K) T.b_len (pa_cons (pv 8) pa_nil))))))))
      (pss_one (ps_ret (pe_tup (pa_cons (kt_call (kc_tuple K) T.b_tuple (pa_cons (pv 6) pa_nil)) (pa_cons (ke_call K F__law_row hr (pa_cons (pv 0) (pa_cons (pv 7) (pa_cons (pv 4) pa_nil)))) pa_nil))))))),
    (okS_seq (okS_asg (okE_tup (okA_cons (okE_lstO okA_nil) (okA_cons (okE_var 1) okA_nil))) (okG_tup (okGs_cons (okG_name 6) (okGs_cons (okG_name 7) okGs_nil))))
      (okS_seq (okS_for (okI_range1 (okA_cons (okE_var 2) okA_nil)) (okG_name 5) (okS_seq (okS_asg (okE_CB okTuple (okA_cons (okE_lc (okI_range1 (okA_cons (okE_op okI (okE_C fun _ => .int _) (okE_call (okA_cons (okE_var 0) (okA_cons (okE_var 3) okA_nil)))) okA_nil)) (okG_name 9) okT_yes (okE_call (okA_cons (okE_var 0) (okA_cons (okE_var 7) (okA_cons (okE_var 4) okA_nil)))) (by decide)) okA_nil)) (okG_name 8))
      (okS_seq (okS_drop (okE_app (okE_var 6) (okE_var 8)))
      (okS_asg (okE_op okI (okE_var 7) (okE_CB okLen (okA_cons (okE_var 8) okA_nil))) (okG_name 7)))))
      (okS_ret (okE_tup (okA_cons (okE_CB okTuple (okA_cons (okE_var 6) okA_nil)) (okA_cons (okE_call (okA_cons (okE_var 0) (okA_cons (okE_var 7) (okA_cons (okE_var 4) okA_nil)))) okA_nil))))))⟩⟩

abbrev s__law_value : Stmt := topS 54
abbrev N__law_value : List Str := ["_law_inputs", "_law_layers", "_law_last", "_law_row_here"]
theorem sc__law_value : FnScope N__law_value ["_law_inputs", "_law_layers", "_law_last", "_law_row_here"] (defScope s__law_value) := ⟨rfl, rfl, rfl, by decide +kernel, rfl, by decide +kernel, by decide +kernel⟩
def r__law_value : RS :=
  (rRet (rCall d__law_told (rCons (rVar 2) (rCons (rCall d__law_numbers (rCons (rVar 0) (rCons (rVar 1) (rCons (rVar 3) rNil)))) rNil))))
theorem b__law_value (F__law_told : FnD P w K mg base "_law_told" 34 d__law_told) (F__law_numbers : FnD P w K mg base "_law_numbers" 35 d__law_numbers) (T : TxC K mg C) : Body P w K mg base 37 "_law_value" s__law_value N__law_value (r__law_value) := by
  refine fun f => ⟨_, fun cdv A outer s H E hr => ⟨(pss_one (ps_ret (ke_call K F__law_told hr (pa_cons (pv 2) (pa_cons (ke_call K F__law_numbers hr (pa_cons (pv 0) (pa_cons (pv 1) (pa_cons (pv 3) pa_nil)))) pa_nil))))),
    (okS_ret (okE_call (okA_cons (okE_var 2) (okA_cons (okE_call (okA_cons (okE_var 0) (okA_cons (okE_var 1) (okA_cons (okE_var 3) okA_nil)))) okA_nil))))⟩⟩

abbrev s__law_rows : Stmt := topS 55
abbrev N__law_rows : List Str := ["_law_vat_here", "_law_many", "_law_turns", "_law_found", "_law_turn", "_law_size", "_law_place"]
theorem sc__law_rows : FnScope N__law_rows ["_law_vat_here", "_law_many", "_law_turns"] (defScope s__law_rows) := ⟨rfl, rfl, rfl, by decide +kernel, rfl, by decide +kernel, by decide +kernel⟩
def r__law_rows : RS :=
  (rSeq (rAsg (rLstO (rCons (rOp oRepT (rTup (rCons (rC (.int 0)) rNil)) (rVar 1)) rNil)) (rgName 3))
  (rSeq (rFor (rIR1 (rCons (rVar 2) rNil)) (rgName 4) (rSeq (rAsg (rCall d__law_pick (rCons (rVar 0) (rCons (rLst (rCons (rC (.int 1)) (rCons (rC (.int 3)) (rCons (rC (.int 9)) (rCons (rOp (oIc CPowW fun i j => i ^ j.toNat) (rC (.int 10)) (rC (.int 9))) rNil))))) rNil))) (rgName 5))
  (rDrop (rApp (rVar 3) (rCB oTuple (rCons (rLc (rIR1 (rCons (rVar 1) rNil)) (rgName 6) rYes (rOp (oI fun i j => i - j) (rCall d__law_draw (rCons (rVar 0) (rCons (rOp (oI fun i j => i + j) (rOp (oIc CMulW fun i j => i * j) (rC (.int 2)) (rVar 5)) (rC (.int 1))) rNil))) (rVar 5)) [6]) rNil))))))
  (rRetF (rVar 3))))
theorem b__law_rows (F__law_pick : FnD P w K mg base "_law_pick" 33 d__law_pick) (F__law_draw : FnD P w K mg base "_law_draw" 32 d__law_draw) (T : TxC K mg C) : Body P w K mg base 38 "_law_rows" s__law_rows N__law_rows (r__law_rows) := by
  refine fun f => ⟨_, fun cdv A outer s H E hr => ⟨(pss_cons (ps_set (i := 3) sc__law_rows.nd rfl (Or.inl rfl) (pe_lst (pa_cons (pe_op (ko_repTA K) (pe_tup (pa_cons pe_int pa_nil)) (pv 1)) pa_nil)))
      (pss_cons (ps_for PassesOwn.never rfl (kr_range1 T.b_range (pa_cons (pv 2) pa_nil)) (pg_name (i := 4) sc__law_rows.nd rfl (Or.inl rfl)) (pss_cons (ps_set (i := 5) sc__law_rows.nd rfl (Or.inr rfl) (ke_call K F__law_pick hr (pa_cons (pv 0) (pa_cons (pe_lst (pa_cons pe_int (pa_cons pe_int (pa_cons pe_int (pa_cons (pe_op op_powW pe_int pe_int) pa_nil))))) pa_nil))))
      (pss_one (ps_expr (ke_app K (pv 3) (pa_cons (kt_call (kc_tuple K) T.b_tuple (pa_cons (pe_lc (own := [("_law_place", 6)]) rfl sc__law_rows.nd (kr_range1 T.b_range (pa_cons (pv 1) pa_nil)) (blkOk_by (own := [("_law_place", 6)]) (N := N__law_rows) (sc := defScope s__law_rows) (by decide +kernel)) (fun _ _ _ _ _ => (pg_name (i := 6) sc__law_rows.nd rfl (by first | exact Or.inl rfl | exact Or.inr rfl))) (fun _ _ _ _ _ => pts_nil) (fun _ _ _ _ _ => (pe_op op_sub (ke_call K F__law_draw hr (pa_cons (pv 0) (pa_cons (pe_op op_add (pe_op op_mulW pe_int (pv 5)) pe_int) pa_nil))) (pv 5)))) pa_nil)) pa_nil))))))
      (pss_one (ps_ret (pv 3))))),
    (okS_seq (okS_asg (okE_lstO (okA_cons (okE_op okRepT (okE_tup (okA_cons (okE_C fun _ => .int _) okA_nil)) (okE_var 1)) okA_nil)) (okG_name 3))
      (okS_seq (okS_for (okI_range1 (okA_cons (okE_var 2) okA_nil)) (okG_name 4) (okS_seq (okS_asg (okE_call (okA_cons (okE_var 0) (okA_cons (okE_lst (okA_cons (okE_C fun _ => .int _) (okA_cons (okE_C fun _ => .int _) (okA_cons (okE_C fun _ => .int _) (okA_cons (okE_op okIc (okE_C fun _ => .int _) (okE_C fun _ => .int _)) okA_nil))))) okA_nil))) (okG_name 5))
      (okS_drop (okE_app (okE_var 3) (okE_CB okTuple (okA_cons (okE_lc (okI_range1 (okA_cons (okE_var 1) okA_nil)) (okG_name 6) okT_yes (okE_op okI (okE_call (okA_cons (okE_var 0) (okA_cons (okE_op okI (okE_op okIc (okE_C fun _ => .int _) (okE_var 5)) (okE_C fun _ => .int _)) okA_nil))) (okE_var 5)) (by decide)) okA_nil))))))
      (okS_retF (okE_var 3))))⟩⟩



theorem sm_mod {i j : Int} {b : Nat} (hj : 0 < j) (h : j ≤ 2 ^ b) : Sm b (i % j) := by
  have h1 := Int.emod_nonneg i (by omega : j ≠ 0)
  have h2 := Int.emod_lt_of_pos i hj
  unfold Sm
  have e : ((2 : Int) ^ b) = ((2 ^ b : Nat) : Int) := by simp
  omega
theorem sm_lit {b : Nat} {i : Int} (h : i.natAbs < 2 ^ b) : Sm b i := h
theorem sm_le {b : Nat} {i j : Int} (h0 : 0 ≤ i) (h : i ≤ j) (hj : Sm b j) : Sm b i := by unfold Sm at *; omega
theorem sm_add {a b : Nat} {x y : Int} (hx : Sm a x) (hy : Sm b y) : Sm (max a b + 1) (x + y) := by
  have h1 := hx.mono (Nat.le_max_left a b)
  have h2 := hy.mono (Nat.le_max_right a b)
  unfold Sm at *
  rw [Nat.pow_succ]
  omega
theorem vat_fin (n i : Int) (h0 : 0 ≤ i) (h1 : i < 1000) :
    CMulW ((if n < 0 then -n else n) % 1000000000000000000000000000000000000000000000000000000000000000000000000000000000000000000000000000000000000000000000000000000000000000000000000000000000000000000000000000000000000000000000000000000000000000000000000000000000000000000000000000000000000000000000000000000000000000000000000000000000000000000000000000000000000000000000000000000 % 2147483477) 263 ∧ CMulW 587 i ∧ CMulW 37 (if n < 0 then 1 else 0) ∧
    VOk [D.int (if 10000000000000000 < (if n < 0 then -n else n) % 1000000000000000000000000000000000000000000000000000000000000000000000000000000000000000000000000000000000000000000000000000000000000000000000000000000000000000000000000000000000000000000000000000000000000000000000000000000000000000000000000000000000000000000000000000000000000000000000000000000000000000000000000000000000000000000000000000000 then (if n < 0 then -n else n) % 1000000000000000000000000000000000000000000000000000000000000000000000000000000000000000000000000000000000000000000000000000000000000000000000000000000000000000000000000000000000000000000000000000000000000000000000000000000000000000000000000000000000000000000000000000000000000000000000000000000000000000000000000000000000000000000000000000000 - 10000000000000000 else 0),
      D.int ((if n < 0 then -n else n) % 1000000000000000000000000000000000000000000000000000000000000000000000000000000000000000000000000000000000000000000000000000000000000000000000000000000000000000000000000000000000000000000000000000000000000000000000000000000000000000000000000000000000000000000000000000000000000000000000000000000000000000000000000000000000000000000000000000000 % 2147483477 * 263 + 587 * i + 37 * (if n < 0 then 1 else 0) + 9), D.int 0] 0 := by
  have g0 : 0 ≤ (if n < 0 then -n else n) % 1000000000000000000000000000000000000000000000000000000000000000000000000000000000000000000000000000000000000000000000000000000000000000000000000000000000000000000000000000000000000000000000000000000000000000000000000000000000000000000000000000000000000000000000000000000000000000000000000000000000000000000000000000000000000000000000000000000 := Int.emod_nonneg _ (by decide)
  have g1 : Sm 1140 ((if n < 0 then -n else n) % 1000000000000000000000000000000000000000000000000000000000000000000000000000000000000000000000000000000000000000000000000000000000000000000000000000000000000000000000000000000000000000000000000000000000000000000000000000000000000000000000000000000000000000000000000000000000000000000000000000000000000000000000000000000000000000000000000000000) := sm_mod (by decide) (by decide)
  generalize (if n < 0 then -n else n) % 1000000000000000000000000000000000000000000000000000000000000000000000000000000000000000000000000000000000000000000000000000000000000000000000000000000000000000000000000000000000000000000000000000000000000000000000000000000000000000000000000000000000000000000000000000000000000000000000000000000000000000000000000000000000000000000000000000000 = g at g0 g1 ⊢
  have m0 := Int.emod_nonneg g (by decide : (2147483477 : Int) ≠ 0)
  have m1 := Int.emod_lt_of_pos g (by decide : (0 : Int) < 2147483477)
  have m2 : Sm 31 (g % 2147483477) := sm_mod (by decide) (by decide)
  have i1 : Sm 10 i := by unfold Sm; omega
  have s1 : Sm 1 (if n < 0 then (1 : Int) else 0) := by unfold Sm; split <;> decide
  refine ⟨sm_mulW m2 (b := 9) (by unfold Sm; decide) (by omega) (by omega) (by omega), sm_mulW (a := 10) (by unfold Sm; decide) i1 (by omega) (by omega) (by omega), sm_mulW (a := 6) (by unfold Sm; decide) s1 (by omega) (by omega) (by omega), _, _, _, rfl, ?_, ?_, ?_, by omega, by omega⟩
  · split <;> omega
  · have g2 := g1.mono (b := 2000) (by omega)
    split
    · exact sm_le (by omega) (by omega) g2
    · unfold Sm; exact Nat.pos_of_ne_zero (by simp)
  · generalize g % 2147483477 = q at m0 m1 m2 ⊢
    unfold Sm
    have : (2 : Nat) ^ 100 > 10 ^ 20 := by decide
    split <;> omega
theorem ok__law_vat (a : At K mg "_law_vat" s__law_vat) (T : TxC K mg C) : FnD P w K mg base "_law_vat" 31 d__law_vat := by
  refine fnD_of a (b__law_vat T) sc__law_vat (fun _ _ _ _ _ _ us hl => match us, hl with | [_, _], _ => rfl) ?_ ?_
  · rintro ds μ k ⟨ns, i, rfl, _⟩; rfl
  · rintro ds μ k ⟨ns, i, rfl, h0, h1, h⟩
    simp [r__law_vat]
    have p1 : CPowW 10 57 := ⟨by decide, by decide, by decide +kernel⟩
    have p2 : CPowW 1000000000000000000000000000000000000000000000000000000000 6 := ⟨by decide, by decide, by decide +kernel⟩
    have p3 : CPowW 10 16 := ⟨by decide, by decide, by decide +kernel⟩
    split
    · rename_i hi
      obtain ⟨j, rfl⟩ : ∃ j : Nat, i = (j : Int) := ⟨i.toNat, by omega⟩
      have hj : j < ns.length := by omega
      refine ⟨ns[j], by unfold atI; rw [ixN_nat hj]; simp, p1, p2, p3, ?_⟩
      obtain ⟨a1, a2, a3, a4⟩ := vat_fin ns[j] j h0 h1
      exact ⟨a1, a2, a3, fun p hp => h p _ hp a4⟩
    · have i1 : Sm 10 i := by unfold Sm; omega
      obtain ⟨a1, a2, a3, a4⟩ := vat_fin (433 * i + 193) i h0 h1
      exact ⟨sm_mulW (a := 9) (by unfold Sm; decide) i1 (by omega) (by omega) (by omega), p1, p2, p3, a1, a2, a3, fun p hp => h p _ hp a4⟩
@[simp] theorem at3_0 {α : Type} {x y z : α} : atI [x, y, z] 0 = some x := rfl
@[simp] theorem at3_1 {α : Type} {x y z : α} : atI [x, y, z] 1 = some y := rfl
@[simp] theorem at3_2 {α : Type} {x y z : α} : atI [x, y, z] 2 = some z := rfl
@[simp] theorem ix3_0 : ixN 3 0 = some 0 := rfl
@[simp] theorem ix3_2 : ixN 3 2 = some 2 := rfl
theorem ok__law_draw (a : At K mg "_law_draw" s__law_draw) (T : TxC K mg C) : FnD P w K mg base "_law_draw" 32 d__law_draw := by
  refine fnD_of a (b__law_draw T) sc__law_draw (fun _ _ _ _ _ _ us hl => match us, hl with | [_, _], _ => rfl) ?_ ?_
  · rintro ds μ k ⟨p, t, N, vs, rfl, _⟩; rfl
  · rintro ds μ k ⟨p, t, N, vs, rfl, hp, ⟨a, b, c, rfl, v1, v2, v3, v4, v5⟩, t0, t1, hN, h⟩
    simp [r__law_draw, hp, muSet_same]
    have dt : CDivW a t := ⟨t0, by have := PySem.Flt.log2_lt_of (by decide : 0 < 1000) t1; omega⟩
    split
    · refine ⟨t0, dt, h _ _ (Int.emod_nonneg _ (by omega)) (Int.emod_lt_of_pos _ t0) ⟨_, _, _, rfl, Int.ediv_nonneg v1 (by omega), sm_le (Int.ediv_nonneg v1 (by omega)) (Int.ediv_le_self _ v1) v2, v3, v4, by omega⟩⟩
    · have c1 : Sm 31 (c + 1) := by unfold Sm; omega
      have q1 : Sm 61 ((b + 9699713 * (c + 1)) % 2305843009213693951) := sm_mod (by decide) (by decide)
      have q2 : ∀ z : Int, Sm 61 (z % 2305843009213693921) := fun z => sm_mod (by decide) (by decide)
      refine ⟨sm_mulW (a := 30) (by unfold Sm; decide) c1 (by omega) (by omega) (by omega), sm_mulW q1 q1 (by omega) (by omega) (by omega), sm_mulW (a := 30) (by unfold Sm; decide) c1 (by omega) (by omega) (by omega),
        sm_mulW (b := 30) (q2 _) (by unfold Sm; decide) (by omega) (by omega) (by omega), ⟨by decide, by decide +kernel⟩, t0, h _ _ (Int.emod_nonneg _ (by omega)) (Int.emod_lt_of_pos _ t0) ⟨_, _, _, rfl, v1, v2, v3, by omega, by omega⟩⟩
theorem ok__law_pick (a : At K mg "_law_pick" s__law_pick) (F : FnD P w K mg base "_law_draw" 32 d__law_draw) (T : TxC K mg C) : FnD P w K mg base "_law_pick" 33 d__law_pick := by
  refine fnD_of a (b__law_pick F T) sc__law_pick (fun _ _ _ _ _ _ us hl => match us, hl with | [_, _], _ => rfl) ?_ ?_
  · rintro ds μ k ⟨p, is, N, vs, rfl, _⟩; rfl
  · rintro ds μ k ⟨p, is, N, vs, rfl, hp, hv, h1, h2, hN, h⟩
    simp [r__law_pick, hp]
    have hl : 0 < is.length := List.length_pos_iff.mpr h1
    refine ⟨p, _, N, vs, rfl, hp, hv, by omega, ?_, hN, fun r vs' r0 r1 hv' => ?_⟩
    · have : Sm 20 (is.length : Int) := by unfold Sm; omega
      exact this.mono (by omega)
    · obtain ⟨j, rfl⟩ : ∃ j : Nat, r = (j : Int) := ⟨r.toNat, by omega⟩
      have hj : j < is.length := by omega
      exact ⟨is[j], ⟨_, rfl, by unfold atI; rw [ixN_nat hj]; simp⟩, h _ _ (List.getElem_mem hj) hv'⟩
theorem ok__law_told (a : At K mg "_law_told" s__law_told) (T : TxC K mg C) : FnD P w K mg base "_law_told" 34 d__law_told := by
  refine fnD_of a (b__law_told T) sc__law_told (fun _ _ _ _ _ _ us hl => match us, hl with | [_, _], _ => rfl) ?_ ?_
  · rintro ds μ k ⟨ws, d, ns, rfl, _⟩; rfl
  · rintro ds μ k ⟨ws, d, ns, rfl, hd, hl, hw, h⟩
    simp [r__law_told]
    refine ⟨_, hd, ?_⟩
    have sz := Src.z (μ := μ) (x := rowD ws) (y := d) rfl hd
    have e : ((ws.map D.int).zip (ns.map D.int)).map (fun q => D.tup [q.1, q.2]) = (ws.zip ns).map fun q => .tup [.int q.1, .int q.2] := by
      rw [List.zip_map, List.map_map]; rfl
    rw [e] at sz
    refine lcW_map (ws.zip ns) (fun q => .tup [.int q.1, .int q.2]) (fun q => .int (q.1 * q.2)) sz (by rw [List.length_zip]; omega) (fun q hq kt kf h1 => ?_) ?_
    · simp
      exact ⟨hw _ (List.of_mem_zip hq).1 _ (List.of_mem_zip hq).2, h1⟩
    · refine sum_of rfl ?_
      have e2 : ((ws.zip ns).map fun q => q.1 * q.2) = List.zipWith (fun w n => w * n) ws ns := by
        rw [List.zip, List.map_zipWith]
      rw [e2]
      exact h
theorem ok__law_numbers (a : At K mg "_law_numbers" s__law_numbers) (F : FnD P w K mg base "_law_told" 34 d__law_told) (T : TxC K mg C) : FnD P w K mg base "_law_numbers" 35 d__law_numbers := by
  refine fnD_ofW a (b__law_numbers F T) sc__law_numbers (fun _ _ _ _ _ _ us hl => match us, hl with | [_, _, _], _ => rfl) ?_ ?_
  · rintro ds μ k ⟨n, ls, xs, rfl, _⟩; rfl
  · rintro ds μ k ⟨n, ls, xs, rfl, L, hfew, hx, ht, hb, h⟩
    simp [r__law_numbers]
    refine for_inv ls layerD (fun i δ μ' => Sub μ μ' ∧ ∃ x y z v, δ = [some (.int (n : Nat)), some (layersD ls), some (rowD xs), some (.lst (intsD (numbers (ls.take i) xs))), x, y, z, v]) (fun kk hk => ?_) (fun i l δ μ' hl q => ?_) (fun δ μ' q => ?_)
    · simp
      exact hk _ _ (.l _) ⟨Sub.refl _, none, none, none, none, rfl⟩ (fun _ _ _ _ => trivial)
    · obtain ⟨hs, x, y, z, v, rfl⟩ := q
      obtain ⟨a1, a2⟩ := lays_at L hl
      have a3 := numbers_len (ls := ls.take i) (f := xs)
      have a4 := total_le (ls := ls) i
      simp
      intro p hp
      refine for_inv l rowD (fun j δ μ'' => Sub μ μ'' ∧ μ'' p = some (intsD ((l.take j).map fun u => max 0 (told u (numbers (ls.take i) xs)))) ∧ ∃ z v, δ = [some (.int (n : Nat)), some (layersD ls), some (rowD xs), some (.lst (intsD (numbers (ls.take i) xs))), some (layerD l), some (.own p), z, v]) (fun kk hk => ?_) (fun j u δ μ'' hu q => ?_) (fun δ μ'' q => ?_)
      · simp
        exact hk _ _ (.l _) ⟨Sub.up hs hp, by rw [muSet_same]; simp, _, _, rfl⟩ (fun _ _ _ _ => trivial)
      · obtain ⟨hs2, hm, z, v, rfl⟩ := q
        have hu' := List.mem_of_getElem? hu
        simp [hm]
        refine ⟨u, _, numbers (ls.take i) xs, rfl, rfl, by rw [(a2 u hu').1]; omega, fun w hw y hy => ?_, ?_⟩
        · exact sm_mulW (sm_short ((a2 u hu').2 w hw)) (numbers_take_sm L hx (by omega) hb i y hy) (by omega) (by omega) (by omega)
        · simp
          have hj : j < l.length := by
            by_cases hj : j < l.length
            · exact hj
            · rw [List.getElem?_eq_none (by omega)] at hu; cases hu
          have fin : ∀ t : Int, t = max 0 (told u (numbers (ls.take i) xs)) → ∃ ds, μ'' p = some ds ∧ ds.length < 1000000 ∧ Sub μ (muSet μ'' p (ds ++ [D.int t])) ∧
              muSet μ'' p (ds ++ [D.int t]) p = some (List.take (j + 1) (List.map (D.int ∘ fun u => max 0 (told u (numbers (ls.take i) xs))) l)) := fun t ht => by
            refine ⟨_, hm, by simp; omega, Sub.upd hs2 (hs.non hp), ?_⟩
            rw [muSet_same, ← List.map_take, take_succ_of hu]
            simp [ht]
          refine ⟨by rw [hm]; simp, ?_⟩
          split <;> exact fin _ (by omega)
      · obtain ⟨hs2, hm, z, v, rfl⟩ := q
        rw [List.take_length] at hm
        simp [hm]
        refine ⟨by omega, hs2, ?_⟩
        rw [take_succ_of hl, numbers_append]
        simp [numbers, intsD]
    · obtain ⟨hs, x, y, z, v, rfl⟩ := q
      rw [List.take_length]
      exact ⟨μ, hs, h⟩
theorem ok__law_value (a : At K mg "_law_value" s__law_value) (F1 : FnD P w K mg base "_law_told" 34 d__law_told) (F2 : FnD P w K mg base "_law_numbers" 35 d__law_numbers) (T : TxC K mg C) : FnD P w K mg base "_law_value" 38 d__law_value := by
  refine fnD_of a (b__law_value F1 F2 T) sc__law_value (fun _ _ _ _ _ _ us hl => match us, hl with | [_, _, _, _], _ => rfl) ?_ ?_
  · rintro ds μ k ⟨n, ls, la, xs, rfl, _⟩; rfl
  · rintro ds μ k ⟨n, ls, la, xs, rfl, N, hx, hb, h⟩
    have ht := N.tot
    have hn := N.hi
    have hfew := N.few
    have hlen := N.len
    simp [r__law_value]
    refine ⟨n, ls, xs, rfl, N.lays, hfew, hx, by omega, hb, ?_⟩
    refine ⟨la, _, numbers ls xs, rfl, rfl, by omega, fun w hw y hy => ?_, h⟩
    exact sm_mulW (sm_short (N.short w hw)) (numbers_sm N.lays hx (by omega) hb y hy) (by omega) (by omega) (by omega)
theorem ok__law_row (a : At K mg "_law_row" s__law_row) (F1 : FnD P w K mg base "_law_pick" 33 d__law_pick) (F2 : FnD P w K mg base "_law_draw" 32 d__law_draw) (T : TxC K mg C) : FnD P w K mg base "_law_row" 36 d__law_row := by
  refine fnD_of a (b__law_row F1 F2 T) sc__law_row (fun _ _ _ _ _ _ us hl => match us, hl with | [_, _, _], _ => rfl) ?_ ?_
  · rintro ds μ k ⟨p, m, sz, N, vs, rfl, _⟩; rfl
  · rintro ds μ k ⟨p, m, sz, N, vs, rfl, hp, hv, hm, hz0, hz1, hN, h⟩
    simp [r__law_row]
    refine ⟨by omega, ?_⟩
    refine lcW_inv (List.range m) (fun i : Nat => .int (0 + (i : Nat))) (.r 0 m) (by simp; omega)
      (fun i acc μ' => ∃ (r : List Int) (vs' : List D), acc = intsD r ∧ r.length = i ∧ (∀ x ∈ r, BdN sz x) ∧ VOk vs' (N + 2 * i) ∧ μ' = muSet μ p vs')
      ⟨[], vs, rfl, rfl, by simp, hv, (muSet_self hp).symm⟩ (fun _ _ _ _ => trivial) (fun i x acc μ' hx q => ?_) (fun acc μ' q => ?_)
    · obtain ⟨r, vs', rfl, hr, hsh, hv', rfl⟩ := q
      have hi : i < m := by
        by_cases hi : i < (List.range m).length
        · simpa using hi
        · rw [List.getElem?_eq_none (by omega)] at hx; cases hx
      simp
      refine ⟨sm_mulW (a := 2) (b := 200) (by unfold Sm; decide) (sm_le hz0 hz1 (by unfold Sm; decide)) (by omega) (by omega) (by omega), ?_⟩
      refine ⟨p, _, N + 2 * i, vs', rfl, muSet_same, hv', by omega, ?_, by omega, fun q vs2 q0 q1 hv2 => ?_⟩
      · exact sm_le (j := 2 * 10 ^ 30 + 1) (by omega) (by omega) (by unfold Sm; decide)
      · simp
        refine ⟨p, _, N + 2 * i + 1, vs2, rfl, by rw [muSet_set, muSet_same], hv2, by simp, by simp, by omega, fun d vs3 hd hv3 => ?_⟩
        have fin : ∀ z : Int, BdN sz z → d = .int z → ∃ (r' : List Int), intsD r ++ [d] = intsD r' ∧ r'.length = i + 1 ∧ (∀ x ∈ r', BdN sz x) ∧ ∃ (vs'' : List D), VOk vs'' (N + 2 * (i + 1)) ∧ muSet (muSet (muSet μ p vs') p vs2) p vs3 = muSet μ p vs'' := fun z hz hdz => by
          subst hdz
          refine ⟨r ++ [z], by simp [intsD], by simp [hr], fun x hx => ?_, vs3, hv3.mono (by omega), by rw [muSet_set, muSet_set]⟩
          rcases List.mem_append.mp hx with hx | hx
          · exact hsh x hx
          · rw [List.mem_singleton] at hx; rw [hx]; exact hz
        simp at hd
        rcases hd with hd | hd | hd | hd | hd
        · exact fin _ (by unfold BdN; omega) hd
        · exact fin _ (by unfold BdN; omega) hd
        · exact fin _ (by unfold BdN; omega) hd
        · exact fin _ (by unfold BdN; omega) hd
        · refine fin _ ?_ hd
          exact ⟨by omega, by omega⟩
    · obtain ⟨r, vs', rfl, hr, hsh, hv', rfl⟩ := q
      rw [List.length_range] at hr hv'
      exact h r vs' hr hsh hv'
theorem range_get {m i : Nat} {x : Nat} (h : (List.range m)[i]? = some x) : x = i ∧ i < m := by
  have hi : i < m := by
    by_cases hi : i < (List.range m).length
    · simpa using hi
    · rw [List.getElem?_eq_none (by omega)] at h; cases h
  rw [List.getElem?_range hi] at h
  cases h
  exact ⟨rfl, hi⟩
theorem ok__law_parts (a : At K mg "_law_parts" s__law_parts) (F1 : FnD P w K mg base "_law_draw" 32 d__law_draw) (F2 : FnD P w K mg base "_law_row" 36 d__law_row) (T : TxC K mg C) : FnD P w K mg base "_law_parts" 37 d__law_parts := by
  refine fnD_ofW a (b__law_parts F1 F2 T) sc__law_parts (fun _ _ _ _ _ _ us hl => match us, hl with | [_, _, _, _, _], _ => rfl) ?_ ?_
  · rintro ds μ k ⟨p, n, dep, wide, sz, N, vs, rfl, _⟩; rfl
  · rintro ds μ k ⟨p, n, dep, wide, sz, N, vs, rfl, hp, hv, hn0, hn1, hd, hw0, hw1, hz0, hz1, hN, h⟩
    simp [r__law_parts]
    intro q hq
    have hqp : q ≠ p := fun z => by rw [z, hp] at hq; cases hq
    refine for_inv (List.range dep) (fun i : Nat => .int (0 + (i : Nat))) (fun i δ μ' => ∃ (ls : List (List (List Int))) (vs' : List D) (x y : Option D), δ = [some (.own p), some (.int (n : Nat)), some (.int (dep : Nat)), some (.int (wide : Nat)), some (.int sz), x, some (.own q), some (.int ((n + total ls : Nat) : Int)), y, none] ∧
      Lays ls n ∧ ls.length = i ∧ (∀ l ∈ ls, l.length ≤ wide) ∧ total ls ≤ 4 * i ∧ VOk vs' (N + 1000 * i) ∧ Sub (muSet μ p vs') μ' ∧ μ' q = some (ls.map layerD)) (fun kk hk => ?_) (fun i t δ μ' ht z => ?_) (fun δ μ' z => ?_)
    · simp
      refine ⟨by omega, hk _ _ (.r 0 dep) ⟨[], vs, none, none, by simp [total], trivial, rfl, by simp, by simp [total], hv, ?_, muSet_same⟩ (fun _ _ _ _ => trivial)⟩
      rw [muSet_self hp]
      exact Sub.set hq
    · obtain ⟨ls, vs', x, y, rfl, L, hlen, hwd, htot, hv', hs, hmq⟩ := z
      obtain ⟨rfl, hi⟩ := range_get ht
      simp
      refine ⟨p, wide, N + 1000 * t, vs', rfl, hs.at_, hv', by omega, ?_, by omega, fun r vs2 r0 r1 hv2 => ?_⟩
      · have : Sm 20 (wide : Int) := by unfold Sm; omega
        exact this.mono (by omega)
      · obtain ⟨c, rfl⟩ : ∃ c : Nat, r = (c : Int) := ⟨r.toNat, by omega⟩
        have e1 : (1 + (c : Int)).toNat = c + 1 := by omega
        simp [e1]
        refine ⟨by omega, ?_⟩
        refine lcW_inv (List.range (c + 1)) (fun i : Nat => .int (0 + (i : Nat))) (.r 0 (c + 1)) (by simp; omega)
          (fun j acc μ'' => ∃ (rows : List (List Int)) (vs3 : List D), acc = rows.map rowD ∧ rows.length = j ∧ (∀ r ∈ rows, r.length = n + total ls ∧ ∀ x ∈ r, short x = true) ∧ VOk vs3 (N + 1000 * t + 1 + 100 * j) ∧ μ'' = muSet μ' p vs3)
          ⟨[], vs2, rfl, rfl, by simp, hv2, rfl⟩ (fun _ _ _ _ => trivial) (fun j u acc μ'' hu z => ?_) (fun acc μ'' z => ?_)
        · obtain ⟨rows, vs3, rfl, hr, hok, hv3, rfl⟩ := z
          obtain ⟨rfl, hj⟩ := range_get hu
          simp
          refine ⟨p, n + total ls, sz, N + 1000 * t + 1 + 100 * u, vs3, by simp, muSet_same, hv3, by omega, hz0, hz1, by omega, fun r vs4 hrl hrs hv4 => ?_⟩
          refine ⟨rows ++ [r], by simp, by simp [hr], fun r' hr' => ?_, vs4, hv4.mono (by omega), by rw [muSet_set]⟩
          rcases List.mem_append.mp hr' with hr' | hr'
          · exact hok r' hr'
          · rw [List.mem_singleton] at hr'; rw [hr']; exact ⟨hrl, fun x hx => (hrs x hx).short hz1⟩
        · obtain ⟨rows, vs3, rfl, hr, hok, hv3, rfl⟩ := z
          rw [List.length_range] at hr hv3
          have hmq' : muSet μ' p vs3 q = some (ls.map layerD) := by rw [muSet_ne hqp]; exact hmq
          simp [hmq']
          refine ⟨by omega, ls ++ [rows], by rw [total_snoc]; omega, lays_snoc L (by omega) hok, by simp [hlen], fun l' hl' => ?_, by rw [total_snoc]; omega, vs3, hv3.mono (by omega), ?_, ?_⟩
          · rcases List.mem_append.mp hl' with hl' | hl'
            · exact hwd l' hl'
            · rw [List.mem_singleton] at hl'; rw [hl']; omega
          · exact Sub.upd (Sub.setBoth hs) (by rw [muSet_ne hqp]; exact hq)
          · rw [muSet_same]; simp
    · obtain ⟨ls, vs', x, y, rfl, L, hlen, hwd, htot, hv', hs, hmq⟩ := z
      rw [List.length_range] at hlen htot hv'
      simp [hmq]
      refine ⟨p, n + total ls, sz, N + 1000 * dep, vs', by simp, hs.at_, hv', by omega, hz0, hz1, by omega, fun r vs4 hrl hrs hv4 => ?_⟩
      refine ⟨muSet μ p vs4, Sub.setBoth hs, ?_⟩
      exact h ls r vs4 ⟨hn0, hn1, by omega, L, by omega, hrl, fun x hx => (hrs x hx).short hz1⟩ hlen hwd hrs (hv4.mono (by omega))
theorem ok__law_rows (a : At K mg "_law_rows" s__law_rows) (F1 : FnD P w K mg base "_law_pick" 33 d__law_pick) (F2 : FnD P w K mg base "_law_draw" 32 d__law_draw) (T : TxC K mg C) : FnD P w K mg base "_law_rows" 39 d__law_rows := by
  refine fnD_ofW a (b__law_rows F1 F2 T) sc__law_rows (fun _ _ _ _ _ _ us hl => match us, hl with | [_, _, _], _ => rfl) ?_ ?_
  · rintro ds μ k ⟨p, n, t, N, vs, rfl, _⟩; rfl
  · rintro ds μ k ⟨p, n, t, N, vs, rfl, hp, hv, hn0, hn1, ht, hN, h⟩
    simp [r__law_rows]
    refine ⟨by omega, by omega, fun q hq => ?_⟩
    have hqp : q ≠ p := fun z => by rw [z, hp] at hq; cases hq
    refine for_inv (List.range t) (fun i : Nat => .int (0 + (i : Nat))) (fun i δ μ' => ∃ (rs : List (List Int)) (vs' : List D) (x y : Option D), δ = [some (.own p), some (.int (n : Nat)), some (.int (t : Nat)), some (.own q), x, y, none] ∧
      rs.length = i + 1 ∧ (∀ r ∈ rs, r.length = n ∧ ∀ x ∈ r, Sm 40 x) ∧ VOk vs' (N + 20 * i) ∧ Sub (muSet μ p vs') μ' ∧ μ' q = some (rs.map rowD)) (fun kk hk => ?_) (fun i u δ μ' hu z => ?_) (fun δ μ' z => ?_)
    · simp
      refine ⟨by omega, hk _ _ (.r 0 t) ⟨[List.replicate n 0], vs, none, none, rfl, rfl, ?_, hv, ?_, ?_⟩ (fun _ _ _ _ => trivial)⟩
      · intro r hr
        rw [List.mem_singleton] at hr
        subst hr
        refine ⟨by simp, fun x hx => ?_⟩
        rw [List.mem_replicate] at hx
        rw [hx.2]; unfold Sm; decide
      · rw [muSet_self hp]; exact Sub.set hq
      · rw [muSet_same]; simp [rowD, intsD]
    · obtain ⟨rs, vs', x, y, rfl, hlen, hok, hv', hs, hmq⟩ := z
      obtain ⟨rfl, hi⟩ := range_get hu
      simp
      refine ⟨⟨by decide, by decide, by decide +kernel⟩, p, _, N + 20 * u, vs', rfl, hs.at_, hv', by simp, by simp, by omega, fun d vs2 hd hv2 => ?_⟩
      have fin : ∀ sz : Int, 0 ≤ sz → sz ≤ 1000000000 → d = .int sz → True := fun _ _ _ _ => trivial
      obtain ⟨sz, hz0, hz1, rfl⟩ : ∃ sz : Int, 0 ≤ sz ∧ sz ≤ 1000000000 ∧ d = .int sz := by
        simp at hd
        rcases hd with hd | hd | hd | hd
        · exact ⟨_, by decide, by decide, hd⟩
        · exact ⟨_, by decide, by decide, hd⟩
        · exact ⟨_, by decide, by decide, hd⟩
        · exact ⟨_, by decide, by decide, hd⟩
      have hmq' : muSet μ' p vs2 q = some (rs.map rowD) := by rw [muSet_ne hqp]; exact hmq
      simp [hmq']
      refine ⟨by omega, ?_⟩
      refine lcW_inv (List.range n) (fun i : Nat => .int (0 + (i : Nat))) (.r 0 n) (by simp; omega)
        (fun j acc μ'' => ∃ (r : List Int) (vs3 : List D), acc = intsD r ∧ r.length = j ∧ (∀ x ∈ r, Sm 40 x) ∧ VOk vs3 (N + 20 * u + 1 + j) ∧ μ'' = muSet μ' p vs3)
        ⟨[], vs2, rfl, rfl, by simp, hv2, rfl⟩ (fun _ _ _ _ => trivial) (fun j c acc μ'' hc z => ?_) (fun acc μ'' z => ?_)
      · obtain ⟨r, vs3, rfl, hr, hsm, hv3, rfl⟩ := z
        obtain ⟨rfl, hj⟩ := range_get hc
        simp
        refine ⟨sm_mulW (a := 2) (b := 40) (by unfold Sm; decide) (sm_le hz0 hz1 (by unfold Sm; decide)) (by omega) (by omega) (by omega), ?_⟩
        refine ⟨p, _, N + 20 * u + 1 + c, vs3, rfl, muSet_same, hv3, by omega, ?_, by omega, fun b vs4 b0 b1 hv4 => ?_⟩
        · have : Sm 40 (2 * sz + 1) := by unfold Sm; omega
          exact this.mono (by omega)
        · simp
          refine ⟨r ++ [b - sz], by simp [intsD], by simp [hr], fun x hx => ?_, vs4, hv4.mono (by omega), by rw [muSet_set]⟩
          rcases List.mem_append.mp hx with hx | hx
          · exact hsm x hx
          · rw [List.mem_singleton] at hx; rw [hx]; unfold Sm; omega
      · obtain ⟨r, vs3, rfl, hr, hsm, hv3, rfl⟩ := z
        rw [List.length_range] at hr hv3
        have hmq3 : muSet μ' p vs3 q = some (rs.map rowD) := by rw [muSet_ne hqp]; exact hmq
        refine ⟨_, hmq3, by simp; omega, rs ++ [r], by simp [hlen], fun r' hr' => ?_, vs3, hv3.mono (by omega), ?_, ?_⟩
        · rcases List.mem_append.mp hr' with hr' | hr'
          · exact hok r' hr'
          · rw [List.mem_singleton] at hr'; rw [hr']; exact ⟨hr, hsm⟩
        · exact Sub.upd (Sub.setBoth hs) (by rw [muSet_ne hqp]; exact hq)
        · rw [muSet_same]; simp
    · obtain ⟨rs, vs', x, y, rfl, hlen, hok, hv', hs, hmq⟩ := z
      rw [List.length_range] at hlen hv'
      simp [hmq]
      refine ⟨muSet μ p vs', Sub.del hs (by rw [muSet_ne hqp]; exact hq), ?_⟩
      exact h rs vs' (by omega) hok (hv'.mono (by omega))
end
end K20


set_option Elab.async false
set_option linter.all false
set_option maxRecDepth 100000
set_option maxHeartbeats 4000000
namespace K20
open PySem PySem.Spec PyProof.Rows L2 SlX StX DL
def pairL (p : Nat × Nat) : D := .lst [.int (p.1 : Nat), .int (p.2 : Nat)]
def d__law_spread : DSp := fun ds μ k => ∃ r n ss side, ds = [rowD r, .int (n : Nat), .lst (ss.map pairL), .int (sideN side)] ∧ (∀ s ∈ ss, s.1 ≤ 64 ∧ s.2 ≤ 64) ∧ ss.length ≤ 4 ∧ r.length ≤ 1000 ∧ k (rowD (lspread side n ss r)) μ
abbrev tripD (n : Nat) (ls : List (List (List Int))) (la : List Int) : D := .tup [.int (n : Nat), layersD ls, rowD la]
def d__law_beside : DSp := fun ds μ k => ∃ n l1 a1 l2 a2, ds = [tripD n l1 a1, tripD n l2 a2] ∧ IsNet n l1 a1 ∧ IsNet n l2 a2 ∧ k (.tup [layersD (beside n l1 l2), rowD (spread false n (sizesN l1 l2) a1), rowD (spread true n (sizesN l1 l2) a2)]) μ
def d__law_right : DSp := fun ds μ k => ∃ p N vs, ds = [.own p] ∧ μ p = some vs ∧ VOk vs N ∧ N + 20000 < 2 ^ 30 ∧ ∀ vs', VOk vs' (N + 20000) → k (.bl true) (muSet μ p vs')
section
variable {P : Program} {w : World} {K : PySem.W.Frag} {mg : Str → Option Value} {base : Heap} {C : Addr}
abbrev s__law_spread : Stmt := topS 57
abbrev N__law_spread : List Str := ["_law_row_here", "_law_inputs", "_law_sizes", "_law_side", "_law_pair", "_law_found", "_law_at", "_law_which", "_law_mine"]
theorem sc__law_spread : FnScope N__law_spread ["_law_row_here", "_law_inputs", "_law_sizes", "_law_side"] (defScope s__law_spread) := ⟨rfl, rfl, rfl, by decide +kernel, rfl, by decide +kernel, by decide +kernel⟩
def r__law_spread : RS :=
  (rSeq (rPar 5 6 (rCons (rCB oList (rCons (rSlc oSlT (rVar 0) rNo (rPart (rVar 1))) rNil)) (rCons (rVar 1) rNil)))
  (rSeq (rFor (rIL (rVar 2)) (rgName 4) (rFor (rIT (rTup (rCons (rC (.int 0)) (rCons (rC (.int 1)) rNil)))) (rgName 7) (rIfS (rB (rOp oEq (rVar 7) (rVar 3))) (rSeq (rAsg (rCB oList (rCons (rSlc oSlT (rVar 0) (rPart (rVar 6)) (rPart (rOp (oI fun i j => i + j) (rVar 6) (rOp oIx (rVar 4) (rVar 7))))) rNil)) (rgName 8))
  (rSeq (rAsg (rOp oCat (rOp oCat (rVar 5) (rVar 8)) (rOp oRep (rLst (rCons (rC (.int 0)) rNil)) (rOp (oI fun i j => i - j) (rOp oIx (rVar 4) (rVar 7)) (rCB oLen (rCons (rVar 8) rNil))))) (rgName 5))
  (rAsg (rOp (oI fun i j => i + j) (rVar 6) (rOp oIx (rVar 4) (rVar 7))) (rgName 6)))) (rAsg (rOp oCat (rVar 5) (rOp oRep (rLst (rCons (rC (.int 0)) rNil)) (rOp oIx (rVar 4) (rVar 7)))) (rgName 5)))))
  (rRet (rCB oTuple (rCons (rVar 5) rNil)))))
theorem b__law_spread (T : TxC K mg C) : Body P w K mg base 39 "_law_spread" s__law_spread N__law_spread (r__law_spread) := by
  refine fun f => ⟨_, fun cdv A outer s H E hr => ⟨(pss_cons (ps_par (i := 5) (j := 6) rfl sc__law_spread.nd rfl rfl (by decide) rfl rfl (pa_cons (kt_call (kc_list K) T.b_list (pa_cons (pe_slice (ks_tupA K) (pv 0) po_none (po_some (pv 1))) pa_nil)) (pa_cons (pv 1) pa_nil)) rfl)
      (pss_cons (ps_for PassesOwn.never rfl (ki_list K (pv 2)) (pg_name (i := 4) sc__law_spread.nd rfl (Or.inl rfl)) (pss_one (ps_for PassesOwn.never rfl (ki_tup K (pe_tup (pa_cons pe_int (pa_cons pe_int pa_nil)))) (pg_name (i := 7) sc__law_spread.nd rfl (Or.inl rfl)) (pss_one (ps_if (pt_cmpR (ko_eqD K hr.units) (pv 7) (pv 3) (nomark _)) (pss_cons (ps_set (i := 8) sc__law_spread.nd rfl (Or.inl rfl) (kt_call (kc_list K) T.b_list (pa_cons (pe_slice (ks_tupA K) (pv 0) (po_some (pv 6)) (po_some (pe_op op_add (pv 6) (pe_ix (kx_seq K) (pv 4) (pv 7) (fun _ _ => rfl))))) pa_nil)))
      (pss_cons (ps_set (i := 5) sc__law_spread.nd rfl (Or.inl rfl) (pe_op op_cat (pe_op op_cat (pv 5) (pv 8)) (pe_op op_rep (pe_lst (pa_cons pe_int pa_nil)) (pe_op op_sub (pe_ix (kx_seq K) (pv 4) (pv 7) (fun _ _ => rfl)) (kb_call (kc_len K) T.b_len (pa_cons (pv 8) pa_nil))))))
      (pss_one (ps_set (i := 6) sc__law_spread.nd rfl (Or.inl rfl) (pe_op op_add (pv 6) (pe_ix (kx_seq K) (pv 4) (pv 7) (fun _ _ => rfl))))))) (pss_one (ps_set (i := 5) sc__law_spread.nd rfl (Or.inl rfl) (pe_op op_cat (pv 5) (pe_op op_rep (pe_lst (pa_cons pe_int pa_nil)) (pe_ix (kx_seq K) (pv 4) (pv 7) (fun _ _ => rfl)))))))))))
      (pss_one (ps_ret (kt_call (kc_tuple K) T.b_tuple (pa_cons (pv 5) pa_nil)))))),
    (okS_seq (okS_par (okA_cons (okE_CB okList (okA_cons (okE_slc okSlT (okE_var 0) okO_no (okO_part (okE_var 1))) okA_nil)) (okA_cons (okE_var 1) okA_nil)))
      (okS_seq (okS_for (okI_list (okE_var 2)) (okG_name 4) (okS_for (okI_tup (okE_tup (okA_cons (okE_C fun _ => .int _) (okA_cons (okE_C fun _ => .int _) okA_nil)))) (okG_name 7) (okS_if (okT_test (okE_op okEq (okE_var 7) (okE_var 3))) (okS_seq (okS_asg (okE_CB okList (okA_cons (okE_slc okSlT (okE_var 0) (okO_part (okE_var 6)) (okO_part (okE_op okI (okE_var 6) (okE_op okIx (okE_var 4) (okE_var 7))))) okA_nil)) (okG_name 8))
      (okS_seq (okS_asg (okE_op okCat (okE_op okCat (okE_var 5) (okE_var 8)) (okE_op okRep (okE_lst (okA_cons (okE_C fun _ => .int _) okA_nil)) (okE_op okI (okE_op okIx (okE_var 4) (okE_var 7)) (okE_CB okLen (okA_cons (okE_var 8) okA_nil))))) (okG_name 5))
      (okS_asg (okE_op okI (okE_var 6) (okE_op okIx (okE_var 4) (okE_var 7))) (okG_name 6)))) (okS_asg (okE_op okCat (okE_var 5) (okE_op okRep (okE_lst (okA_cons (okE_C fun _ => .int _) okA_nil)) (okE_op okIx (okE_var 4) (okE_var 7)))) (okG_name 5)))))
      (okS_ret (okE_CB okTuple (okA_cons (okE_var 5) okA_nil)))))⟩⟩

abbrev s__law_beside : Stmt := topS 56
abbrev N__law_beside : List Str := ["_law_one", "_law_other", "_law_sizes", "_law_at", "_law_rows_here", "_law_layers", "_law_inputs", "_law_depth", "_law_side", "_law_told_here", "_law_mine", "_law_seen", "_law_layer", "_law_unit", "_law_pair", "_law_row_here"]
theorem sc__law_beside : FnScope N__law_beside ["_law_one", "_law_other"] (defScope s__law_beside) := ⟨rfl, rfl, rfl, by decide +kernel, rfl, by decide +kernel, by decide +kernel⟩
def r__law_beside : RS :=
  (rSeq (rAsg (rTup (rCons (rOp oIx (rVar 0) (rC (.int 0))) (rCons (rCB (o2I fun i j => if j > i then j else i) (rCons (rCB oLen (rCons (rOp oIx (rVar 0) (rC (.int 1))) rNil)) (rCons (rCB oLen (rCons (rOp oIx (rVar 1) (rC (.int 1))) rNil)) rNil))) rNil))) (rgTup 2 (rgCons (rgName 6) (rgCons (rgName 7) rgNil))))
  (rSeq (rAsg (rLstO rNil) (rgName 2))
  (rSeq (rFor (rIR1 (rCons (rVar 7) rNil)) (rgName 3) (rDrop (rApp (rVar 2) (rLc (rIT (rTup (rCons (rVar 0) (rCons (rVar 1) rNil)))) (rgName 9) rYes (rIf (rB (rOp (oB (fun i j => decide (i < j))) (rVar 3) (rCB oLen (rCons (rOp oIx (rVar 9) (rC (.int 1))) rNil)))) (rCB oLen (rCons (rOp oIx (rOp oIx (rVar 9) (rC (.int 1))) (rVar 3)) rNil)) (rC (.int 0))) [9]))))
  (rFrz 2 (rSeq (rAsg (rLstO rNil) (rgName 4))
  (rSeq (rFor (rIE (rCons (rTup (rCons (rVar 0) (rCons (rVar 1) rNil))) rNil)) (rgTup 2 (rgCons (rgName 8) (rgCons (rgName 9) rgNil))) (rSeq (rAsg (rLc (rIT (rOp oIx (rVar 9) (rC (.int 1)))) (rgName 12) rYes (rLc (rIT (rVar 12)) (rgName 13) rYes (rCall d__law_spread (rCons (rVar 13) (rCons (rVar 6) (rCons (rVar 2) (rCons (rVar 8) rNil))))) [13]) [12]) (rgName 10))
  (rDrop (rApp (rVar 4) (rTup (rCons (rOp oCat (rVar 10) (rOp oRep (rLst (rCons (rLst rNil) rNil)) (rOp (oI fun i j => i - j) (rVar 7) (rCB oLen (rCons (rVar 10) rNil))))) (rCons (rCall d__law_spread (rCons (rOp oIx (rVar 9) (rC (.int 2))) (rCons (rVar 6) (rCons (rVar 2) (rCons (rVar 8) rNil))))) rNil)))))))
  (rFrz 4 (rSeq (rAsg (rLstO rNil) (rgName 5))
  (rSeq (rFor (rIR1 (rCons (rVar 7) rNil)) (rgName 3) (rSeq (rAsg (rOp (oI fun i j => i + j) (rVar 6) (rCB oSum (rCons (rLc (rIL (rSlc oSlL (rVar 2) rNo (rPart (rVar 3)))) (rgName 14) rYes (rCB oSum (rCons (rVar 14) rNil)) [14]) rNil))) (rgName 11))
  (rDrop (rApp (rVar 5) (rCB oTuple (rCons (rLc (rIL (rOp oCat (rOp oIx (rOp oIx (rOp oIx (rVar 4) (rC (.int 0))) (rC (.int 0))) (rVar 3)) (rOp oIx (rOp oIx (rOp oIx (rVar 4) (rC (.int 1))) (rC (.int 0))) (rVar 3)))) (rgName 15) rYes (rSlc oSlT (rVar 15) rNo (rPart (rVar 11))) [15]) rNil))))))
  (rFrz 5 (rRet (rTup (rCons (rCB oTuple (rCons (rVar 5) rNil)) (rCons (rOp oIx (rOp oIx (rVar 4) (rC (.int 0))) (rC (.int 1))) (rCons (rOp oIx (rOp oIx (rVar 4) (rC (.int 1))) (rC (.int 1))) rNil)))))))))))))))
theorem b__law_beside (F__law_spread : FnD P w K mg base "_law_spread" 40 d__law_spread) (T : TxC K mg C) : Body P w K mg base 40 "_law_beside" s__law_beside N__law_beside (r__law_beside) := by
  refine fun f => ⟨_, fun cdv A outer s H E hr => ⟨(pss_cons (ps_asg (pe_tup (pa_cons (pe_ix (kx_seq K) (pv 0) pe_int (fun _ _ => rfl)) (pa_cons (kb_call (call_max2 rfl) T.b_max (pa_cons (kb_call (kc_len K) T.b_len (pa_cons (pe_ix (kx_seq K) (pv 0) pe_int (fun _ _ => rfl)) pa_nil)) (pa_cons (kb_call (kc_len K) T.b_len (pa_cons (pe_ix (kx_seq K) (pv 1) pe_int (fun _ _ => rfl)) pa_nil)) pa_nil))) pa_nil))) (kg_tup K (pgs_cons (pg_name (i := 6) sc__law_beside.nd rfl (Or.inr rfl)) (pgs_cons (pg_name (i := 7) sc__law_beside.nd rfl (Or.inl rfl)) pgs_nil))))
      (pss_cons (ps_set (i := 2) sc__law_beside.nd rfl (Or.inr rfl) (pe_lst pa_nil))
      (pss_cons (ps_for PassesOwn.never rfl (kr_range1 T.b_range (pa_cons (pv 7) pa_nil)) (pg_name (i := 3) sc__law_beside.nd rfl (Or.inr rfl)) (pss_one (ps_expr (ke_app K (pv 2) (pa_cons (pe_lc (own := [("_law_told_here", 9)]) rfl sc__law_beside.nd (ki_tup K (pe_tup (pa_cons (pv 0) (pa_cons (pv 1) pa_nil)))) (blkOk_by (own := [("_law_told_here", 9)]) (N := N__law_beside) (sc := defScope s__law_beside) (by decide +kernel)) (fun _ _ _ _ _ => (pg_name (i := 9) sc__law_beside.nd rfl (by first | exact Or.inl rfl | exact Or.inr rfl))) (fun _ _ _ _ _ => pts_nil) (fun _ _ _ _ _ => (pe_ifExp (pt_cmpR op_lt (pv 3) (kb_call (kc_len K) T.b_len (pa_cons (pe_ix (kx_seq K) (pv 9) pe_int (fun _ _ => rfl)) pa_nil)) (nomark _)) (kb_call (kc_len K) T.b_len (pa_cons (pe_ix (kx_seq K) (pe_ix (kx_seq K) (pv 9) pe_int (fun _ _ => rfl)) (pv 3) (fun _ _ => rfl)) pa_nil)) pe_int))) pa_nil)))))
      (pss_cons (ps_set (i := 4) sc__law_beside.nd rfl (Or.inl rfl) (pe_lst pa_nil))
      (pss_cons (ps_for PassesOwn.never rfl (ki_enum K (by rfl) T.b_enumerate (pa_cons (pe_tup (pa_cons (pv 0) (pa_cons (pv 1) pa_nil))) pa_nil)) (kg_tup K (pgs_cons (pg_name (i := 8) sc__law_beside.nd rfl (Or.inr rfl)) (pgs_cons (pg_name (i := 9) sc__law_beside.nd rfl (Or.inl rfl)) pgs_nil))) (pss_cons (ps_setLc (i := 10) (own := [("_law_layer", 12)]) rfl sc__law_beside.nd rfl rfl (sw_true rfl rfl rfl (by decide +kernel)) (ki_tup K (pe_ix (kx_seq K) (pv 9) pe_int (fun _ _ => rfl))) (blkOk_by (own := [("_law_layer", 12)]) (N := N__law_beside) (sc := defScope s__law_beside) (by decide +kernel)) (fun _ _ _ _ _ => (pg_name (i := 12) sc__law_beside.nd rfl (by first | exact Or.inl rfl | exact Or.inr rfl))) (fun _ _ _ _ _ => pts_nil) (fun _ _ _ _ _ => (pe_lc (own := [("_law_unit", 13)]) rfl sc__law_beside.nd (ki_tup K (pv 12)) (by refine blkOk_by (own := [("_law_unit", 13)]) (N := N__law_beside) ?_; kernel_rfl) (fun _ _ _ _ _ => (pg_name (i := 13) sc__law_beside.nd rfl (by first | exact Or.inl rfl | exact Or.inr rfl))) (fun _ _ _ _ _ => pts_nil) (fun _ _ _ _ _ => (ke_call K F__law_spread hr (pa_cons (pv 13) (pa_cons (pv 6) (pa_cons (pv 2) (pa_cons (pv 8) pa_nil)))))))))
      (pss_one (ps_expr (ke_app K (pv 4) (pa_cons (pe_tup (pa_cons (pe_op op_cat (pv 10) (pe_op op_rep (pe_lst (pa_cons (pe_lst pa_nil) pa_nil)) (pe_op op_sub (pv 7) (kb_call (kc_len K) T.b_len (pa_cons (pv 10) pa_nil))))) (pa_cons (ke_call K F__law_spread hr (pa_cons (pe_ix (kx_seq K) (pv 9) pe_int (fun _ _ => rfl)) (pa_cons (pv 6) (pa_cons (pv 2) (pa_cons (pv 8) pa_nil))))) pa_nil))) pa_nil))))))
      (pss_cons (ps_set (i := 5) sc__law_beside.nd rfl (Or.inl rfl) (pe_lst pa_nil))
      (pss_cons (ps_for PassesOwn.never rfl (kr_range1 T.b_range (pa_cons (pv 7) pa_nil)) (pg_name (i := 3) sc__law_beside.nd rfl (Or.inr rfl)) (pss_cons (ps_set (i := 11) sc__law_beside.nd rfl (Or.inr rfl) (pe_op op_add (pv 6) (kb_call (kc_sum K) T.b_sum (pa_cons (pe_lc (own := [("_law_pair", 14)]) rfl sc__law_beside.nd (ki_list K (pe_slice (ks_list K) (pv 2) po_none (po_some (pv 3)))) (blkOk_by (own := [("_law_pair", 14)]) (N := N__law_beside) (sc := defScope s__law_beside) (by decide +kernel)) (fun _ _ _ _ _ => (pg_name (i := 14) sc__law_beside.nd rfl (by first | exact Or.inl rfl | exact Or.inr rfl))) (fun _ _ _ _ _ => pts_nil) (fun _ _ _ _ _ => (kb_call (kc_sum K) T.b_sum (pa_cons (pv 14) pa_nil)))) pa_nil))))
      (pss_one (ps_expr (ke_app K (pv 5) (pa_cons (kt_call (kc_tuple K) T.b_tuple (pa_cons (pe_lc (own := [("_law_row_here", 15)]) rfl sc__law_beside.nd (ki_list K (pe_op op_cat (pe_ix (kx_seq K) (pe_ix (kx_seq K) (pe_ix (kx_seq K) (pv 4) pe_int (fun _ _ => rfl)) pe_int (fun _ _ => rfl)) (pv 3) (fun _ _ => rfl)) (pe_ix (kx_seq K) (pe_ix (kx_seq K) (pe_ix (kx_seq K) (pv 4) pe_int (fun _ _ => rfl)) pe_int (fun _ _ => rfl)) (pv 3) (fun _ _ => rfl)))) (blkOk_by (own := [("_law_row_here", 15)]) (N := N__law_beside) (sc := defScope s__law_beside) (by decide +kernel)) (fun _ _ _ _ _ => (pg_name (i := 15) sc__law_beside.nd rfl (by first | exact Or.inl rfl | exact Or.inr rfl))) (fun _ _ _ _ _ => pts_nil) (fun _ _ _ _ _ => (pe_slice (ks_tupA K) (pv 15) po_none (po_some (pv 11))))) pa_nil)) pa_nil))))))
      (pss_one (ps_ret (pe_tup (pa_cons (kt_call (kc_tuple K) T.b_tuple (pa_cons (pv 5) pa_nil)) (pa_cons (pe_ix (kx_seq K) (pe_ix (kx_seq K) (pv 4) pe_int (fun _ _ => rfl)) pe_int (fun _ _ => rfl)) (pa_cons (pe_ix (kx_seq K) (pe_ix (kx_seq K) (pv 4) pe_int (fun _ _ => rfl)) pe_int (fun _ _ => rfl)) pa_nil))))))))))))),
    (okS_seq (okS_asg (okE_tup (okA_cons (okE_op okIx (okE_var 0) (okE_C fun _ => .int _)) (okA_cons (okE_CB ok2I (okA_cons (okE_CB okLen (okA_cons (okE_op okIx (okE_var 0) (okE_C fun _ => .int _)) okA_nil)) (okA_cons (okE_CB okLen (okA_cons (okE_op okIx (okE_var 1) (okE_C fun _ => .int _)) okA_nil)) okA_nil))) okA_nil))) (okG_tup (okGs_cons (okG_name 6) (okGs_cons (okG_name 7) okGs_nil))))
      (okS_seq (okS_asg (okE_lstO okA_nil) (okG_name 2))
      (okS_seq (okS_for (okI_range1 (okA_cons (okE_var 7) okA_nil)) (okG_name 3) (okS_drop (okE_app (okE_var 2) (okE_lc (okI_tup (okE_tup (okA_cons (okE_var 0) (okA_cons (okE_var 1) okA_nil)))) (okG_name 9) okT_yes (okE_if (okT_test (okE_op okB (okE_var 3) (okE_CB okLen (okA_cons (okE_op okIx (okE_var 9) (okE_C fun _ => .int _)) okA_nil)))) (okE_CB okLen (okA_cons (okE_op okIx (okE_op okIx (okE_var 9) (okE_C fun _ => .int _)) (okE_var 3)) okA_nil)) (okE_C fun _ => .int _)) (by decide)))))
      (okS_frz (i := 2) (okS_seq (okS_asg (okE_lstO okA_nil) (okG_name 4))
      (okS_seq (okS_for (okI_enum (okA_cons (okE_tup (okA_cons (okE_var 0) (okA_cons (okE_var 1) okA_nil))) okA_nil)) (okG_tup (okGs_cons (okG_name 8) (okGs_cons (okG_name 9) okGs_nil))) (okS_seq (okS_asg (okE_lc (okI_tup (okE_op okIx (okE_var 9) (okE_C fun _ => .int _))) (okG_name 12) okT_yes (okE_lc (okI_tup (okE_var 12)) (okG_name 13) okT_yes (okE_call (okA_cons (okE_var 13) (okA_cons (okE_var 6) (okA_cons (okE_var 2) (okA_cons (okE_var 8) okA_nil))))) (by decide)) (by decide)) (okG_name 10))
      (okS_drop (okE_app (okE_var 4) (okE_tup (okA_cons (okE_op okCat (okE_var 10) (okE_op okRep (okE_lst (okA_cons (okE_lst okA_nil) okA_nil)) (okE_op okI (okE_var 7) (okE_CB okLen (okA_cons (okE_var 10) okA_nil))))) (okA_cons (okE_call (okA_cons (okE_op okIx (okE_var 9) (okE_C fun _ => .int _)) (okA_cons (okE_var 6) (okA_cons (okE_var 2) (okA_cons (okE_var 8) okA_nil))))) okA_nil)))))))
      (okS_frz (i := 4) (okS_seq (okS_asg (okE_lstO okA_nil) (okG_name 5))
      (okS_seq (okS_for (okI_range1 (okA_cons (okE_var 7) okA_nil)) (okG_name 3) (okS_seq (okS_asg (okE_op okI (okE_var 6) (okE_CB okSum (okA_cons (okE_lc (okI_list (okE_slc okSlL (okE_var 2) okO_no (okO_part (okE_var 3)))) (okG_name 14) okT_yes (okE_CB okSum (okA_cons (okE_var 14) okA_nil)) (by decide)) okA_nil))) (okG_name 11))
      (okS_drop (okE_app (okE_var 5) (okE_CB okTuple (okA_cons (okE_lc (okI_list (okE_op okCat (okE_op okIx (okE_op okIx (okE_op okIx (okE_var 4) (okE_C fun _ => .int _)) (okE_C fun _ => .int _)) (okE_var 3)) (okE_op okIx (okE_op okIx (okE_op okIx (okE_var 4) (okE_C fun _ => .int _)) (okE_C fun _ => .int _)) (okE_var 3)))) (okG_name 15) okT_yes (okE_slc okSlT (okE_var 15) okO_no (okO_part (okE_var 11))) (by decide)) okA_nil))))))
      (okS_frz (i := 5) (okS_ret (okE_tup (okA_cons (okE_CB okTuple (okA_cons (okE_var 5) okA_nil)) (okA_cons (okE_op okIx (okE_op okIx (okE_var 4) (okE_C fun _ => .int _)) (okE_C fun _ => .int _)) (okA_cons (okE_op okIx (okE_op okIx (okE_var 4) (okE_C fun _ => .int _)) (okE_C fun _ => .int _)) okA_nil)))))))))))))))⟩⟩

abbrev s__law_right : Stmt := topS 58
abbrev N__law_right : List Str := ["_law_vat_here", "_law_inputs", "_law_one", "_law_other", "_law_both", "_law_unit", "_law_row_here", "_law_left", "_law_right_here", "_law_number", "_law_layers", "_law_first", "_law_second", "_law_told_here", "_law_here", "_law_there", "_law_network", "_law_weight"]
theorem sc__law_right : FnScope N__law_right ["_law_vat_here"] (defScope s__law_right) := ⟨rfl, rfl, rfl, by decide +kernel, rfl, by decide +kernel, by decide +kernel⟩
def r__law_right (C : Addr) : RS :=
  (rSeq (rAsg (rOp (oI fun i j => i + j) (rC (.int 1)) (rCall d__law_draw (rCons (rVar 0) (rCons (rC (.int 4)) rNil)))) (rgName 1))
  (rSeq (rAsg (rOp oCatT (rTup (rCons (rVar 1) rNil)) (rCall d__law_parts (rCons (rVar 0) (rCons (rVar 1) (rCons (rCall d__law_draw (rCons (rVar 0) (rCons (rC (.int 4)) rNil))) (rCons (rC (.int 3)) (rCons (rC (.int 5)) rNil))))))) (rgName 2))
  (rSeq (rAsg (rOp oCatT (rTup (rCons (rVar 1) rNil)) (rCall d__law_parts (rCons (rVar 0) (rCons (rVar 1) (rCons (rCall d__law_draw (rCons (rVar 0) (rCons (rC (.int 4)) rNil))) (rCons (rC (.int 3)) (rCons (rC (.int 5)) rNil))))))) (rgName 3))
  (rSeq (rAsg (rTup (rCons (rMk C inm_Network (rCons (rOp oIx (rVar 2) (rC (.int 0))) (rCons (rOp oIx (rVar 2) (rC (.int 1))) (rCons (rOp oIx (rVar 2) (rC (.int 2))) rNil)))) (rCons (rMk C inm_Network (rCons (rOp oIx (rVar 3) (rC (.int 0))) (rCons (rOp oIx (rVar 3) (rC (.int 1))) (rCons (rOp oIx (rVar 3) (rC (.int 2))) rNil)))) (rCons (rCall d__law_pick (rCons (rVar 0) (rCons (rLst (rCons (rC (.int 0)) (rCons (rC (.int 1)) (rCons (rUn oNeg (rC (.int 1))) (rCons (rC (.int 3)) (rCons (rUn oNeg (rOp (oIc CPowW fun i j => i ^ j.toNat) (rC (.int 10)) (rC (.int 30)))) rNil)))))) rNil))) rNil)))) (rgTup 3 (rgCons (rgName 7) (rgCons (rgName 8) (rgCons (rgName 9) rgNil)))))
  (rSeq (rAsg (rCall d__law_beside (rCons (rVar 2) (rCons (rVar 3) rNil))) (rgTup 3 (rgCons (rgName 10) (rgCons (rgName 11) (rgCons (rgName 12) rgNil)))))
  (rSeq (rAsg (rMk C inm_Network (rCons (rVar 1) (rCons (rVar 10) (rCons (rCB oTuple (rCons (rLc (rIZ (rCons (rVar 11) (rCons (rVar 12) rNil))) (rgTup 2 (rgCons (rgName 14) (rgCons (rgName 15) rgNil))) rYes (rOp (oI fun i j => i + j) (rVar 14) (rVar 15)) [14, 15]) rNil)) rNil)))) (rgName 4))
  (rSeq (rAsg (rCB oTuple (rCons (rLc (rIZ (rCons (rVar 11) (rCons (rVar 12) rNil))) (rgTup 2 (rgCons (rgName 14) (rgCons (rgName 15) rgNil))) rYes (rOp (oI fun i j => i - j) (rVar 14) (rVar 15)) [14, 15]) rNil)) (rgName 5))
  (rSeq (rIfS (rOr (rB (rOp (oNeC C (d_eq C)) (rCall (d_added C) (rCons (rVar 7) (rCons (rVar 8) rNil))) (rVar 4))) (rB (rOp oNe (rGet C (d_depth C) (rCall (d_added C) (rCons (rVar 7) (rCons (rVar 8) rNil)))) (rCB (o2I fun i j => if j > i then j else i) (rCons (rGet C (d_depth C) (rVar 7)) (rCons (rGet C (d_depth C) (rVar 8)) rNil)))))) (rRet (rC (.bl false))) rNext)
  (rSeq (rIfS (rB (rOp (oNeC C (d_eq C)) (rCall (d_multiplied C) (rCons (rVar 7) (rCons (rVar 9) rNil))) (rMk C inm_Network (rCons (rVar 1) (rCons (rOp oIx (rVar 2) (rC (.int 1))) (rCons (rCB oTuple (rCons (rLc (rIT (rOp oIx (rVar 2) (rC (.int 2)))) (rgName 17) rYes (rOp (oIc CMulW fun i j => i * j) (rVar 9) (rVar 17)) [17]) rNil)) rNil)))))) (rRet (rC (.bl false))) rNext)
  (rSeq (rIfS (rB (rOp (oNeC C (d_eq C)) (rCall (d_ramped C) (rCons (rVar 7) rNil)) (rMk C inm_Network (rCons (rVar 1) (rCons (rOp oCatT (rOp oIx (rVar 2) (rC (.int 1))) (rTup (rCons (rTup (rCons (rOp oIx (rVar 2) (rC (.int 2))) rNil)) rNil))) (rCons (rOp oCatT (rOp oRepT (rTup (rCons (rC (.int 0)) rNil)) (rCB oLen (rCons (rOp oIx (rVar 2) (rC (.int 2))) rNil))) (rTup (rCons (rC (.int 1)) rNil))) rNil)))))) (rRet (rC (.bl false))) rNext)
  (rSeq (rIfS (rB (rOp (oNeC C (d_eq C)) (rCall (d_greater C) (rCons (rVar 7) (rCons (rVar 8) rNil))) (rMk C inm_Network (rCons (rVar 1) (rCons (rOp oCatT (rVar 10) (rTup (rCons (rTup (rCons (rVar 5) rNil)) rNil))) (rCons (rOp oCatT (rVar 12) (rTup (rCons (rC (.int 1)) rNil))) rNil)))))) (rRet (rC (.bl false))) rNext)
  (rSeq (rFor (rIL (rCall d__law_rows (rCons (rVar 0) (rCons (rVar 1) (rCons (rC (.int 6)) rNil))))) (rgName 6) (rSeq (rPar 14 15 (rCons (rCall d__law_value (rCons (rOp oIx (rVar 2) (rC (.int 0))) (rCons (rOp oIx (rVar 2) (rC (.int 1))) (rCons (rOp oIx (rVar 2) (rC (.int 2))) (rCons (rVar 6) rNil))))) (rCons (rCall d__law_value (rCons (rOp oIx (rVar 3) (rC (.int 0))) (rCons (rOp oIx (rVar 3) (rC (.int 1))) (rCons (rOp oIx (rVar 3) (rC (.int 2))) (rCons (rVar 6) rNil))))) rNil)))
  (rSeq (rAsg (rLc (rIT (rTup (rCons (rCall (d_added C) (rCons (rVar 7) (rCons (rVar 8) rNil))) (rCons (rCall (d_multiplied C) (rCons (rVar 7) (rCons (rVar 9) rNil))) (rCons (rCall (d_ramped C) (rCons (rVar 8) rNil)) (rCons (rCall (d_greater C) (rCons (rVar 7) (rCons (rVar 8) rNil))) rNil)))))) (rgName 16) rYes (rCall (d_value_of C) (rCons (rVar 16) (rCons (rVar 6) rNil))) [16]) (rgName 13))
  (rIfS (rB (rOp oNe (rVar 13) (rLst (rCons (rOp (oI fun i j => i + j) (rVar 14) (rVar 15)) (rCons (rOp (oIc CMulW fun i j => i * j) (rVar 9) (rVar 14)) (rCons (rCB (o2I fun i j => if j > i then j else i) (rCons (rC (.int 0)) (rCons (rVar 15) rNil))) (rCons (rCB (o2I fun i j => if j > i then j else i) (rCons (rVar 14) (rCons (rVar 15) rNil))) rNil))))))) (rRet (rC (.bl false))) rNext))))
  (rRet (rC (.bl true)))))))))))))))
theorem b__law_right (F__law_draw : FnD P w K mg base "_law_draw" 32 d__law_draw) (F__law_parts : FnD P w K mg base "_law_parts" 37 d__law_parts) (F__law_pick : FnD P w K mg base "_law_pick" 33 d__law_pick) (F__law_beside : FnD P w K mg base "_law_beside" 41 d__law_beside) (F_added : FnD P w K mg base "added" 27 (d_added C)) (F_multiplied : FnD P w K mg base "multiplied" 28 (d_multiplied C)) (F_ramped : FnD P w K mg base "ramped" 29 (d_ramped C)) (F_greater : FnD P w K mg base "greater" 30 (d_greater C)) (F__law_rows : FnD P w K mg base "_law_rows" 39 d__law_rows) (F__law_value : FnD P w K mg base "_law_value" 38 d__law_value) (F_value_of : FnD P w K mg base "value_of" 14 (d_value_of C)) (M_Network : MakD P w K mg base 7 "Network" C (spMk K C inm_Network)) (E_Network : SpD P w K mg base C "__eq__" 2 (d_eq C)) (Q_depth : PropD P w K mg base C "depth" 1 (d_depth C)) (T : TxC K mg C) : Body P w K mg base 41 "_law_right" s__law_right N__law_right (r__law_right C) := by
  refine fun f => ⟨_, fun cdv A outer s H E hr => ⟨(pss_cons (ps_set (i := 1) sc__law_right.nd rfl (Or.inl rfl) (pe_op op_add pe_int (ke_call K F__law_draw hr (pa_cons (pv 0) (pa_cons pe_int pa_nil)))))
      (pss_cons (ps_set (i := 2) sc__law_right.nd rfl (Or.inl rfl) (pe_op (ko_catA K) (pe_tup (pa_cons (pv 1) pa_nil)) (ke_call K F__law_parts hr (pa_cons (pv 0) (pa_cons (pv 1) (pa_cons (ke_call K F__law_draw hr (pa_cons (pv 0) (pa_cons pe_int pa_nil))) (pa_cons pe_int (pa_cons pe_int pa_nil))))))))
      (pss_cons (ps_set (i := 3) sc__law_right.nd rfl (Or.inl rfl) (pe_op (ko_catA K) (pe_tup (pa_cons (pv 1) pa_nil)) (ke_call K F__law_parts hr (pa_cons (pv 0) (pa_cons (pv 1) (pa_cons (ke_call K F__law_draw hr (pa_cons (pv 0) (pa_cons pe_int pa_nil))) (pa_cons pe_int (pa_cons pe_int pa_nil))))))))
      (pss_cons (ps_asg (pe_tup (pa_cons (ke_mk M_Network hr (pa_cons (pe_ix (kx_seq K) (pv 2) pe_int (fun _ _ => rfl)) (pa_cons (pe_ix (kx_seq K) (pv 2) pe_int (fun _ _ => rfl)) (pa_cons (pe_ix (kx_seq K) (pv 2) pe_int (fun _ _ => rfl)) pa_nil)))) (pa_cons (ke_mk M_Network hr (pa_cons (pe_ix (kx_seq K) (pv 3) pe_int (fun _ _ => rfl)) (pa_cons (pe_ix (kx_seq K) (pv 3) pe_int (fun _ _ => rfl)) (pa_cons (pe_ix (kx_seq K) (pv 3) pe_int (fun _ _ => rfl)) pa_nil)))) (pa_cons (ke_call K F__law_pick hr (pa_cons (pv 0) (pa_cons (pe_lst (pa_cons pe_int (pa_cons pe_int (pa_cons (pe_un un_neg pe_int) (pa_cons pe_int (pa_cons (pe_un un_neg (pe_op op_powW pe_int pe_int)) pa_nil)))))) pa_nil))) pa_nil)))) (kg_tup K (pgs_cons (pg_name (i := 7) sc__law_right.nd rfl (Or.inl rfl)) (pgs_cons (pg_name (i := 8) sc__law_right.nd rfl (Or.inl rfl)) (pgs_cons (pg_name (i := 9) sc__law_right.nd rfl (Or.inr rfl)) pgs_nil)))))
      (pss_cons (ps_asg (ke_call K F__law_beside hr (pa_cons (pv 2) (pa_cons (pv 3) pa_nil))) (kg_tup K (pgs_cons (pg_name (i := 10) sc__law_right.nd rfl (Or.inl rfl)) (pgs_cons (pg_name (i := 11) sc__law_right.nd rfl (Or.inl rfl)) (pgs_cons (pg_name (i := 12) sc__law_right.nd rfl (Or.inl rfl)) pgs_nil)))))
      (pss_cons (ps_set (i := 4) sc__law_right.nd rfl (Or.inl rfl) (ke_mk M_Network hr (pa_cons (pv 1) (pa_cons (pv 10) (pa_cons (kt_call (kc_tuple K) T.b_tuple (pa_cons (pe_lc (own := [("_law_here", 14), ("_law_there", 15)]) rfl sc__law_right.nd (ki_zip K (by rfl) T.b_zip (pa_cons (pv 11) (pa_cons (pv 12) pa_nil))) (blkOk_by (own := [("_law_here", 14), ("_law_there", 15)]) (N := N__law_right) (sc := defScope s__law_right) (by decide +kernel)) (fun _ _ _ _ _ => (kg_tup K (pgs_cons (pg_name (i := 14) sc__law_right.nd rfl (by first | exact Or.inl rfl | exact Or.inr rfl)) (pgs_cons (pg_name (i := 15) sc__law_right.nd rfl (by first | exact Or.inl rfl | exact Or.inr rfl)) pgs_nil)))) (fun _ _ _ _ _ => pts_nil) (fun _ _ _ _ _ => (pe_op op_add (pv 14) (pv 15)))) pa_nil)) pa_nil)))))
      (pss_cons (ps_set (i := 5) sc__law_right.nd rfl (Or.inl rfl) (kt_call (kc_tuple K) T.b_tuple (pa_cons (pe_lc (own := [("_law_here", 14), ("_law_there", 15)]) rfl sc__law_right.nd (ki_zip K (by rfl) T.b_zip (pa_cons (pv 11) (pa_cons (pv 12) pa_nil))) (blkOk_by (own := [("_law_here", 14), ("_law_there", 15)]) (N := N__law_right) (sc := defScope s__law_right) (by decide +kernel)) (fun _ _ _ _ _ => (kg_tup K (pgs_cons (pg_name (i := 14) sc__law_right.nd rfl (by first | exact Or.inl rfl | exact Or.inr rfl)) (pgs_cons (pg_name (i := 15) sc__law_right.nd rfl (by first | exact Or.inl rfl | exact Or.inr rfl)) pgs_nil)))) (fun _ _ _ _ _ => pts_nil) (fun _ _ _ _ _ => (pe_op op_sub (pv 14) (pv 15)))) pa_nil)))
      (pss_cons (ps_if (PW.pt (pw_or (pt_cmpR (ko_neC T.cmp E_Network hr) (ke_call K F_added hr (pa_cons (pv 7) (pa_cons (pv 8) pa_nil))) (pv 4) (nomark _)) (pw_or1 (pt_cmpR (ko_neD K hr.units) (ke_prop K T.cmp.cls Q_depth hr (ke_call K F_added hr (pa_cons (pv 7) (pa_cons (pv 8) pa_nil)))) (kb_call (call_max2 rfl) T.b_max (pa_cons (ke_prop K T.cmp.cls Q_depth hr (pv 7)) (pa_cons (ke_prop K T.cmp.cls Q_depth hr (pv 8)) pa_nil))) (nomark _))))) (pss_one (ps_ret pe_bl)) pss_nil)
      (pss_cons (ps_if (pt_cmpR (ko_neC T.cmp E_Network hr) (ke_call K F_multiplied hr (pa_cons (pv 7) (pa_cons (pv 9) pa_nil))) (ke_mk M_Network hr (pa_cons (pv 1) (pa_cons (pe_ix (kx_seq K) (pv 2) pe_int (fun _ _ => rfl)) (pa_cons (kt_call (kc_tuple K) T.b_tuple (pa_cons (pe_lc (own := [("_law_weight", 17)]) rfl sc__law_right.nd (ki_tup K (pe_ix (kx_seq K) (pv 2) pe_int (fun _ _ => rfl))) (blkOk_by (own := [("_law_weight", 17)]) (N := N__law_right) (sc := defScope s__law_right) (by decide +kernel)) (fun _ _ _ _ _ => (pg_name (i := 17) sc__law_right.nd rfl (by first | exact Or.inl rfl | exact Or.inr rfl))) (fun _ _ _ _ _ => pts_nil) (fun _ _ _ _ _ => (pe_op op_mulW (pv 9) (pv 17)))) pa_nil)) pa_nil)))) (nomark _)) (pss_one (ps_ret pe_bl)) pss_nil)
      (pss_cons (ps_if (pt_cmpR (ko_neC T.cmp E_Network hr) (ke_call K F_ramped hr (pa_cons (pv 7) pa_nil)) (ke_mk M_Network hr (pa_cons (pv 1) (pa_cons (pe_op (ko_catA K) (pe_ix (kx_seq K) (pv 2) pe_int (fun _ _ => rfl)) (pe_tup (pa_cons (pe_tup (pa_cons (pe_ix (kx_seq K) (pv 2) pe_int (fun _ _ => rfl)) pa_nil)) pa_nil))) (pa_cons (pe_op (ko_catA K) (pe_op (ko_repTA K) (pe_tup (pa_cons pe_int pa_nil)) (kb_call (kc_len K) T.b_len (pa_cons (pe_ix (kx_seq K) (pv 2) pe_int (fun _ _ => rfl)) pa_nil))) (pe_tup (pa_cons pe_int pa_nil))) pa_nil)))) (nomark _)) (pss_one (ps_ret pe_bl)) pss_nil)
      (pss_cons (ps_if (pt_cmpR (ko_neC T.cmp E_Network hr) (ke_call K F_greater hr (pa_cons (pv 7) (pa_cons (pv 8) pa_nil))) (ke_mk M_Network hr (pa_cons (pv 1) (pa_cons (pe_op (ko_catA K) (pv 10) (pe_tup (pa_cons (pe_tup (pa_cons (pv 5) pa_nil)) pa_nil))) (pa_cons (pe_op (ko_catA K) (pv 12) (pe_tup (pa_cons pe_int pa_nil))) pa_nil)))) (nomark _)) (pss_one (ps_ret pe_bl)) pss_nil)
      (pss_cons (ps_for PassesOwn.never rfl (ki_list K (ke_call K F__law_rows hr (pa_cons (pv 0) (pa_cons (pv 1) (pa_cons pe_int pa_nil))))) (pg_name (i := 6) sc__law_right.nd rfl (Or.inr rfl)) (pss_cons (ps_par (i := 14) (j := 15) rfl sc__law_right.nd rfl rfl (by decide) rfl rfl (pa_cons (ke_call K F__law_value hr (pa_cons (pe_ix (kx_seq K) (pv 2) pe_int (fun _ _ => rfl)) (pa_cons (pe_ix (kx_seq K) (pv 2) pe_int (fun _ _ => rfl)) (pa_cons (pe_ix (kx_seq K) (pv 2) pe_int (fun _ _ => rfl)) (pa_cons (pv 6) pa_nil))))) (pa_cons (ke_call K F__law_value hr (pa_cons (pe_ix (kx_seq K) (pv 3) pe_int (fun _ _ => rfl)) (pa_cons (pe_ix (kx_seq K) (pv 3) pe_int (fun _ _ => rfl)) (pa_cons (pe_ix (kx_seq K) (pv 3) pe_int (fun _ _ => rfl)) (pa_cons (pv 6) pa_nil))))) pa_nil)) rfl)
      (pss_cons (ps_setLc (i := 13) (own := [("_law_network", 16)]) rfl sc__law_right.nd rfl rfl (sw_true rfl rfl rfl (by decide +kernel)) (ki_tup K (pe_tup (pa_cons (ke_call K F_added hr (pa_cons (pv 7) (pa_cons (pv 8) pa_nil))) (pa_cons (ke_call K F_multiplied hr (pa_cons (pv 7) (pa_cons (pv 9) pa_nil))) (pa_cons (ke_call K F_ramped hr (pa_cons (pv 8) pa_nil)) (pa_cons (ke_call K F_greater hr (pa_cons (pv 7) (pa_cons (pv 8) pa_nil))) pa_nil)))))) (blkOk_by (own := [("_law_network", 16)]) (N := N__law_right) (sc := defScope s__law_right) (by decide +kernel)) (fun _ _ _ _ _ => (pg_name (i := 16) sc__law_right.nd rfl (by first | exact Or.inl rfl | exact Or.inr rfl))) (fun _ _ _ _ _ => pts_nil) (fun _ _ _ _ _ => (ke_call K F_value_of hr (pa_cons (pv 16) (pa_cons (pv 6) pa_nil)))))
      (pss_one (ps_if (pt_cmpR (ko_neD K hr.units) (pv 13) (pe_lst (pa_cons (pe_op op_add (pv 14) (pv 15)) (pa_cons (pe_op op_mulW (pv 9) (pv 14)) (pa_cons (kb_call (call_max2 rfl) T.b_max (pa_cons pe_int (pa_cons (pv 15) pa_nil))) (pa_cons (kb_call (call_max2 rfl) T.b_max (pa_cons (pv 14) (pa_cons (pv 15) pa_nil))) pa_nil))))) (nomark _)) (pss_one (ps_ret pe_bl)) pss_nil)))))
      (pss_one (ps_ret pe_bl)))))))))))))),
    (okS_seq (okS_asg (okE_op okI (okE_C fun _ => .int _) (okE_call (okA_cons (okE_var 0) (okA_cons (okE_C fun _ => .int _) okA_nil)))) (okG_name 1))
      (okS_seq (okS_asg (okE_op okCatT (okE_tup (okA_cons (okE_var 1) okA_nil)) (okE_call (okA_cons (okE_var 0) (okA_cons (okE_var 1) (okA_cons (okE_call (okA_cons (okE_var 0) (okA_cons (okE_C fun _ => .int _) okA_nil))) (okA_cons (okE_C fun _ => .int _) (okA_cons (okE_C fun _ => .int _) okA_nil))))))) (okG_name 2))
      (okS_seq (okS_asg (okE_op okCatT (okE_tup (okA_cons (okE_var 1) okA_nil)) (okE_call (okA_cons (okE_var 0) (okA_cons (okE_var 1) (okA_cons (okE_call (okA_cons (okE_var 0) (okA_cons (okE_C fun _ => .int _) okA_nil))) (okA_cons (okE_C fun _ => .int _) (okA_cons (okE_C fun _ => .int _) okA_nil))))))) (okG_name 3))
      (okS_seq (okS_asg (okE_tup (okA_cons (okE_mk (okA_cons (okE_op okIx (okE_var 2) (okE_C fun _ => .int _)) (okA_cons (okE_op okIx (okE_var 2) (okE_C fun _ => .int _)) (okA_cons (okE_op okIx (okE_var 2) (okE_C fun _ => .int _)) okA_nil)))) (okA_cons (okE_mk (okA_cons (okE_op okIx (okE_var 3) (okE_C fun _ => .int _)) (okA_cons (okE_op okIx (okE_var 3) (okE_C fun _ => .int _)) (okA_cons (okE_op okIx (okE_var 3) (okE_C fun _ => .int _)) okA_nil)))) (okA_cons (okE_call (okA_cons (okE_var 0) (okA_cons (okE_lst (okA_cons (okE_C fun _ => .int _) (okA_cons (okE_C fun _ => .int _) (okA_cons (okE_un okNeg (okE_C fun _ => .int _)) (okA_cons (okE_C fun _ => .int _) (okA_cons (okE_un okNeg (okE_op okIc (okE_C fun _ => .int _) (okE_C fun _ => .int _))) okA_nil)))))) okA_nil))) okA_nil)))) (okG_tup (okGs_cons (okG_name 7) (okGs_cons (okG_name 8) (okGs_cons (okG_name 9) okGs_nil)))))
      (okS_seq (okS_asg (okE_call (okA_cons (okE_var 2) (okA_cons (okE_var 3) okA_nil))) (okG_tup (okGs_cons (okG_name 10) (okGs_cons (okG_name 11) (okGs_cons (okG_name 12) okGs_nil)))))
      (okS_seq (okS_asg (okE_mk (okA_cons (okE_var 1) (okA_cons (okE_var 10) (okA_cons (okE_CB okTuple (okA_cons (okE_lc (okI_zip (okA_cons (okE_var 11) (okA_cons (okE_var 12) okA_nil))) (okG_tup (okGs_cons (okG_name 14) (okGs_cons (okG_name 15) okGs_nil))) okT_yes (okE_op okI (okE_var 14) (okE_var 15)) (by decide)) okA_nil)) okA_nil)))) (okG_name 4))
      (okS_seq (okS_asg (okE_CB okTuple (okA_cons (okE_lc (okI_zip (okA_cons (okE_var 11) (okA_cons (okE_var 12) okA_nil))) (okG_tup (okGs_cons (okG_name 14) (okGs_cons (okG_name 15) okGs_nil))) okT_yes (okE_op okI (okE_var 14) (okE_var 15)) (by decide)) okA_nil)) (okG_name 5))
      (okS_seq (okS_if (okT_or (okT_test (okE_op (okNeC T.cmp) (okE_call (okA_cons (okE_var 7) (okA_cons (okE_var 8) okA_nil))) (okE_var 4))) (okT_test (okE_op okNe (okE_prop (okE_call (okA_cons (okE_var 7) (okA_cons (okE_var 8) okA_nil)))) (okE_CB ok2I (okA_cons (okE_prop (okE_var 7)) (okA_cons (okE_prop (okE_var 8)) okA_nil)))))) (okS_ret (okE_C fun _ => .bl _)) okS_next)
      (okS_seq (okS_if (okT_test (okE_op (okNeC T.cmp) (okE_call (okA_cons (okE_var 7) (okA_cons (okE_var 9) okA_nil))) (okE_mk (okA_cons (okE_var 1) (okA_cons (okE_op okIx (okE_var 2) (okE_C fun _ => .int _)) (okA_cons (okE_CB okTuple (okA_cons (okE_lc (okI_tup (okE_op okIx (okE_var 2) (okE_C fun _ => .int _))) (okG_name 17) okT_yes (okE_op okIc (okE_var 9) (okE_var 17)) (by decide)) okA_nil)) okA_nil)))))) (okS_ret (okE_C fun _ => .bl _)) okS_next)
      (okS_seq (okS_if (okT_test (okE_op (okNeC T.cmp) (okE_call (okA_cons (okE_var 7) okA_nil)) (okE_mk (okA_cons (okE_var 1) (okA_cons (okE_op okCatT (okE_op okIx (okE_var 2) (okE_C fun _ => .int _)) (okE_tup (okA_cons (okE_tup (okA_cons (okE_op okIx (okE_var 2) (okE_C fun _ => .int _)) okA_nil)) okA_nil))) (okA_cons (okE_op okCatT (okE_op okRepT (okE_tup (okA_cons (okE_C fun _ => .int _) okA_nil)) (okE_CB okLen (okA_cons (okE_op okIx (okE_var 2) (okE_C fun _ => .int _)) okA_nil))) (okE_tup (okA_cons (okE_C fun _ => .int _) okA_nil))) okA_nil)))))) (okS_ret (okE_C fun _ => .bl _)) okS_next)
      (okS_seq (okS_if (okT_test (okE_op (okNeC T.cmp) (okE_call (okA_cons (okE_var 7) (okA_cons (okE_var 8) okA_nil))) (okE_mk (okA_cons (okE_var 1) (okA_cons (okE_op okCatT (okE_var 10) (okE_tup (okA_cons (okE_tup (okA_cons (okE_var 5) okA_nil)) okA_nil))) (okA_cons (okE_op okCatT (okE_var 12) (okE_tup (okA_cons (okE_C fun _ => .int _) okA_nil))) okA_nil)))))) (okS_ret (okE_C fun _ => .bl _)) okS_next)
      (okS_seq (okS_for (okI_list (okE_call (okA_cons (okE_var 0) (okA_cons (okE_var 1) (okA_cons (okE_C fun _ => .int _) okA_nil))))) (okG_name 6) (okS_seq (okS_par (okA_cons (okE_call (okA_cons (okE_op okIx (okE_var 2) (okE_C fun _ => .int _)) (okA_cons (okE_op okIx (okE_var 2) (okE_C fun _ => .int _)) (okA_cons (okE_op okIx (okE_var 2) (okE_C fun _ => .int _)) (okA_cons (okE_var 6) okA_nil))))) (okA_cons (okE_call (okA_cons (okE_op okIx (okE_var 3) (okE_C fun _ => .int _)) (okA_cons (okE_op okIx (okE_var 3) (okE_C fun _ => .int _)) (okA_cons (okE_op okIx (okE_var 3) (okE_C fun _ => .int _)) (okA_cons (okE_var 6) okA_nil))))) okA_nil)))
      (okS_seq (okS_asg (okE_lc (okI_tup (okE_tup (okA_cons (okE_call (okA_cons (okE_var 7) (okA_cons (okE_var 8) okA_nil))) (okA_cons (okE_call (okA_cons (okE_var 7) (okA_cons (okE_var 9) okA_nil))) (okA_cons (okE_call (okA_cons (okE_var 8) okA_nil)) (okA_cons (okE_call (okA_cons (okE_var 7) (okA_cons (okE_var 8) okA_nil))) okA_nil)))))) (okG_name 16) okT_yes (okE_call (okA_cons (okE_var 16) (okA_cons (okE_var 6) okA_nil))) (by decide)) (okG_name 13))
      (okS_if (okT_test (okE_op okNe (okE_var 13) (okE_lst (okA_cons (okE_op okI (okE_var 14) (okE_var 15)) (okA_cons (okE_op okIc (okE_var 9) (okE_var 14)) (okA_cons (okE_CB ok2I (okA_cons (okE_C fun _ => .int _) (okA_cons (okE_var 15) okA_nil))) (okA_cons (okE_CB ok2I (okA_cons (okE_var 14) (okA_cons (okE_var 15) okA_nil))) okA_nil))))))) (okS_ret (okE_C fun _ => .bl _)) okS_next))))
      (okS_ret (okE_C fun _ => .bl _))))))))))))))⟩⟩


end
end K20


set_option Elab.async false
set_option linter.all false
set_option maxRecDepth 100000
set_option maxHeartbeats 4000000
namespace K20
open PySem PySem.Spec PyProof.Rows L2 SlX StX DL
def mineL (q : Nat) (R : List Int) : List Int := R.take q ++ zeros (q - R.length)
def partL (side : Bool) (p : Nat × Nat) (R : List Int) : Nat → List Int
  | 0 => []
  | 1 => if side = true then zeros p.1 else mineL p.1 R
  | _ => if side = true then zeros p.1 ++ mineL p.2 R else mineL p.1 R ++ zeros p.2
def offL (side : Bool) (p : Nat × Nat) : Nat → Nat
  | 0 => 0
  | 1 => if side = true then 0 else p.1
  | _ => if side = true then p.2 else p.1
section
variable {P : Program} {w : World} {K : PySem.W.Frag} {mg : Str → Option Value} {base : Heap} {C : Addr}
theorem sum_le {ss : List (Nat × Nat)} (h : ∀ s ∈ ss, s.1 ≤ 64 ∧ s.2 ≤ 64) : (ss.map fun p => p.1 + p.2).sum ≤ 128 * ss.length := by
  induction ss with
  | nil => simp
  | cons s ss ih =>
    have h1 := h s (by simp)
    have := ih (fun t ht => h t (List.mem_cons_of_mem _ ht))
    simp only [List.map_cons, List.sum_cons, List.length_cons]
    omega
theorem mineL_len (q : Nat) (R : List Int) : (mineL q R).length = q := by simp [mineL, zeros]; omega
theorem partL_len (side : Bool) (p : Nat × Nat) (R : List Int) (j : Nat) : (partL side p R j).length ≤ p.1 + p.2 := by
  unfold partL
  have h1 := mineL_len p.1 R
  have h2 := mineL_len p.2 R
  split
  · simp
  · split
    · simp [zeros]
    · rw [h1]; omega
  · split
    · simp [zeros, h2]
    · simp [zeros, h1]
theorem ok__law_spread (a : At K mg "_law_spread" s__law_spread) (T : TxC K mg C) : FnD P w K mg base "_law_spread" 40 d__law_spread := by
  refine fnD_of a (b__law_spread T) sc__law_spread (fun _ _ _ _ _ _ us hl => match us, hl with | [_, _, _, _], _ => rfl) ?_ ?_
  · rintro ds μ k ⟨r, n, ss, side, rfl, _⟩; rfl
  · rintro ds μ k ⟨r, n, ss, side, rfl, hs, hl, hr, h⟩
    unfold r__law_spread
    refine seq_gen fun NX hNX => ?_
    simp
    rw [cut_take]
    subst hNX
    refine seq_gen fun NX hNX => ?_
    refine for_inv ss pairL (fun i δ μ' => μ' = μ ∧ ∃ x4 x7 x8, δ = [some (rowD r), some (.int (n : Nat)), some (.lst (ss.map pairL)), some (.int (sideN side)), x4, some (.lst (intsD (r.take n ++ lspr side (ss.take i) (r.drop n)))), some (.int ((n + ((ss.take i).map (sel side)).sum : Nat) : Int)), x7, x8]) (fun kk hk => ?_) (fun i p δ μ' hp z => ?_) (fun δ μ' z => ?_)
    · simp
      exact hk _ _ (.l _) ⟨rfl, none, none, none, by simp [lspr, intsD]⟩ (fun _ _ _ _ => trivial)
    · obtain ⟨rfl, x4, x7, x8, rfl⟩ := z
      have hp' := hs p (List.mem_of_getElem? hp)
      have hoff := sel_sum (side := side) (ss := ss.take i) (fun t ht => hs t (List.mem_of_mem_take ht))
      have hil : (ss.take i).length ≤ 4 := by rw [List.length_take]; omega
      have hsl := lspr_len side (ss.take i) (r.drop n)
      have hsl2 := sum_le (ss := ss.take i) (fun t ht => hs t (List.mem_of_mem_take ht))
      have hsp := lspr_snoc side (ss.take i) p (r.drop n)
      have hts := take_succ_of hp
      have hsum : (((ss.take (i + 1)).map (sel side)).sum) = ((ss.take i).map (sel side)).sum + sel side p := by rw [hts, List.map_append, List.sum_append]; simp
      rw [← hts] at hsp
      rw [hsp, hsum]
      generalize ((ss.take i).map (sel side)).sum = o at hoff ⊢
      have hS : (lspr side (ss.take i) (r.drop n)).length ≤ 512 := by omega
      generalize lspr side (ss.take i) (r.drop n) = S at hS ⊢
      simp only [rgName, List.set_cons_succ, List.set_cons_zero]
      clear hNX hsp hsum hts hsl hsl2
      simp
      refine for_inv [(0 : Int), 1] D.int (fun j δ μ'' => μ'' = μ' ∧ ∃ x7 x8, δ = [some (rowD r), some (.int (n : Nat)), some (.lst (ss.map pairL)), some (.int (sideN side)), some (pairL p), some (.lst (intsD (r.take n ++ (S ++ partL side p ((r.drop n).drop o) j)))), some (.int ((n + o + offL side p j : Nat) : Int)), x7, x8]) (fun kk hk => ?_) (fun j c δ μ'' hc z => ?_) (fun δ μ'' z => ?_)
      · simp
        exact hk _ _ (.l _) ⟨rfl, x7, x8, by simp [partL, offL]⟩ (fun _ _ _ _ => trivial)
      · obtain ⟨rfl, x7, x8, rfl⟩ := z
        have hB : (r.take n ++ (S ++ partL side p ((r.drop n).drop o) j)).length ≤ 2000 := by
          have h1 := partL_len side p ((r.drop n).drop o) j
          rw [List.length_append, List.length_append, List.length_take]
          omega
        have ecut : ∀ q : Nat, DL.cutD (intsD r) (some ((n : Int) + (o : Nat))) (some ((n : Int) + (o : Nat) + (q : Nat))) = intsD ((r.drop (n + o)).take q) := fun q => by
          have := cut_both r (n + o) (n + o + q)
          rw [Nat.add_sub_cancel_left] at this
          rw [← this]
          congr 2 <;> simp
        have em : ∀ q L : Nat, q - min q L = q - L := fun q L => by omega
        have q0 : atI [D.int (p.1 : Nat), D.int (p.2 : Nat)] 0 = some (.int (p.1 : Nat)) := rfl
        have q1 : atI [D.int (p.1 : Nat), D.int (p.2 : Nat)] 1 = some (.int (p.2 : Nat)) := rfl
        have hj : j = 0 ∧ c = 0 ∨ j = 1 ∧ c = 1 := by
          match j, hc with
          | 0, hc => left; simp at hc; exact ⟨rfl, hc.symm⟩
          | 1, hc => right; simp at hc; exact ⟨rfl, hc.symm⟩
          | j + 2, hc => simp at hc
        rcases hj with ⟨rfl, rfl⟩ | ⟨rfl, rfl⟩ <;> cases side
        · simp [sideN, offL, pairL, q0, ecut]
          rw [List.length_append, List.length_append, List.length_take] at hB
          refine ⟨by rw [List.drop_drop] at hB; omega, by omega, by omega, by rw [List.drop_drop] at hB; omega, ?_⟩
          simp [partL, mineL, zeros, em]
        · simp [sideN, offL, pairL, q0, ecut]
          rw [List.length_append, List.length_append, List.length_take] at hB
          refine ⟨by omega, by rw [List.drop_drop] at hB; omega, ?_⟩
          simp [partL, mineL, zeros, em]
        · simp [sideN, offL, pairL, q1, ecut]
          rw [List.length_append, List.length_append, List.length_take] at hB
          refine ⟨by omega, by rw [List.drop_drop] at hB; omega, ?_⟩
          simp [partL, mineL, zeros, em]
        · simp [sideN, offL, pairL, q1, ecut]
          rw [List.length_append, List.length_append, List.length_take] at hB
          refine ⟨by rw [List.drop_drop] at hB; omega, by omega, by omega, by rw [List.drop_drop] at hB; omega, ?_⟩
          simp [partL, mineL, zeros, em]
      · obtain ⟨rfl, x7, x8, rfl⟩ := z
        simp
        refine ⟨?_, ?_⟩
        · cases side <;> simp [partL, mineL]
        · cases side <;> simp [offL, sel] <;> omega
    · obtain ⟨rfl, x4, x7, x8, rfl⟩ := z
      rw [List.take_length]
      subst hNX
      simp
      have e : D.tup (List.take n (List.map D.int r) ++ List.map D.int (lspr side ss (List.drop n r))) = rowD (lspread side n ss r) := by simp [lspread]
      rw [e]
      exact h
end
end K20


set_option Elab.async false
set_option linter.all false
set_option maxRecDepth 100000
set_option maxHeartbeats 4000000
namespace K20
open PySem PySem.Spec PyProof.Rows L2 SlX StX DL
/-- the spread layers of one side, with empty ones behind -/
def sideM (side : Bool) (n : Nat) (ss : List (Nat × Nat)) (dep : Nat) (ls : List (List (List Int))) : List D := (ls.map fun l => D.lst (l.map fun u => rowD (lspread side n ss u))) ++ List.replicate (dep - ls.length) (.lst [])
def sideR (side : Bool) (n : Nat) (ss : List (Nat × Nat)) (dep : Nat) (ls : List (List (List Int))) (la : List Int) : D := .tup [.lst (sideM side n ss dep ls), rowD (lspread side n ss la)]
theorem sideM_at {side : Bool} {n : Nat} {ss : List (Nat × Nat)} {dep : Nat} {ls : List (List (List Int))} (hd : ls.length ≤ dep) {i : Nat} (hi : i < dep) : atI (sideM side n ss dep ls) (i : Int) = some (D.lst ((ly ls i).map fun u => rowD (lspread side n ss u))) := by
  have hl : (sideM side n ss dep ls).length = dep := by simp [sideM]; omega
  unfold atI
  rw [hl, ixN_nat' hi]
  show (sideM side n ss dep ls)[i]? = _
  unfold sideM
  by_cases h : i < ls.length
  · rw [List.getElem?_append_left (by simpa using h), List.getElem?_map, List.getElem?_eq_getElem h, ly_lt h]
    rfl
  · rw [List.getElem?_append_right (by simp; omega), ly_ge (by omega), List.getElem?_replicate]
    simp
    omega
theorem at_pair {a b : D} : atI [a, b] 0 = some a ∧ atI [a, b] 1 = some b := ⟨rfl, rfl⟩
theorem sum_cast (ss : List (Nat × Nat)) : (ss.map fun p => ((p.1 + p.2 : Nat) : Int)).sum = (((ss.map fun p => p.1 + p.2).sum : Nat) : Int) := by
  induction ss with
  | nil => rfl
  | cons s ss ih => simp only [List.map_cons, List.sum_cons, ih]; omega
theorem frz_of {i : Nat} {r : RS} {DD : DEnds} {δ : Sl} {μ : Mu} {p : Addr} {ds : List D} (h1 : δ[i]? = some (some (.own p))) (h2 : μ p = some ds) (h : r DD (δ.set i (some (.lst ds))) (muDel μ p)) : rFrz i r DD δ μ := by
  unfold rFrz
  rw [h1]
  simp only [h2]
  exact h
theorem vc_beside {n : Nat} {l1 l2 : List (List (List Int))} {a1 a2 : List Int} {μ : Mu} {k : DK} (N1 : IsNet n l1 a1) (N2 : IsNet n l2 a2) (h : k (.tup [layersD (beside n l1 l2), rowD (spread false n (sizesN l1 l2) a1), rowD (spread true n (sizesN l1 l2) a2)]) μ) :
    r__law_beside { nx := fun _ μ' => ∃ μ'', Sub μ'' μ' ∧ k .non μ'', rt := fun d μ' => ∃ μ'', Sub μ'' μ' ∧ k d μ'' } (startD N__law_beside [tripD n l1 a1, tripD n l2 a2]) μ := by
  have f1 := N1.few
  have f2 := N2.few
  have hi := N1.hi
  have hz := sizes_small N1.lays N2.lays
  have zl := sizes_len l1 l2
  unfold r__law_beside
  refine seq_gen fun NX hNX => ?_
  simp
  have q0 : ∀ (a b c : D), atI [a, b, c] 0 = some a := fun _ _ _ => rfl
  have q1 : ∀ (a b c : D), atI [a, b, c] 1 = some b := fun _ _ _ => rfl
  have q2 : ∀ (a b c : D), atI [a, b, c] 2 = some c := fun _ _ _ => rfl
  have e : (if l1.length < l2.length then (l2.length : Int) else (l1.length : Int)) = ((max l1.length l2.length : Nat) : Int) := by
    split <;> omega
  rw [e]
  subst hNX
  refine seq_gen fun NX hNX => ?_
  simp
  intro p hp
  subst hNX
  refine seq_gen fun NX hNX => ?_
  refine for_inv (List.range (max l1.length l2.length)) (fun i : Nat => .int (0 + (i : Nat))) (fun i δ μ' => μ' = muSet μ p (((sizesN l1 l2).take i).map pairL) ∧ ∃ x3, δ = [some (tripD n l1 a1), some (tripD n l2 a2), some (.own p), x3, none, none, some (.int (n : Nat)), some (.int ((max l1.length l2.length : Nat) : Int)), none, none, none, none, none, none, none, none]) (fun kk hk => ?_) (fun i x δ μ' hx z => ?_) (fun δ μ' z => ?_)
  · simp
    refine ⟨by omega, ?_⟩
    exact hk _ _ (.r 0 _) ⟨by simp, none, rfl⟩ (fun _ _ _ _ => trivial)
  · obtain ⟨rfl, x3, rfl⟩ := z
    obtain ⟨rfl, hi'⟩ := range_get hx
    simp only [rgName, List.set_cons_succ, List.set_cons_zero]
    clear hNX
    simp
    refine ⟨by rw [muSet_same]; simp, ?_⟩
    refine lcW_map [(l1, a1), (l2, a2)] (fun q => tripD n q.1 q.2) (fun q => .int ((ly q.1 x).length : Nat)) (.l _) (by simp) (fun q hq kt kf hk => ?_) ?_
    · simp [q1]
      split
      · rename_i hlt
        refine ⟨layerD q.1[x], ?_, q.1[x].length, by simp, by rw [ly_lt hlt] at hk; exact hk⟩
        unfold atI
        rw [List.length_map, ixN_nat' hlt]
        show (q.1.map layerD)[x]? = _
        rw [List.getElem?_map, List.getElem?_eq_getElem hlt]
        rfl
      · rename_i hge
        rw [ly_ge (by omega)] at hk
        exact hk
    · simp [muSet_same]
      refine ⟨by omega, ?_⟩
      rw [muSet_set]
      congr 1
      have hk : x < (sizesN l1 l2).length := by omega
      have e : (sizesN l1 l2)[x] = ((ly l1 x).length, (ly l2 x).length) := by simp [sizesN]
      rw [← List.map_take, ← List.map_take, take_succ_of (List.getElem?_eq_getElem hk), e]
      simp [pairL]
  obtain ⟨rfl, x3, rfl⟩ := z
  subst hNX
  dsimp only
  refine frz_of rfl muSet_same ?_
  rw [muDel_set, muDel_none hp, List.length_range, List.take_of_length_le (by rw [zl]; exact Nat.le_refl _)]
  refine seq_gen fun NX hNX => ?_
  simp
  intro q hq
  subst hNX
  refine seq_gen fun NX hNX => ?_
  obtain ⟨lsS, hlsS⟩ : ∃ lsS : Bool → List (List (List Int)), lsS = fun side => if side = true then l2 else l1 := ⟨_, rfl⟩
  obtain ⟨laS, hlaS⟩ : ∃ laS : Bool → List Int, laS = fun side => if side = true then a2 else a1 := ⟨_, rfl⟩
  have NS : ∀ side, IsNet n (lsS side) (laS side) := fun side => by subst hlsS hlaS; cases side <;> assumption
  have hdep : ∀ side, (lsS side).length ≤ max l1.length l2.length := fun side => by subst hlsS; cases side <;> simp <;> omega
  have sr : Src (itE (.tup [tripD n l1 a1, tripD n l2 a2]) [tripD n l1 a1, tripD n l2 a2]) (muSet μ q []) ([false, true].map fun side => D.tup [.int (sideN side), tripD n (lsS side) (laS side)]) := by
    subst hlsS hlaS; exact Src.e rfl
  simp only [rFor, rIE, rCons, rTup, rVar, rNil, List.getElem?_cons_succ, List.getElem?_cons_zero]
  refine ⟨by show 2 ≤ 1000000; omega, _, rfl, ?_⟩
  refine forW_inv [false, true] (fun side => D.tup [.int (sideN side), tripD n (lsS side) (laS side)]) sr (fun i δ μ' => μ' = muSet μ q (([false, true].take i).map fun side => sideR side n (sizesN l1 l2) (max l1.length l2.length) (lsS side) (laS side)) ∧ ∃ x8 x9 x10, δ = [some (tripD n l1 a1), some (tripD n l2 a2), some (D.lst (List.map pairL (sizesN l1 l2))), x3, some (D.own q), none,
      some (D.int ↑n), some (D.int ((max l1.length l2.length : Nat) : Int)), x8, x9, x10, none, none, none, none, none]) ⟨by simp, none, none, none, rfl⟩ (fun _ _ _ _ => rfl) (fun i side δ μ' hside z => ?_) (fun δ μ' z => ?_)
  · obtain ⟨rfl, x8, x9, x10, rfl⟩ := z
    have M := NS side
    have hd := hdep side
    have hfew := M.few
    have htot := M.tot
    have hlen := M.len
    clear hNX
    simp only [rgTup, rgCons, rgName, rgNil, List.set_cons_succ, List.set_cons_zero]
    refine ⟨rfl, ?_⟩
    refine seq_gen fun NX hNX => ?_
    simp [q1]
    have fl := flat_rows M.lays
    have hzl : (sizesN l1 l2).length ≤ 4 := by rw [zl]; omega
    refine lcW_map (lsS side) layerD (fun l => D.lst (l.map fun u => rowD (lspread side n (sizesN l1 l2) u))) (.l _) (by omega) (fun l hl kt kf hk => ?_) ?_
    · simp
      refine lcW_map l rowD (fun u => rowD (lspread side n (sizesN l1 l2) u)) (.l _) (by have := (lays_mem M.lays hl).2; omega) (fun u hu kt kf hk => ?_) hk
      simp
      refine ⟨u, n, sizesN l1 l2, side, rfl, hz, hzl, ?_, hk⟩
      have := (fl u (List.mem_flatten.mpr ⟨l, hl, hu⟩)).1
      omega
    subst hNX
    simp [q2, muSet_same]
    refine ⟨by omega, by omega, by omega, laS side, n, sizesN l1 l2, side, rfl, hz, hzl, by omega, ?_⟩
    simp [muSet_same]
    refine ⟨by omega, ?_⟩
    rw [muSet_set]
    congr 1
    match i, hside with
    | 0, hside => simp at hside; subst hside; rfl
    | 1, hside => simp at hside; subst hside; rfl
    | i + 2, hside => simp at hside
  obtain ⟨rfl, x8, x9, x10, rfl⟩ := z
  subst hNX
  dsimp only
  refine frz_of rfl muSet_same ?_
  rw [muDel_set, muDel_none hq]
  refine seq_gen fun NX hNX => ?_
  simp
  intro r hr
  subst hNX
  refine seq_gen fun NX hNX => ?_
  refine for_inv (List.range (max l1.length l2.length)) (fun i : Nat => .int (0 + (i : Nat))) (fun i δ μ' => μ' = muSet μ r (((beside n l1 l2).take i).map layerD) ∧ ∃ x3 x11, δ = [some (tripD n l1 a1), some (tripD n l2 a2), some (D.lst (List.map pairL (sizesN l1 l2))), x3,
      some (D.lst [sideR false n (sizesN l1 l2) (max l1.length l2.length) (lsS false) (laS false), sideR true n (sizesN l1 l2) (max l1.length l2.length) (lsS true) (laS true)]),
      some (D.own r), some (D.int ↑n), some (D.int ((max l1.length l2.length : Nat) : Int)), x8, x9, x10, x11, none, none, none, none]) (fun kk hk => ?_) (fun i x δ μ' hx z => ?_) (fun δ μ' z => ?_)
  · simp
    refine ⟨by omega, ?_⟩
    exact hk _ _ (.r 0 _) ⟨by simp, _, _, rfl⟩ (fun _ _ _ _ => trivial)
  · obtain ⟨rfl, x3, x11, rfl⟩ := z
    obtain ⟨rfl, hi'⟩ := range_get hx
    simp only [rgName, List.set_cons_succ, List.set_cons_zero]
    clear hNX
    refine seq_gen fun NX hNX => ?_
    simp
    rw [cut_takeD]
    have hzt : ∀ s ∈ (sizesN l1 l2).take x, s.1 ≤ 64 ∧ s.2 ≤ 64 := fun s hs => hz s (List.mem_of_mem_take hs)
    have hzl : ((sizesN l1 l2).take x).length ≤ 4 := by rw [List.length_take]; omega
    rw [← List.map_take]
    refine lcW_map ((sizesN l1 l2).take x) pairL (fun p => .int ((p.1 + p.2 : Nat) : Int)) (.l _) (by omega) (fun p hp kt kf hk => ?_) ?_
    · simp
      refine sum_of (xs := [(p.1 : Int), (p.2 : Int)]) (f := id) rfl ?_
      simpa using hk
    refine sum_of (f := fun p : Nat × Nat => ((p.1 + p.2 : Nat) : Int)) rfl ?_
    rw [sum_cast]
    simp
    subst hNX
    have r0 : atI [sideR false n (sizesN l1 l2) (max l1.length l2.length) (lsS false) (laS false), sideR true n (sizesN l1 l2) (max l1.length l2.length) (lsS true) (laS true)] 0 = some (sideR false n (sizesN l1 l2) (max l1.length l2.length) (lsS false) (laS false)) := rfl
    have r1 : atI [sideR false n (sizesN l1 l2) (max l1.length l2.length) (lsS false) (laS false), sideR true n (sizesN l1 l2) (max l1.length l2.length) (lsS true) (laS true)] 1 = some (sideR true n (sizesN l1 l2) (max l1.length l2.length) (lsS true) (laS true)) := rfl
    have m0 := sideM_at (side := false) (n := n) (ss := sizesN l1 l2) (hdep false) hi'
    have m1 := sideM_at (side := true) (n := n) (ss := sizesN l1 l2) (hdep true) hi'
    simp [r0, r1, muSet_same]
    refine ⟨_, rfl, _, rfl, _, rfl, _, m0, _, rfl, _, rfl, _, rfl, _, m1, ?_⟩
    simp
    have w1 := ly_le (NS false).lays x
    have w2 := ly_le (NS true).lays x
    refine ⟨by omega, ?_⟩
    have sl : ∀ side : Bool, (((sizesN l1 l2).take x).map (sel side)).sum = total ((lsS side).take x) := fun side => by
      rw [sel_sizes l1 l2 side (Nat.le_of_lt hi')]; subst hlsS; rfl
    obtain ⟨xs, hxs⟩ : ∃ xs : List (Bool × List Int), xs = (ly (lsS false) x).map (fun u => (false, u)) ++ (ly (lsS true) x).map (fun u => (true, u)) := ⟨_, rfl⟩
    have he : List.map (fun u => rowD (lspread false n (sizesN l1 l2) u)) (ly (lsS false) x) ++ List.map (fun u => rowD (lspread true n (sizesN l1 l2) u)) (ly (lsS true) x) = xs.map fun q => rowD (lspread q.1 n (sizesN l1 l2) q.2) := by
      rw [hxs]; simp [Function.comp_def]
    have hrow : ∀ q ∈ xs, q.2.length = n + (((sizesN l1 l2).take x).map (sel q.1)).sum := fun q hq => by
      rw [hxs] at hq
      rcases List.mem_append.mp hq with hq | hq
      · obtain ⟨u, hu, rfl⟩ := List.mem_map.mp hq
        rw [sl]; exact (ly_short (NS false).lays hu).1
      · obtain ⟨u, hu, rfl⟩ := List.mem_map.mp hq
        rw [sl]; exact (ly_short (NS true).lays hu).1
    rw [he]
    refine lcW_map xs (fun q => rowD (lspread q.1 n (sizesN l1 l2) q.2)) (fun q => rowD (spread q.1 n ((sizesN l1 l2).take x) q.2)) (.l _) (by rw [hxs]; simp; omega) (fun q hq kt kf hk => ?_) ?_
    · have hc := lspread_cut (ss := sizesN l1 l2) (k := x) (side := q.1) (n := n) (r := q.2) (hrow q hq)
      rw [← hc] at hk
      simp
      rw [show (n : Int) + ((((sizesN l1 l2).map fun p => p.1 + p.2).take x).sum : Nat) = ((n + (((sizesN l1 l2).take x).map fun p => p.1 + p.2).sum : Nat) : Int) by rw [List.map_take]; simp, cut_take]
      exact hk
    simp [muSet_same]
    refine ⟨by omega, ?_⟩
    rw [muSet_set]
    congr 1
    have hk : x < (beside n l1 l2).length := by simpa [beside] using hi'
    have e : (beside n l1 l2)[x] = (ly l1 x).map (spread false n ((sizesN l1 l2).take x)) ++ (ly l2 x).map (spread true n ((sizesN l1 l2).take x)) := by simp [beside]
    rw [← List.map_take, ← List.map_take, take_succ_of (List.getElem?_eq_getElem hk), e]
    subst hlsS
    simp [hxs, Function.comp_def]
  · obtain ⟨rfl, x3, x11, rfl⟩ := z
    subst hNX
    dsimp only
    refine frz_of rfl muSet_same ?_
    rw [muDel_set, muDel_none hr, List.length_range, List.take_of_length_le (by simp [beside])]
    simp
    refine ⟨_, rfl, _, rfl, _, rfl, _, rfl, _, rfl, _, rfl, μ, Sub.refl _, ?_⟩
    have s1 := sel_sizes l1 l2 false (Nat.le_refl _)
    have s2 := sel_sizes l1 l2 true (Nat.le_refl _)
    have e : (sizesN l1 l2).take (max l1.length l2.length) = sizesN l1 l2 := List.take_of_length_le (by simp [sizesN])
    rw [e] at s1 s2
    simp only [Bool.false_eq_true, if_false, if_true] at s1 s2
    rw [List.take_of_length_le (by omega)] at s1 s2
    have t1 := N1.len
    have t2 := N2.len
    subst hlsS hlaS
    simp only [Bool.false_eq_true, if_false, if_true]
    rw [lspread_eq (by omega), lspread_eq (by omega)]
    exact h
section
variable {P : Program} {w : World} {K : PySem.W.Frag} {mg : Str → Option Value} {base : Heap} {C : Addr}
theorem ok__law_beside (a : At K mg "_law_beside" s__law_beside) (F : FnD P w K mg base "_law_spread" 40 d__law_spread) (T : TxC K mg C) : FnD P w K mg base "_law_beside" 41 d__law_beside := by
  refine fnD_ofW a (b__law_beside F T) sc__law_beside (fun _ _ _ _ _ _ us hl => match us, hl with | [_, _], _ => rfl) ?_ ?_
  · rintro ds μ k ⟨n, l1, a1, l2, a2, rfl, _⟩; rfl
  · rintro ds μ k ⟨n, l1, a1, l2, a2, rfl, N1, N2, h⟩
    exact vc_beside N1 N2 h
end
end K20


set_option Elab.async false
set_option linter.all false
set_option maxRecDepth 100000
set_option maxHeartbeats 4000000
namespace K20
open PySem PySem.Spec PyProof.Rows L2 SlX StX DL
theorem sm40_short {x : Int} (h : Sm 40 x) : short x = true := by
  rw [short_iff]
  have e : sixty = 10 ^ 60 := by decide +kernel
  rw [e]
  unfold Sm at h
  omega
theorem small_of {n dep : Nat} {ls : List (List (List Int))} {la : List Int} (N : IsNet n ls la) (h1 : ls.length = dep) (h2 : dep ≤ 3) (h3 : ∀ l ∈ ls, l.length ≤ 3) (h4 : ∀ x ∈ la, BdN 5 x) : Small n ls la :=
  { toIsNet := N
    bd := fun x hx => by have := h4 x hx; unfold BdN at this; unfold Bd; omega
    dep := by omega
    wid := fun k => by
      by_cases h : k < ls.length
      · rw [ly_lt h]; have := h3 _ (List.getElem_mem h); omega
      · rw [ly_ge (by omega)]; simp }
theorem vc_right {C : Addr} {p : Addr} {N : Nat} {vs : List D} {μ : Mu} {k : DK} (hp : μ p = some vs) (hv : VOk vs N) (hN : N + 20000 < 2 ^ 30) (h : ∀ vs', VOk vs' (N + 20000) → k (.bl true) (muSet μ p vs')) :
    r__law_right C { nx := fun _ μ' => ∃ μ'', Sub μ'' μ' ∧ k .non μ'', rt := fun d μ' => ∃ μ'', Sub μ'' μ' ∧ k d μ'' } (startD N__law_right [.own p]) μ := by
  unfold r__law_right
  refine seq_gen fun NX hNX => ?_
  simp
  refine ⟨p, 4, N, vs, rfl, hp, hv, by omega, (show Sm 4 (4 : Int) by unfold Sm; decide).mono (by omega), by omega, fun r1 vs1 r10 r11 hv1 => ?_⟩
  simp
  obtain ⟨n, hn⟩ : ∃ n : Nat, 1 + r1 = (n : Int) := ⟨(1 + r1).toNat, by omega⟩
  rw [hn]
  subst hNX
  refine seq_gen fun NX hNX => ?_
  simp
  refine ⟨p, 4, N + 1, vs1, rfl, muSet_same, hv1, by omega, (show Sm 4 (4 : Int) by unfold Sm; decide).mono (by omega), by omega, fun dep1 vs2 dep10 dep11 hv2 => ?_⟩
  simp only [muSet_set]
  obtain ⟨d1, rfl⟩ : ∃ d1 : Nat, dep1 = (d1 : Int) := ⟨dep1.toNat, by omega⟩
  refine ⟨p, n, d1, 3, 5, N + 2, vs2, rfl, muSet_same, hv2, by omega, by omega, by omega, by omega, by omega, by omega, by omega, by omega, fun l1 a1 vs3 N1 h11 h12 h13 hv3 => ?_⟩
  have S1 := small_of N1 h11 (by omega) h12 h13
  simp only [muSet_set]
  simp
  subst hNX
  refine seq_gen fun NX hNX => ?_
  simp
  refine ⟨p, 4, _, vs3, rfl, muSet_same, hv3, by omega, (show Sm 4 (4 : Int) by unfold Sm; decide).mono (by omega), by omega, fun dep2 vs4 dep20 dep21 hv4 => ?_⟩
  simp only [muSet_set]
  obtain ⟨d2, rfl⟩ : ∃ d2 : Nat, dep2 = (d2 : Int) := ⟨dep2.toNat, by omega⟩
  refine ⟨p, n, d2, 3, 5, _, vs4, rfl, muSet_same, hv4, by omega, by omega, by omega, by omega, by omega, by omega, by omega, by omega, fun l2 a2 vs5 N2 h21 h22 h23 hv5 => ?_⟩
  have S2 := small_of N2 h21 (by omega) h22 h23
  simp only [muSet_set]
  simp
  subst hNX
  refine seq_gen fun NX hNX => ?_
  clear h11 h12 h13 h21 h22 h23 hv1 hv2 hv3 hv4
  have q0 : ∀ (a b c : D), atI [a, b, c] 0 = some a := fun _ _ _ => rfl
  have q1 : ∀ (a b c : D), atI [a, b, c] 1 = some b := fun _ _ _ => rfl
  have q2 : ∀ (a b c : D), atI [a, b, c] 2 = some c := fun _ _ _ => rfl
  simp [q0, q1, q2]
  refine ⟨_, ⟨n, l1, a1, rfl, N1, rfl⟩, _, ⟨n, l2, a2, rfl, N2, rfl⟩, ?_⟩
  refine ⟨⟨by decide, by decide, by decide +kernel⟩, p, _, _, vs5, rfl, muSet_same, hv5, by simp, by simp, by omega, fun dn vs6 hdn hv6 => ?_⟩
  obtain ⟨c, rfl, hc⟩ : ∃ c : Int, dn = .int c ∧ (-10 ^ 30 ≤ c ∧ c ≤ 10 ^ 30) := by
    simp at hdn
    rcases hdn with hdn | hdn | hdn | hdn | hdn <;> exact ⟨_, hdn, by decide, by decide⟩
  clear hdn
  simp only [muSet_set]
  subst hNX
  refine seq_gen fun NX hNX => ?_
  simp
  refine ⟨n, l1, a1, l2, a2, rfl, N1, N2, ?_⟩
  obtain ⟨e1, e2⟩ := last_len N1 N2
  have NA := net_added S1 S2
  have NM := net_mul S1 hc
  have NR := net_ramped S1
  have NR2 := net_ramped S2
  have NG := net_greater S1 S2
  have hn8 := N1.hi
  have hf1 := N1.few
  have hf2 := N2.few
  have hsc : short c = true := short_of (b := 10 ^ 30) (by omega) (by decide)
  have ht := NA.tot
  have hlB : (beside n l1 l2).length ≤ 4 := NA.few
  have ht1 := N1.tot
  have ht2 := N2.tot
  have hl1 := N1.len
  have hl2 := N2.len
  simp
  subst hNX
  refine seq_gen fun NX hNX => ?_
  simp
  refine lcW_map ((spread false n (sizesN l1 l2) a1).zip (spread true n (sizesN l1 l2) a2)) (fun q => .tup [.int q.1, .int q.2]) (fun q => .int (q.1 + q.2)) (src_zip _ _) (by rw [List.length_zip]; omega) (fun q hq kt kf h1 => ?_) ?_
  · simpa using h1
  have eA : D.tup ((List.zip (spread false n (sizesN l1 l2) a1) (spread true n (sizesN l1 l2) a2)).map fun q => D.int (q.1 + q.2)) = rowD (lastAdd n l1 l2 a1 a2) := by
    simp [lastAdd, List.zip, List.map_zipWith]
  have eS : D.tup ((List.zip (spread false n (sizesN l1 l2) a1) (spread true n (sizesN l1 l2) a2)).map fun q => D.int (q.1 - q.2)) = rowD (lastSub n l1 l2 a1 a2) := by
    simp [lastSub, List.zip, List.map_zipWith]
  rw [eA]
  refine ⟨_, ⟨n, beside n l1 l2, lastAdd n l1 l2 a1 a2, rfl, NA, rfl⟩, ?_⟩
  subst hNX
  refine seq_gen fun NX hNX => ?_
  simp
  refine lcW_map ((spread false n (sizesN l1 l2) a1).zip (spread true n (sizesN l1 l2) a2)) (fun q => .tup [.int q.1, .int q.2]) (fun q => .int (q.1 - q.2)) (src_zip _ _) (by rw [List.length_zip]; omega) (fun q hq kt kf h1 => ?_) ?_
  · simpa using h1
  rw [eS]
  subst hNX
  refine seq_gen fun NX hNX => ?_
  simp
  refine ⟨n, l1, a1, l2, a2, rfl, N1, N2, NA, ?_⟩
  refine ⟨rfl, n, beside n l1 l2, lastAdd n l1 l2 a1 a2, _, rfl, .inl ⟨n, beside n l1 l2, lastAdd n l1 l2 a1 a2, rfl, ?_⟩⟩
  simp
  refine ⟨n, l1, a1, l2, a2, rfl, N1, N2, NA, rfl, n, beside n l1 l2, lastAdd n l1 l2 a1 a2, rfl, n, l1, a1, rfl, n, l2, a2, rfl, ?_⟩
  simp
  have eD : (beside n l1 l2).length = max l1.length l2.length := by simp [beside]
  rw [if_pos (by rw [eD]; split <;> omega)]
  subst hNX
  refine seq_gen fun NX hNX => ?_
  simp [q1, q2]
  refine ⟨n, l1, a1, c, rfl, N1, hsc, NM, ?_⟩
  refine lcW_map a1 D.int (fun x => .int (c * x)) (.l _) (by omega) (fun x hx kt kf h1 => ?_) ?_
  · simp
    exact ⟨sm_mulW (sm_short hsc) (sm_short (N1.short x hx)) (by omega) (by omega) (by omega), h1⟩
  have eM : D.tup (a1.map fun x => D.int (c * x)) = rowD (a1.map fun x => c * x) := by simp [rowD, intsD]
  rw [eM]
  refine ⟨_, ⟨n, l1, _, rfl, NM, rfl⟩, rfl, n, l1, _, _, rfl, .inl ⟨n, l1, _, rfl, ?_⟩⟩
  simp
  subst hNX
  refine seq_gen fun NX hNX => ?_
  simp [q1, q2]
  refine ⟨n, l1, a1, rfl, N1, NR, ?_⟩
  simp [q1, q2]
  have hlo := N1.lo
  refine ⟨by omega, by omega, by omega, by omega, _, ⟨n, l1 ++ [[a1]], zeros a1.length ++ [1], by simp [zeros], NR, rfl⟩, n, _, _, _, rfl, .inl ⟨n, l1 ++ [[a1]], zeros a1.length ++ [1], rfl, ?_⟩⟩
  simp
  subst hNX
  refine seq_gen fun NX hNX => ?_
  simp
  refine ⟨n, l1, a1, l2, a2, rfl, N1, N2, NG, ?_⟩
  simp
  refine ⟨by omega, by omega, _, ⟨n, beside n l1 l2 ++ [[lastSub n l1 l2 a1 a2]], spread true n (sizesN l1 l2) a2 ++ [1], by simp, NG, rfl⟩, n, _, _, _, rfl, .inl ⟨n, beside n l1 l2 ++ [[lastSub n l1 l2 a1 a2]], spread true n (sizesN l1 l2) a2 ++ [1], rfl, ?_⟩⟩
  simp
  clear eA eS eM eD
  subst hNX
  refine seq_gen fun NX hNX => ?_
  simp only [rFor, rIL, rCall, rCons, rVar, rC, rNil, List.getElem?_cons_succ, List.getElem?_cons_zero, List.set_cons_succ, List.set_cons_zero]
  refine ⟨p, n, 6, _, vs6, rfl, muSet_same, hv6, hlo, hn8, by omega, by omega, fun rs vs7 hrs1 hrs2 hv7 => ?_⟩
  simp only [muSet_set]
  refine ⟨itL (rs.map rowD), rfl, ?_⟩
  refine forW_inv rs rowD (.l _) (fun i δ μ' => ∃ x6 x13 x14 x15 x16 x17, δ = [some (.own p), some (.int (n : Nat)), some (.tup [.int (n : Nat), layersD l1, rowD a1]), some (.tup [.int (n : Nat), layersD l2, rowD a2]), some (D.obj C [D.int ↑n, rowD (lastAdd n l1 l2 a1 a2), layersD (beside n l1 l2)]),
        some (rowD (lastSub n l1 l2 a1 a2)), x6, some (D.obj C [D.int ↑n, rowD a1, layersD l1]),
        some (D.obj C [D.int ↑n, rowD a2, layersD l2]), some (D.int c), some (layersD (beside n l1 l2)),
        some (rowD (spread false n (sizesN l1 l2) a1)), some (rowD (spread true n (sizesN l1 l2) a2)), x13, x14, x15, x16, x17] ∧ μ' = muSet μ p vs7)
    ⟨none, none, none, none, none, none, rfl, rfl⟩ (fun _ _ _ _ => trivial) (fun i r δ μ' hr z => ?_) (fun δ μ' z => ?_)
  · obtain ⟨x6, x13, x14, x15, x16, x17, rfl, rfl⟩ := z
    obtain ⟨hrl, hrsm⟩ := hrs2 r (List.mem_of_getElem? hr)
    have hrb : ∀ x ∈ r, Sm 1000 x := fun x hx => (hrsm x hx).mono (by omega)
    have hrsh : ∀ x ∈ r, short x = true := fun x hx => sm40_short (hrsm x hx)
    clear hNX
    simp only [rgName, List.set_cons_succ, List.set_cons_zero]
    refine seq_gen fun NX hNX => ?_
    simp [q0, q1, q2]
    refine ⟨n, l1, a1, r, rfl, N1, hrl, hrb, n, l2, a2, r, rfl, N2, hrl, hrb, ?_⟩
    subst hNX
    refine seq_gen fun NX hNX => ?_
    simp
    refine ⟨n, l1, a1, l2, a2, rfl, N1, N2, NA, n, l1, a1, c, rfl, N1, hsc, NM, n, l2, a2, rfl, N2, NR2, n, l1, a1, l2, a2, rfl, N1, N2, NG, ?_⟩
    have hN4 : ∀ q ∈ [(beside n l1 l2, lastAdd n l1 l2 a1 a2), (l1, List.map (fun x => c * x) a1), (l2 ++ [[a2]], zeros a2.length ++ [1]), (beside n l1 l2 ++ [[lastSub n l1 l2 a1 a2]], spread true n (sizesN l1 l2) a2 ++ [1])], IsNet n q.1 q.2 := fun q hq => by
      simp only [List.mem_cons, List.not_mem_nil, or_false] at hq
      rcases hq with rfl | rfl | rfl | rfl
      · exact NA
      · exact NM
      · exact NR2
      · exact NG
    refine lcW_map [(beside n l1 l2, lastAdd n l1 l2 a1 a2), (l1, List.map (fun x => c * x) a1), (l2 ++ [[a2]], zeros a2.length ++ [1]), (beside n l1 l2 ++ [[lastSub n l1 l2 a1 a2]], spread true n (sizesN l1 l2) a2 ++ [1])]
      (fun q => netD C n q.1 q.2) (fun q => .int (told q.2 (numbers q.1 r))) (.l _) (by show 4 ≤ 1000000; omega) (fun q hq kt kf h1 => ?_) ?_
    · simp
      exact ⟨n, q.1, q.2, r, rfl, hN4 q hq, hrl, hrsh, h1⟩
    have v1 := val_added N1 N2 hrl
    have v2 := told_mul c (p := a1) (u := numbers l1 r)
    have v3 := val_ramped N2 hrl
    have v4 := val_greater N1 N2 hrl
    simp only [List.map_cons, List.map_nil, v1, v2, v3, v4]
    have hT1 : Sm 5000 (told a1 (numbers l1 r)) := (told_sm (a := 200) (b := 1000 + 300 * l1.length) (c := 8) (fun w hw => sm_short (N1.short w hw)) (numbers_sm N1.lays hrl (by omega) hrb) (by omega)).mono (by omega)
    generalize told a1 (numbers l1 r) = t1 at hT1 ⊢
    generalize told a2 (numbers l2 r) = t2 at ⊢
    subst hNX
    simp only [rIfS, rB, rOp, oI, oIc, oNe, rLst, rVar, rCB, rTup, rCons, rC, rNil, rRet, rNext, o2I, List.getElem?_cons_succ, List.getElem?_cons_zero]
    have m1 : (if t2 > 0 then t2 else 0) = max 0 t2 := by split <;> omega
    have m2 : (if t2 > t1 then t2 else t1) = max t1 t2 := by split <;> omega
    rw [m1, m2]
    refine ⟨sm_mulW (sm_short hsc) hT1 (by omega) (by omega) (by omega), by show 4 ≤ 1000000; omega, ?_⟩
    refine Cm.int.lst.toNe (Cm.int.lst.as _ [t1 + t2, c * t1, max 0 t2, max t1 t2]) (Cm.int.lst.as _ [t1 + t2, c * t1, max 0 t2, max t1 t2]) (by decide) ?_
    simp
  obtain ⟨x6, x13, x14, x15, x16, x17, rfl, rfl⟩ := z
  subst hNX
  simp
  exact ⟨_, Sub.refl _, h vs7 (hv7.mono (by omega))⟩
section
variable {P : Program} {w : World} {K : PySem.W.Frag} {mg : Str → Option Value} {base : Heap} {C : Addr}
theorem ok__law_right (a : At K mg "_law_right" s__law_right) (F__law_draw : FnD P w K mg base "_law_draw" 32 d__law_draw) (F__law_parts : FnD P w K mg base "_law_parts" 37 d__law_parts) (F__law_pick : FnD P w K mg base "_law_pick" 33 d__law_pick) (F__law_beside : FnD P w K mg base "_law_beside" 41 d__law_beside) (F_added : FnD P w K mg base "added" 27 (d_added C)) (F_multiplied : FnD P w K mg base "multiplied" 28 (d_multiplied C)) (F_ramped : FnD P w K mg base "ramped" 29 (d_ramped C)) (F_greater : FnD P w K mg base "greater" 30 (d_greater C)) (F__law_rows : FnD P w K mg base "_law_rows" 39 d__law_rows) (F__law_value : FnD P w K mg base "_law_value" 38 d__law_value) (F_value_of : FnD P w K mg base "value_of" 14 (d_value_of C)) (M_Network : MakD P w K mg base 7 "Network" C (spMk K C inm_Network)) (E_Network : SpD P w K mg base C "__eq__" 2 (d_eq C)) (Q_depth : PropD P w K mg base C "depth" 1 (d_depth C)) (T : TxC K mg C) : FnD P w K mg base "_law_right" 42 d__law_right := by
  refine fnD_ofW a (b__law_right F__law_draw F__law_parts F__law_pick F__law_beside F_added F_multiplied F_ramped F_greater F__law_rows F__law_value F_value_of M_Network E_Network Q_depth T) sc__law_right (fun _ _ _ _ _ _ us hl => match us, hl with | [_], _ => rfl) ?_ ?_
  · rintro ds μ k ⟨p, N, vs, rfl, _⟩; rfl
  · rintro ds μ k ⟨p, N, vs, rfl, hp, hv, hN, h⟩
    exact vc_right hp hv hN h
end
end K20


set_option Elab.async false
set_option linter.all false
set_option maxRecDepth 100000
set_option maxHeartbeats 4000000
set_option synthInstance.maxSize 2048
set_option synthInstance.maxHeartbeats 400000
namespace K20
open PySem PySem.Spec PyProof.Rows L2 SlX StX DL
def d_law : DSp := fun ds μ k => ∃ ns, ds = [.scr ns] ∧ ns.length ≤ 63 ∧ k (.bl true) μ
def tLs : List (List (List Int)) := [[[0, 1]]]
def tLa : List Int := [0, 0, 2]
theorem one_ok : IsNet 2 [] [1, 0] := ⟨by decide, by decide, by decide, trivial, by decide, by decide, by decide⟩
theorem oth_ok : IsNet 2 tLs tLa := ⟨by decide, by decide, by decide, ⟨by decide, by decide, trivial⟩, by decide, by decide, by decide⟩
theorem g_ls : beside 2 [] tLs ++ [[lastSub 2 [] tLs [1, 0] tLa]] = [[[0, 1]], [[1, 0, -2]]] := by decide
theorem g_la : spread true 2 (sizesN [] tLs) tLa ++ [1] = [0, 0, 2, 1] := by decide
theorem g_ok : IsNet 2 [[[0, 1]], [[1, 0, -2]]] [0, 0, 2, 1] := ⟨by decide, by decide, by decide, ⟨by decide, by decide, by decide, by decide, trivial⟩, by decide, by decide, by decide⟩
theorem r_ls : tLs ++ [[tLa]] = [[[0, 1]], [[0, 0, 2]]] := by decide
theorem r_la : zeros tLa.length ++ [1] = [0, 0, 0, 1] := by decide
theorem r_ok : IsNet 2 [[[0, 1]], [[0, 0, 2]]] [0, 0, 0, 1] := ⟨by decide, by decide, by decide, ⟨by decide, by decide, by decide, by decide, trivial⟩, by decide, by decide, by decide⟩
theorem a_ls : beside 2 tLs [[[0, 1]], [[0, 0, 2]]] = [[[0, 1], [0, 1]], [[0, 0, 0, 2]]] := by decide
theorem a_la : lastAdd 2 tLs [[[0, 1]], [[0, 0, 2]]] tLa [0, 0, 0, 1] = [0, 0, 2, 0, 1] := by decide
theorem a_ok : IsNet 2 [[[0, 1], [0, 1]], [[0, 0, 0, 2]]] [0, 0, 2, 0, 1] := ⟨by decide, by decide, by decide, ⟨by decide, by decide, by decide, by decide, trivial⟩, by decide, by decide, by decide⟩
theorem h_ls : beside 2 tLs tLs ++ [[lastSub 2 tLs tLs tLa tLa]] = [[[0, 1], [0, 1]], [[0, 0, 2, -2]]] := by decide
theorem h_la : spread true 2 (sizesN tLs tLs) tLa ++ [1] = [0, 0, 0, 2, 1] := by decide
theorem h_ok : IsNet 2 [[[0, 1], [0, 1]], [[0, 0, 2, -2]]] [0, 0, 0, 2, 1] := ⟨by decide, by decide, by decide, ⟨by decide, by decide, by decide, by decide, trivial⟩, by decide, by decide, by decide⟩
section
variable {P : Program} {w : World} {K : PySem.W.Frag} {mg : Str → Option Value} {base : Heap} {C : Addr}
abbrev s_law : Stmt := topS 59
abbrev N_law : List Str := ["_law_script", "_law_spot", "_law_told_here", "_law_twice", "_law_vat_here", "_law_turn", "_law_one", "_law_other"]
theorem sc_law : FnScope N_law ["_law_script"] (defScope s_law) := ⟨rfl, rfl, rfl, by decide +kernel, rfl, by decide +kernel, by decide +kernel⟩
def r_law (C : Addr) : RS :=
  (rSeq (rFor (rIR1 (rCons (rCB (o2I fun i j => if j > i then j else i) (rCons (rC (.int 1)) (rCons (rCB (o2I fun i j => if j < i then j else i) (rCons (rC (.int 3)) (rCons (rCB oLen (rCons (rVar 0) rNil)) rNil))) rNil))) rNil)) (rgName 1) (rSeq (rAsg (rCall d__law_vat (rCons (rVar 0) (rCons (rVar 1) rNil))) (rgName 4))
  (rFor (rIR1 (rCons (rC (.int 3)) rNil)) (rgName 5) (rIfS (rNot (rB (rCall d__law_right (rCons (rVar 4) rNil)))) (rRet (rC (.bl false))) rNext))))
  (rSeq (rPar 6 7 (rCons (rMk C inm_Network (rCons (rC (.int 2)) (rCons (rTup rNil) (rCons (rTup (rCons (rC (.int 1)) (rCons (rC (.int 0)) rNil))) rNil)))) (rCons (rMk C inm_Network (rCons (rC (.int 2)) (rCons (rTup (rCons (rTup (rCons (rTup (rCons (rC (.int 0)) (rCons (rC (.int 1)) rNil))) rNil)) rNil)) (rCons (rTup (rCons (rC (.int 0)) (rCons (rC (.int 0)) (rCons (rC (.int 2)) rNil)))) rNil)))) rNil)))
  (rSeq (rAsg (rCall (d_greater C) (rCons (rVar 6) (rCons (rVar 7) rNil))) (rgName 2))
  (rSeq (rIfS (rOr (rB (rOp oNe (rGet C (d_layers C) (rVar 2)) (rTup (rCons (rTup (rCons (rTup (rCons (rC (.int 0)) (rCons (rC (.int 1)) rNil))) rNil)) (rCons (rTup (rCons (rTup (rCons (rC (.int 1)) (rCons (rC (.int 0)) (rCons (rUn oNeg (rC (.int 2))) rNil)))) rNil)) rNil))))) (rOr (rB (rOp oNe (rGet C (d_last C) (rVar 2)) (rTup (rCons (rC (.int 0)) (rCons (rC (.int 0)) (rCons (rC (.int 2)) (rCons (rC (.int 1)) rNil))))))) (rB (rOp oNe (rCall (d_value_of C) (rCons (rVar 2) (rCons (rTup (rCons (rC (.int 3)) (rCons (rC (.int 1)) rNil))) rNil))) (rC (.int 3)))))) (rRet (rC (.bl false))) rNext)
  (rSeq (rAsg (rCall (d_added C) (rCons (rVar 7) (rCons (rCall (d_ramped C) (rCons (rVar 7) rNil)) rNil))) (rgName 3))
  (rSeq (rIfS (rOr (rB (rOp oNe (rGet C (d_layers C) (rVar 3)) (rTup (rCons (rTup (rCons (rTup (rCons (rC (.int 0)) (rCons (rC (.int 1)) rNil))) (rCons (rTup (rCons (rC (.int 0)) (rCons (rC (.int 1)) rNil))) rNil))) (rCons (rTup (rCons (rTup (rCons (rC (.int 0)) (rCons (rC (.int 0)) (rCons (rC (.int 0)) (rCons (rC (.int 2)) rNil))))) rNil)) rNil))))) (rB (rOp oNe (rGet C (d_last C) (rVar 3)) (rTup (rCons (rC (.int 0)) (rCons (rC (.int 0)) (rCons (rC (.int 2)) (rCons (rC (.int 0)) (rCons (rC (.int 1)) rNil))))))))) (rRet (rC (.bl false))) rNext)
  (rRet (rAndV (rOp oEq (rGet C (d_depth C) (rCall (d_greater C) (rCons (rVar 7) (rCons (rVar 7) rNil)))) (rC (.int 2))) (rOp oEq (rCall (d_value_of C) (rCons (rCall (d_greater C) (rCons (rVar 7) (rCons (rVar 7) rNil))) (rCons (rTup (rCons (rC (.int 5)) (rCons (rC (.int 7)) rNil))) rNil))) (rC (.int 14)))))))))))
theorem b_law (F__law_vat : FnD P w K mg base "_law_vat" 31 d__law_vat) (F__law_right : FnD P w K mg base "_law_right" 42 d__law_right) (F_greater : FnD P w K mg base "greater" 30 (d_greater C)) (F_value_of : FnD P w K mg base "value_of" 14 (d_value_of C)) (F_added : FnD P w K mg base "added" 27 (d_added C)) (F_ramped : FnD P w K mg base "ramped" 29 (d_ramped C)) (M_Network : MakD P w K mg base 7 "Network" C (spMk K C inm_Network)) (Q_layers : PropD P w K mg base C "layers" 1 (d_layers C)) (Q_last : PropD P w K mg base C "last" 1 (d_last C)) (Q_depth : PropD P w K mg base C "depth" 1 (d_depth C)) (T : TxC K mg C) : Body P w K mg base 42 "law" s_law N_law (r_law C) := by
  refine fun f => ⟨_, fun cdv A outer s H E hr => ⟨(pss_cons (ps_for PassesOwn.never rfl (kr_range1 T.b_range (pa_cons (kb_call (call_max2 rfl) T.b_max (pa_cons pe_int (pa_cons (kb_call (call_min2 rfl) T.b_min (pa_cons pe_int (pa_cons (kb_call (kc_len K) T.b_len (pa_cons (pv 0) pa_nil)) pa_nil))) pa_nil))) pa_nil)) (pg_name (i := 1) sc_law.nd rfl (Or.inl rfl)) (pss_cons (ps_set (i := 4) sc_law.nd rfl (Or.inl rfl) (ke_call K F__law_vat hr (pa_cons (pv 0) (pa_cons (pv 1) pa_nil))))
      (pss_one (ps_for PassesOwn.never rfl (kr_range1 T.b_range (pa_cons pe_int pa_nil)) (pg_name (i := 5) sc_law.nd rfl (Or.inl rfl)) (pss_one (ps_if (pt_not (pt_val (ke_call K F__law_right hr (pa_cons (pv 4) pa_nil)))) (pss_one (ps_ret pe_bl)) pss_nil))))))
      (pss_cons (ps_par (i := 6) (j := 7) rfl sc_law.nd rfl rfl (by decide) rfl rfl (pa_cons (ke_mk M_Network hr (pa_cons pe_int (pa_cons (pe_tup pa_nil) (pa_cons (pe_tup (pa_cons pe_int (pa_cons pe_int pa_nil))) pa_nil)))) (pa_cons (ke_mk M_Network hr (pa_cons pe_int (pa_cons (pe_tup (pa_cons (pe_tup (pa_cons (pe_tup (pa_cons pe_int (pa_cons pe_int pa_nil))) pa_nil)) pa_nil)) (pa_cons (pe_tup (pa_cons pe_int (pa_cons pe_int (pa_cons pe_int pa_nil)))) pa_nil)))) pa_nil)) rfl)
      (pss_cons (ps_set (i := 2) sc_law.nd rfl (Or.inl rfl) (ke_call K F_greater hr (pa_cons (pv 6) (pa_cons (pv 7) pa_nil))))
      (pss_cons (ps_if (PW.pt (pw_or (pt_cmpR (ko_neD K hr.units) (ke_prop K T.cmp.cls Q_layers hr (pv 2)) (pe_tup (pa_cons (pe_tup (pa_cons (pe_tup (pa_cons pe_int (pa_cons pe_int pa_nil))) pa_nil)) (pa_cons (pe_tup (pa_cons (pe_tup (pa_cons pe_int (pa_cons pe_int (pa_cons (pe_un un_neg pe_int) pa_nil)))) pa_nil)) pa_nil))) (nomark _)) (pw_or (pt_cmpR (ko_neD K hr.units) (ke_prop K T.cmp.cls Q_last hr (pv 2)) (pe_tup (pa_cons pe_int (pa_cons pe_int (pa_cons pe_int (pa_cons pe_int pa_nil))))) (nomark _)) (pw_or1 (pt_cmpR (ko_neD K hr.units) (ke_call K F_value_of hr (pa_cons (pv 2) (pa_cons (pe_tup (pa_cons pe_int (pa_cons pe_int pa_nil))) pa_nil))) pe_int (nomark _)))))) (pss_one (ps_ret pe_bl)) pss_nil)
      (pss_cons (ps_set (i := 3) sc_law.nd rfl (Or.inl rfl) (ke_call K F_added hr (pa_cons (pv 7) (pa_cons (ke_call K F_ramped hr (pa_cons (pv 7) pa_nil)) pa_nil))))
      (pss_cons (ps_if (PW.pt (pw_or (pt_cmpR (ko_neD K hr.units) (ke_prop K T.cmp.cls Q_layers hr (pv 3)) (pe_tup (pa_cons (pe_tup (pa_cons (pe_tup (pa_cons pe_int (pa_cons pe_int pa_nil))) (pa_cons (pe_tup (pa_cons pe_int (pa_cons pe_int pa_nil))) pa_nil))) (pa_cons (pe_tup (pa_cons (pe_tup (pa_cons pe_int (pa_cons pe_int (pa_cons pe_int (pa_cons pe_int pa_nil))))) pa_nil)) pa_nil))) (nomark _)) (pw_or1 (pt_cmpR (ko_neD K hr.units) (ke_prop K T.cmp.cls Q_last hr (pv 3)) (pe_tup (pa_cons pe_int (pa_cons pe_int (pa_cons pe_int (pa_cons pe_int (pa_cons pe_int pa_nil)))))) (nomark _))))) (pss_one (ps_ret pe_bl)) pss_nil)
      (pss_one (ps_ret (pe_and (pe_cmpR (ko_eqD K hr.units) (ke_prop K T.cmp.cls Q_depth hr (ke_call K F_greater hr (pa_cons (pv 7) (pa_cons (pv 7) pa_nil)))) pe_int (nomark _)) (pe_one (pe_cmpR (ko_eqD K hr.units) (ke_call K F_value_of hr (pa_cons (ke_call K F_greater hr (pa_cons (pv 7) (pa_cons (pv 7) pa_nil))) (pa_cons (pe_tup (pa_cons pe_int (pa_cons pe_int pa_nil))) pa_nil))) pe_int (nomark _)))))))))))),
    (okS_seq (okS_for (okI_range1 (okA_cons (okE_CB ok2I (okA_cons (okE_C fun _ => .int _) (okA_cons (okE_CB ok2I (okA_cons (okE_C fun _ => .int _) (okA_cons (okE_CB okLen (okA_cons (okE_var 0) okA_nil)) okA_nil))) okA_nil))) okA_nil)) (okG_name 1) (okS_seq (okS_asg (okE_call (okA_cons (okE_var 0) (okA_cons (okE_var 1) okA_nil))) (okG_name 4))
      (okS_for (okI_range1 (okA_cons (okE_C fun _ => .int _) okA_nil)) (okG_name 5) (okS_if (okT_not (okT_B (okE_call (okA_cons (okE_var 4) okA_nil)))) (okS_ret (okE_C fun _ => .bl _)) okS_next))))
      (okS_seq (okS_par (okA_cons (okE_mk (okA_cons (okE_C fun _ => .int _) (okA_cons (okE_tup okA_nil) (okA_cons (okE_tup (okA_cons (okE_C fun _ => .int _) (okA_cons (okE_C fun _ => .int _) okA_nil))) okA_nil)))) (okA_cons (okE_mk (okA_cons (okE_C fun _ => .int _) (okA_cons (okE_tup (okA_cons (okE_tup (okA_cons (okE_tup (okA_cons (okE_C fun _ => .int _) (okA_cons (okE_C fun _ => .int _) okA_nil))) okA_nil)) okA_nil)) (okA_cons (okE_tup (okA_cons (okE_C fun _ => .int _) (okA_cons (okE_C fun _ => .int _) (okA_cons (okE_C fun _ => .int _) okA_nil)))) okA_nil)))) okA_nil)))
      (okS_seq (okS_asg (okE_call (okA_cons (okE_var 6) (okA_cons (okE_var 7) okA_nil))) (okG_name 2))
      (okS_seq (okS_if (okT_or (okT_test (okE_op okNe (okE_prop (okE_var 2)) (okE_tup (okA_cons (okE_tup (okA_cons (okE_tup (okA_cons (okE_C fun _ => .int _) (okA_cons (okE_C fun _ => .int _) okA_nil))) okA_nil)) (okA_cons (okE_tup (okA_cons (okE_tup (okA_cons (okE_C fun _ => .int _) (okA_cons (okE_C fun _ => .int _) (okA_cons (okE_un okNeg (okE_C fun _ => .int _)) okA_nil)))) okA_nil)) okA_nil))))) (okT_or (okT_test (okE_op okNe (okE_prop (okE_var 2)) (okE_tup (okA_cons (okE_C fun _ => .int _) (okA_cons (okE_C fun _ => .int _) (okA_cons (okE_C fun _ => .int _) (okA_cons (okE_C fun _ => .int _) okA_nil))))))) (okT_test (okE_op okNe (okE_call (okA_cons (okE_var 2) (okA_cons (okE_tup (okA_cons (okE_C fun _ => .int _) (okA_cons (okE_C fun _ => .int _) okA_nil))) okA_nil))) (okE_C fun _ => .int _))))) (okS_ret (okE_C fun _ => .bl _)) okS_next)
      (okS_seq (okS_asg (okE_call (okA_cons (okE_var 7) (okA_cons (okE_call (okA_cons (okE_var 7) okA_nil)) okA_nil))) (okG_name 3))
      (okS_seq (okS_if (okT_or (okT_test (okE_op okNe (okE_prop (okE_var 3)) (okE_tup (okA_cons (okE_tup (okA_cons (okE_tup (okA_cons (okE_C fun _ => .int _) (okA_cons (okE_C fun _ => .int _) okA_nil))) (okA_cons (okE_tup (okA_cons (okE_C fun _ => .int _) (okA_cons (okE_C fun _ => .int _) okA_nil))) okA_nil))) (okA_cons (okE_tup (okA_cons (okE_tup (okA_cons (okE_C fun _ => .int _) (okA_cons (okE_C fun _ => .int _) (okA_cons (okE_C fun _ => .int _) (okA_cons (okE_C fun _ => .int _) okA_nil))))) okA_nil)) okA_nil))))) (okT_test (okE_op okNe (okE_prop (okE_var 3)) (okE_tup (okA_cons (okE_C fun _ => .int _) (okA_cons (okE_C fun _ => .int _) (okA_cons (okE_C fun _ => .int _) (okA_cons (okE_C fun _ => .int _) (okA_cons (okE_C fun _ => .int _) okA_nil))))))))) (okS_ret (okE_C fun _ => .bl _)) okS_next)
      (okS_ret (okE_andV (okE_op okEq (okE_prop (okE_call (okA_cons (okE_var 7) (okA_cons (okE_var 7) okA_nil)))) (okE_C fun _ => .int _)) (okE_op okEq (okE_call (okA_cons (okE_call (okA_cons (okE_var 7) (okA_cons (okE_var 7) okA_nil))) (okA_cons (okE_tup (okA_cons (okE_C fun _ => .int _) (okA_cons (okE_C fun _ => .int _) okA_nil))) okA_nil))) (okE_C fun _ => .int _))))))))))⟩⟩


end
theorem vc_law {C : Addr} {ns : List Int} {μ : Mu} {k : DK} (hl : ns.length ≤ 63) (h : k (.bl true) μ) :
    r_law C { nx := fun _ μ' => ∃ μ'', Sub μ'' μ' ∧ k .non μ'', rt := fun d μ' => ∃ μ'', Sub μ'' μ' ∧ k d μ'' } (startD N_law [.scr ns]) μ := by
  unfold r_law
  refine seq_gen fun NX hNX => ?_
  simp only [rFor, rIR1, rCons, rCB, rC, rNil, o2I, oLen, rVar, startD, List.map_cons, List.map_nil, List.cons_append, List.nil_append, List.getElem?_cons_zero]
  refine ⟨ns.length, rfl, ?_⟩
  generalize hm : (if (if (ns.length : Int) < 3 then (ns.length : Int) else 3) > 1 then (if (ns.length : Int) < 3 then (ns.length : Int) else 3) else 1) = m
  have hm4 : m ≤ 3 ∧ 1 ≤ m := by
    subst hm
    split <;> split <;> omega
  refine ⟨⟨by omega, by omega⟩, ?_⟩
  refine forW_inv (List.range m.toNat) (fun i : Nat => .int (0 + (i : Nat))) (.r 0 m.toNat) (fun i δ μ' => ∃ x1 x4 x5, δ = [some (.scr ns), x1, none, none, x4, x5, none, none] ∧ Sub μ μ') ⟨none, none, none, rfl, Sub.refl _⟩ (fun _ _ _ _ => trivial) (fun i x δ μ' hx z => ?_) (fun δ μ' z => ?_)
  · obtain ⟨x1, x4, x5, rfl, hs⟩ := z
    obtain ⟨rfl, hi⟩ := range_get hx
    simp only [rgName, List.set_cons_succ, List.set_cons_zero]
    clear hNX
    refine seq_gen fun NX hNX => ?_
    simp only [rAsg, rCall, rCons, rVar, rNil, rgName, List.getElem?_cons_succ, List.getElem?_cons_zero, List.set_cons_succ, List.set_cons_zero]
    refine ⟨ns, _, rfl, by omega, by omega, fun p vs hp hv => ?_⟩
    subst hNX
    simp only [rFor, rIR1, rCons, rC, rNil]
    refine ⟨by omega, ?_⟩
    refine forW_inv (List.range 3) (fun i : Nat => .int (0 + (i : Nat))) (.r 0 3) (fun j δ μ'' => ∃ x5 vs', δ = [some (.scr ns), some (.int (0 + (x : Nat))), none, none, some (.own p), x5, none, none] ∧ VOk vs' (20000 * j) ∧ μ'' = muSet μ' p vs') ⟨x5, vs, rfl, hv, rfl⟩ (fun _ _ _ _ => trivial) (fun j y δ μ'' hy z => ?_) (fun δ μ'' z => ?_)
    · obtain ⟨x5, vs', rfl, hv', rfl⟩ := z
      obtain ⟨rfl, hj⟩ := range_get hy
      simp
      refine ⟨p, 20000 * y, vs', rfl, muSet_same, hv', by omega, fun vs2 hv2 => ?_⟩
      simp
      exact ⟨vs2, hv2.mono (by omega), by rw [muSet_set]⟩
    · obtain ⟨x5, vs', rfl, hv', rfl⟩ := z
      exact ⟨_, _, _, rfl, Sub.up hs hp⟩
  obtain ⟨x1, x4, x5, rfl, hs⟩ := z
  subst hNX
  dsimp only
  refine seq_gen fun NX hNX => ?_
  simp only [rPar, rMk, rTup, rCons, rC, rNil, rgName, List.set_cons_succ, List.set_cons_zero]
  refine ⟨by show 0 ≤ 1000000; omega, by show 2 ≤ 1000000; omega, _, ⟨2, [], [1, 0], rfl, one_ok, rfl⟩, by show 2 ≤ 1000000; omega, by show 1 ≤ 1000000; omega, by show 1 ≤ 1000000; omega, by show 3 ≤ 1000000; omega, _, ⟨2, tLs, tLa, rfl, oth_ok, rfl⟩, ?_⟩
  subst hNX
  refine seq_gen fun NX hNX => ?_
  simp only [rAsg, rCall, rCons, rVar, rNil, rgName, List.getElem?_cons_succ, List.getElem?_cons_zero, List.set_cons_succ, List.set_cons_zero]
  refine ⟨2, [], [1, 0], tLs, tLa, rfl, one_ok, oth_ok, by rw [g_ls, g_la]; exact g_ok, ?_⟩
  rw [g_ls, g_la]
  subst hNX
  refine seq_gen fun NX hNX => ?_
  simp only [rIfS, rOr, rB, rOp, oNe, rGet, rCall, rTup, rVar, rUn, oNeg, rCons, rC, rNil, rRet, rNext, List.getElem?_cons_succ, List.getElem?_cons_zero]
  refine ⟨trivial, 2, _, _, rfl, ?_⟩
  refine ⟨by show 2 ≤ 1000000; omega, by show 1 ≤ 1000000; omega, by show 3 ≤ 1000000; omega, by show 1 ≤ 1000000; omega, by show 2 ≤ 1000000; omega, ?_⟩
  refine cmLs.toNe (cmLs.as μ' [[[0, 1]], [[1, 0, -2]]]) (cmLs.as μ' [[[0, 1]], [[1, 0, -2]]]) (by decide) ?_
  simp only [asB, decide_true, Bool.not_true, if_false, if_true, Bool.false_eq_true]
  refine ⟨trivial, 2, _, _, rfl, ?_⟩
  refine ⟨by show 4 ≤ 1000000; omega, ?_⟩
  refine cmRow.toNe (cmRow.as μ' [0, 0, 2, 1]) (cmRow.as μ' [0, 0, 2, 1]) (by decide) ?_
  simp only [asB, decide_true, Bool.not_true, if_false, if_true, Bool.false_eq_true]
  have s31 : ∀ x ∈ [(3 : Int), 1], short x = true := by decide
  refine ⟨by show 2 ≤ 1000000; omega, 2, _, _, [3, 1], rfl, g_ok, rfl, s31, ?_⟩
  have v1 : told [0, 0, 2, 1] (numbers [[[0, 1]], [[1, 0, -2]]] [3, 1]) = 3 := by decide
  rw [v1]
  refine oNe_int.mpr ?_
  simp only [asB, decide_true, Bool.not_true, if_false, if_true, Bool.false_eq_true]
  subst hNX
  refine seq_gen fun NX hNX => ?_
  simp only [rAsg, rCall, rCons, rVar, rNil, rgName, List.getElem?_cons_succ, List.getElem?_cons_zero, List.set_cons_succ, List.set_cons_zero]
  refine ⟨2, tLs, tLa, rfl, oth_ok, by rw [r_ls, r_la]; exact r_ok, ?_⟩
  rw [r_ls, r_la]
  refine ⟨2, tLs, tLa, _, _, rfl, oth_ok, r_ok, by rw [a_ls, a_la]; exact a_ok, ?_⟩
  rw [a_ls, a_la]
  subst hNX
  refine seq_gen fun NX hNX => ?_
  simp only [rIfS, rOr, rB, rOp, oNe, rGet, rCall, rTup, rVar, rUn, oNeg, rCons, rC, rNil, rRet, rNext, List.getElem?_cons_succ, List.getElem?_cons_zero]
  refine ⟨trivial, 2, _, _, rfl, ?_⟩
  refine ⟨by show 2 ≤ 1000000; omega, by show 2 ≤ 1000000; omega, by show 2 ≤ 1000000; omega, by show 4 ≤ 1000000; omega, by show 1 ≤ 1000000; omega, by show 2 ≤ 1000000; omega, ?_⟩
  refine cmLs.toNe (cmLs.as μ' [[[0, 1], [0, 1]], [[0, 0, 0, 2]]]) (cmLs.as μ' [[[0, 1], [0, 1]], [[0, 0, 0, 2]]]) (by decide) ?_
  simp only [asB, decide_true, Bool.not_true, if_false, if_true, Bool.false_eq_true]
  refine ⟨trivial, 2, _, _, rfl, ?_⟩
  refine ⟨by show 5 ≤ 1000000; omega, ?_⟩
  refine cmRow.toNe (cmRow.as μ' [0, 0, 2, 0, 1]) (cmRow.as μ' [0, 0, 2, 0, 1]) (by decide) ?_
  simp only [asB, decide_true, Bool.not_true, if_false, if_true, Bool.false_eq_true]
  subst hNX
  simp only [rRet, rAndV, rOp, oEq, rGet, rTup, rVar, rCall, rCons, rC, rNil, List.getElem?_cons_succ, List.getElem?_cons_zero]
  refine ⟨2, tLs, tLa, tLs, tLa, rfl, oth_ok, oth_ok, by rw [h_ls, h_la]; exact h_ok, ?_⟩
  rw [h_ls, h_la]
  refine ⟨rfl, 2, _, _, rfl, ?_⟩
  refine oEq_int.mpr ?_
  have hd : decide (((List.length [[[(0 : Int), 1], [0, 1]], [[0, 0, 2, -2]]] : Nat) : Int) = 2) = true := by decide
  rw [hd]
  simp only [asB, if_true]
  refine ⟨2, tLs, tLa, tLs, tLa, rfl, oth_ok, oth_ok, by rw [h_ls, h_la]; exact h_ok, ?_⟩
  rw [h_ls, h_la]
  have s57 : ∀ x ∈ [(5 : Int), 7], short x = true := by decide
  refine ⟨by show 2 ≤ 1000000; omega, 2, _, _, [5, 7], rfl, h_ok, rfl, s57, ?_⟩
  have v0 : told [0, 0, 0, 2, 1] (numbers [[[0, 1], [0, 1]], [[0, 0, 2, -2]]] [5, 7]) = 14 := by decide
  rw [v0]
  refine oEq_int.mpr ?_
  exact ⟨μ, hs, h⟩
section
variable {P : Program} {w : World} {K : PySem.W.Frag} {mg : Str → Option Value} {base : Heap} {C : Addr}
theorem ok_law {f : Addr} {fd : FuncData} (F : Fun K "law" "law" s_law f fd) (F__law_vat : FnD P w K mg base "_law_vat" 31 d__law_vat) (F__law_right : FnD P w K mg base "_law_right" 42 d__law_right) (F_greater : FnD P w K mg base "greater" 30 (d_greater C)) (F_value_of : FnD P w K mg base "value_of" 14 (d_value_of C)) (F_added : FnD P w K mg base "added" 27 (d_added C)) (F_ramped : FnD P w K mg base "ramped" 29 (d_ramped C)) (M_Network : MakD P w K mg base 7 "Network" C (spMk K C inm_Network)) (Q_layers : PropD P w K mg base C "layers" 1 (d_layers C)) (Q_last : PropD P w K mg base C "last" 1 (d_last C)) (Q_depth : PropD P w K mg base C "depth" 1 (d_depth C)) (T : TxC K mg C) : FnOk P w K mg base CX0 43 f fd ["_law_script"] (spOf K d_law) := by
  obtain ⟨t, hb⟩ := b_law F__law_vat F__law_right F_greater F_value_of F_added F_ramped M_Network Q_layers Q_last Q_depth T f
  refine fn_mkW F sc_law ?_ hb ?_
  · rintro ds μ k ⟨ns, rfl, _⟩; rfl
  · rintro ds μ k ⟨ns, rfl, hl, h⟩
    exact vc_law hl h
end
end K20


set_option Elab.async false
set_option linter.all false
set_option maxRecDepth 100000
set_option maxHeartbeats 8000000
namespace K20
open PySem PySem.Spec PyProof.Rows L2 SlX DL
/-- the end, the loose names' values at hand -/
theorem walk_ofX {l : PySem.W.OpenLaw} {n k : Nat} {q : Program} {loose : List Str} {XP : (Str → Option Value) → Heap → Prop} {YP : World → Heap → Prop} {d : DefRec} {K : Params → PySem.W.Frag} {sp : World → Sp} {x : Str}
    (hn : l.most = some n) (hn2 : n ≤ sizeLine) (hdf : d.params.defaults = []) (hr : Room k callerA)
    (hY : ∀ (w : World) (h : Heap), YP w h → (K w.params).In h)
    (F : ∀ (w : World) (mg : Str → Option Value) (fa : Addr) (h : Heap), (∃ h0, XP mg h0) → (K w.params).In h → h.Ns mainGlobals mg → mg d.name = some (.ref fa) →
      ∃ fd : FuncData, (∀ (s : Shared) (u : Value), BindsTo s fd ⟨[u], []⟩ [(x, u)]) ∧
        ∀ base : Heap, (K w.params).In base → base.Ns mainGlobals mg → FnOk l.prog w (K w.params) mg base CX0 k fa fd [x] (sp w))
    (hsp : ∀ (w : World) (H : Hp) (a : Addr) (ns : List Int), ns.length ≤ n → Only H → SqL (K w.params) H a (ns.map V.int) → sp w [.ref a] H (fun v _ => v = .bl true) fun _ _ _ => False) :
    PySem.W.WalkO q loose XP YP l.row.toRowW d [] (fun f vs => PySem.call f vs) := by
  refine Att.attach_call hn hdf fun w s₀ s₁ mg mb fa o pm cd doc a vs ns G Y ho hd hcd hmg hobj hints hlen hg => ?_
  have KX := hY w _ Y
  obtain ⟨fd, hb, hF⟩ := F w mg fa _ ⟨_, G.X⟩ KX G.T.g hmg
  exact law_call KX G.T.g G.T.b G.T.builtins G.T.nolimit hg hobj hints (Nat.le_trans hlen hn2) hr hF hb (fun H hO hS => hsp w H a ns hlen hO hS) fun H e s' z => z
theorem kit_own {K : PySem.W.Frag} {C : Addr} : PySem.W.kitOne K (.ref C) (.ref C) = some true := by
  unfold PySem.W.kitOne
  rw [if_pos (by simp)]
theorem kit_off {K : PySem.W.Frag} {C : Addr} {T : String} (ic : PySem.W.isClsIn K C = true) (ty : PySem.W.typeIn K (.ref C) = some (.type "type")) (ti : PySem.W.instIn K (.ref C) (.type "type") = some true) (u : PySem.W.subIn K (.type T) (.ref C) = some false) : PySem.W.kitOne K (.type T) (.ref C) = some false := by
  unfold PySem.W.kitOne
  have e : (Value.type T == Value.ref C) = false := by rfl
  rw [e]
  unfold PySem.W.kitCls
  simp [ic, ty, ti, u, show (PySem.W.clsIn K C).isSome = true from ic]
theorem loose_SIXTY {p : Program} {lv : List (Str × PySem.W.WData)} {mg : Str → Option Value} {h : Heap} (x : PySem.W.XL p lv mg h) (hm : (("SIXTY" : Str), PySem.W.WData.int sixty) ∈ lv) : ∃ t, mg "SIXTY" = some (.int sixty t) := by
  obtain ⟨v, e, r⟩ := x.2.val _ hm
  cases r
  exact ⟨_, e⟩
theorem loose_MOST_WEIGHT {p : Program} {lv : List (Str × PySem.W.WData)} {mg : Str → Option Value} {h : Heap} (x : PySem.W.XL p lv mg h) (hm : (("MOST_WEIGHT" : Str), PySem.W.WData.int sixty) ∈ lv) : ∃ t, mg "MOST_WEIGHT" = some (.int sixty t) := by
  obtain ⟨v, e, r⟩ := x.2.val _ hm
  cases r
  exact ⟨_, e⟩
theorem all_mk {l : PySem.W.OpenLaw} {w : World} {K : PySem.W.Frag} {h : Heap} {mg : Str → Option Value} {fa C f_0 f_1 f_2 f_3 f_4 f_5 f_6 f_7 f_8 f_9 f_10 f_11 f_12 f_13 f_14 f_15 f_16 f_17 f_18 f_19 f_20 f_21 f_22 f_23 f_24 f_25 f_26 f_27 f_28 f_29 f_30 f_31 f_32 f_33 f_34 f_35 f_36 f_37 f_38 f_39 f_40 f_41 f_42 p_own_inputs p_own_last p_own_layers q_layers f_players q_last f_plast q_depth f_pdepth f_mparts f_meq f_minit : Addr} (X : K.In h) (G : h.Ns mainGlobals mg) (hfa : mg "law" = some (.ref fa)) (hx_SIXTY : ∃ t, mg "SIXTY" = some (.int sixty t)) (hx_MOST_WEIGHT : ∃ t, mg "MOST_WEIGHT" = some (.int sixty t))
    {od_0 an_0 od_1 an_1 od_2 an_2 od_3 an_3 od_4 an_4 od_5 an_5 od_6 an_6 od_7 an_7 od_8 an_8 od_9 an_9 od_10 an_10 od_11 an_11 od_12 an_12 od_13 an_13 od_14 an_14 od_15 an_15 od_16 an_16 od_17 an_17 od_18 an_18 od_19 an_19 od_20 an_20 od_21 an_21 od_22 an_22 od_23 an_23 od_24 an_24 od_25 an_25 od_26 an_26 od_27 an_27 od_28 an_28 od_29 an_29 od_30 an_30 od_31 an_31 od_32 an_32 od_33 an_33 od_34 an_34 od_35 an_35 od_36 an_36 od_37 an_37 od_38 an_38 od_39 an_39 od_40 an_40 od_41 an_41 od_42 an_42 od_players an_players od_plast an_plast od_pdepth an_pdepth od_mparts an_mparts od_meq an_meq od_minit an_minit : Option Addr} {sl_0 sl_1 sl_2 sl_3 sl_4 sl_5 sl_6 sl_7 sl_8 sl_9 sl_10 sl_11 sl_12 sl_13 sl_14 sl_15 sl_16 sl_17 sl_18 sl_19 sl_20 sl_21 sl_22 sl_23 sl_24 sl_25 sl_26 sl_27 sl_28 sl_29 sl_30 sl_31 sl_32 sl_33 sl_34 sl_35 sl_36 sl_37 sl_38 sl_39 sl_40 sl_41 sl_42 sl_players sl_plast sl_pdepth sl_mparts sl_meq sl_minit : Array (Option Value)} {oc_0 kV_0 dc_0 pm_0 cd_0 ct_0 oc_1 kV_1 dc_1 pm_1 cd_1 ct_1 oc_2 kV_2 dc_2 pm_2 cd_2 ct_2 oc_3 kV_3 dc_3 pm_3 cd_3 ct_3 oc_4 kV_4 dc_4 pm_4 cd_4 ct_4 oc_5 kV_5 dc_5 pm_5 cd_5 ct_5 oc_6 kV_6 dc_6 pm_6 cd_6 ct_6 oc_7 kV_7 dc_7 pm_7 cd_7 ct_7 oc_8 kV_8 dc_8 pm_8 cd_8 ct_8 oc_9 kV_9 dc_9 pm_9 cd_9 ct_9 oc_10 kV_10 dc_10 pm_10 cd_10 ct_10 oc_11 kV_11 dc_11 pm_11 cd_11 ct_11 oc_12 kV_12 dc_12 pm_12 cd_12 ct_12 oc_13 kV_13 dc_13 pm_13 cd_13 ct_13 oc_14 kV_14 dc_14 pm_14 cd_14 ct_14 oc_15 kV_15 dc_15 pm_15 cd_15 ct_15 oc_16 kV_16 dc_16 pm_16 cd_16 ct_16 oc_17 kV_17 dc_17 pm_17 cd_17 ct_17 oc_18 kV_18 dc_18 pm_18 cd_18 ct_18 oc_19 kV_19 dc_19 pm_19 cd_19 ct_19 oc_20 kV_20 dc_20 pm_20 cd_20 ct_20 oc_21 kV_21 dc_21 pm_21 cd_21 ct_21 oc_22 kV_22 dc_22 pm_22 cd_22 ct_22 oc_23 kV_23 dc_23 pm_23 cd_23 ct_23 oc_24 kV_24 dc_24 pm_24 cd_24 ct_24 oc_25 kV_25 dc_25 pm_25 cd_25 ct_25 oc_26 kV_26 dc_26 pm_26 cd_26 ct_26 oc_27 kV_27 dc_27 pm_27 cd_27 ct_27 oc_28 kV_28 dc_28 pm_28 cd_28 ct_28 oc_29 kV_29 dc_29 pm_29 cd_29 ct_29 oc_30 kV_30 dc_30 pm_30 cd_30 ct_30 oc_31 kV_31 dc_31 pm_31 cd_31 ct_31 oc_32 kV_32 dc_32 pm_32 cd_32 ct_32 oc_33 kV_33 dc_33 pm_33 cd_33 ct_33 oc_34 kV_34 dc_34 pm_34 cd_34 ct_34 oc_35 kV_35 dc_35 pm_35 cd_35 ct_35 oc_36 kV_36 dc_36 pm_36 cd_36 ct_36 oc_37 kV_37 dc_37 pm_37 cd_37 ct_37 oc_38 kV_38 dc_38 pm_38 cd_38 ct_38 oc_39 kV_39 dc_39 pm_39 cd_39 ct_39 oc_40 kV_40 dc_40 pm_40 cd_40 ct_40 oc_41 kV_41 dc_41 pm_41 cd_41 ct_41 oc_42 kV_42 dc_42 pm_42 cd_42 ct_42 oc_players kV_players dc_players pm_players cd_players ct_players oc_plast kV_plast dc_plast pm_plast cd_plast ct_plast oc_pdepth kV_pdepth dc_pdepth pm_pdepth cd_pdepth ct_pdepth oc_mparts kV_mparts dc_mparts pm_mparts cd_mparts ct_mparts oc_meq kV_meq dc_meq pm_meq cd_meq ct_meq oc_minit kV_minit dc_minit pm_minit cd_minit ct_minit : Value} {r_layersx r_lastx r_depthx : List Value}
    (a_0 : PySem.W.nsIn K mainGlobals "is_whole" = some (some (.ref f_0)))
    (l_0 : K.lookup f_0 = some ⟨oc_0, od_0, .func (PySem.W.fnOf "is_whole" "is_whole" (defArgs s_is_whole) (defBody s_is_whole) (defScope s_is_whole) .none kV_0 dc_0 pm_0 an_0 cd_0 ct_0), sl_0⟩)
    (c_0 : PySem.W.codeIn K cd_0 "is_whole" = true)
    (k_0 : PySem.W.keepIn K (.ref f_0) = true)
    (a_1 : PySem.W.nsIn K mainGlobals "is_short" = some (some (.ref f_1)))
    (l_1 : K.lookup f_1 = some ⟨oc_1, od_1, .func (PySem.W.fnOf "is_short" "is_short" (defArgs s_is_short) (defBody s_is_short) (defScope s_is_short) .none kV_1 dc_1 pm_1 an_1 cd_1 ct_1), sl_1⟩)
    (c_1 : PySem.W.codeIn K cd_1 "is_short" = true)
    (k_1 : PySem.W.keepIn K (.ref f_1) = true)
    (a_2 : PySem.W.nsIn K mainGlobals "is_from" = some (some (.ref f_2)))
    (l_2 : K.lookup f_2 = some ⟨oc_2, od_2, .func (PySem.W.fnOf "is_from" "is_from" (defArgs s_is_from) (defBody s_is_from) (defScope s_is_from) .none kV_2 dc_2 pm_2 an_2 cd_2 ct_2), sl_2⟩)
    (c_2 : PySem.W.codeIn K cd_2 "is_from" = true)
    (k_2 : PySem.W.keepIn K (.ref f_2) = true)
    (a_3 : PySem.W.nsIn K mainGlobals "are_short" = some (some (.ref f_3)))
    (l_3 : K.lookup f_3 = some ⟨oc_3, od_3, .func (PySem.W.fnOf "are_short" "are_short" (defArgs s_are_short) (defBody s_are_short) (defScope s_are_short) .none kV_3 dc_3 pm_3 an_3 cd_3 ct_3), sl_3⟩)
    (c_3 : PySem.W.codeIn K cd_3 "are_short" = true)
    (k_3 : PySem.W.keepIn K (.ref f_3) = true)
    (a_4 : PySem.W.nsIn K mainGlobals "is_layer" = some (some (.ref f_4)))
    (l_4 : K.lookup f_4 = some ⟨oc_4, od_4, .func (PySem.W.fnOf "is_layer" "is_layer" (defArgs s_is_layer) (defBody s_is_layer) (defScope s_is_layer) .none kV_4 dc_4 pm_4 an_4 cd_4 ct_4), sl_4⟩)
    (c_4 : PySem.W.codeIn K cd_4 "is_layer" = true)
    (k_4 : PySem.W.keepIn K (.ref f_4) = true)
    (a_5 : PySem.W.nsIn K mainGlobals "are_parts" = some (some (.ref f_5)))
    (l_5 : K.lookup f_5 = some ⟨oc_5, od_5, .func (PySem.W.fnOf "are_parts" "are_parts" (defArgs s_are_parts) (defBody s_are_parts) (defScope s_are_parts) .none kV_5 dc_5 pm_5 an_5 cd_5 ct_5), sl_5⟩)
    (c_5 : PySem.W.codeIn K cd_5 "are_parts" = true)
    (k_5 : PySem.W.keepIn K (.ref f_5) = true)
    (a_6 : PySem.W.nsIn K mainGlobals "told_by" = some (some (.ref f_6)))
    (l_6 : K.lookup f_6 = some ⟨oc_6, od_6, .func (PySem.W.fnOf "told_by" "told_by" (defArgs s_told_by) (defBody s_told_by) (defScope s_told_by) .none kV_6 dc_6 pm_6 an_6 cd_6 ct_6), sl_6⟩)
    (c_6 : PySem.W.codeIn K cd_6 "told_by" = true)
    (k_6 : PySem.W.keepIn K (.ref f_6) = true)
    (a_7 : PySem.W.nsIn K mainGlobals "numbers_in" = some (some (.ref f_7)))
    (l_7 : K.lookup f_7 = some ⟨oc_7, od_7, .func (PySem.W.fnOf "numbers_in" "numbers_in" (defArgs s_numbers_in) (defBody s_numbers_in) (defScope s_numbers_in) .none kV_7 dc_7 pm_7 an_7 cd_7 ct_7), sl_7⟩)
    (c_7 : PySem.W.codeIn K cd_7 "numbers_in" = true)
    (k_7 : PySem.W.keepIn K (.ref f_7) = true)
    (a_8 : PySem.W.nsIn K mainGlobals "value_in" = some (some (.ref f_8)))
    (l_8 : K.lookup f_8 = some ⟨oc_8, od_8, .func (PySem.W.fnOf "value_in" "value_in" (defArgs s_value_in) (defBody s_value_in) (defScope s_value_in) .none kV_8 dc_8 pm_8 an_8 cd_8 ct_8), sl_8⟩)
    (c_8 : PySem.W.codeIn K cd_8 "value_in" = true)
    (k_8 : PySem.W.keepIn K (.ref f_8) = true)
    (a_9 : PySem.W.nsIn K mainGlobals "require_short" = some (some (.ref f_9)))
    (l_9 : K.lookup f_9 = some ⟨oc_9, od_9, .func (PySem.W.fnOf "require_short" "require_short" (defArgs s_require_short) (defBody s_require_short) (defScope s_require_short) .none kV_9 dc_9 pm_9 an_9 cd_9 ct_9), sl_9⟩)
    (c_9 : PySem.W.codeIn K cd_9 "require_short" = true)
    (k_9 : PySem.W.keepIn K (.ref f_9) = true)
    (a_10 : PySem.W.nsIn K mainGlobals "require_network" = some (some (.ref f_10)))
    (l_10 : K.lookup f_10 = some ⟨oc_10, od_10, .func (PySem.W.fnOf "require_network" "require_network" (defArgs s_require_network) (defBody s_require_network) (defScope s_require_network) .none kV_10 dc_10 pm_10 an_10 cd_10 ct_10), sl_10⟩)
    (c_10 : PySem.W.codeIn K cd_10 "require_network" = true)
    (k_10 : PySem.W.keepIn K (.ref f_10) = true)
    (a_11 : PySem.W.nsIn K mainGlobals "require_inputs" = some (some (.ref f_11)))
    (l_11 : K.lookup f_11 = some ⟨oc_11, od_11, .func (PySem.W.fnOf "require_inputs" "require_inputs" (defArgs s_require_inputs) (defBody s_require_inputs) (defScope s_require_inputs) .none kV_11 dc_11 pm_11 an_11 cd_11 ct_11), sl_11⟩)
    (c_11 : PySem.W.codeIn K cd_11 "require_inputs" = true)
    (k_11 : PySem.W.keepIn K (.ref f_11) = true)
    (a_12 : PySem.W.nsIn K mainGlobals "require_place" = some (some (.ref f_12)))
    (l_12 : K.lookup f_12 = some ⟨oc_12, od_12, .func (PySem.W.fnOf "require_place" "require_place" (defArgs s_require_place) (defBody s_require_place) (defScope s_require_place) .none kV_12 dc_12 pm_12 an_12 cd_12 ct_12), sl_12⟩)
    (c_12 : PySem.W.codeIn K cd_12 "require_place" = true)
    (k_12 : PySem.W.keepIn K (.ref f_12) = true)
    (a_13 : PySem.W.nsIn K mainGlobals "value_of" = some (some (.ref f_13)))
    (l_13 : K.lookup f_13 = some ⟨oc_13, od_13, .func (PySem.W.fnOf "value_of" "value_of" (defArgs s_value_of) (defBody s_value_of) (defScope s_value_of) .none kV_13 dc_13 pm_13 an_13 cd_13 ct_13), sl_13⟩)
    (c_13 : PySem.W.codeIn K cd_13 "value_of" = true)
    (k_13 : PySem.W.keepIn K (.ref f_13) = true)
    (a_14 : PySem.W.nsIn K mainGlobals "layer_at" = some (some (.ref f_14)))
    (l_14 : K.lookup f_14 = some ⟨oc_14, od_14, .func (PySem.W.fnOf "layer_at" "layer_at" (defArgs s_layer_at) (defBody s_layer_at) (defScope s_layer_at) .none kV_14 dc_14 pm_14 an_14 cd_14 ct_14), sl_14⟩)
    (c_14 : PySem.W.codeIn K cd_14 "layer_at" = true)
    (k_14 : PySem.W.keepIn K (.ref f_14) = true)
    (a_15 : PySem.W.nsIn K mainGlobals "sizes_of" = some (some (.ref f_15)))
    (l_15 : K.lookup f_15 = some ⟨oc_15, od_15, .func (PySem.W.fnOf "sizes_of" "sizes_of" (defArgs s_sizes_of) (defBody s_sizes_of) (defScope s_sizes_of) .none kV_15 dc_15 pm_15 an_15 cd_15 ct_15), sl_15⟩)
    (c_15 : PySem.W.codeIn K cd_15 "sizes_of" = true)
    (k_15 : PySem.W.keepIn K (.ref f_15) = true)
    (a_16 : PySem.W.nsIn K mainGlobals "spread" = some (some (.ref f_16)))
    (l_16 : K.lookup f_16 = some ⟨oc_16, od_16, .func (PySem.W.fnOf "spread" "spread" (defArgs s_spread) (defBody s_spread) (defScope s_spread) .none kV_16 dc_16 pm_16 an_16 cd_16 ct_16), sl_16⟩)
    (c_16 : PySem.W.codeIn K cd_16 "spread" = true)
    (k_16 : PySem.W.keepIn K (.ref f_16) = true)
    (a_17 : PySem.W.nsIn K mainGlobals "beside" = some (some (.ref f_17)))
    (l_17 : K.lookup f_17 = some ⟨oc_17, od_17, .func (PySem.W.fnOf "beside" "beside" (defArgs s_beside) (defBody s_beside) (defScope s_beside) .none kV_17 dc_17 pm_17 an_17 cd_17 ct_17), sl_17⟩)
    (c_17 : PySem.W.codeIn K cd_17 "beside" = true)
    (k_17 : PySem.W.keepIn K (.ref f_17) = true)
    (a_18 : PySem.W.nsIn K mainGlobals "last_rows" = some (some (.ref f_18)))
    (l_18 : K.lookup f_18 = some ⟨oc_18, od_18, .func (PySem.W.fnOf "last_rows" "last_rows" (defArgs s_last_rows) (defBody s_last_rows) (defScope s_last_rows) .none kV_18 dc_18 pm_18 an_18 cd_18 ct_18), sl_18⟩)
    (c_18 : PySem.W.codeIn K cd_18 "last_rows" = true)
    (k_18 : PySem.W.keepIn K (.ref f_18) = true)
    (a_19 : PySem.W.nsIn K mainGlobals "need_sizes" = some (some (.ref f_19)))
    (l_19 : K.lookup f_19 = some ⟨oc_19, od_19, .func (PySem.W.fnOf "need_sizes" "need_sizes" (defArgs s_need_sizes) (defBody s_need_sizes) (defScope s_need_sizes) .none kV_19 dc_19 pm_19 an_19 cd_19 ct_19), sl_19⟩)
    (c_19 : PySem.W.codeIn K cd_19 "need_sizes" = true)
    (k_19 : PySem.W.keepIn K (.ref f_19) = true)
    (a_20 : PySem.W.nsIn K mainGlobals "made" = some (some (.ref f_20)))
    (l_20 : K.lookup f_20 = some ⟨oc_20, od_20, .func (PySem.W.fnOf "made" "made" (defArgs s_made) (defBody s_made) (defScope s_made) .none kV_20 dc_20 pm_20 an_20 cd_20 ct_20), sl_20⟩)
    (c_20 : PySem.W.codeIn K cd_20 "made" = true)
    (k_20 : PySem.W.keepIn K (.ref f_20) = true)
    (a_21 : PySem.W.nsIn K mainGlobals "added_in" = some (some (.ref f_21)))
    (l_21 : K.lookup f_21 = some ⟨oc_21, od_21, .func (PySem.W.fnOf "added_in" "added_in" (defArgs s_added_in) (defBody s_added_in) (defScope s_added_in) .none kV_21 dc_21 pm_21 an_21 cd_21 ct_21), sl_21⟩)
    (c_21 : PySem.W.codeIn K cd_21 "added_in" = true)
    (k_21 : PySem.W.keepIn K (.ref f_21) = true)
    (a_22 : PySem.W.nsIn K mainGlobals "multiplied_in" = some (some (.ref f_22)))
    (l_22 : K.lookup f_22 = some ⟨oc_22, od_22, .func (PySem.W.fnOf "multiplied_in" "multiplied_in" (defArgs s_multiplied_in) (defBody s_multiplied_in) (defScope s_multiplied_in) .none kV_22 dc_22 pm_22 an_22 cd_22 ct_22), sl_22⟩)
    (c_22 : PySem.W.codeIn K cd_22 "multiplied_in" = true)
    (k_22 : PySem.W.keepIn K (.ref f_22) = true)
    (a_23 : PySem.W.nsIn K mainGlobals "ramped_in" = some (some (.ref f_23)))
    (l_23 : K.lookup f_23 = some ⟨oc_23, od_23, .func (PySem.W.fnOf "ramped_in" "ramped_in" (defArgs s_ramped_in) (defBody s_ramped_in) (defScope s_ramped_in) .none kV_23 dc_23 pm_23 an_23 cd_23 ct_23), sl_23⟩)
    (c_23 : PySem.W.codeIn K cd_23 "ramped_in" = true)
    (k_23 : PySem.W.keepIn K (.ref f_23) = true)
    (a_24 : PySem.W.nsIn K mainGlobals "greater_in" = some (some (.ref f_24)))
    (l_24 : K.lookup f_24 = some ⟨oc_24, od_24, .func (PySem.W.fnOf "greater_in" "greater_in" (defArgs s_greater_in) (defBody s_greater_in) (defScope s_greater_in) .none kV_24 dc_24 pm_24 an_24 cd_24 ct_24), sl_24⟩)
    (c_24 : PySem.W.codeIn K cd_24 "greater_in" = true)
    (k_24 : PySem.W.keepIn K (.ref f_24) = true)
    (a_25 : PySem.W.nsIn K mainGlobals "require_two" = some (some (.ref f_25)))
    (l_25 : K.lookup f_25 = some ⟨oc_25, od_25, .func (PySem.W.fnOf "require_two" "require_two" (defArgs s_require_two) (defBody s_require_two) (defScope s_require_two) .none kV_25 dc_25 pm_25 an_25 cd_25 ct_25), sl_25⟩)
    (c_25 : PySem.W.codeIn K cd_25 "require_two" = true)
    (k_25 : PySem.W.keepIn K (.ref f_25) = true)
    (a_26 : PySem.W.nsIn K mainGlobals "added" = some (some (.ref f_26)))
    (l_26 : K.lookup f_26 = some ⟨oc_26, od_26, .func (PySem.W.fnOf "added" "added" (defArgs s_added) (defBody s_added) (defScope s_added) .none kV_26 dc_26 pm_26 an_26 cd_26 ct_26), sl_26⟩)
    (c_26 : PySem.W.codeIn K cd_26 "added" = true)
    (k_26 : PySem.W.keepIn K (.ref f_26) = true)
    (a_27 : PySem.W.nsIn K mainGlobals "multiplied" = some (some (.ref f_27)))
    (l_27 : K.lookup f_27 = some ⟨oc_27, od_27, .func (PySem.W.fnOf "multiplied" "multiplied" (defArgs s_multiplied) (defBody s_multiplied) (defScope s_multiplied) .none kV_27 dc_27 pm_27 an_27 cd_27 ct_27), sl_27⟩)
    (c_27 : PySem.W.codeIn K cd_27 "multiplied" = true)
    (k_27 : PySem.W.keepIn K (.ref f_27) = true)
    (a_28 : PySem.W.nsIn K mainGlobals "ramped" = some (some (.ref f_28)))
    (l_28 : K.lookup f_28 = some ⟨oc_28, od_28, .func (PySem.W.fnOf "ramped" "ramped" (defArgs s_ramped) (defBody s_ramped) (defScope s_ramped) .none kV_28 dc_28 pm_28 an_28 cd_28 ct_28), sl_28⟩)
    (c_28 : PySem.W.codeIn K cd_28 "ramped" = true)
    (k_28 : PySem.W.keepIn K (.ref f_28) = true)
    (a_29 : PySem.W.nsIn K mainGlobals "greater" = some (some (.ref f_29)))
    (l_29 : K.lookup f_29 = some ⟨oc_29, od_29, .func (PySem.W.fnOf "greater" "greater" (defArgs s_greater) (defBody s_greater) (defScope s_greater) .none kV_29 dc_29 pm_29 an_29 cd_29 ct_29), sl_29⟩)
    (c_29 : PySem.W.codeIn K cd_29 "greater" = true)
    (k_29 : PySem.W.keepIn K (.ref f_29) = true)
    (a_30 : PySem.W.nsIn K mainGlobals "_law_vat" = some (some (.ref f_30)))
    (l_30 : K.lookup f_30 = some ⟨oc_30, od_30, .func (PySem.W.fnOf "_law_vat" "_law_vat" (defArgs s__law_vat) (defBody s__law_vat) (defScope s__law_vat) .none kV_30 dc_30 pm_30 an_30 cd_30 ct_30), sl_30⟩)
    (c_30 : PySem.W.codeIn K cd_30 "_law_vat" = true)
    (k_30 : PySem.W.keepIn K (.ref f_30) = true)
    (a_31 : PySem.W.nsIn K mainGlobals "_law_draw" = some (some (.ref f_31)))
    (l_31 : K.lookup f_31 = some ⟨oc_31, od_31, .func (PySem.W.fnOf "_law_draw" "_law_draw" (defArgs s__law_draw) (defBody s__law_draw) (defScope s__law_draw) .none kV_31 dc_31 pm_31 an_31 cd_31 ct_31), sl_31⟩)
    (c_31 : PySem.W.codeIn K cd_31 "_law_draw" = true)
    (k_31 : PySem.W.keepIn K (.ref f_31) = true)
    (a_32 : PySem.W.nsIn K mainGlobals "_law_pick" = some (some (.ref f_32)))
    (l_32 : K.lookup f_32 = some ⟨oc_32, od_32, .func (PySem.W.fnOf "_law_pick" "_law_pick" (defArgs s__law_pick) (defBody s__law_pick) (defScope s__law_pick) .none kV_32 dc_32 pm_32 an_32 cd_32 ct_32), sl_32⟩)
    (c_32 : PySem.W.codeIn K cd_32 "_law_pick" = true)
    (k_32 : PySem.W.keepIn K (.ref f_32) = true)
    (a_33 : PySem.W.nsIn K mainGlobals "_law_told" = some (some (.ref f_33)))
    (l_33 : K.lookup f_33 = some ⟨oc_33, od_33, .func (PySem.W.fnOf "_law_told" "_law_told" (defArgs s__law_told) (defBody s__law_told) (defScope s__law_told) .none kV_33 dc_33 pm_33 an_33 cd_33 ct_33), sl_33⟩)
    (c_33 : PySem.W.codeIn K cd_33 "_law_told" = true)
    (k_33 : PySem.W.keepIn K (.ref f_33) = true)
    (a_34 : PySem.W.nsIn K mainGlobals "_law_numbers" = some (some (.ref f_34)))
    (l_34 : K.lookup f_34 = some ⟨oc_34, od_34, .func (PySem.W.fnOf "_law_numbers" "_law_numbers" (defArgs s__law_numbers) (defBody s__law_numbers) (defScope s__law_numbers) .none kV_34 dc_34 pm_34 an_34 cd_34 ct_34), sl_34⟩)
    (c_34 : PySem.W.codeIn K cd_34 "_law_numbers" = true)
    (k_34 : PySem.W.keepIn K (.ref f_34) = true)
    (a_35 : PySem.W.nsIn K mainGlobals "_law_row" = some (some (.ref f_35)))
    (l_35 : K.lookup f_35 = some ⟨oc_35, od_35, .func (PySem.W.fnOf "_law_row" "_law_row" (defArgs s__law_row) (defBody s__law_row) (defScope s__law_row) .none kV_35 dc_35 pm_35 an_35 cd_35 ct_35), sl_35⟩)
    (c_35 : PySem.W.codeIn K cd_35 "_law_row" = true)
    (k_35 : PySem.W.keepIn K (.ref f_35) = true)
    (a_36 : PySem.W.nsIn K mainGlobals "_law_parts" = some (some (.ref f_36)))
    (l_36 : K.lookup f_36 = some ⟨oc_36, od_36, .func (PySem.W.fnOf "_law_parts" "_law_parts" (defArgs s__law_parts) (defBody s__law_parts) (defScope s__law_parts) .none kV_36 dc_36 pm_36 an_36 cd_36 ct_36), sl_36⟩)
    (c_36 : PySem.W.codeIn K cd_36 "_law_parts" = true)
    (k_36 : PySem.W.keepIn K (.ref f_36) = true)
    (a_37 : PySem.W.nsIn K mainGlobals "_law_value" = some (some (.ref f_37)))
    (l_37 : K.lookup f_37 = some ⟨oc_37, od_37, .func (PySem.W.fnOf "_law_value" "_law_value" (defArgs s__law_value) (defBody s__law_value) (defScope s__law_value) .none kV_37 dc_37 pm_37 an_37 cd_37 ct_37), sl_37⟩)
    (c_37 : PySem.W.codeIn K cd_37 "_law_value" = true)
    (k_37 : PySem.W.keepIn K (.ref f_37) = true)
    (a_38 : PySem.W.nsIn K mainGlobals "_law_rows" = some (some (.ref f_38)))
    (l_38 : K.lookup f_38 = some ⟨oc_38, od_38, .func (PySem.W.fnOf "_law_rows" "_law_rows" (defArgs s__law_rows) (defBody s__law_rows) (defScope s__law_rows) .none kV_38 dc_38 pm_38 an_38 cd_38 ct_38), sl_38⟩)
    (c_38 : PySem.W.codeIn K cd_38 "_law_rows" = true)
    (k_38 : PySem.W.keepIn K (.ref f_38) = true)
    (a_39 : PySem.W.nsIn K mainGlobals "_law_spread" = some (some (.ref f_39)))
    (l_39 : K.lookup f_39 = some ⟨oc_39, od_39, .func (PySem.W.fnOf "_law_spread" "_law_spread" (defArgs s__law_spread) (defBody s__law_spread) (defScope s__law_spread) .none kV_39 dc_39 pm_39 an_39 cd_39 ct_39), sl_39⟩)
    (c_39 : PySem.W.codeIn K cd_39 "_law_spread" = true)
    (k_39 : PySem.W.keepIn K (.ref f_39) = true)
    (a_40 : PySem.W.nsIn K mainGlobals "_law_beside" = some (some (.ref f_40)))
    (l_40 : K.lookup f_40 = some ⟨oc_40, od_40, .func (PySem.W.fnOf "_law_beside" "_law_beside" (defArgs s__law_beside) (defBody s__law_beside) (defScope s__law_beside) .none kV_40 dc_40 pm_40 an_40 cd_40 ct_40), sl_40⟩)
    (c_40 : PySem.W.codeIn K cd_40 "_law_beside" = true)
    (k_40 : PySem.W.keepIn K (.ref f_40) = true)
    (a_41 : PySem.W.nsIn K mainGlobals "_law_right" = some (some (.ref f_41)))
    (l_41 : K.lookup f_41 = some ⟨oc_41, od_41, .func (PySem.W.fnOf "_law_right" "_law_right" (defArgs s__law_right) (defBody s__law_right) (defScope s__law_right) .none kV_41 dc_41 pm_41 an_41 cd_41 ct_41), sl_41⟩)
    (c_41 : PySem.W.codeIn K cd_41 "_law_right" = true)
    (k_41 : PySem.W.keepIn K (.ref f_41) = true)
    (a_42 : PySem.W.nsIn K mainGlobals "law" = some (some (.ref f_42)))
    (l_42 : K.lookup f_42 = some ⟨oc_42, od_42, .func (PySem.W.fnOf "law" "law" (defArgs s_law) (defBody s_law) (defScope s_law) .none kV_42 dc_42 pm_42 an_42 cd_42 ct_42), sl_42⟩)
    (c_42 : PySem.W.codeIn K cd_42 "law" = true)
    (k_42 : PySem.W.keepIn K (.ref f_42) = true)
    (aC : PySem.W.nsIn K mainGlobals "Network" = some (some (.ref C)))
    (pg : PySem.W.plainGet K C Str.empty = true)
    (ic : PySem.W.isClsIn K C = true)
    (po : PySem.W.plainOver K C = true)
    (sa : PySem.W.findIn K (.ref C) "__setattr__" = some (some (.builtin "object.__setattr__")))
    (ca : PySem.W.findIn K (.ref C) "__class__" = some (some (.builtin "object.__class__")))
    (cn : PySem.W.specialIn K (.builtin "object.__class__") "__get__" = some (some (.builtin "getset_descriptor.__get__")))
    (ctk : PySem.W.takesIn K (.builtin "object.__class__") = some true)
    (cm : PySem.W.mroIn K C (.type "object") = some true)
    (nNon : PySem.W.notFirst K C (.type "NoneType") = true)
    (nInt : PySem.W.notFirst K C (.type "int") = true)
    (nTup : PySem.W.notFirst K C (.type "tuple") = true)
    (kTy : PySem.W.typeIn K (.ref C) = some (.type "type"))
    (kTi : PySem.W.instIn K (.ref C) (.type "type") = some true)
    (uNon : PySem.W.subIn K (.type "NoneType") (.ref C) = some false)
    (uInt : PySem.W.subIn K (.type "int") (.ref C) = some false)
    (uTup : PySem.W.subIn K (.type "tuple") (.ref C) = some false)
    (ne : PySem.W.findIn K (.ref C) "__ne__" = some (some (.builtin "object.__ne__")))
    (mk : PySem.W.makesIn K C = true)
    (kc : PySem.W.keepIn K (.ref C) = true)
    (sa_own_inputs : PySem.W.findIn K (.ref C) "own_inputs" = some (some (.ref p_own_inputs)))
    (sg_own_inputs : PySem.W.specialIn K (.ref p_own_inputs) "__get__" = some (some (.builtin "member_descriptor.__get__")))
    (st_own_inputs : PySem.W.takesIn K (.ref p_own_inputs) = some true)
    (sy_own_inputs : PySem.W.typeIn K (.ref p_own_inputs) = some (.type "member_descriptor"))
    (si_own_inputs : PySem.W.slotIn K p_own_inputs C = some 0)
    (sa_own_last : PySem.W.findIn K (.ref C) "own_last" = some (some (.ref p_own_last)))
    (sg_own_last : PySem.W.specialIn K (.ref p_own_last) "__get__" = some (some (.builtin "member_descriptor.__get__")))
    (st_own_last : PySem.W.takesIn K (.ref p_own_last) = some true)
    (sy_own_last : PySem.W.typeIn K (.ref p_own_last) = some (.type "member_descriptor"))
    (si_own_last : PySem.W.slotIn K p_own_last C = some 1)
    (sa_own_layers : PySem.W.findIn K (.ref C) "own_layers" = some (some (.ref p_own_layers)))
    (sg_own_layers : PySem.W.specialIn K (.ref p_own_layers) "__get__" = some (some (.builtin "member_descriptor.__get__")))
    (st_own_layers : PySem.W.takesIn K (.ref p_own_layers) = some true)
    (sy_own_layers : PySem.W.typeIn K (.ref p_own_layers) = some (.type "member_descriptor"))
    (si_own_layers : PySem.W.slotIn K p_own_layers C = some 2)
    (pa_layers : PySem.W.findIn K (.ref C) "layers" = some (some (.ref q_layers)))
    (pg_layers : PySem.W.specialIn K (.ref q_layers) "__get__" = some (some (.builtin "property.__get__")))
    (pt_layers : PySem.W.takesIn K (.ref q_layers) = some true)
    (pr_layers : PySem.W.recIn K q_layers "property" = some (.ref f_players :: r_layersx))
    (l_players : K.lookup f_players = some ⟨oc_players, od_players, .func (PySem.W.fnOf "layers" "Network.layers" (defArgs s_Network_layers) (defBody s_Network_layers) (defScope s_Network_layers) .none kV_players dc_players pm_players an_players cd_players ct_players), sl_players⟩)
    (c_players : PySem.W.codeIn K cd_players "Network.layers" = true)
    (kp_layers : PySem.W.keepIn K (.ref f_players) = true)
    (pa_last : PySem.W.findIn K (.ref C) "last" = some (some (.ref q_last)))
    (pg_last : PySem.W.specialIn K (.ref q_last) "__get__" = some (some (.builtin "property.__get__")))
    (pt_last : PySem.W.takesIn K (.ref q_last) = some true)
    (pr_last : PySem.W.recIn K q_last "property" = some (.ref f_plast :: r_lastx))
    (l_plast : K.lookup f_plast = some ⟨oc_plast, od_plast, .func (PySem.W.fnOf "last" "Network.last" (defArgs s_Network_last) (defBody s_Network_last) (defScope s_Network_last) .none kV_plast dc_plast pm_plast an_plast cd_plast ct_plast), sl_plast⟩)
    (c_plast : PySem.W.codeIn K cd_plast "Network.last" = true)
    (kp_last : PySem.W.keepIn K (.ref f_plast) = true)
    (pa_depth : PySem.W.findIn K (.ref C) "depth" = some (some (.ref q_depth)))
    (pg_depth : PySem.W.specialIn K (.ref q_depth) "__get__" = some (some (.builtin "property.__get__")))
    (pt_depth : PySem.W.takesIn K (.ref q_depth) = some true)
    (pr_depth : PySem.W.recIn K q_depth "property" = some (.ref f_pdepth :: r_depthx))
    (l_pdepth : K.lookup f_pdepth = some ⟨oc_pdepth, od_pdepth, .func (PySem.W.fnOf "depth" "Network.depth" (defArgs s_Network_depth) (defBody s_Network_depth) (defScope s_Network_depth) .none kV_pdepth dc_pdepth pm_pdepth an_pdepth cd_pdepth ct_pdepth), sl_pdepth⟩)
    (c_pdepth : PySem.W.codeIn K cd_pdepth "Network.depth" = true)
    (kp_depth : PySem.W.keepIn K (.ref f_pdepth) = true)
    (ma_mparts : PySem.W.findIn K (.ref C) "parts" = some (some (.ref f_mparts)))
    (mi_mparts : PySem.W.isFn K (.ref f_mparts) = true)
    (l_mparts : K.lookup f_mparts = some ⟨oc_mparts, od_mparts, .func (PySem.W.fnOf "parts" "Network.parts" (defArgs s_Network_parts) (defBody s_Network_parts) (defScope s_Network_parts) .none kV_mparts dc_mparts pm_mparts an_mparts cd_mparts ct_mparts), sl_mparts⟩)
    (c_mparts : PySem.W.codeIn K cd_mparts "Network.parts" = true)
    (mk_mparts : PySem.W.keepIn K (.ref f_mparts) = true)
    (ma_meq : PySem.W.findIn K (.ref C) "__eq__" = some (some (.ref f_meq)))
    (mi_meq : PySem.W.isFn K (.ref f_meq) = true)
    (l_meq : K.lookup f_meq = some ⟨oc_meq, od_meq, .func (PySem.W.fnOf "__eq__" "Network.__eq__" (defArgs s_Network___eq__) (defBody s_Network___eq__) (defScope s_Network___eq__) .none kV_meq dc_meq pm_meq an_meq cd_meq ct_meq), sl_meq⟩)
    (c_meq : PySem.W.codeIn K cd_meq "Network.__eq__" = true)
    (mk_meq : PySem.W.keepIn K (.ref f_meq) = true)
    (ma_minit : PySem.W.findIn K (.ref C) "__init__" = some (some (.ref f_minit)))
    (mi_minit : PySem.W.isFn K (.ref f_minit) = true)
    (l_minit : K.lookup f_minit = some ⟨oc_minit, od_minit, .func (PySem.W.fnOf "__init__" "Network.__init__" (defArgs s_Network___init__) (defBody s_Network___init__) (defScope s_Network___init__) .none kV_minit dc_minit pm_minit an_minit cd_minit ct_minit), sl_minit⟩)
    (c_minit : PySem.W.codeIn K cd_minit "Network.__init__" = true)
    (mk_minit : PySem.W.keepIn K (.ref f_minit) = true)
    (z_isinstance : PySem.W.nsIn K mainGlobals "isinstance" = some none)
    (z_int : PySem.W.nsIn K mainGlobals "int" = some none)
    (z_bool : PySem.W.nsIn K mainGlobals "bool" = some none)
    (z_tuple : PySem.W.nsIn K mainGlobals "tuple" = some none)
    (z_len : PySem.W.nsIn K mainGlobals "len" = some none)
    (z_all : PySem.W.nsIn K mainGlobals "all" = some none)
    (z_sum : PySem.W.nsIn K mainGlobals "sum" = some none)
    (z_zip : PySem.W.nsIn K mainGlobals "zip" = some none)
    (z_range : PySem.W.nsIn K mainGlobals "range" = some none)
    (z_max : PySem.W.nsIn K mainGlobals "max" = some none)
    (z_min : PySem.W.nsIn K mainGlobals "min" = some none)
    (z_abs : PySem.W.nsIn K mainGlobals "abs" = some none)
    (z_list : PySem.W.nsIn K mainGlobals "list" = some none)
    (z_str : PySem.W.nsIn K mainGlobals "str" = some none)
    (z_any : PySem.W.nsIn K mainGlobals "any" = some none)
    (z_enumerate : PySem.W.nsIn K mainGlobals "enumerate" = some none)
    (x_MOST_INPUTS : ∃ t, PySem.W.nsIn K mainGlobals "MOST_INPUTS" = some (some (.int 8 t)))
    (x_MOST_LAYERS : ∃ t, PySem.W.nsIn K mainGlobals "MOST_LAYERS" = some (some (.int 4 t)))
    (x_MOST_IN_LAYER : ∃ t, PySem.W.nsIn K mainGlobals "MOST_IN_LAYER" = some (some (.int 64 t)))
    (x_MOST_UNITS : ∃ t, PySem.W.nsIn K mainGlobals "MOST_UNITS" = some (some (.int 128 t))) :
    ∃ fd : FuncData, (∀ (s : Shared) (v : Value), BindsTo s fd ⟨[v], []⟩ [("_law_script", v)]) ∧ ∀ base : Heap, K.In base → base.Ns mainGlobals mg → FnOk l.prog w K mg base CX0 43 fa fd ["_law_script"] (spOf K d_law) := by
  have e := hfa.symm.trans (PySem.W.mg_of X G a_42)
  cases e
  have T0 : Txt K mg := { b_isinstance := PySem.W.mg_none_of X G z_isinstance, b_int := PySem.W.mg_none_of X G z_int, b_bool := PySem.W.mg_none_of X G z_bool, b_tuple := PySem.W.mg_none_of X G z_tuple, b_len := PySem.W.mg_none_of X G z_len, b_all := PySem.W.mg_none_of X G z_all, b_sum := PySem.W.mg_none_of X G z_sum, b_zip := PySem.W.mg_none_of X G z_zip, b_range := PySem.W.mg_none_of X G z_range, b_max := PySem.W.mg_none_of X G z_max, b_min := PySem.W.mg_none_of X G z_min, b_abs := PySem.W.mg_none_of X G z_abs, b_list := PySem.W.mg_none_of X G z_list, b_str := PySem.W.mg_none_of X G z_str, b_any := PySem.W.mg_none_of X G z_any, b_enumerate := PySem.W.mg_none_of X G z_enumerate, c_SIXTY := hx_SIXTY, c_MOST_WEIGHT := hx_MOST_WEIGHT, c_MOST_INPUTS := let ⟨t, e⟩ := x_MOST_INPUTS; ⟨t, PySem.W.mg_of X G e⟩, c_MOST_LAYERS := let ⟨t, e⟩ := x_MOST_LAYERS; ⟨t, PySem.W.mg_of X G e⟩, c_MOST_IN_LAYER := let ⟨t, e⟩ := x_MOST_IN_LAYER; ⟨t, PySem.W.mg_of X G e⟩, c_MOST_UNITS := let ⟨t, e⟩ := x_MOST_UNITS; ⟨t, PySem.W.mg_of X G e⟩ }
  have cl : SCls K C := ⟨pg, ic, po, sa⟩
  have cmpC : Cmp K C := ⟨cl, ⟨ca, cn, ctk, cm⟩, nNon, nInt, nTup, kit_off ic kTy kTi uNon, kit_off ic kTy kTi uInt, kit_off ic kTy kTi uTup, kit_own, ne⟩
  have T : TxC K mg C := { toTxt := T0, mgC := PySem.W.mg_of X G aC, cmp := cmpC, sx_own_inputs := ⟨p_own_inputs, sa_own_inputs, sg_own_inputs, st_own_inputs, sy_own_inputs, si_own_inputs, by decide⟩, sx_own_last := ⟨p_own_last, sa_own_last, sg_own_last, st_own_last, sy_own_last, si_own_last, by decide⟩, sx_own_layers := ⟨p_own_layers, sa_own_layers, sg_own_layers, st_own_layers, sy_own_layers, si_own_layers, by decide⟩ }
  have A0 : At K mg "is_whole" s_is_whole := ⟨f_0, _, fun_mk (st := s_is_whole) l_0 c_0 k_0, PySem.W.mg_of X G a_0, k_0⟩
  have A1 : At K mg "is_short" s_is_short := ⟨f_1, _, fun_mk (st := s_is_short) l_1 c_1 k_1, PySem.W.mg_of X G a_1, k_1⟩
  have A2 : At K mg "is_from" s_is_from := ⟨f_2, _, fun_mk (st := s_is_from) l_2 c_2 k_2, PySem.W.mg_of X G a_2, k_2⟩
  have A3 : At K mg "are_short" s_are_short := ⟨f_3, _, fun_mk (st := s_are_short) l_3 c_3 k_3, PySem.W.mg_of X G a_3, k_3⟩
  have A4 : At K mg "is_layer" s_is_layer := ⟨f_4, _, fun_mk (st := s_is_layer) l_4 c_4 k_4, PySem.W.mg_of X G a_4, k_4⟩
  have A5 : At K mg "are_parts" s_are_parts := ⟨f_5, _, fun_mk (st := s_are_parts) l_5 c_5 k_5, PySem.W.mg_of X G a_5, k_5⟩
  have A6 : At K mg "told_by" s_told_by := ⟨f_6, _, fun_mk (st := s_told_by) l_6 c_6 k_6, PySem.W.mg_of X G a_6, k_6⟩
  have A7 : At K mg "numbers_in" s_numbers_in := ⟨f_7, _, fun_mk (st := s_numbers_in) l_7 c_7 k_7, PySem.W.mg_of X G a_7, k_7⟩
  have A8 : At K mg "value_in" s_value_in := ⟨f_8, _, fun_mk (st := s_value_in) l_8 c_8 k_8, PySem.W.mg_of X G a_8, k_8⟩
  have A9 : At K mg "require_short" s_require_short := ⟨f_9, _, fun_mk (st := s_require_short) l_9 c_9 k_9, PySem.W.mg_of X G a_9, k_9⟩
  have A10 : At K mg "require_network" s_require_network := ⟨f_10, _, fun_mk (st := s_require_network) l_10 c_10 k_10, PySem.W.mg_of X G a_10, k_10⟩
  have A11 : At K mg "require_inputs" s_require_inputs := ⟨f_11, _, fun_mk (st := s_require_inputs) l_11 c_11 k_11, PySem.W.mg_of X G a_11, k_11⟩
  have A12 : At K mg "require_place" s_require_place := ⟨f_12, _, fun_mk (st := s_require_place) l_12 c_12 k_12, PySem.W.mg_of X G a_12, k_12⟩
  have A13 : At K mg "value_of" s_value_of := ⟨f_13, _, fun_mk (st := s_value_of) l_13 c_13 k_13, PySem.W.mg_of X G a_13, k_13⟩
  have A14 : At K mg "layer_at" s_layer_at := ⟨f_14, _, fun_mk (st := s_layer_at) l_14 c_14 k_14, PySem.W.mg_of X G a_14, k_14⟩
  have A15 : At K mg "sizes_of" s_sizes_of := ⟨f_15, _, fun_mk (st := s_sizes_of) l_15 c_15 k_15, PySem.W.mg_of X G a_15, k_15⟩
  have A16 : At K mg "spread" s_spread := ⟨f_16, _, fun_mk (st := s_spread) l_16 c_16 k_16, PySem.W.mg_of X G a_16, k_16⟩
  have A17 : At K mg "beside" s_beside := ⟨f_17, _, fun_mk (st := s_beside) l_17 c_17 k_17, PySem.W.mg_of X G a_17, k_17⟩
  have A18 : At K mg "last_rows" s_last_rows := ⟨f_18, _, fun_mk (st := s_last_rows) l_18 c_18 k_18, PySem.W.mg_of X G a_18, k_18⟩
  have A19 : At K mg "need_sizes" s_need_sizes := ⟨f_19, _, fun_mk (st := s_need_sizes) l_19 c_19 k_19, PySem.W.mg_of X G a_19, k_19⟩
  have A20 : At K mg "made" s_made := ⟨f_20, _, fun_mk (st := s_made) l_20 c_20 k_20, PySem.W.mg_of X G a_20, k_20⟩
  have A21 : At K mg "added_in" s_added_in := ⟨f_21, _, fun_mk (st := s_added_in) l_21 c_21 k_21, PySem.W.mg_of X G a_21, k_21⟩
  have A22 : At K mg "multiplied_in" s_multiplied_in := ⟨f_22, _, fun_mk (st := s_multiplied_in) l_22 c_22 k_22, PySem.W.mg_of X G a_22, k_22⟩
  have A23 : At K mg "ramped_in" s_ramped_in := ⟨f_23, _, fun_mk (st := s_ramped_in) l_23 c_23 k_23, PySem.W.mg_of X G a_23, k_23⟩
  have A24 : At K mg "greater_in" s_greater_in := ⟨f_24, _, fun_mk (st := s_greater_in) l_24 c_24 k_24, PySem.W.mg_of X G a_24, k_24⟩
  have A25 : At K mg "require_two" s_require_two := ⟨f_25, _, fun_mk (st := s_require_two) l_25 c_25 k_25, PySem.W.mg_of X G a_25, k_25⟩
  have A26 : At K mg "added" s_added := ⟨f_26, _, fun_mk (st := s_added) l_26 c_26 k_26, PySem.W.mg_of X G a_26, k_26⟩
  have A27 : At K mg "multiplied" s_multiplied := ⟨f_27, _, fun_mk (st := s_multiplied) l_27 c_27 k_27, PySem.W.mg_of X G a_27, k_27⟩
  have A28 : At K mg "ramped" s_ramped := ⟨f_28, _, fun_mk (st := s_ramped) l_28 c_28 k_28, PySem.W.mg_of X G a_28, k_28⟩
  have A29 : At K mg "greater" s_greater := ⟨f_29, _, fun_mk (st := s_greater) l_29 c_29 k_29, PySem.W.mg_of X G a_29, k_29⟩
  have A30 : At K mg "_law_vat" s__law_vat := ⟨f_30, _, fun_mk (st := s__law_vat) l_30 c_30 k_30, PySem.W.mg_of X G a_30, k_30⟩
  have A31 : At K mg "_law_draw" s__law_draw := ⟨f_31, _, fun_mk (st := s__law_draw) l_31 c_31 k_31, PySem.W.mg_of X G a_31, k_31⟩
  have A32 : At K mg "_law_pick" s__law_pick := ⟨f_32, _, fun_mk (st := s__law_pick) l_32 c_32 k_32, PySem.W.mg_of X G a_32, k_32⟩
  have A33 : At K mg "_law_told" s__law_told := ⟨f_33, _, fun_mk (st := s__law_told) l_33 c_33 k_33, PySem.W.mg_of X G a_33, k_33⟩
  have A34 : At K mg "_law_numbers" s__law_numbers := ⟨f_34, _, fun_mk (st := s__law_numbers) l_34 c_34 k_34, PySem.W.mg_of X G a_34, k_34⟩
  have A35 : At K mg "_law_row" s__law_row := ⟨f_35, _, fun_mk (st := s__law_row) l_35 c_35 k_35, PySem.W.mg_of X G a_35, k_35⟩
  have A36 : At K mg "_law_parts" s__law_parts := ⟨f_36, _, fun_mk (st := s__law_parts) l_36 c_36 k_36, PySem.W.mg_of X G a_36, k_36⟩
  have A37 : At K mg "_law_value" s__law_value := ⟨f_37, _, fun_mk (st := s__law_value) l_37 c_37 k_37, PySem.W.mg_of X G a_37, k_37⟩
  have A38 : At K mg "_law_rows" s__law_rows := ⟨f_38, _, fun_mk (st := s__law_rows) l_38 c_38 k_38, PySem.W.mg_of X G a_38, k_38⟩
  have A39 : At K mg "_law_spread" s__law_spread := ⟨f_39, _, fun_mk (st := s__law_spread) l_39 c_39 k_39, PySem.W.mg_of X G a_39, k_39⟩
  have A40 : At K mg "_law_beside" s__law_beside := ⟨f_40, _, fun_mk (st := s__law_beside) l_40 c_40 k_40, PySem.W.mg_of X G a_40, k_40⟩
  have A41 : At K mg "_law_right" s__law_right := ⟨f_41, _, fun_mk (st := s__law_right) l_41 c_41 k_41, PySem.W.mg_of X G a_41, k_41⟩
  have P_layers : AtP K C "layers" "Network.layers" s_Network_layers := ⟨q_layers, f_players, _, pa_layers, pg_layers, pt_layers, ⟨_, pr_layers⟩, fun_mk (st := s_Network_layers) l_players c_players kp_layers⟩
  have P_last : AtP K C "last" "Network.last" s_Network_last := ⟨q_last, f_plast, _, pa_last, pg_last, pt_last, ⟨_, pr_last⟩, fun_mk (st := s_Network_last) l_plast c_plast kp_last⟩
  have P_depth : AtP K C "depth" "Network.depth" s_Network_depth := ⟨q_depth, f_pdepth, _, pa_depth, pg_depth, pt_depth, ⟨_, pr_depth⟩, fun_mk (st := s_Network_depth) l_pdepth c_pdepth kp_depth⟩
  have M_mparts : AtM K C "parts" "Network.parts" s_Network_parts := ⟨f_mparts, _, ⟨ma_mparts, mi_mparts, mk_mparts⟩, fun_mk (st := s_Network_parts) l_mparts c_mparts mk_mparts⟩
  have M_meq : AtM K C "__eq__" "Network.__eq__" s_Network___eq__ := ⟨f_meq, _, ⟨ma_meq, mi_meq, mk_meq⟩, fun_mk (st := s_Network___eq__) l_meq c_meq mk_meq⟩
  have I0 : AtI K mg C "Network" "Network.__init__" s_Network___init__ := ⟨f_minit, _, ⟨mk, ma_minit, mi_minit, kc⟩, fun_mk (st := s_Network___init__) l_minit c_minit mk_minit, PySem.W.mg_of X G aC⟩
  have FL := fun_mk (st := s_law) l_42 c_42 k_42
  refine ⟨PySem.W.fnOf "law" "law" (defArgs s_law) (defBody s_law) (defScope s_law) .none kV_42 dc_42 pm_42 an_42 cd_42 ct_42, fun s v => .of_eq rfl, fun base _ _ => ?_⟩
  have Q_layers := ok_layers (P := l.prog) (w := w) (base := base) P_layers T
  have Q_last := ok_last (P := l.prog) (w := w) (base := base) P_last T
  have Q_depth := ok_depth (P := l.prog) (w := w) (base := base) P_depth T
  have Q_parts := ok_parts (P := l.prog) (w := w) (base := base) M_mparts T
  have E_N := ok_eq (P := l.prog) (w := w) (base := base) M_meq Q_parts T
  have F_is_whole := ok_is_whole (P := l.prog) (w := w) (base := base) A0 T0
  have F_is_short := ok_is_short (P := l.prog) (w := w) (base := base) A1 F_is_whole T0
  have F_is_from := ok_is_from (P := l.prog) (w := w) (base := base) A2 F_is_whole T0
  have F_are_short := ok_are_short (P := l.prog) (w := w) (base := base) A3 F_is_short T0
  have F_is_layer := ok_is_layer (P := l.prog) (w := w) (base := base) A4 F_are_short T0
  have F_are_parts := ok_are_parts (P := l.prog) (w := w) (base := base) A5 F_is_from F_is_layer F_are_short T0
  have F_told_by := ok_told_by (P := l.prog) (w := w) (base := base) A6 T
  have F_numbers_in := ok_numbers_in (P := l.prog) (w := w) (base := base) A7 F_told_by T
  have F_value_in := ok_value_in (P := l.prog) (w := w) (base := base) A8 F_told_by F_numbers_in T
  have F_require_short := ok_require_short (P := l.prog) (w := w) (base := base) A9 F_is_short T
  have F_require_network := ok_require_network (P := l.prog) (w := w) (base := base) A10 T
  have F_require_inputs := ok_require_inputs (P := l.prog) (w := w) (base := base) A11 F_are_short T
  have F_require_place := ok_require_place (P := l.prog) (w := w) (base := base) A12 F_require_network F_require_inputs T
  have F_value_of := ok_value_of (P := l.prog) (w := w) (base := base) A13 F_require_place F_value_in T
  have F_layer_at := ok_layer_at (P := l.prog) (w := w) (base := base) A14 T
  have F_sizes_of := ok_sizes_of (P := l.prog) (w := w) (base := base) A15 F_layer_at T
  have F_spread := ok_spread (P := l.prog) (w := w) (base := base) A16 T
  have F_beside := ok_beside (P := l.prog) (w := w) (base := base) A17 F_sizes_of F_layer_at F_spread T
  have F_last_rows := ok_last_rows (P := l.prog) (w := w) (base := base) A18 F_sizes_of F_spread T
  have F_need_sizes := ok_need_sizes (P := l.prog) (w := w) (base := base) A19 T
  have M_N := ok_init (P := l.prog) (w := w) (base := base) I0 F_are_parts T
  have F_made := ok_made (P := l.prog) (w := w) (base := base) A20 F_need_sizes M_N T
  have F_added_in := ok_added_in (P := l.prog) (w := w) (base := base) A21 F_last_rows F_made F_beside T
  have F_multiplied_in := ok_multiplied_in (P := l.prog) (w := w) (base := base) A22 F_made T
  have F_ramped_in := ok_ramped_in (P := l.prog) (w := w) (base := base) A23 F_made T
  have F_greater_in := ok_greater_in (P := l.prog) (w := w) (base := base) A24 F_last_rows F_made F_beside T
  have F_require_two := ok_require_two (P := l.prog) (w := w) (base := base) A25 F_require_network T
  have F_added := ok_added (P := l.prog) (w := w) (base := base) A26 F_require_two F_added_in T
  have F_multiplied := ok_multiplied (P := l.prog) (w := w) (base := base) A27 F_require_network F_require_short F_multiplied_in T
  have F_ramped := ok_ramped (P := l.prog) (w := w) (base := base) A28 F_require_network F_ramped_in T
  have F_greater := ok_greater (P := l.prog) (w := w) (base := base) A29 F_require_two F_greater_in T
  have F__law_vat := ok__law_vat (P := l.prog) (w := w) (base := base) A30 T
  have F__law_draw := ok__law_draw (P := l.prog) (w := w) (base := base) A31 T
  have F__law_pick := ok__law_pick (P := l.prog) (w := w) (base := base) A32 F__law_draw T
  have F__law_told := ok__law_told (P := l.prog) (w := w) (base := base) A33 T
  have F__law_numbers := ok__law_numbers (P := l.prog) (w := w) (base := base) A34 F__law_told T
  have F__law_row := ok__law_row (P := l.prog) (w := w) (base := base) A35 F__law_pick F__law_draw T
  have F__law_parts := ok__law_parts (P := l.prog) (w := w) (base := base) A36 F__law_draw F__law_row T
  have F__law_value := ok__law_value (P := l.prog) (w := w) (base := base) A37 F__law_told F__law_numbers T
  have F__law_rows := ok__law_rows (P := l.prog) (w := w) (base := base) A38 F__law_pick F__law_draw T
  have F__law_spread := ok__law_spread (P := l.prog) (w := w) (base := base) A39 T
  have F__law_beside := ok__law_beside (P := l.prog) (w := w) (base := base) A40 F__law_spread T
  have F__law_right := ok__law_right (P := l.prog) (w := w) (base := base) A41 F__law_draw F__law_parts F__law_pick F__law_beside F_added F_multiplied F_ramped F_greater F__law_rows F__law_value F_value_of M_N E_N Q_depth T
  exact ok_law FL F__law_vat F__law_right F_greater F_value_of F_added F_ramped M_N Q_layers Q_last Q_depth T
theorem sp_law {K : PySem.W.Frag} {H : Hp} {a : Addr} {ns : List Int} (hl : ns.length ≤ 63) (hS : SqL K H a (ns.map V.int)) : spOf K d_law [.ref a] H (fun v _ => v = .bl true) fun _ _ _ => False :=
  ⟨[.scr ns], fun _ => none, H, fun d _ => d = .bl true, ⟨fun _ _ e => e, fun _ _ e => (by cases e)⟩, .cons (.scr hS) .nil, ⟨ns, rfl, hl, rfl⟩, fun v d μ' G' H' hd w g r => by subst hd; cases r; rfl⟩
end K20
open PySem PySem.W PyProof.Rows
set_option maxRecDepth 100000 in
set_option maxHeartbeats 0 in
theorem PySem.Challenge.cw_rampworks_k20_whole_networks_put_togethe_holds : PySem.Challenge.rw_rampworks_k20_whole_networks_put_togethe.Holds := by
  w_on; o_law; k_head; (case hw => w_witness2)
  k_fill
  refine K20.walk_ofX (l := PySem.Challenge.rw_rampworks_k20_whole_networks_put_togethe) (n := 63) (k := 43) (x := "_law_script") (sp := fun w => DL.spOf _ K20.d_law) rfl (by decide) rfl ⟨rfl, by decide, by decide⟩ (fun w h Y => PySem.W.kIn_of Y) ?F (fun w H a ns hl _ hS => K20.sp_law hl hS)
  case F =>
    intro w mg fa h hx KX G hmg
    obtain ⟨h0, hx⟩ := hx
    refine' K20.all_mk KX G hmg (K20.loose_SIXTY hx (by first | exact List.mem_cons_self | exact List.mem_cons_of_mem _ List.mem_cons_self | exact List.mem_cons_of_mem _ (List.mem_cons_of_mem _ List.mem_cons_self))) (K20.loose_MOST_WEIGHT hx (by first | exact List.mem_cons_self | exact List.mem_cons_of_mem _ List.mem_cons_self | exact List.mem_cons_of_mem _ (List.mem_cons_of_mem _ List.mem_cons_self))) ?a_0 ?l_0 ?c_0 ?k_0 ?a_1 ?l_1 ?c_1 ?k_1 ?a_2 ?l_2 ?c_2 ?k_2 ?a_3 ?l_3 ?c_3 ?k_3 ?a_4 ?l_4 ?c_4 ?k_4 ?a_5 ?l_5 ?c_5 ?k_5 ?a_6 ?l_6 ?c_6 ?k_6 ?a_7 ?l_7 ?c_7 ?k_7 ?a_8 ?l_8 ?c_8 ?k_8 ?a_9 ?l_9 ?c_9 ?k_9 ?a_10 ?l_10 ?c_10 ?k_10 ?a_11 ?l_11 ?c_11 ?k_11 ?a_12 ?l_12 ?c_12 ?k_12 ?a_13 ?l_13 ?c_13 ?k_13 ?a_14 ?l_14 ?c_14 ?k_14 ?a_15 ?l_15 ?c_15 ?k_15 ?a_16 ?l_16 ?c_16 ?k_16 ?a_17 ?l_17 ?c_17 ?k_17 ?a_18 ?l_18 ?c_18 ?k_18 ?a_19 ?l_19 ?c_19 ?k_19 ?a_20 ?l_20 ?c_20 ?k_20 ?a_21 ?l_21 ?c_21 ?k_21 ?a_22 ?l_22 ?c_22 ?k_22 ?a_23 ?l_23 ?c_23 ?k_23 ?a_24 ?l_24 ?c_24 ?k_24 ?a_25 ?l_25 ?c_25 ?k_25 ?a_26 ?l_26 ?c_26 ?k_26 ?a_27 ?l_27 ?c_27 ?k_27 ?a_28 ?l_28 ?c_28 ?k_28 ?a_29 ?l_29 ?c_29 ?k_29 ?a_30 ?l_30 ?c_30 ?k_30 ?a_31 ?l_31 ?c_31 ?k_31 ?a_32 ?l_32 ?c_32 ?k_32 ?a_33 ?l_33 ?c_33 ?k_33 ?a_34 ?l_34 ?c_34 ?k_34 ?a_35 ?l_35 ?c_35 ?k_35 ?a_36 ?l_36 ?c_36 ?k_36 ?a_37 ?l_37 ?c_37 ?k_37 ?a_38 ?l_38 ?c_38 ?k_38 ?a_39 ?l_39 ?c_39 ?k_39 ?a_40 ?l_40 ?c_40 ?k_40 ?a_41 ?l_41 ?c_41 ?k_41 ?a_42 ?l_42 ?c_42 ?k_42 ?aC ?pg ?ic ?po ?sa ?ca ?cn ?ctk ?cm ?nNon ?nInt ?nTup ?kTy ?kTi ?uNon ?uInt ?uTup ?ne ?mk ?kc ?sa_own_inputs ?sg_own_inputs ?st_own_inputs ?sy_own_inputs ?si_own_inputs ?sa_own_last ?sg_own_last ?st_own_last ?sy_own_last ?si_own_last ?sa_own_layers ?sg_own_layers ?st_own_layers ?sy_own_layers ?si_own_layers ?pa_layers ?pg_layers ?pt_layers ?pr_layers ?l_players ?c_players ?kp_layers ?pa_last ?pg_last ?pt_last ?pr_last ?l_plast ?c_plast ?kp_last ?pa_depth ?pg_depth ?pt_depth ?pr_depth ?l_pdepth ?c_pdepth ?kp_depth ?ma_mparts ?mi_mparts ?l_mparts ?c_mparts ?mk_mparts ?ma_meq ?mi_meq ?l_meq ?c_meq ?mk_meq ?ma_minit ?mi_minit ?l_minit ?c_minit ?mk_minit ?z_isinstance ?z_int ?z_bool ?z_tuple ?z_len ?z_all ?z_sum ?z_zip ?z_range ?z_max ?z_min ?z_abs ?z_list ?z_str ?z_any ?z_enumerate ?x_MOST_INPUTS ?x_MOST_LAYERS ?x_MOST_IN_LAYER ?x_MOST_UNITS
    (case a_0 => k_is); (case l_0 => k_is); (case c_0 => k_is); (case k_0 => k_is); (case a_1 => k_is); (case l_1 => k_is); (case c_1 => k_is)
    (case k_1 => k_is); (case a_2 => k_is); (case l_2 => k_is); (case c_2 => k_is); (case k_2 => k_is); (case a_3 => k_is); (case l_3 => k_is)
    (case c_3 => k_is); (case k_3 => k_is); (case a_4 => k_is); (case l_4 => k_is); (case c_4 => k_is); (case k_4 => k_is); (case a_5 => k_is)
    (case l_5 => k_is); (case c_5 => k_is); (case k_5 => k_is); (case a_6 => k_is); (case l_6 => k_is); (case c_6 => k_is); (case k_6 => k_is)
    (case a_7 => k_is); (case l_7 => k_is); (case c_7 => k_is); (case k_7 => k_is); (case a_8 => k_is); (case l_8 => k_is); (case c_8 => k_is)
    (case k_8 => k_is); (case a_9 => k_is); (case l_9 => k_is); (case c_9 => k_is); (case k_9 => k_is); (case a_10 => k_is); (case l_10 => k_is)
    (case c_10 => k_is); (case k_10 => k_is); (case a_11 => k_is); (case l_11 => k_is); (case c_11 => k_is); (case k_11 => k_is); (case a_12 => k_is)
    (case l_12 => k_is); (case c_12 => k_is); (case k_12 => k_is); (case a_13 => k_is); (case l_13 => k_is); (case c_13 => k_is); (case k_13 => k_is)
    (case a_14 => k_is); (case l_14 => k_is); (case c_14 => k_is); (case k_14 => k_is); (case a_15 => k_is); (case l_15 => k_is); (case c_15 => k_is)
    (case k_15 => k_is); (case a_16 => k_is); (case l_16 => k_is); (case c_16 => k_is); (case k_16 => k_is); (case a_17 => k_is); (case l_17 => k_is)
    (case c_17 => k_is); (case k_17 => k_is); (case a_18 => k_is); (case l_18 => k_is); (case c_18 => k_is); (case k_18 => k_is); (case a_19 => k_is)
    (case l_19 => k_is); (case c_19 => k_is); (case k_19 => k_is); (case a_20 => k_is); (case l_20 => k_is); (case c_20 => k_is); (case k_20 => k_is)
    (case a_21 => k_is); (case l_21 => k_is); (case c_21 => k_is); (case k_21 => k_is); (case a_22 => k_is); (case l_22 => k_is); (case c_22 => k_is)
    (case k_22 => k_is); (case a_23 => k_is); (case l_23 => k_is); (case c_23 => k_is); (case k_23 => k_is); (case a_24 => k_is); (case l_24 => k_is)
    (case c_24 => k_is); (case k_24 => k_is); (case a_25 => k_is); (case l_25 => k_is); (case c_25 => k_is); (case k_25 => k_is); (case a_26 => k_is)
    (case l_26 => k_is); (case c_26 => k_is); (case k_26 => k_is); (case a_27 => k_is); (case l_27 => k_is); (case c_27 => k_is); (case k_27 => k_is)
    (case a_28 => k_is); (case l_28 => k_is); (case c_28 => k_is); (case k_28 => k_is); (case a_29 => k_is); (case l_29 => k_is); (case c_29 => k_is)
    (case k_29 => k_is); (case a_30 => k_is); (case l_30 => k_is); (case c_30 => k_is); (case k_30 => k_is); (case a_31 => k_is); (case l_31 => k_is)
    (case c_31 => k_is); (case k_31 => k_is); (case a_32 => k_is); (case l_32 => k_is); (case c_32 => k_is); (case k_32 => k_is); (case a_33 => k_is)
    (case l_33 => k_is); (case c_33 => k_is); (case k_33 => k_is); (case a_34 => k_is); (case l_34 => k_is); (case c_34 => k_is); (case k_34 => k_is)
    (case a_35 => k_is); (case l_35 => k_is); (case c_35 => k_is); (case k_35 => k_is); (case a_36 => k_is); (case l_36 => k_is); (case c_36 => k_is)
    (case k_36 => k_is); (case a_37 => k_is); (case l_37 => k_is); (case c_37 => k_is); (case k_37 => k_is); (case a_38 => k_is); (case l_38 => k_is)
    (case c_38 => k_is); (case k_38 => k_is); (case a_39 => k_is); (case l_39 => k_is); (case c_39 => k_is); (case k_39 => k_is); (case a_40 => k_is)
    (case l_40 => k_is); (case c_40 => k_is); (case k_40 => k_is); (case a_41 => k_is); (case l_41 => k_is); (case c_41 => k_is); (case k_41 => k_is)
    (case a_42 => k_is); (case l_42 => k_is); (case c_42 => k_is); (case k_42 => k_is); (case aC => k_is); (case pg => k_is); (case ic => k_is)
    (case po => k_is); (case sa => k_is); (case ca => k_is); (case cn => k_is); (case ctk => k_is); (case cm => k_is); (case nNon => k_is); (case nInt => k_is)
    (case nTup => k_is); (case kTy => k_is); (case kTi => k_is); (case uNon => k_is); (case uInt => k_is); (case uTup => k_is); (case ne => k_is)
    (case mk => k_is); (case kc => k_is); (case sa_own_inputs => k_is); (case sg_own_inputs => k_is); (case st_own_inputs => k_is); (case sy_own_inputs => k_is)
    (case si_own_inputs => k_is); (case sa_own_last => k_is); (case sg_own_last => k_is); (case st_own_last => k_is); (case sy_own_last => k_is)
    (case si_own_last => k_is); (case sa_own_layers => k_is); (case sg_own_layers => k_is); (case st_own_layers => k_is); (case sy_own_layers => k_is)
    (case si_own_layers => k_is); (case pa_layers => k_is); (case pg_layers => k_is); (case pt_layers => k_is); (case pr_layers => k_is); (case l_players => k_is)
    (case c_players => k_is); (case kp_layers => k_is); (case pa_last => k_is); (case pg_last => k_is); (case pt_last => k_is); (case pr_last => k_is)
    (case l_plast => k_is); (case c_plast => k_is); (case kp_last => k_is); (case pa_depth => k_is); (case pg_depth => k_is); (case pt_depth => k_is)
    (case pr_depth => k_is); (case l_pdepth => k_is); (case c_pdepth => k_is); (case kp_depth => k_is); (case ma_mparts => k_is); (case mi_mparts => k_is)
    (case l_mparts => k_is); (case c_mparts => k_is); (case mk_mparts => k_is); (case ma_meq => k_is); (case mi_meq => k_is); (case l_meq => k_is)
    (case c_meq => k_is); (case mk_meq => k_is); (case ma_minit => k_is); (case mi_minit => k_is); (case l_minit => k_is); (case c_minit => k_is)
    (case mk_minit => k_is); (case z_isinstance => k_is); (case z_int => k_is); (case z_bool => k_is); (case z_tuple => k_is); (case z_len => k_is)
    (case z_all => k_is); (case z_sum => k_is); (case z_zip => k_is); (case z_range => k_is); (case z_max => k_is); (case z_min => k_is); (case z_abs => k_is)
    (case z_list => k_is); (case z_str => k_is); (case z_any => k_is); (case z_enumerate => k_is); (case x_MOST_INPUTS => exact ⟨_, by k_is⟩)
    (case x_MOST_LAYERS => exact ⟨_, by k_is⟩); (case x_MOST_IN_LAYER => exact ⟨_, by k_is⟩); (case x_MOST_UNITS => exact ⟨_, by k_is⟩)



