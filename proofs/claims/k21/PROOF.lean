import PyProof.Rows.All
import Wide.All
import OpenK.AllK
import Wide.FinOn
import HandS.ForMost
import HandS.Slots
import HandS.SlotsOwn
import HandS.IsInst
import HandS.TupAny
import HandS.TupMul
import HandS.FStr
import HandS.Wide
import HandS.Zip
import HandS.Walk
import KE.GoesEnum
import PyProof.InstNe
import PyProof.CallStr
import HandS.Text
import HandS.Star
import HandS.DictComp
import PyProof.DictUpdate
import PySem.Challenge.RW_rampworks_k21_whole_trimmed_networks
import HandS.Ends
set_option Elab.async false
set_option linter.all false
set_option maxRecDepth 100000
set_option maxHeartbeats 4000000
/-! DLa: data without heap (D), what stands for it (Rep), readings over data. -/
namespace DL
open PySem PySem.Spec PyProof.Rows L2 SlX

/-- data: own p is a list that is known by its address and may change; obj an instance with slots that does not change any more; scr the law's own list -/
inductive D where
  | non | bl (b : Bool) | int (i : Int) | str (x : Str)
  | tup (ds : List D) | lst (ds : List D) | own (p : Addr) | obj (C : Addr) (ds : List D) | scr (ns : List Int)
  | dk (ks : List Key) (ds : List D) | dt (ks : List (List Key)) (ds : List D)

abbrev Sl := List (Option D)
/-- what stands in an own cell: a list; a dict, its keys ints and texts; a dict, its keys tuples of such -/
inductive Cnt where
  | l (ds : List D) | k (kvs : List (Key × D)) | t (kvs : List (List Key × D))
instance : Coe (List D) Cnt := ⟨.l⟩
abbrev Mu := Addr → Option Cnt
def muSet (μ : Mu) (p : Addr) (ds : Cnt) : Mu := fun q => if q = p then some ds else μ q
def muDel (μ : Mu) (p : Addr) : Mu := fun q => if q = p then none else μ q
theorem muSet_same {μ : Mu} {p : Addr} {ds : Cnt} : muSet μ p ds p = some ds := by unfold muSet; rw [if_pos rfl]
theorem muSet_ne {μ : Mu} {p q : Addr} {ds : Cnt} (h : q ≠ p) : muSet μ p ds q = μ q := by unfold muSet; rw [if_neg h]
theorem muDel_same {μ : Mu} {p : Addr} : muDel μ p p = none := by unfold muDel; rw [if_pos rfl]
theorem muDel_ne {μ : Mu} {p q : Addr} (h : q ≠ p) : muDel μ p q = μ q := by unfold muDel; rw [if_neg h]
theorem muSet_set {μ : Mu} {p : Addr} {a b : Cnt} : muSet (muSet μ p a) p b = muSet μ p b := by
  funext q; unfold muSet; split <;> rfl
theorem muDel_set {μ : Mu} {p : Addr} {a : Cnt} : muDel (muSet μ p a) p = muDel μ p := by
  funext q; unfold muSet muDel
  by_cases h : q = p
  · rw [if_pos h, if_pos h]
  · rw [if_neg h, if_neg h]
    show (if q = p then some a else μ q) = μ q
    rw [if_neg h]

def Ex (H H' : Hp) : Prop := ∀ a o, H a = some o → H' a = some o
theorem Ex.refl (H : Hp) : Ex H H := fun _ _ h => h
theorem Ex.trans {H H1 H2 : Hp} (a : Ex H H1) (b : Ex H1 H2) : Ex H H2 := fun x o h => b x o (a x o h)
theorem Ex.new {H : Hp} {p : Addr} {o : HO} (h : H p = none) : Ex H (upd H p o) := fun a u e => by
  rw [upd_ne (ne_of_none e h)]; exact e
theorem Ex.l {K : PySem.W.Frag} {H H' : Hp} {a : Addr} {xs : List V} (e : Ex H H') (h : SqL K H a xs) : SqL K H' a xs := by
  rcases h with (h | ⟨o, h⟩) | h
  · exact .inl (.inl (e _ _ h))
  · exact .inl (.inr ⟨o, e _ _ h⟩)
  · exact .inr h
theorem Ex.t {K : PySem.W.Frag} {H H' : Hp} {a : Addr} {xs : List V} (e : Ex H H') (h : SqT K H a xs) : SqT K H' a xs := by
  rcases h with (h | ⟨o, h⟩) | h
  · exact .inl (.inl (e _ _ h))
  · exact .inl (.inr ⟨o, e _ _ h⟩)
  · exact .inr h
theorem Ex.slt {H H' : Hp} {a C dx : Addr} {vs : List (Option V)} (e : Ex H H') (h : Slt H a C dx vs) : Slt H' a C dx vs := by
  rcases h with ⟨h1, h2⟩ | ⟨h1, h2⟩
  · exact .inl ⟨e _ _ h1, h2⟩
  · exact .inr ⟨e _ _ h1, e _ _ h2⟩

mutual
/-- the value stands for the data, in the heap G of what does not change -/
inductive Rep (K : PySem.W.Frag) (G : Hp) : V → D → Prop
  | non : Rep K G .non .non
  | bl (b : Bool) : Rep K G (.bl b) (.bl b)
  | int (i : Int) : Rep K G (.int i) (.int i)
  | str (x : Str) : Rep K G (.str x) (.str x)
  | tup {a : Addr} {vs : List V} {ds : List D} : SqT K G a vs → RepL K G vs ds → Rep K G (.ref a) (.tup ds)
  | lst {a : Addr} {vs : List V} {ds : List D} : G a = some (.lst vs) → RepL K G vs ds → Rep K G (.ref a) (.lst ds)
  | own (p : Addr) : Rep K G (.ref p) (.own p)
  | obj {a C dx : Addr} {vs : List V} {ds : List D} : Slt G a C dx (vs.map some) → RepL K G vs ds → Rep K G (.ref a) (.obj C ds)
  | scr {a : Addr} {ns : List Int} : SqL K G a (ns.map V.int) → Rep K G (.ref a) (.scr ns)
  | dk {a : Addr} {ks : List Key} {vs : List V} {ds : List D} : G a = some (.dK (ks.zip vs)) → ks.length = vs.length → RepL K G vs ds → Rep K G (.ref a) (.dk ks ds)
  | dt {a : Addr} {ks : List (List Key)} {vs : List V} {ds : List D} : G a = some (.dT (ks.zip vs)) → ks.length = vs.length → RepL K G vs ds → Rep K G (.ref a) (.dt ks ds)
inductive RepL (K : PySem.W.Frag) (G : Hp) : List V → List D → Prop
  | nil : RepL K G [] []
  | cons {v : V} {d : D} {vs : List V} {ds : List D} : Rep K G v d → RepL K G vs ds → RepL K G (v :: vs) (d :: ds)
end

section
variable {K : PySem.W.Frag} {G G' : Hp}
mutual
theorem Rep.mono (e : Ex G G') : ∀ {d : D} {v : V}, Rep K G v d → Rep K G' v d
  | _, _, .non => .non
  | _, _, .bl b => .bl b
  | _, _, .int i => .int i
  | _, _, .str x => .str x
  | _, _, .tup h r => .tup (e.t h) (RepL.mono e r)
  | _, _, .lst h r => .lst (e _ _ h) (RepL.mono e r)
  | _, _, .own p => .own p
  | _, _, .obj h r => .obj (e.slt h) (RepL.mono e r)
  | _, _, .scr h => .scr (e.l h)
  | _, _, .dk h l r => .dk (e _ _ h) l (RepL.mono e r)
  | _, _, .dt h l r => .dt (e _ _ h) l (RepL.mono e r)
theorem RepL.mono (e : Ex G G') : ∀ {ds : List D} {vs : List V}, RepL K G vs ds → RepL K G' vs ds
  | _, _, .nil => .nil
  | _, _, .cons h t => .cons (Rep.mono e h) (RepL.mono e t)
end
theorem RepL.length : ∀ {ds : List D} {vs : List V}, RepL K G vs ds → vs.length = ds.length
  | _, _, .nil => rfl
  | _, _, .cons _ t => congrArg (· + 1) (RepL.length t)
theorem RepL.get : ∀ {ds : List D} {vs : List V} {i : Nat} {v : V}, RepL K G vs ds → vs[i]? = some v → ∃ d, ds[i]? = some d ∧ Rep K G v d
  | _, _, _, _, .nil, e => by simp at e
  | _, _, 0, _, .cons r _, e => by simp at e; subst e; exact ⟨_, rfl, r⟩
  | _, _, i + 1, v, .cons _ t, e => by
    obtain ⟨d, h1, h2⟩ := RepL.get (i := i) (v := v) t (by simpa using e)
    exact ⟨d, by simpa using h1, h2⟩
theorem RepL.getD' : ∀ {ds : List D} {vs : List V} {i : Nat} {d : D}, RepL K G vs ds → ds[i]? = some d → ∃ v, vs[i]? = some v ∧ Rep K G v d
  | _, _, _, _, .nil, e => by simp at e
  | _, _, 0, _, .cons r _, e => by simp at e; subst e; exact ⟨_, rfl, r⟩
  | _, _, i + 1, d, .cons _ t, e => by
    obtain ⟨v, h1, h2⟩ := RepL.getD' (i := i) (d := d) t (by simpa using e)
    exact ⟨v, by simpa using h1, h2⟩
theorem RepL.append : ∀ {ds es : List D} {vs ws : List V}, RepL K G vs ds → RepL K G ws es → RepL K G (vs ++ ws) (ds ++ es)
  | _, _, _, _, .nil, s => s
  | _, _, _, _, .cons r t, s => .cons r (RepL.append t s)
theorem RepL.set {v : V} {d : D} (r : Rep K G v d) : ∀ {ds : List D} {vs : List V} (i : Nat), RepL K G vs ds → RepL K G (vs.set i v) (ds.set i d)
  | _, _, _, .nil => .nil
  | _, _, 0, .cons _ t => .cons r t
  | _, _, i + 1, .cons q t => .cons q (RepL.set r i t)
theorem RepL.take : ∀ {ds : List D} {vs : List V} (n : Nat), RepL K G vs ds → RepL K G (vs.take n) (ds.take n)
  | _, _, 0, _ => .nil
  | _, _, _ + 1, .nil => .nil
  | _, _, n + 1, .cons r t => .cons r (RepL.take n t)
theorem RepL.drop : ∀ {ds : List D} {vs : List V} (n : Nat), RepL K G vs ds → RepL K G (vs.drop n) (ds.drop n)
  | _, _, 0, r => r
  | _, _, _ + 1, .nil => .nil
  | _, _, n + 1, .cons _ t => RepL.drop n t
theorem RepL.replicate {v : V} {d : D} (r : Rep K G v d) : ∀ n : Nat, RepL K G (List.replicate n v) (List.replicate n d)
  | 0 => .nil
  | n + 1 => .cons r (RepL.replicate r n)
/-- what rows of ints stand for -/
theorem RepL.ints : ∀ {ns : List Int} {vs : List V}, RepL K G vs (ns.map D.int) → vs = ns.map V.int
  | [], _, h => by cases h; rfl
  | n :: ns, _, h => by
    cases h with
    | cons a b => cases a; rw [RepL.ints b]; rfl
theorem RepL.of_ints : ∀ (ns : List Int), RepL K G (ns.map V.int) (ns.map D.int)
  | [] => .nil
  | n :: ns => .cons (.int n) (RepL.of_ints ns)
theorem RepL.bls : ∀ {ns : List Bool} {vs : List V}, RepL K G vs (ns.map D.bl) → vs = ns.map V.bl
  | [], _, h => by cases h; rfl
  | n :: ns, _, h => by
    cases h with
    | cons a b => cases a; rw [RepL.bls b]; rfl
theorem RepL.strs : ∀ {ns : List Str} {vs : List V}, RepL K G vs (ns.map D.str) → vs = ns.map V.str
  | [], _, h => by cases h; rfl
  | n :: ns, _, h => by
    cases h with
    | cons a b => cases a; rw [RepL.strs b]; rfl
end

/-- the content of an own cell -/
inductive RepC (K : PySem.W.Frag) (G : Hp) : HO → Cnt → Prop
  | l {vs : List V} {ds : List D} : RepL K G vs ds → RepC K G (.lst vs) (.l ds)
  | k {kvs : List (Key × V)} {kds : List (Key × D)} : kvs.map (·.1) = kds.map (·.1) → RepL K G (kvs.map (·.2)) (kds.map (·.2)) → RepC K G (.dK kvs) (.k kds)
  | t {kvs : List (List Key × V)} {kds : List (List Key × D)} : kvs.map (·.1) = kds.map (·.1) → RepL K G (kvs.map (·.2)) (kds.map (·.2)) → RepC K G (.dT kvs) (.t kds)
theorem RepC.mono {K : PySem.W.Frag} {G G' : Hp} (e : Ex G G') {o : HO} {c : Cnt} : RepC K G o c → RepC K G' o c
  | .l r => .l (r.mono e)
  | .k h r => .k h (r.mono e)
  | .t h r => .t h (r.mono e)
/-- the slots -/
structure SlOk (K : PySem.W.Frag) (G : Hp) (σ : L2.St) (δ : Sl) : Prop where
  len : σ.length = δ.length
  at_ : ∀ (i : Nat) (d : D), δ[i]? = some (some d) → ∃ v, σ[i]? = some (some v) ∧ Rep K G v d
/-- the heap: what does not change, the own lists -/
structure Wd (K : PySem.W.Frag) (G H : Hp) (μ : Mu) : Prop where
  ex : Ex G H
  mu : ∀ p c, μ p = some c → G p = none ∧ ∃ o, H p = some o ∧ RepC K G o c
theorem Wd.muL {K : PySem.W.Frag} {G H : Hp} {μ : Mu} (w : Wd K G H μ) (p : Addr) (ds : List D) (e : μ p = some (.l ds)) : G p = none ∧ ∃ vs, H p = some (.lst vs) ∧ RepL K G vs ds := by
  obtain ⟨h1, o, h2, h3⟩ := w.mu p _ e
  cases h3 with
  | l r => exact ⟨h1, _, h2, r⟩
theorem Wd.muK {K : PySem.W.Frag} {G H : Hp} {μ : Mu} (w : Wd K G H μ) (p : Addr) (kds : List (Key × D)) (e : μ p = some (.k kds)) : G p = none ∧ ∃ kvs, H p = some (.dK kvs) ∧ kvs.map (·.1) = kds.map (·.1) ∧ RepL K G (kvs.map (·.2)) (kds.map (·.2)) := by
  obtain ⟨h1, o, h2, h3⟩ := w.mu p _ e
  cases h3 with
  | k h r => exact ⟨h1, _, h2, h, r⟩
theorem Wd.muT {K : PySem.W.Frag} {G H : Hp} {μ : Mu} (w : Wd K G H μ) (p : Addr) (kds : List (List Key × D)) (e : μ p = some (.t kds)) : G p = none ∧ ∃ kvs, H p = some (.dT kvs) ∧ kvs.map (·.1) = kds.map (·.1) ∧ RepL K G (kvs.map (·.2)) (kds.map (·.2)) := by
  obtain ⟨h1, o, h2, h3⟩ := w.mu p _ e
  cases h3 with
  | t h r => exact ⟨h1, _, h2, h, r⟩
/-- from one state to a later one -/
structure Go (μ : Mu) (G H : Hp) (μ' : Mu) (G' H' : Hp) : Prop where
  eg : Ex G G'
  kp : ∀ a o, H a = some o → μ a = none → H' a = some o
  dm : ∀ a, μ' a ≠ none → μ a ≠ none ∨ H a = none
  gf : ∀ a, G' a ≠ none → G a ≠ none ∨ μ a ≠ none ∨ H a = none
theorem Go.refl (μ : Mu) (G H : Hp) : Go μ G H μ G H := ⟨Ex.refl G, fun _ _ h _ => h, fun _ h => .inl h, fun _ h => .inl h⟩
theorem Go.none_mu {μ μ1 : Mu} {G G1 H H1 : Hp} (x : Go μ G H μ1 G1 H1) {a : Addr} {o : HO} (h : H a = some o) (hm : μ a = none) : μ1 a = none := by
  cases e : μ1 a with
  | none => rfl
  | some d =>
    rcases x.dm a (by rw [e]; simp) with z | z
    · exact absurd hm z
    · rw [h] at z; cases z
theorem Go.back {μ μ1 : Mu} {G G1 H H1 : Hp} (x : Go μ G H μ1 G1 H1) {a : Addr} (h : H1 a = none) : μ a ≠ none ∨ H a = none := by
  cases e : H a with
  | none => exact .inr rfl
  | some o =>
    by_cases hm : μ a = none
    · have := x.kp a o e hm
      rw [h] at this; cases this
    · exact .inl hm
theorem Go.trans {μ μ1 μ2 : Mu} {G G1 G2 H H1 H2 : Hp} (x : Go μ G H μ1 G1 H1) (y : Go μ1 G1 H1 μ2 G2 H2) : Go μ G H μ2 G2 H2 where
  eg := x.eg.trans y.eg
  kp := fun a o h hm => y.kp a o (x.kp a o h hm) (x.none_mu h hm)
  dm := fun a h => by
    rcases y.dm a h with z | z
    · exact x.dm a z
    · exact x.back z
  gf := fun a h => by
    rcases y.gf a h with z | z | z
    · exact x.gf a z
    · rcases x.dm a z with w | w
      · exact .inr (.inl w)
      · exact .inr (.inr w)
    · exact .inr (x.back z)
section
variable {K : PySem.W.Frag} {G G' H H' : Hp} {μ μ' : Mu} {σ : L2.St} {δ : Sl}
theorem SlOk.mono (h : SlOk K G σ δ) (e : Ex G G') : SlOk K G' σ δ := ⟨h.len, fun i d q => let ⟨v, a, b⟩ := h.at_ i d q; ⟨v, a, b.mono e⟩⟩
theorem SlOk.set {v : V} {d : D} (h : SlOk K G σ δ) (r : Rep K G v d) (i : Nat) : SlOk K G (σ.set i (some v)) (δ.set i (some d)) := by
  refine ⟨by rw [List.length_set, List.length_set]; exact h.len, fun j e q => ?_⟩
  by_cases hj : i = j
  · subst hj
    by_cases hi : i < δ.length
    · rw [List.getElem?_set_self hi] at q
      cases q
      exact ⟨v, by rw [List.getElem?_set_self (by rw [h.len]; exact hi)], r⟩
    · rw [List.getElem?_eq_none (by simpa using hi)] at q
      cases q
  · rw [List.getElem?_set_ne hj] at q
    rw [List.getElem?_set_ne hj]
    exact h.at_ j e q
theorem SlOk.unset (h : SlOk K G σ δ) (i : Nat) (x : Option V) : SlOk K G (σ.set i x) (δ.set i none) := by
  refine ⟨by rw [List.length_set, List.length_set]; exact h.len, fun j e q => ?_⟩
  by_cases hj : i = j
  · subst hj
    by_cases hi : i < δ.length
    · rw [List.getElem?_set_self hi] at q
      cases q
    · rw [List.getElem?_eq_none (by simpa using hi)] at q
      cases q
  · rw [List.getElem?_set_ne hj] at q
    rw [List.getElem?_set_ne hj]
    exact h.at_ j e q
/-- a new object of what does not change -/
theorem Wd.new (w : Wd K G H μ) {p : Addr} {o : HO} (hp : H p = none) : Wd K (upd G p o) (upd H p o) μ := by
  have gp : G p = none := by
    cases e : G p with
    | none => rfl
    | some u => have := w.ex _ _ e; rw [hp] at this; cases this
  refine ⟨fun a u e => ?_, fun q ds e => ?_⟩
  · by_cases h : a = p
    · subst h; rw [upd_same] at e ⊢; exact e
    · rw [upd_ne h] at e ⊢; exact w.ex _ _ e
  · obtain ⟨h1, vs, h2, h3⟩ := w.mu q ds e
    have hq : q ≠ p := ne_of_none h2 hp
    exact ⟨by rw [upd_ne hq]; exact h1, vs, by rw [upd_ne hq]; exact h2, h3.mono (Ex.new gp)⟩
theorem Wd.gnone (w : Wd K G H μ) {p : Addr} (hp : H p = none) : G p = none := by
  cases e : G p with
  | none => rfl
  | some u => have := w.ex _ _ e; rw [hp] at this; cases this
theorem Wd.mnone (w : Wd K G H μ) {p : Addr} (hp : H p = none) : μ p = none := by
  cases e : μ p with
  | none => rfl
  | some u => obtain ⟨_, vs, h2, _⟩ := w.mu p u e; rw [hp] at h2; cases h2
theorem Go.new (w : Wd K G H μ) {p : Addr} {o : HO} (hp : H p = none) : Go μ G H μ (upd G p o) (upd H p o) := by
  refine ⟨Ex.new (w.gnone hp), fun a u h _ => ?_, fun _ h => .inl h, fun a h => ?_⟩
  · rw [upd_ne (ne_of_none h hp)]; exact h
  · by_cases e : a = p
    · subst e; exact .inr (.inr hp)
    · rw [upd_ne e] at h; exact .inl h
/-- a new own list -/
theorem Wd.newC (w : Wd K G H μ) {p : Addr} {o : HO} {c : Cnt} (hp : H p = none) (r : RepC K G o c) : Wd K G (upd H p o) (muSet μ p c) := by
  refine ⟨fun a u e => ?_, fun q es e => ?_⟩
  · have := w.ex _ _ e
    rw [upd_ne (ne_of_none this hp)]; exact this
  · by_cases h : q = p
    · subst h
      rw [muSet_same] at e
      cases e
      exact ⟨w.gnone hp, o, upd_same, r⟩
    · rw [muSet_ne h] at e
      obtain ⟨h1, ws, h2, h3⟩ := w.mu q es e
      exact ⟨h1, ws, by rw [upd_ne h]; exact h2, h3⟩
theorem Wd.newO (w : Wd K G H μ) {p : Addr} {vs : List V} {ds : List D} (hp : H p = none) (r : RepL K G vs ds) : Wd K G (upd H p (.lst vs)) (muSet μ p ds) := w.newC hp (.l r)
theorem Go.newC (w : Wd K G H μ) {p : Addr} {o : HO} {c : Cnt} (hp : H p = none) : Go μ G H (muSet μ p c) G (upd H p o) := by
  refine ⟨Ex.refl G, fun a u h _ => ?_, fun a h => ?_, fun _ h => .inl h⟩
  · rw [upd_ne (ne_of_none h hp)]; exact h
  · by_cases e : a = p
    · subst e; exact .inr hp
    · rw [muSet_ne e] at h; exact .inl h
theorem Go.newO (w : Wd K G H μ) {p : Addr} {vs : List V} {ds : List D} (hp : H p = none) : Go μ G H (muSet μ p ds) G (upd H p (.lst vs)) := Go.newC w hp
/-- an own cell changes -/
theorem Wd.wrC (w : Wd K G H μ) {p : Addr} {o : HO} {c es : Cnt} (hp : μ p = some es) (r : RepC K G o c) : Wd K G (upd H p o) (muSet μ p c) := by
  obtain ⟨gp, ws, hw, _⟩ := w.mu p es hp
  refine ⟨fun a u e => ?_, fun q es e => ?_⟩
  · have hne : a ≠ p := ne_of_none e gp
    rw [upd_ne hne]; exact w.ex _ _ e
  · by_cases h : q = p
    · subst h
      rw [muSet_same] at e
      cases e
      exact ⟨gp, o, upd_same, r⟩
    · rw [muSet_ne h] at e
      obtain ⟨h1, ws, h2, h3⟩ := w.mu q es e
      exact ⟨h1, ws, by rw [upd_ne h]; exact h2, h3⟩
theorem Wd.wr (w : Wd K G H μ) {p : Addr} {vs : List V} {ds : List D} {es : Cnt} (hp : μ p = some es) (r : RepL K G vs ds) : Wd K G (upd H p (.lst vs)) (muSet μ p ds) := w.wrC hp (.l r)
theorem Go.wrC {p : Addr} {o : HO} {c es : Cnt} (hp : μ p = some es) : Go μ G H (muSet μ p c) G (upd H p o) := by
  refine ⟨Ex.refl G, fun a u h hm => ?_, fun a h => ?_, fun _ h => .inl h⟩
  · have hne : a ≠ p := fun z => by subst z; rw [hp] at hm; cases hm
    rw [upd_ne hne]; exact h
  · by_cases e : a = p
    · subst e; exact .inl (by rw [hp]; simp)
    · rw [muSet_ne e] at h; exact .inl h
theorem Go.wr {p : Addr} {vs : List V} {ds : List D} {es : Cnt} (hp : μ p = some es) : Go μ G H (muSet μ p ds) G (upd H p (.lst vs)) := Go.wrC hp
/-- an own cell is let go of: it does not change any more -/
theorem Wd.frzC (w : Wd K G H μ) {p : Addr} {c : Cnt} (hp : μ p = some c) : ∃ o, RepC K G o c ∧ G p = none ∧ Wd K (upd G p o) H (muDel μ p) ∧ Go μ G H (muDel μ p) (upd G p o) H := by
  obtain ⟨gp, o, hv, r⟩ := w.mu p c hp
  refine ⟨o, r, gp, ⟨fun a u e => ?_, fun q es e => ?_⟩, Ex.new gp, fun _ _ h _ => h, fun a h => ?_, fun a h => ?_⟩
  · by_cases h : a = p
    · subst h; rw [upd_same] at e; cases e; exact hv
    · rw [upd_ne h] at e; exact w.ex _ _ e
  · by_cases h : q = p
    · subst h; rw [muDel_same] at e; cases e
    · rw [muDel_ne h] at e
      obtain ⟨h1, ws, h2, h3⟩ := w.mu q es e
      exact ⟨by rw [upd_ne h]; exact h1, ws, h2, h3.mono (Ex.new gp)⟩
  · by_cases e : a = p
    · subst e; rw [muDel_same] at h; exact absurd rfl h
    · rw [muDel_ne e] at h; exact .inl h
  · by_cases e : a = p
    · subst e; exact .inr (.inl (by rw [hp]; simp))
    · rw [upd_ne e] at h; exact .inl h
/-- what stands for an own cell that does not change any more -/
@[simp] def cntD : Cnt → D
  | .l ds => .lst ds
  | .k kvs => .dk (kvs.map (·.1)) (kvs.map (·.2))
  | .t kvs => .dt (kvs.map (·.1)) (kvs.map (·.2))
theorem zip_back {α β : Type} (kvs : List (α × β)) : (kvs.map (·.1)).zip (kvs.map (·.2)) = kvs := by
  induction kvs with
  | nil => rfl
  | cons a kvs ih => simp [ih]
theorem RepC.rep {o : HO} {c : Cnt} {p : Addr} (gp : G p = none) : RepC K G o c → Rep K (upd G p o) (.ref p) (cntD c)
  | .l r => .lst upd_same (r.mono (Ex.new gp))
  | .k (kvs := kvs) (kds := kds) h r => by
    refine .dk (vs := kvs.map (·.2)) ?_ ?_ (r.mono (Ex.new gp))
    · show upd G p (.dK kvs) p = some (.dK ((kds.map (·.1)).zip (kvs.map (·.2))))
      rw [← h, zip_back, upd_same]
    · show (kds.map (·.1)).length = (kvs.map (·.2)).length
      rw [← h, List.length_map, List.length_map]
  | .t (kvs := kvs) (kds := kds) h r => by
    refine .dt (vs := kvs.map (·.2)) ?_ ?_ (r.mono (Ex.new gp))
    · show upd G p (.dT kvs) p = some (.dT ((kds.map (·.1)).zip (kvs.map (·.2))))
      rw [← h, zip_back, upd_same]
    · show (kds.map (·.1)).length = (kvs.map (·.2)).length
      rw [← h, List.length_map, List.length_map]
theorem Wd.frz (w : Wd K G H μ) {p : Addr} {c : Cnt} (hp : μ p = some c) : ∃ o, Wd K (upd G p o) H (muDel μ p) ∧ Rep K (upd G p o) (.ref p) (cntD c) ∧ Go μ G H (muDel μ p) (upd G p o) H := by
  obtain ⟨o, r, gp, a, b⟩ := w.frzC hp
  exact ⟨o, a, r.rep gp, b⟩
end

/-! ### readings over data -/
abbrev DK := D → Mu → Prop
abbrev RE := Sl → Mu → DK → Prop
abbrev RT := Sl → Mu → (Bool → Mu → Prop) → Prop
abbrev RA := Sl → Mu → (List D → Mu → Prop) → Prop
structure DEnds where
  nx : Sl → Mu → Prop
  rt : DK
  bk : Sl → Mu → Prop := fun _ _ => False
  ct : Sl → Mu → Prop := fun _ _ => False
abbrev RS := DEnds → Sl → Mu → Prop
/-- a target: the data to be stored -/
abbrev RG := D → Sl → Mu → (Sl → Mu → Prop) → Prop

section
variable (K : PySem.W.Frag)
def OkE (t : TE) (r : RE) : Prop := ∀ (σ : L2.St) (δ : Sl) (μ : Mu) (G H : Hp) (k : DK) (Q : VK), SlOk K G σ δ → Wd K G H μ → r δ μ k →
  (∀ v d μ' G' H', k d μ' → Wd K G' H' μ' → Go μ G H μ' G' H' → Rep K G' v d → Q v H') → t σ H Q
def OkT (t : TT) (r : RT) : Prop := ∀ (σ : L2.St) (δ : Sl) (μ : Mu) (G H : Hp) (k : Bool → Mu → Prop) (Q : Bool → Hp → Prop), SlOk K G σ δ → Wd K G H μ → r δ μ k →
  (∀ b μ' G' H', k b μ' → Wd K G' H' μ' → Go μ G H μ' G' H' → Q b H') → t σ H Q
def OkA (t : TA) (r : RA) : Prop := ∀ (σ : L2.St) (δ : Sl) (μ : Mu) (G H : Hp) (k : List D → Mu → Prop) (Q : List V → Hp → Prop), SlOk K G σ δ → Wd K G H μ → r δ μ k →
  (∀ vs ds μ' G' H', k ds μ' → Wd K G' H' μ' → Go μ G H μ' G' H' → RepL K G' vs ds → Q vs H') → t σ H Q
/-- what is wanted behind a statement -/
structure Back (μ : Mu) (G H : Hp) (DD : DEnds) (D : Ends) : Prop where
  nx : ∀ σ' δ' μ' G' H', DD.nx δ' μ' → SlOk K G' σ' δ' → Wd K G' H' μ' → Go μ G H μ' G' H' → D.nx σ' H'
  bk : ∀ σ' δ' μ' G' H', DD.bk δ' μ' → SlOk K G' σ' δ' → Wd K G' H' μ' → Go μ G H μ' G' H' → D.bk σ' H'
  ct : ∀ σ' δ' μ' G' H', DD.ct δ' μ' → SlOk K G' σ' δ' → Wd K G' H' μ' → Go μ G H μ' G' H' → D.ct σ' H'
  rt : ∀ v d μ' G' H', DD.rt d μ' → Wd K G' H' μ' → Go μ G H μ' G' H' → Rep K G' v d → D.rt v H'
def OkS (t : TS) (r : RS) : Prop := ∀ (σ : L2.St) (δ : Sl) (μ : Mu) (G H : Hp) (DD : DEnds) (D : Ends), SlOk K G σ δ → Wd K G H μ → r DD δ μ → Back K μ G H DD D → t D σ H
/-- js: the slots that are stored -/
def OkG (g : TG) (r : RG) (js : List Nat) : Prop := ∀ (v : V) (d : D) (σ : L2.St) (δ : Sl) (μ : Mu) (G H : Hp) (k : Sl → Mu → Prop) (Q : L2.St → Hp → Prop), SlOk K G σ δ → Wd K G H μ → Rep K G v d → r d δ μ k →
  (∀ σ' δ' μ' G' H', k δ' μ' → SlOk K G' σ' δ' → Wd K G' H' μ' → Go μ G H μ' G' H' → (σ'.length = σ.length ∧ ∀ i, i ∉ js → σ'[i]? = σ[i]?) → Q σ' H') → g v σ H Q
end
theorem Back.go {K : PySem.W.Frag} {μ μ1 : Mu} {G G1 H H1 : Hp} {DD : DEnds} {D : Ends} (b : Back K μ G H DD D) (g : Go μ G H μ1 G1 H1) : Back K μ1 G1 H1 DD D :=
  ⟨fun σ' δ' μ' G' H' h s w x => b.nx σ' δ' μ' G' H' h s w (g.trans x), fun σ' δ' μ' G' H' h s w x => b.bk σ' δ' μ' G' H' h s w (g.trans x),
   fun σ' δ' μ' G' H' h s w x => b.ct σ' δ' μ' G' H' h s w (g.trans x), fun v d μ' G' H' h w x r => b.rt v d μ' G' H' h w (g.trans x) r⟩

/-! ### the judgements: the rule of HandS and the reading over data -/
structure DE (X : Cx) (e : Expr) (t : TE) (r : RE) : Prop where
  p : PE X e t
  o : OkE X.K t r
structure DT (X : Cx) (e : Expr) (t : TT) (r : RT) : Prop where
  p : PT X e t
  o : OkT X.K t r
structure DW (X : Cx) (e : Expr) (t : TT) (r : RT) : Prop where
  p : PW X e t
  o : OkT X.K t r
structure DA (X : Cx) (es : List Expr) (t : TA) (r : RA) : Prop where
  p : PA X es t
  o : OkA X.K t r
structure DS (X : Cx) (st : Stmt) (t : TS) (r : RS) : Prop where
  p : PS X st t
  o : OkS X.K t r
structure DSs (X : Cx) (st : List Stmt) (t : TS) (r : RS) : Prop where
  p : PSs X st t
  o : OkS X.K t r
structure DG (X : Cx) (tg : Expr) (g : TG) (r : RG) (js : List Nat) : Prop where
  p : PG X tg g
  o : OkG X.K g r js
end DL


set_option Elab.async false
set_option linter.all false
set_option maxRecDepth 100000
set_option maxHeartbeats 4000000
/-! DLb: rules for expressions, tests, arguments over data. -/
namespace DL
open PySem PySem.Spec PyProof.Rows L2 SlX

/-- what is wanted behind a value -/
abbrev Then (K : PySem.W.Frag) (μ : Mu) (G H : Hp) (k : DK) (Q : VK) : Prop := ∀ v d μ' G' H', k d μ' → Wd K G' H' μ' → Go μ G H μ' G' H' → Rep K G' v d → Q v H'
abbrev F2 := D → D → Mu → DK → Prop
abbrev F1 := D → Mu → DK → Prop
abbrev FL := List D → Mu → DK → Prop
section
variable (K : PySem.W.Frag)
def OkOp (r : R2) (f : F2) : Prop := ∀ (x y : V) (a b : D) (μ : Mu) (G H : Hp) (k : DK) (Q : VK), Wd K G H μ → Rep K G x a → Rep K G y b → f a b μ k → Then K μ G H k Q → r x y H Q
def OkU (r : V → Hp → VK → Prop) (f : F1) : Prop := ∀ (x : V) (a : D) (μ : Mu) (G H : Hp) (k : DK) (Q : VK), Wd K G H μ → Rep K G x a → f a μ k → Then K μ G H k Q → r x H Q
def OkC (r : List V → Hp → VK → Prop) (f : FL) : Prop := ∀ (xs : List V) (as : List D) (μ : Mu) (G H : Hp) (k : DK) (Q : VK), Wd K G H μ → RepL K G xs as → f as μ k → Then K μ G H k Q → r xs H Q
/-- a method by values: the object, the arguments -/
def OkM (r : V → List V → Hp → VK → Prop) (f : D → List D → Mu → DK → Prop) : Prop :=
  ∀ (x : V) (xs : List V) (a : D) (as : List D) (μ : Mu) (G H : Hp) (k : DK) (Q : VK), Wd K G H μ → Rep K G x a → RepL K G xs as → f a as μ k → Then K μ G H k Q → r x xs H Q
end

/-! ### readings -/
@[simp] def rVar (i : Nat) : RE := fun δ μ k => match δ[i]? with | some (some d) => k d μ | _ => False
@[simp] def rC (d : D) : RE := fun _ μ k => k d μ
@[simp] def rOp (f : F2) (ra rb : RE) : RE := fun δ μ k => ra δ μ fun x μ1 => rb δ μ1 fun y μ2 => f x y μ2 k
@[simp] def rUn (f : F1) (ra : RE) : RE := fun δ μ k => ra δ μ fun x μ1 => f x μ1 k
@[simp] def rIf (rt : RT) (ra rb : RE) : RE := fun δ μ k => rt δ μ fun b μ1 => if b = true then ra δ μ1 k else rb δ μ1 k
@[simp] def asB (d : D) (k : Bool → Prop) : Prop := match d with | .bl b => k b | _ => False
@[simp] def rAndV (ra rb : RE) : RE := fun δ μ k => ra δ μ fun x μ1 => asB x fun c => if c = true then rb δ μ1 k else k (.bl false) μ1
@[simp] def rOrV (ra rb : RE) : RE := fun δ μ k => ra δ μ fun x μ1 => asB x fun c => if c = true then k (.bl true) μ1 else rb δ μ1 k
@[simp] def rNotV (ra : RE) : RE := fun δ μ k => ra δ μ fun x μ1 => asB x fun c => k (.bl (!c)) μ1
@[simp] def rB (ra : RE) : RT := fun δ μ k => ra δ μ fun x μ1 => asB x fun c => k c μ1
@[simp] def rAnd (ra rb : RT) : RT := fun δ μ k => ra δ μ fun c μ1 => if c = true then rb δ μ1 k else k false μ1
@[simp] def rOr (ra rb : RT) : RT := fun δ μ k => ra δ μ fun c μ1 => if c = true then k true μ1 else rb δ μ1 k
@[simp] def rNot (ra : RT) : RT := fun δ μ k => ra δ μ fun c μ1 => k (!c) μ1
@[simp] def rChain (f f' : F2) (ra rb rc : RE) : RE := fun δ μ k => ra δ μ fun x μ1 => rb δ μ1 fun y μ2 => f x y μ2 fun z μ3 => asB z fun c => if c = true then rc δ μ3 (fun w μ4 => f' y w μ4 k) else k (.bl false) μ3
@[simp] def rNil : RA := fun _ μ k => k [] μ
@[simp] def rCons (ra : RE) (rr : RA) : RA := fun δ μ k => ra δ μ fun x μ1 => rr δ μ1 fun xs μ2 => k (x :: xs) μ2
@[simp] def rTup (ra : RA) : RE := fun δ μ k => ra δ μ fun xs μ1 => xs.length ≤ 1000000 ∧ k (.tup xs) μ1
@[simp] def rLst (ra : RA) : RE := fun δ μ k => ra δ μ fun xs μ1 => xs.length ≤ 1000000 ∧ k (.lst xs) μ1
/-- a new list that will change -/
@[simp] def rLstO (ra : RA) : RE := fun δ μ k => ra δ μ fun xs μ1 => xs.length ≤ 1000000 ∧ ∀ p, μ1 p = none → k (.own p) (muSet μ1 p xs)
@[simp] def rCB (f : FL) (ra : RA) : RE := fun δ μ k => ra δ μ fun xs μ1 => f xs μ1 k
@[simp] def rBM (f : D → List D → Mu → DK → Prop) (ro : RE) (ra : RA) : RE := fun δ μ k => ro δ μ fun x μ1 => ra δ μ1 fun xs μ2 => f x xs μ2 k
def RO := Sl → Mu → (Option Int → Mu → Prop) → Prop
@[simp] def rNo : RO := fun _ μ k => k none μ
@[simp] def rPart (ra : RE) : RO := fun δ μ k => ra δ μ fun x μ1 => match x with | .int i => k (some i) μ1 | _ => False
@[simp] def rSlc (f : D → Option Int → Option Int → Mu → DK → Prop) (ra : RE) (rl rh : RO) : RE := fun δ μ k => ra δ μ fun x μ1 => rl δ μ1 fun l μ2 => rh δ μ2 fun u μ3 => f x l u μ3 k

section
variable {K : PySem.W.Frag} {ta tb tc : TE} {ra rb rc : RE} {t u : TT} {s s' : RT}
theorem okE_var (i : Nat) : OkE K (tVar i) (rVar i) := fun σ δ μ G H k Q S w q b => by
  unfold rVar at q
  split at q
  · rename_i d e
    obtain ⟨v, h1, h2⟩ := S.at_ i d e
    exact ⟨v, h1, b v d μ G H q w (Go.refl _ _ _) h2⟩
  · exact q.elim
theorem okE_C {v : V} {d : D} (h : ∀ G, Rep K G v d) : OkE K (tC v) (rC d) := fun σ δ μ G H k Q S w q b => b v d μ G H q w (Go.refl _ _ _) (h G)
theorem okE_op {r : R2} {f : F2} (h : OkOp K r f) (ha : OkE K ta ra) (hb : OkE K tb rb) : OkE K (tOp r ta tb) (rOp f ra rb) := fun σ δ μ G H k Q S w q b =>
  ha σ δ μ G H _ _ S w q fun x dx μ1 G1 H1 q1 w1 g1 r1 => hb σ δ μ1 G1 H1 _ _ (S.mono g1.eg) w1 q1 fun y dy μ2 G2 H2 q2 w2 g2 r2 =>
  h x y dx dy μ2 G2 H2 k Q w2 (r1.mono g2.eg) r2 q2 fun v d μ' G' H' qk w' g' r' => b v d μ' G' H' qk w' ((g1.trans g2).trans g') r'
theorem okE_un {r : V → Hp → VK → Prop} {f : F1} (h : OkU K r f) (ha : OkE K ta ra) : OkE K (tUn r ta) (rUn f ra) := fun σ δ μ G H k Q S w q b =>
  ha σ δ μ G H _ _ S w q fun x dx μ1 G1 H1 q1 w1 g1 r1 => h x dx μ1 G1 H1 k Q w1 r1 q1 fun v d μ' G' H' qk w' g' r' => b v d μ' G' H' qk w' (g1.trans g') r'
theorem okE_if (h : OkT K t s) (ha : OkE K ta ra) (hb : OkE K tb rb) : OkE K (tIf t ta tb) (rIf s ra rb) := fun σ δ μ G H k Q S w q b =>
  h σ δ μ G H _ _ S w q fun c μ1 G1 H1 q1 w1 g1 => by
    cases c with
    | true => exact ha σ δ μ1 G1 H1 k Q (S.mono g1.eg) w1 q1 fun v d μ' G' H' qk w' g' r' => b v d μ' G' H' qk w' (g1.trans g') r'
    | false => exact hb σ δ μ1 G1 H1 k Q (S.mono g1.eg) w1 q1 fun v d μ' G' H' qk w' g' r' => b v d μ' G' H' qk w' (g1.trans g') r'
theorem asB_out {G : Hp} {v : V} {d : D} {k : Bool → Prop} (r : Rep K G v d) (h : asB d k) : ∃ c, v = .bl c ∧ k c := by
  cases r with
  | bl c => exact ⟨c, rfl, h⟩
  | _ => exact h.elim
theorem okE_andV (ha : OkE K ta ra) (hb : OkE K tb rb) : OkE K (tAndV ta tb) (rAndV ra rb) := fun σ δ μ G H k Q S w q b =>
  ha σ δ μ G H _ _ S w q fun x dx μ1 G1 H1 q1 w1 g1 r1 => by
    obtain ⟨c, rfl, q2⟩ := asB_out r1 q1
    refine ⟨c, rfl, ?_⟩
    cases c with
    | true => exact hb σ δ μ1 G1 H1 k Q (S.mono g1.eg) w1 q2 fun v d μ' G' H' qk w' g' r' => b v d μ' G' H' qk w' (g1.trans g') r'
    | false => exact b _ _ μ1 G1 H1 q2 w1 g1 (.bl false)
theorem okE_orV (ha : OkE K ta ra) (hb : OkE K tb rb) : OkE K (tOrV ta tb) (rOrV ra rb) := fun σ δ μ G H k Q S w q b =>
  ha σ δ μ G H _ _ S w q fun x dx μ1 G1 H1 q1 w1 g1 r1 => by
    obtain ⟨c, rfl, q2⟩ := asB_out r1 q1
    refine ⟨c, rfl, ?_⟩
    cases c with
    | true => exact b _ _ μ1 G1 H1 q2 w1 g1 (.bl true)
    | false => exact hb σ δ μ1 G1 H1 k Q (S.mono g1.eg) w1 q2 fun v d μ' G' H' qk w' g' r' => b v d μ' G' H' qk w' (g1.trans g') r'
theorem okE_notV (ha : OkE K ta ra) : OkE K (tNotV ta) (rNotV ra) := fun σ δ μ G H k Q S w q b =>
  ha σ δ μ G H _ _ S w q fun x dx μ1 G1 H1 q1 w1 g1 r1 => by
    obtain ⟨c, rfl, q2⟩ := asB_out r1 q1
    exact ⟨c, rfl, b _ _ μ1 G1 H1 q2 w1 g1 (.bl _)⟩
theorem okT_B (ha : OkE K ta ra) : OkT K (tB ta) (rB ra) := fun σ δ μ G H k Q S w q b =>
  ha σ δ μ G H _ _ S w q fun x dx μ1 G1 H1 q1 w1 g1 r1 => by
    obtain ⟨c, rfl, q2⟩ := asB_out r1 q1
    exact ⟨c, rfl, b c μ1 G1 H1 q2 w1 g1⟩
theorem okT_test (ha : OkE K ta ra) : OkT K (tTest ta) (rB ra) := fun σ δ μ G H k Q S w q b =>
  ha σ δ μ G H _ _ S w q fun x dx μ1 G1 H1 q1 w1 g1 r1 => by
    obtain ⟨c, rfl, q2⟩ := asB_out r1 q1
    exact ⟨c, rfl, b c μ1 G1 H1 q2 w1 g1⟩
theorem okT_and (ha : OkT K t s) (hb : OkT K u s') : OkT K (tAnd t u) (rAnd s s') := fun σ δ μ G H k Q S w q b =>
  ha σ δ μ G H _ _ S w q fun c μ1 G1 H1 q1 w1 g1 => by
    cases c with
    | true => exact hb σ δ μ1 G1 H1 k Q (S.mono g1.eg) w1 q1 fun v μ' G' H' qk w' g' => b v μ' G' H' qk w' (g1.trans g')
    | false => exact b false μ1 G1 H1 q1 w1 g1
theorem okT_or (ha : OkT K t s) (hb : OkT K u s') : OkT K (tOr t u) (rOr s s') := fun σ δ μ G H k Q S w q b =>
  ha σ δ μ G H _ _ S w q fun c μ1 G1 H1 q1 w1 g1 => by
    cases c with
    | true => exact b true μ1 G1 H1 q1 w1 g1
    | false => exact hb σ δ μ1 G1 H1 k Q (S.mono g1.eg) w1 q1 fun v μ' G' H' qk w' g' => b v μ' G' H' qk w' (g1.trans g')
theorem okT_not (ha : OkT K t s) : OkT K (tNot t) (rNot s) := fun σ δ μ G H k Q S w q b =>
  ha σ δ μ G H _ _ S w q fun c μ1 G1 H1 q1 w1 g1 => b (!c) μ1 G1 H1 q1 w1 g1
theorem okE_chain {r r2 : R2} {f f2 : F2} (h : OkOp K r f) (h2 : OkOp K r2 f2) (ha : OkE K ta ra) (hb : OkE K tb rb) (hc : OkE K tc rc) : OkE K (tChain r r2 ta tb tc) (rChain f f2 ra rb rc) := by
  intro σ δ μ G H k Q S w q b
  refine ha σ δ μ G H _ _ S w q fun x dx μ1 G1 H1 q1 w1 g1 r1 => ?_
  refine hb σ δ μ1 G1 H1 _ _ (S.mono g1.eg) w1 q1 fun y dy μ2 G2 H2 q2 w2 g2 r2 => ?_
  refine h x y dx dy μ2 G2 H2 _ _ w2 (r1.mono g2.eg) r2 q2 fun z dz μ3 G3 H3 q3 w3 g3 r3 => ?_
  obtain ⟨c, rfl, q4⟩ := asB_out r3 q3
  refine ⟨c, rfl, ?_⟩
  cases c with
  | true =>
    refine hc σ δ μ3 G3 H3 _ _ (S.mono (g1.eg.trans (g2.eg.trans g3.eg))) w3 q4 fun z2 d2 μ4 G4 H4 q5 w4 g4 r4 => ?_
    exact h2 y z2 dy d2 μ4 G4 H4 k Q w4 (r2.mono (g3.eg.trans g4.eg)) r4 q5 fun v d μ' G' H' qk w' g' r' => b v d μ' G' H' qk w' ((g1.trans g2).trans ((g3.trans g4).trans g')) r'
  | false => exact b _ _ μ3 G3 H3 q4 w3 ((g1.trans g2).trans g3) (.bl false)
theorem okA_nil : OkA K tNil rNil := fun σ δ μ G H k Q S w q b => b [] [] μ G H q w (Go.refl _ _ _) .nil
theorem okA_cons {tr : TA} {rr : RA} (ha : OkE K ta ra) (hr : OkA K tr rr) : OkA K (tCons ta tr) (rCons ra rr) := fun σ δ μ G H k Q S w q b =>
  ha σ δ μ G H _ _ S w q fun x dx μ1 G1 H1 q1 w1 g1 r1 => hr σ δ μ1 G1 H1 _ _ (S.mono g1.eg) w1 q1 fun xs ds μ2 G2 H2 q2 w2 g2 r2 =>
  b (x :: xs) (dx :: ds) μ2 G2 H2 q2 w2 (g1.trans g2) (.cons (r1.mono g2.eg) r2)
theorem sz_of {n : Nat} (h : n ≤ 1000000) : n ≤ sizeLine := Nat.le_trans h (by decide)
theorem sz_lt {n : Nat} (h : n < 1000000) : n < sizeLine := Nat.lt_of_lt_of_le h (by decide)
theorem mkTup {μ : Mu} {G H : Hp} {k : DK} {Q : VK} {xs : List V} {ds : List D} (w : Wd K G H μ) (r : RepL K G xs ds) (q : k (.tup ds) μ) (b : Then K μ G H k Q) (p : Addr) (hp : H p = none) : Q (.ref p) (upd H p (.tup xs)) :=
  b _ _ μ (upd G p (.tup xs)) _ q (w.new hp) (Go.new w hp) (.tup (SqT.of upd_same) (r.mono (Ex.new (w.gnone hp))))
theorem mkLst {μ : Mu} {G H : Hp} {k : DK} {Q : VK} {xs : List V} {ds : List D} (w : Wd K G H μ) (r : RepL K G xs ds) (q : k (.lst ds) μ) (b : Then K μ G H k Q) (p : Addr) (hp : H p = none) : Q (.ref p) (upd H p (.lst xs)) :=
  b _ _ μ (upd G p (.lst xs)) _ q (w.new hp) (Go.new w hp) (.lst upd_same (r.mono (Ex.new (w.gnone hp))))
theorem mkOwn {μ : Mu} {G H : Hp} {k : DK} {Q : VK} {xs : List V} {ds : List D} (w : Wd K G H μ) (r : RepL K G xs ds) (q : ∀ p, μ p = none → k (.own p) (muSet μ p ds)) (b : Then K μ G H k Q) (p : Addr) (hp : H p = none) : Q (.ref p) (upd H p (.lst xs)) :=
  b _ _ (muSet μ p ds) G _ (q p (w.mnone hp)) (w.newO hp r) (Go.newO w hp) (.own p)
theorem okE_tup {tt : TA} {rr : RA} (h : OkA K tt rr) : OkE K (tTup tt) (rTup rr) := fun σ δ μ G H k Q S w q b =>
  h σ δ μ G H _ _ S w q fun xs ds μ1 G1 H1 ⟨q0, q1⟩ w1 g1 r1 => ⟨sz_of (by rw [r1.length]; exact q0), fun p hp => mkTup w1 r1 q1 (fun v d μ' G' H' qk w' g' r' => b v d μ' G' H' qk w' (g1.trans g') r') p hp⟩
theorem okE_lst {tt : TA} {rr : RA} (h : OkA K tt rr) : OkE K (tLst tt) (rLst rr) := fun σ δ μ G H k Q S w q b =>
  h σ δ μ G H _ _ S w q fun xs ds μ1 G1 H1 ⟨q0, q1⟩ w1 g1 r1 => ⟨sz_of (by rw [r1.length]; exact q0), fun p hp => mkLst w1 r1 q1 (fun v d μ' G' H' qk w' g' r' => b v d μ' G' H' qk w' (g1.trans g') r') p hp⟩
theorem okE_lstO {tt : TA} {rr : RA} (h : OkA K tt rr) : OkE K (tLst tt) (rLstO rr) := fun σ δ μ G H k Q S w q b =>
  h σ δ μ G H _ _ S w q fun xs ds μ1 G1 H1 ⟨q0, q1⟩ w1 g1 r1 => ⟨sz_of (by rw [r1.length]; exact q0), fun p hp => mkOwn w1 r1 q1 (fun v d μ' G' H' qk w' g' r' => b v d μ' G' H' qk w' (g1.trans g') r') p hp⟩
theorem okE_CB {r : List V → Hp → VK → Prop} {f : FL} {tt : TA} {rr : RA} (hc : OkC K r f) (h : OkA K tt rr) : OkE K (tCB r tt) (rCB f rr) := fun σ δ μ G H k Q S w q b =>
  h σ δ μ G H _ _ S w q fun xs ds μ1 G1 H1 q1 w1 g1 r1 => hc xs ds μ1 G1 H1 k Q w1 r1 q1 fun v d μ' G' H' qk w' g' r' => b v d μ' G' H' qk w' (g1.trans g') r'
def OkO (K : PySem.W.Frag) (t : TO) (r : RO) : Prop := ∀ (σ : L2.St) (δ : Sl) (μ : Mu) (G H : Hp) (k : Option Int → Mu → Prop) (Q : Option Int → Hp → Prop), SlOk K G σ δ → Wd K G H μ → r δ μ k →
  (∀ o μ' G' H', k o μ' → Wd K G' H' μ' → Go μ G H μ' G' H' → Q o H') → t σ H Q
theorem okO_no : OkO K tNoPart rNo := fun σ δ μ G H k Q S w q b => b none μ G H q w (Go.refl _ _ _)
theorem okO_part (ha : OkE K ta ra) : OkO K (tPart ta) (rPart ra) := fun σ δ μ G H k Q S w q b =>
  ha σ δ μ G H _ _ S w q fun x dx μ1 G1 H1 q1 w1 g1 r1 => by
    cases r1 with
    | int i => exact ⟨i, rfl, b _ μ1 G1 H1 q1 w1 g1⟩
    | _ => exact q1.elim
def OkSl (K : PySem.W.Frag) (r : V → Option Int → Option Int → Hp → VK → Prop) (f : D → Option Int → Option Int → Mu → DK → Prop) : Prop :=
  ∀ (x : V) (a : D) (l u : Option Int) (μ : Mu) (G H : Hp) (k : DK) (Q : VK), Wd K G H μ → Rep K G x a → f a l u μ k → Then K μ G H k Q → r x l u H Q
theorem okE_slc {r : V → Option Int → Option Int → Hp → VK → Prop} {f : D → Option Int → Option Int → Mu → DK → Prop} {tl th : TO} {rl rh : RO} (h : OkSl K r f) (ha : OkE K ta ra) (hl : OkO K tl rl) (hh : OkO K th rh) : OkE K (L2.tSl r ta tl th) (rSlc f ra rl rh) := fun σ δ μ G H k Q S w q b =>
  ha σ δ μ G H _ _ S w q fun x dx μ1 G1 H1 q1 w1 g1 r1 => hl σ δ μ1 G1 H1 _ _ (S.mono g1.eg) w1 q1 fun l μ2 G2 H2 q2 w2 g2 =>
  hh σ δ μ2 G2 H2 _ _ (S.mono (g1.eg.trans g2.eg)) w2 q2 fun u μ3 G3 H3 q3 w3 g3 =>
  h x dx l u μ3 G3 H3 k Q w3 (r1.mono (g2.eg.trans g3.eg)) q3 fun v d μ' G' H' qk w' g' r' => b v d μ' G' H' qk w' ((g1.trans (g2.trans g3)).trans g') r'
end

/-! ### operators -/
section
variable {K : PySem.W.Frag}
/-- two ints to an int -/
@[simp] def oI (g : Int → Int → Int) : F2 := fun x y μ k => match x, y with | .int i, .int j => k (.int (g i j)) μ | _, _ => False
@[simp] def oIc (C : Int → Int → Prop) (g : Int → Int → Int) : F2 := fun x y μ k => match x, y with | .int i, .int j => C i j ∧ k (.int (g i j)) μ | _, _ => False
@[simp] def oB (g : Int → Int → Bool) : F2 := fun x y μ k => match x, y with | .int i, .int j => k (.bl (g i j)) μ | _, _ => False
theorem okI {g : Int → Int → Int} : OkOp K (rI0 fun i j => .int (g i j)) (oI g) := fun x y a b μ G H k Q w rx ry q t => by
  cases rx with
  | int i =>
    cases ry with
    | int j => exact ⟨i, j, rfl, rfl, t _ _ μ G H q w (Go.refl _ _ _) (.int _)⟩
    | _ => exact q.elim
  | _ => exact q.elim
theorem okIc {C : Int → Int → Prop} {g : Int → Int → Int} : OkOp K (rI C fun i j => .int (g i j)) (oIc C g) := fun x y a b μ G H k Q w rx ry q t => by
  cases rx with
  | int i =>
    cases ry with
    | int j => exact ⟨i, j, rfl, rfl, q.1, t _ _ μ G H q.2 w (Go.refl _ _ _) (.int _)⟩
    | _ => exact q.elim
  | _ => exact q.elim
theorem okB {g : Int → Int → Bool} : OkOp K (rI0 fun i j => .bl (g i j)) (oB g) := fun x y a b μ G H k Q w rx ry q t => by
  cases rx with
  | int i =>
    cases ry with
    | int j => exact ⟨i, j, rfl, rfl, t _ _ μ G H q w (Go.refl _ _ _) (.bl _)⟩
    | _ => exact q.elim
  | _ => exact q.elim
@[simp] def oNeg : F1 := fun x μ k => match x with | .int i => k (.int (-i)) μ | _ => False
theorem okNeg : OkU K (rU fun i => .int (-i)) oNeg := fun x a μ G H k Q w rx q t => by
  cases rx with
  | int i => exact ⟨i, rfl, t _ _ μ G H q w (Go.refl _ _ _) (.int _)⟩
  | _ => exact q.elim

/-- the own list at p -/
def lsAt (μ : Mu) (p : Addr) : Option (List D) := match μ p with
  | some (.l ds) => some ds
  | _ => none
@[simp] theorem lsAt_iff {μ : Mu} {p : Addr} {ds : List D} : lsAt μ p = some ds ↔ μ p = some (.l ds) := by
  unfold lsAt
  constructor
  · intro h
    split at h
    · rename_i e; cases h; exact e
    · cases h
  · intro h; rw [h]
@[simp] theorem lsAt_none {μ : Mu} {p : Addr} {ds : List D} : (some ds = lsAt μ p) ↔ μ p = some (.l ds) := by rw [eq_comm, lsAt_iff]
theorem lsAt_of {μ : Mu} {p : Addr} {ds : List D} (h : μ p = some (.l ds)) : lsAt μ p = some ds := lsAt_iff.mpr h
/-- a list that is read -/
@[simp] def asL (μ : Mu) : D → Option (List D)
  | .lst ds => some ds
  | .own p => lsAt μ p
  | _ => none
theorem asL_out {μ : Mu} {G H : Hp} {v : V} {d : D} {ds : List D} (w : Wd K G H μ) (r : Rep K G v d) (e : asL μ d = some ds) : ∃ a vs, v = .ref a ∧ H a = some (.lst vs) ∧ RepL K G vs ds := by
  cases r with
  | lst h q => cases e; exact ⟨_, _, rfl, w.ex _ _ h, q⟩
  | own p =>
    obtain ⟨_, vs, h, q⟩ := w.muL p ds (lsAt_iff.mp e)
    exact ⟨_, vs, rfl, h, q⟩
  | _ => cases e
/-- a list or a tuple that is read -/
@[simp] def asQ (μ : Mu) : D → Option (List D)
  | .lst ds => some ds
  | .own p => lsAt μ p
  | .tup ds => some ds
  | _ => none
theorem asQ_out {μ : Mu} {G H : Hp} {v : V} {d : D} {ds : List D} (w : Wd K G H μ) (r : Rep K G v d) (e : asQ μ d = some ds) : ∃ a vs, v = .ref a ∧ (SqL K H a vs ∨ SqT K H a vs) ∧ RepL K G vs ds := by
  cases r with
  | lst h q => cases e; exact ⟨_, _, rfl, .inl (SqL.of (w.ex _ _ h)), q⟩
  | own p =>
    obtain ⟨_, vs, h, q⟩ := w.muL p ds (lsAt_iff.mp e)
    exact ⟨_, vs, rfl, .inl (SqL.of h), q⟩
  | tup h q => cases e; exact ⟨_, _, rfl, .inr (w.ex.t h), q⟩
  | _ => cases e
@[simp] def oCat : F2 := fun x y μ k => ∃ xs ys, asL μ x = some xs ∧ asL μ y = some ys ∧ xs.length + ys.length ≤ 1000000 ∧ k (.lst (xs ++ ys)) μ
theorem okCat : OkOp K rCat oCat := fun x y a b μ G H k Q w rx ry ⟨xs, ys, e1, e2, hl, q⟩ t => by
  obtain ⟨p, vs, rfl, h1, r1⟩ := asL_out w rx e1
  obtain ⟨p', vs', rfl, h2, r2⟩ := asL_out w ry e2
  exact ⟨p, p', vs, vs', rfl, rfl, h1, h2, sz_of (by rw [r1.length, r2.length]; exact hl), fun l hl => mkLst w (r1.append r2) q t l hl⟩
@[simp] def oCatO : F2 := fun x y μ k => ∃ xs ys, asL μ x = some xs ∧ asL μ y = some ys ∧ xs.length + ys.length ≤ 1000000 ∧ ∀ p, μ p = none → k (.own p) (muSet μ p (xs ++ ys))
theorem okCatO : OkOp K rCat oCatO := fun x y a b μ G H k Q w rx ry ⟨xs, ys, e1, e2, hl, q⟩ t => by
  obtain ⟨p, vs, rfl, h1, r1⟩ := asL_out w rx e1
  obtain ⟨p', vs', rfl, h2, r2⟩ := asL_out w ry e2
  exact ⟨p, p', vs, vs', rfl, rfl, h1, h2, sz_of (by rw [r1.length, r2.length]; exact hl), fun l hl => mkOwn w (r1.append r2) q t l hl⟩
/-- tuples -/
@[simp] def oCatT : F2 := fun x y μ k => match x, y with | .tup xs, .tup ys => xs.length + ys.length ≤ 1000000 ∧ k (.tup (xs ++ ys)) μ | _, _ => False
theorem okCatT : OkOp K (rCatA K) oCatT := fun x y a b μ G H k Q w rx ry q t => by
  cases rx with
  | tup h1 r1 =>
    cases ry with
    | tup h2 r2 =>
      obtain ⟨hl, q⟩ := q
      refine ⟨_, _, _, _, rfl, rfl, w.ex.t h1, w.ex.t h2, sz_of (by rw [r1.length, r2.length]; exact hl), fun z => ?_, fun z1 z2 => ?_, fun z1 z2 p hp => mkTup w (r1.append r2) q t p hp⟩
      · subst z
        cases r1
        exact t _ _ μ G H q w (Go.refl _ _ _) (.tup h2 r2)
      · subst z2
        cases r2
        rw [List.append_nil] at q
        exact t _ _ μ G H q w (Go.refl _ _ _) (.tup h1 r1)
    | _ => exact q.elim
  | _ => exact q.elim
@[simp] def oCatS : F2 := fun x y μ k => match x, y with | .str a, .str b => a.length + b.length ≤ 1000000 ∧ k (.str (a ++ b)) μ | _, _ => False
theorem okCatS : OkOp K (fun x y H Q => ∃ i j, x = .str i ∧ y = .str j ∧ i.length + j.length ≤ sizeLine ∧ Q (.str (i ++ j)) H) oCatS := fun x y a b μ G H k Q w rx ry q t => by
  cases rx with
  | str i =>
    cases ry with
    | str j => exact ⟨i, j, rfl, rfl, sz_of q.1, t _ _ μ G H q.2 w (Go.refl _ _ _) (.str _)⟩
    | _ => exact q.elim
  | _ => exact q.elim
theorem RepL.flat {G : Hp} {xs : List V} {ds : List D} (r : RepL K G xs ds) : ∀ n : Nat, RepL K G (List.replicate n xs).flatten (List.replicate n ds).flatten
  | 0 => .nil
  | n + 1 => by rw [List.replicate_succ, List.replicate_succ, List.flatten_cons, List.flatten_cons]; exact r.append (RepL.flat r n)
@[simp] def oRep : F2 := fun x y μ k => ∃ xs, asL μ x = some xs ∧ ∃ j, y = .int j ∧ xs.length ≤ 1000 ∧ j ≤ 1000 ∧ -1000 ≤ j ∧ k (.lst (List.replicate j.toNat xs).flatten) μ
theorem okRep : OkOp K rRep oRep := fun x y a b μ G H k Q w rx ry ⟨xs, e1, j, e2, hl, h1, h0, q⟩ t => by
  obtain ⟨p, vs, rfl, hp, r1⟩ := asL_out w rx e1
  subst e2
  cases ry
  refine ⟨p, j, vs, rfl, rfl, hp, by omega, by omega, ?_, fun l hl => mkLst w (r1.flat _) q t l hl⟩
  rw [r1.length]
  exact Nat.le_trans (Nat.mul_le_mul hl (show j.toNat ≤ 1000 by omega)) (by decide)

/-! ### equality -/
mutual
def toPy : D → Option PyData
  | .non => some .none
  | .bl b => some (.bool b)
  | .int i => some (.int i)
  | .str x => some (.str x)
  | .tup ds => match toPyL ds with | some xs => some (.tuple xs) | none => none
  | .lst ds => match toPyL ds with | some xs => some (.list xs) | none => none
  | .own _ => none
  | .obj _ _ => none
  | .scr _ => none
  | .dk _ _ => none
  | .dt _ _ => none
def toPyL : List D → Option (List PyData)
  | [] => some []
  | d :: ds => match toPy d, toPyL ds with
    | some x, some xs => some (x :: xs)
    | _, _ => none
end
mutual
theorem toPy_dp {G : Hp} : ∀ {d : D} {v : V} {x : PyData}, Rep K G v d → toPy d = some x → Dp K G v x
  | _, _, _, .non, e => by unfold toPy at e; cases e; exact .non
  | _, _, _, .bl b, e => by unfold toPy at e; cases e; exact .bl b
  | _, _, _, .int i, e => by unfold toPy at e; cases e; exact .int i
  | _, _, _, .str s, e => by unfold toPy at e; cases e; exact .str s
  | _, _, _, .tup h r, e => by
    unfold toPy at e
    split at e
    · rename_i xs q
      cases e
      exact .tup h (toPyL_dp r q)
    · cases e
  | _, _, _, .lst h r, e => by
    unfold toPy at e
    split at e
    · rename_i xs q
      cases e
      exact .lst (SqL.of h) (toPyL_dp r q)
    · cases e
  | _, _, _, .own p, e => by unfold toPy at e; cases e
  | _, _, _, .obj h r, e => by unfold toPy at e; cases e
  | _, _, _, .scr h, e => by unfold toPy at e; cases e
  | _, _, _, .dk h l r, e => by unfold toPy at e; cases e
  | _, _, _, .dt h l r, e => by unfold toPy at e; cases e
theorem toPyL_dp {G : Hp} : ∀ {ds : List D} {vs : List V} {xs : List PyData}, RepL K G vs ds → toPyL ds = some xs → DpAll K G vs xs
  | _, _, _, .nil, e => by unfold toPyL at e; cases e; exact .nil
  | _, _, _, .cons h t, e => by
    unfold toPyL at e
    split at e
    · rename_i x xs q1 q2
      cases e
      exact .cons (toPy_dp h q1) (toPyL_dp t q2)
    · cases e
end
mutual
theorem dp_mono {H H' : Hp} (e : Ex H H') : ∀ {x : PyData} {v : V}, Dp K H v x → Dp K H' v x
  | _, _, .non => .non
  | _, _, .bl b => .bl b
  | _, _, .int i => .int i
  | _, _, .str s => .str s
  | _, _, .lst h r => .lst (e.l h) (dpAll_mono e r)
  | _, _, .tup h r => .tup (e.t h) (dpAll_mono e r)
theorem dpAll_mono {H H' : Hp} (e : Ex H H') : ∀ {xs : List PyData} {vs : List V}, DpAll K H vs xs → DpAll K H' vs xs
  | _, _, .nil => .nil
  | _, _, .cons h t => .cons (dp_mono e h) (dpAll_mono e t)
end
/-- data as it is compared: an own list by what it holds -/
def asPy (μ : Mu) (d : D) : Option PyData := match d with
  | .own p => match lsAt μ p with
    | some ds => match toPyL ds with | some xs => some (.list xs) | none => none
    | none => none
  | d => toPy d
theorem asPy_out {μ : Mu} {G H : Hp} {v : V} {d : D} {x : PyData} (w : Wd K G H μ) (r : Rep K G v d) (e : asPy μ d = some x) : Dp K H v x := by
  cases r with
  | own p =>
    unfold asPy at e
    simp only at e
    split at e
    · rename_i ds q
      split at e
      · rename_i xs q2
        cases e
        obtain ⟨_, vs, h, rr⟩ := w.muL p ds (lsAt_iff.mp q)
        exact .lst (SqL.of h) (dpAll_mono w.ex (toPyL_dp rr q2))
      · cases e
    · cases e
  | non => exact dp_mono w.ex (toPy_dp .non e)
  | bl b => exact dp_mono w.ex (toPy_dp (.bl b) e)
  | int b => exact dp_mono w.ex (toPy_dp (.int b) e)
  | str b => exact dp_mono w.ex (toPy_dp (.str b) e)
  | tup h r => exact dp_mono w.ex (toPy_dp (.tup h r) e)
  | lst h r => exact dp_mono w.ex (toPy_dp (.lst h r) e)
  | obj h r => exact dp_mono w.ex (toPy_dp (.obj h r) e)
  | scr h => exact dp_mono w.ex (toPy_dp (.scr h) e)
  | dk h l r => exact dp_mono w.ex (toPy_dp (.dk h l r) e)
  | dt h l r => exact dp_mono w.ex (toPy_dp (.dt h l r) e)
set_option checkBinderAnnotations false in
/-- the continuation stands where simp does not go -/
def hEq (x y : D) (μ : Mu) [k : DK] : Prop := ∃ a b, asPy μ x = some a ∧ asPy μ y = some b ∧ SeqAt.shaped a = true ∧ SeqAt.shaped b = true ∧ k (.bl (PyData.eqv a b)) μ
set_option checkBinderAnnotations false in
def hNe (x y : D) (μ : Mu) [k : DK] : Prop := ∃ a b, asPy μ x = some a ∧ asPy μ y = some b ∧ SeqAt.shaped a = true ∧ SeqAt.shaped b = true ∧ k (.bl (!PyData.eqv a b)) μ
@[simp] def oEq : F2 := fun x y μ k => @hEq x y μ k
@[simp] def oNe : F2 := fun x y μ k => @hNe x y μ k
theorem okEq : OkOp K (rEqD K) oEq := fun x y a b μ G H k Q w rx ry ⟨d, e, h1, h2, s1, s2, q⟩ t => ⟨d, e, asPy_out w rx h1, asPy_out w ry h2, s1, s2, t _ _ μ G H q w (Go.refl _ _ _) (.bl _)⟩
theorem okNe : OkOp K (rNeD K) oNe := fun x y a b μ G H k Q w rx ry ⟨d, e, h1, h2, s1, s2, q⟩ t => ⟨d, e, asPy_out w rx h1, asPy_out w ry h2, s1, s2, t _ _ μ G H q w (Go.refl _ _ _) (.bl _)⟩

/-! ### items, slices -/
/-- xs[i], t[i] -/
@[simp] def oIx : F2 := fun x y μ k => ∃ xs d, asQ μ x = some xs ∧ (∃ i, y = .int i ∧ atI xs i = some d) ∧ k d μ
theorem atI_rep {G : Hp} {vs : List V} {ds : List D} {i : Int} {d : D} (r : RepL K G vs ds) (e : atI ds i = some d) : ∃ v, atI vs i = some v ∧ Rep K G v d := by
  unfold atI at e ⊢
  rw [r.length]
  cases q : ixN ds.length i with
  | none => rw [q] at e; cases e
  | some j =>
    rw [q] at e
    exact r.getD' e
theorem okIx : OkOp K (rIx K) oIx := fun x y a b μ G H k Q w rx ry ⟨xs, d, e1, ⟨i, e2, e3⟩, q⟩ t => by
  subst e2
  cases ry
  obtain ⟨p, vs, rfl, hs, r⟩ := asQ_out w rx e1
  obtain ⟨v, h1, h2⟩ := atI_rep r e3
  rcases hs with hs | hs
  · exact .inl ⟨p, vs, i, v, rfl, rfl, hs, h1, t _ _ μ G H q w (Go.refl _ _ _) h2⟩
  · exact .inr (.inl ⟨p, vs, i, v, rfl, rfl, hs, h1, t _ _ μ G H q w (Go.refl _ _ _) h2⟩)
/-- the law's list -/
@[simp] def oIxS : F2 := fun x y μ k => match x, y with | .scr ns, .int i => ∃ n, atI ns i = some n ∧ k (.int n) μ | _, _ => False
theorem okIxS : OkOp K (rIxL K) oIxS := fun x y a b μ G H k Q w rx ry q t => by
  cases rx with
  | scr h =>
    cases ry with
    | int i =>
      obtain ⟨n, e, q⟩ := q
      refine ⟨_, _, i, .int n, rfl, rfl, w.ex.l h, ?_, t _ _ μ G H q w (Go.refl _ _ _) (.int n)⟩
      unfold atI at e ⊢
      rw [List.length_map]
      cases z : ixN _ i with
      | none => rw [z] at e; cases e
      | some j =>
        rw [z] at e
        show (List.map V.int _)[j]? = some (V.int n)
        have e2 : _ = some n := e
        simp only [Option.bind_some] at e2
        rw [List.getElem?_map, e2]
        rfl
    | _ => exact q.elim
  | _ => exact q.elim
def cutD (xs : List D) (lo hi : Option Int) : List D := (xs.drop (HT.sIx xs.length 0 lo)).take (HT.sIx xs.length xs.length hi - HT.sIx xs.length 0 lo)
theorem cut_rep {G : Hp} {vs : List V} {ds : List D} (r : RepL K G vs ds) (lo hi : Option Int) : RepL K G (cutV vs lo hi) (cutD ds lo hi) := by
  unfold cutV cutD
  rw [r.length]
  exact RepL.take _ (RepL.drop _ r)
@[simp] def oSlL : D → Option Int → Option Int → Mu → DK → Prop := fun x lo hi μ k => ∃ xs, asL μ x = some xs ∧ k (.lst (cutD xs lo hi)) μ
theorem okSlL : OkSl K (rSlL K) oSlL := fun x a lo hi μ G H k Q w rx ⟨xs, e, q⟩ t => by
  obtain ⟨p, vs, rfl, h, r⟩ := asL_out w rx e
  exact ⟨p, vs, rfl, SqL.of h, fun l hl => mkLst w (cut_rep r lo hi) q t l hl⟩
@[simp] def oSlT : D → Option Int → Option Int → Mu → DK → Prop := fun x lo hi μ k => match x with | .tup xs => k (.tup (cutD xs lo hi)) μ | _ => False
theorem okSlT : OkSl K (rSlA K) oSlT := fun x a lo hi μ G H k Q w rx q t => by
  cases rx with
  | @tup p0 vs0 ds0 h r =>
    have q : k (.tup (cutD ds0 lo hi)) μ := q
    refine ⟨_, _, rfl, w.ex.t h, fun z => ?_, fun z p hp => mkTup w (cut_rep r lo hi) q t p hp⟩
    have e : cutD ds0 lo hi = ds0 := by
      unfold cutD
      rw [← r.length, z.1, z.2, List.drop_zero, Nat.sub_zero, r.length, List.take_length]
    rw [e] at q
    exact t _ _ μ G H q w (Go.refl _ _ _) (.tup h r)
  | _ => exact q.elim
end
end DL


set_option Elab.async false
set_option linter.all false
set_option maxRecDepth 100000
set_option maxHeartbeats 4000000
/-! DLc: what is walked, comprehensions, statements over data. -/
namespace DL
open PySem PySem.Spec PyProof.Rows L2 SlX

/-- what is walked: n turns, at turn i the data at_ i, as long as ok stands -/
structure DIt where
  n : Nat
  at_ : Nat → Option D
  ok : Mu → Prop
abbrev RI := Sl → Mu → (DIt → Mu → Prop) → Prop
section
variable (K : PySem.W.Frag)
def ItOk (G : Hp) (J : It) (it : DIt) : Prop := ∀ (i : Nat) (μ : Mu) (G1 H1 : Hp), Ex G G1 → Wd K G1 H1 μ → it.ok μ →
  (it.n = i → J.stop i H1) ∧ (i < it.n → J.go i H1 ∧ ∀ x H2, J.yld i H1 x H2 → ∃ d G2, it.at_ i = some d ∧ Wd K G2 H2 μ ∧ Go μ G1 H1 μ G2 H2 ∧ Rep K G2 x d)
def OkI (wi : TI) (ri : RI) : Prop := ∀ (σ : L2.St) (δ : Sl) (μ : Mu) (G H : Hp) (k : DIt → Mu → Prop) (R : It → Hp → Prop), SlOk K G σ δ → Wd K G H μ → ri δ μ k →
  (∀ J it μ' G' H', k it μ' → Wd K G' H' μ' → Go μ G H μ' G' H' → ItOk K G' J it → R J H') → wi σ H R
end
structure DI (X : Cx) (tg e : Expr) (wi : TI) (ri : RI) : Prop where
  p : PI X tg e wi
  o : OkI X.K wi ri
section
variable {K : PySem.W.Frag}
/-- a sequence's walk -/
def itL (ds : List D) : DIt := ⟨ds.length, fun i => ds[i]?, fun _ => True⟩
def itO (p : Addr) (ds : List D) : DIt := ⟨ds.length, fun i => ds[i]?, fun μ => μ p = some (.l ds)⟩
@[simp] def itOf (μ : Mu) : D → Option DIt
  | .lst ds => some (itL ds)
  | .own p => (lsAt μ p).map (itO p)
  | _ => none
theorem itOk_list {G H : Hp} {μ : Mu} {v : V} {d : D} {it : DIt} (w : Wd K G H μ) (r : Rep K G v d) (e : itOf μ d = some it) : ∃ a, v = .ref a ∧ (∃ xs, SqL K H a xs) ∧ ItOk K G (Itl K a) it := by
  cases r with
  | @lst a vs ds h q =>
    cases e
    refine ⟨a, rfl, ⟨vs, SqL.of (w.ex _ _ h)⟩, fun i μ1 G1 H1 e1 w1 _ => ⟨fun hi => ⟨vs, SqL.of (w1.ex _ _ (e1 _ _ h)), by rw [q.length]; exact Nat.le_of_eq hi⟩, fun hi => ?_⟩⟩
    have hv : i < vs.length := by rw [q.length]; exact hi
    have hs : SqL K H1 a vs := SqL.of (w1.ex _ _ (e1 _ _ h))
    refine ⟨⟨vs, vs[i], hs, List.getElem?_eq_getElem hv⟩, fun x H2 ⟨hH, hx⟩ => ?_⟩
    subst hH
    obtain ⟨d, h1, h2⟩ := q.get (hx vs hs)
    exact ⟨d, G1, h1, w1, Go.refl _ _ _, h2.mono e1⟩
  | own p =>
    unfold itOf at e
    rw [Option.map_eq_some_iff] at e
    obtain ⟨ds, q, e⟩ := e
    · cases e
      obtain ⟨_, vs, h, _⟩ := w.muL p ds (lsAt_iff.mp q)
      refine ⟨p, rfl, ⟨vs, SqL.of h⟩, fun i μ1 G1 H1 e1 w1 ok => ?_⟩
      obtain ⟨_, vs1, h1, r1⟩ := w1.muL p ds ok
      have hs : SqL K H1 p vs1 := SqL.of h1
      refine ⟨fun hi => ⟨vs1, hs, by rw [r1.length]; exact Nat.le_of_eq hi⟩, fun hi => ?_⟩
      have hv : i < vs1.length := by rw [r1.length]; exact hi
      refine ⟨⟨vs1, vs1[i], hs, List.getElem?_eq_getElem hv⟩, fun x H2 ⟨hH, hx⟩ => ?_⟩
      subst hH
      obtain ⟨d, h2, h3⟩ := r1.get (hx vs1 hs)
      exact ⟨d, G1, h2, w1, Go.refl _ _ _, h3⟩
  | _ => cases e
@[simp] def rIL (ra : RE) : RI := fun δ μ k => ra δ μ fun d μ1 => ∃ it, itOf μ1 d = some it ∧ k it μ1
theorem okI_list {tl : TE} {ra : RE} (h : OkE K tl ra) : OkI K (iList K tl) (rIL ra) := fun σ δ μ G H k R S w q b =>
  h σ δ μ G H _ _ S w q fun v d μ1 G1 H1 ⟨it, e, q1⟩ w1 g1 r1 => by
    obtain ⟨a, rfl, hx, ok⟩ := itOk_list w1 r1 e
    exact ⟨a, rfl, hx, b _ it μ1 G1 H1 q1 w1 g1 ok⟩
theorem itOk_tup {G : Hp} {a : Addr} {vs : List V} {ds : List D} (h : SqT K G a vs) (q : RepL K G vs ds) : ItOk K G (Itt K a) (itL ds) := fun i μ1 G1 H1 e1 w1 _ => by
  have hs : SqT K H1 a vs := w1.ex.t (e1.t h)
  refine ⟨fun hi => ⟨vs, hs, by rw [q.length]; exact Nat.le_of_eq hi⟩, fun hi => ?_⟩
  have hv : i < vs.length := by rw [q.length]; exact hi
  refine ⟨⟨vs, vs[i], hs, List.getElem?_eq_getElem hv⟩, fun x H2 ⟨hH, hx⟩ => ?_⟩
  subst hH
  obtain ⟨d, h1, h2⟩ := q.get (hx vs hs)
  exact ⟨d, G1, h1, w1, Go.refl _ _ _, h2.mono e1⟩
@[simp] def rIT (ra : RE) : RI := fun δ μ k => ra δ μ fun d μ1 => match d with | .tup ds => k (itL ds) μ1 | _ => False
theorem okI_tup {tl : TE} {ra : RE} (h : OkE K tl ra) : OkI K (iTup K tl) (rIT ra) := fun σ δ μ G H k R S w q b =>
  h σ δ μ G H _ _ S w q fun v d μ1 G1 H1 q1 w1 g1 r1 => by
    cases r1 with
    | tup hs rr => exact ⟨_, rfl, ⟨_, w1.ex.t hs⟩, b _ _ μ1 G1 H1 q1 w1 g1 (itOk_tup hs rr)⟩
    | _ => exact q1.elim
/-- range -/
def itR (lo : Int) (n : Nat) : DIt := ⟨n, fun i => some (.int (lo + i)), fun _ => True⟩
theorem itOk_range {G : Hp} {lo : Int} {n : Nat} : ItOk K G (Itr lo n) (itR lo n) := fun i μ1 G1 H1 e1 w1 _ =>
  ⟨fun hi => Nat.le_of_eq hi, fun hi => ⟨hi, fun x H2 ⟨hH, hx⟩ => by subst hH; subst hx; exact ⟨_, G1, rfl, w1, Go.refl _ _ _, .int _⟩⟩⟩
@[simp] def rIR1 (ra : RA) : RI := fun δ μ k => ra δ μ fun ds μ1 => match ds with | [.int j] => (-1000000 ≤ j ∧ j ≤ 1000000) ∧ k (itR 0 j.toNat) μ1 | _ => False
theorem okI_range1 {ta : TA} {ra : RA} (h : OkA K ta ra) : OkI K (iRng1 ta) (rIR1 ra) := fun σ δ μ G H k R S w q b =>
  h σ δ μ G H _ _ S w q fun vs ds μ1 G1 H1 q1 w1 g1 r1 => by
    split at q1
    · rename_i j
      cases r1 with
      | cons a t =>
        cases a; cases t
        exact ⟨j, rfl, by omega, by omega, b _ _ μ1 G1 H1 q1.2 w1 g1 itOk_range⟩
    · exact q1.elim
@[simp] def rIR2 (ra : RA) : RI := fun δ μ k => ra δ μ fun ds μ1 => match ds with | [.int i, .int j] => (-1000000 ≤ i ∧ i ≤ 1000000 ∧ -1000000 ≤ j ∧ j ≤ 1000000) ∧ k (itR i (j - i).toNat) μ1 | _ => False
theorem okI_range2 {ta : TA} {ra : RA} (h : OkA K ta ra) : OkI K (iRng2 ta) (rIR2 ra) := fun σ δ μ G H k R S w q b =>
  h σ δ μ G H _ _ S w q fun vs ds μ1 G1 H1 q1 w1 g1 r1 => by
    split at q1
    · rename_i i j
      cases r1 with
      | cons a t =>
        cases a
        cases t with
        | cons a t =>
          cases a; cases t
          exact ⟨i, j, rfl, ⟨by omega, by omega, by omega, by omega⟩, b _ _ μ1 G1 H1 q1.2 w1 g1 itOk_range⟩
    · exact q1.elim
def rIR3 (ra : RA) : RI := fun δ μ k => ra δ μ fun ds μ1 => match ds with | [.int i, .int j, .int c] => ∃ n, RgC i j c n ∧ k ⟨n, fun t => some (.int (i + (t : Nat) * c)), fun _ => True⟩ μ1 | _ => False
theorem okI_range3 {ta : TA} {ra : RA} (h : OkA K ta ra) : OkI K (iRng3 ta) (rIR3 ra) := fun σ δ μ G H k R S w q b =>
  h σ δ μ G H _ _ S w q fun vs ds μ1 G1 H1 q1 w1 g1 r1 => by
    split at q1
    · rename_i i j c
      cases r1 with
      | cons a t =>
        cases a
        cases t with
        | cons a t =>
          cases a
          cases t with
          | cons a t =>
            cases a; cases t
            obtain ⟨n, hn, q2⟩ := q1
            exact ⟨i, j, c, n, rfl, hn, b _ _ μ1 G1 H1 q2 w1 g1 fun i2 μ2 G2 H2 e1 w2 _ =>
              ⟨fun hi => Nat.le_of_eq hi, fun hi => ⟨hi, fun x H3 ⟨hH, hx⟩ => by subst hH; subst hx; exact ⟨_, G2, rfl, w2, Go.refl _ _ _, .int _⟩⟩⟩⟩
    · exact q1.elim
theorem OkI.or {wi wj : TI} {ri rj : RI} (h : OkI K wi ri) (h' : OkI K wj rj) : OkI K (fun σ H R => wi σ H R ∨ wj σ H R) (fun δ μ k => ri δ μ k ∨ rj δ μ k) := fun σ δ μ G H k R S w q b => by
  rcases q with q | q
  · exact .inl (h σ δ μ G H k R S w q b)
  · exact .inr (h' σ δ μ G H k R S w q b)
end
theorem pi_or {X : Cx} {tg e : Expr} {wi wj : TI} (h : PI X tg e wi) (h' : PI X tg e wj) : PI X tg e (fun σ H R => wi σ H R ∨ wj σ H R) := ⟨fun pins s σ H R I q => by
  rcases q with q | q
  · exact h.run pins s σ H R I q
  · exact h'.run pins s σ H R I q⟩

/-! ### zip of lists and tuples in any mix -/
section
variable {K : PySem.W.Frag}
/-- true: a list; false: a tuple -/
def SqA (c : Bool) (K : PySem.W.Frag) (H : Hp) (a : Addr) (xs : List V) : Prop := if c = true then SqL K H a xs else SqT K H a xs
def IterA (c : Bool) (h : Heap) (it a : Addr) (i : Nat) : Prop := if c = true then h.IsListIter it a i else h.IsTupleIter it a i
def IsA (c : Bool) (h : Heap) (a : Addr) (its : Array Value) : Prop := if c = true then h.IsList a its else h.IsTuple a its
def objA (c : Bool) (a : Addr) : Obj := if c = true then { cls := .type "list_iterator", data := .fields #[.ref a, .int 0 0] } else { cls := .type "tuple_iterator", data := .fields #[.ref a, .int 0 0] }
theorem inv_sqA {X : Cx} {pins : List (Addr × Obj)} {σ : L2.St} {H : Hp} {s : Shared} {c : Bool} {a : Addr} {xs : List V} (I : Inv X pins σ H s) (h : SqA c X.K H a xs) : ∃ its : List Value, Vals xs its ∧ IsA c s.heap a its.toArray := by
  cases c with
  | true => obtain ⟨its, r, p, _⟩ := I.list h; exact ⟨its, r, p.isList⟩
  | false => obtain ⟨its, r, p, _⟩ := I.tuple h; exact ⟨its, r, p⟩
theorem inv_injA {X : Cx} {pins : List (Addr × Obj)} {σ : L2.St} {H : Hp} {s : Shared} {c : Bool} {a : Addr} {xs ys : List V} (I : Inv X pins σ H s) (h : SqA c X.K H a xs) (h' : SqA c X.K H a ys) : xs = ys := by
  cases c with
  | true => exact I.list_inj h h'
  | false => exact I.tuple_inj h h'
theorem isA_lt {c : Bool} {h : Heap} {a : Addr} {its : Array Value} (p : IsA c h a its) : a < h.objs.size := by
  cases c with
  | true => obtain ⟨o, e, _⟩ := p; exact Heap.lt_size e
  | false => obtain ⟨o, e, _⟩ := p; exact Heap.lt_size e
theorem iterA_at {c : Bool} {h h' : Heap} {it a : Addr} {i : Nat} (x : IterA c h it a i) (k : ∀ o, h.get? it = some o → h'.get? it = some o) : IterA c h' it a i := by
  cases c with
  | true => exact Heap.IsListIter.at x k
  | false => exact Heap.IsTupleIter.at x k
theorem iterA_obj {c : Bool} {h : Heap} {it a : Addr} {i : Nat} (x : IterA c h it a i) : ∃ o, h.get? it = some o ∧ ∀ v, o.data ≠ .cell v := by
  cases c with
  | true => obtain ⟨o, e, _, d⟩ := x; exact ⟨o, e, fun v q => by rw [d] at q; cases q⟩
  | false => obtain ⟨o, e, _, d⟩ := x; exact ⟨o, e, fun v q => by rw [d] at q; cases q⟩
theorem drawsA {prog : Program} {w : World} {A : Around} (hh : A.handled = none) (c : Bool) (it a : Addr) (hne : a ≠ it) (its : Array Value) :
    Draws prog w A it [it, a] its.size (fun i v => its[i]? = some v) (fun i h => IterA c h it a i ∧ IsA c h a its) := by
  cases c with
  | true => exact Draws.list hh it a hne its
  | false => exact Draws.tuple hh it a hne its
theorem beginsA (c : Bool) (a : Addr) (its : Array Value) : Begins (.ref a) (objA c a) (fun h => IsA c h a its) := by
  cases c with
  | true => exact begins_list a its
  | false => exact begins_tuple a its
theorem iterA_0 {c : Bool} {h : Heap} {it a : Addr} (e : h.get? it = some (objA c a)) : IterA c h it a 0 := by
  cases c with
  | true => exact ⟨_, e, rfl, rfl⟩
  | false => exact ⟨_, e, rfl, rfl⟩
/-- what zip over the sequences at a and b walks -/
def ItzM (c1 c2 : Bool) (K : PySem.W.Frag) (a b : Addr) : It where
  go := fun i H => ∃ xs ys x y, SqA c1 K H a xs ∧ SqA c2 K H b ys ∧ xs[i]? = some x ∧ ys[i]? = some y
  yld := fun i H v H' => ∃ T x y, v = V.ref T ∧ H T = none ∧ H' = upd H T (.tup [x, y]) ∧
    (∀ xs, SqA c1 K H a xs → xs[i]? = some x) ∧ (∀ ys, SqA c2 K H b ys → ys[i]? = some y)
  stop := fun i H => ∃ xs ys, SqA c1 K H a xs ∧ SqA c2 K H b ys ∧ i = min xs.length ys.length
theorem mem5 {c z TI TO i1 i2 : Addr} (h : c ∈ [z, TI, TO, i1, i2]) : c = z ∨ c = TI ∨ c = TO ∨ c = i1 ∨ c = i2 := by simpa using h
theorem turn_zipM {P : Program} {w : World} {elts : List Expr} {kk : Nat} {tpos : Pos} {c1 c2 : Bool} {a b z TI TO i1 i2 : Addr} (S : ZipSep2 z TI TO i1 i2 [i1, a] [i2, b]) (ha : a ≠ i1) (hb : b ≠ i2) :
    Turn P w K (.Tuple elts kk tpos) (ItzM c1 c2 K a b) [z, TI, TO, i1, i2] z
      (fun i h => IsZip h z TI TO .none ∧ IsTupOf2 h TI (.ref i1) (.ref i2) ∧ (∃ x y, IsTupOf2 h TO x y) ∧ IterA c1 h i1 a i ∧ IterA c2 h i2 b i) where
  mem := by simp
  obj := fun i h ⟨hz, hTI, ⟨x, y, hTO⟩, h1, h2⟩ c hc => by
    rcases mem5 hc with q | q | q | q | q
    · subst q; exact ⟨_, hz, fun v e => nomatch e⟩
    · subst q; exact ⟨_, hTI, fun v e => nomatch e⟩
    · subst q; exact ⟨_, hTO, fun v e => nomatch e⟩
    · subst q; exact iterA_obj h1
    · subst q; exact iterA_obj h2
  keep := fun i h h' ⟨hz, hTI, ⟨x, y, hTO⟩, h1, h2⟩ k =>
    ⟨k z (by simp) _ hz, k TI (by simp) _ hTI, ⟨x, y, k TO (by simp) _ hTO⟩, iterA_at h1 (k i1 (by simp)), iterA_at h2 (k i2 (by simp))⟩
  item := by
    intro X hP hw hK hc i pins s σ H E I hf ⟨hz, hTI, hTO, h1, h2⟩ hg
    subst hP hw hK
    obtain ⟨xs, ys, x, y, sx, sy, ex, ey⟩ := hg
    obtain ⟨its, rv, p1⟩ := inv_sqA I sx
    obtain ⟨jts, rw, p2⟩ := inv_sqA I sy
    obtain ⟨u, hu, ru⟩ := rv.get ex
    obtain ⟨u', hu', ru'⟩ := rw.get ey
    have hh : X.A.in1.handled = none := I.ok.hd hc
    have W := WalksT.zipD2 (prog := X.prog) (w := X.w) (A := X.A) S (drawsA hh c1 i1 a ha its.toArray) (drawsA hh c2 i2 b hb jts.toArray)
    have l1 : i < its.length := (List.getElem?_eq_some_iff.mp hu).1
    have l2 : i < jts.length := (List.getElem?_eq_some_iff.mp hu').1
    refine W.item i s _ _ (by simp; omega) ⟨hz, hTI, hTO, ⟨h1, p1⟩, ⟨h2, p2⟩⟩ fun T vals h' tk hv hT hIs mid hk => ?_
    obtain ⟨x1, x2, e1, e2, rfl⟩ := hv
    have e1 : x1 = u := by have e1 : its.toArray[i]? = some x1 := e1; rw [List.getElem?_toArray, hu] at e1; exact (Option.some.inj e1).symm
    have e2 : x2 = u' := by have e2 : jts.toArray[i]? = some x2 := e2; rw [List.getElem?_toArray, hu'] at e2; exact (Option.some.inj e2).symm
    subst e1 e2
    have apart := W.apart i T h' mid
    refine ⟨_, rfl, W.go elts kk tpos i T { s with heap := h', toks := tk } _ _ mid fun h'' st hk2 => ?_⟩
    obtain ⟨hz', hTI', hTO', ⟨h1', _⟩, ⟨h2', _⟩⟩ := st
    have hTn : H T = none := I.hok.fresh hT
    have tneq : ∀ c, c ∈ [z, TI, TO, i1, i2] → c < T := fun c hm => by
      have q : c < s.heap.objs.size := by
        rcases mem5 hm with q | q | q | q | q
        · subst q; exact Heap.lt_size hz
        · subst q; exact Heap.lt_size hTI
        · subst q; obtain ⟨_, _, e⟩ := hTO; exact Heap.lt_size e
        · subst q; obtain ⟨_, e, _⟩ := iterA_obj h1; exact Heap.lt_size e
        · subst q; obtain ⟨_, e, _⟩ := iterA_obj h2; exact Heap.lt_size e
      exact Nat.lt_of_lt_of_le q hT
    obtain ⟨oT, eT, cT, nT, dT⟩ := id hIs
    have new : ObjOk X.prog X.w (upd H T (.tup [x, y])) h'' T (.tup [x, y]) :=
      ⟨by show 2 ≤ sizeLine; decide, [x1, x2], .cons ru (.cons ru' .nil), ⟨oT, hk2 T oT apart eT, cT, nT, dT⟩⟩
    refine ⟨.ref T, _, I.turnedNew (t' := tk) (ch := [z, TI, TO, i1, i2]) (fun c o hb q => ?_) hf hT new, rfl, ⟨T, x, y, rfl, hTn, rfl, fun l hl => by rw [inv_injA I hl sx]; exact ex, fun l hl => by rw [inv_injA I hl sy]; exact ey⟩,
      ⟨hz', hTI', hTO', h1', h2'⟩, fun c hm => ?_⟩
    · have hb' : c ∉ [z, TO, i1, i2] := fun q' => hb (by
        have : c = z ∨ c = TO ∨ c = i1 ∨ c = i2 := by simpa using q'
        rcases this with r | r | r | r <;> simp [r])
      exact hk2 c o hb' (hk c o hb' q)
    · rw [upd_ne (Nat.ne_of_lt (tneq c hm))]
      exact (hf c hm).1
  done := by
    intro X hP hw hK hc i pins s σ H E I hf ⟨hz, hTI, hTO, h1, h2⟩ hg
    subst hP hw hK
    obtain ⟨xs, ys, sx, sy, hend⟩ := hg
    obtain ⟨its, rv, p1⟩ := inv_sqA I sx
    obtain ⟨jts, rw, p2⟩ := inv_sqA I sy
    have hh : X.A.in1.handled = none := I.ok.hd hc
    have l1 := rv.length
    have l2 := rw.length
    have W := WalksT.zipD2 (prog := X.prog) (w := X.w) (A := X.A) S (drawsA hh c1 i1 a ha its.toArray) (drawsA hh c2 i2 b hb jts.toArray)
    have ei : i = min its.toArray.size jts.toArray.size := by rw [hend, l1, l2]; simp
    rw [ei] at h1 h2
    refine W.done s _ _ ⟨hz, hTI, hTO, ⟨h1, p1⟩, ⟨h2, p2⟩⟩ fun h' tk hk => ⟨rfl, I.turnedL (t' := tk) (ch := [z, TI, TO, i1, i2]) (fun c o hb q => hk c o (fun q' => hb ?_) q) hf⟩
    have : c = z ∨ c = TO ∨ c = i1 ∨ c = i2 := by simpa using q'
    rcases this with r | r | r | r <;> simp [r]
  self := fun A i s Q E st h => wpAny_pyIter_zip st.1 h
end
end DL


set_option Elab.async false
set_option linter.all false
set_option maxRecDepth 100000
set_option maxHeartbeats 4000000
/-! DLd: zip's rule, targets, comprehensions, statements, loops over data. -/
namespace DL
open PySem PySem.Spec PyProof.Rows L2 SlX

section
variable {K : PySem.W.Frag}
def kindA : D → Bool
  | .tup _ => false
  | _ => true
theorem asQ_outA {μ : Mu} {G H : Hp} {v : V} {d : D} {ds : List D} (w : Wd K G H μ) (r : Rep K G v d) (e : asQ μ d = some ds) : ∃ a vs, v = .ref a ∧ SqA (kindA d) K H a vs ∧ RepL K G vs ds := by
  cases r with
  | lst h q => cases e; exact ⟨_, _, rfl, SqL.of (w.ex _ _ h), q⟩
  | own p =>
    obtain ⟨_, vs, h, q⟩ := w.muL p ds (lsAt_iff.mp e)
    exact ⟨_, vs, rfl, SqL.of h, q⟩
  | tup h q => cases e; exact ⟨_, _, rfl, w.ex.t h, q⟩
  | _ => cases e
def iZipM (K : PySem.W.Frag) (ta : TA) : TI := fun σ H R => ta σ H fun vs H1 => ∃ (c1 c2 : Bool) (a b : Addr) (xs ys : List V), vs = [V.ref a, V.ref b] ∧ SqA c1 K H1 a xs ∧ SqA c2 K H1 b ys ∧ R (ItzM c1 c2 K a b) H1
theorem pi_zipM {X : Cx} {e e2 : Expr} {ta : TA} {p pos tpos : Pos} {elts : List Expr} {kk : Nat} (hg : Gl X "zip") (hm : X.mg "zip" = none) (ha : PA X [e, e2] ta)
    (hs : starEach [e, e2] X.env = (false, eval e X.env) :: starEach [e2] X.env := by rfl) (hpl : (backTo pos (starEach [e2] X.env)).any (·.1) = false := by rfl) :
    PI X (.Tuple elts kk tpos) (.Call (.Name "zip" p) [e, e2] [] pos) (iZipM X.K ta) := ⟨fun pins s σ H R I h => by
  refine Call_ (ld_blt I hg hm PyProof.Rows.boot_zip (PyProof.Rows.callWith_type1 (thn (ha.run pos pins s σ H _ I h) fun us s1 ⟨vs, H1, I1, r1, q1⟩ => ?_) hs hpl))
  obtain ⟨c1, c2, a, b, xs, ys, rfl, sx, sy, q⟩ := q1
  obtain ⟨u1, u2, rfl, e1, e2⟩ := vals2 r1
  cases e1
  cases e2
  obtain ⟨its, rv, p1⟩ := inv_sqA I1 sx
  obtain ⟨jts, rw, p2⟩ := inv_sqA I1 sy
  have la := isA_lt p1
  have lb := isA_lt p2
  refine zip_begins2 (beginsA c1 a its.toArray) (beginsA c2 b jts.toArray) p1 p2 fun h' hz hTI hTO g1 g2 hsz hk => wpAny_pyIter_zip hz ?_
  have I2 : Inv X pins σ H1 { s1 with heap := h' } := I1.kept (t' := s1.toks) hk
  have sep := zip_sep2 (N := s1.heap.objs.size) (fp1 := [a]) (fp2 := [b]) (fun c hc => by rw [List.mem_singleton.mp hc]; exact la) (fun c hc => by rw [List.mem_singleton.mp hc]; exact lb)
  have na : a ≠ s1.heap.objs.size := Nat.ne_of_lt la
  have nb : b ≠ s1.heap.objs.size + 1 := Nat.ne_of_lt (Nat.lt_succ_of_lt lb)
  refine ⟨s1.heap.objs.size + 4, [s1.heap.objs.size + 4, s1.heap.objs.size + 2, s1.heap.objs.size + 3, s1.heap.objs.size, s1.heap.objs.size + 1], _, _, H1, rfl, I2, turn_zipM (c1 := c1) (c2 := c2) sep na nb,
    ⟨hz, hTI, ⟨_, _, hTO⟩, iterA_0 g1, iterA_0 g2⟩, fun c hc => ?_, q⟩
  have hle : s1.heap.objs.size ≤ c := by
    rcases mem5 hc with r | r | r | r | r
    · rw [r]; exact Nat.le_add_right _ _
    · rw [r]; exact Nat.le_add_right _ _
    · rw [r]; exact Nat.le_add_right _ _
    · rw [r]; exact Nat.le_refl _
    · rw [r]; exact Nat.le_add_right _ _
  exact I1.fpOk hle (I1.hok.fresh hle)⟩
@[simp] def pairD : Option D → Option D → Option D
  | some x, some y => some (.tup [x, y])
  | _, _ => none
def itZ (x y : D) (xs ys : List D) : DIt := ⟨min xs.length ys.length, fun i => pairD xs[i]? ys[i]?, fun μ => asQ μ x = some xs ∧ asQ μ y = some ys⟩
@[simp] def rIZ (ra : RA) : RI := fun δ μ k => ra δ μ fun ds μ1 => match ds with | [x, y] => ∃ xs ys, asQ μ1 x = some xs ∧ asQ μ1 y = some ys ∧ k (itZ x y xs ys) μ1 | _ => False
theorem itOk_zip {G : Hp} {va vb : Addr} {x y : D} {xs ys : List D} (r1 : Rep K G (.ref va) x) (r2 : Rep K G (.ref vb) y) : ItOk K G (ItzM (kindA x) (kindA y) K va vb) (itZ x y xs ys) := fun i μ G1 H1 e w ⟨o1, o2⟩ => by
  obtain ⟨a, vs, ea, sa, ra⟩ := asQ_outA w (r1.mono e) o1
  obtain ⟨b, ws, eb, sb, rb⟩ := asQ_outA w (r2.mono e) o2
  cases ea; cases eb
  refine ⟨fun hi => ⟨vs, ws, sa, sb, by rw [ra.length, rb.length]; exact hi.symm⟩, fun hi => ?_⟩
  have hi : i < min xs.length ys.length := hi
  have l1 : i < vs.length := by rw [ra.length]; omega
  have l2 : i < ws.length := by rw [rb.length]; omega
  refine ⟨⟨vs, ws, vs[i], ws[i], sa, sb, List.getElem?_eq_getElem l1, List.getElem?_eq_getElem l2⟩, fun v H2 ⟨T, u, u', hv, hT, hH, h1, h2⟩ => ?_⟩
  subst hv hH
  obtain ⟨d1, g1, q1⟩ := ra.get (h1 vs sa)
  obtain ⟨d2, g2, q2⟩ := rb.get (h2 ws sb)
  refine ⟨.tup [d1, d2], upd G1 T (.tup [u, u']), ?_, w.new hT, Go.new w hT, .tup (SqT.of upd_same) (.cons (q1.mono (Ex.new (w.gnone hT))) (.cons (q2.mono (Ex.new (w.gnone hT))) .nil))⟩
  show pairD xs[i]? ys[i]? = _
  rw [g1, g2]
  rfl
theorem okI_zip {ta : TA} {ra : RA} (h : OkA K ta ra) : OkI K (iZipM K ta) (rIZ ra) := fun σ δ μ G H k R S w q b =>
  h σ δ μ G H _ _ S w q fun vs ds μ1 G1 H1 q1 w1 g1 r1 => by
    split at q1
    · rename_i x y
      obtain ⟨xs, ys, e1, e2, q2⟩ := q1
      cases r1 with
      | cons a t =>
        cases t with
        | cons a' t =>
          cases t
          obtain ⟨p, vs1, rfl, s1, _⟩ := asQ_outA w1 a e1
          obtain ⟨p', vs2, rfl, s2, _⟩ := asQ_outA w1 a' e2
          exact ⟨_, _, p, p', vs1, vs2, rfl, s1, s2, b _ _ μ1 G1 H1 q2 w1 g1 (itOk_zip a a')⟩
    · exact q1.elim

/-! ### targets -/
@[simp] def rgName (i : Nat) : RG := fun d δ μ k => k (δ.set i (some d)) μ
theorem okG_name (i : Nat) : OkG K (gName i) (rgName i) [i] := fun v d σ δ μ G H k Q S w r q b =>
  b _ _ μ G H q (S.set r i) w (Go.refl _ _ _) ⟨List.length_set, fun j hj => List.getElem?_set_ne (fun e => hj (by simp [e]))⟩
abbrev RGs := List D → Sl → Mu → (Sl → Mu → Prop) → Prop
def OkGs (K : PySem.W.Frag) (g : TGs) (r : RGs) (js : List Nat) : Prop := ∀ (vs : List V) (ds : List D) (σ : L2.St) (δ : Sl) (μ : Mu) (G H : Hp) (k : Sl → Mu → Prop) (Q : L2.St → Hp → Prop), SlOk K G σ δ → Wd K G H μ → RepL K G vs ds → r ds δ μ k →
  (∀ σ' δ' μ' G' H', k δ' μ' → SlOk K G' σ' δ' → Wd K G' H' μ' → Go μ G H μ' G' H' → (σ'.length = σ.length ∧ ∀ i, i ∉ js → σ'[i]? = σ[i]?) → Q σ' H') → g vs σ H Q
@[simp] def rgNil : RGs := fun ds δ μ k => match ds with | [] => k δ μ | _ => False
@[simp] def rgCons (r : RG) (rr : RGs) : RGs := fun ds δ μ k => match ds with | d :: ds => r d δ μ fun δ1 μ1 => rr ds δ1 μ1 k | [] => False
theorem okGs_nil : OkGs K gNil rgNil [] := fun vs ds σ δ μ G H k Q S w r q b => by
  cases r with
  | nil => exact ⟨rfl, b σ δ μ G H q S w (Go.refl _ _ _) ⟨rfl, fun _ _ => rfl⟩⟩
  | cons _ _ => exact q.elim
theorem okGs_cons {g : TG} {gs : TGs} {r : RG} {rr : RGs} {js is : List Nat} (h : OkG K g r js) (hs : OkGs K gs rr is) : OkGs K (gCons g gs) (rgCons r rr) (js ++ is) := fun vs ds σ δ μ G H k Q S w rl q b => by
  cases rl with
  | nil => exact q.elim
  | cons r1 r2 =>
    refine ⟨_, _, rfl, h _ _ σ δ μ G H _ _ S w r1 q fun σ1 δ1 μ1 G1 H1 q1 S1 w1 g1 l1 => hs _ _ σ1 δ1 μ1 G1 H1 k Q S1 w1 (r2.mono g1.eg) q1 fun σ2 δ2 μ2 G2 H2 q2 S2 w2 g2 l2 => b σ2 δ2 μ2 G2 H2 q2 S2 w2 (g1.trans g2) ⟨l2.1.trans l1.1, fun i hi => ?_⟩⟩
    rw [l2.2 i (fun z => hi (List.mem_append_right _ z)), l1.2 i (fun z => hi (List.mem_append_left _ z))]
@[simp] def rgTup (n : Nat) (r : RGs) : RG := fun d δ μ k => match d with | .tup ds => ds.length = n ∧ r ds δ μ k | _ => False
theorem okG_tup {n : Nat} {gs : TGs} {r : RGs} {js : List Nat} (h : OkGs K gs r js) : OkG K (gTup K n gs) (rgTup n r) js := fun v d σ δ μ G H k Q S w rp q b => by
  cases rp with
  | tup hs rl => exact ⟨_, _, rfl, w.ex.t hs, rl.length.trans q.1, h _ _ σ δ μ G H k Q S w rl q.2 b⟩
  | _ => exact q.elim
/-- xs[i] = v, xs a list that changes -/
@[simp] def rgSetL (ro ri : RE) : RG := fun d δ μ k => ro δ μ fun o μ1 => ri δ μ1 fun i μ2 => match o, i with
  | .own p, .int i => ∃ ds j, μ2 p = some (.l ds) ∧ ixN ds.length i = some j ∧ k δ (muSet μ2 p (ds.set j d))
  | _, _ => False
theorem okG_setL {to ti : TE} {ro ri : RE} (ho : OkE K to ro) (hi : OkE K ti ri) : OkG K (gSub to ti rSetL) (rgSetL ro ri) [] := fun v d σ δ μ G H k Q S w rp q b =>
  ho σ δ μ G H _ _ S w q fun x dx μ1 G1 H1 q1 w1 g1 r1 => hi σ δ μ1 G1 H1 _ _ (S.mono g1.eg) w1 q1 fun y dy μ2 G2 H2 q2 w2 g2 r2 => by
    have r1 := r1.mono g2.eg
    cases r1 with
    | own p =>
      cases r2 with
      | int i =>
        obtain ⟨ds, j, e1, e2, q3⟩ := q2
        obtain ⟨_, vs, h, rl⟩ := w2.muL p ds e1
        have rl2 := RepL.set (rp.mono (g1.eg.trans g2.eg)) j rl
        exact ⟨p, vs, i, j, rfl, rfl, h, by rw [rl.length]; exact e2, b σ δ _ G2 _ q3 (S.mono (g1.eg.trans g2.eg)) (w2.wr e1 rl2) ((g1.trans g2).trans (Go.wr e1)) ⟨rfl, fun _ _ => rfl⟩⟩
      | _ => exact q2.elim
    | _ => exact q2.elim

/-! ### comprehensions -/
@[simp] def wipeD (δ : Sl) : List Nat → Sl
  | [] => δ
  | v :: vs => (wipeD δ vs).set v none
theorem SlOk.wipe {G : Hp} {σ : L2.St} {δ : Sl} (h : SlOk K G σ δ) : ∀ vs : List Nat, SlOk K G (L2.wipe σ vs) (wipeD δ vs)
  | [] => h
  | v :: vs => (SlOk.wipe h vs).unset v none
theorem wipe_of {σ σ' : L2.St} {vs : List Nat} (hl : σ'.length = σ.length) (h : ∀ i, i ∉ vs → σ'[i]? = σ[i]?) : L2.wipe σ' vs = L2.wipe σ vs := by
  apply List.ext_getElem?
  intro i
  by_cases hi : i ∈ vs
  · have both : ∀ τ : L2.St, (L2.wipe τ vs)[i]? = if i < τ.length then some none else none := fun τ => by
      by_cases hl : i < τ.length
      · rw [if_pos hl]
        have hw : i < (L2.wipe τ vs).length := by rw [wipe_length]; exact hl
        cases e : (L2.wipe τ vs)[i]? with
        | none => rw [List.getElem?_eq_none_iff] at e; omega
        | some o =>
          cases o with
          | none => rfl
          | some x => exact absurd hi (wipe_some e).2
      · rw [if_neg hl, List.getElem?_eq_none_iff.mpr (by rw [wipe_length]; omega)]
    rw [both, both, hl]
  · rw [wipe_out hi, wipe_out hi]
    exact h i hi
theorem wipe_wipe (σ : L2.St) (vs : List Nat) : L2.wipe (L2.wipe σ vs) vs = L2.wipe σ vs := wipe_of (wipe_length σ vs) fun i hi => wipe_out hi
@[simp] def rYes : RT := fun _ μ k => k true μ
theorem okT_yes : OkT K tYes rYes := fun σ δ μ G H k Q S w q b => b true μ G H q w (Go.refl _ _ _)
set_option checkBinderAnnotations false in
def rLcW (it : DIt) (rg : RG) (rt : RT) (re : RE) (vs : List Nat) (δ : Sl) (μ1 : Mu) [fin : List D → Mu → Prop] : Prop :=
  it.n ≤ 1000000 ∧ ∃ Inv : Nat → List D → Mu → Prop, Inv 0 [] μ1 ∧ (∀ i acc μ, Inv i acc μ → it.ok μ) ∧
    (∀ i acc μ d, i < it.n → it.at_ i = some d → Inv i acc μ → rg d (wipeD δ vs) μ fun δ2 μ2 => rt δ2 μ2 fun b μ3 => if b = true then re δ2 μ3 fun y μ4 => Inv (i + 1) (acc ++ [y]) μ4 else Inv (i + 1) acc μ3) ∧
    (∀ acc μ, Inv it.n acc μ → fin acc μ)
@[simp] def rLc (ri : RI) (rg : RG) (rt : RT) (re : RE) (vs : List Nat) : RE := fun δ μ k => ri δ μ fun it μ1 => @rLcW it rg rt re vs δ μ1 fun acc μ' => k (.lst acc) μ'
@[simp] def rLcO (ri : RI) (rg : RG) (rt : RT) (re : RE) (vs : List Nat) : RE := fun δ μ k => ri δ μ fun it μ1 => @rLcW it rg rt re vs δ μ1 fun acc μ' => ∀ p, μ' p = none → k (.own p) (muSet μ' p acc)
theorem lc_run {J : It} {it : DIt} {g : TG} {rg : RG} {tt : TT} {rt : RT} {te : TE} {re : RE} {vs js : List Nat} {fin : List D → Mu → Prop} {σ : L2.St} {δ : Sl} {μ : Mu} {G H : Hp} {Dl : Addr} {Qd : Hp → Prop}
    (hg : OkG K g rg js) (ht : OkT K tt rt) (he : OkE K te re) (hj : js.all (fun i => decide (i ∈ vs)) = true) (S : SlOk K G σ δ) (w : Wd K G H μ) (io : ItOk K G J it) (hD : H Dl = none) (q : @rLcW it rg rt re vs δ μ fin)
    (b : ∀ acc μ' G' H' xs, fin acc μ' → Wd K G' H' μ' → Go μ G H μ' G' (fun a => if a = Dl then none else H' a) → H' Dl = some (.lst xs) → G' Dl = none → μ' Dl = none → RepL K G' xs acc → Qd H') :
    ∃ W : Nat → Nat → Hp → Prop, (∃ m, W 0 m (upd H Dl (.lst []))) ∧ ∀ i m H1, W i m H1 →
      (J.stop i H1 ∧ Qd H1) ∨ (J.go i H1 ∧ ∃ Nx : Hp → Prop, (∀ H', Nx H' → ∃ m', m' < m ∧ W (i + 1) m' H') ∧ ∀ x H', J.yld i H1 x H' → g x (L2.wipe σ vs) H' fun σ2 H2 => L2.wipe σ2 vs = L2.wipe σ vs ∧ tt σ2 H2 fun b H3 =>
        if b = true then te σ2 H3 fun y H4 => ∃ acc, H4 Dl = some (.lst acc) ∧ acc.length < sizeLine ∧ Nx (upd H4 Dl (.lst (acc ++ [y]))) else Nx H3) := by
  obtain ⟨hn, Inv, i0, iok, istep, iend⟩ := q
  have gD : G Dl = none := w.gnone hD
  have mD : μ Dl = none := w.mnone hD
  have wD : Wd K G (upd H Dl (.lst [])) μ := ⟨fun a o e => by rw [upd_ne (ne_of_none (w.ex _ _ e) hD)]; exact w.ex _ _ e, fun p ds e => by
    obtain ⟨a1, vs', a2, a3⟩ := w.mu p ds e
    exact ⟨a1, vs', by rw [upd_ne (ne_of_none a2 hD)]; exact a2, a3⟩⟩
  -- the state between two turns; Dl stands in the heap, out of G and μ
  refine ⟨fun i m H1 => m = it.n - i ∧ i ≤ it.n ∧ ∃ acc μ1 G1 xs, Inv i acc μ1 ∧ Wd K G1 H1 μ1 ∧ Go μ G (upd H Dl (.lst [])) μ1 G1 (fun a => if a = Dl then some (.lst []) else H1 a) ∧ H1 Dl = some (.lst xs) ∧ G1 Dl = none ∧ μ1 Dl = none ∧ RepL K G1 xs acc ∧ acc.length ≤ i,
    ⟨it.n, rfl, Nat.zero_le _, [], μ, G, [], i0, wD, ?_, upd_same, gD, mD, .nil, Nat.le_refl _⟩, ?_⟩
  · have e : (fun a => if a = Dl then some (HO.lst []) else upd H Dl (.lst []) a) = upd H Dl (.lst []) := by
      funext a
      by_cases h : a = Dl
      · simp only [h, if_true]; rw [upd_same]
      · simp only [h, if_false]
    rw [e]
    exact Go.refl _ _ _
  · rintro i m H1 ⟨hm, hi, acc, μ1, G1, xs, hI, w1, g1, hx, gx, mx, rl, la⟩
    have e1 : Ex G G1 := g1.eg
    obtain ⟨hstop, hgo⟩ := io i μ1 G1 H1 e1 w1 (iok i acc μ1 hI)
    by_cases hin : i = it.n
    · refine .inl ⟨hstop hin.symm, b acc μ1 G1 H1 xs (iend acc μ1 (hin ▸ hI)) w1 ⟨e1, fun a o e hm => ?_, fun a e => ?_, fun a e => ?_⟩ hx gx mx rl⟩
      · have hne : a ≠ Dl := ne_of_none e hD
        have := g1.kp a o (by rw [upd_ne hne]; exact e) hm
        simp only [hne, if_false] at this ⊢
        exact this
      · rcases g1.dm a e with z | z
        · exact .inl z
        · by_cases hne : a = Dl
          · subst hne; exact .inr hD
          · rw [upd_ne hne] at z; exact .inr z
      · rcases g1.gf a e with z | z | z
        · exact .inl z
        · exact .inr (.inl z)
        · by_cases hne : a = Dl
          · subst hne; exact .inr (.inr hD)
          · rw [upd_ne hne] at z; exact .inr (.inr z)
    · have hlt : i < it.n := Nat.lt_of_le_of_ne hi hin
      obtain ⟨hgo, hy⟩ := hgo hlt
      refine .inr ⟨hgo, fun H' => ∃ acc' μ' G' xs', Inv (i + 1) acc' μ' ∧ Wd K G' H' μ' ∧ Go μ G (upd H Dl (.lst [])) μ' G' (fun a => if a = Dl then some (.lst []) else H' a) ∧ H' Dl = some (.lst xs') ∧ G' Dl = none ∧ μ' Dl = none ∧ RepL K G' xs' acc' ∧ acc'.length ≤ i + 1,
        fun H' hN => ⟨it.n - (i + 1), by omega, rfl, hlt, hN⟩, fun x H' hyl => ?_⟩
      obtain ⟨d, G2, ed, w2, g2, rd⟩ := hy x H' hyl
      have S1 : SlOk K G2 (L2.wipe σ vs) (wipeD δ vs) := (S.mono (e1.trans g2.eg)).wipe vs
      -- what stands of Dl through a step
      have keepD : ∀ {μa μb : Mu} {Ga Gb Ha Hb : Hp} {xs : List V}, Go μa Ga Ha μb Gb Hb → Ha Dl = some (.lst xs) → Ga Dl = none → μa Dl = none → Hb Dl = some (.lst xs) ∧ Gb Dl = none ∧ μb Dl = none := fun g h1 h2 h3 => by
        refine ⟨g.kp _ _ h1 h3, ?_, g.none_mu h1 h3⟩
        rename_i μa μb Ga Gb Ha Hb xs
        cases e : Gb Dl with
        | none => rfl
        | some o =>
          rcases g.gf Dl (by rw [e]; simp) with z | z | z
          · exact absurd h2 z
          · exact absurd h3 z
          · rw [h1] at z; cases z
      have hide : ∀ {μa μb : Mu} {Ga Gb Ha Hb : Hp} {xs : List V}, Go μa Ga Ha μb Gb Hb → Ha Dl = some (.lst xs) → Go μa Ga (fun a => if a = Dl then some (.lst []) else Ha a) μb Gb (fun a => if a = Dl then some (.lst []) else Hb a) := fun g h1 => by
        refine ⟨g.eg, fun a o e hm => ?_, fun a e => ?_, fun a e => ?_⟩
        · by_cases hne : a = Dl
          · simp only [hne, if_true] at e ⊢; exact e
          · simp only [hne, if_false] at e ⊢; exact g.kp a o e hm
        · rcases g.dm a e with z | z
          · exact .inl z
          · by_cases hne : a = Dl
            · rw [hne, h1] at z; cases z
            · right; simp only [hne, if_false]; exact z
        · rcases g.gf a e with z | z | z
          · exact .inl z
          · exact .inr (.inl z)
          · by_cases hne : a = Dl
            · rw [hne, h1] at z; cases z
            · right; right; simp only [hne, if_false]; exact z
      obtain ⟨hx2, gx2, mx2⟩ := keepD g2 hx gx mx
      have g12 := g1.trans (hide g2 hx)
      refine hg x d (L2.wipe σ vs) (wipeD δ vs) μ1 G2 H' _ _ S1 w2 rd (istep i acc μ1 d hlt ed hI) fun σ2 δ2 μ3 G3 H3 q3 S3 w3 g3 l3 => ⟨?_, ?_⟩
      · rw [← wipe_wipe σ vs]
        refine wipe_of l3.1 fun j hjv => l3.2 j fun z => hjv ?_
        have := List.all_eq_true.mp hj j z
        exact of_decide_eq_true this
      · obtain ⟨hx3, gx3, mx3⟩ := keepD g3 hx2 gx2 mx2
        refine ht σ2 δ2 μ3 G3 H3 _ _ S3 w3 q3 fun c μ4 G4 H4 q4 w4 g4 => ?_
        obtain ⟨hx4, gx4, mx4⟩ := keepD g4 hx3 gx3 mx3
        have g14 := (g12.trans (hide g3 hx2)).trans (hide g4 hx3)
        cases c with
        | true =>
          refine he σ2 δ2 μ4 G4 H4 _ _ (S3.mono g4.eg) w4 q4 fun v y μ5 G5 H5 q5 w5 g5 r5 => ?_
          obtain ⟨hx5, gx5, mx5⟩ := keepD g5 hx4 gx4 mx4
          have g15 := g14.trans (hide g5 hx4)
          refine ⟨xs, hx5, sz_lt (by rw [rl.length]; omega), acc ++ [y], μ5, G5, xs ++ [v], q5, ⟨fun a o e => ?_, fun p ds e => ?_⟩, ?_, upd_same, gx5, mx5, (rl.mono (g2.eg.trans (g3.eg.trans (g4.eg.trans g5.eg)))).append (.cons r5 .nil), by rw [List.length_append]; simp; omega⟩
          · have hne : a ≠ Dl := ne_of_none e gx5
            rw [upd_ne hne]; exact w5.ex _ _ e
          · obtain ⟨a1, vs', a2, a3⟩ := w5.mu p ds e
            have hne : p ≠ Dl := fun z => by subst z; rw [mx5] at e; cases e
            exact ⟨a1, vs', by rw [upd_ne hne]; exact a2, a3⟩
          · have e : (fun a => if a = Dl then some (HO.lst []) else upd H5 Dl (.lst (xs ++ [v])) a) = (fun a => if a = Dl then some (HO.lst []) else H5 a) := by
              funext a
              by_cases h : a = Dl
              · simp only [h, if_true]
              · simp only [h, if_false]; rw [upd_ne h]
            rw [e]
            exact g15
        | false =>
          exact ⟨acc, μ4, G4, xs, q4, w4, g14, hx4, gx4, mx4, rl.mono (g2.eg.trans (g3.eg.trans g4.eg)), by omega⟩
theorem okE_lc {wi : TI} {ri : RI} {g : TG} {rg : RG} {tt : TT} {rt : RT} {te : TE} {re : RE} {vs js : List Nat} (hi : OkI K wi ri) (hg : OkG K g rg js) (ht : OkT K tt rt) (he : OkE K te re) (hj : js.all (fun i => decide (i ∈ vs)) = true) :
    OkE K (tLc wi g tt te vs) (rLc ri rg rt re vs) := fun σ δ μ G H k Q S w q b =>
  hi σ δ μ G H _ _ S w q fun J it μ1 G1 H1 q1 w1 g1 io Dl hD => lc_run hg ht he hj (S.mono g1.eg) w1 io hD q1 fun acc μ' G' H' xs fn w' g' hx gx mx rl => by
    have hup : (fun a => if a = Dl then none else H' a) Dl = none := by simp
    refine b _ _ μ' (upd G' Dl (.lst xs)) H' fn ⟨fun a o e => ?_, fun p ds e => ?_⟩ ⟨g1.eg.trans (g'.eg.trans (Ex.new gx)), fun a o e hm => ?_, fun a e => ?_, fun a e => ?_⟩ (.lst upd_same (rl.mono (Ex.new gx)))
    · by_cases hne : a = Dl
      · subst hne; rw [upd_same] at e; rw [← e]; exact hx
      · rw [upd_ne hne] at e; exact w'.ex _ _ e
    · obtain ⟨a1, vs', a2, a3⟩ := w'.mu p ds e
      have hne : p ≠ Dl := fun z => by subst z; rw [mx] at e; cases e
      exact ⟨by rw [upd_ne hne]; exact a1, vs', a2, a3.mono (Ex.new gx)⟩
    · have e1 := (g1.trans g').kp a o e hm
      have hne : a ≠ Dl := fun z => by subst z; simp at e1
      simp only [hne, if_false] at e1
      exact e1
    · exact (g1.trans g').dm a e
    · by_cases hne : a = Dl
      · subst hne
        rcases g1.back hD with z | z
        · exact .inr (.inl z)
        · exact .inr (.inr z)
      · rw [upd_ne hne] at e; exact (g1.trans g').gf a e
theorem okE_lcO {wi : TI} {ri : RI} {g : TG} {rg : RG} {tt : TT} {rt : RT} {te : TE} {re : RE} {vs js : List Nat} (hi : OkI K wi ri) (hg : OkG K g rg js) (ht : OkT K tt rt) (he : OkE K te re) (hj : js.all (fun i => decide (i ∈ vs)) = true) :
    OkE K (tLc wi g tt te vs) (rLcO ri rg rt re vs) := fun σ δ μ G H k Q S w q b =>
  hi σ δ μ G H _ _ S w q fun J it μ1 G1 H1 q1 w1 g1 io Dl hD => lc_run hg ht he hj (S.mono g1.eg) w1 io hD q1 fun acc μ' G' H' xs fn w' g' hx gx mx rl => by
    refine b _ _ (muSet μ' Dl acc) G' H' (fn Dl mx) ⟨w'.ex, fun p ds e => ?_⟩ ⟨g1.eg.trans g'.eg, fun a o e hm => ?_, fun a e => ?_, fun a e => (g1.trans g').gf a e⟩ (.own Dl)
    · by_cases hne : p = Dl
      · subst hne; rw [muSet_same] at e; cases e; exact ⟨gx, .lst xs, hx, .l rl⟩
      · rw [muSet_ne hne] at e; exact w'.mu p ds e
    · have e1 := (g1.trans g').kp a o e hm
      have hne : a ≠ Dl := fun z => by subst z; simp at e1
      simp only [hne, if_false] at e1
      exact e1
    · by_cases hne : a = Dl
      · subst hne
        exact g1.back hD
      · rw [muSet_ne hne] at e; exact (g1.trans g').dm a e
end
end DL


set_option Elab.async false
set_option linter.all false
set_option maxRecDepth 100000
set_option maxHeartbeats 4000000
/-! DLe: comprehensions with two for, statements, loops over data. -/
namespace DL
open PySem PySem.Spec PyProof.Rows L2 SlX

section
variable {K : PySem.W.Frag}
/-- while a list is made at Dl, hidden from G and μ -/
def mask (Dl : Addr) (H : Hp) : Hp := fun a => if a = Dl then some (.lst []) else H a
theorem mask_same {Dl : Addr} {H : Hp} : mask Dl H Dl = some (.lst []) := by unfold mask; rw [if_pos rfl]
theorem mask_ne {Dl a : Addr} {H : Hp} (h : a ≠ Dl) : mask Dl H a = H a := by unfold mask; rw [if_neg h]
structure Hid (K : PySem.W.Frag) (μ : Mu) (G H : Hp) (Dl : Addr) (acc : List D) (xs : List V) (μ1 : Mu) (G1 H1 : Hp) : Prop where
  wd : Wd K G1 H1 μ1
  go : Go μ G (upd H Dl (.lst [])) μ1 G1 (mask Dl H1)
  hD : H1 Dl = some (.lst xs)
  gD : G1 Dl = none
  mD : μ1 Dl = none
  rl : RepL K G1 xs acc
theorem Hid.start {μ : Mu} {G H : Hp} {Dl : Addr} (w : Wd K G H μ) (hD : H Dl = none) : Hid K μ G H Dl [] [] μ G (upd H Dl (.lst [])) := by
  refine ⟨⟨fun a o e => by rw [upd_ne (ne_of_none (w.ex _ _ e) hD)]; exact w.ex _ _ e, fun p ds e => ?_⟩, ?_, upd_same, w.gnone hD, w.mnone hD, .nil⟩
  · obtain ⟨a1, vs', a2, a3⟩ := w.mu p ds e
    exact ⟨a1, vs', by rw [upd_ne (ne_of_none a2 hD)]; exact a2, a3⟩
  · have e : mask Dl (upd H Dl (.lst [])) = upd H Dl (.lst []) := by
      funext a
      by_cases h : a = Dl
      · rw [h, mask_same, upd_same]
      · rw [mask_ne h]
    rw [e]
    exact Go.refl _ _ _
theorem Hid.step {μ μ1 μ2 : Mu} {G H G1 H1 G2 H2 : Hp} {Dl : Addr} {acc : List D} {xs : List V} (h : Hid K μ G H Dl acc xs μ1 G1 H1) (w : Wd K G2 H2 μ2) (g : Go μ1 G1 H1 μ2 G2 H2) : Hid K μ G H Dl acc xs μ2 G2 H2 := by
  have hD2 := g.kp _ _ h.hD h.mD
  refine ⟨w, h.go.trans ⟨g.eg, fun a o e hm => ?_, fun a e => ?_, fun a e => ?_⟩, hD2, ?_, g.none_mu h.hD h.mD, h.rl.mono g.eg⟩
  · by_cases hne : a = Dl
    · rw [hne, mask_same] at e ⊢; exact e
    · rw [mask_ne hne] at e ⊢; exact g.kp a o e hm
  · rcases g.dm a e with z | z
    · exact .inl z
    · by_cases hne : a = Dl
      · rw [hne, h.hD] at z; cases z
      · right; rw [mask_ne hne]; exact z
  · rcases g.gf a e with z | z | z
    · exact .inl z
    · exact .inr (.inl z)
    · by_cases hne : a = Dl
      · rw [hne, h.hD] at z; cases z
      · right; right; rw [mask_ne hne]; exact z
  · cases e : G2 Dl with
    | none => rfl
    | some o =>
      rcases g.gf Dl (by rw [e]; simp) with z | z | z
      · exact absurd h.gD z
      · exact absurd h.mD z
      · rw [h.hD] at z; cases z
theorem Hid.push {μ μ1 : Mu} {G H G1 H1 : Hp} {Dl : Addr} {acc : List D} {xs : List V} {v : V} {y : D} (h : Hid K μ G H Dl acc xs μ1 G1 H1) (r : Rep K G1 v y) : Hid K μ G H Dl (acc ++ [y]) (xs ++ [v]) μ1 G1 (upd H1 Dl (.lst (xs ++ [v]))) := by
  refine ⟨⟨fun a o e => ?_, fun p ds e => ?_⟩, ?_, upd_same, h.gD, h.mD, h.rl.append (.cons r .nil)⟩
  · have hne : a ≠ Dl := ne_of_none e h.gD
    rw [upd_ne hne]; exact h.wd.ex _ _ e
  · obtain ⟨a1, vs', a2, a3⟩ := h.wd.mu p ds e
    have hne : p ≠ Dl := fun z => by rw [z, h.mD] at e; cases e
    exact ⟨a1, vs', by rw [upd_ne hne]; exact a2, a3⟩
  · have e : mask Dl (upd H1 Dl (.lst (xs ++ [v]))) = mask Dl H1 := by
      funext a
      by_cases hne : a = Dl
      · rw [hne, mask_same, mask_same]
      · rw [mask_ne hne, mask_ne hne, upd_ne hne]
    rw [e]
    exact h.go
/-- at the end the list is data -/
theorem Hid.done {μ μ1 : Mu} {G H G1 H1 : Hp} {Dl : Addr} {acc : List D} {xs : List V} (h : Hid K μ G H Dl acc xs μ1 G1 H1) (hD : H Dl = none) :
    Wd K (upd G1 Dl (.lst xs)) H1 μ1 ∧ Go μ G H μ1 (upd G1 Dl (.lst xs)) H1 ∧ Rep K (upd G1 Dl (.lst xs)) (.ref Dl) (.lst acc) := by
  refine ⟨⟨fun a o e => ?_, fun p ds e => ?_⟩, ⟨h.go.eg.trans (Ex.new h.gD), fun a o e hm => ?_, fun a e => ?_, fun a e => ?_⟩, .lst upd_same (h.rl.mono (Ex.new h.gD))⟩
  · by_cases hne : a = Dl
    · rw [hne, upd_same] at e; rw [hne, ← e]; exact h.hD
    · rw [upd_ne hne] at e; exact h.wd.ex _ _ e
  · obtain ⟨a1, vs', a2, a3⟩ := h.wd.mu p ds e
    have hne : p ≠ Dl := fun z => by rw [z, h.mD] at e; cases e
    exact ⟨by rw [upd_ne hne]; exact a1, vs', a2, a3.mono (Ex.new h.gD)⟩
  · have hne : a ≠ Dl := ne_of_none e hD
    have := h.go.kp a o (by rw [upd_ne hne]; exact e) hm
    rw [mask_ne hne] at this
    exact this
  · rcases h.go.dm a e with z | z
    · exact .inl z
    · by_cases hne : a = Dl
      · rw [hne]; exact .inr hD
      · rw [upd_ne hne] at z; exact .inr z
  · by_cases hne : a = Dl
    · rw [hne]; exact .inr (.inr hD)
    · rw [upd_ne hne] at e
      rcases h.go.gf a e with z | z | z
      · exact .inl z
      · exact .inr (.inl z)
      · rw [upd_ne hne] at z; exact .inr (.inr z)

set_option checkBinderAnnotations false in
def rInW (it1 : DIt) (rg1 : RG) (rt1 : RT) (re : RE) (vs1 : List Nat) (δ2 : Sl) (μ4 : Mu) (acc : List D) [fin : List D → Mu → Prop] : Prop := ∃ Inv1 : Nat → List D → Mu → Prop, Inv1 0 acc μ4 ∧ (∀ j acc μ, Inv1 j acc μ → it1.ok μ ∧ acc.length < 1000000) ∧
      (∀ j acc μ e, j < it1.n → it1.at_ j = some e → Inv1 j acc μ → rg1 e (wipeD δ2 vs1) μ fun δ5 μ5 => rt1 δ5 μ5 fun b μ6 => if b = true then re δ5 μ6 fun y μ7 => Inv1 (j + 1) (acc ++ [y]) μ7 else Inv1 (j + 1) acc μ6) ∧
      (∀ acc μ, Inv1 it1.n acc μ → fin acc μ)
set_option checkBinderAnnotations false in
def rLc2W (it : DIt) (rg : RG) (rt : RT) (ri1 : RI) (rg1 : RG) (rt1 : RT) (re : RE) (vs vs1 : List Nat) (δ : Sl) (μ1 : Mu) [fin : List D → Mu → Prop] : Prop := it.n ≤ 1000000 ∧ ∃ Inv : Nat → List D → Mu → Prop, Inv 0 [] μ1 ∧ (∀ i acc μ, Inv i acc μ → it.ok μ) ∧
  (∀ i acc μ d, i < it.n → it.at_ i = some d → Inv i acc μ → rg d (wipeD δ vs) μ fun δ2 μ2 => rt δ2 μ2 fun b μ3 => if b = true then
    ri1 δ2 μ3 fun it1 μ4 => @rInW it1 rg1 rt1 re vs1 δ2 μ4 acc fun acc μ => Inv (i + 1) acc μ
    else Inv (i + 1) acc μ3) ∧
  (∀ acc μ, Inv it.n acc μ → fin acc μ)
@[simp] def rLc2 (ri : RI) (rg : RG) (rt : RT) (ri1 : RI) (rg1 : RG) (rt1 : RT) (re : RE) (vs vs1 : List Nat) : RE := fun δ μ k => ri δ μ fun it μ1 => @rLc2W it rg rt ri1 rg1 rt1 re vs vs1 δ μ1 fun acc μ' => k (.lst acc) μ'
theorem okE_lc2 {wi wi1 : TI} {ri ri1 : RI} {g g1 : TG} {rg rg1 : RG} {tt tt1 : TT} {rt rt1 : RT} {te : TE} {re : RE} {vs vs1 js js1 : List Nat} (hi : OkI K wi ri) (hg : OkG K g rg js) (ht : OkT K tt rt) (hi1 : OkI K wi1 ri1) (hg1 : OkG K g1 rg1 js1) (ht1 : OkT K tt1 rt1) (he : OkE K te re)
    (hj : js.all (fun i => decide (i ∈ vs)) = true) (hj1 : js1.all (fun i => decide (i ∈ vs1)) = true) : OkE K (tLc2 wi g tt wi1 g1 tt1 te vs vs1) (rLc2 ri rg rt ri1 rg1 rt1 re vs vs1) := fun σ δ μ G H k Q S w q b =>
  hi σ δ μ G H _ _ S w q fun J it μ1 G1 H1 ⟨hn, Iv, i0, iok, istep, iend⟩ w1 gg1 io Dl hD => by
    have S1 := S.mono gg1.eg
    refine ⟨fun i m H2 => m = it.n - i ∧ i ≤ it.n ∧ ∃ acc xs μ2 G2, Iv i acc μ2 ∧ Hid K μ1 G1 H1 Dl acc xs μ2 G2 H2, ⟨it.n, rfl, Nat.zero_le _, [], [], μ1, G1, i0, Hid.start w1 hD⟩, ?_⟩
    rintro i m H2 ⟨hm, hi, acc, xs, μ2, G2, hI, hh⟩
    obtain ⟨hstop, hgo⟩ := io i μ2 G2 H2 hh.go.eg hh.wd (iok i acc μ2 hI)
    by_cases hin : i = it.n
    · obtain ⟨a1, a2, a3⟩ := hh.done hD
      exact .inl ⟨hstop hin.symm, b _ _ μ2 _ H2 (iend acc μ2 (hin ▸ hI)) a1 (gg1.trans a2) a3⟩
    · have hlt : i < it.n := Nat.lt_of_le_of_ne hi hin
      obtain ⟨hgo, hy⟩ := hgo hlt
      refine .inr ⟨hgo, fun H' => ∃ acc' xs' μ' G', Iv (i + 1) acc' μ' ∧ Hid K μ1 G1 H1 Dl acc' xs' μ' G' H', fun H' hN => ⟨it.n - (i + 1), by omega, rfl, hlt, hN⟩, fun x H' hyl => ?_⟩
      obtain ⟨d, G3, ed, w3, g3, rd⟩ := hy x H' hyl
      have h3 := hh.step w3 g3
      refine hg x d (L2.wipe σ vs) (wipeD δ vs) μ2 G3 H' _ _ ((S1.mono h3.go.eg).wipe vs) w3 rd (istep i acc μ2 d hlt ed hI) fun σ2 δ2 μ4 G4 H4 q4 S4 w4 g4 l4 => ⟨?_, ?_⟩
      · rw [← wipe_wipe σ vs]
        exact wipe_of l4.1 fun j hjv => l4.2 j fun z => hjv (of_decide_eq_true (List.all_eq_true.mp hj j z))
      · have h4 := h3.step w4 g4
        refine ht σ2 δ2 μ4 G4 H4 _ _ S4 w4 q4 fun c μ5 G5 H5 q5 w5 g5 => ?_
        have h5 := h4.step w5 g5
        cases c with
        | false => exact ⟨acc, xs, μ5, G5, q5, h5⟩
        | true =>
          refine hi1 σ2 δ2 μ5 G5 H5 _ _ (S4.mono g5.eg) w5 q5 fun J1 it1 μ6 G6 H6 ⟨Inv1, j0, jok, jstep, jend⟩ w6 g6 io1 => ?_
          have S6 := S4.mono (g5.eg.trans g6.eg)
          have h6 := h5.step w6 g6
          refine ⟨fun j m H7 => m = it1.n - j ∧ j ≤ it1.n ∧ ∃ acc xs μ7 G7, Inv1 j acc μ7 ∧ Ex G6 G7 ∧ Hid K μ1 G1 H1 Dl acc xs μ7 G7 H7, ⟨it1.n, rfl, Nat.zero_le _, acc, xs, μ6, G6, j0, Ex.refl _, h6⟩, ?_⟩
          rintro j m1 H7 ⟨hm1, hjn, acc7, xs7, μ7, G7, hI1, ex7, h7⟩
          obtain ⟨hok1, hlen⟩ := jok j acc7 μ7 hI1
          obtain ⟨hstop1, hgo1⟩ := io1 j μ7 G7 H7 ex7 h7.wd hok1
          by_cases hjin : j = it1.n
          · exact .inl ⟨hstop1 hjin.symm, acc7, xs7, μ7, G7, jend acc7 μ7 (hjin ▸ hI1), h7⟩
          · have hlt1 : j < it1.n := Nat.lt_of_le_of_ne hjn hjin
            obtain ⟨hgo1, hy1⟩ := hgo1 hlt1
            refine .inr ⟨hgo1, fun H' => ∃ acc' xs' μ' G', Inv1 (j + 1) acc' μ' ∧ Ex G6 G' ∧ Hid K μ1 G1 H1 Dl acc' xs' μ' G' H', fun H' hN => ⟨it1.n - (j + 1), by omega, rfl, hlt1, hN⟩, fun x1 H8 hyl1 => ?_⟩
            obtain ⟨e1, G8, ee1, w8, g8, re1⟩ := hy1 x1 H8 hyl1
            have h8 := h7.step w8 g8
            refine hg1 x1 e1 (L2.wipe σ2 vs1) (wipeD δ2 vs1) μ7 G8 H8 _ _ ((S6.mono (ex7.trans g8.eg)).wipe vs1) w8 re1 (jstep j acc7 μ7 e1 hlt1 ee1 hI1) fun σ3 δ3 μ9 G9 H9 q9 S9 w9 g9 l9 => ⟨?_, ?_⟩
            · rw [← wipe_wipe σ2 vs1]
              exact wipe_of l9.1 fun j hjv => l9.2 j fun z => hjv (of_decide_eq_true (List.all_eq_true.mp hj1 j z))
            · have h9 := h8.step w9 g9
              refine ht1 σ3 δ3 μ9 G9 H9 _ _ S9 w9 q9 fun c μ10 G10 H10 q10 w10 g10 => ?_
              have h10 := h9.step w10 g10
              have ex10 := ex7.trans (g8.eg.trans (g9.eg.trans g10.eg))
              cases c with
              | false => exact ⟨acc7, xs7, μ10, G10, q10, ex10, h10⟩
              | true =>
                refine he σ3 δ3 μ10 G10 H10 _ _ (S9.mono g10.eg) w10 q10 fun v y μ11 G11 H11 q11 w11 g11 r11 => ?_
                have h11 := h10.step w11 g11
                exact ⟨xs7, h11.hD, sz_lt (by rw [h11.rl.length]; exact hlen), acc7 ++ [y], xs7 ++ [v], μ11, G11, q11, ex10.trans g11.eg, h11.push r11⟩
end

/-! ### statements -/
@[simp] def rNext : RS := fun DD δ μ => DD.nx δ μ
@[simp] def rSeq (r s : RS) : RS := fun DD δ μ => r { DD with nx := s DD } δ μ
@[simp] def rDrop (re : RE) : RS := fun DD δ μ => re δ μ fun _ μ1 => DD.nx δ μ1
@[simp] def frzD (μ : Mu) (d : D) : D := match d with
  | .own p => match μ p with | some c => cntD c | none => .own p
  | d => d
@[simp] def frzM (μ : Mu) (d : D) : Mu := match d with
  | .own p => muDel μ p
  | _ => μ
@[simp] def rRet (re : RE) : RS := fun DD δ μ => re δ μ DD.rt
/-- a list of one's own is handed out as data -/
@[simp] def rRetF (re : RE) : RS := fun DD δ μ => re δ μ fun d μ1 => DD.rt (frzD μ1 d) (frzM μ1 d)
@[simp] def rRetN : RS := fun DD _ μ => DD.rt .non μ
@[simp] def rIfS (rt : RT) (r s : RS) : RS := fun DD δ μ => rt δ μ fun b μ1 => if b = true then r DD δ μ1 else s DD δ μ1
@[simp] def rNever : RS := fun _ _ _ => False
@[simp] def rAsg (re : RE) (rg : RG) : RS := fun DD δ μ => re δ μ fun d μ1 => rg d δ μ1 DD.nx
@[simp] def rPar (i j : Nat) (ra : RA) : RS := fun DD δ μ => ra δ μ fun ds μ1 => match ds with | [a, b] => DD.nx ((δ.set i (some a)).set j (some b)) μ1 | _ => False
@[simp] def rAug (i : Nat) (re : RE) (f : Int → Int → Int) : RS := fun DD δ μ => match δ[i]? with
  | some (some (.int a)) => re δ μ fun y μ1 => match y with | .int b => DD.nx (δ.set i (some (.int (f a b)))) μ1 | _ => False
  | _ => False
@[simp] def rBreak : RS := fun DD δ μ => DD.bk δ μ
@[simp] def rCont : RS := fun DD δ μ => DD.ct δ μ
def rForW (it : DIt) (rg : RG) (rb : RS) (DD : DEnds) (δ : Sl) (μ1 : Mu) : Prop := ∃ Inv : Nat → Sl → Mu → Prop, Inv 0 δ μ1 ∧ (∀ i δ μ, Inv i δ μ → it.ok μ) ∧
  (∀ i δ μ d, i < it.n → it.at_ i = some d → Inv i δ μ → rg d δ μ fun δ2 μ2 => rb { nx := Inv (i + 1), ct := Inv (i + 1), bk := DD.nx, rt := DD.rt } δ2 μ2) ∧ (∀ δ μ, Inv it.n δ μ → DD.nx δ μ)
def rFor (ri : RI) (rg : RG) (rb : RS) : RS := fun DD δ μ => ri δ μ fun it μ1 => rForW it rg rb DD δ μ1
def rWhile (rc : RT) (rb : RS) : RS := fun DD δ μ => ∃ Inv : Nat → Sl → Mu → Prop, (∃ m, Inv m δ μ) ∧ ∀ m δ μ, Inv m δ μ → rc δ μ fun b μ1 => if b = true then
  rb { nx := fun δ μ => ∃ m', m' < m ∧ Inv m' δ μ, ct := fun δ μ => ∃ m', m' < m ∧ Inv m' δ μ, bk := DD.nx, rt := DD.rt } δ μ1 else DD.nx δ μ1
/-- a word of the proof: the list in slot i does not change any more -/
@[simp] def rFrz (i : Nat) (r : RS) : RS := fun DD δ μ => match δ[i]? with
  | some (some (.own p)) => match μ p with | some c => r DD (δ.set i (some (cntD c))) (muDel μ p) | none => False
  | _ => False
section
variable {K : PySem.W.Frag} {t u : TS} {r s : RS} {te : TE} {re : RE} {tt : TT} {rt : RT}
theorem okS_next : OkS K tNext rNext := fun σ δ μ G H DD D S w q b => b.nx σ δ μ G H q S w (Go.refl _ _ _)
theorem okS_seq (h : OkS K t r) (h' : OkS K u s) : OkS K (tSeq t u) (rSeq r s) := fun σ δ μ G H DD D S w q b =>
  h σ δ μ G H _ _ S w q ⟨fun σ1 δ1 μ1 G1 H1 q1 S1 w1 g1 => h' σ1 δ1 μ1 G1 H1 DD D S1 w1 q1 (b.go g1), b.bk, b.ct, b.rt⟩
theorem okS_drop (h : OkE K te re) : OkS K (tDrop te) (rDrop re) := fun σ δ μ G H DD D S w q b =>
  h σ δ μ G H _ _ S w q fun v d μ1 G1 H1 q1 w1 g1 r1 => b.nx σ δ μ1 G1 H1 q1 (S.mono g1.eg) w1 g1
theorem okS_ret (h : OkE K te re) : OkS K (tRet te) (rRet re) := fun σ δ μ G H DD D S w q b => h σ δ μ G H _ _ S w q fun v d μ1 G1 H1 q1 w1 g1 r1 => b.rt v d μ1 G1 H1 q1 w1 g1 r1
theorem okS_retF (h : OkE K te re) : OkS K (tRet te) (rRetF re) := fun σ δ μ G H DD D S w q b => h σ δ μ G H _ _ S w q fun v d μ1 G1 H1 q1 w1 g1 r1 => by
  cases r1 with
  | own p =>
    cases e : μ1 p with
    | none =>
      have e1 : frzD μ1 (.own p) = .own p := by simp only [frzD, e]
      have e2 : frzM μ1 (.own p) = μ1 := by
        funext q; show (if q = p then none else μ1 q) = μ1 q
        by_cases hq : q = p
        · rw [if_pos hq, hq, e]
        · rw [if_neg hq]
      rw [e1, e2] at q1
      exact b.rt _ _ μ1 G1 H1 q1 w1 g1 (.own p)
    | some ds =>
      obtain ⟨vs, a1, a2, a3⟩ := w1.frz e
      have e1 : frzD μ1 (.own p) = cntD ds := by simp only [frzD, e]
      rw [e1] at q1
      exact b.rt _ _ _ _ H1 q1 a1 (g1.trans a3) a2
  | non => exact b.rt _ _ μ1 G1 H1 q1 w1 g1 .non
  | bl c => exact b.rt _ _ μ1 G1 H1 q1 w1 g1 (.bl c)
  | int c => exact b.rt _ _ μ1 G1 H1 q1 w1 g1 (.int c)
  | str c => exact b.rt _ _ μ1 G1 H1 q1 w1 g1 (.str c)
  | dk h l c => exact b.rt _ _ μ1 G1 H1 q1 w1 g1 (.dk h l c)
  | dt h l c => exact b.rt _ _ μ1 G1 H1 q1 w1 g1 (.dt h l c)
  | tup h c => exact b.rt _ _ μ1 G1 H1 q1 w1 g1 (.tup h c)
  | lst h c => exact b.rt _ _ μ1 G1 H1 q1 w1 g1 (.lst h c)
  | obj h c => exact b.rt _ _ μ1 G1 H1 q1 w1 g1 (.obj h c)
  | scr h => exact b.rt _ _ μ1 G1 H1 q1 w1 g1 (.scr h)
theorem okS_retN : OkS K tRetN rRetN := fun σ δ μ G H DD D S w q b => b.rt _ _ μ G H q w (Go.refl _ _ _) .non
theorem okS_if (h : OkT K tt rt) (h1 : OkS K t r) (h2 : OkS K u s) : OkS K (tIfS tt t u) (rIfS rt r s) := fun σ δ μ G H DD D S w q b => h σ δ μ G H _ _ S w q fun c μ1 G1 H1 q1 w1 g1 => by
  cases c with
  | true => exact h1 σ δ μ1 G1 H1 DD D (S.mono g1.eg) w1 q1 (b.go g1)
  | false => exact h2 σ δ μ1 G1 H1 DD D (S.mono g1.eg) w1 q1 (b.go g1)
theorem okS_never : OkS K tNever rNever := fun σ δ μ G H DD D S w q b => q
theorem okS_asg {g : TG} {rg : RG} {js : List Nat} (h : OkE K te re) (hg : OkG K g rg js) : OkS K (tAsg te g) (rAsg re rg) := fun σ δ μ G H DD D S w q b => h σ δ μ G H _ _ S w q fun v d μ1 G1 H1 q1 w1 g1 r1 =>
  hg v d σ δ μ1 G1 H1 _ _ (S.mono g1.eg) w1 r1 q1 fun σ2 δ2 μ2 G2 H2 q2 S2 w2 g2 _ => b.nx σ2 δ2 μ2 G2 H2 q2 S2 w2 (g1.trans g2)
theorem okS_par {i j : Nat} {ta : TA} {ra : RA} (h : OkA K ta ra) : OkS K (tPar i j ta) (rPar i j ra) := fun σ δ μ G H DD D S w q b => h σ δ μ G H _ _ S w q fun vs ds μ1 G1 H1 q1 w1 g1 r1 => by
  split at q1
  · rename_i x y
    cases r1 with
    | cons a rr =>
      cases rr with
      | cons a' rr =>
        cases rr
        exact ⟨_, _, rfl, b.nx _ _ μ1 G1 H1 q1 (((S.mono g1.eg).set a i).set a' j) w1 g1⟩
  · exact q1.elim
theorem okS_aug {i : Nat} {f : Int → Int → Int} (h : OkE K te re) : OkS K (tAug i te (ipI f)) (rAug i re f) := fun σ δ μ G H DD D S w q b => by
  unfold rAug at q
  split at q
  · rename_i a e
    obtain ⟨v, h1, h2⟩ := S.at_ i _ e
    cases h2
    refine ⟨_, h1, h σ δ μ G H _ _ S w q fun v d μ1 G1 H1 q1 w1 g1 r1 => ?_⟩
    cases r1 with
    | int c => exact ⟨_, c, rfl, rfl, b.nx _ _ μ1 G1 H1 q1 ((S.mono g1.eg).set (.int _) i) w1 g1⟩
    | _ => exact q1.elim
  · exact q.elim
theorem okS_break : OkS K tBreak rBreak := fun σ δ μ G H DD D S w q b => b.bk σ δ μ G H q S w (Go.refl _ _ _)
theorem okS_cont : OkS K tCont rCont := fun σ δ μ G H DD D S w q b => b.ct σ δ μ G H q S w (Go.refl _ _ _)
theorem okS_for {wi : TI} {ri : RI} {g : TG} {rg : RG} {js : List Nat} (hi : OkI K wi ri) (hg : OkG K g rg js) (hb : OkS K t r) : OkS K (tFor wi g t) (rFor ri rg r) := fun σ δ μ G H DD D S w q b =>
  hi σ δ μ G H _ _ S w q fun J it μ1 G1 H1 ⟨Iv, i0, iok, istep, iend⟩ w1 g1 io => by
    refine ⟨fun i m σ2 H2 => m = it.n - i ∧ i ≤ it.n ∧ ∃ δ2 μ2 G2, Iv i δ2 μ2 ∧ SlOk K G2 σ2 δ2 ∧ Wd K G2 H2 μ2 ∧ Go μ1 G1 H1 μ2 G2 H2, ⟨it.n, rfl, Nat.zero_le _, δ, μ1, G1, i0, S.mono g1.eg, w1, Go.refl _ _ _⟩, ?_⟩
    rintro i m σ2 H2 ⟨hm, hi, δ2, μ2, G2, hI, S2, w2, g2⟩
    obtain ⟨hstop, hgo⟩ := io i μ2 G2 H2 g2.eg w2 (iok i δ2 μ2 hI)
    by_cases hin : i = it.n
    · exact .inl ⟨hstop hin.symm, b.nx σ2 δ2 μ2 G2 H2 (iend δ2 μ2 (hin ▸ hI)) S2 w2 (g1.trans g2)⟩
    · have hlt : i < it.n := Nat.lt_of_le_of_ne hi hin
      obtain ⟨hgo, hy⟩ := hgo hlt
      refine .inr ⟨hgo, fun σ3 H3 => ∃ δ3 μ3 G3, Iv (i + 1) δ3 μ3 ∧ SlOk K G3 σ3 δ3 ∧ Wd K G3 H3 μ3 ∧ Go μ1 G1 H1 μ3 G3 H3, fun σ3 H3 hN => ⟨it.n - (i + 1), by omega, rfl, hlt, hN⟩, fun x H3 hyl => ?_⟩
      obtain ⟨d, G3, ed, w3, g3, rd⟩ := hy x H3 hyl
      refine hg x d σ2 δ2 μ2 G3 H3 _ _ (S2.mono g3.eg) w3 rd (istep i δ2 μ2 d hlt ed hI) fun σ4 δ4 μ4 G4 H4 q4 S4 w4 g4 _ => ?_
      have g14 := (g2.trans g3).trans g4
      exact hb σ4 δ4 μ4 G4 H4 _ _ S4 w4 q4 ⟨fun σ5 δ5 μ5 G5 H5 q5 S5 w5 g5 => ⟨δ5, μ5, G5, q5, S5, w5, g14.trans g5⟩, fun σ5 δ5 μ5 G5 H5 q5 S5 w5 g5 => b.nx σ5 δ5 μ5 G5 H5 q5 S5 w5 ((g1.trans g14).trans g5),
        fun σ5 δ5 μ5 G5 H5 q5 S5 w5 g5 => ⟨δ5, μ5, G5, q5, S5, w5, g14.trans g5⟩, fun v d μ5 G5 H5 q5 w5 g5 r5 => b.rt v d μ5 G5 H5 q5 w5 ((g1.trans g14).trans g5) r5⟩
theorem okS_while (hc : OkT K tt rt) (hb : OkS K t r) : OkS K (tWhile tt t) (rWhile rt r) := fun σ δ μ G H DD D S w ⟨Iv, ⟨m0, i0⟩, istep⟩ b => by
  refine ⟨fun m σ2 H2 => ∃ δ2 μ2 G2, Iv m δ2 μ2 ∧ SlOk K G2 σ2 δ2 ∧ Wd K G2 H2 μ2 ∧ Go μ G H μ2 G2 H2, ⟨m0, δ, μ, G, i0, S, w, Go.refl _ _ _⟩, ?_⟩
  rintro m σ2 H2 ⟨δ2, μ2, G2, hI, S2, w2, g2⟩
  refine hc σ2 δ2 μ2 G2 H2 _ _ S2 w2 (istep m δ2 μ2 hI) fun c μ3 G3 H3 q3 w3 g3 => ?_
  cases c with
  | false => exact b.nx σ2 δ2 μ3 G3 H3 q3 (S2.mono g3.eg) w3 (g2.trans g3)
  | true =>
    refine ⟨fun σ4 H4 => ∃ m', m' < m ∧ ∃ δ4 μ4 G4, Iv m' δ4 μ4 ∧ SlOk K G4 σ4 δ4 ∧ Wd K G4 H4 μ4 ∧ Go μ G H μ4 G4 H4, fun σ4 H4 h => h, ?_⟩
    exact hb σ2 δ2 μ3 G3 H3 _ _ (S2.mono g3.eg) w3 q3 ⟨fun σ5 δ5 μ5 G5 H5 ⟨m', hm, q5⟩ S5 w5 g5 => ⟨m', hm, δ5, μ5, G5, q5, S5, w5, (g2.trans g3).trans g5⟩, fun σ5 δ5 μ5 G5 H5 q5 S5 w5 g5 => b.nx σ5 δ5 μ5 G5 H5 q5 S5 w5 ((g2.trans g3).trans g5),
      fun σ5 δ5 μ5 G5 H5 ⟨m', hm, q5⟩ S5 w5 g5 => ⟨m', hm, δ5, μ5, G5, q5, S5, w5, (g2.trans g3).trans g5⟩, fun v d μ5 G5 H5 q5 w5 g5 r5 => b.rt v d μ5 G5 H5 q5 w5 ((g2.trans g3).trans g5) r5⟩
theorem okS_frz {i : Nat} (h : OkS K t r) : OkS K t (rFrz i r) := fun σ δ μ G H DD D S w q b => by
  unfold rFrz at q
  split at q
  · rename_i p e
    split at q
    · rename_i ds e2
      obtain ⟨v, h1, h2⟩ := S.at_ i _ e
      cases h2
      obtain ⟨vs, a1, a2, a3⟩ := w.frz e2
      have hs : σ.set i (some (.ref p)) = σ := by
        apply List.ext_getElem?
        intro j
        by_cases hj : i = j
        · subst hj
          rw [List.getElem?_set_self (List.getElem?_eq_some_iff.mp h1).1, h1]
        · rw [List.getElem?_set_ne hj]
      have S2 := (S.mono a3.eg).set a2 i
      rw [hs] at S2
      exact h σ _ _ _ H DD D S2 a1 q (b.go a3)
    · exact q.elim
  · exact q.elim
end
end DL


set_option Elab.async false
set_option linter.all false
set_option maxRecDepth 100000
set_option maxHeartbeats 4000000
/-! DLf: builtins, functions over data. -/
namespace DL
open PySem PySem.Spec PyProof.Rows L2 SlX

section
variable {K : PySem.W.Frag}
theorem OkOp.or {r r' : R2} {f f' : F2} (h : OkOp K r f) (h' : OkOp K r' f') : OkOp K (fun x y H Q => r x y H Q ∨ r' x y H Q) (fun x y μ k => f x y μ k ∨ f' x y μ k) := fun x y a b μ G H k Q w rx ry q t => by
  rcases q with q | q
  · exact .inl (h x y a b μ G H k Q w rx ry q t)
  · exact .inr (h' x y a b μ G H k Q w rx ry q t)
theorem one_arg {G : Hp} {xs : List V} {d : D} (r : RepL K G xs [d]) : ∃ v, xs = [v] ∧ Rep K G v d := by
  cases r with
  | cons a t => cases t; exact ⟨_, rfl, a⟩
theorem two_args {G : Hp} {xs : List V} {d e : D} (r : RepL K G xs [d, e]) : ∃ v u, xs = [v, u] ∧ Rep K G v d ∧ Rep K G u e := by
  cases r with
  | cons a t =>
    obtain ⟨u, rfl, b⟩ := one_arg t
    exact ⟨_, _, rfl, a, b⟩

/-- len -/
@[simp] def lenD (μ : Mu) : D → Option Nat
  | .lst ds => some ds.length
  | .own p => (lsAt μ p).map List.length
  | .tup ds => some ds.length
  | .str x => if x.length ≤ 1000000 then some x.length else none
  | .scr ns => some ns.length
  | _ => none
@[simp] def oLen : FL := fun xs μ k => match xs with | [x] => ∃ n, lenD μ x = some n ∧ k (.int (n : Int)) μ | _ => False
theorem okLen : OkC K (fun xs H Q => ∃ x n, xs = [x] ∧ LenV K x H n ∧ Q (.int (n : Nat)) H) oLen := fun xs as μ G H k Q w r q t => by
  unfold oLen at q
  split at q
  · rename_i x
    obtain ⟨n, e, q⟩ := q
    obtain ⟨v, rfl, rx⟩ := one_arg r
    refine ⟨v, n, rfl, ?_, t _ _ μ G H q w (Go.refl _ _ _) (.int _)⟩
    cases rx with
    | lst h rl => cases e; exact .inl ⟨_, SqL.of (w.ex _ _ h), rl.length.symm⟩
    | own p =>
      cases e2 : lsAt μ p with
      | none => simp only [lenD, e2] at e; cases e
      | some ds =>
        simp only [lenD, e2] at e
        cases e
        obtain ⟨_, vs, h, rl⟩ := w.muL p ds (lsAt_iff.mp e2)
        exact .inl ⟨vs, SqL.of h, rl.length.symm⟩
    | tup h rl => cases e; exact .inr ⟨_, w.ex.t h, rl.length.symm⟩
    | str x =>
      simp only [lenD] at e
      split at e
      · rename_i hl
        cases e
        exact ⟨sz_of hl, rfl⟩
      · cases e
    | scr h => cases e; exact .inl ⟨_, w.ex.l h, (List.length_map _).symm⟩
    | _ => cases e
  · exact q.elim
@[simp] def oAbs : FL := fun xs μ k => match xs with | [.int i] => k (.int (if i < 0 then -i else i)) μ | _ => False
theorem okAbs : OkC K (fun xs H Q => ∃ i, xs = [.int i] ∧ Q (.int (if i < 0 then -i else i)) H) oAbs := fun xs as μ G H k Q w r q t => by
  unfold oAbs at q
  split at q
  · obtain ⟨v, rfl, rx⟩ := one_arg r
    cases rx
    exact ⟨_, rfl, t _ _ μ G H q w (Go.refl _ _ _) (.int _)⟩
  · exact q.elim
@[simp] def o2I (g : Int → Int → Int) : FL := fun xs μ k => match xs with | [.int i, .int j] => k (.int (g i j)) μ | _ => False
theorem ok2I {g : Int → Int → Int} : OkC K (fun xs H Q => ∃ i j, xs = [.int i, .int j] ∧ Q (.int (g i j)) H) (o2I g) := fun xs as μ G H k Q w r q t => by
  unfold o2I at q
  split at q
  · obtain ⟨v, u, rfl, rx, ry⟩ := two_args r
    cases rx; cases ry
    exact ⟨_, _, rfl, t _ _ μ G H q w (Go.refl _ _ _) (.int _)⟩
  · exact q.elim
@[simp] def oInt : FL := fun xs μ k => match xs with | [.int i] => k (.int i) μ | [.bl b] => k (.int (if b then 1 else 0)) μ | _ => False
theorem okInt : OkC K (fun xs H Q => (∃ i, xs = [.int i] ∧ Q (.int i) H) ∨ ∃ k, xs = [.bl k] ∧ Q (.int (if k then 1 else 0)) H) oInt := fun xs as μ G H k Q w r q t => by
  unfold oInt at q
  split at q
  · obtain ⟨v, rfl, rx⟩ := one_arg r
    cases rx
    exact .inl ⟨_, rfl, t _ _ μ G H q w (Go.refl _ _ _) (.int _)⟩
  · obtain ⟨v, rfl, rx⟩ := one_arg r
    cases rx
    exact .inr ⟨_, rfl, t _ _ μ G H q w (Go.refl _ _ _) (.int _)⟩
  · exact q.elim
@[simp] def oStrI : FL := fun xs μ k => match xs with | [.int i] => i.natAbs.log2 < 1920 ∧ k (.str (toString i)) μ | _ => False
theorem okStrI : OkC K (fun xs H Q => ∃ i : Int, xs = [.int i] ∧ i.natAbs.log2 < 1920 ∧ Q (.str (toString i)) H) oStrI := fun xs as μ G H k Q w r q t => by
  unfold oStrI at q
  split at q
  · obtain ⟨v, rfl, rx⟩ := one_arg r
    cases rx
    exact ⟨_, rfl, q.1, t _ _ μ G H q.2 w (Go.refl _ _ _) (.str _)⟩
  · exact q.elim
/-- what the data is as a row of ints, of bools -/
def asI (μ : Mu) (d : D) (ns : List Int) : Prop := asL μ d = some (ns.map D.int)
theorem asI_out {μ : Mu} {G H : Hp} {v : V} {d : D} {ns : List Int} (w : Wd K G H μ) (r : Rep K G v d) (e : asL μ d = some (ns.map D.int)) : ∃ a, v = .ref a ∧ H a = some (.lst (ns.map V.int)) := by
  obtain ⟨a, vs, rfl, h, rl⟩ := asL_out w r e
  rw [rl.ints] at h
  exact ⟨a, rfl, h⟩
set_option checkBinderAnnotations false in
def hSum (xs : List D) (μ : Mu) [k : DK] : Prop := match xs with | [x] => ∃ ns : List Int, asL μ x = some (ns.map D.int) ∧ k (.int ns.sum) μ | _ => False
@[simp] def oSum : FL := fun xs μ k => @hSum xs μ k
theorem okSum : OkC K (rSum K) oSum := fun xs as μ G H k Q w r q t => by
  unfold oSum hSum at q
  split at q
  · obtain ⟨ns, e, q⟩ := q
    obtain ⟨v, rfl, rx⟩ := one_arg r
    obtain ⟨a, rfl, h⟩ := asI_out w rx e
    exact ⟨a, ns, rfl, SqL.of h, t _ _ μ G H q w (Go.refl _ _ _) (.int _)⟩
  · exact q.elim
theorem asB_list {μ : Mu} {G H : Hp} {v : V} {d : D} {ns : List Bool} (w : Wd K G H μ) (r : Rep K G v d) (e : asL μ d = some (ns.map D.bl)) : ∃ a, v = .ref a ∧ H a = some (.lst (ns.map V.bl)) := by
  obtain ⟨a, vs, rfl, h, rl⟩ := asL_out w r e
  rw [rl.bls] at h
  exact ⟨a, rfl, h⟩
set_option checkBinderAnnotations false in
def hAll (xs : List D) (μ : Mu) [k : DK] : Prop := match xs with | [x] => ∃ bs : List Bool, asL μ x = some (bs.map D.bl) ∧ k (.bl (bs.all id)) μ | _ => False
@[simp] def oAll : FL := fun xs μ k => @hAll xs μ k
theorem okAll : OkC K (rAll K) oAll := fun xs as μ G H k Q w r q t => by
  unfold oAll hAll at q
  split at q
  · obtain ⟨ns, e, q⟩ := q
    obtain ⟨v, rfl, rx⟩ := one_arg r
    obtain ⟨a, rfl, h⟩ := asB_list w rx e
    exact ⟨a, ns, rfl, SqL.of h, t _ _ μ G H q w (Go.refl _ _ _) (.bl _)⟩
  · exact q.elim
set_option checkBinderAnnotations false in
def hAny (xs : List D) (μ : Mu) [k : DK] : Prop := match xs with | [x] => ∃ bs : List Bool, asL μ x = some (bs.map D.bl) ∧ k (.bl (bs.any id)) μ | _ => False
@[simp] def oAny : FL := fun xs μ k => @hAny xs μ k
theorem okAny : OkC K (rAny K) oAny := fun xs as μ G H k Q w r q t => by
  unfold oAny hAny at q
  split at q
  · obtain ⟨ns, e, q⟩ := q
    obtain ⟨v, rfl, rx⟩ := one_arg r
    obtain ⟨a, rfl, h⟩ := asB_list w rx e
    exact ⟨a, ns, rfl, SqL.of h, t _ _ μ G H q w (Go.refl _ _ _) (.bl _)⟩
  · exact q.elim
/-- list(x) -/
@[simp] def oList : FL := fun xs μ k => match xs with | [x] => ∃ ds, asQ μ x = some ds ∧ k (.lst ds) μ | _ => False
@[simp] def oListO : FL := fun xs μ k => match xs with | [x] => ∃ ds, asQ μ x = some ds ∧ ∀ p, μ p = none → k (.own p) (muSet μ p ds) | _ => False
theorem okList : OkC K (fun xs H Q => ∃ p ys, xs = [.ref p] ∧ (SqL K H p ys ∨ SqT K H p ys) ∧ ∀ l, H l = none → Q (.ref l) (upd H l (.lst ys))) oList := fun xs as μ G H k Q w r q t => by
  unfold oList at q
  split at q
  · obtain ⟨ds, e, q⟩ := q
    obtain ⟨v, rfl, rx⟩ := one_arg r
    obtain ⟨a, vs, rfl, h, rl⟩ := asQ_out w rx e
    exact ⟨a, vs, rfl, h, fun l hl => mkLst w rl q t l hl⟩
  · exact q.elim
theorem okListO : OkC K (fun xs H Q => ∃ p ys, xs = [.ref p] ∧ (SqL K H p ys ∨ SqT K H p ys) ∧ ∀ l, H l = none → Q (.ref l) (upd H l (.lst ys))) oListO := fun xs as μ G H k Q w r q t => by
  unfold oListO at q
  split at q
  · obtain ⟨ds, e, q⟩ := q
    obtain ⟨v, rfl, rx⟩ := one_arg r
    obtain ⟨a, vs, rfl, h, rl⟩ := asQ_out w rx e
    exact ⟨a, vs, rfl, h, fun l hl => mkOwn w rl q t l hl⟩
  · exact q.elim
/-- tuple(x) -/
@[simp] def oTuple : FL := fun xs μ k => match xs with | [x] => ∃ ds, asQ μ x = some ds ∧ k (.tup ds) μ | _ => False
theorem okTuple : OkC K (fun xs H Q => ∃ p ys, xs = [.ref p] ∧ ((SqL K H p ys ∧ ∀ l, H l = none → Q (.ref l) (upd H l (.tup ys))) ∨ (SqT K H p ys ∧ Q (.ref p) H))) oTuple := fun xs as μ G H k Q w r q t => by
  unfold oTuple at q
  split at q
  · obtain ⟨ds, e, q⟩ := q
    obtain ⟨v, rfl, rx⟩ := one_arg r
    cases rx with
    | lst h rl => cases e; exact ⟨_, _, rfl, .inl ⟨SqL.of (w.ex _ _ h), fun l hl => mkTup w rl q t l hl⟩⟩
    | own p =>
      obtain ⟨_, vs, h, rl⟩ := w.muL p ds (lsAt_iff.mp e)
      exact ⟨_, _, rfl, .inl ⟨SqL.of h, fun l hl => mkTup w rl q t l hl⟩⟩
    | tup h rl => cases e; exact ⟨_, _, rfl, .inr ⟨w.ex.t h, t _ _ μ G H q w (Go.refl _ _ _) (.tup h rl)⟩⟩
    | _ => cases e
  · exact q.elim
/-- isinstance(x, T), T a built-in class; the class's value itself is not read as data -/
@[simp] def tyN (μ : Mu) : D → Option String
  | .non => some "NoneType"
  | .bl _ => some "bool"
  | .int _ => some "int"
  | .str _ => some "str"
  | .tup _ => some "tuple"
  | .lst _ => some "list"
  | .own p => if (lsAt μ p).isSome then some "list" else none
  | _ => none
theorem tyN_out {μ : Mu} {G H : Hp} {v : V} {d : D} {T : String} (w : Wd K G H μ) (r : Rep K G v d) (e : tyN μ d = some T) : TyX K H v (.type T) := by
  cases r with
  | non => cases e; exact .base .non
  | bl b => cases e; exact .base (.bl b)
  | int b => cases e; exact .base (.int b)
  | str b => cases e; exact .base (.str b)
  | tup h rl =>
    cases e
    rcases w.ex.t h with (h | ⟨o, h⟩) | ⟨o, its, n, h, hc, _⟩
    · exact .base (.tup h)
    · exact .fTuple h
    · exact .kTuple h hc
  | lst h rl => cases e; exact .base (.lst (w.ex _ _ h))
  | own p =>
    cases e2 : lsAt μ p with
    | none => simp [tyN, e2] at e
    | some ds =>
      have e3 : T = "list" := by simp [tyN, e2] at e; exact e.symm
      subst e3
      obtain ⟨_, vs, h, _⟩ := w.muL p ds (lsAt_iff.mp e2)
      exact .base (.lst h)
  | _ => cases e
@[simp] def rIsiB (T : String) (re : RE) : RE := fun δ μ k => re δ μ fun x μ1 => ∃ a b, tyN μ1 x = some a ∧ kitB a T = some b ∧ k (.bl b) μ1
theorem okE_isi {T : String} {te : TE} {re : RE} (h : OkE K te re) : OkE K (tCB (rIsi K) (tCons te (tCons (tC (.ty T)) tNil))) (rIsiB T re) := fun σ δ μ G H k Q S w q b =>
  h σ δ μ G H _ _ S w q fun v d μ1 G1 H1 ⟨a, c, e1, e2, q1⟩ w1 g1 r1 => ⟨v, .ty T, .type a, .type T, c, rfl, .ty T, tyN_out w1 r1 e1, kit_ty e2, b _ _ μ1 G1 H1 q1 w1 g1 (.bl c)⟩
end

/-! ### methods of a list that changes -/
section
variable {K : PySem.W.Frag}
@[simp] def rApp (ro re : RE) : RE := fun δ μ k => ro δ μ fun o μ1 => match o with
  | .own p => (∃ ds, μ1 p = some (.l ds)) ∧ re δ μ1 fun d μ2 => ∃ ds, μ2 p = some (.l ds) ∧ ds.length < 1000000 ∧ k .non (muSet μ2 p (ds ++ [d]))
  | _ => False
theorem own_ty {μ : Mu} {G H : Hp} {p : Addr} (w : Wd K G H μ) (h : ∃ ds, μ p = some (.l ds)) : tyV K "list" (.ref p) H := by
  obtain ⟨ds, e2⟩ := h
  obtain ⟨_, vs, h, _⟩ := w.muL p ds e2
  exact .inl ⟨rfl, vs, SqL.of h⟩
theorem okE_app {to te : TE} {ro re : RE} (ho : OkE K to ro) (he : OkE K te re) : OkE K (tBM K "list" rAppend to (tCons te tNil)) (rApp ro re) := fun σ δ μ G H k Q S w q b =>
  ho σ δ μ G H _ _ S w q fun x o μ1 G1 H1 q1 w1 g1 r1 => by
    cases r1 with
    | own p =>
      obtain ⟨hp, q1⟩ := q1
      refine ⟨own_ty w1 hp, he σ δ μ1 G1 H1 _ _ (S.mono g1.eg) w1 q1 fun v d μ2 G2 H2 ⟨ds, e, hl, q2⟩ w2 g2 r2 => ?_⟩
      obtain ⟨_, vs, h, rl⟩ := w2.muL p ds e
      have rl2 : RepL K G2 (vs ++ [v]) (ds ++ [d]) := rl.append (.cons r2 .nil)
      exact ⟨p, vs, v, rfl, rfl, h, sz_lt (by rw [rl.length]; exact hl), b _ _ _ G2 _ q2 (w2.wr e rl2) ((g1.trans g2).trans (Go.wr e)) .non⟩
    | _ => exact q1.elim
/-- xs.extend(ys), ys another list -/
@[simp] def rExt (ro re : RE) : RE := fun δ μ k => ro δ μ fun o μ1 => match o with
  | .own p => (∃ ds, μ1 p = some (.l ds)) ∧ re δ μ1 fun d μ2 => ∃ ds es, μ2 p = some (.l ds) ∧ asL μ2 d = some es ∧ ds.length + es.length ≤ 1000000 ∧ k .non (muSet μ2 p (ds ++ es))
  | _ => False
theorem okE_ext {to te : TE} {ro re : RE} (ho : OkE K to ro) (he : OkE K te re) : OkE K (tBM K "list" rExtend to (tCons te tNil)) (rExt ro re) := fun σ δ μ G H k Q S w q b =>
  ho σ δ μ G H _ _ S w q fun x o μ1 G1 H1 q1 w1 g1 r1 => by
    cases r1 with
    | own p =>
      obtain ⟨hp, q1⟩ := q1
      refine ⟨own_ty w1 hp, he σ δ μ1 G1 H1 _ _ (S.mono g1.eg) w1 q1 fun v d μ2 G2 H2 ⟨ds, es, e, e2, hl, q2⟩ w2 g2 r2 => ?_⟩
      obtain ⟨_, vs, h, rl⟩ := w2.muL p ds e
      obtain ⟨a, ws, rfl, h2, rl2⟩ := asL_out w2 r2 e2
      exact ⟨p, a, vs, ws, rfl, rfl, h, h2, sz_of (by rw [rl.length, rl2.length]; exact hl), b _ _ _ G2 _ q2 (w2.wr e (rl.append rl2)) ((g1.trans g2).trans (Go.wr e)) .non⟩
    | _ => exact q1.elim
end

/-! ### functions -/
abbrev DSp := List D → Mu → DK → Prop
def spOf (K : PySem.W.Frag) (dsp : DSp) : Sp := fun vs H Q _ => ∃ ds μ G k, Wd K G H μ ∧ RepL K G vs ds ∧ dsp ds μ k ∧ Then K μ G H k Q
set_option checkBinderAnnotations false in
def dCall (dsp : DSp) (ds : List D) (μ : Mu) [k : DK] : Prop := dsp ds μ k
@[simp] def rCall (dsp : DSp) (ra : RA) : RE := fun δ μ k => ra δ μ fun ds μ1 => @dCall dsp ds μ1 k
@[simp] def startD (N : List Str) (ds : List D) : Sl := ds.map some ++ List.replicate (N.length - ds.length) none
section
variable {K : PySem.W.Frag}
theorem okE_call {dsp : DSp} {E : XK} {t : TA} {r : RA} (h : OkA K t r) : OkE K (tCall (spOf K dsp) [] E t) (rCall dsp r) := fun σ δ μ G H k Q S w q b =>
  h σ δ μ G H _ _ S w q fun vs ds μ1 G1 H1 q1 w1 g1 r1 => by
    show spOf K dsp (vs ++ []) H1 Q E
    rw [List.append_nil]
    exact ⟨ds, μ1, G1, k, w1, r1, q1, fun v d μ' G' H' qk w' g' r' => b v d μ' G' H' qk w' (g1.trans g') r'⟩
theorem RepL.somes {G : Hp} : ∀ {vs : List V} {ds : List D} {i : Nat} {d : D}, RepL K G vs ds → (ds.map some)[i]? = some (some d) → ∃ v, (vs.map some)[i]? = some (some v) ∧ Rep K G v d := fun {vs ds i d} r e => by
  rw [List.getElem?_map] at e
  cases q : ds[i]? with
  | none => rw [q] at e; cases e
  | some d' =>
    rw [q] at e
    cases e
    obtain ⟨v, h1, h2⟩ := r.getD' q
    exact ⟨v, by rw [List.getElem?_map, h1]; rfl, h2⟩
theorem start_ok {G : Hp} {vs : List V} {ds : List D} {N : List Str} (r : RepL K G vs ds) : SlOk K G (L2.start N vs) (startD N ds) := by
  unfold L2.start startD
  rw [r.length]
  refine ⟨by simp [r.length], fun i d e => ?_⟩
  by_cases hi : i < ds.length
  · rw [List.getElem?_append_left (by simpa using hi)] at e
    obtain ⟨v, h1, h2⟩ := RepL.somes r e
    exact ⟨v, by rw [List.getElem?_append_left (by rw [List.length_map, r.length]; exact hi)]; exact h1, h2⟩
  · rw [List.getElem?_append_right (by simpa using hi), List.getElem?_replicate] at e
    split at e <;> cases e
/-- a def as its callers want it -/
structure FnD (P : Program) (w : World) (K : PySem.W.Frag) (mg : Str → Option Value) (base : Heap) (x : Str) (k : Nat) (dsp : DSp) : Prop where
  ex : ∃ (f : Addr) (fd : FuncData) (ps : List Str), FnOk P w K mg base CX0 k f fd ps (spOf K dsp) ∧ mg x = some (.ref f) ∧ PySem.W.keepIn K (.ref f) = true ∧ Binds K fd ps []
/-- the rule for a def -/
theorem fn_mk {P : Program} {w : World} {mg : Str → Option Value} {base : Heap} {x qual : Str} {st : Stmt} {f : Addr} {fd : FuncData} {N ps : List Str} {k : Nat} {dsp : DSp} {t : TS} {r : RS} (F : Fun K x qual st f fd) (S : FnScope N ps (defScope st))
    (len : ∀ ds μ k, dsp ds μ k → ds.length = ps.length)
    (body : ∀ (cdv : Value) (A : Around) (outer : List Env) (s : Shared) (H : Hp) (E : XK), Room k (A.deeper (envOfC qual (defScope st) s.heap.objs.size f cdv)) → DSs (cxOf CX0 P w K mg base N qual (defScope st) f cdv A outer s H E).nox (defBody st) t r)
    (vc : ∀ ds μ k, dsp ds μ k → r { nx := fun _ μ' => k .non μ', rt := k } (startD N ds) μ) : FnOk P w K mg base CX0 (k + 1) f fd ps (spOf K dsp) := by
  refine F.ok S (fun vs H Q E h => ?_) (fun cdv A outer s H vs Q E hr h => ?_)
  · obtain ⟨ds, μ, G, k, _, rl, hd, _⟩ := h
    rw [rl.length]
    exact len ds μ k hd
  · obtain ⟨ds, μ, G, k', wd, rl, hd, th⟩ := h
    have B := body cdv A outer s H E hr
    refine ⟨t, B.p, B.o (L2.start N vs) (startD N ds) μ G H _ _ (start_ok rl) wd (vc ds μ k' hd) ⟨fun σ' δ' μ' G' H' h S' w' g' => th _ _ μ' G' H' h w' g' .non, fun _ _ _ _ _ h => h.elim, fun _ _ _ _ _ h => h.elim, fun v d μ' G' H' h w' g' r' => th v d μ' G' H' h w' g' r'⟩⟩
/-- less is known of the own lists -/
def Sub (μ' μ : Mu) : Prop := ∀ p ds, μ' p = some ds → μ p = some ds
theorem Wd.sub {G H : Hp} {μ μ' : Mu} (w : Wd K G H μ) (s : Sub μ' μ) : Wd K G H μ' := ⟨w.ex, fun p ds e => w.mu p ds (s p ds e)⟩
theorem Go.sub {μ0 μ μ' : Mu} {G0 H0 G H : Hp} (g : Go μ0 G0 H0 μ G H) (s : Sub μ' μ) : Go μ0 G0 H0 μ' G H := ⟨g.eg, g.kp, fun a h => g.dm a (fun z => h (by
  cases e : μ' a with
  | none => rfl
  | some d => rw [s a d e] at z; cases z)), g.gf⟩
/-- the rule for a def; own lists may be left behind -/
theorem fn_mkW {P : Program} {w : World} {mg : Str → Option Value} {base : Heap} {x qual : Str} {st : Stmt} {f : Addr} {fd : FuncData} {N ps : List Str} {k : Nat} {dsp : DSp} {t : TS} {r : RS} (F : Fun K x qual st f fd) (S : FnScope N ps (defScope st))
    (len : ∀ ds μ k, dsp ds μ k → ds.length = ps.length)
    (body : ∀ (cdv : Value) (A : Around) (outer : List Env) (s : Shared) (H : Hp) (E : XK), Room k (A.deeper (envOfC qual (defScope st) s.heap.objs.size f cdv)) → DSs (cxOf CX0 P w K mg base N qual (defScope st) f cdv A outer s H E).nox (defBody st) t r)
    (vc : ∀ ds μ k, dsp ds μ k → r { nx := fun _ μ' => ∃ μ'', Sub μ'' μ' ∧ k .non μ'', rt := fun d μ' => ∃ μ'', Sub μ'' μ' ∧ k d μ'' } (startD N ds) μ) : FnOk P w K mg base CX0 (k + 1) f fd ps (spOf K dsp) := by
  refine F.ok S (fun vs H Q E h => ?_) (fun cdv A outer s H vs Q E hr h => ?_)
  · obtain ⟨ds, μ, G, k, _, rl, hd, _⟩ := h
    rw [rl.length]
    exact len ds μ k hd
  · obtain ⟨ds, μ, G, k', wd, rl, hd, th⟩ := h
    have B := body cdv A outer s H E hr
    refine ⟨t, B.p, B.o (L2.start N vs) (startD N ds) μ G H _ _ (start_ok rl) wd (vc ds μ k' hd) ⟨fun σ' δ' μ' G' H' ⟨μ'', hs, h⟩ S' w' g' => th _ _ μ'' G' H' h (w'.sub hs) (g'.sub hs) .non, fun _ _ _ _ _ h => h.elim, fun _ _ _ _ _ h => h.elim, fun v d μ' G' H' ⟨μ'', hs, h⟩ w' g' r' => th v d μ'' G' H' h (w'.sub hs) (g'.sub hs) r'⟩⟩
end
end DL


set_option Elab.async false
set_option linter.all false
set_option maxRecDepth 100000
set_option maxHeartbeats 4000000
/-! DLg: calls of defs as a rule, bodies, instances with slots, texts. -/
namespace DL
open PySem PySem.Spec PyProof.Rows L2 SlX

/-- a def's body: what is to be shown of it, once -/
def Body (P : Program) (w : World) (K : PySem.W.Frag) (mg : Str → Option Value) (base : Heap) (k : Nat) (qual : Str) (st : Stmt) (N : List Str) (r : RS) : Prop :=
  ∀ f : Addr, ∃ t : TS, ∀ (cdv : Value) (A : Around) (outer : List Env) (s : Shared) (H : Hp) (E : XK), Room k (A.deeper (envOfC qual (defScope st) s.heap.objs.size f cdv)) → DSs (cxOf CX0 P w K mg base N qual (defScope st) f cdv A outer s H E).nox (defBody st) t r
section
variable {P : Program} {w : World} {K : PySem.W.Frag} {mg : Str → Option Value} {base : Heap}
theorem fn_body {x qual : Str} {st : Stmt} {f : Addr} {fd : FuncData} {N ps : List Str} {k : Nat} {dsp : DSp} {r : RS} (B : Body P w K mg base k qual st N r) (F : Fun K x qual st f fd) (S : FnScope N ps (defScope st))
    (len : ∀ ds μ k, dsp ds μ k → ds.length = ps.length)
    (vc : ∀ ds μ k, dsp ds μ k → r { nx := fun _ μ' => k .non μ', rt := k } (startD N ds) μ) : FnOk P w K mg base CX0 (k + 1) f fd ps (spOf K dsp) := by
  obtain ⟨t, h⟩ := B f
  exact fn_mk F S len h vc
/-- where a def of the module stands -/
structure At (K : PySem.W.Frag) (mg : Str → Option Value) (x : Str) (st : Stmt) : Prop where
  ex : ∃ (f : Addr) (fd : FuncData), Fun K x x st f fd ∧ mg x = some (.ref f) ∧ PySem.W.keepIn K (.ref f) = true
/-- a def of the module, for its callers; hb: as in Fun.binds -/
theorem fnD_of {x : Str} {st : Stmt} {N ps : List Str} {k : Nat} {dsp : DSp} {r : RS} (a : At K mg x st) (B : Body P w K mg base k x st N r) (S : FnScope N ps (defScope st))
    (hb : ∀ (kV doc pm : Value) (an : Option Addr) (cdv ct : Value) (us : List Value), us.length = ps.length → bindArgs (PySem.W.fnOf x x (defArgs st) (defBody st) (defScope st) .none kV doc pm an cdv ct) ⟨us, []⟩ = pure (ps.zip us))
    (len : ∀ ds μ k, dsp ds μ k → ds.length = ps.length)
    (vc : ∀ ds μ k, dsp ds μ k → r { nx := fun _ μ' => k .non μ', rt := k } (startD N ds) μ) : FnD P w K mg base x (k + 1) dsp := by
  obtain ⟨f, fd, F, hm, hk⟩ := a.ex
  exact ⟨f, fd, ps, fn_body B F S len vc, hm, hk, F.binds hb⟩
theorem fnD_ofW {x : Str} {st : Stmt} {N ps : List Str} {k : Nat} {dsp : DSp} {r : RS} (a : At K mg x st) (B : Body P w K mg base k x st N r) (S : FnScope N ps (defScope st))
    (hb : ∀ (kV doc pm : Value) (an : Option Addr) (cdv ct : Value) (us : List Value), us.length = ps.length → bindArgs (PySem.W.fnOf x x (defArgs st) (defBody st) (defScope st) .none kV doc pm an cdv ct) ⟨us, []⟩ = pure (ps.zip us))
    (len : ∀ ds μ k, dsp ds μ k → ds.length = ps.length)
    (vc : ∀ ds μ k, dsp ds μ k → r { nx := fun _ μ' => ∃ μ'', Sub μ'' μ' ∧ k .non μ'', rt := fun d μ' => ∃ μ'', Sub μ'' μ' ∧ k d μ'' } (startD N ds) μ) : FnD P w K mg base x (k + 1) dsp := by
  obtain ⟨f, fd, F, hm, hk⟩ := a.ex
  obtain ⟨t, h⟩ := B f
  exact ⟨f, fd, ps, fn_mkW F S len h vc, hm, hk, F.binds hb⟩
end
theorem pe_callD {X : Cx} {x : Str} {k j : Nat} {dsp : DSp} {e : Expr} {es : List Expr} {p pos : Pos} {t : TA} (F : FnD X.prog X.w X.K X.mg X.base x k dsp) (hr : Room k X.A) (hg : Gl X x) (ha : PA X (e :: es) t)
    (hdb : (x == ("__debug__" : Str)) = false := by decide) (he : starEach (e :: es) X.env = (false, eval e X.env) :: starEach es X.env := by rfl) (hpl : (backTo pos (starEach es X.env)).any (·.1) = false := by rfl) :
    PE X (.Call (.Name x p) (e :: es) [] pos) (tCall (spOf X.K dsp) [] E0 t) := by
  obtain ⟨f, fd, ps, G, hm, hk, hb⟩ := F.ex
  exact pe_call G hr hg hm hk hb .nil pass0 ha hdb he hpl

/-! ### great powers, a tuple times a number -/
def CPowW (i j : Int) : Prop := 0 ≤ j ∧ j ≤ 100 ∧ i.natAbs < 2 ^ 1000
section
variable {K : PySem.W.Frag}
/-- e.f, a slot -/
@[simp] def rFld (C : Addr) (i : Nat) (ra : RE) : RE := fun δ μ k => ra δ μ fun x μ1 => match x with | .obj C' ds => C' = C ∧ ∃ d, ds[i]? = some d ∧ k d μ1 | _ => False
theorem okE_fld {C p : Addr} {f : Str} {i : Nat} {te : TE} {ra : RE} (c : SCls K C) (s1 : Slot1 K C f p i) (h : OkE K te ra) : OkE K (SlX.tSl K te f) (rFld C i ra) := fun σ δ μ G H k Q S w q b =>
  h σ δ μ G H _ _ S w q fun v d μ1 G1 H1 q1 w1 g1 r1 => by
    cases r1 with
    | @obj a C' dx vs ds hs rl =>
      obtain ⟨rfl, d, e, q2⟩ := q1
      obtain ⟨u, h1, h2⟩ := rl.getD' e
      exact ⟨a, C', dx, p, _, i, u, rfl, w1.ex.slt hs, c, s1, by rw [List.getElem?_map, h1]; rfl, b u d μ1 G1 H1 q2 w1 g1 h2⟩
    | _ => exact q1.elim
/-- e.f, a property; o.m() -/
@[simp] def rGet (C : Addr) (dsp : DSp) (ra : RE) : RE := fun δ μ k => ra δ μ fun x μ1 => match x with | .obj C' _ => C' = C ∧ @dCall dsp [x] μ1 k | _ => False
theorem okE_prop {C : Addr} {dsp : DSp} {E : XK} {te : TE} {ra : RE} (h : OkE K te ra) : OkE K (tPropSl C (spOf K dsp) E te) (rGet C dsp ra) := fun σ δ μ G H k Q S w q b =>
  h σ δ μ G H _ _ S w q fun v d μ1 G1 H1 q1 w1 g1 r1 => by
    cases r1 with
    | @obj a C' dx vs ds hs rl =>
      obtain ⟨rfl, q2⟩ := q1
      exact ⟨a, dx, _, rfl, w1.ex.slt hs, _, μ1, G1, k, w1, .cons (.obj hs rl) .nil, q2, fun v d μ' G' H' qk w' g' r' => b v d μ' G' H' qk w' (g1.trans g') r'⟩
    | _ => exact q1.elim
theorem okE_meth0 {C : Addr} {dsp : DSp} {E : XK} {te : TE} {ra : RE} (h : OkE K te ra) : OkE K (tMethSl C (spOf K dsp) E te tNil) (rGet C dsp ra) := fun σ δ μ G H k Q S w q b =>
  h σ δ μ G H _ _ S w q fun v d μ1 G1 H1 q1 w1 g1 r1 => by
    cases r1 with
    | @obj a C' dx vs ds hs rl =>
      obtain ⟨rfl, q2⟩ := q1
      exact ⟨a, dx, _, rfl, w1.ex.slt hs, _, μ1, G1, k, w1, .cons (.obj hs rl) .nil, q2, fun v d μ' G' H' qk w' g' r' => b v d μ' G' H' qk w' (g1.trans g') r'⟩
    | _ => exact q1.elim
end
/-- where a property of the class at C stands, and its getter's promise -/
structure PropD (P : Program) (w : World) (K : PySem.W.Frag) (mg : Str → Option Value) (base : Heap) (C : Addr) (f : Str) (n : Nat) (dsp : DSp) : Prop where
  ex : ∃ p g : Addr, PySem.W.findIn K (.ref C) f = some (some (.ref p)) ∧ PySem.W.specialIn K (.ref p) "__get__" = some (some (.builtin "property.__get__")) ∧ PySem.W.takesIn K (.ref p) = some true ∧
    (∃ rest, PySem.W.recIn K p "property" = some (.ref g :: rest)) ∧ FnR P w K mg base CX0 n g (spOf K dsp)
theorem pe_propD {X : Cx} {C : Addr} {f : Str} {n : Nat} {dsp : DSp} {e : Expr} {te : TE} {pos : Pos} (c : SCls X.K C) (F : PropD X.prog X.w X.K X.mg X.base C f n dsp) (hr : Room (n + 1) X.A) (he : PE X e te) (hb : attributeBase e f X.env (eval e X.env) = eval e X.env := by rfl) :
    PE X (.Attribute e f pos) (tPropSl C (spOf X.K dsp) E0 te) := by
  obtain ⟨p, g, h1, h2, h3, h4, F⟩ := F.ex
  exact pe_propSl he c h1 h2 h3 h4 F hr (fun _ _ _ _ h => h.elim) hb
structure MethD (P : Program) (w : World) (K : PySem.W.Frag) (mg : Str → Option Value) (base : Heap) (C : Addr) (m : Str) (n : Nat) (dsp : DSp) : Prop where
  ex : ∃ g : Addr, Meth K C m g ∧ FnR P w K mg base CX0 n g (spOf K dsp)
theorem FnOk.pos {P : Program} {w : World} {K : PySem.W.Frag} {mg : Str → Option Value} {base : Heap} {k : Nat} {f : Addr} {fd : FuncData} {ps : List Str} {dsp : DSp} (F : FnOk P w K mg base CX0 k f fd ps (spOf K dsp)) (hb : Binds K fd ps []) : FnR P w K mg base CX0 k f (spOf K dsp) :=
  (F.raw hb .nil).imp fun vs H Q E h => by
    show spOf K dsp (vs ++ []) H Q E
    rw [List.append_nil]
    exact h

/-! ### texts -/
section
variable {K : PySem.W.Frag}
/-- {e} in an f-string -/
@[simp] def rFmt (ra : RE) : RE := fun δ μ k => ra δ μ fun x μ1 => match x with
  | .str y => y.length ≤ 1000000 ∧ k (.str y) μ1
  | .int i => i.natAbs.log2 < 1920 ∧ k (.str (toString i)) μ1
  | _ => False
theorem okE_fmt {te : TE} {ra : RE} (h : OkE K te ra) : OkE K (tFmt te) (rFmt ra) := fun σ δ μ G H k Q S w q b =>
  h σ δ μ G H _ _ S w q fun v d μ1 G1 H1 q1 w1 g1 r1 => by
    cases r1 with
    | str y => exact .inl ⟨y, rfl, sz_of q1.1, b _ _ μ1 G1 H1 q1.2 w1 g1 (.str _)⟩
    | int i => exact .inr ⟨i, rfl, q1.1, b _ _ μ1 G1 H1 q1.2 w1 g1 (.str _)⟩
    | _ => exact q1.elim
@[simp] def rJs : List RE → Str → Sl → Mu → (Str → Mu → Prop) → Prop
  | [], acc, _, μ, k => k acc μ
  | r :: rs, acc, δ, μ, k => r δ μ fun x μ1 => match x with
    | .str y => (acc ++ y).length ≤ 1000000 ∧ rJs rs (acc ++ y) δ μ1 k
    | _ => False
def OkJ (K : PySem.W.Frag) (ts : List TE) (rs : List RE) : Prop := ∀ (acc : Str) (σ : L2.St) (δ : Sl) (μ : Mu) (G H : Hp) (k : Str → Mu → Prop) (Q : Str → Hp → Prop), SlOk K G σ δ → Wd K G H μ → rJs rs acc δ μ k →
  (∀ x μ' G' H', k x μ' → Wd K G' H' μ' → Go μ G H μ' G' H' → Q x H') → tJs ts acc σ H Q
theorem okJ_nil : OkJ K [] [] := fun acc σ δ μ G H k Q S w q b => b acc μ G H q w (Go.refl _ _ _)
theorem okJ_cons {t : TE} {r : RE} {ts : List TE} {rs : List RE} (h : OkE K t r) (hs : OkJ K ts rs) : OkJ K (t :: ts) (r :: rs) := fun acc σ δ μ G H k Q S w q b =>
  h σ δ μ G H _ _ S w q fun v d μ1 G1 H1 q1 w1 g1 r1 => by
    cases r1 with
    | str y => exact ⟨y, rfl, sz_of q1.1, hs _ σ δ μ1 G1 H1 k Q (S.mono g1.eg) w1 q1.2 fun x μ' G' H' qk w' g' => b x μ' G' H' qk w' (g1.trans g')⟩
    | _ => exact q1.elim
@[simp] def rJoined (rs : List RE) : RE := fun δ μ k => rJs rs Str.empty δ μ fun x μ1 => k (.str x) μ1
theorem okE_joined {ts : List TE} {rs : List RE} (h : OkJ K ts rs) : OkE K (fun σ H Q => tJs ts Str.empty σ H fun out H1 => Q (.str out) H1) (rJoined rs) := fun σ δ μ G H k Q S w q b =>
  h _ σ δ μ G H _ _ S w q fun x μ' G' H' qk w' g' => b _ _ μ' G' H' qk w' g' (.str x)
/-- sep.join(xs), xs a list or a tuple of texts -/
@[simp] def rJoin (ro ra : RE) : RE := fun δ μ k => ro δ μ fun o μ1 => match o with
  | .str a => ra δ μ1 fun x μ2 => ∃ ys : List Str, asQ μ2 x = some (ys.map D.str) ∧ (ys.map (·.length)).sum + ys.length * a.length ≤ 16777216 ∧ k (.str (Txt.join a ys)) μ2
  | _ => False
end
end DL


set_option Elab.async false
set_option linter.all false
set_option maxRecDepth 100000
set_option maxHeartbeats 4000000
/-! DLh: great powers, tuple times int, join. -/
namespace DL
open PySem PySem.Spec PyProof.Rows L2 SlX

/-- t * 1 is t itself -/
theorem tup_mul_one (l : Addr) (items : Array Value) (n : Nat) (dd : Option Addr) (sl : Array (Option Value)) (u : Tok) :
    Meets (Builtin.«tuple.__mul__» ⟨[.ref l, .int 1 u], []⟩) (fun _ R s => s.heap.get? l = some { cls := .type "tuple", dict := dd, data := .seq items n, slots := sl } ∧ R (.ok (.ret (.ref l))) s) :=
  .of_wp fun prog w A R s h => by
    obtain ⟨hp, g, d, tk, os⟩ := s
    obtain ⟨hl, h⟩ := h
    have f1 := AutoSeq1.idx_int
    have c0 : (decide ((1 : Int) < -(2 ^ 63)) || decide ((1 : Int) ≥ 2 ^ 63)) = false := by decide
    have c1 : (items.isEmpty || (1 : Int) == 1) = true := by simp
    wp_walk using wpAny_loadPart' hl
    repeat (first
      | (refine wpAny_ite_false (decide_eq_false (by rw [c0]; exact Bool.false_ne_true)) ?_; wp_walk using wpAny_loadPart' hl)
      | (refine wpAny_ite_true (decide_eq_true (by rw [c1])) ?_; wp_walk using wpAny_loadPart' hl))
    exact ⟨_, rfl, h⟩
section
variable {X : Cx}
/-- a tuple times an int from 1 on -/
def rRepA (K : PySem.W.Frag) : R2 := fun x y H Q => ∃ l k xs, x = .ref l ∧ y = .int k ∧ SqT K H l xs ∧ xs ≠ [] ∧ 1 ≤ k ∧ k ≤ 1000 ∧ xs.length ≤ 1000 ∧ (k = 1 → Q (.ref l) H) ∧ (k ≠ 1 → ∀ p, H p = none → Q (.ref p) (upd H p (.tup (List.replicate k.toNat xs).flatten)))
theorem op_repTA : OpR X (binaryOp .Mult) (rRepA X.K) := by
  intro pins s σ H x y v u Q I rx ry h
  obtain ⟨l, k, xs, hx, hy, hT, hne, h1, h2, hz, q1, q2⟩ := h
  by_cases hk : k = 1
  · have q := q1 hk
    subst hx hy hk
    cases rx
    obtain ⟨t, rfl⟩ := ry
    obtain ⟨its, r, ⟨⟨cls, dd, data, sl⟩, ho, hc, n, hd⟩, hs⟩ := I.tuple hT
    simp only at hc hd
    subst hc hd
    exact wpAny_binaryOp_repeat_ref (T := "tuple") (U := "int") (by decide) ⟨_, ho, rfl⟩ (fun s' => typeIs_int s' 1 t) noFill_tuple_mul F.fills_int_mul F.slot_int_rmul repeat_tuple F.slot_int_index.lookup
      (call_meets F.slot_int_rmul (typeIs_int s 1 t) F.entry_int_rmul (F.args_int_rmul_2 _ _) (int_rmul_tuple 1 t l its.toArray n dd sl)
        ⟨ho, rfl, ⟨_, ho, rfl⟩, call_meets F.slot_tuple_mul ⟨_, ho, rfl⟩ F.entry_tuple_mul (F.args_tuple_mul_2 _ _) (tup_mul_one l its.toArray n dd sl t) ⟨ho, .ref l, H, I, rfl, q⟩⟩)
  · exact op_repT pins s σ H x y v u Q I rx ry ⟨l, k, xs, hx, hy, hT, hne, by omega, h2, hz, q2 hk⟩
/-- ints of up to a thousand bits to powers of at most a hundred -/
theorem op_powW : OpR X (binaryOp .Pow) (rI CPowW fun i j => .int (i ^ j.toNat)) := by
  intro pins s σ H x y v u Q I rx ry h
  obtain ⟨i, j, rfl, rfl, ⟨h0, h1, hb⟩, q⟩ := h
  obtain ⟨t, rfl⟩ := rx
  obtain ⟨t', rfl⟩ := ry
  have b1 : Builtin.Int.intBits i ≤ i.natAbs.log2 + 1 := by
    unfold Builtin.Int.intBits
    split <;> omega
  have b2 := PySem.Flt.log2_lt_of (by decide : 0 < 1000) hb
  refine pow_int h0 ?_ ⟨.int _, H, I.tok _, ⟨_, rfl⟩, q⟩
  have : (Builtin.Int.intBits i : Int) ≤ 1000 := by omega
  calc (Builtin.Int.intBits i : Int) * j ≤ 1000 * j := Int.mul_le_mul_of_nonneg_right this h0
    _ ≤ 2 ^ 27 := by omega
end
section
variable {K : PySem.W.Frag}
@[simp] def oRepT : F2 := fun x y μ k => match x, y with | .tup xs, .int j => xs ≠ [] ∧ 1 ≤ j ∧ j ≤ 1000 ∧ xs.length ≤ 1000 ∧ k (.tup (List.replicate j.toNat xs).flatten) μ | _, _ => False
theorem okRepT : OkOp K (rRepA K) oRepT := fun x y a b μ G H k Q w rx ry q t => by
  cases rx with
  | @tup l vs ds h r =>
    cases ry with
    | int j =>
      obtain ⟨h0, h1, h2, h3, q⟩ := q
      refine ⟨l, j, vs, rfl, rfl, w.ex.t h, fun z => h0 ?_, h1, h2, by rw [r.length]; exact h3, fun z => ?_, fun z p hp => mkTup w (r.flat _) q t p hp⟩
      · have := r.length
        rw [z] at this
        exact List.eq_nil_of_length_eq_zero this.symm
      · subst z
        have e : (List.replicate (1 : Int).toNat ds).flatten = ds := by simp
        rw [e] at q
        exact t _ _ μ G H q w (Go.refl _ _ _) (.tup h r)
    | _ => exact q.elim
  | _ => exact q.elim
theorem okE_join {to ta : TE} {ro ra : RE} (ho : OkE K to ro) (ha : OkE K ta ra) : OkE K (tM1 (fun x xs H Q => ∃ a p, ∃ ys : List Str, x = .str a ∧ xs = [.ref p] ∧ (SqL K H p (ys.map V.str) ∨ SqT K H p (ys.map V.str)) ∧
      (ys.map (·.length)).sum + ys.length * a.length ≤ 16777216 ∧ Q (.str (Txt.join a ys)) H) to ta) (rJoin ro ra) := fun σ δ μ G H k Q S w q b =>
  ho σ δ μ G H _ _ S w q fun v o μ1 G1 H1 q1 w1 g1 r1 => by
    cases r1 with
    | str a =>
      refine ⟨⟨a, rfl⟩, ha σ δ μ1 G1 H1 _ _ (S.mono g1.eg) w1 q1 fun x d μ2 G2 H2 ⟨ys, e, hl, q2⟩ w2 g2 r2 => ?_⟩
      obtain ⟨p, vs, rfl, hp, rl⟩ := asQ_out w2 r2 e
      rw [rl.strs] at hp
      exact ⟨a, p, ys, rfl, rfl, hp, hl, b _ _ μ2 G2 H2 q2 w2 (g1.trans g2) (.str _)⟩
    | _ => exact q1.elim
end
end DL


set_option Elab.async false
set_option linter.all false
set_option maxRecDepth 100000
set_option maxHeartbeats 4000000
/-! DLr: the rules of HandS with the written part K said outright (so that readings do not hang on the frame). -/
namespace DL
open PySem PySem.Spec PyProof.Rows L2 SlX
section
variable (K : PySem.W.Frag) {X : Cx}
theorem kc_isi (hK : X.K = K := by rfl) : CallR X (.builtin "isinstance") (rIsi K) := by subst hK; exact call_isi
theorem kc_len (hK : X.K = K := by rfl) : CallR X (.builtin "len") (fun xs H Q => ∃ x n, xs = [x] ∧ LenV K x H n ∧ Q (.int (n : Nat)) H) := by subst hK; exact call_len
theorem kc_sum (hc : X.calm = true := by rfl) (hK : X.K = K := by rfl) : CallR X (.builtin "sum") (rSum K) := by subst hK; exact cr_sum hc
theorem kc_all (hc : X.calm = true := by rfl) (hK : X.K = K := by rfl) : CallR X (.builtin "all") (rAll K) := by subst hK; exact cr_all hc
theorem kc_any (hc : X.calm = true := by rfl) (hK : X.K = K := by rfl) : CallR X (.builtin "any") (rAny K) := by subst hK; exact cr_any hc
theorem kc_list (hK : X.K = K := by rfl) : CallR X (.type "list") (fun xs H Q => ∃ p ys, xs = [V.ref p] ∧ (SqL K H p ys ∨ SqT K H p ys) ∧ ∀ l, H l = none → Q (.ref l) (upd H l (.lst ys))) := by subst hK; exact call_list_of
theorem kc_tuple (hK : X.K = K := by rfl) : CallR X (.type "tuple") (fun xs H Q => ∃ p ys, xs = [V.ref p] ∧ ((SqL K H p ys ∧ ∀ l, H l = none → Q (.ref l) (upd H l (.tup ys))) ∨ (SqT K H p ys ∧ Q (.ref p) H))) := by subst hK; exact call_tuple_of
theorem ko_eqD (hu : X.A.units + 64 < cLine) (hK : X.K = K := by rfl) : OpR X (compareOp .Eq) (rEqD K) := by subst hK; exact op_eqD hu
theorem ko_neD (hu : X.A.units + 64 < cLine) (hK : X.K = K := by rfl) : OpR X (compareOp .NotEq) (rNeD K) := by subst hK; exact op_neD hu
theorem ko_catA (hK : X.K = K := by rfl) : OpR X (binaryOp .Add) (rCatA K) := by subst hK; exact op_catA
theorem ko_repTA (hK : X.K = K := by rfl) : OpR X (binaryOp .Mult) (rRepA K) := by subst hK; exact op_repTA
theorem kx_seq (hK : X.K = K := by rfl) : IxR X (rIx K) := by subst hK; exact ix_seq
theorem kx_list (hK : X.K = K := by rfl) : IxR X (rIxL K) := by subst hK; exact ix_list
theorem ks_list (hK : X.K = K := by rfl) : SlR X (rSlL K) := by subst hK; exact sl_list
theorem ks_tupA (hK : X.K = K := by rfl) : SlR X (rSlA K) := by subst hK; exact sl_tupA
theorem ki_list {tg l : Expr} {tl : TE} (hl : PE X l tl) (hK : X.K = K := by rfl) : PI X tg l (iList K tl) := by subst hK; exact pi_list hl
theorem ki_tup {tg l : Expr} {tl : TE} (hl : PE X l tl) (hK : X.K = K := by rfl) : PI X tg l (iTup K tl) := by subst hK; exact pi_tup hl
theorem ki_zip {e e2 : Expr} {ta : TA} {p pos tpos : Pos} {elts : List Expr} {kk : Nat} (hg : Gl X "zip") (hm : X.mg "zip" = none) (ha : PA X [e, e2] ta) (hK : X.K = K := by rfl)
    (hs : starEach [e, e2] X.env = (false, eval e X.env) :: starEach [e2] X.env := by rfl) (hpl : (backTo pos (starEach [e2] X.env)).any (·.1) = false := by rfl) :
    PI X (.Tuple elts kk tpos) (.Call (.Name "zip" p) [e, e2] [] pos) (iZipM K ta) := by subst hK; exact pi_zipM hg hm ha hs hpl
theorem kg_tup {es : List Expr} {k : Nat} {pos : Pos} {t : TGs} {n : Nat} (h : PGs X es t) (hc : X.calm = true := by rfl) (hK : X.K = K := by rfl)
    (hn : (assignEach es X.env).length = n := by rfl) (hst : (assignEach es X.env).findIdx? (·.1) = none := by rfl) : PG X (.Tuple es k pos) (gTup K n t) := by subst hK; exact pg_tup hc h hn hst
theorem ke_app {o e : Expr} {apos cpos : Pos} {to : TE} {t : TA} (ho : PE X o to) (ha : PA X [e] t) (hK : X.K = K := by rfl)
    (hbase : attributeBase o "append" X.env (eval o X.env) = eval o X.env := by rfl)
    (hfew : ((backTo cpos (starEach [e] X.env)).all (fun x => !x.1) && (backToKw cpos (keywordEach [] X.env)).all (fun x => x.1.isSome) && decide ([e].length + ([] : List Keyword).length + (if ([] : List Keyword).isEmpty then 0 else 1) < 30)) = true := by rfl)
    (hline : (apos.endLine == cpos.line) = true := by rfl) (hs : starEach [e] X.env = (false, eval e X.env) :: starEach [] X.env := by rfl) (hplain : (backTo cpos (starEach [] X.env)).any (·.1) = false := by rfl) :
    PE X (.Call (.Attribute o "append" apos) [e] [] cpos) (tBM K "list" rAppend to t) := by
  subst hK; exact pe_bm PySem.F.plainAttrs_list PySem.F.slot_list_append PySem.F.type_list_append mt_append ho ha hbase hfew hline hs hplain
theorem ke_ext {o e : Expr} {apos cpos : Pos} {to : TE} {t : TA} (ho : PE X o to) (ha : PA X [e] t) (hK : X.K = K := by rfl)
    (hbase : attributeBase o "extend" X.env (eval o X.env) = eval o X.env := by rfl)
    (hfew : ((backTo cpos (starEach [e] X.env)).all (fun x => !x.1) && (backToKw cpos (keywordEach [] X.env)).all (fun x => x.1.isSome) && decide ([e].length + ([] : List Keyword).length + (if ([] : List Keyword).isEmpty then 0 else 1) < 30)) = true := by rfl)
    (hline : (apos.endLine == cpos.line) = true := by rfl) (hs : starEach [e] X.env = (false, eval e X.env) :: starEach [] X.env := by rfl) (hplain : (backTo cpos (starEach [] X.env)).any (·.1) = false := by rfl) :
    PE X (.Call (.Attribute o "extend" apos) [e] [] cpos) (tBM K "list" rExtend to t) := by
  subst hK; exact pe_bm PySem.F.plainAttrs_list PySem.F.slot_list_extend PySem.F.type_list_extend mt_extend ho ha hbase hfew hline hs hplain
theorem ke_call {x : Str} {k : Nat} {dsp : DSp} {e : Expr} {es : List Expr} {p pos : Pos} {t : TA} {P : Program} {w : World} {mg : Str → Option Value} {base : Heap} (F : FnD P w K mg base x k dsp) {j : Nat} (hr : Room j X.A) (ha : PA X (e :: es) t)
    (hj : k ≤ j := by decide) (hg : Gl X x := by rfl) (hP : X.prog = P := by rfl) (hw : X.w = w := by rfl) (hK : X.K = K := by rfl) (hm : X.mg = mg := by rfl) (hb : X.base = base := by rfl)
    (hdb : (x == ("__debug__" : Str)) = false := by decide) (he : starEach (e :: es) X.env = (false, eval e X.env) :: starEach es X.env := by rfl) (hpl : (backTo pos (starEach es X.env)).any (·.1) = false := by rfl) :
    PE X (.Call (.Name x p) (e :: es) [] pos) (tCall (spOf K dsp) [] E0 t) := by
  subst hP hw hK hm hb
  exact pe_callD (j := 0) F (hr.mono hj) hg ha hdb he hpl
theorem ke_globI {x : Str} {i : Int} {pos : Pos} {mg : Str → Option Value} (h : ∃ t, mg x = some (.int i t)) (hm : X.mg = mg := by rfl) (hg : Gl X x := by rfl) (hd : (x == ("__debug__" : Str)) = false := by decide) : PE X (.Name x pos) (tC (.int i)) := by
  subst hm
  obtain ⟨t, h⟩ := h
  exact pe_glob hg h ⟨_, rfl⟩ hd
theorem ke_sl {e : Expr} {f : Str} {pos : Pos} {ta : TE} (he : PE X e ta) (hK : X.K = K := by rfl) (hb : attributeBase e f X.env (eval e X.env) = eval e X.env := by rfl) : PE X (.Attribute e f pos) (SlX.tSl K ta f) := by subst hK; exact pe_sl he hb
theorem ke_prop {C : Addr} {f : Str} {n j : Nat} {dsp : DSp} {e : Expr} {te : TE} {pos : Pos} {P : Program} {w : World} {mg : Str → Option Value} {base : Heap} (c : SCls K C) (F : PropD P w K mg base C f n dsp) (hr : Room j X.A) (he : PE X e te)
    (hj : n + 1 ≤ j := by decide) (hP : X.prog = P := by rfl) (hw : X.w = w := by rfl) (hK : X.K = K := by rfl) (hm : X.mg = mg := by rfl) (hb : X.base = base := by rfl) (hbb : attributeBase e f X.env (eval e X.env) = eval e X.env := by rfl) :
    PE X (.Attribute e f pos) (tPropSl C (spOf K dsp) E0 te) := by
  subst hP hw hK hm hb
  exact pe_propD c F (hr.mono hj) he hbb
theorem ke_join {o e : Expr} {to te : TE} {apos pos : Pos} (ho : PE X o to) (he : PE X e te) (hK : X.K = K := by rfl) (hs : starEach [e] X.env = [(false, eval e X.env)] := by rfl) (hbase : attributeBase o "join" X.env (eval o X.env) = eval o X.env := by rfl) (hline : (apos.endLine == pos.line) = true := by rfl) :
    PE X (.Call (.Attribute o "join" apos) [e] [] pos) (tM1 (fun x xs H Q => ∃ a p, ∃ ys : List Str, x = .str a ∧ xs = [.ref p] ∧ (SqL K H p (ys.map V.str) ∨ SqT K H p (ys.map V.str)) ∧ (ys.map (·.length)).sum + ys.length * a.length ≤ 16777216 ∧ Q (.str (Txt.join a ys)) H) to te) := by
  subst hK; exact pe_join ho he hs hbase hline
end
/-- a built-in by its name -/
theorem kb_call {X : Cx} {x : Str} {id : String} {r : List V → Hp → VK → Prop} {e : Expr} {es : List Expr} {t : TA} {p pos : Pos} {mg : Str → Option Value} (hc : CallR X (.builtin id) r) (hm : mg x = none) (ha : PA X (e :: es) t) (hg : Gl X x := by rfl) (hmg : X.mg = mg := by rfl) (hv : bootBuiltins x = some (.builtin id) := by decide +kernel)
    (hn : x ≠ "__name__" := by decide) (hdb : (x == ("__debug__" : Str)) = false := by decide) (he : starEach (e :: es) X.env = (false, eval e X.env) :: starEach es X.env := by rfl) (hpl : (backTo pos (starEach es X.env)).any (·.1) = false := by rfl) : PE X (.Call (.Name x p) (e :: es) [] pos) (tCB r t) := by
  subst hmg; exact pe_callB hc hg hm hv ha hn hdb he hpl
theorem kt_call {X : Cx} {x : Str} {T : String} {r : List V → Hp → VK → Prop} {e : Expr} {es : List Expr} {t : TA} {p pos : Pos} {mg : Str → Option Value} (hc : CallR X (.type T) r) (hm : mg x = none) (ha : PA X (e :: es) t) (hg : Gl X x := by rfl) (hmg : X.mg = mg := by rfl) (hv : bootBuiltins x = some (.type T) := by decide +kernel)
    (hn : x ≠ "__name__" := by decide) (hdb : (x == ("__debug__" : Str)) = false := by decide) (he : starEach (e :: es) X.env = (false, eval e X.env) :: starEach es X.env := by rfl) (hpl : (backTo pos (starEach es X.env)).any (·.1) = false := by rfl) : PE X (.Call (.Name x p) (e :: es) [] pos) (tCB r t) := by
  subst hmg; exact pe_callTy hc hg hm hv ha hn hdb he hpl
theorem kb_ty {X : Cx} {x : Str} {T : String} {pos : Pos} {mg : Str → Option Value} (hm : mg x = none) (hg : Gl X x := by rfl) (hmg : X.mg = mg := by rfl) (hv : bootBuiltins x = some (.type T) := by decide +kernel) (hn : x ≠ "__name__" := by decide) (hdb : (x == ("__debug__" : Str)) = false := by decide) : PE X (.Name x pos) (tC (.ty T)) := by
  subst hmg; exact pe_bltn hg hm hv rfl hn hdb
theorem kr_range1 {X : Cx} {tg a : Expr} {ta : TA} {p pos : Pos} {mg : Str → Option Value} (hm : mg "range" = none) (ha : PA X [a] ta) (hg : Gl X "range" := by rfl) (hmg : X.mg = mg := by rfl) (hs : starEach [a] X.env = [(false, eval a X.env)] := by rfl) : PI X tg (.Call (.Name "range" p) [a] [] pos) (iRng1 ta) := by
  subst hmg; exact pi_range1 hg hm ha hs
theorem kr_range2 {X : Cx} {tg a b : Expr} {ta : TA} {p pos : Pos} {mg : Str → Option Value} (hm : mg "range" = none) (ha : PA X [a, b] ta) (hg : Gl X "range" := by rfl) (hmg : X.mg = mg := by rfl) (hs : starEach [a, b] X.env = [(false, eval a X.env), (false, eval b X.env)] := by rfl) (hs2 : starEach [b] X.env = [(false, eval b X.env)] := by rfl) : PI X tg (.Call (.Name "range" p) [a, b] [] pos) (iRng2 ta) := by
  subst hmg; exact pi_range2 hg hm ha hs hs2
end DL


set_option Elab.async false
set_option linter.all false
set_option maxRecDepth 100000
set_option maxHeartbeats 4000000
/-! DLv: plain laws for what is to be shown of readings. -/
namespace DL
open PySem PySem.Spec PyProof.Rows L2 SlX

/-- the walk yields just these data -/
structure Src (it : DIt) (μ : Mu) (ds : List D) : Prop where
  len : it.n = ds.length
  at_ : ∀ i d, i < it.n → it.at_ i = some d → ds[i]? = some d
  ok : it.ok μ
theorem Src.l {μ : Mu} (ds : List D) : Src (itL ds) μ ds := ⟨rfl, fun _ _ _ h => h, trivial⟩
theorem Src.o {μ : Mu} {p : Addr} {ds : List D} (h : μ p = some (.l ds)) : Src (itO p ds) μ ds := ⟨rfl, fun _ _ _ h => h, h⟩
theorem Src.r {μ : Mu} (lo : Int) (n : Nat) : Src (itR lo n) μ ((List.range n).map fun i => .int (lo + (i : Nat))) := by
  refine ⟨by simp [itR], fun i d hi h => ?_, trivial⟩
  have hi : i < n := hi
  have h : some (D.int (lo + (i : Nat))) = some d := h
  rw [List.getElem?_map, List.getElem?_range hi]
  exact h
theorem Src.z {μ : Mu} {x y : D} {xs ys : List D} (h1 : asQ μ x = some xs) (h2 : asQ μ y = some ys) : Src (itZ x y xs ys) μ ((xs.zip ys).map fun q => .tup [q.1, q.2]) := by
  refine ⟨by simp [itZ], fun i d hi h => ?_, h1, h2⟩
  have hi : i < min xs.length ys.length := hi
  have hx : i < xs.length := by omega
  have hy : i < ys.length := by omega
  have h : pairD xs[i]? ys[i]? = some d := h
  have hz : i < (xs.zip ys).length := by rw [List.length_zip]; exact hi
  rw [List.getElem?_eq_getElem hx, List.getElem?_eq_getElem hy] at h
  rw [List.getElem?_map, List.getElem?_eq_getElem hz, List.getElem_zip]
  exact h
theorem Src.get {it : DIt} {μ : Mu} {α : Type} {e : α → D} {xs : List α} (s : Src it μ (xs.map e)) {i : Nat} {d : D} (hi : i < it.n) (h : it.at_ i = some d) : ∃ x, xs[i]? = some x ∧ d = e x := by
  have := s.at_ i d hi h
  rw [List.getElem?_map] at this
  cases q : xs[i]? with
  | none => rw [q] at this; cases this
  | some x => rw [q] at this; cases this; exact ⟨x, rfl, rfl⟩
theorem take_succ_of {α : Type} {xs : List α} {i : Nat} {x : α} (h : xs[i]? = some x) : xs.take (i + 1) = xs.take i ++ [x] := by
  have hi : i < xs.length := by
    by_cases hi : i < xs.length
    · exact hi
    · rw [List.getElem?_eq_none (by omega)] at h; cases h
  rw [List.getElem?_eq_getElem hi] at h
  cases h
  simp
/-- each element alone, nothing changes: kept by p, made by g -/
theorem lcW_filt {it : DIt} {rg : RG} {rt : RT} {re : RE} {vs : List Nat} {δ : Sl} {μ : Mu} {fin : List D → Mu → Prop} {α : Type} (xs : List α) (e g : α → D) (p : α → Bool) (s : Src it μ (xs.map e)) (hn : xs.length ≤ 1000000)
    (step : ∀ x ∈ xs, ∀ (kt : DK) (kf : Mu → Prop), (p x = true → kt (g x) μ) → (p x = false → kf μ) → rg (e x) (wipeD δ vs) μ fun δ2 μ2 => rt δ2 μ2 fun b μ3 => if b = true then re δ2 μ3 kt else kf μ3)
    (h : fin ((xs.filter p).map g) μ) : @rLcW it rg rt re vs δ μ fin := by
  refine ⟨by rw [s.len, List.length_map]; exact hn, fun i acc μ' => μ' = μ ∧ acc = ((xs.take i).filter p).map g, ⟨rfl, by simp⟩, fun i acc μ' q => q.1 ▸ s.ok, fun i acc μ' d hi hd q => ?_, fun acc μ' q => ?_⟩
  · obtain ⟨rfl, rfl⟩ := q
    obtain ⟨x, hx, rfl⟩ := s.get hi hd
    refine step x (List.mem_of_getElem? hx) _ _ (fun hp => ⟨rfl, ?_⟩) (fun hp => ⟨rfl, ?_⟩)
    · rw [take_succ_of hx, List.filter_append, List.map_append]; simp [hp]
    · rw [take_succ_of hx, List.filter_append, List.map_append]; simp [hp]
  · obtain ⟨rfl, rfl⟩ := q
    rw [s.len, List.length_map, List.take_length]
    exact h
theorem lcW_map {it : DIt} {rg : RG} {rt : RT} {re : RE} {vs : List Nat} {δ : Sl} {μ : Mu} {fin : List D → Mu → Prop} {α : Type} (xs : List α) (e g : α → D) (s : Src it μ (xs.map e)) (hn : xs.length ≤ 1000000)
    (step : ∀ x ∈ xs, ∀ (kt : DK) (kf : Mu → Prop), kt (g x) μ → rg (e x) (wipeD δ vs) μ fun δ2 μ2 => rt δ2 μ2 fun b μ3 => if b = true then re δ2 μ3 kt else kf μ3)
    (h : fin (xs.map g) μ) : @rLcW it rg rt re vs δ μ fin :=
  lcW_filt xs e g (fun _ => true) s hn (fun x hx kt kf h1 _ => step x hx kt kf (h1 rfl)) (by rw [List.filter_eq_self.mpr (fun _ _ => rfl)]; exact h)
/-- a walk that changes something: Inv by the turn -/
theorem lcW_inv {it : DIt} {rg : RG} {rt : RT} {re : RE} {vs : List Nat} {δ : Sl} {μ : Mu} {fin : List D → Mu → Prop} {α : Type} (xs : List α) (e : α → D) (s : Src it μ (xs.map e)) (hn : xs.length ≤ 1000000)
    (Inv : Nat → List D → Mu → Prop) (h0 : Inv 0 [] μ) (hok : ∀ i acc μ', Inv i acc μ' → it.ok μ')
    (step : ∀ i x acc μ', xs[i]? = some x → Inv i acc μ' → rg (e x) (wipeD δ vs) μ' fun δ2 μ2 => rt δ2 μ2 fun b μ3 => if b = true then re δ2 μ3 fun y μ4 => Inv (i + 1) (acc ++ [y]) μ4 else Inv (i + 1) acc μ3)
    (h : ∀ acc μ', Inv xs.length acc μ' → fin acc μ') : @rLcW it rg rt re vs δ μ fin := by
  have hl : it.n = xs.length := by rw [s.len, List.length_map]
  refine ⟨by rw [hl]; exact hn, Inv, h0, hok, fun i acc μ' d hi hd q => ?_, fun acc μ' q => h acc μ' (hl ▸ q)⟩
  obtain ⟨x, hx, rfl⟩ := s.get hi hd
  exact step i x acc μ' hx q
/-- the inner walk of two -/
theorem inW_map {it : DIt} {rg : RG} {rt : RT} {re : RE} {vs : List Nat} {δ : Sl} {μ : Mu} {acc0 : List D} {fin : List D → Mu → Prop} {α : Type} (xs : List α) (e g : α → D) (s : Src it μ (xs.map e)) (hn : acc0.length + xs.length < 1000000)
    (step : ∀ x ∈ xs, ∀ (kt : DK) (kf : Mu → Prop), kt (g x) μ → rg (e x) (wipeD δ vs) μ fun δ2 μ2 => rt δ2 μ2 fun b μ3 => if b = true then re δ2 μ3 kt else kf μ3)
    (h : fin (acc0 ++ xs.map g) μ) : @rInW it rg rt re vs δ μ acc0 fin := by
  refine ⟨fun i acc μ' => μ' = μ ∧ acc = acc0 ++ (xs.take i).map g, ⟨rfl, by simp⟩, fun i acc μ' q => ⟨q.1 ▸ s.ok, ?_⟩, fun i acc μ' d hi hd q => ?_, fun acc μ' q => ?_⟩
  · rw [q.2, List.length_append, List.length_map, List.length_take]
    omega
  · obtain ⟨rfl, rfl⟩ := q
    obtain ⟨x, hx, rfl⟩ := s.get hi hd
    refine step x (List.mem_of_getElem? hx) _ _ ⟨rfl, ?_⟩
    rw [take_succ_of hx, List.map_append]; simp
  · obtain ⟨rfl, rfl⟩ := q
    rw [s.len, List.length_map, List.take_length]
    exact h
theorem lc2_map {it : DIt} {rg : RG} {rt : RT} {ri1 : RI} {rg1 : RG} {rt1 : RT} {re : RE} {vs vs1 : List Nat} {δ : Sl} {μ : Mu} {fin : List D → Mu → Prop} {α : Type} (xs : List α) (e : α → D) (g : α → List D) (s : Src it μ (xs.map e)) (hn : xs.length ≤ 1000000)
    (step : ∀ x ∈ xs, ∀ (acc : List D) (kt : List D → Mu → Prop) (kf : Mu → Prop), (∃ i, acc = (xs.take i).flatMap g ∧ xs[i]? = some x) → kt (acc ++ g x) μ → rg (e x) (wipeD δ vs) μ fun δ2 μ2 => rt δ2 μ2 fun b μ3 => if b = true then ri1 δ2 μ3 fun it1 μ4 => @rInW it1 rg1 rt1 re vs1 δ2 μ4 acc kt else kf μ3)
    (h : fin (xs.flatMap g) μ) : @rLc2W it rg rt ri1 rg1 rt1 re vs vs1 δ μ fin := by
  refine ⟨by rw [s.len, List.length_map]; exact hn, fun i acc μ' => μ' = μ ∧ acc = (xs.take i).flatMap g, ⟨rfl, by simp⟩, fun i acc μ' q => q.1 ▸ s.ok, fun i acc μ' d hi hd q => ?_, fun acc μ' q => ?_⟩
  · obtain ⟨rfl, rfl⟩ := q
    obtain ⟨x, hx, rfl⟩ := s.get hi hd
    refine step x (List.mem_of_getElem? hx) _ _ _ ⟨i, rfl, hx⟩ ⟨rfl, ?_⟩
    rw [take_succ_of hx, List.flatMap_append]; simp
  · obtain ⟨rfl, rfl⟩ := q
    rw [s.len, List.length_map, List.take_length]
    exact h
/-- a for statement over known data -/
theorem for_inv {ri : RI} {rg : RG} {rb : RS} {DD : DEnds} {δ : Sl} {μ : Mu} {α : Type} (xs : List α) (e : α → D) (Inv : Nat → Sl → Mu → Prop)
    (s : ∀ k : DIt → Mu → Prop, (∀ it μ1, Src it μ1 (xs.map e) → Inv 0 δ μ1 → (∀ i δ μ, Inv i δ μ → it.ok μ) → k it μ1) → ri δ μ k)
    (step : ∀ i x δ μ, xs[i]? = some x → Inv i δ μ → rg (e x) δ μ fun δ2 μ2 => rb { nx := Inv (i + 1), ct := Inv (i + 1), bk := DD.nx, rt := DD.rt } δ2 μ2)
    (h : ∀ δ μ, Inv xs.length δ μ → DD.nx δ μ) : rFor ri rg rb DD δ μ := by
  refine s _ fun it μ1 sr h0 hok => ⟨Inv, h0, hok, fun i δ μ d hi hd q => ?_, fun δ μ q => h δ μ ?_⟩
  · obtain ⟨x, hx, rfl⟩ := sr.get hi hd
    exact step i x δ μ hx q
  · have hl : it.n = xs.length := by rw [sr.len, List.length_map]
    exact hl ▸ q
theorem forW_inv {rg : RG} {rb : RS} {DD : DEnds} {δ : Sl} {μ1 : Mu} {it : DIt} {α : Type} (xs : List α) (e : α → D) (sr : Src it μ1 (xs.map e)) (Inv : Nat → Sl → Mu → Prop) (h0 : Inv 0 δ μ1) (hok : ∀ i δ μ, Inv i δ μ → it.ok μ)
    (step : ∀ i x δ μ, xs[i]? = some x → Inv i δ μ → rg (e x) δ μ fun δ2 μ2 => rb { nx := Inv (i + 1), ct := Inv (i + 1), bk := DD.nx, rt := DD.rt } δ2 μ2)
    (h : ∀ δ μ, Inv xs.length δ μ → DD.nx δ μ) : rForW it rg rb DD δ μ1 := by
  refine ⟨Inv, h0, hok, fun i δ μ d hi hd q => ?_, fun δ μ q => h δ μ ?_⟩
  · obtain ⟨x, hx, rfl⟩ := sr.get hi hd
    exact step i x δ μ hx q
  · have hl : it.n = xs.length := by rw [sr.len, List.length_map]
    exact hl ▸ q
/-! ### equality of data -/
structure Cm {α : Type} [DecidableEq α] (e : α → D) (q : α → PyData) (n : Nat) : Prop where
  py : ∀ x, toPy (e x) = some (q x)
  own : ∀ x p, e x ≠ .own p
  eqv : ∀ x y, PyData.eqv (q x) (q y) = decide (x = y)
  lay : ∀ x, (q x).canLay0 = true
  dep : ∀ x, (q x).depth ≤ n
section
variable {α : Type} [DecidableEq α] {e : α → D} {q : α → PyData} {n : Nat}
theorem Cm.int : Cm D.int PyData.int 0 := ⟨fun _ => rfl, fun _ _ h => (by cases h), fun x y => by simp only [PyData.eqv]; rfl, fun _ => rfl, fun _ => Nat.le_refl _⟩
theorem Cm.bl : Cm D.bl PyData.bool 0 := ⟨fun _ => rfl, fun _ _ h => (by cases h), fun x y => by cases x <;> cases y <;> rfl, fun _ => rfl, fun _ => Nat.le_refl _⟩
theorem Cm.pyL (c : Cm e q n) : ∀ xs : List α, toPyL (xs.map e) = some (xs.map q)
  | [] => rfl
  | x :: xs => by
    simp only [List.map_cons]
    unfold toPyL
    rw [c.py x, Cm.pyL c xs]
theorem Cm.eqvAll (c : Cm e q n) : ∀ xs ys : List α, PyData.eqvAll (xs.map q) (ys.map q) = decide (xs = ys)
  | [], [] => rfl
  | [], y :: ys => by simp [PyData.eqvAll]
  | x :: xs, [] => by simp [PyData.eqvAll]
  | x :: xs, y :: ys => by
    simp only [List.map_cons, PyData.eqvAll]
    rw [c.eqv, Cm.eqvAll c xs ys, Bool.eq_iff_iff]
    simp
theorem Cm.layAll (c : Cm e q n) : ∀ xs : List α, PyData.canLayAll0 (xs.map q) = true
  | [] => rfl
  | x :: xs => by simp only [List.map_cons, PyData.canLayAll0, c.lay x, Cm.layAll c xs]; rfl
theorem Cm.depAll (c : Cm e q n) : ∀ xs : List α, PyData.depthAll (xs.map q) ≤ n
  | [] => by simp [PyData.depthAll]
  | x :: xs => by
    have h1 := c.dep x
    have h2 := Cm.depAll c xs
    simp only [List.map_cons, PyData.depthAll]
    omega
theorem Cm.tup (c : Cm e q n) : Cm (fun xs : List α => D.tup (xs.map e)) (fun xs => PyData.tuple (xs.map q)) (n + 1) :=
  ⟨fun xs => by unfold toPy; rw [c.pyL], fun _ _ h => (by cases h), fun xs ys => by simp only [PyData.eqv]; exact c.eqvAll xs ys, fun xs => by simp only [PyData.canLay0]; exact c.layAll xs, fun xs => by simp only [PyData.depth]; have := c.depAll xs; omega⟩
theorem Cm.lst (c : Cm e q n) : Cm (fun xs : List α => D.lst (xs.map e)) (fun xs => PyData.list (xs.map q)) (n + 1) :=
  ⟨fun xs => by unfold toPy; rw [c.pyL], fun _ _ h => (by cases h), fun xs ys => by simp only [PyData.eqv]; exact c.eqvAll xs ys, fun xs => by simp only [PyData.canLay0]; exact c.layAll xs, fun xs => by simp only [PyData.depth]; have := c.depAll xs; omega⟩
/-- the data d is what x stands for, an own list too -/
theorem Cm.as (c : Cm e q n) (μ : Mu) (x : α) : asPy μ (e x) = some (q x) := by
  unfold asPy
  split
  · rename_i p h; exact absurd h (c.own x p)
  · exact c.py x
theorem Cm.asO (c : Cm e q n) {μ : Mu} {p : Addr} {xs : List α} (h : μ p = some (.l (xs.map e))) : asPy μ (.own p) = some (.list (xs.map q)) := by
  unfold asPy
  simp only [lsAt_of h, c.pyL]
theorem Cm.sh (c : Cm e q n) (x : α) (hn : n ≤ 64) : SeqAt.shaped (q x) = true := by
  unfold SeqAt.shaped
  rw [c.lay x]
  have := c.dep x
  simp; omega
theorem Cm.toEq (c : Cm e q n) {a b : D} {x y : α} {μ : Mu} {k : DK} (h1 : asPy μ a = some (q x)) (h2 : asPy μ b = some (q y)) (hn : n ≤ 64) (h : k (.bl (decide (x = y))) μ) : oEq a b μ k :=
  ⟨_, _, h1, h2, c.sh x hn, c.sh y hn, by rw [c.eqv]; exact h⟩
theorem Cm.toNe (c : Cm e q n) {a b : D} {x y : α} {μ : Mu} {k : DK} (h1 : asPy μ a = some (q x)) (h2 : asPy μ b = some (q y)) (hn : n ≤ 64) (h : k (.bl (!decide (x = y))) μ) : oNe a b μ k :=
  ⟨_, _, h1, h2, c.sh x hn, c.sh y hn, by rw [c.eqv]; exact h⟩
end
/-- tuples of unlike things -/
structure CmL {α : Type} [DecidableEq α] (e : α → List D) (q : α → List PyData) (n : Nat) : Prop where
  py : ∀ x, toPyL (e x) = some (q x)
  eqv : ∀ x y, PyData.eqvAll (q x) (q y) = decide (x = y)
  lay : ∀ x, PyData.canLayAll0 (q x) = true
  dep : ∀ x, PyData.depthAll (q x) ≤ n
theorem CmL.nil : CmL (fun _ : Unit => []) (fun _ => []) 0 := ⟨fun _ => rfl, fun _ _ => rfl, fun _ => rfl, fun _ => by simp [PyData.depthAll]⟩
theorem CmL.cons {α β : Type} [DecidableEq α] [DecidableEq β] {e : α → D} {q : α → PyData} {e2 : β → List D} {q2 : β → List PyData} {n m : Nat} (c : Cm e q n) (d : CmL e2 q2 m) : CmL (fun t : α × β => e t.1 :: e2 t.2) (fun t => q t.1 :: q2 t.2) (max n m) := by
  refine ⟨fun x => ?_, fun x y => ?_, fun x => ?_, fun x => ?_⟩
  · unfold toPyL; rw [c.py, d.py]
  · simp only [PyData.eqvAll]; rw [c.eqv, d.eqv, Bool.eq_iff_iff]; simp [Prod.ext_iff]
  · simp only [PyData.canLayAll0, c.lay, d.lay]; rfl
  · simp only [PyData.depthAll]; have := c.dep x.1; have := d.dep x.2; omega
theorem CmL.tup {α : Type} [DecidableEq α] {e : α → List D} {q : α → List PyData} {n : Nat} (c : CmL e q n) : Cm (fun x => D.tup (e x)) (fun x => PyData.tuple (q x)) (n + 1) :=
  ⟨fun xs => by unfold toPy; rw [c.py], fun _ _ h => (by cases h), fun xs ys => by simp only [PyData.eqv]; exact c.eqv xs ys, fun xs => by simp only [PyData.canLay0]; exact c.lay xs, fun xs => by simp only [PyData.depth]; have := c.dep xs; omega⟩
theorem CmL.lst {α : Type} [DecidableEq α] {e : α → List D} {q : α → List PyData} {n : Nat} (c : CmL e q n) : Cm (fun x => D.lst (e x)) (fun x => PyData.list (q x)) (n + 1) :=
  ⟨fun xs => by unfold toPy; rw [c.py], fun _ _ h => (by cases h), fun xs ys => by simp only [PyData.eqv]; exact c.eqv xs ys, fun xs => by simp only [PyData.canLay0]; exact c.lay xs, fun xs => by simp only [PyData.depth]; have := c.dep xs; omega⟩
theorem py_int {i : Int} {μ : Mu} : asPy μ (.int i) = some (.int i) := Cm.int.as μ i
@[simp] theorem oEq_int {i j : Int} {μ : Mu} {k : DK} : @hEq (.int i) (.int j) μ k ↔ k (.bl (decide (i = j))) μ := by
  refine ⟨fun ⟨a, b, h1, h2, _, _, q⟩ => ?_, fun h => Cm.int.toEq (Cm.int.as μ i) (Cm.int.as μ j) (by decide) h⟩
  rw [py_int] at h1 h2; cases h1; cases h2
  rw [Cm.int.eqv] at q; exact q
@[simp] theorem oNe_int {i j : Int} {μ : Mu} {k : DK} : @hNe (.int i) (.int j) μ k ↔ k (.bl (!decide (i = j))) μ := by
  refine ⟨fun ⟨a, b, h1, h2, _, _, q⟩ => ?_, fun h => Cm.int.toNe (Cm.int.as μ i) (Cm.int.as μ j) (by decide) h⟩
  rw [py_int] at h1 h2; cases h1; cases h2
  rw [Cm.int.eqv] at q; exact q
theorem all_of {α : Type} {f : α → Bool} {xs : List α} {d : D} {μ : Mu} {k : DK} (hd : asL μ d = some (xs.map fun x => .bl (f x))) (h : k (.bl (xs.all f)) μ) : oAll [d] μ k := by
  refine ⟨xs.map f, by rw [hd, List.map_map]; rfl, ?_⟩
  have : (xs.map f).all id = xs.all f := by rw [List.all_map]; rfl
  rw [this]; exact h
theorem any_of {α : Type} {f : α → Bool} {xs : List α} {d : D} {μ : Mu} {k : DK} (hd : asL μ d = some (xs.map fun x => .bl (f x))) (h : k (.bl (xs.any f)) μ) : oAny [d] μ k := by
  refine ⟨xs.map f, by rw [hd, List.map_map]; rfl, ?_⟩
  have : (xs.map f).any id = xs.any f := by rw [List.any_map]; rfl
  rw [this]; exact h
theorem sum_of {α : Type} {f : α → Int} {xs : List α} {d : D} {μ : Mu} {k : DK} (hd : asL μ d = some (xs.map fun x => .int (f x))) (h : k (.int (xs.map f).sum) μ) : oSum [d] μ k :=
  ⟨xs.map f, by rw [hd, List.map_map]; rfl, h⟩
@[simp] theorem kitB_int : kitB "int" "int" = some true := by decide +kernel
@[simp] theorem kitB_intb : kitB "int" "bool" = some false := by decide +kernel
@[simp] theorem kitB_tup : kitB "tuple" "tuple" = some true := by decide +kernel
theorem py_str {x : Str} {μ : Mu} : asPy μ (.str x) = some (.str x) := rfl
theorem oNe_str {x y : Str} {μ : Mu} {k : DK} (hx : PyData.strOk x = true) (hy : PyData.strOk y = true) (h : k (.bl (!decide (x = y))) μ) : oNe (.str x) (.str y) μ k :=
  ⟨_, _, py_str, py_str, by simp [SeqAt.shaped, PyData.canLay0, hx, PyData.depth], by simp [SeqAt.shaped, PyData.canLay0, hy, PyData.depth], by
    have e : PyData.eqv (.str x) (.str y) = decide (x = y) := by simp only [PyData.eqv]; rw [Bool.eq_iff_iff]; simp
    rw [e]; exact h⟩
theorem oEq_str {x y : Str} {μ : Mu} {k : DK} (hx : PyData.strOk x = true) (hy : PyData.strOk y = true) (h : k (.bl (decide (x = y))) μ) : oEq (.str x) (.str y) μ k :=
  ⟨_, _, py_str, py_str, by simp [SeqAt.shaped, PyData.canLay0, hx, PyData.depth], by simp [SeqAt.shaped, PyData.canLay0, hy, PyData.depth], by
    have e : PyData.eqv (.str x) (.str y) = decide (x = y) := by simp only [PyData.eqv]; rw [Bool.eq_iff_iff]; simp
    rw [e]; exact h⟩
theorem Sub.refl (μ : Mu) : Sub μ μ := fun _ _ h => h
theorem Sub.set {μ : Mu} {p : Addr} {ds : Cnt} (h : μ p = none) : Sub μ (muSet μ p ds) := fun q es e => by
  rw [muSet_ne (fun z => by subst z; rw [h] at e; cases e)]; exact e
theorem Sub.trans {a b c : Mu} (h : Sub a b) (h' : Sub b c) : Sub a c := fun p ds e => h' p ds (h p ds e)
theorem Sub.up {μ μ' : Mu} {p : Addr} {ds : Cnt} (h : Sub μ μ') (hp : μ' p = none) : Sub μ (muSet μ' p ds) := Sub.trans h (Sub.set hp)
theorem Sub.upd {μ μ' : Mu} {p : Addr} {ds : Cnt} (h : Sub μ μ') (hp : μ p = none) : Sub μ (muSet μ' p ds) := fun q es e => by
  rw [muSet_ne (fun z => by subst z; rw [hp] at e; cases e)]; exact h q es e
theorem Sub.non {μ μ' : Mu} {p : Addr} (h : Sub μ μ') (hp : μ' p = none) : μ p = none := by
  cases e : μ p with
  | none => rfl
  | some d => rw [h p d e] at hp; cases hp
theorem Sub.del {μ μ' : Mu} {p : Addr} (h : Sub μ μ') (hp : μ p = none) : Sub μ (muDel μ' p) := fun q es e => by
  rw [muDel_ne (fun z => by subst z; rw [hp] at e; cases e)]; exact h q es e
theorem Sub.setBoth {μ μ' : Mu} {p : Addr} {a b : Cnt} (h : Sub (muSet μ p a) μ') : Sub (muSet μ p b) (muSet μ' p b) := fun q es e => by
  by_cases hq : q = p
  · subst hq; rw [muSet_same] at e ⊢; exact e
  · rw [muSet_ne hq] at e ⊢; exact h q es (by rw [muSet_ne hq]; exact e)
theorem Sub.at_ {μ μ' : Mu} {p : Addr} {a : Cnt} (h : Sub (muSet μ p a) μ') : μ' p = some a := h p a muSet_same
/-- one statement at a time: what follows stands under a name -/
theorem seq_gen {r s : RS} {DD : DEnds} {δ : Sl} {μ : Mu} (h : ∀ NX : Sl → Mu → Prop, NX = s DD → r { DD with nx := NX } δ μ) : rSeq r s DD δ μ := h _ rfl
end DL


set_option Elab.async false
set_option linter.all false
set_option maxRecDepth 100000
set_option maxHeartbeats 4000000
/-! DLo: own ==, != with any right side, str(x) of an instance with __str__, a slot as a target. -/
namespace DL
open PySem PySem.Spec PyProof.Rows L2 SlX
open Builtin Builtin.Str
section
variable {prog : Program} {w : World} {A : Around} {E : Value → Shared → Prop} {s : Shared} {K : PySem.W.Frag} {x C f : Addr} {ox : Obj} {od : Option Obj} {b tb : Value}
theorem ne_slot : Slot "object" "__ne__" "object.__ne__" := Slot.of (T := "object") (name := "__ne__") (owner := "object") (n := "__ne__") (by rw [typeLookup_type, builtinLookup_eq_fast]; kernel_rfl) (by decide +kernel) (by decide +kernel) (by decide +kernel)
    (.inl (by decide +kernel)) (by rw [isSubtype_type]; kernel_rfl)
theorem ne_entry (X : K.In s.heap) (I : PySem.W.InstAt s.heap x ox C od) (he : PySem.W.findIn K (.ref C) "__eq__" = some (some (.ref f))) (hf : PySem.W.isFn K (.ref f) = true) (hu : A.units < cLine) {Q : Fin → Shared → Prop}
    (h : wpAny (model prog w) A (call (.ref f) [.ref x, b]) (fun v s' => ∃ c, v = .bool c ∧ Q (.done (.ret (.bool (!c)))) s') E s) : wpAny (model prog w) A (Builtin.«object.__ne__» ⟨[.ref x, b], []⟩) Q E s := by
  unfold Builtin.«object.__ne__»
  repeat (first
    | with_reducible refine wpAny_cRoomFor hu ?_
    | (refine wpAny_bind (m := callSpecialIfBound? (.ref x) (Str.ofString "__eq__") [b])
        (PySem.W.ifBound_K X I he hf (wpAny_mono h (fun r s' hr => by
          obtain ⟨c, rfl, hq⟩ := hr
          repeat (first | exact hq | exact wpAny_pure hq | exact wpAny_truthy_bool hq | (refine wpAny_bind (m := truthy (.bool _)) (wpAny_truthy_bool ?_)) | wp_step)) fun _ _ e => e)))
    | wp_step)
theorem ifBound_ne {M : Model} {args : List Value} {Q : Option Value → Shared → Prop} (X : K.In s.heap) (I : PySem.W.InstAt s.heap x ox C od) (hs : PySem.W.findIn K (.ref C) "__ne__" = some (some (.builtin "object.__ne__")))
    (h : wpAny M A (call (.builtin "object.__ne__") (.ref x :: args)) (fun v => Q (some v)) E s) : wpAny M A (callSpecialIfBound? (.ref x) "__ne__" args) Q E s := by
  simp only [callSpecialIfBound?, bindSpecialIfBound?]
  refine wpAny_holding (wpAny_bind (wpAny_bind (wpAny_bind (I.type.here ((PySem.W.looks_findIn X hs).here ?_)))))
  simp only [ne_slot.bind]
  refine wpAny_bind (wpAny_askSetting (wpAny_ite ?_))
  have fin : wpAny M A (call (.builtin "object.__ne__") ([.ref x] ++ args) >>= fun v => pure (some v)) Q E s := wpAny_bind (wpAny_mono h (fun v s' h' => wpAny_pure h') fun _ _ h' => h')
  split
  · exact wpAny_bind (wpAny_pure (wpAny_pure fin))
  · exact wpAny_tryCatch (wpAny_bind (wpAny_pure (wpAny_pure fin)))
theorem ne_K {Q : Value → Shared → Prop} (hu : A.units + 1 < cLine) (X : K.In s.heap) (I : PySem.W.InstAt s.heap x ox C od) (hb : PySem.W.Looks (model prog w) s.heap (typeOf b) tb) (hn : PySem.W.notFirst K C tb = true)
    (hs : PySem.W.findIn K (.ref C) "__ne__" = some (some (.builtin "object.__ne__"))) (he : PySem.W.findIn K (.ref C) "__eq__" = some (some (.ref f))) (hf : PySem.W.isFn K (.ref f) = true) (ho : PySem.W.mroIn K C (.type "object") = some true)
    (h : wpAny (model prog w) A.in1 (call (.ref f) [.ref x, b]) (fun v s' => ∃ c, v = .bool c ∧ Q (.bool (!c)) s') E s) : wpAny (model prog w) A (richCompare .NotEq (.ref x) b) Q E s := by
  have one : wpAny (model prog w) A (tryCompare (.ref x) "__ne__" b) (fun r s' => ∃ v, r = some v ∧ Q v s') E s := by
    unfold tryCompare
    refine wpAny_bind (ifBound_ne X I hs (wpAny_call (codeAny_call_builtin ne_slot.plain F.cmpEntry_ne (PySem.W.check_slot F.cmpKind_ne F.cmpSplit_ne (I.type.andThen (PySem.W.looks_mroIn X ho)) (F.cmpArgs_ne _ _)
      (ne_entry (A := A.in1) X I he hf hu (wpAny_mono h (fun v s' hv => ?_) fun _ _ e => e))))))
    obtain ⟨c, rfl, hq⟩ := hv
    first | exact ⟨c, rfl, wpAny_pure ⟨_, rfl, hq⟩⟩ | exact ⟨c, rfl, wpAny_pure (wpAny_pure ⟨_, rfl, hq⟩)⟩
  unfold richCompare
  simp only [oneThing_ref]
  refine wpAny_holding (wpAny_bind (wpAny_cRoomFor (Nat.lt_of_succ_lt hu) ?_))
  rw [cmpInfo_NotEq]
  dsimp only
  refine wpAny_bind (I.type.here (wpAny_bind (hb.here ?_)))
  split
  · rename_i q
    have e : PySem.W.subIn K tb (.ref C) = some false := by
      rcases Bool.or_eq_true_iff.mp hn with e | e
      · rw [beq_iff_eq.mp e] at q; simp at q
      · exact beq_iff_eq.mp e
    refine wpAny_bind ((PySem.W.looks_subIn X e).here ?_)
    simp only [Bool.false_eq_true, if_false]
    refine wpAny_bind (wpAny_mono one (fun r s' z => ?_) fun _ _ e => e)
    obtain ⟨v, rfl, hq⟩ := z
    exact wpAny_pure hq
  · refine wpAny_bind (wpAny_pure ?_)
    simp only [Bool.false_eq_true, if_false]
    refine wpAny_bind (wpAny_mono one (fun r s' z => ?_) fun _ _ e => e)
    obtain ⟨v, rfl, hq⟩ := z
    exact wpAny_pure hq
/-- str(x) of an instance with a __str__ that hands out a str -/
theorem str_own {Q : Value → Shared → Prop} (X : K.In s.heap) (I : PySem.W.InstAt s.heap x ox C od) (hs : PySem.W.findIn K (.ref C) "__str__" = some (some (.ref f))) (hf : PySem.W.isFn K (.ref f) = true) (hu : A.in1.in1.units < cLine)
    (h : wpAny (model prog w) A.in1.in1 (call (.ref f) [.ref x]) (fun r s₁ => ∃ y u, r = Value.str y u ∧ Q r s₁) E s) : wpAny (model prog w) A (call (.type "str") [.ref x]) Q E s := by
  refine callType_codes (T := "str") (Bi := Builtin.«object.__init__») (Q₁ := fun r s₁ => ∃ y u, r = Value.str y u ∧ Q r s₁) PySem.F.called_str (PySem.F.typeCall_str_1 _) PySem.F.entry_object_init ?_ ?_
  · refine codeAny_of_tree ?_
    show wpAny _ A.in1.in1 (do checkBuiltinCall "str.__new__" ⟨[.type "str", .ref x], []⟩; again (.builtin "str.__new__" ⟨[.type "str", .ref x], []⟩)) _ _ s
    refine wpAny_bind (wpAny_of_eq (PySem.F.newCall_str_1 _) (wpAny_pure ⟨plainId_quiet (by decide +kernel) _, codeAny_builtin PySem.F.entry_str_new ?_⟩))
    rw [Around.under_plainId (by decide +kernel) _]
    rw [str_new_tree]
    refine wpAny_bind (wpAny_pure ?_)
    refine wpAny_bind (wpAny_of_eq isSubtype_str_str ?_)
    refine wpAny_bind ?_
    unfold Builtin.Str.strOf
    rw [show isExactStr (.ref x) = false from rfl]
    simp only [Bool.false_eq_true, if_false]
    refine wpAny_bind (wpAny_cRoomFor hu ?_)
    refine wpAny_bind (m := callSpecial? (.ref x) (Str.ofString "__str__")) (PySem.W.special_fn X I hs (beq_iff_eq.mp hf) (wpAny_mono h (fun r s' hr => ?_) fun _ _ y => y))
    obtain ⟨y, u, rfl, hq⟩ := hr
    exact wpAny_bind (wpAny_pure (wpAny_pure (wpAny_pure ⟨y, u, rfl, hq⟩)))
  · rintro obj s₁ ⟨y, u, rfl, hq⟩
    exact ⟨typeIs_str _ _ _, PySem.F.args_object_init_2 _ _, object_init_meets PySem.F.called_str.init.lookup PySem.F.called_str.made (by decide) prog w A.in1 _ s₁ ⟨typeIs_str _ _ _, rfl, hq⟩⟩
end
end DL


set_option Elab.async false
set_option linter.all false
set_option maxRecDepth 100000
set_option maxHeartbeats 4000000
/-! DLp: own classes with slots over data: made, compared, asked, told. -/
namespace DL
open PySem PySem.Spec PyProof.Rows L2 SlX

/-- any value's class, an instance with slots too -/
def TyA (K : PySem.W.Frag) (H : Hp) (y : V) (t : Value) : Prop := TyX K H y t ∨ ∃ b C' dy ws, y = .ref b ∧ Slt H b C' dy ws ∧ t = .ref C'
/-- what of the text a class with its own == must have -/
structure Cmp (K : PySem.W.Frag) (C : Addr) : Prop where
  cls : SCls K C
  isi : SIsi K C
  nNon : PySem.W.notFirst K C (.type "NoneType") = true
  nInt : PySem.W.notFirst K C (.type "int") = true
  nTup : PySem.W.notFirst K C (.type "tuple") = true
  kNon : PySem.W.kitOne K (.type "NoneType") (.ref C) = some false
  kInt : PySem.W.kitOne K (.type "int") (.ref C) = some false
  kTup : PySem.W.kitOne K (.type "tuple") (.ref C) = some false
  kOwn : PySem.W.kitOne K (.ref C) (.ref C) = some true
  ne : PySem.W.findIn K (.ref C) "__ne__" = some (some (.builtin "object.__ne__"))
/-- a special def of the class, and its promise -/
structure SpD (P : Program) (w : World) (K : PySem.W.Frag) (mg : Str → Option Value) (base : Heap) (C : Addr) (m : Str) (n : Nat) (dsp : DSp) : Prop where
  ex : ∃ g : Addr, PySem.W.findIn K (.ref C) m = some (some (.ref g)) ∧ PySem.W.isFn K (.ref g) = true ∧ FnR P w K mg base CX0 n g (spOf K dsp)
/-- a class that may be made by its name; sp: its __init__ -/
structure MakD (P : Program) (w : World) (K : PySem.W.Frag) (mg : Str → Option Value) (base : Heap) (k : Nat) (x : Str) (C : Addr) (sp : Sp) : Prop where
  ex : ∃ (f : Addr) (fd : FuncData) (ps : List Str), Mk K C f ∧ FnOk P w K mg base CX0 k f fd ps sp ∧ mg x = some (.ref C) ∧ Binds K fd ps []
def rEqA (K : PySem.W.Frag) (C : Addr) (sp : Sp) : R2 := fun x y H Q => ∃ a dx vs t, x = .ref a ∧ Slt H a C dx vs ∧ TyA K H y t ∧ PySem.W.notFirst K C t = true ∧ sp [x, y] H Q E0
def rNeA (K : PySem.W.Frag) (C : Addr) (sp : Sp) : R2 := fun x y H Q => ∃ a dx vs t, x = .ref a ∧ Slt H a C dx vs ∧ TyA K H y t ∧ PySem.W.notFirst K C t = true ∧ sp [x, y] H (fun z H' => ∃ c, z = .bl c ∧ Q (.bl (!c)) H') E0
section
variable {X : Cx} {C g : Addr} {n : Nat} {sp : Sp}
theorem looks_A {pins : List (Addr × Obj)} {σ : L2.St} {H : Hp} {s : Shared} {y : V} {u t : Value} (I : Inv X pins σ H s) (ry : RelV y u) (h : TyA X.K H y t) : PySem.W.Looks (model X.prog X.w) s.heap (typeOf u) t := by
  rcases h with h | ⟨b, C', dy, ws, rfl, hs, rfl⟩
  · obtain ⟨P, kx, hp, _⟩ := kit_of I ry h
    exact kx.ty _ _ I.kIn hp
  · cases (show u = Value.ref b from ry)
    obtain ⟨sl', od', _, J', _⟩ := slt_inst I hs
    exact J'.type
theorem op_eqA (hs : PySem.W.findIn X.K (.ref C) "__eq__" = some (some (.ref g))) (hf : PySem.W.isFn X.K (.ref g) = true) (F : FnR X.prog X.w X.K X.mg X.base CX0 n g sp) (hr : Room n X.A) : OpR X (compareOp .Eq) (rEqA X.K C sp) := by
  intro pins s σ H x y v u Q I rx ry h
  obtain ⟨a, dx, vs, t, rfl, ha, ht, hn, q⟩ := h
  cases (show v = Value.ref a from rx)
  obtain ⟨sl, od, _, J, _⟩ := slt_inst I ha
  obtain ⟨m, hF⟩ := I.fr
  show wpAny _ _ (richCompare .Eq _ _) _ _ _
  refine PySem.W.cmp_K (op := .Eq) (tb := t) hr.units0 hF I.ok.mod.kin J (looks_A I ry ht) hn hs hf ?_
  refine wpAny_mono (wpAny_call (run_fnR (us := [.ref a, u]) (vs := [.ref a, y]) F hr pass0 I (.cons rfl (.cons ry .nil)) q)) (fun w s' z => ?_) fun _ _ x => x
  obtain ⟨z', H', I', rz, qz⟩ := z
  exact cmpback rz ⟨z', H', I', rz, qz⟩
theorem op_neA (hs : PySem.W.findIn X.K (.ref C) "__eq__" = some (some (.ref g))) (hf : PySem.W.isFn X.K (.ref g) = true) (hne : PySem.W.findIn X.K (.ref C) "__ne__" = some (some (.builtin "object.__ne__"))) (ho : PySem.W.mroIn X.K C (.type "object") = some true)
    (F : FnR X.prog X.w X.K X.mg X.base CX0 n g sp) (hr : Room (n + 1) X.A) : OpR X (compareOp .NotEq) (rNeA X.K C sp) := by
  intro pins s σ H x y v u Q I rx ry h
  obtain ⟨a, dx, vs, t, rfl, ha, ht, hn, q⟩ := h
  cases (show v = Value.ref a from rx)
  obtain ⟨sl, od, _, J, _⟩ := slt_inst I ha
  show wpAny _ _ (richCompare .NotEq _ _) _ _ _
  refine ne_K (tb := t) (by have := hr.units; omega) I.kIn J (looks_A I ry ht) hn hne hs hf ho ?_
  refine wpAny_mono (wpAny_call (run_at (us := [.ref a, u]) (ws := [.ref a, y]) F hr.in1 I.env0.in1 pass0 I (.cons rfl (.cons ry .nil)) q)) (fun w s' z => ?_) fun _ _ x => x
  obtain ⟨z', H', I', rz, c, rfl, qz⟩ := z
  cases (show w = Value.bool c from rz)
  exact ⟨c, rfl, .bl (!c), H', I', rfl, qz⟩
def rStrA (C : Addr) (sp : Sp) : List V → Hp → VK → Prop := fun xs H Q => ∃ a dx vs, xs = [V.ref a] ∧ Slt H a C dx vs ∧ sp [.ref a] H (fun z H' => ∃ y, z = .str y ∧ Q z H') E0
theorem call_strA (hs : PySem.W.findIn X.K (.ref C) "__str__" = some (some (.ref g))) (hf : PySem.W.isFn X.K (.ref g) = true) (F : FnR X.prog X.w X.K X.mg X.base CX0 n g sp) (hr : Room (n + 2) X.A) : CallR X (.type "str") (rStrA C sp) := by
  intro pins s σ H xs us Q I r h
  obtain ⟨a, dx, vs, rfl, hsl, q⟩ := h
  obtain ⟨u, rfl, ru⟩ := r.one
  cases (show u = Value.ref a from ru)
  obtain ⟨sl, od, _, J, _⟩ := slt_inst I hsl
  have hr2 : Room n X.A.in1.in1 := (show Room (n + 1) X.A.in1 from Room.in1 hr).in1
  refine str_own I.kIn J hs hf hr2.units0 (wpAny_mono (wpAny_call (run_at (us := [.ref a]) (ws := [.ref a]) F hr2 I.env0.in1.in1 pass0 I (.cons rfl .nil) q)) (fun w s' z => ?_) fun _ _ x => x)
  obtain ⟨z', H', I', rz, y, ey, qz⟩ := z
  subst ey
  obtain ⟨t, e⟩ := (show ∃ t, w = Value.str y t from rz)
  cases e
  exact ⟨y, t, rfl, .str y, H', I', ⟨t, rfl⟩, qz⟩
theorem cr_or {f : Value} {r r' : List V → Hp → VK → Prop} (h : CallR X f r) (h' : CallR X f r') : CallR X f (fun xs H Q => r xs H Q ∨ r' xs H Q) := fun pins s σ H xs us Q I rr q => by
  rcases q with q | q
  · exact h pins s σ H xs us Q I rr q
  · exact h' pins s σ H xs us Q I rr q
/-- o.f = .. among other targets, a slot -/
def gSlA (K : PySem.W.Frag) (to : TE) (f : Str) : TG := fun v σ H Q => to σ H fun x H1 => ∃ a C dx p vs i, x = .ref a ∧ Slt H1 a C dx vs ∧ SCls K C ∧ Slot1 K C f p i ∧ Q σ (slH H1 a C dx (putS i v vs))
theorem pg_slA {o : Expr} {f : Str} {pos : Pos} {to : TE} (ho : PE X o to) : PG X (.Attribute o f pos) (gSlA X.K to f) := by
  refine ⟨fun pins s σ H v u Q I r h => ?_⟩
  rw [assign_Attribute]
  refine wpAny_bind (wpAny_holding (thn (ho.run pins s σ H _ I h) fun ov s1 ⟨x, H1, I1, r1, q1⟩ => ?_))
  obtain ⟨a, C, dx, p, vs, i, ex, hsl, c, t, q2⟩ := q1
  subst ex
  obtain rfl : ov = Value.ref a := r1
  refine wpAny_bind (wpAny_standAt (wpAny_bind (wpAny_holding (setslot_ok I1 hsl c t r fun s3 I3 => ?_))))
  exact wpAny_release ⟨σ, _, I3, q2⟩
end

/-! ### readings over data -/
section
variable {K : PySem.W.Frag} {C : Addr}
/-- what == may meet on its right side -/
def okR (C : Addr) : D → Prop
  | .obj C' _ => C' = C
  | .non => True
  | .int _ => True
  | .tup _ => True
  | _ => False
def isObj : D → Bool
  | .obj _ _ => true
  | _ => false
@[simp] theorem okR_obj {C' : Addr} {ds : List D} : okR C (.obj C' ds) ↔ C' = C := Iff.rfl
@[simp] theorem okR_non : okR C .non := trivial
@[simp] theorem okR_int {i : Int} : okR C (.int i) := trivial
@[simp] theorem okR_tup {ds : List D} : okR C (.tup ds) := trivial
@[simp] theorem isObj_obj {ds : List D} : isObj (.obj C ds) = true := rfl
theorem okR_out {μ : Mu} {G H : Hp} {y : V} {d : D} (c : Cmp K C) (w : Wd K G H μ) (r : Rep K G y d) (h : okR C d) : ∃ t, TyA K H y t ∧ PySem.W.notFirst K C t = true := by
  cases r with
  | non => exact ⟨_, .inl (tyN_out w .non rfl), c.nNon⟩
  | int i => exact ⟨_, .inl (tyN_out w (.int i) rfl), c.nInt⟩
  | tup h1 h2 => exact ⟨_, .inl (tyN_out w (.tup h1 h2) rfl), c.nTup⟩
  | obj h1 h2 =>
    have h : _ = C := h
    subst h
    exact ⟨_, .inr ⟨_, _, _, _, rfl, w.ex.slt h1, rfl⟩, by unfold PySem.W.notFirst; simp⟩
  | _ => exact h.elim
@[simp] def oEqC (C : Addr) (dsp : DSp) : F2 := fun x y μ k => (match x with | .obj C' _ => C' = C | _ => False) ∧ okR C y ∧ @dCall dsp [x, y] μ k
@[simp] def oNeC (C : Addr) (dsp : DSp) : F2 := fun x y μ k => (match x with | .obj C' _ => C' = C | _ => False) ∧ okR C y ∧ @dCall dsp [x, y] μ fun d μ' => asB d fun c => k (.bl (!c)) μ'
theorem okEqC {dsp : DSp} (c : Cmp K C) : OkOp K (rEqA K C (spOf K dsp)) (oEqC C dsp) := fun x y a b μ G H k Q w rx ry ⟨hx, hy, q⟩ th => by
  obtain ⟨t, ht, hn⟩ := okR_out c w ry hy
  cases rx with
  | obj h1 h2 =>
    have hx : _ = C := hx
    subst hx
    exact ⟨_, _, _, t, rfl, w.ex.slt h1, ht, hn, _, μ, G, k, w, .cons (.obj h1 h2) (.cons ry .nil), q, th⟩
  | _ => exact hx.elim
theorem okNeC {dsp : DSp} (c : Cmp K C) : OkOp K (rNeA K C (spOf K dsp)) (oNeC C dsp) := fun x y a b μ G H k Q w rx ry ⟨hx, hy, q⟩ th => by
  obtain ⟨t, ht, hn⟩ := okR_out c w ry hy
  cases rx with
  | obj h1 h2 =>
    have hx : _ = C := hx
    subst hx
    refine ⟨_, _, _, t, rfl, w.ex.slt h1, ht, hn, _, μ, G, _, w, .cons (.obj h1 h2) (.cons ry .nil), q, fun v d μ' G' H' qk w' g' r' => ?_⟩
    obtain ⟨c, rfl, qk⟩ := asB_out r' qk
    exact ⟨c, rfl, th _ _ μ' G' H' qk w' g' (.bl _)⟩
  | _ => exact hx.elim
/-- isinstance(x, C) -/
@[simp] def rIsiC (C : Addr) (re : RE) : RE := fun δ μ k => re δ μ fun x μ1 => okR C x ∧ k (.bl (isObj x)) μ1
theorem okE_isiC {te : TE} {re : RE} (c : Cmp K C) (h : OkE K te re) : OkE K (tCB (fun xs H Q => rIsi K xs H Q ∨ rIsiSl K (.ref C) xs H Q) (tCons te (tCons (tC (.ref C)) tNil))) (rIsiC C re) := fun σ δ μ G H k Q S w q b =>
  h σ δ μ G H _ _ S w q fun v d μ1 G1 H1 ⟨hd, q1⟩ w1 g1 r1 => by
    cases r1 with
    | non => exact .inl ⟨_, _, _, _, false, rfl, .own C, tyN_out w1 .non rfl, c.kNon, b _ _ μ1 G1 H1 q1 w1 g1 (.bl _)⟩
    | int i => exact .inl ⟨_, _, _, _, false, rfl, .own C, tyN_out w1 (.int i) rfl, c.kInt, b _ _ μ1 G1 H1 q1 w1 g1 (.bl _)⟩
    | tup h1 h2 => exact .inl ⟨_, _, _, _, false, rfl, .own C, tyN_out w1 (.tup h1 h2) rfl, c.kTup, b _ _ μ1 G1 H1 q1 w1 g1 (.bl _)⟩
    | obj h1 h2 =>
      have hd : _ = C := hd
      subst hd
      exact .inr ⟨_, _, _, _, _, true, rfl, rfl, fun w r => r, w1.ex.slt h1, c.cls, c.isi, c.kOwn, b _ _ μ1 G1 H1 q1 w1 g1 (.bl _)⟩
    | _ => exact hd.elim
/-- str(x) -/
@[simp] def rStrC (C : Addr) (dsp : DSp) (ra : RE) : RE := fun δ μ k => ra δ μ fun x μ1 => (match x with | .obj C' _ => C' = C | _ => False) ∧ @dCall dsp [x] μ1 fun d μ' => (match d with | .str _ => True | _ => False) ∧ k d μ'
theorem okE_strC {dsp : DSp} {te : TE} {ra : RE} (h : OkE K te ra) : OkE K (tCB (rStrA C (spOf K dsp)) (tCons te tNil)) (rStrC C dsp ra) := fun σ δ μ G H k Q S w q b =>
  h σ δ μ G H _ _ S w q fun v d μ1 G1 H1 ⟨hx, q1⟩ w1 g1 r1 => by
    cases r1 with
    | obj h1 h2 =>
      have hx : _ = C := hx
      subst hx
      refine ⟨_, _, _, rfl, w1.ex.slt h1, _, μ1, G1, _, w1, .cons (.obj h1 h2) .nil, q1, fun v d μ' G' H' ⟨hs, qk⟩ w' g' r' => ?_⟩
      cases r' with
      | str y => exact ⟨y, rfl, b _ _ μ' G' H' qk w' (g1.trans g') (.str y)⟩
      | _ => exact hs.elim
    | _ => exact hx.elim
/-! C(..): inm tells which arguments are let, and the slots -/
def spMk (K : PySem.W.Frag) (C : Addr) (inm : List D → List D → Prop) : Sp := fun vs H Q _ => ∃ (a dx : Addr) (ws : List V) (ds fs : List D) (μ : Mu) (G H1 : Hp) (k : DK), vs = .ref a :: ws ∧ H1 a = none ∧ H1 dx = none ∧ dx ≠ a ∧ H = upd (upd H1 dx (.own a)) a (.ins C dx []) ∧ Wd K G H1 μ ∧ RepL K G ws ds ∧ inm ds fs ∧
  k (.obj C fs) μ ∧ (∀ μ' G' H', k (.obj C fs) μ' → Wd K G' H' μ' → Go μ G H1 μ' G' H' → Rep K G' (.ref a) (.obj C fs) → Q .non H')
@[simp] def rMk (C : Addr) (inm : List D → List D → Prop) (ra : RA) : RE := fun δ μ k => ra δ μ fun ds μ1 => ∃ fs, inm ds fs ∧ k (.obj C fs) μ1
theorem okE_mk {inm : List D → List D → Prop} {t : TA} {ra : RA} (h : OkA K t ra) : OkE K (tMake C (spMk K C inm) [] E0 t) (rMk C inm ra) := fun σ δ μ G H k Q S w q b =>
  h σ δ μ G H _ _ S w q fun vs ds μ1 G1 H1 ⟨fs, hi, q1⟩ w1 g1 r1 x dx hx hd hne => by
    show spMk K C inm (.ref x :: (vs ++ [])) _ _ _
    rw [List.append_nil]
    exact ⟨x, dx, vs, ds, fs, μ1, G1, H1, k, rfl, hx, hd, hne, rfl, w1, r1, hi, q1, fun μ' G' H' qk w' g' r' => ⟨rfl, b _ _ μ' G' H' qk w' (g1.trans g') r'⟩⟩
/-- the heap in which __init__ begins -/
theorem wd_made {μ : Mu} {G H1 : Hp} {a dx : Addr} (w : Wd K G H1 μ) (ha : H1 a = none) (hd : H1 dx = none) : Wd K G (upd (upd H1 dx (.own a)) a (.ins C dx [])) μ := by
  refine ⟨fun b o e => ?_, fun p ds e => ?_⟩
  · have := w.ex _ _ e
    rw [upd_ne (ne_of_none this ha), upd_ne (ne_of_none this hd)]; exact this
  · obtain ⟨h1, vs, h2, h3⟩ := w.mu p ds e
    exact ⟨h1, vs, by rw [upd_ne (ne_of_none h2 ha), upd_ne (ne_of_none h2 hd)]; exact h2, h3⟩
/-- .. and at its end: H2 is the heap ahead of the stores -/
theorem mk_done {μ : Mu} {G H1 G2 H2 : Hp} {a dx : Addr} {vs : List V} {fs : List D} (w : Wd K G H1 μ) (ha : H1 a = none) (hd : H1 dx = none) (hne : dx ≠ a)
    (w2 : Wd K G2 H2 μ) (g2 : Go μ G (upd (upd H1 dx (.own a)) a (.ins C dx [])) μ G2 H2) (r : RepL K G2 vs fs) :
    ∃ G3, Wd K G3 (slH H2 a C dx (vs.map some)) μ ∧ Go μ G H1 μ G3 (slH H2 a C dx (vs.map some)) ∧ Rep K G3 (.ref a) (.obj C fs) := by
  have ma : μ a = none := w.mnone ha
  have md : μ dx = none := w.mnone hd
  have ia : (upd (upd H1 dx (.own a)) a (.ins C dx [])) a = some (.ins C dx []) := upd_same
  have id : (upd (upd H1 dx (.own a)) a (.ins C dx [])) dx = some (.own a) := by rw [upd_ne hne, upd_same]
  have fresh : ∀ {c : Addr} {u : HO}, (upd (upd H1 dx (.own a)) a (.ins C dx [])) c = some u → G c = none → μ c = none → G2 c = none := fun {c u} h1 h2 h3 => by
    cases e : G2 c with
    | none => rfl
    | some o =>
      rcases g2.gf c (by rw [e]; simp) with z | z | z
      · exact absurd h2 z
      · exact absurd h3 z
      · rw [h1] at z; cases z
  have ga : G2 a = none := fresh ia (w.gnone ha) ma
  have gd : G2 dx = none := fresh id (w.gnone hd) md
  have ex3 : Ex G2 (upd (upd G2 dx (.xd [])) a (SlO a C dx (vs.map some))) := fun b o e => by
    rw [upd_ne (ne_of_none e ga), upd_ne (ne_of_none e gd)]; exact e
  refine ⟨upd (upd G2 dx (.xd [])) a (SlO a C dx (vs.map some)), ⟨fun b o e => ?_, fun p ds e => ?_⟩, ⟨g2.eg.trans ex3, fun b o e hm => ?_, fun b e => ?_, fun b e => ?_⟩, .obj (.inr ⟨upd_same, by rw [upd_ne hne, upd_same]⟩) (r.mono ex3)⟩
  · unfold slH
    by_cases h1 : b = a
    · subst h1; rw [upd_same] at e ⊢; exact e
    · rw [upd_ne h1] at e ⊢
      by_cases h2 : b = dx
      · subst h2; rw [upd_same] at e ⊢; exact e
      · rw [upd_ne h2] at e ⊢; exact w2.ex _ _ e
  · obtain ⟨h1, xs, h2, h3⟩ := w2.mu p ds e
    have n1 : p ≠ a := fun z => by subst z; rw [ma] at e; cases e
    have n2 : p ≠ dx := fun z => by subst z; rw [md] at e; cases e
    exact ⟨by rw [upd_ne n1, upd_ne n2]; exact h1, xs, by rw [slH_ne n1 n2]; exact h2, h3.mono ex3⟩
  · have n1 : b ≠ a := ne_of_none e ha
    have n2 : b ≠ dx := ne_of_none e hd
    rw [slH_ne n1 n2]
    exact g2.kp b o (by rw [upd_ne n1, upd_ne n2]; exact e) hm
  · exact .inl e
  · by_cases h1 : b = a
    · subst h1; exact .inr (.inr ha)
    · by_cases h2 : b = dx
      · subst h2; exact .inr (.inr hd)
      · rw [upd_ne h1, upd_ne h2] at e
        rcases g2.gf b e with z | z | z
        · exact .inl z
        · exact .inr (.inl z)
        · rw [upd_ne h1, upd_ne h2] at z; exact .inr (.inr z)
end
/-! ### the rules with K said outright -/
section
variable {X : Cx} {K : PySem.W.Frag} {P : Program} {w : World} {mg : Str → Option Value} {base : Heap} {C : Addr}
theorem ko_eqC {n j : Nat} {dsp : DSp} (F : SpD P w K mg base C "__eq__" n dsp) (hr : Room j X.A) (hj : n ≤ j := by decide) (hP : X.prog = P := by rfl) (hw : X.w = w := by rfl) (hK : X.K = K := by rfl) (hm : X.mg = mg := by rfl) (hb : X.base = base := by rfl) : OpR X (compareOp .Eq) (rEqA K C (spOf K dsp)) := by
  subst hP hw hK hm hb
  obtain ⟨g, h1, h2, F⟩ := F.ex
  exact op_eqA h1 h2 F (hr.mono hj)
theorem ko_neC {n j : Nat} {dsp : DSp} (c : Cmp K C) (F : SpD P w K mg base C "__eq__" n dsp) (hr : Room j X.A) (hj : n + 1 ≤ j := by decide) (hP : X.prog = P := by rfl) (hw : X.w = w := by rfl) (hK : X.K = K := by rfl) (hm : X.mg = mg := by rfl) (hb : X.base = base := by rfl) : OpR X (compareOp .NotEq) (rNeA K C (spOf K dsp)) := by
  subst hP hw hK hm hb
  obtain ⟨g, h1, h2, F⟩ := F.ex
  exact op_neA h1 h2 c.ne c.isi.cm F (hr.mono hj)
theorem ke_strC {n j : Nat} {dsp : DSp} {e : Expr} {te : TE} {p pos : Pos} (F : SpD P w K mg base C "__str__" n dsp) (hr : Room j X.A) (hmS : mg "str" = none) (he : PE X e te) (hj : n + 2 ≤ j := by decide) (hg : Gl X "str" := by rfl) (hP : X.prog = P := by rfl) (hw : X.w = w := by rfl) (hK : X.K = K := by rfl) (hm : X.mg = mg := by rfl) (hb : X.base = base := by rfl)
    (hs : starEach [e] X.env = (false, eval e X.env) :: starEach [] X.env := by rfl) (hpl : (backTo pos (starEach [] X.env)).any (·.1) = false := by rfl) : PE X (.Call (.Name "str" p) [e] [] pos) (tCB (rStrA C (spOf K dsp)) (tCons te tNil)) := by
  subst hP hw hK hm hb
  obtain ⟨g, h1, h2, F⟩ := F.ex
  exact kt_call (call_strA h1 h2 F (hr.mono hj)) hmS (pa_cons he pa_nil hs) hg rfl (by decide +kernel) (by decide) (by decide) hs hpl
theorem ke_isiC {x : Str} {e : Expr} {te : TE} {p q pos : Pos} (hmI : mg "isinstance" = none) (hmC : mg x = some (.ref C)) (he : PE X e te) (hg : Gl X "isinstance" := by rfl) (hgx : Gl X x := by rfl) (hK : X.K = K := by rfl) (hm : X.mg = mg := by rfl) (hd : (x == ("__debug__" : Str)) = false := by decide)
    (hs : starEach [e, .Name x q] X.env = (false, eval e X.env) :: starEach [.Name x q] X.env := by rfl) (hs2 : starEach [.Name x q] X.env = (false, eval (.Name x q) X.env) :: starEach [] X.env := by rfl) (hpl : (backTo pos (starEach [.Name x q] X.env)).any (·.1) = false := by rfl) :
    PE X (.Call (.Name "isinstance" p) [e, .Name x q] [] pos) (tCB (fun xs H Q => rIsi K xs H Q ∨ rIsiSl K (.ref C) xs H Q) (tCons te (tCons (tC (.ref C)) tNil))) := by
  subst hK hm
  exact kb_call (cr_or call_isi (call_isiSl (.ref C))) hmI (pa_cons he (pa_cons (pe_glob hgx hmC rfl hd) pa_nil hs2) hs) hg rfl (by decide +kernel) (by decide) (by decide) hs hpl
theorem ke_mk {x : Str} {k j : Nat} {inm : List D → List D → Prop} {e : Expr} {es : List Expr} {p pos : Pos} {t : TA} (c : MakD P w K mg base k x C (spMk K C inm)) (hr : Room j X.A) (ha : PA X (e :: es) t) (hk : k + 1 ≤ j := by decide) (hg : Gl X x := by rfl) (hP : X.prog = P := by rfl) (hw : X.w = w := by rfl) (hK : X.K = K := by rfl) (hm : X.mg = mg := by rfl) (hb : X.base = base := by rfl)
    (hdb : (x == ("__debug__" : Str)) = false := by decide) (he : starEach (e :: es) X.env = (false, eval e X.env) :: starEach es X.env := by rfl) (hpl : (backTo pos (starEach es X.env)).any (·.1) = false := by rfl) : PE X (.Call (.Name x p) (e :: es) [] pos) (tMake C (spMk K C inm) [] E0 t) := by
  subst hP hw hK hm hb
  obtain ⟨f, fd, ps, M, F, h1, h2⟩ := c.ex
  exact pe_make M F (hr.mono hk) hg h1 h2 .nil pass0 ha hdb he hpl
theorem ke_meth0 {m : Str} {n j : Nat} {dsp : DSp} {o : Expr} {ta : TE} {apos pos : Pos} {pl : Sem Bool} (c : SCls K C) (F : MethD P w K mg base C m n dsp) (hr : Room j X.A) (he : PE X o ta) (hj : n ≤ j := by decide) (hP : X.prog = P := by rfl) (hw : X.w = w := by rfl) (hK : X.K = K := by rfl) (hm : X.mg = mg := by rfl) (hb : X.base = base := by rfl)
    (ht : eval (.Call (.Attribute o m apos) [] [] pos) X.env = (do
      let ov ← eval o X.env
      standAt apos.atName
      let (f, first) ← holding [ov] (getMethod ov m pl)
      callWith pos f first (backTo pos (starEach [] X.env)) (backToKw pos (keywordEach [] X.env))) := by rfl) :
    PE X (.Call (.Attribute o m apos) [] [] pos) (tMethSl C (spOf K dsp) E0 ta tNil) := by
  subst hP hw hK hm hb
  obtain ⟨g, h1, F⟩ := F.ex
  exact pe_methSl0 he c h1 F (hr.mono hj) pass0 ht
theorem kg_slA {o : Expr} {f : Str} {pos : Pos} {to : TE} (ho : PE X o to) (hK : X.K = K := by rfl) : PG X (.Attribute o f pos) (gSlA K to f) := by subst hK; exact pg_slA ho
end
/-! ### the defs of a class -/
def BindsF (x qual : Str) (st : Stmt) (ps : List Str) : Prop := ∀ (kV doc pm : Value) (an : Option Addr) (cdv ct : Value) (us : List Value), us.length = ps.length → bindArgs (PySem.W.fnOf x qual (defArgs st) (defBody st) (defScope st) .none kV doc pm an cdv ct) ⟨us, []⟩ = pure (ps.zip us)
/-- where a property's getter stands -/
structure AtP (K : PySem.W.Frag) (C : Addr) (f qual : Str) (st : Stmt) : Prop where
  ex : ∃ (p g : Addr) (fd : FuncData), PySem.W.findIn K (.ref C) f = some (some (.ref p)) ∧ PySem.W.specialIn K (.ref p) "__get__" = some (some (.builtin "property.__get__")) ∧ PySem.W.takesIn K (.ref p) = some true ∧
    (∃ rest, PySem.W.recIn K p "property" = some (.ref g :: rest)) ∧ Fun K f qual st g fd
/-- where a def of the class stands -/
structure AtM (K : PySem.W.Frag) (C : Addr) (f qual : Str) (st : Stmt) : Prop where
  ex : ∃ (g : Addr) (fd : FuncData), Meth K C f g ∧ Fun K f qual st g fd
section
variable {P : Program} {w : World} {K : PySem.W.Frag} {mg : Str → Option Value} {base : Heap} {C : Addr} {x qual : Str} {st : Stmt} {N ps : List Str} {k : Nat} {dsp : DSp} {r : RS}
theorem propD_of (a : AtP K C x qual st) (B : Body P w K mg base k qual st N r) (S : FnScope N ps (defScope st)) (hb : BindsF x qual st ps) (len : ∀ ds μ k, dsp ds μ k → ds.length = ps.length)
    (vc : ∀ ds μ k, dsp ds μ k → r { nx := fun _ μ' => k .non μ', rt := k } (startD N ds) μ) : PropD P w K mg base C x (k + 1) dsp := by
  obtain ⟨p, g, fd, h1, h2, h3, h4, F⟩ := a.ex
  exact ⟨p, g, h1, h2, h3, h4, FnOk.pos (fn_body B F S len vc) (F.binds hb)⟩
theorem methD_of (a : AtM K C x qual st) (B : Body P w K mg base k qual st N r) (S : FnScope N ps (defScope st)) (hb : BindsF x qual st ps) (len : ∀ ds μ k, dsp ds μ k → ds.length = ps.length)
    (vc : ∀ ds μ k, dsp ds μ k → r { nx := fun _ μ' => k .non μ', rt := k } (startD N ds) μ) : MethD P w K mg base C x (k + 1) dsp := by
  obtain ⟨g, fd, h1, F⟩ := a.ex
  exact ⟨g, h1, FnOk.pos (fn_body B F S len vc) (F.binds hb)⟩
theorem spD_of (a : AtM K C x qual st) (B : Body P w K mg base k qual st N r) (S : FnScope N ps (defScope st)) (hb : BindsF x qual st ps) (len : ∀ ds μ k, dsp ds μ k → ds.length = ps.length)
    (vc : ∀ ds μ k, dsp ds μ k → r { nx := fun _ μ' => k .non μ', rt := k } (startD N ds) μ) : SpD P w K mg base C x (k + 1) dsp := by
  obtain ⟨g, fd, h1, F⟩ := a.ex
  exact ⟨g, h1.at_, h1.fn, FnOk.pos (fn_body B F S len vc) (F.binds hb)⟩
end
end DL


set_option Elab.async false
set_option linter.all false
set_option maxRecDepth 100000
set_option maxHeartbeats 4000000
/-! DLt: texts. -/
namespace DL
open PySem PySem.Spec PyProof.Rows L2 SlX TL
theorem len_tl (x : Str) : x.length = (tl x).length := by
  show x.cps.size = x.cps.toList.length
  simp
theorem ok_tl (x : Str) : PyData.strOk x = true ↔ ∀ c ∈ tl x, c < 0x110000 := by
  unfold PyData.strOk
  rw [Array.all_eq_true']
  simp [tl]
theorem joinL_mem {S : List Nat} {c : Nat} : ∀ {ps : List (List Nat)}, c ∈ joinL S ps → c ∈ S ∨ ∃ p ∈ ps, c ∈ p
  | [], h => by simp [joinL] at h
  | [p], h => .inr ⟨p, by simp, h⟩
  | p :: q :: r, h => by
    simp only [joinL, List.mem_append] at h
    rcases h with h | h | h
    · exact .inr ⟨p, by simp, h⟩
    · exact .inl h
    · rcases joinL_mem h with z | ⟨p', h1, h2⟩
      · exact .inl z
      · exact .inr ⟨p', List.mem_cons_of_mem _ h1, h2⟩
theorem joinL_len {S : List Nat} {b : Nat} : ∀ {ps : List (List Nat)}, (∀ p ∈ ps, p.length ≤ b) → (joinL S ps).length ≤ ps.length * (b + S.length)
  | [], _ => by simp [joinL]
  | [p], h => by have := h p (by simp); simp [joinL]; omega
  | p :: q :: r, h => by
    have h1 := h p (by simp)
    have h2 := joinL_len (S := S) (ps := q :: r) (b := b) (fun z hz => h z (List.mem_cons_of_mem _ hz))
    have e : (p :: q :: r).length * (b + S.length) = (b + S.length) + (q :: r).length * (b + S.length) := by
      simp only [List.length_cons]
      rw [Nat.add_mul (r.length + 1) 1, Nat.one_mul, Nat.add_comm]
    rw [e]
    simp only [joinL, List.length_append]
    omega
theorem joinL_nil {S : List Nat} : ∀ {ps : List (List Nat)}, (∀ p ∈ ps, p ≠ []) → joinL S ps = [] → ps = []
  | [], _, _ => rfl
  | [p], h, e => absurd e (h p (by simp))
  | p :: q :: r, h, e => by
    simp only [joinL] at e
    exact absurd (List.append_eq_nil_iff.mp e).1 (h p (by simp))
theorem tl_joinT (y : Str) (ys : List Str) : tl (Txt.join y ys) = joinL (tl y) (ys.map tl) := by rw [join_eq, tl_join]
theorem len_app (x y : Str) : (x ++ y).length = x.length + y.length := by rw [len_tl, len_tl x, len_tl y, tl_append, List.length_append]
end DL


set_option Elab.async false
set_option linter.all false
set_option maxRecDepth 100000
set_option maxHeartbeats 4000000
/-! DLs: starred items of displays. -/
namespace DL
open PySem PySem.Spec PyProof.Rows L2 SlX StX
section
variable {K : PySem.W.Frag}
@[simp] def rStar (re : RE) (rr : RA) : RA := fun δ μ k => re δ μ fun x μ1 => ∃ ds, asQ μ1 x = some ds ∧ rr δ μ1 fun es μ2 => k (ds ++ es) μ2
theorem okA_star {te : TE} {re : RE} {tr : TA} {rr : RA} (he : OkE K te re) (hr : OkA K tr rr) : OkA K (tStar K te tr) (rStar re rr) := fun σ δ μ G H k Q S w q b =>
  he σ δ μ G H _ _ S w q fun x dx μ1 G1 H1 ⟨ds, e, q1⟩ w1 g1 r1 => by
    obtain ⟨a, vs, rfl, hs, rl⟩ := asQ_out w1 r1 e
    exact ⟨a, vs, rfl, hs.symm, hr σ δ μ1 G1 H1 _ _ (S.mono g1.eg) w1 q1 fun ys es μ2 G2 H2 q2 w2 g2 r2 => b (vs ++ ys) (ds ++ es) μ2 G2 H2 q2 w2 (g1.trans g2) ((rl.mono g2.eg).append r2)⟩
theorem ka_star (K : PySem.W.Frag) {X : Cx} {e : Expr} {es : List Expr} {te : TE} {t : TA} {p : Pos} (he : PE X e te) (hr : PA X es t) (hK : X.K = K := by rfl) (hs : starEach (.Starred e p :: es) X.env = (true, eval e X.env) :: starEach es X.env := by rfl) : PA X (.Starred e p :: es) (tStar K te t) := by
  subst hK; exact pa_star he hr hs
end
end DL


set_option Elab.async false
set_option linter.all false
set_option maxRecDepth 100000
set_option maxHeartbeats 4000000
/-! DLn: enumerate over a list or a tuple. -/
namespace DL
open PySem PySem.Spec PyProof.Rows L2 SlX
open Sem (wp)
set_option maxHeartbeats 8000000 in
theorem meets_enumerate_new1 {v : Value} {o : Obj} {H : Heap → Prop} (B : Begins v o H) :
    Meets (Builtin.«enumerate.__new__» ⟨[.type "enumerate", v], []⟩) (fun _ R s => H s.heap ∧
      R (.ok (.ret (.ref (s.heap.push o).objs.size))) { s with heap := (s.heap.push o).push { cls := .type "enumerate", data := .fields #[.none, .bool false, .ref s.heap.objs.size, rawInt 0, .none, .none] } }) :=
  .of_wp fun prog w A R s h => by
    obtain ⟨hp, g, d, tk, os⟩ := s; obtain ⟨h1, h⟩ := h
    have hsub := sub_enumerate
    have q1 : ∀ {A' : Around} {E : Value → Shared → Prop} {Q : Value → Shared → Prop}, Q (.ref hp.objs.size) ⟨hp.push o, g, d, tk, os⟩ → wpAny (model prog w) A' (pyIter v) Q E ⟨hp, g, d, tk, os⟩ :=
      fun q => B.iter prog w _ _ ⟨hp, g, d, tk, os⟩ _ h1 q
    wp_walk using q1
    refine wpAny_stack_any fun st => wpAny_pure ?_
    split
    · rename_i c _ _ _ _ _
      cases (c == Value.type "enumerate")
      · wp_walk using q1
        exact ⟨_, rfl, h⟩
      · wp_walk using q1
        exact ⟨_, rfl, h⟩
    · wp_walk using q1
      exact ⟨_, rfl, h⟩
theorem enum_begins1 {prog : Program} {w : World} {A : Around} {E : Value → Shared → Prop} {s : Shared} {v : Value} {o : Obj} {H : Heap → Prop} {Q : Value → Shared → Prop} (B : Begins v o H) (h1 : H s.heap)
    (h : ∀ h', IsEnum h' (s.heap.objs.size + 1) s.heap.objs.size 0 .none → h'.get? s.heap.objs.size = some o → h'.objs.size = s.heap.objs.size + 2 →
      (∀ b o, s.heap.get? b = some o → h'.get? b = some o) → Q (.ref (s.heap.objs.size + 1)) { s with heap := h' }) :
    wpAny (model prog w) A (call (.type "enumerate") [v]) Q E s := by
  refine callType_new F.called_enumerate (by decide) (F.typeCall_enumerate_1 _) (F.newCall_enumerate_1 _) (fun obj => F.args_object_init_2 obj _) F.entry_enumerate_new
    (meets_enumerate_new1 B) ⟨h1, ?_⟩
  have hz : (s.heap.push o).objs.size = s.heap.objs.size + 1 := Heap.size_push ..
  show _ ∧ _
  rw [hz]
  have he : IsEnum ((s.heap.push o).push { cls := .type "enumerate", data := .fields #[.none, .bool false, .ref s.heap.objs.size, rawInt 0, .none, .none] }) (s.heap.objs.size + 1) s.heap.objs.size 0 .none := by
    have := Heap.get?_push_size (s.heap.push o) (o := { cls := .type "enumerate", data := .fields #[.none, .bool false, .ref s.heap.objs.size, rawInt 0, .none, .none] }) rfl
    rw [hz] at this; exact this
  refine ⟨⟨_, he, rfl⟩, h _ he (Heap.get?_push_of_some _ (Heap.get?_push_size _ B.free)) (by rw [Heap.size_push, hz]) fun b o x => Heap.get?_push_of_some _ (Heap.get?_push_of_some _ x)⟩
/-- what enumerate over the sequence at a walks -/
def IteM (c : Bool) (K : PySem.W.Frag) (a : Addr) : It where
  go := fun i H => ∃ xs x, SqA c K H a xs ∧ xs[i]? = some x
  yld := fun i H v H' => ∃ T x, v = V.ref T ∧ H T = none ∧ H' = upd H T (.tup [.int (i : Nat), x]) ∧ ∀ xs, SqA c K H a xs → xs[i]? = some x
  stop := fun i H => ∃ xs, SqA c K H a xs ∧ i = xs.length
theorem turn_enumM {P : Program} {w : World} {K : PySem.W.Frag} {elts : List Expr} {kk : Nat} {tpos : Pos} {c : Bool} {a e it : Addr} (ha : a ≠ it) (hei : e ≠ it) (hea : e ≠ a) :
    Turn P w K (.Tuple elts kk tpos) (IteM c K a) [e, it] e
      (fun i h => (∃ old, IsEnum h e it (0 + (i : Int)) old) ∧ IterA c h it a i) where
  mem := by simp
  obj := fun i h ⟨⟨old, he⟩, h1⟩ c hc => by
    have q : c = e ∨ c = it := by simpa using hc
    rcases q with q | q
    · subst q; exact ⟨_, he, fun v e => nomatch e⟩
    · subst q; exact iterA_obj h1
  keep := fun i h h' ⟨⟨old, he⟩, h1⟩ k => ⟨⟨old, k e (by simp) _ he⟩, iterA_at h1 (k it (by simp))⟩
  item := by
    intro X hP hw hK hc i pins s σ H E I hf ⟨⟨old, he⟩, h1⟩ hg
    subst hP hw hK
    obtain ⟨xs, x, sx, ex⟩ := hg
    obtain ⟨its, rv, p1⟩ := inv_sqA I sx
    obtain ⟨u, hu, ru⟩ := rv.get ex
    have hh : X.A.in1.handled = none := I.ok.hd hc
    have W := WalksT.enumFrom (prog := X.prog) (w := X.w) (A := X.A) 0 (drawsA hh c it a ha its.toArray) e hei (by simp [hei, hea]) (by simp)
    have l1 : i < its.length := (List.getElem?_eq_some_iff.mp hu).1
    refine W.item i s _ _ (by simp; omega) ⟨⟨old, he⟩, ⟨h1, p1⟩⟩ fun T vals h' tk hv hT hIs mid hk => ?_
    obtain ⟨t, x1, e1, rfl⟩ := hv
    have e1 : x1 = u := by have e1 : its.toArray[i]? = some x1 := e1; rw [List.getElem?_toArray, hu] at e1; exact (Option.some.inj e1).symm
    subst e1
    have apart := W.apart i T h' mid
    refine ⟨_, rfl, W.go elts kk tpos i T { s with heap := h', toks := tk } _ _ mid fun h'' st hk2 => ?_⟩
    obtain ⟨⟨old', he'⟩, ⟨h1', _⟩⟩ := st
    have hTn : H T = none := I.hok.fresh hT
    have tneq : ∀ c, c ∈ [e, it] → c < T := fun c hm => by
      have q : c < s.heap.objs.size := by
        have q : c = e ∨ c = it := by simpa using hm
        rcases q with q | q
        · subst q; exact Heap.lt_size he
        · subst q; obtain ⟨_, e, _⟩ := iterA_obj h1; exact Heap.lt_size e
      exact Nat.lt_of_lt_of_le q hT
    obtain ⟨oT, eT, cT, nT, dT⟩ := id hIs
    have new : ObjOk X.prog X.w (upd H T (.tup [.int (i : Nat), x])) h'' T (.tup [.int (i : Nat), x]) :=
      ⟨by show 2 ≤ sizeLine; decide, [.int (0 + (i : Int)) t, x1], .cons ⟨t, by rw [Int.zero_add]⟩ (.cons ru .nil), ⟨oT, hk2 T oT apart eT, cT, nT, dT⟩⟩
    refine ⟨.ref T, _, I.turnedNew (t' := tk) (ch := [e, it]) (fun c o hb q => hk2 c o hb (hk c o hb q)) hf hT new, rfl, ⟨T, x, rfl, hTn, rfl, fun l hl => by rw [inv_injA I hl sx]; exact ex⟩,
      ⟨⟨old', he'⟩, h1'⟩, fun c hm => ?_⟩
    rw [upd_ne (Nat.ne_of_lt (tneq c hm))]
    exact (hf c hm).1
  done := by
    intro X hP hw hK hc i pins s σ H E I hf ⟨⟨old, he⟩, h1⟩ hg
    subst hP hw hK
    obtain ⟨xs, sx, hend⟩ := hg
    obtain ⟨its, rv, p1⟩ := inv_sqA I sx
    have hh : X.A.in1.handled = none := I.ok.hd hc
    have l1 := rv.length
    have W := WalksT.enumFrom (prog := X.prog) (w := X.w) (A := X.A) 0 (drawsA hh c it a ha its.toArray) e hei (by simp [hei, hea]) (by simp)
    have ei : i = its.toArray.size := by rw [hend, l1]; simp
    rw [ei] at h1 he
    exact W.done s _ _ ⟨⟨old, he⟩, ⟨h1, p1⟩⟩ fun h' tk hk => ⟨rfl, I.turnedL (t' := tk) (ch := [e, it]) (fun c o hb q => hk c o hb q) hf⟩
  self := fun A i s Q E st h => let ⟨⟨_, he⟩, _⟩ := st; wpAny_pyIter_enum he h
section
variable {K : PySem.W.Frag}
def iEnumM (K : PySem.W.Frag) (ta : TA) : TI := fun σ H R => ta σ H fun vs H1 => ∃ (c : Bool) (a : Addr) (xs : List V), vs = [V.ref a] ∧ SqA c K H1 a xs ∧ R (IteM c K a) H1
theorem pi_enumM {X : Cx} {e : Expr} {ta : TA} {p pos tpos : Pos} {elts : List Expr} {kk : Nat} (hg : Gl X "enumerate") (hm : X.mg "enumerate" = none) (ha : PA X [e] ta)
    (hs : starEach [e] X.env = [(false, eval e X.env)] := by rfl) :
    PI X (.Tuple elts kk tpos) (.Call (.Name "enumerate" p) [e] [] pos) (iEnumM X.K ta) := ⟨fun pins s σ H R I h => by
  refine Call_ (ld_blt I hg hm boot_enumerate (PyProof.Rows.callWith_type1 (thn (ha.run pos pins s σ H _ I h) fun us s1 ⟨vs, H1, I1, r1, q1⟩ => ?_) hs rfl))
  obtain ⟨c, a, xs, rfl, sx, q⟩ := q1
  cases r1 with
  | cons r rr =>
    cases rr
    cases r
    obtain ⟨its, rv, p1⟩ := inv_sqA I1 sx
    have la := isA_lt p1
    refine enum_begins1 (beginsA c a its.toArray) p1 fun h' he hit hsz hk => wpAny_pyIter_enum he ?_
    have I2 : Inv X pins σ H1 { s1 with heap := h' } := I1.kept (t' := s1.toks) hk
    have na : a ≠ s1.heap.objs.size := Nat.ne_of_lt la
    refine ⟨s1.heap.objs.size + 1, [s1.heap.objs.size + 1, s1.heap.objs.size], _, _, H1, rfl, I2, turn_enumM (c := c) na (Nat.succ_ne_self _) (Nat.ne_of_gt (Nat.lt_succ_of_lt la)), ⟨⟨.none, he⟩, iterA_0 hit⟩, fun b hb => ?_, q⟩
    have e' : b = s1.heap.objs.size + 1 ∨ b = s1.heap.objs.size := by simpa using hb
    have hle : s1.heap.objs.size ≤ b := by
      rcases e' with z | z
      · rw [z]; exact Nat.le_add_right _ _
      · rw [z]; exact Nat.le_refl _
    exact I1.fpOk hle (I1.hok.fresh hle)⟩
theorem ki_enum (K : PySem.W.Frag) {X : Cx} {e : Expr} {ta : TA} {p pos tpos : Pos} {elts : List Expr} {kk : Nat} (hg : Gl X "enumerate") (hm : X.mg "enumerate" = none) (ha : PA X [e] ta) (hK : X.K = K := by rfl)
    (hs : starEach [e] X.env = [(false, eval e X.env)] := by rfl) :
    PI X (.Tuple elts kk tpos) (.Call (.Name "enumerate" p) [e] [] pos) (iEnumM K ta) := by subst hK; exact pi_enumM hg hm ha hs
@[simp] def numD : Nat → Option D → Option D
  | i, some x => some (.tup [.int (i : Nat), x])
  | _, _ => none
def itE (x : D) (xs : List D) : DIt := ⟨xs.length, fun i => numD i xs[i]?, fun μ => asQ μ x = some xs⟩
@[simp] def rIE (ra : RA) : RI := fun δ μ k => ra δ μ fun ds μ1 => match ds with | [x] => ∃ xs, asQ μ1 x = some xs ∧ k (itE x xs) μ1 | _ => False
theorem itOk_enum {G : Hp} {va : Addr} {x : D} {xs : List D} (r1 : Rep K G (.ref va) x) : ItOk K G (IteM (kindA x) K va) (itE x xs) := fun i μ G1 H1 e w o1 => by
  obtain ⟨a, vs, ea, sa, ra⟩ := asQ_outA w (r1.mono e) o1
  cases ea
  refine ⟨fun hi => ⟨vs, sa, by rw [ra.length]; exact hi.symm⟩, fun hi => ?_⟩
  have hi : i < xs.length := hi
  have l1 : i < vs.length := by rw [ra.length]; omega
  refine ⟨⟨vs, vs[i], sa, List.getElem?_eq_getElem l1⟩, fun v H2 ⟨T, u, hv, hT, hH, h1⟩ => ?_⟩
  subst hv hH
  obtain ⟨d1, g1, q1⟩ := ra.get (h1 vs sa)
  refine ⟨.tup [.int (i : Nat), d1], upd G1 T (.tup [.int (i : Nat), u]), ?_, w.new hT, Go.new w hT, .tup (SqT.of upd_same) (.cons (.int _) (.cons (q1.mono (Ex.new (w.gnone hT))) .nil))⟩
  show numD i xs[i]? = _
  rw [g1]
  rfl
theorem okI_enum {ta : TA} {ra : RA} (h : OkA K ta ra) : OkI K (iEnumM K ta) (rIE ra) := fun σ δ μ G H k R S w q b =>
  h σ δ μ G H _ _ S w q fun vs ds μ1 G1 H1 q1 w1 g1 r1 => by
    split at q1
    · rename_i x
      obtain ⟨xs, e1, q2⟩ := q1
      cases r1 with
      | cons a t =>
        cases t
        obtain ⟨p, vs1, rfl, s1, _⟩ := asQ_outA w1 a e1
        exact ⟨_, p, vs1, rfl, s1, b _ _ μ1 G1 H1 q2 w1 g1 (itOk_enum a)⟩
    · exact q1.elim
theorem Src.e {μ : Mu} {x : D} {xs : List D} (h1 : asQ μ x = some xs) : Src (itE x xs) μ (xs.zipIdx.map fun q => .tup [.int (q.2 : Nat), q.1]) := by
  refine ⟨by simp [itE], fun i d hi h => ?_, h1⟩
  have hi : i < xs.length := hi
  have h : numD i xs[i]? = some d := h
  rw [List.getElem?_eq_getElem hi] at h
  rw [List.getElem?_map, List.getElem?_zipIdx, List.getElem?_eq_getElem hi]
  simpa using h
end
end DL


set_option Elab.async false
set_option linter.all false
set_option maxRecDepth 100000
set_option maxHeartbeats 4000000
/-! DLk: dicts whose keys are ints and texts. -/
namespace DL
open PySem PySem.Spec PyProof.Rows L2 SlX
/-! ### tables over data -/
section
variable {κ α : Type} [DecidableEq κ]
def getG (kvs : List (κ × α)) (k : κ) : Option α := (kvs.find? fun kv => decide (kv.1 = k)).map (·.2)
def putG (kvs : List (κ × α)) (k : κ) (v : α) : List (κ × α) :=
  if (kvs.any fun kv => decide (kv.1 = k)) = true then kvs.map (fun kv => if kv.1 = k then (kv.1, v) else kv) else kvs ++ [(k, v)]
def mergeG (kvs more : List (κ × α)) : List (κ × α) := more.foldl (fun acc kv => putG acc kv.1 kv.2) kvs
theorem putG_len (kvs : List (κ × α)) (k : κ) (v : α) : (putG kvs k v).length ≤ kvs.length + 1 := by
  unfold putG; split <;> simp
theorem mergeG_len (more : List (κ × α)) : ∀ kvs : List (κ × α), (mergeG kvs more).length ≤ kvs.length + more.length := by
  induction more with
  | nil => intro kvs; simp [mergeG]
  | cons m more ih =>
    intro kvs
    have h1 := ih (putG kvs m.1 m.2)
    have h2 := putG_len kvs m.1 m.2
    have e : mergeG kvs (m :: more) = mergeG (putG kvs m.1 m.2) more := rfl
    rw [e, List.length_cons]; omega
end
theorem putV_eq {κ : Type} [DecidableEq κ] (kvs : List (κ × V)) (k : κ) (v : V) : putK kvs k v = putG kvs k v := rfl
theorem getV_eq {κ : Type} [DecidableEq κ] (kvs : List (κ × V)) (k : κ) : valV kvs k = getG kvs k := rfl
/-- a table of values, a table of data -/
structure RepT {κ : Type} (K : PySem.W.Frag) (G : Hp) (kvs : List (κ × V)) (kds : List (κ × D)) : Prop where
  ks : kvs.map (·.1) = kds.map (·.1)
  vs : RepL K G (kvs.map (·.2)) (kds.map (·.2))
section
variable {κ : Type} [DecidableEq κ] {K : PySem.W.Frag} {G G' : Hp}
theorem RepT.nil : RepT K G ([] : List (κ × V)) [] := ⟨rfl, .nil⟩
theorem RepT.cons {k : κ} {v : V} {d : D} {kvs : List (κ × V)} {kds : List (κ × D)} (r : Rep K G v d) (t : RepT K G kvs kds) : RepT K G ((k, v) :: kvs) ((k, d) :: kds) := ⟨by simp [t.ks], .cons r t.vs⟩
theorem RepT.rec' {P : List (κ × V) → List (κ × D) → Prop} (h0 : P [] []) (h1 : ∀ k v d kvs kds, Rep K G v d → RepT K G kvs kds → P kvs kds → P ((k, v) :: kvs) ((k, d) :: kds)) : ∀ {kvs : List (κ × V)} {kds : List (κ × D)}, RepT K G kvs kds → P kvs kds
  | [], [], _ => h0
  | [], _ :: _, r => by have := r.ks; simp at this
  | _ :: _, [], r => by have := r.ks; simp at this
  | (k, v) :: kvs, (k', d) :: kds, r => by
    obtain ⟨e1, e2⟩ : k = k' ∧ kvs.map (·.1) = kds.map (·.1) := by simpa using r.ks
    subst e1
    have := r.vs
    cases this with
    | cons a b => exact h1 k v d kvs kds a ⟨e2, b⟩ (RepT.rec' h0 h1 ⟨e2, b⟩)
theorem RepT.mono {kvs : List (κ × V)} {kds : List (κ × D)} (e : Ex G G') (r : RepT K G kvs kds) : RepT K G' kvs kds := ⟨r.ks, r.vs.mono e⟩
theorem RepT.length {kvs : List (κ × V)} {kds : List (κ × D)} (r : RepT K G kvs kds) : kvs.length = kds.length := by
  have := congrArg List.length r.ks
  simpa using this
theorem RepT.get {kvs : List (κ × V)} {kds : List (κ × D)} (r : RepT K G kvs kds) (k : κ) : (getG kvs k = none ∧ getG kds k = none) ∨ ∃ v d, getG kvs k = some v ∧ getG kds k = some d ∧ Rep K G v d := by
  refine RepT.rec' (P := fun kvs kds => (getG kvs k = none ∧ getG kds k = none) ∨ ∃ v d, getG kvs k = some v ∧ getG kds k = some d ∧ Rep K G v d) (.inl ⟨rfl, rfl⟩) (fun k' v d kvs kds a _ ih => ?_) r
  by_cases h : k' = k
  · right; exact ⟨v, d, by simp [getG, h], by simp [getG, h], a⟩
  · have e1 : ∀ {α : Type} (x : α) (l : List (κ × α)), getG ((k', x) :: l) k = getG l k := fun x l => by simp [getG, h]
    rw [e1, e1]; exact ih
theorem RepT.any {kvs : List (κ × V)} {kds : List (κ × D)} (r : RepT K G kvs kds) (k : κ) : (kvs.any fun kv => decide (kv.1 = k)) = (kds.any fun kv => decide (kv.1 = k)) := by
  have e : ∀ {α : Type} (l : List (κ × α)), (l.any fun kv => decide (kv.1 = k)) = ((l.map (·.1)).any fun x => decide (x = k)) := fun l => by rw [List.any_map]; rfl
  rw [e, e, r.ks]
theorem RepT.append {kvs kws : List (κ × V)} {kds kes : List (κ × D)} (r : RepT K G kvs kds) (s : RepT K G kws kes) : RepT K G (kvs ++ kws) (kds ++ kes) := ⟨by simp [r.ks, s.ks], by simpa using r.vs.append s.vs⟩
theorem RepT.put {kvs : List (κ × V)} {kds : List (κ × D)} (r : RepT K G kvs kds) (k : κ) {v : V} {d : D} (q : Rep K G v d) : RepT K G (putG kvs k v) (putG kds k d) := by
  unfold putG
  rw [r.any k]
  split
  · refine RepT.rec' (P := fun kvs kds => RepT K G (kvs.map fun kv => if kv.1 = k then (kv.1, v) else kv) (kds.map fun kv => if kv.1 = k then (kv.1, d) else kv)) .nil (fun k' v' d' kvs kds a _ ih => ?_) r
    by_cases h : k' = k
    · subst h; simpa using RepT.cons (k := k') q ih
    · simpa [h] using RepT.cons (k := k') a ih
  · exact r.append (.cons q .nil)
theorem RepT.merge {more : List (κ × V)} {mds : List (κ × D)} (s : RepT K G more mds) : ∀ {kvs : List (κ × V)} {kds : List (κ × D)}, RepT K G kvs kds → RepT K G (mergeG kvs more) (mergeG kds mds) :=
  RepT.rec' (P := fun more mds => ∀ {kvs : List (κ × V)} {kds : List (κ × D)}, RepT K G kvs kds → RepT K G (mergeG kvs more) (mergeG kds mds)) (fun r => r) (fun k v d more mds a _ ih => fun {kvs kds} r => by
    show RepT K G (mergeG (putG kvs k v) more) (mergeG (putG kds k d) mds)
    exact ih (r.put k a)) s
theorem RepT.back {kvs : List (κ × V)} {ks : List κ} {ds : List D} (h : kvs.map (·.1) = ks) (r : RepL K G (kvs.map (·.2)) ds) : RepT K G kvs (ks.zip ds) := by
  have hl : ks.length = ds.length := by have := r.length; rw [List.length_map] at this; rw [← h, List.length_map, this]
  refine ⟨?_, ?_⟩
  · rw [h, List.map_fst_zip (by omega)]
  · rw [List.map_snd_zip (by omega)]; exact r
end
@[simp] def keyD : D → Option Key
  | .int i => some (.inl i)
  | .str x => some (.inr x)
  | _ => none
theorem keyD_out {K : PySem.W.Frag} {G : Hp} {v : V} {d : D} {k : Key} (r : Rep K G v d) (e : keyD d = some k) : v = kV k := by
  cases r with
  | int i => cases e; rfl
  | str x => cases e; rfl
  | _ => cases e
/-- the own table at p -/
def kvAt (μ : Mu) (p : Addr) : Option (List (Key × D)) := match μ p with
  | some (.k kvs) => some kvs
  | _ => none
@[simp] theorem kvAt_iff {μ : Mu} {p : Addr} {kvs : List (Key × D)} : kvAt μ p = some kvs ↔ μ p = some (.k kvs) := by
  unfold kvAt
  constructor
  · intro h
    split at h
    · rename_i e; cases h; exact e
    · cases h
  · intro h; rw [h]
/-- a dict that is read -/
@[simp] def asK (μ : Mu) : D → Option (List (Key × D))
  | .dk ks ds => some (ks.zip ds)
  | .own p => kvAt μ p
  | _ => none
theorem asK_out {K : PySem.W.Frag} {μ : Mu} {G H : Hp} {v : V} {d : D} {kds : List (Key × D)} (w : Wd K G H μ) (r : Rep K G v d) (e : asK μ d = some kds) : ∃ a kvs, v = .ref a ∧ H a = some (.dK kvs) ∧ RepT K G kvs kds := by
  cases r with
  | @dk a ks vs ds h hl q =>
    cases e
    refine ⟨_, _, rfl, w.ex _ _ h, RepT.back ?_ ?_⟩
    · rw [List.map_fst_zip (by omega)]
    · rw [List.map_snd_zip (by omega)]; exact q
  | own p =>
    obtain ⟨_, kvs, h, e1, q⟩ := w.muK p _ (kvAt_iff.mp e)
    exact ⟨_, _, rfl, h, e1, q⟩
  | _ => cases e
section
variable {K : PySem.W.Frag}
/-- y in d -/
@[simp] def rDIn (ri ro : RE) : RE := fun δ μ k => ri δ μ fun y μ1 => ro δ μ1 fun d μ2 => ∃ kvs kk, asK μ2 d = some kvs ∧ keyD y = some kk ∧ k (.bl (getG kvs kk).isSome) μ2
@[simp] def rDNotIn (ri ro : RE) : RE := fun δ μ k => ri δ μ fun y μ1 => ro δ μ1 fun d μ2 => ∃ kvs kk, asK μ2 d = some kvs ∧ keyD y = some kk ∧ k (.bl (!(getG kvs kk).isSome)) μ2
theorem isSome_get {G : Hp} {kvs : List (Key × V)} {kds : List (Key × D)} (r : RepT K G kvs kds) (k : Key) : (valV kvs k).isSome = (getG kds k).isSome := by
  rw [getV_eq]
  rcases r.get k with ⟨a, b⟩ | ⟨v, d, a, b, _⟩ <;> rw [a, b] <;> rfl
theorem okE_din {ti to : TE} {ri ro : RE} (hi : OkE K ti ri) (ho : OkE K to ro) : OkE K (tDIn ti to) (rDIn ri ro) := fun σ δ μ G H k Q S w q b =>
  hi σ δ μ G H _ _ S w q fun y dy μ1 G1 H1 q1 w1 g1 r1 => ho σ δ μ1 G1 H1 _ _ (S.mono g1.eg) w1 q1 fun x dx μ2 G2 H2 ⟨kvs, kk, e, ek, q2⟩ w2 g2 r2 => by
    obtain ⟨a, vs, rfl, h, rt⟩ := asK_out w2 r2 e
    obtain rfl := keyD_out (r1.mono g2.eg) ek
    exact ⟨a, _, rfl, DGet.k h, by rw [isSome_get rt]; exact b _ _ μ2 G2 H2 q2 w2 (g1.trans g2) (.bl _)⟩
theorem okE_dnotin {ti to : TE} {ri ro : RE} (hi : OkE K ti ri) (ho : OkE K to ro) : OkE K (tDNotIn ti to) (rDNotIn ri ro) := fun σ δ μ G H k Q S w q b =>
  hi σ δ μ G H _ _ S w q fun y dy μ1 G1 H1 q1 w1 g1 r1 => ho σ δ μ1 G1 H1 _ _ (S.mono g1.eg) w1 q1 fun x dx μ2 G2 H2 ⟨kvs, kk, e, ek, q2⟩ w2 g2 r2 => by
    obtain ⟨a, vs, rfl, h, rt⟩ := asK_out w2 r2 e
    obtain rfl := keyD_out (r1.mono g2.eg) ek
    exact ⟨a, _, rfl, DGet.k h, by rw [isSome_get rt]; exact b _ _ μ2 G2 H2 q2 w2 (g1.trans g2) (.bl _)⟩
/-- d[y] -/
@[simp] def rDGet (ro ri : RE) : RE := fun δ μ k => ro δ μ fun d μ1 => ri δ μ1 fun y μ2 => ∃ kvs kk x, asK μ2 d = some kvs ∧ keyD y = some kk ∧ getG kvs kk = some x ∧ k x μ2
theorem okE_dget {ti to : TE} {ri ro : RE} (ho : OkE K to ro) (hi : OkE K ti ri) : OkE K (tDGet to ti) (rDGet ro ri) := fun σ δ μ G H k Q S w q b =>
  ho σ δ μ G H _ _ S w q fun x dx μ1 G1 H1 q1 w1 g1 r1 => hi σ δ μ1 G1 H1 _ _ (S.mono g1.eg) w1 q1 fun y dy μ2 G2 H2 ⟨kvs, kk, z, e, ek, eg, q2⟩ w2 g2 r2 => by
    obtain ⟨a, vs, rfl, h, rt⟩ := asK_out w2 (r1.mono g2.eg) e
    obtain rfl := keyD_out r2 ek
    rcases rt.get kk with ⟨_, b1⟩ | ⟨v, d, a1, b1, rv⟩
    · rw [b1] at eg; cases eg
    · rw [b1] at eg; cases eg
      refine ⟨a, v, rfl, ?_, b _ _ μ2 G2 H2 q2 w2 (g1.trans g2) rv⟩
      have := DGet.k (k := kk) h
      rw [getV_eq, a1] at this
      exact this
/-! ### comprehensions -/
set_option checkBinderAnnotations false in
def rDcW (it : DIt) (rg : RG) (rt : RT) (rk rv : RE) (vs : List Nat) (δ : Sl) (μ1 : Mu) [fin : List (Key × D) → Mu → Prop] : Prop :=
  it.n ≤ 1000000 ∧ ∃ Inv : Nat → List (Key × D) → Mu → Prop, Inv 0 [] μ1 ∧ (∀ i acc μ, Inv i acc μ → it.ok μ) ∧
    (∀ i acc μ d, i < it.n → it.at_ i = some d → Inv i acc μ → rg d (wipeD δ vs) μ fun δ2 μ2 => rt δ2 μ2 fun b μ3 => if b = true then rk δ2 μ3 fun y μ4 => rv δ2 μ4 fun z μ5 => ∃ k, keyD y = some k ∧ Inv (i + 1) (putG acc k z) μ5 else Inv (i + 1) acc μ3) ∧
    (∀ acc μ, Inv it.n acc μ → fin acc μ)
@[simp] def rDc (ri : RI) (rg : RG) (rt : RT) (rk rv : RE) (vs : List Nat) : RE := fun δ μ k => ri δ μ fun it μ1 => @rDcW it rg rt rk rv vs δ μ1 fun acc μ' => k (.dk (acc.map (·.1)) (acc.map (·.2))) μ'
@[simp] def rDcO (ri : RI) (rg : RG) (rt : RT) (rk rv : RE) (vs : List Nat) : RE := fun δ μ k => ri δ μ fun it μ1 => @rDcW it rg rt rk rv vs δ μ1 fun acc μ' => ∀ p, μ' p = none → k (.own p) (muSet μ' p (.k acc))
theorem dc_run {J : It} {it : DIt} {g : TG} {rg : RG} {tt : TT} {rt : RT} {tk tv : TE} {rk rv : RE} {vs js : List Nat} {fin : List (Key × D) → Mu → Prop} {σ : L2.St} {δ : Sl} {μ : Mu} {G H : Hp} {Dl : Addr} {Qd : Hp → Prop}
    (hg : OkG K g rg js) (ht : OkT K tt rt) (hk : OkE K tk rk) (he : OkE K tv rv) (hj : js.all (fun i => decide (i ∈ vs)) = true) (S : SlOk K G σ δ) (w : Wd K G H μ) (io : ItOk K G J it) (hD : H Dl = none) (q : @rDcW it rg rt rk rv vs δ μ fin)
    (b : ∀ acc μ' G' H' xs, fin acc μ' → Wd K G' H' μ' → Go μ G H μ' G' (fun a => if a = Dl then none else H' a) → H' Dl = some (.dK xs) → G' Dl = none → μ' Dl = none → RepT K G' xs acc → Qd H') :
    ∃ W : Nat → Nat → Hp → Prop, (∃ m, W 0 m (upd H Dl (.dK []))) ∧ ∀ i m H1, W i m H1 →
      (J.stop i H1 ∧ Qd H1) ∨ (J.go i H1 ∧ ∃ Nx : Hp → Prop, (∀ H', Nx H' → ∃ m', m' < m ∧ W (i + 1) m' H') ∧ ∀ x H', J.yld i H1 x H' → g x (L2.wipe σ vs) H' fun σ2 H2 => L2.wipe σ2 vs = L2.wipe σ vs ∧ tt σ2 H2 fun b H3 =>
        if b = true then tk σ2 H3 fun y H4 => tv σ2 H4 fun z H5 => ∃ kvs k, y = kV k ∧ H5 Dl = some (.dK kvs) ∧ kvs.length < sizeLine ∧ Nx (upd H5 Dl (.dK (putK kvs k z))) else Nx H3) := by
  obtain ⟨hn, Inv, i0, iok, istep, iend⟩ := q
  have gD : G Dl = none := w.gnone hD
  have mD : μ Dl = none := w.mnone hD
  have wD : Wd K G (upd H Dl (.dK [])) μ := ⟨fun a o e => by rw [upd_ne (ne_of_none (w.ex _ _ e) hD)]; exact w.ex _ _ e, fun p ds e => by
    obtain ⟨a1, vs', a2, a3⟩ := w.mu p ds e
    exact ⟨a1, vs', by rw [upd_ne (ne_of_none a2 hD)]; exact a2, a3⟩⟩
  refine ⟨fun i m H1 => m = it.n - i ∧ i ≤ it.n ∧ ∃ acc μ1 G1 xs, Inv i acc μ1 ∧ Wd K G1 H1 μ1 ∧ Go μ G (upd H Dl (.dK [])) μ1 G1 (fun a => if a = Dl then some (.dK []) else H1 a) ∧ H1 Dl = some (.dK xs) ∧ G1 Dl = none ∧ μ1 Dl = none ∧ RepT K G1 xs acc ∧ acc.length ≤ i,
    ⟨it.n, rfl, Nat.zero_le _, [], μ, G, [], i0, wD, ?_, upd_same, gD, mD, .nil, Nat.le_refl _⟩, ?_⟩
  · have e : (fun a => if a = Dl then some (HO.dK []) else upd H Dl (.dK []) a) = upd H Dl (.dK []) := by
      funext a
      by_cases h : a = Dl
      · simp only [h, if_true]; rw [upd_same]
      · simp only [h, if_false]
    rw [e]
    exact Go.refl _ _ _
  · rintro i m H1 ⟨hm, hi, acc, μ1, G1, xs, hI, w1, g1, hx, gx, mx, rl, la⟩
    have e1 : Ex G G1 := g1.eg
    obtain ⟨hstop, hgo⟩ := io i μ1 G1 H1 e1 w1 (iok i acc μ1 hI)
    by_cases hin : i = it.n
    · refine .inl ⟨hstop hin.symm, b acc μ1 G1 H1 xs (iend acc μ1 (hin ▸ hI)) w1 ⟨e1, fun a o e hm => ?_, fun a e => ?_, fun a e => ?_⟩ hx gx mx rl⟩
      · have hne : a ≠ Dl := ne_of_none e hD
        have := g1.kp a o (by rw [upd_ne hne]; exact e) hm
        simp only [hne, if_false] at this ⊢
        exact this
      · rcases g1.dm a e with z | z
        · exact .inl z
        · by_cases hne : a = Dl
          · subst hne; exact .inr hD
          · rw [upd_ne hne] at z; exact .inr z
      · rcases g1.gf a e with z | z | z
        · exact .inl z
        · exact .inr (.inl z)
        · by_cases hne : a = Dl
          · subst hne; exact .inr (.inr hD)
          · rw [upd_ne hne] at z; exact .inr (.inr z)
    · have hlt : i < it.n := Nat.lt_of_le_of_ne hi hin
      obtain ⟨hgo, hy⟩ := hgo hlt
      refine .inr ⟨hgo, fun H' => ∃ acc' μ' G' xs', Inv (i + 1) acc' μ' ∧ Wd K G' H' μ' ∧ Go μ G (upd H Dl (.dK [])) μ' G' (fun a => if a = Dl then some (.dK []) else H' a) ∧ H' Dl = some (.dK xs') ∧ G' Dl = none ∧ μ' Dl = none ∧ RepT K G' xs' acc' ∧ acc'.length ≤ i + 1,
        fun H' hN => ⟨it.n - (i + 1), by omega, rfl, hlt, hN⟩, fun x H' hyl => ?_⟩
      obtain ⟨d, G2, ed, w2, g2, rd⟩ := hy x H' hyl
      have S1 : SlOk K G2 (L2.wipe σ vs) (wipeD δ vs) := (S.mono (e1.trans g2.eg)).wipe vs
      have keepD : ∀ {μa μb : Mu} {Ga Gb Ha Hb : Hp} {xs : List (Key × V)}, Go μa Ga Ha μb Gb Hb → Ha Dl = some (.dK xs) → Ga Dl = none → μa Dl = none → Hb Dl = some (.dK xs) ∧ Gb Dl = none ∧ μb Dl = none := fun g h1 h2 h3 => by
        refine ⟨g.kp _ _ h1 h3, ?_, g.none_mu h1 h3⟩
        rename_i μa μb Ga Gb Ha Hb xs
        cases e : Gb Dl with
        | none => rfl
        | some o =>
          rcases g.gf Dl (by rw [e]; simp) with z | z | z
          · exact absurd h2 z
          · exact absurd h3 z
          · rw [h1] at z; cases z
      have hide : ∀ {μa μb : Mu} {Ga Gb Ha Hb : Hp} {xs : List (Key × V)}, Go μa Ga Ha μb Gb Hb → Ha Dl = some (.dK xs) → Go μa Ga (fun a => if a = Dl then some (.dK []) else Ha a) μb Gb (fun a => if a = Dl then some (.dK []) else Hb a) := fun g h1 => by
        refine ⟨g.eg, fun a o e hm => ?_, fun a e => ?_, fun a e => ?_⟩
        · by_cases hne : a = Dl
          · simp only [hne, if_true] at e ⊢; exact e
          · simp only [hne, if_false] at e ⊢; exact g.kp a o e hm
        · rcases g.dm a e with z | z
          · exact .inl z
          · by_cases hne : a = Dl
            · rw [hne, h1] at z; cases z
            · right; simp only [hne, if_false]; exact z
        · rcases g.gf a e with z | z | z
          · exact .inl z
          · exact .inr (.inl z)
          · by_cases hne : a = Dl
            · rw [hne, h1] at z; cases z
            · right; right; simp only [hne, if_false]; exact z
      obtain ⟨hx2, gx2, mx2⟩ := keepD g2 hx gx mx
      have g12 := g1.trans (hide g2 hx)
      refine hg x d (L2.wipe σ vs) (wipeD δ vs) μ1 G2 H' _ _ S1 w2 rd (istep i acc μ1 d hlt ed hI) fun σ2 δ2 μ3 G3 H3 q3 S3 w3 g3 l3 => ⟨?_, ?_⟩
      · rw [← wipe_wipe σ vs]
        refine wipe_of l3.1 fun j hjv => l3.2 j fun z => hjv ?_
        have := List.all_eq_true.mp hj j z
        exact of_decide_eq_true this
      · obtain ⟨hx3, gx3, mx3⟩ := keepD g3 hx2 gx2 mx2
        refine ht σ2 δ2 μ3 G3 H3 _ _ S3 w3 q3 fun c μ4 G4 H4 q4 w4 g4 => ?_
        obtain ⟨hx4, gx4, mx4⟩ := keepD g4 hx3 gx3 mx3
        have g14 := (g12.trans (hide g3 hx2)).trans (hide g4 hx3)
        cases c with
        | true =>
          refine hk σ2 δ2 μ4 G4 H4 _ _ (S3.mono g4.eg) w4 q4 fun vk dk μ5 G5 H5 q5 w5 g5 r5 => ?_
          obtain ⟨hx5, gx5, mx5⟩ := keepD g5 hx4 gx4 mx4
          have g15 := g14.trans (hide g5 hx4)
          refine he σ2 δ2 μ5 G5 H5 _ _ ((S3.mono g4.eg).mono g5.eg) w5 q5 fun v y μ6 G6 H6 ⟨kk, ekk, q6⟩ w6 g6 r6 => ?_
          obtain ⟨hx6, gx6, mx6⟩ := keepD g6 hx5 gx5 mx5
          have g16 := g15.trans (hide g6 hx5)
          have rl6 := rl.mono (g2.eg.trans (g3.eg.trans (g4.eg.trans (g5.eg.trans g6.eg))))
          refine ⟨xs, kk, keyD_out r5 ekk, hx6, sz_lt (by rw [rl.length]; omega), putG acc kk y, μ6, G6, putK xs kk v, q6, ⟨fun a o e => ?_, fun p ds e => ?_⟩, ?_, upd_same, gx6, mx6, rl6.put kk r6, by have := putG_len acc kk y; omega⟩
          · have hne : a ≠ Dl := ne_of_none e gx6
            rw [upd_ne hne]; exact w6.ex _ _ e
          · obtain ⟨a1, vs', a2, a3⟩ := w6.mu p ds e
            have hne : p ≠ Dl := fun z => by subst z; rw [mx6] at e; cases e
            exact ⟨a1, vs', by rw [upd_ne hne]; exact a2, a3⟩
          · have e : (fun a => if a = Dl then some (HO.dK []) else upd H6 Dl (.dK (putK xs kk v)) a) = (fun a => if a = Dl then some (HO.dK []) else H6 a) := by
              funext a
              by_cases h : a = Dl
              · simp only [h, if_true]
              · simp only [h, if_false]; rw [upd_ne h]
            rw [e]
            exact g16
        | false =>
          exact ⟨acc, μ4, G4, xs, q4, w4, g14, hx4, gx4, mx4, rl.mono (g2.eg.trans (g3.eg.trans g4.eg)), by omega⟩
theorem okE_dc {wi : TI} {ri : RI} {g : TG} {rg : RG} {tt : TT} {rt : RT} {tk tv : TE} {rk rv : RE} {vs js : List Nat} (hi : OkI K wi ri) (hg : OkG K g rg js) (ht : OkT K tt rt) (hk : OkE K tk rk) (he : OkE K tv rv) (hj : js.all (fun i => decide (i ∈ vs)) = true) :
    OkE K (tDc wi g tt tk tv vs) (rDc ri rg rt rk rv vs) := fun σ δ μ G H k Q S w q b =>
  hi σ δ μ G H _ _ S w q fun J it μ1 G1 H1 q1 w1 g1 io Dl hD => dc_run hg ht hk he hj (S.mono g1.eg) w1 io hD q1 fun acc μ' G' H' xs fn w' g' hx gx mx rl => by
    have rp : Rep K (upd G' Dl (.dK xs)) (.ref Dl) (.dk (acc.map (·.1)) (acc.map (·.2))) := RepC.rep (c := .k acc) gx (.k rl.ks rl.vs)
    refine b _ _ μ' (upd G' Dl (.dK xs)) H' fn ⟨fun a o e => ?_, fun p ds e => ?_⟩ ⟨g1.eg.trans (g'.eg.trans (Ex.new gx)), fun a o e hm => ?_, fun a e => ?_, fun a e => ?_⟩ rp
    · by_cases hne : a = Dl
      · subst hne; rw [upd_same] at e; rw [← e]; exact hx
      · rw [upd_ne hne] at e; exact w'.ex _ _ e
    · obtain ⟨a1, vs', a2, a3⟩ := w'.mu p ds e
      have hne : p ≠ Dl := fun z => by subst z; rw [mx] at e; cases e
      exact ⟨by rw [upd_ne hne]; exact a1, vs', a2, a3.mono (Ex.new gx)⟩
    · have e1 := (g1.trans g').kp a o e hm
      have hne : a ≠ Dl := fun z => by subst z; simp at e1
      simp only [hne, if_false] at e1
      exact e1
    · exact (g1.trans g').dm a e
    · by_cases hne : a = Dl
      · subst hne
        rcases g1.back hD with z | z
        · exact .inr (.inl z)
        · exact .inr (.inr z)
      · rw [upd_ne hne] at e; exact (g1.trans g').gf a e
theorem okE_dcO {wi : TI} {ri : RI} {g : TG} {rg : RG} {tt : TT} {rt : RT} {tk tv : TE} {rk rv : RE} {vs js : List Nat} (hi : OkI K wi ri) (hg : OkG K g rg js) (ht : OkT K tt rt) (hk : OkE K tk rk) (he : OkE K tv rv) (hj : js.all (fun i => decide (i ∈ vs)) = true) :
    OkE K (tDc wi g tt tk tv vs) (rDcO ri rg rt rk rv vs) := fun σ δ μ G H k Q S w q b =>
  hi σ δ μ G H _ _ S w q fun J it μ1 G1 H1 q1 w1 g1 io Dl hD => dc_run hg ht hk he hj (S.mono g1.eg) w1 io hD q1 fun acc μ' G' H' xs fn w' g' hx gx mx rl => by
    refine b _ _ (muSet μ' Dl (.k acc)) G' H' (fn Dl mx) ⟨w'.ex, fun p ds e => ?_⟩ ⟨g1.eg.trans g'.eg, fun a o e hm => ?_, fun a e => ?_, fun a e => (g1.trans g').gf a e⟩ (.own Dl)
    · by_cases hne : p = Dl
      · subst hne; rw [muSet_same] at e; cases e; exact ⟨gx, .dK xs, hx, .k rl.ks rl.vs⟩
      · rw [muSet_ne hne] at e; exact w'.mu p ds e
    · have e1 := (g1.trans g').kp a o e hm
      have hne : a ≠ Dl := fun z => by subst z; simp at e1
      simp only [hne, if_false] at e1
      exact e1
    · by_cases hne : a = Dl
      · subst hne
        exact g1.back hD
      · rw [muSet_ne hne] at e; exact (g1.trans g').dm a e
end
end DL


set_option Elab.async false
set_option linter.all false
set_option maxRecDepth 100000
set_option maxHeartbeats 4000000
/-! DLq: dicts: a name for a comprehension, update, sorted; ranges with a step; laws for comprehensions of dicts. -/
namespace DL
open PySem PySem.Spec PyProof.Rows L2 SlX
section
variable {X : Cx}
theorem swd_true {kx vx : Expr} {gs : List Comprehension} {scope : Scope} {pos py : Pos} {y : Str} {l : Nat} {env : Env} (hk : env.scope.kind = .function) (hy : env.scope.names.lookup y = some .local) (hl : (py.line == pos.line) = true)
    (ha : (scope.names.any fun (n, k) => n == y && (k == .local || k == .cell)) = false) : swapsWith (.DictComp kx vx gs scope pos) (some (.Name y py)) l env = pure true := by
  have ky : env.kindOf y = some .local := hy
  have hb : env.blockKind = .function := by unfold Env.blockKind; rw [hk]; rfl
  unfold swapsWith
  simp only [hb, ky, ha, Expr.pos, hl]
  rfl
theorem ps_setDc {i : Nat} {y : Str} {py : Pos} {kx vx tg iter : Expr} {ifs : List Expr} {scope : Scope} {own : List (Str × Nat)} {pos spos : Pos} {wi : TI} {g : TG} {tt : TT} {tk tv : TE} (hc : X.calm = true) (hN : X.N.Nodup) (hy : X.N[i]? = some y) (hyl : X.env.scope.names.lookup y = some .local)
    (hsw : swapsWith (.DictComp kx vx [⟨tg, iter, ifs, 0⟩] scope pos) (some (.Name y py)) spos.line X.env = pure true) (hi : PI X tg iter wi) (ok : BlkOk X.N X.env.scope scope own)
    (hg : ∀ (s : Shared) (H : Hp) (C : Addr) (cl : List (Str × Addr)) (fp : List Addr), PG (X.blk s H scope (compEnvC scope cl C X.env) fp) tg g) (ht : ∀ (s : Shared) (H : Hp) (C : Addr) (cl : List (Str × Addr)) (fp : List Addr), PTs (X.blk s H scope (compEnvC scope cl C X.env) fp) ifs tt)
    (hk : ∀ (s : Shared) (H : Hp) (C : Addr) (cl : List (Str × Addr)) (fp : List Addr), PE (X.blk s H scope (compEnvC scope cl C X.env) fp) kx tk)
    (he : ∀ (s : Shared) (H : Hp) (C : Addr) (cl : List (Str × Addr)) (fp : List Addr), PE (X.blk s H scope (compEnvC scope cl C X.env) fp) vx tv) (hs : ∀ x, foldedSetIterable iter X.env x = pure x := by intro _; rfl) :
    PS X (.Assign [.Name y py] (.DictComp kx vx [⟨tg, iter, ifs, 0⟩] scope pos) spos) (tAsg (tDc wi g tt tk tv (own.map (·.2))) (gName i)) := by
  refine ⟨fun pins s σ H D I h => ?_⟩
  rw [exec_Assign_Name_used _ _ _ _ hsw]
  refine wpAny_bind (wpAny_standAt (wpAny_bind ?_))
  have h : tDc wi g tt tk tv (own.map (·.2)) σ H (fun x H1 => gName i x σ H1 D.nx) := h
  refine wpAny_bind (thn (dc_core (Qf := fun _ s' => SP X pins D .next s') hc hN I hi ok hg ht hk he hs h fun L C s' m H' I' q hn f => ?_) fun _ s' hq => wpAny_pure (wpAny_pure hq))
  show wpAny _ _ (assign (.Name y py) X.env (.ref L)) _ _ _
  refine wpAny_assign_Name (store_ok2 (v := V.ref L) I' hN hy (.inl hyl) rfl (fun s2 I2 ⟨a, sb, ha⟩ => ?_) (.inr hyl))
  obtain ⟨f0, f1, f2, f3, f4, f5⟩ := f
  have haC : C ≠ a := by
    rcases ha with z | z
    · rw [z]; exact f1
    · exact fun e => f4 y a z e.symm
  refine ⟨m, hn.sameBut sb haC, fun h3 sb3 => ?_⟩
  exact ⟨_, H', I2.turned (t' := s2.toks) (fun b o hb e => (sb3.2 b hb).trans e) f0 f1 f3 f4 f5, q⟩
end
/-! ### d.update(e), e another dict -/
theorem KV.merge {κ : Type} [DecidableEq κ] {more : List (κ × V)} {ws : List (κ × Value)} (s : KV more ws) : ∀ {kvs : List (κ × V)} {vs : List (κ × Value)}, KV kvs vs → KV (mergeG kvs more) (merged vs ws) := by
  unfold KV at s
  induction s with
  | nil => intro kvs vs r; exact r
  | @cons p q ps qs h t ih =>
    intro kvs vs r
    have r1 := L2.KV.put r p.1 h.2
    rw [putV_eq] at r1
    show KV (mergeG (putG kvs p.1 p.2) ps) (merged (stored vs q.1 q.2) qs)
    rw [← h.1]
    exact ih r1
def rUpdK : V → List V → Hp → VK → Prop := fun x xs H Q => ∃ (a b : Addr) (kvs more : List (Key × V)), x = .ref a ∧ xs = [.ref b] ∧ a ≠ b ∧ H a = some (.dK kvs) ∧ H b = some (.dK more) ∧ kvs.length + more.length ≤ sizeLine ∧ Q .non (upd H a (.dK (mergeG kvs more)))
theorem mt_updK {X : Cx} : MtR X "dict.update" rUpdK := by
  intro pins s σ H x xs v us Q I rx rxs h
  obtain ⟨a, b, kvs, more, rfl, rfl, hne, ha, hb, hz, q⟩ := h
  cases rx
  obtain ⟨u1, rfl, r1⟩ := vals1 rxs
  cases r1
  obtain ⟨z, hd, vs, rel, dd⟩ := dk_of I.hok ha
  obtain ⟨z2, hd2, ws, rel2, dd2⟩ := dk_of I.hok hb
  have l1 : vs.length = kvs.length := by have := congrArg List.length rel.keys; simpa using this.symm
  have l2 : ws.length = more.length := by have := congrArg List.length rel2.keys; simpa using this.symm
  refine call_meetsIn PySem.F.slot_dict_update dd.typeIs PySem.F.entry_dict_update (PySem.F.args_dict_update_2 _ _) (meets_dict_update (mixKind X.prog X.w) a b hne hd2) ⟨vs, ws, dd, dd2, by omega, fun h' dd' _ hs => ?_⟩
  have he : ∃ q, h'.get? a = some q := let ⟨q, _, _, hq, _⟩ := dd'; ⟨q, hq⟩
  have hl : (mergeG kvs more).length ≤ sizeLine := by have := mergeG_len more kvs; omega
  exact ⟨.non, _, d_write I (by rw [ha]; exact True.intro) hs he (dk_new hl hd (KV.merge rel2 rel) dd'), rfl, q⟩
section
variable (K : PySem.W.Frag) {X : Cx}
theorem ke_updK {o e : Expr} {apos cpos : Pos} {to : TE} {t : TA} (ho : PE X o to) (ha : PA X [e] t) (hK : X.K = K := by rfl)
    (hbase : attributeBase o "update" X.env (eval o X.env) = eval o X.env := by rfl)
    (hfew : ((backTo cpos (starEach [e] X.env)).all (fun x => !x.1) && (backToKw cpos (keywordEach [] X.env)).all (fun x => x.1.isSome) && decide ([e].length + ([] : List Keyword).length + (if ([] : List Keyword).isEmpty then 0 else 1) < 30)) = true := by rfl)
    (hline : (apos.endLine == cpos.line) = true := by rfl) (hs : starEach [e] X.env = (false, eval e X.env) :: starEach [] X.env := by rfl) (hplain : (backTo cpos (starEach [] X.env)).any (·.1) = false := by rfl) :
    PE X (.Call (.Attribute o "update" apos) [e] [] cpos) (tBM K "dict" rUpdK to t) := by
  subst hK; exact pe_bm PySem.F.plainAttrs_dict PySem.F.slot_dict_update PySem.F.type_dict_update mt_updK ho ha hbase hfew hline hs hplain
theorem kc_sortedK (hc : X.calm = true := by rfl) (hK : X.K = K := by rfl) : CallR X (.builtin "sorted") (fun xs H Q => ∃ (a : Addr) (kvs : List (Key × V)) (ks : List Int), xs = [.ref a] ∧ L2.Rd H a (.dK kvs) ∧ kvs.map (·.1) = ks.map Sum.inl ∧ ks.length < 64 ∧
    ∀ (ys : List Int) (p : Addr), ys.Perm ks → ys.Pairwise (· ≤ ·) → H p = none → Q (.ref p) (upd H p (.lst (ys.map V.int)))) := call_sortedDI hc
theorem kc_sorted (hK : X.K = K := by rfl) : CallR X (.builtin "sorted") (rSorted K) := by subst hK; exact cr_sorted
end
theorem kr_range3 {X : Cx} {tg a b c : Expr} {ta : TA} {p pos : Pos} {mg : Str → Option Value} (hm : mg "range" = none) (ha : PA X [a, b, c] ta) (hg : Gl X "range" := by rfl) (hmg : X.mg = mg := by rfl) (hs : starEach [a, b, c] X.env = (false, eval a X.env) :: starEach [b, c] X.env := by rfl) (hpl : (backTo pos (starEach [b, c] X.env)).any (·.1) = false := by rfl) : PI X tg (.Call (.Name "range" p) [a, b, c] [] pos) (iRng3 ta) := by
  subst hmg; exact pi_range3 hg hm ha hs hpl
section
variable {K : PySem.W.Frag}
/-- d.update(e), e a dict that does not change -/
@[simp] def rUpd (ro re : RE) : RE := fun δ μ k => ro δ μ fun o μ1 => match o with
  | .own p => (∃ kvs, μ1 p = some (.k kvs)) ∧ re δ μ1 fun d μ2 => match d with
    | .dk ks ds => ∃ kvs, μ2 p = some (.k kvs) ∧ kvs.length + ks.length ≤ 1000000 ∧ k .non (muSet μ2 p (.k (mergeG kvs (ks.zip ds))))
    | _ => False
  | _ => False
theorem own_tyK {μ : Mu} {G H : Hp} {p : Addr} (w : Wd K G H μ) (h : ∃ kvs, μ p = some (.k kvs)) : tyV K "dict" (.ref p) H := by
  obtain ⟨kvs, e2⟩ := h
  obtain ⟨_, vs, h, _⟩ := w.muK p kvs e2
  exact .inr (.inr (.inl ⟨rfl, .inl ⟨_, h⟩⟩))
theorem okE_upd {to te : TE} {ro re : RE} (ho : OkE K to ro) (he : OkE K te re) : OkE K (tBM K "dict" rUpdK to (tCons te tNil)) (rUpd ro re) := fun σ δ μ G H k Q S w q b =>
  ho σ δ μ G H _ _ S w q fun x o μ1 G1 H1 q1 w1 g1 r1 => by
    cases r1 with
    | own p =>
      obtain ⟨hp, q1⟩ := q1
      refine ⟨own_tyK w1 hp, he σ δ μ1 G1 H1 _ _ (S.mono g1.eg) w1 q1 fun v d μ2 G2 H2 q2 w2 g2 r2 => ?_⟩
      cases r2 with
      | @dk a ks vs ds h hl rd =>
        obtain ⟨kvs, e, hz, q3⟩ := q2
        obtain ⟨gp, ws, hw, e1, rw⟩ := w2.muK p kvs e
        have rt : RepT K G2 ws kvs := ⟨e1, rw⟩
        have rm : RepT K G2 (ks.zip vs) (ks.zip ds) := RepT.back (by rw [List.map_fst_zip (by omega)]) (by rw [List.map_snd_zip (by omega)]; exact rd)
        have hne : p ≠ a := fun z => by subst z; rw [gp] at h; cases h
        have rr := rm.merge rt
        refine ⟨p, a, ws, ks.zip vs, rfl, rfl, hne, hw, w2.ex _ _ h, sz_of (by rw [rt.length, List.length_zip]; omega), b _ _ _ G2 _ q3 (w2.wrC (o := .dK (mergeG ws (ks.zip vs))) e (.k rr.ks rr.vs)) ((g1.trans g2).trans (Go.wrC e)) .non⟩
      | _ => exact q2.elim
    | _ => exact q1.elim
-- sorted(d), its keys ints
set_option checkBinderAnnotations false in
def hSortK (xs : List D) (μ : Mu) [k : DK] : Prop := match xs with | [x] => ∃ (kvs : List (Key × D)) (ks : List Int), asK μ x = some kvs ∧ kvs.map (·.1) = ks.map Sum.inl ∧ ks.length < 64 ∧ ∀ ys : List Int, ys.Perm ks → ys.Pairwise (· ≤ ·) → k (.lst (ys.map D.int)) μ | _ => False
@[simp] def oSortK : FL := fun xs μ k => @hSortK xs μ k
theorem okSortK : OkC K (fun xs H Q => ∃ (a : Addr) (kvs : List (Key × V)) (ks : List Int), xs = [.ref a] ∧ L2.Rd H a (.dK kvs) ∧ kvs.map (·.1) = ks.map Sum.inl ∧ ks.length < 64 ∧
    ∀ (ys : List Int) (p : Addr), ys.Perm ks → ys.Pairwise (· ≤ ·) → H p = none → Q (.ref p) (upd H p (.lst (ys.map V.int)))) oSortK := fun xs as μ G H k Q w r q t => by
  unfold oSortK hSortK at q
  split at q
  · obtain ⟨kvs, ks, e, e1, hl, q⟩ := q
    obtain ⟨v, rfl, rx⟩ := one_arg r
    obtain ⟨a, vs, rfl, h, rt⟩ := asK_out w rx e
    exact ⟨a, vs, ks, rfl, .inl h, rt.ks.trans e1, hl, fun ys p h1 h2 hp => mkLst w (RepL.of_ints ys) (q ys h1 h2) t p hp⟩
  · exact q.elim
-- sorted(xs), whole numbers
set_option checkBinderAnnotations false in
def hSortI (xs : List D) (μ : Mu) [k : DK] : Prop := match xs with | [x] => ∃ ks : List Int, asL μ x = some (ks.map D.int) ∧ ks.length < 64 ∧ ∀ ys : List Int, ys.Perm ks → ys.Pairwise (· ≤ ·) → k (.lst (ys.map D.int)) μ | _ => False
@[simp] def oSortI : FL := fun xs μ k => @hSortI xs μ k
theorem okSortI : OkC K (rSorted K) oSortI := fun xs as μ G H k Q w r q t => by
  unfold oSortI hSortI at q
  split at q
  · obtain ⟨ks, e, hl, q⟩ := q
    obtain ⟨v, rfl, rx⟩ := one_arg r
    obtain ⟨a, rfl, h⟩ := asI_out w rx e
    exact ⟨a, ks, rfl, SqL.of h, hl, fun ys p h1 h2 hp => mkLst w (RepL.of_ints ys) (q ys h1 h2) t p hp⟩
  · exact q.elim
end
theorem units1 {a : Nat} (h : a + 64 < cLine) : a + 1 < cLine := by omega
/-! ### laws -/
/-- each element alone, nothing changes: kept by p, with the key kk, the value g -/
theorem dcW_inv {it : DIt} {rg : RG} {rt : RT} {rk rv : RE} {vs : List Nat} {δ : Sl} {μ : Mu} {fin : List (Key × D) → Mu → Prop} {α : Type} (xs : List α) (e : α → D) (s : Src it μ (xs.map e)) (hn : xs.length ≤ 1000000)
    (Inv : Nat → List (Key × D) → Mu → Prop) (h0 : Inv 0 [] μ) (hok : ∀ i acc μ', Inv i acc μ' → it.ok μ')
    (step : ∀ i x acc μ', xs[i]? = some x → Inv i acc μ' → rg (e x) (wipeD δ vs) μ' fun δ2 μ2 => rt δ2 μ2 fun b μ3 => if b = true then rk δ2 μ3 fun y μ4 => rv δ2 μ4 fun z μ5 => ∃ k, keyD y = some k ∧ Inv (i + 1) (putG acc k z) μ5 else Inv (i + 1) acc μ3)
    (h : ∀ acc μ', Inv xs.length acc μ' → fin acc μ') : @rDcW it rg rt rk rv vs δ μ fin := by
  have hl : it.n = xs.length := by rw [s.len, List.length_map]
  refine ⟨by rw [hl]; exact hn, Inv, h0, hok, fun i acc μ' d hi hd q => ?_, fun acc μ' q => h acc μ' (hl ▸ q)⟩
  obtain ⟨x, hx, rfl⟩ := s.get hi hd
  exact step i x acc μ' hx q
theorem dcW_filt {it : DIt} {rg : RG} {rt : RT} {rk rv : RE} {vs : List Nat} {δ : Sl} {μ : Mu} {fin : List (Key × D) → Mu → Prop} {α : Type} (xs : List α) (e : α → D) (kk : α → Key) (g : α → D) (p : α → Bool) (s : Src it μ (xs.map e)) (hn : xs.length ≤ 1000000)
    (step : ∀ x ∈ xs, ∀ (kt : Key → DK) (kf : Mu → Prop), (p x = true → kt (kk x) (g x) μ) → (p x = false → kf μ) → rg (e x) (wipeD δ vs) μ fun δ2 μ2 => rt δ2 μ2 fun b μ3 => if b = true then rk δ2 μ3 fun y μ4 => rv δ2 μ4 fun z μ5 => ∃ k, keyD y = some k ∧ kt k z μ5 else kf μ3)
    (h : fin ((xs.filter p).foldl (fun acc x => putG acc (kk x) (g x)) []) μ) : @rDcW it rg rt rk rv vs δ μ fin := by
  refine dcW_inv xs e s hn (fun i acc μ' => μ' = μ ∧ acc = ((xs.take i).filter p).foldl (fun acc x => putG acc (kk x) (g x)) []) ⟨rfl, by simp⟩ (fun i acc μ' q => q.1 ▸ s.ok) (fun i x acc μ' hx q => ?_) (fun acc μ' q => ?_)
  · obtain ⟨rfl, rfl⟩ := q
    refine step x (List.mem_of_getElem? hx) (fun k z μ5 => μ5 = μ' ∧ putG _ k z = _) _ (fun hp => ⟨rfl, ?_⟩) (fun hp => ⟨rfl, ?_⟩)
    · rw [take_succ_of hx, List.filter_append, List.foldl_append]; simp [hp]
    · rw [take_succ_of hx, List.filter_append, List.foldl_append]; simp [hp]
  · obtain ⟨rfl, rfl⟩ := q
    rw [List.take_length]
    exact h
/-- new keys only: the entries one by one -/
theorem putG_new {κ α : Type} [DecidableEq κ] {kvs : List (κ × α)} {k : κ} (v : α) (h : ∀ kv ∈ kvs, kv.1 ≠ k) : putG kvs k v = kvs ++ [(k, v)] := by
  unfold putG
  rw [if_neg]
  rw [List.any_eq_true]
  rintro ⟨kv, hkv, e⟩
  exact h kv hkv (of_decide_eq_true e)
theorem fold_new {κ α β : Type} [DecidableEq κ] {kk : β → κ} {g : β → α} : ∀ {xs : List β} {kvs : List (κ × α)}, (xs.map kk).Nodup → (∀ x ∈ xs, ∀ kv ∈ kvs, kv.1 ≠ kk x) → xs.foldl (fun acc x => putG acc (kk x) (g x)) kvs = kvs ++ xs.map fun x => (kk x, g x)
  | [], kvs, _, _ => by simp
  | x :: xs, kvs, hn, hd => by
    rw [List.foldl_cons, putG_new _ (hd x (by simp))]
    have hn' := List.nodup_cons.mp (by simpa using hn : (kk x :: xs.map kk).Nodup)
    rw [fold_new (kvs := kvs ++ [(kk x, g x)]) hn'.2 (fun y hy kv hkv => ?_)]
    · simp
    · rcases List.mem_append.mp hkv with hkv | hkv
      · exact hd y (List.mem_cons_of_mem _ hy) kv hkv
      · rw [List.mem_singleton] at hkv
        subst hkv
        intro e
        exact hn'.1 (by rw [show kk x = kk y from e]; exact List.mem_map_of_mem hy)
section
variable {κ α : Type} [DecidableEq κ]
theorem getG_some {kvs : List (κ × α)} {k : κ} : (getG kvs k).isSome = true ↔ k ∈ kvs.map (·.1) := by
  unfold getG
  rw [Option.isSome_map, List.find?_isSome]
  simp
theorem putG_keys {kvs : List (κ × α)} {k : κ} {v : α} {x : κ} : x ∈ (putG kvs k v).map (·.1) ↔ x ∈ kvs.map (·.1) ∨ x = k := by
  unfold putG
  split
  · rename_i h
    have e : (kvs.map fun kv => if kv.1 = k then (kv.1, v) else kv).map (·.1) = kvs.map (·.1) := by
      rw [List.map_map]
      refine List.map_congr_left fun kv _ => ?_
      simp only [Function.comp_def]
      split <;> rfl
    rw [e]
    constructor
    · exact .inl
    · rintro (q | rfl)
      · exact q
      · obtain ⟨kv, h1, h2⟩ := List.any_eq_true.mp h
        exact List.mem_map.mpr ⟨kv, h1, of_decide_eq_true h2⟩
  · simp
theorem putG_nodup {kvs : List (κ × α)} {k : κ} {v : α} (h : (kvs.map (·.1)).Nodup) : ((putG kvs k v).map (·.1)).Nodup := by
  unfold putG
  split
  · have e : (kvs.map fun kv => if kv.1 = k then (kv.1, v) else kv).map (·.1) = kvs.map (·.1) := by
      rw [List.map_map]
      refine List.map_congr_left fun kv _ => ?_
      simp only [Function.comp_def]
      split <;> rfl
    rw [e]; exact h
  · rename_i hn
    rw [List.map_append, List.nodup_append]
    refine ⟨h, by simp, fun a ha b hb => ?_⟩
    have hb : b = k := by simpa using hb
    subst hb
    rintro rfl
    obtain ⟨kv, h1, h2⟩ := List.mem_map.mp ha
    exact hn (List.any_eq_true.mpr ⟨kv, h1, decide_eq_true h2⟩)
theorem mergeG_keys {more : List (κ × α)} : ∀ {kvs : List (κ × α)} {x : κ}, x ∈ (mergeG kvs more).map (·.1) ↔ x ∈ kvs.map (·.1) ∨ x ∈ more.map (·.1) := by
  induction more with
  | nil => intro kvs x; simp [mergeG]
  | cons m more ih =>
    intro kvs x
    have e : mergeG kvs (m :: more) = mergeG (putG kvs m.1 m.2) more := rfl
    rw [e, ih, putG_keys, List.map_cons, List.mem_cons]
    constructor
    · rintro ((a | b) | c)
      · exact .inl a
      · exact .inr (.inl b)
      · exact .inr (.inr c)
    · rintro (a | b | c)
      · exact .inl (.inl a)
      · exact .inl (.inr b)
      · exact .inr c
theorem mergeG_nodup {more : List (κ × α)} : ∀ {kvs : List (κ × α)}, (kvs.map (·.1)).Nodup → ((mergeG kvs more).map (·.1)).Nodup := by
  induction more with
  | nil => intro kvs h; exact h
  | cons m more ih => intro kvs h; exact ih (putG_nodup h)
theorem fold_merge {β : Type} {kk : β → κ} {g : β → α} : ∀ {xs : List β} {kvs : List (κ × α)}, xs.foldl (fun acc x => putG acc (kk x) (g x)) kvs = mergeG kvs (xs.map fun x => (kk x, g x))
  | [], _ => rfl
  | x :: xs, kvs => by
    rw [List.foldl_cons, fold_merge (xs := xs)]; rfl
end
theorem cast_sorted {ks : List Nat} {ys : List Int} (hk : ks.Pairwise (· < ·)) (hp : ys.Perm (ks.map fun a : Nat => (a : Int))) (hs : ys.Pairwise (· ≤ ·)) : ys = ks.map fun a : Nat => (a : Int) := by
  refine List.Perm.eq_of_pairwise (le := fun a b : Int => a ≤ b) (fun a b _ _ h1 h2 => by omega) hs ?_ hp
  rw [List.pairwise_map]
  exact hk.imp (fun h => by omega)
theorem lt_nodup {ks : List Nat} (hk : ks.Pairwise (· < ·)) : ks.Nodup := hk.imp (fun h => by omega)
/-- sorted(d), its keys just these numbers -/
theorem sorted_of {kvs : List (Key × D)} {kept : List Nat} (hn : (kvs.map (·.1)).Nodup) (hk : kept.Pairwise (· < ·)) (hm : ∀ x : Key, x ∈ kvs.map (·.1) ↔ ∃ a : Nat, x = .inl (a : Int) ∧ a ∈ kept) :
    ∃ ks : List Int, kvs.map (·.1) = ks.map Sum.inl ∧ ks.length = kept.length ∧ ∀ ys : List Int, ys.Perm ks → ys.Pairwise (· ≤ ·) → ys = kept.map fun a : Nat => (a : Int) := by
  obtain ⟨toI, htoI⟩ : ∃ toI : Key → Int, ∀ i, toI (.inl i) = i := ⟨fun k => match k with | .inl i => i | .inr _ => 0, fun _ => rfl⟩
  have h1 : kvs.map (·.1) = ((kvs.map (·.1)).map toI).map Sum.inl := by
    rw [List.map_map]
    conv => lhs; rw [← List.map_id (kvs.map (·.1))]
    refine List.map_congr_left fun x hx => ?_
    obtain ⟨a, rfl, _⟩ := (hm x).mp hx
    simp [htoI]
  have hp : (kvs.map (·.1)).Perm (kept.map fun a : Nat => (.inl (a : Int) : Key)) := by
    refine (List.perm_ext_iff_of_nodup hn ?_).mpr fun x => ?_
    · rw [List.nodup_iff_pairwise_ne, List.pairwise_map]
      exact hk.imp (fun {a b} h z => by have : (a : Int) = b := Sum.inl.inj z; omega)
    · rw [hm]
      constructor
      · rintro ⟨a, rfl, ha⟩; exact List.mem_map.mpr ⟨a, ha, rfl⟩
      · intro h; obtain ⟨a, ha, rfl⟩ := List.mem_map.mp h; exact ⟨a, rfl, ha⟩
  have hp2 : ((kvs.map (·.1)).map toI).Perm (kept.map fun a : Nat => (a : Int)) := by
    have := hp.map toI
    rw [List.map_map (l := kept)] at this
    refine this.trans ?_
    rw [show (toI ∘ fun a : Nat => (Sum.inl (a : Int) : Key)) = fun a : Nat => (a : Int) from by funext a; simp [htoI]]
  exact ⟨(kvs.map (·.1)).map toI, h1, by rw [hp2.length_eq, List.length_map], fun ys h2 h3 => cast_sorted hk (h2.trans hp2) h3⟩
/-- sorted(xs), just these numbers -/
theorem sorted_nats {S kept : List Nat} (hn : S.Nodup) (hk : kept.Pairwise (· < ·)) (hm : ∀ a, a ∈ S ↔ a ∈ kept) {ys : List Int} (hp : ys.Perm (S.map fun a : Nat => (a : Int))) (hs : ys.Pairwise (· ≤ ·)) : ys = kept.map fun a : Nat => (a : Int) :=
  cast_sorted hk (hp.trans (((List.perm_ext_iff_of_nodup hn (lt_nodup hk)).mpr hm).map _)) hs
/-- a walk with a step -/
theorem Src.c {μ : Mu} (lo c : Int) (n : Nat) : Src ⟨n, fun t => some (.int (lo + (t : Nat) * c)), fun _ => True⟩ μ ((List.range n).map fun i : Nat => .int (lo + (i : Nat) * c)) := by
  refine ⟨by simp, fun i d hi h => ?_, trivial⟩
  have hi : i < n := hi
  rw [List.getElem?_map, List.getElem?_range hi]
  exact h
end DL


set_option Elab.async false
set_option linter.all false
set_option maxRecDepth 100000
set_option maxHeartbeats 4000000
namespace K21
open PySem PySem.Spec PyProof.Rows L2 SlX DL
def topS (i : Nat) : Stmt := PySem.Challenge.pw_rampworks_k21_whole_trimmed_networks.main.body.getD i (.Pass ⟨0, 0, 0, 0⟩)
def sixty : Int := 1000000000000000000000000000000000000000000000000000000000000
/-- what the module's names hold -/
structure Txt (K : PySem.W.Frag) (mg : Str → Option Value) : Prop where
  b_isinstance : mg "isinstance" = none
  b_int : mg "int" = none
  b_bool : mg "bool" = none
  b_tuple : mg "tuple" = none
  b_len : mg "len" = none
  b_all : mg "all" = none
  b_sum : mg "sum" = none
  b_zip : mg "zip" = none
  b_range : mg "range" = none
  b_max : mg "max" = none
  b_min : mg "min" = none
  b_abs : mg "abs" = none
  b_list : mg "list" = none
  b_str : mg "str" = none
  b_any : mg "any" = none
  b_enumerate : mg "enumerate" = none
  b_sorted : mg "sorted" = none
  c_SIXTY : ∃ t, mg "SIXTY" = some (.int sixty t)
  c_MOST_INPUTS : ∃ t, mg "MOST_INPUTS" = some (.int 8 t)
  c_MOST_LAYERS : ∃ t, mg "MOST_LAYERS" = some (.int 4 t)
  c_MOST_IN_LAYER : ∃ t, mg "MOST_IN_LAYER" = some (.int 64 t)
  c_MOST_UNITS : ∃ t, mg "MOST_UNITS" = some (.int 128 t)
/-! the promises -/
abbrev intsD (ns : List Int) : List D := ns.map D.int
abbrev rowD (ns : List Int) : D := .tup (intsD ns)
abbrev layerD (rs : List (List Int)) : D := .tup (rs.map rowD)
abbrev layersD (ls : List (List (List Int))) : D := .tup (ls.map layerD)
def short (i : Int) : Bool := decide (-sixty < i) && decide (i < sixty)
def areShort (ns : List Int) (m : Int) : Bool := decide ((ns.length : Int) = m) && ns.all short
def isLayer (rs : List (List Int)) (m : Int) : Bool := decide (1 ≤ rs.length ∧ rs.length ≤ 64) && rs.all fun r => areShort r m
def d_is_whole : DSp := fun ds μ k => ∃ i, ds = [.int i] ∧ k (.bl true) μ
def d_is_short : DSp := fun ds μ k => ∃ i, ds = [.int i] ∧ k (.bl (short i)) μ
def d_is_from : DSp := fun ds μ k => ∃ i a b, ds = [.int i, .int a, .int b] ∧ k (.bl (decide (a ≤ i) && decide (i ≤ b))) μ
def d_are_short : DSp := fun ds μ k => ∃ ns m, ds = [rowD ns, .int m] ∧ ns.length ≤ 1000000 ∧ k (.bl (areShort ns m)) μ
def d_is_layer : DSp := fun ds μ k => ∃ rs m, ds = [layerD rs, .int m] ∧ rs.length ≤ 1000000 ∧ (∀ r ∈ rs, r.length ≤ 1000000) ∧ k (.bl (isLayer rs m)) μ
/-- the layers of a network, the first one seeing m numbers -/
def Lays : List (List (List Int)) → Nat → Prop
  | [], _ => True
  | l :: ls, m => (1 ≤ l.length ∧ l.length ≤ 64) ∧ (∀ r ∈ l, r.length = m ∧ ∀ x ∈ r, short x = true) ∧ Lays ls (m + l.length)
def total (ls : List (List (List Int))) : Nat := (ls.map List.length).sum
structure IsNet (n : Nat) (ls : List (List (List Int))) (la : List Int) : Prop where
  lo : 1 ≤ n
  hi : n ≤ 8
  few : ls.length ≤ 4
  lays : Lays ls n
  tot : total ls ≤ 128
  len : la.length = n + total ls
  short : ∀ x ∈ la, short x = true
theorem total_take_succ {ls : List (List (List Int))} {i : Nat} {l : List (List Int)} (h : ls[i]? = some l) : total (ls.take (i + 1)) = total (ls.take i) + l.length := by
  unfold total
  rw [take_succ_of h, List.map_append, List.sum_append]
  simp
theorem lays_at : ∀ {ls : List (List (List Int))} {m i : Nat} {l : List (List Int)}, Lays ls m → ls[i]? = some l → (1 ≤ l.length ∧ l.length ≤ 64) ∧ ∀ r ∈ l, r.length = m + total (ls.take i) ∧ ∀ x ∈ r, short x = true
  | [], _, _, _, _, h => by simp at h
  | l :: ls, m, 0, _, q, h => by
    simp at h; subst h
    exact ⟨q.1, fun r hr => ⟨by rw [(q.2.1 r hr).1]; simp [total], (q.2.1 r hr).2⟩⟩
  | l :: ls, m, i + 1, l', q, h => by
    obtain ⟨h1, h2⟩ := lays_at (ls := ls) (m := m + l.length) (i := i) (l := l') q.2.2 (by simpa using h)
    refine ⟨h1, fun r hr => ⟨?_, (h2 r hr).2⟩⟩
    rw [(h2 r hr).1]
    simp [total]
    omega
theorem total_le {ls : List (List (List Int))} (i : Nat) : total (ls.take i) ≤ total ls := by
  conv => rhs; rw [← List.take_append_drop i ls]
  unfold total
  rw [List.map_append, List.sum_append]
  omega
def d_are_parts : DSp := fun ds μ k => ∃ n ls la, ds = [.int (n : Nat), layersD ls, rowD la] ∧ IsNet n ls la ∧ k (.bl true) μ
section
variable {P : Program} {w : World} {K : PySem.W.Frag} {mg : Str → Option Value} {base : Heap}
abbrev s_is_whole : Stmt := topS 7
abbrev N_is_whole : List Str := ["value"]
theorem sc_is_whole : FnScope N_is_whole ["value"] (defScope s_is_whole) := ⟨rfl, rfl, rfl, by decide +kernel, rfl, by decide +kernel, by decide +kernel⟩
def r_is_whole : RS :=
  (rRet (rAndV (rIsiB "int" (rVar 0)) (rNotV (rIsiB "bool" (rVar 0)))))
theorem b_is_whole (T : Txt K mg) : Body P w K mg base 0 "is_whole" s_is_whole N_is_whole (r_is_whole) := by
  refine fun f => ⟨_, fun cdv A outer s H E hr => ⟨(pss_one (ps_ret (pe_and (kb_call (kc_isi K) T.b_isinstance (pa_cons (pv 0) (pa_cons (kb_ty (T := "int") T.b_int) pa_nil))) (pe_one (pe_not (kb_call (kc_isi K) T.b_isinstance (pa_cons (pv 0) (pa_cons (kb_ty (T := "bool") T.b_bool) pa_nil)))))))),
    (okS_ret (okE_andV (okE_isi (okE_var 0)) (okE_notV (okE_isi (okE_var 0)))))⟩⟩

abbrev s_is_short : Stmt := topS 8
abbrev N_is_short : List Str := ["value"]
theorem sc_is_short : FnScope N_is_short ["value"] (defScope s_is_short) := ⟨rfl, rfl, rfl, by decide +kernel, rfl, by decide +kernel, by decide +kernel⟩
def r_is_short : RS :=
  (rRet (rAndV (rCall d_is_whole (rCons (rVar 0) rNil)) (rChain (oB (fun i j => decide (i < j))) (oB (fun i j => decide (i < j))) (rUn oNeg (rC (.int sixty))) (rVar 0) (rC (.int sixty)))))
theorem b_is_short (F_is_whole : FnD P w K mg base "is_whole" 1 d_is_whole) (T : Txt K mg) : Body P w K mg base 1 "is_short" s_is_short N_is_short (r_is_short) := by
  refine fun f => ⟨_, fun cdv A outer s H E hr => ⟨(pss_one (ps_ret (pe_and (ke_call K F_is_whole hr (pa_cons (pv 0) pa_nil)) (pe_one (pe_chain op_lt op_lt (pe_un un_neg (ke_globI T.c_SIXTY)) (pv 0) (ke_globI T.c_SIXTY)))))),
    (okS_ret (okE_andV (okE_call (okA_cons (okE_var 0) okA_nil)) (okE_chain okB okB (okE_un okNeg (okE_C fun _ => .int _)) (okE_var 0) (okE_C fun _ => .int _))))⟩⟩

abbrev s_is_from : Stmt := topS 9
abbrev N_is_from : List Str := ["value", "least", "most"]
theorem sc_is_from : FnScope N_is_from ["value", "least", "most"] (defScope s_is_from) := ⟨rfl, rfl, rfl, by decide +kernel, rfl, by decide +kernel, by decide +kernel⟩
def r_is_from : RS :=
  (rRet (rAndV (rCall d_is_whole (rCons (rVar 0) rNil)) (rChain (oB (fun i j => decide (i ≤ j))) (oB (fun i j => decide (i ≤ j))) (rVar 1) (rVar 0) (rVar 2))))
theorem b_is_from (F_is_whole : FnD P w K mg base "is_whole" 1 d_is_whole) (T : Txt K mg) : Body P w K mg base 2 "is_from" s_is_from N_is_from (r_is_from) := by
  refine fun f => ⟨_, fun cdv A outer s H E hr => ⟨(pss_one (ps_ret (pe_and (ke_call K F_is_whole hr (pa_cons (pv 0) pa_nil)) (pe_one (pe_chain op_le op_le (pv 1) (pv 0) (pv 2)))))),
    (okS_ret (okE_andV (okE_call (okA_cons (okE_var 0) okA_nil)) (okE_chain okB okB (okE_var 1) (okE_var 0) (okE_var 2))))⟩⟩

abbrev s_are_short : Stmt := topS 15
abbrev N_are_short : List Str := ["value", "many", "one"]
theorem sc_are_short : FnScope N_are_short ["value", "many"] (defScope s_are_short) := ⟨rfl, rfl, rfl, by decide +kernel, rfl, by decide +kernel, by decide +kernel⟩
def r_are_short : RS :=
  (rRet (rAndV (rIsiB "tuple" (rVar 0)) (rAndV (rOp oEq (rCB oLen (rCons (rVar 0) rNil)) (rVar 1)) (rCB oAll (rCons (rLc (rIT (rVar 0)) (rgName 2) rYes (rCall d_is_short (rCons (rVar 2) rNil)) [2]) rNil)))))
theorem b_are_short (F_is_short : FnD P w K mg base "is_short" 2 d_is_short) (T : Txt K mg) : Body P w K mg base 3 "are_short" s_are_short N_are_short (r_are_short) := by
  refine fun f => ⟨_, fun cdv A outer s H E hr => ⟨(pss_one (ps_ret (pe_and (kb_call (kc_isi K) T.b_isinstance (pa_cons (pv 0) (pa_cons (kb_ty (T := "tuple") T.b_tuple) pa_nil))) (pe_and (pe_cmpR (ko_eqD K hr.units) (kb_call (kc_len K) T.b_len (pa_cons (pv 0) pa_nil)) (pv 1) (nomark _)) (pe_one (kb_call (kc_all K) T.b_all (pa_cons (pe_lc (own := [("one", 2)]) rfl sc_are_short.nd (ki_tup K (pv 0)) (blkOk_by (own := [("one", 2)]) (N := N_are_short) (sc := defScope s_are_short) (by decide +kernel)) (fun _ _ _ _ _ => (pg_name (i := 2) sc_are_short.nd rfl (by first | exact Or.inl rfl | exact Or.inr rfl))) (fun _ _ _ _ _ => pts_nil) (fun _ _ _ _ _ => (ke_call K F_is_short hr (pa_cons (pv 2) pa_nil)))) pa_nil))))))),
    (okS_ret (okE_andV (okE_isi (okE_var 0)) (okE_andV (okE_op okEq (okE_CB okLen (okA_cons (okE_var 0) okA_nil)) (okE_var 1)) (okE_CB okAll (okA_cons (okE_lc (okI_tup (okE_var 0)) (okG_name 2) okT_yes (okE_call (okA_cons (okE_var 2) okA_nil)) (by decide)) okA_nil)))))⟩⟩

abbrev s_is_layer : Stmt := topS 16
abbrev N_is_layer : List Str := ["value", "many", "unit"]
theorem sc_is_layer : FnScope N_is_layer ["value", "many"] (defScope s_is_layer) := ⟨rfl, rfl, rfl, by decide +kernel, rfl, by decide +kernel, by decide +kernel⟩
def r_is_layer : RS :=
  (rSeq (rIfS (rOr (rNot (rB (rIsiB "tuple" (rVar 0)))) (rNot (rB (rChain (oB (fun i j => decide (i ≤ j))) (oB (fun i j => decide (i ≤ j))) (rC (.int 1)) (rCB oLen (rCons (rVar 0) rNil)) (rC (.int 64)))))) (rRet (rC (.bl false))) rNext)
  (rRet (rCB oAll (rCons (rLc (rIT (rVar 0)) (rgName 2) rYes (rCall d_are_short (rCons (rVar 2) (rCons (rVar 1) rNil))) [2]) rNil))))
theorem b_is_layer (F_are_short : FnD P w K mg base "are_short" 4 d_are_short) (T : Txt K mg) : Body P w K mg base 4 "is_layer" s_is_layer N_is_layer (r_is_layer) := by
  refine fun f => ⟨_, fun cdv A outer s H E hr => ⟨(pss_cons (ps_if (PW.pt (pw_or (pt_not (pt_val (kb_call (kc_isi K) T.b_isinstance (pa_cons (pv 0) (pa_cons (kb_ty (T := "tuple") T.b_tuple) pa_nil))))) (pw_or1 (pt_not (pt_chain op_le op_le pe_int (kb_call (kc_len K) T.b_len (pa_cons (pv 0) pa_nil)) (ke_globI T.c_MOST_IN_LAYER)))))) (pss_one (ps_ret pe_bl)) pss_nil)
      (pss_one (ps_ret (kb_call (kc_all K) T.b_all (pa_cons (pe_lc (own := [("unit", 2)]) rfl sc_is_layer.nd (ki_tup K (pv 0)) (blkOk_by (own := [("unit", 2)]) (N := N_is_layer) (sc := defScope s_is_layer) (by decide +kernel)) (fun _ _ _ _ _ => (pg_name (i := 2) sc_is_layer.nd rfl (by first | exact Or.inl rfl | exact Or.inr rfl))) (fun _ _ _ _ _ => pts_nil) (fun _ _ _ _ _ => (ke_call K F_are_short hr (pa_cons (pv 2) (pa_cons (pv 1) pa_nil))))) pa_nil))))),
    (okS_seq (okS_if (okT_or (okT_not (okT_B (okE_isi (okE_var 0)))) (okT_not (okT_test (okE_chain okB okB (okE_C fun _ => .int _) (okE_CB okLen (okA_cons (okE_var 0) okA_nil)) (okE_C fun _ => .int _))))) (okS_ret (okE_C fun _ => .bl _)) okS_next)
      (okS_ret (okE_CB okAll (okA_cons (okE_lc (okI_tup (okE_var 0)) (okG_name 2) okT_yes (okE_call (okA_cons (okE_var 2) (okA_cons (okE_var 1) okA_nil))) (by decide)) okA_nil))))⟩⟩

abbrev s_are_parts : Stmt := topS 17
abbrev N_are_parts : List Str := ["inputs", "layers", "last", "seen", "layer"]
theorem sc_are_parts : FnScope N_are_parts ["inputs", "layers", "last"] (defScope s_are_parts) := ⟨rfl, rfl, rfl, by decide +kernel, rfl, by decide +kernel, by decide +kernel⟩
def r_are_parts : RS :=
  (rSeq (rIfS (rOr (rNot (rB (rCall d_is_from (rCons (rVar 0) (rCons (rC (.int 1)) (rCons (rC (.int 8)) rNil)))))) (rOr (rNot (rB (rIsiB "tuple" (rVar 1)))) (rB (rOp (oB (fun i j => decide (j < i))) (rCB oLen (rCons (rVar 1) rNil)) (rC (.int 4)))))) (rRet (rC (.bl false))) rNext)
  (rSeq (rAsg (rVar 0) (rgName 3))
  (rSeq (rFor (rIT (rVar 1)) (rgName 4) (rSeq (rIfS (rNot (rB (rCall d_is_layer (rCons (rVar 4) (rCons (rVar 3) rNil))))) (rRet (rC (.bl false))) rNext)
  (rAug 3 (rCB oLen (rCons (rVar 4) rNil)) (fun i j => i + j))))
  (rRet (rAndV (rOp (oB (fun i j => decide (i ≤ j))) (rVar 3) (rOp (oI fun i j => i + j) (rVar 0) (rC (.int 128)))) (rCall d_are_short (rCons (rVar 2) (rCons (rVar 3) rNil))))))))
theorem b_are_parts (F_is_from : FnD P w K mg base "is_from" 3 d_is_from) (F_is_layer : FnD P w K mg base "is_layer" 5 d_is_layer) (F_are_short : FnD P w K mg base "are_short" 4 d_are_short) (T : Txt K mg) : Body P w K mg base 5 "are_parts" s_are_parts N_are_parts (r_are_parts) := by
  refine fun f => ⟨_, fun cdv A outer s H E hr => ⟨(pss_cons (ps_if (PW.pt (pw_or (pt_not (pt_val (ke_call K F_is_from hr (pa_cons (pv 0) (pa_cons pe_int (pa_cons (ke_globI T.c_MOST_INPUTS) pa_nil)))))) (pw_or (pt_not (pt_val (kb_call (kc_isi K) T.b_isinstance (pa_cons (pv 1) (pa_cons (kb_ty (T := "tuple") T.b_tuple) pa_nil))))) (pw_or1 (pt_cmpR op_gt (kb_call (kc_len K) T.b_len (pa_cons (pv 1) pa_nil)) (ke_globI T.c_MOST_LAYERS) (nomark _)))))) (pss_one (ps_ret pe_bl)) pss_nil)
      (pss_cons (ps_set (i := 3) sc_are_parts.nd rfl (Or.inl rfl) (pv 0))
      (pss_cons (ps_for PassesOwn.never rfl (ki_tup K (pv 1)) (pg_name (i := 4) sc_are_parts.nd rfl (Or.inl rfl)) (pss_cons (ps_if (pt_not (pt_val (ke_call K F_is_layer hr (pa_cons (pv 4) (pa_cons (pv 3) pa_nil))))) (pss_one (ps_ret pe_bl)) pss_nil)
      (pss_one (ps_aug (i := 3) sc_are_parts.nd rfl (Or.inl rfl) (kb_call (kc_len K) T.b_len (pa_cons (pv 4) pa_nil)) ip_add))))
      (pss_one (ps_ret (pe_and (pe_cmpR op_le (pv 3) (pe_op op_add (pv 0) (ke_globI T.c_MOST_UNITS)) (nomark _)) (pe_one (ke_call K F_are_short hr (pa_cons (pv 2) (pa_cons (pv 3) pa_nil)))))))))),
    (okS_seq (okS_if (okT_or (okT_not (okT_B (okE_call (okA_cons (okE_var 0) (okA_cons (okE_C fun _ => .int _) (okA_cons (okE_C fun _ => .int _) okA_nil)))))) (okT_or (okT_not (okT_B (okE_isi (okE_var 1)))) (okT_test (okE_op okB (okE_CB okLen (okA_cons (okE_var 1) okA_nil)) (okE_C fun _ => .int _))))) (okS_ret (okE_C fun _ => .bl _)) okS_next)
      (okS_seq (okS_asg (okE_var 0) (okG_name 3))
      (okS_seq (okS_for (okI_tup (okE_var 1)) (okG_name 4) (okS_seq (okS_if (okT_not (okT_B (okE_call (okA_cons (okE_var 4) (okA_cons (okE_var 3) okA_nil))))) (okS_ret (okE_C fun _ => .bl _)) okS_next)
      (okS_aug (okE_CB okLen (okA_cons (okE_var 4) okA_nil)))))
      (okS_ret (okE_andV (okE_op okB (okE_var 3) (okE_op okI (okE_var 0) (okE_C fun _ => .int _))) (okE_call (okA_cons (okE_var 2) (okA_cons (okE_var 3) okA_nil))))))))⟩⟩



theorem ok_is_whole (a : At K mg "is_whole" s_is_whole) (T : Txt K mg) : FnD P w K mg base "is_whole" 1 d_is_whole := by
  refine fnD_of a (b_is_whole T) sc_is_whole (fun _ _ _ _ _ _ us hl => match us, hl with | [_], _ => rfl) ?_ ?_
  · rintro ds μ k ⟨i, rfl, _⟩; rfl
  · rintro ds μ k ⟨i, rfl, h⟩
    simp [r_is_whole]
    exact h
theorem ok_is_short (a : At K mg "is_short" s_is_short) (F : FnD P w K mg base "is_whole" 1 d_is_whole) (T : Txt K mg) : FnD P w K mg base "is_short" 2 d_is_short := by
  refine fnD_of a (b_is_short F T) sc_is_short (fun _ _ _ _ _ _ us hl => match us, hl with | [_], _ => rfl) ?_ ?_
  · rintro ds μ k ⟨i, rfl, _⟩; rfl
  · rintro ds μ k ⟨i, rfl, h⟩
    simp [r_is_short]
    refine ⟨i, rfl, ?_⟩
    simp [short] at h ⊢
    split <;> simp_all
theorem ok_is_from (a : At K mg "is_from" s_is_from) (F : FnD P w K mg base "is_whole" 1 d_is_whole) (T : Txt K mg) : FnD P w K mg base "is_from" 3 d_is_from := by
  refine fnD_of a (b_is_from F T) sc_is_from (fun _ _ _ _ _ _ us hl => match us, hl with | [_, _, _], _ => rfl) ?_ ?_
  · rintro ds μ k ⟨i, _, _, rfl, _⟩; rfl
  · rintro ds μ k ⟨i, a, b, rfl, h⟩
    simp [r_is_from]
    refine ⟨i, rfl, ?_⟩
    simp at h ⊢
    split <;> simp_all
theorem ok_are_short (a : At K mg "are_short" s_are_short) (F : FnD P w K mg base "is_short" 2 d_is_short) (T : Txt K mg) : FnD P w K mg base "are_short" 4 d_are_short := by
  refine fnD_of a (b_are_short F T) sc_are_short (fun _ _ _ _ _ _ us hl => match us, hl with | [_, _], _ => rfl) ?_ ?_
  · rintro ds μ k ⟨ns, m, rfl, _⟩; rfl
  · rintro ds μ k ⟨ns, m, rfl, hn, h⟩
    simp [r_are_short]
    split
    · rename_i hm
      refine lcW_map ns D.int (fun i => .bl (short i)) (.l _) hn (fun x hx kt kf h1 => ?_) ?_
      · simp
        exact ⟨x, rfl, h1⟩
      · refine all_of rfl ?_
        simpa [areShort, hm] using h
    · rename_i hm
      simpa [areShort, hm] using h
theorem ok_is_layer (a : At K mg "is_layer" s_is_layer) (F : FnD P w K mg base "are_short" 4 d_are_short) (T : Txt K mg) : FnD P w K mg base "is_layer" 5 d_is_layer := by
  refine fnD_of a (b_is_layer F T) sc_is_layer (fun _ _ _ _ _ _ us hl => match us, hl with | [_, _], _ => rfl) ?_ ?_
  · rintro ds μ k ⟨rs, m, rfl, _⟩; rfl
  · rintro ds μ k ⟨rs, m, rfl, hn, hr, h⟩
    simp [r_is_layer]
    have hi : ∀ b : Bool, isLayer rs m = b → k (.bl b) μ := fun b e => e ▸ h
    split
    · rename_i h1
      split
      · rename_i h2
        exact hi false (by simp [isLayer]; intro _ _; omega)
      · rename_i h2
        refine lcW_map rs rowD (fun r => .bl (areShort r m)) (.l _) hn (fun x hx kt kf h1 => ?_) ?_
        · simp
          exact ⟨x, m, rfl, hr x hx, h1⟩
        · refine all_of rfl (hi _ ?_)
          have h3 : 1 ≤ rs.length ∧ rs.length ≤ 64 := ⟨by omega, by omega⟩
          simp [isLayer, h3]
    · rename_i h1
      exact hi false (by simp [isLayer]; intro z; omega)
theorem ok_are_parts (a : At K mg "are_parts" s_are_parts) (F1 : FnD P w K mg base "is_from" 3 d_is_from) (F2 : FnD P w K mg base "is_layer" 5 d_is_layer) (F3 : FnD P w K mg base "are_short" 4 d_are_short) (T : Txt K mg) : FnD P w K mg base "are_parts" 6 d_are_parts := by
  refine fnD_of a (b_are_parts F1 F2 F3 T) sc_are_parts (fun _ _ _ _ _ _ us hl => match us, hl with | [_, _, _], _ => rfl) ?_ ?_
  · rintro ds μ k ⟨n, ls, la, rfl, _⟩; rfl
  · rintro ds μ k ⟨n, ls, la, rfl, N, h⟩
    simp [r_are_parts]
    have h1 : (1 : Int) ≤ (n : Int) := by have := N.lo; omega
    have h2 : (n : Int) ≤ 8 := by have := N.hi; omega
    refine ⟨_, _, _, rfl, ?_⟩
    simp [h1, h2]
    have h3 : ¬ (4 : Int) < (ls.length : Int) := by have := N.few; omega
    simp [h3]
    refine for_inv ls layerD (fun i δ μ' => μ' = μ ∧ ∃ x, δ = [some (.int (n : Nat)), some (layersD ls), some (rowD la), some (.int ((n + total (ls.take i) : Nat) : Int)), x]) (fun kk hk => ?_) (fun i l δ μ' hl q => ?_) (fun δ μ' q => ?_)
    · simp
      exact hk _ _ (.l _) ⟨rfl, none, by simp [total]⟩ (fun _ _ _ _ => trivial)
    · obtain ⟨rfl, x, rfl⟩ := q
      obtain ⟨a1, a2⟩ := lays_at N.lays hl
      have a3 := total_le (ls := ls) (i + 1)
      have a4 := N.tot
      have a5 := N.hi
      rw [total_take_succ hl] at a3
      simp
      refine ⟨l, _, rfl, by omega, fun r hr => by rw [(a2 r hr).1]; omega, ?_⟩
      have e : isLayer l ((n + total (ls.take i) : Nat) : Int) = true := by
        simp only [isLayer, areShort, Bool.and_eq_true, decide_eq_true_eq, List.all_eq_true]
        exact ⟨a1, fun r hr => ⟨by rw [(a2 r hr).1], fun x hx => (a2 r hr).2 x hx⟩⟩
      have e' : isLayer l ((n : Int) + (total (ls.take i) : Nat)) = true := by rw [← e]; congr 1
      simp [e']
      rw [total_take_succ hl]
      simp
      omega
    · obtain ⟨rfl, x, rfl⟩ := q
      have a4 := N.tot
      rw [List.take_length]
      have h4 : (n : Int) + (total ls : Nat) ≤ (n : Int) + 128 := by omega
      simp [h4]
      refine ⟨la, _, rfl, by have := N.len; have := N.hi; omega, ?_⟩
      have e : areShort la ((n : Int) + (total ls : Nat)) = true := by
        simp only [areShort, Bool.and_eq_true, decide_eq_true_eq, List.all_eq_true]
        exact ⟨by rw [N.len]; simp, fun x hx => N.short x hx⟩
      rw [e]
      exact h
end
end K21


set_option Elab.async false
set_option linter.all false
set_option maxRecDepth 100000
set_option maxHeartbeats 4000000
namespace K21
open PySem PySem.Spec PyProof.Rows L2 SlX DL
def inClass (s : Stmt) (j : Nat) : Stmt := match s with
  | .ClassDef (body := b) .. => b.getD j (.Pass ⟨0, 0, 0, 0⟩)
  | _ => .Pass ⟨0, 0, 0, 0⟩
/-- what the class holds -/
structure TxC (K : PySem.W.Frag) (mg : Str → Option Value) (C : Addr) : Prop extends Txt K mg where
  mgC : mg "Network" = some (.ref C)
  cmp : Cmp K C
  sx_own_inputs : ∃ p, Slot1 K C "own_inputs" p 0
  sx_own_last : ∃ p, Slot1 K C "own_last" p 1
  sx_own_layers : ∃ p, Slot1 K C "own_layers" p 2
abbrev netD (C : Addr) (n : Nat) (ls : List (List (List Int))) (la : List Int) : D := .obj C [.int n, rowD la, layersD ls]
def d_inputs (C : Addr) : DSp := fun ds μ k => ∃ n ls la, ds = [netD C n ls la] ∧ k (.int (n : Nat)) μ
def d_layers (C : Addr) : DSp := fun ds μ k => ∃ n ls la, ds = [netD C n ls la] ∧ k (layersD ls) μ
def d_last (C : Addr) : DSp := fun ds μ k => ∃ n ls la, ds = [netD C n ls la] ∧ k (rowD la) μ
def d_depth (C : Addr) : DSp := fun ds μ k => ∃ n ls la, ds = [netD C n ls la] ∧ k (.int (ls.length : Nat)) μ
def d_units (C : Addr) : DSp := fun ds μ k => ∃ n ls la, ds = [netD C n ls la] ∧ ls.length ≤ 1000000 ∧ total ls < 1000000 ∧ k (layerD ls.flatten) μ
def d_parts (C : Addr) : DSp := fun ds μ k => ∃ n ls la, ds = [netD C n ls la] ∧ k (.tup [.int (n : Nat), layersD ls, rowD la]) μ
def d_eq (C : Addr) : DSp := fun ds μ k => ∃ n ls la y, ds = [netD C n ls la, y] ∧
  ((∃ n' ls' la', y = netD C n' ls' la' ∧ k (.bl (decide (n = n' ∧ ls = ls' ∧ la = la'))) μ) ∨ (isObj y = false ∧ okR C y ∧ k (.bl false) μ))
def sizesT (ls : List (List (List Int))) : Str := Txt.join " " (ls.map fun l => (Str.ofString (toString ((l.length : Nat) : Int))))
def netText (n : Nat) (ls : List (List (List Int))) : Str :=
  Str.empty ++ "network of " ++ Str.ofString (toString ((n : Nat) : Int)) ++ " inputs, " ++ (if sizesT ls = "" then Str.ofString "no layers" else Str.empty ++ "layers " ++ sizesT ls)
def d_str (C : Addr) : DSp := fun ds μ k => ∃ n ls la, ds = [netD C n ls la] ∧ IsNet n ls la ∧ k (.str (netText n ls)) μ
def inm_Network : List D → List D → Prop := fun ds fs => ∃ n ls la, ds = [.int (n : Nat), layersD ls, rowD la] ∧ IsNet n ls la ∧ fs = [.int (n : Nat), rowD la, layersD ls]
/-- the text of a small number -/
def numT (n : Nat) : Str := Str.ofString (toString ((n : Nat) : Int))
theorem num_small (n : Nat) (h : n < 200) : (numT n).length ≤ 3 ∧ TL.tl (numT n) ≠ [] ∧ ∀ c ∈ TL.tl (numT n), c < 0x110000 := by
  have : ∀ n < 200, (numT n).length ≤ 3 ∧ TL.tl (numT n) ≠ [] ∧ ∀ c ∈ TL.tl (numT n), c < 0x110000 := by decide +kernel
  exact this n h
theorem lays_mem : ∀ {ls : List (List (List Int))} {m : Nat} {l : List (List Int)}, Lays ls m → l ∈ ls → 1 ≤ l.length ∧ l.length ≤ 64
  | _ :: ls, m, l, q, h => by
    rcases List.mem_cons.mp h with rfl | h
    · exact q.1
    · exact lays_mem q.2.2 h
theorem sizes_facts {n : Nat} {ls : List (List (List Int))} {la : List Int} (N : IsNet n ls la) : (sizesT ls).length ≤ 100 ∧ PyData.strOk (sizesT ls) = true ∧ (sizesT ls = "" ↔ ls = []) := by
  have small : ∀ l ∈ ls, l.length < 200 := fun l hl => by have := (lays_mem N.lays hl).2; omega
  have e : TL.tl (sizesT ls) = TL.joinL (TL.tl (Str.ofString " ")) ((ls.map fun l => numT l.length).map TL.tl) := tl_joinT _ _
  have e1 : (TL.tl (Str.ofString " ")).length = 1 := by decide +kernel
  refine ⟨?_, ?_, ?_⟩
  · rw [len_tl, e]
    refine Nat.le_trans (joinL_len (b := 3) fun p hp => ?_) ?_
    · obtain ⟨x, hx, rfl⟩ := List.mem_map.mp hp
      obtain ⟨l, hl, rfl⟩ := List.mem_map.mp hx
      rw [← len_tl]
      exact (num_small _ (small l hl)).1
    · rw [e1, List.length_map, List.length_map]
      have := N.few
      omega
  · rw [ok_tl, e]
    intro c hc
    rcases joinL_mem hc with z | ⟨p, hp, z⟩
    · have : ∀ c ∈ TL.tl (Str.ofString " "), c < 0x110000 := by decide +kernel
      exact this c z
    · obtain ⟨x, hx, rfl⟩ := List.mem_map.mp hp
      obtain ⟨l, hl, rfl⟩ := List.mem_map.mp hx
      exact (num_small _ (small l hl)).2.2 c z
  · constructor
    · intro h
      have h2 : TL.joinL (TL.tl (Str.ofString " ")) ((ls.map fun l => numT l.length).map TL.tl) = [] := by rw [← e, h]; decide +kernel
      have h3 := joinL_nil (fun p hp => by
        obtain ⟨x, hx, rfl⟩ := List.mem_map.mp hp
        obtain ⟨l, hl, rfl⟩ := List.mem_map.mp hx
        exact (num_small _ (small l hl)).2.1) h2
      simpa using h3
    · rintro rfl; decide +kernel
theorem sizes_sum {n : Nat} {ls : List (List (List Int))} {la : List Int} (N : IsNet n ls la) : ((ls.map fun l => numT l.length).map (fun x => x.length)).sum + (ls.map fun l => numT l.length).length * (Str.ofString " ").length ≤ 16777216 := by
  have small : ∀ l ∈ ls, l.length < 200 := fun l hl => by have := (lays_mem N.lays hl).2; omega
  have gen : ∀ qs : List (List (List Int)), (∀ l ∈ qs, l.length < 200) → ((qs.map fun l => numT l.length).map (fun x => x.length)).sum ≤ 3 * qs.length := fun qs => by
    induction qs with
    | nil => intro _; simp
    | cons q qs ih =>
      intro h
      have h1 := (num_small _ (h q (by simp))).1
      have h2 := ih (fun l hl => h l (List.mem_cons_of_mem _ hl))
      simp only [List.map_cons, List.sum_cons, List.length_cons] at h2 ⊢
      omega
  have h1 := gen ls small
  have h2 : (Str.ofString " ").length = 1 := by decide +kernel
  rw [h2, List.length_map]
  have := N.few
  omega
theorem cmRow : Cm (fun ns : List Int => D.tup (ns.map D.int)) (fun ns => PyData.tuple (ns.map PyData.int)) 1 := Cm.int.tup
theorem cmLs : Cm layersD (fun ls : List (List (List Int)) => PyData.tuple (ls.map fun rs => PyData.tuple (rs.map fun ns => PyData.tuple (ns.map PyData.int)))) 3 := cmRow.tup.tup
section
variable {P : Program} {w : World} {K : PySem.W.Frag} {mg : Str → Option Value} {base : Heap} {C : Addr}
theorem fld {f : Str} {i : Nat} {te : TE} {ra : RE} (c : SCls K C) (s : ∃ p, Slot1 K C f p i) (h : OkE K te ra) : OkE K (SlX.tSl K te f) (rFld C i ra) := by
  obtain ⟨p, s⟩ := s
  exact okE_fld c s h
abbrev s_Network_inputs : Stmt := inClass (topS 18) 2
abbrev N_Network_inputs : List Str := ["self"]
theorem sc_Network_inputs : FnScope N_Network_inputs ["self"] (defScope s_Network_inputs) := ⟨rfl, rfl, rfl, by decide +kernel, rfl, by decide +kernel, by decide +kernel⟩
def r_Network_inputs (C : Addr) : RS :=
  (rRet (rFld C 0 (rVar 0)))
theorem b_Network_inputs (T : TxC K mg C) : Body P w K mg base 0 "Network.inputs" s_Network_inputs N_Network_inputs (r_Network_inputs C) := by
  refine fun f => ⟨_, fun cdv A outer s H E hr => ⟨(pss_one (ps_ret (ke_sl K (pv 0)))),
    (okS_ret (fld T.cmp.cls T.sx_own_inputs (okE_var 0)))⟩⟩

abbrev s_Network_layers : Stmt := inClass (topS 18) 3
abbrev N_Network_layers : List Str := ["self"]
theorem sc_Network_layers : FnScope N_Network_layers ["self"] (defScope s_Network_layers) := ⟨rfl, rfl, rfl, by decide +kernel, rfl, by decide +kernel, by decide +kernel⟩
def r_Network_layers (C : Addr) : RS :=
  (rRet (rFld C 2 (rVar 0)))
theorem b_Network_layers (T : TxC K mg C) : Body P w K mg base 0 "Network.layers" s_Network_layers N_Network_layers (r_Network_layers C) := by
  refine fun f => ⟨_, fun cdv A outer s H E hr => ⟨(pss_one (ps_ret (ke_sl K (pv 0)))),
    (okS_ret (fld T.cmp.cls T.sx_own_layers (okE_var 0)))⟩⟩

abbrev s_Network_last : Stmt := inClass (topS 18) 4
abbrev N_Network_last : List Str := ["self"]
theorem sc_Network_last : FnScope N_Network_last ["self"] (defScope s_Network_last) := ⟨rfl, rfl, rfl, by decide +kernel, rfl, by decide +kernel, by decide +kernel⟩
def r_Network_last (C : Addr) : RS :=
  (rRet (rFld C 1 (rVar 0)))
theorem b_Network_last (T : TxC K mg C) : Body P w K mg base 0 "Network.last" s_Network_last N_Network_last (r_Network_last C) := by
  refine fun f => ⟨_, fun cdv A outer s H E hr => ⟨(pss_one (ps_ret (ke_sl K (pv 0)))),
    (okS_ret (fld T.cmp.cls T.sx_own_last (okE_var 0)))⟩⟩

abbrev s_Network_units : Stmt := inClass (topS 18) 6
abbrev N_Network_units : List Str := ["self", "layer", "unit"]
theorem sc_Network_units : FnScope N_Network_units ["self"] (defScope s_Network_units) := ⟨rfl, rfl, rfl, by decide +kernel, rfl, by decide +kernel, by decide +kernel⟩
def r_Network_units (C : Addr) : RS :=
  (rRet (rCB oTuple (rCons (rLc2 (rIT (rFld C 2 (rVar 0))) (rgName 1) rYes (rIT (rVar 1)) (rgName 2) rYes (rVar 2) [1, 2] [2]) rNil)))
theorem b_Network_units (T : TxC K mg C) : Body P w K mg base 0 "Network.units" s_Network_units N_Network_units (r_Network_units C) := by
  refine fun f => ⟨_, fun cdv A outer s H E hr => ⟨(pss_one (ps_ret (kt_call (kc_tuple K) T.b_tuple (pa_cons (pe_lc2 (own := [("layer", 1), ("unit", 2)]) rfl sc_Network_units.nd (ki_tup K (ke_sl K (pv 0))) (blkOk_by (own := [("layer", 1), ("unit", 2)]) (N := N_Network_units) (sc := defScope s_Network_units) (by decide +kernel)) (vs1 := [2]) (by decide) (fun _ _ _ _ _ => (pg_name (i := 1) sc_Network_units.nd rfl (by first | exact Or.inl rfl | exact Or.inr rfl))) (fun _ _ _ _ _ => pts_nil) (fun _ _ _ _ _ => (ki_tup K (pv 1))) (fun _ _ _ _ _ => (pg_name (i := 2) sc_Network_units.nd rfl (by first | exact Or.inl rfl | exact Or.inr rfl))) (fun _ _ _ _ _ => pts_nil) (fun _ _ _ _ _ => (pv 2))) pa_nil)))),
    (okS_ret (okE_CB okTuple (okA_cons (okE_lc2 (okI_tup (fld T.cmp.cls T.sx_own_layers (okE_var 0))) (okG_name 1) okT_yes (okI_tup (okE_var 1)) (okG_name 2) okT_yes (okE_var 2) (by decide) (by decide)) okA_nil)))⟩⟩

abbrev s_Network_parts : Stmt := inClass (topS 18) 7
abbrev N_Network_parts : List Str := ["self"]
theorem sc_Network_parts : FnScope N_Network_parts ["self"] (defScope s_Network_parts) := ⟨rfl, rfl, rfl, by decide +kernel, rfl, by decide +kernel, by decide +kernel⟩
def r_Network_parts (C : Addr) : RS :=
  (rRet (rTup (rCons (rFld C 0 (rVar 0)) (rCons (rFld C 2 (rVar 0)) (rCons (rFld C 1 (rVar 0)) rNil)))))
theorem b_Network_parts (T : TxC K mg C) : Body P w K mg base 0 "Network.parts" s_Network_parts N_Network_parts (r_Network_parts C) := by
  refine fun f => ⟨_, fun cdv A outer s H E hr => ⟨(pss_one (ps_ret (pe_tup (pa_cons (ke_sl K (pv 0)) (pa_cons (ke_sl K (pv 0)) (pa_cons (ke_sl K (pv 0)) pa_nil)))))),
    (okS_ret (okE_tup (okA_cons (fld T.cmp.cls T.sx_own_inputs (okE_var 0)) (okA_cons (fld T.cmp.cls T.sx_own_layers (okE_var 0)) (okA_cons (fld T.cmp.cls T.sx_own_last (okE_var 0)) okA_nil)))))⟩⟩

abbrev s_Network___eq__ : Stmt := inClass (topS 18) 8
abbrev N_Network___eq__ : List Str := ["self", "other"]
theorem sc_Network___eq__ : FnScope N_Network___eq__ ["self", "other"] (defScope s_Network___eq__) := ⟨rfl, rfl, rfl, by decide +kernel, rfl, by decide +kernel, by decide +kernel⟩
def r_Network___eq__ (C : Addr) : RS :=
  (rRet (rAndV (rIsiC C (rVar 1)) (rOp oEq (rGet C (d_parts C) (rVar 0)) (rGet C (d_parts C) (rVar 1)))))
theorem b_Network___eq__ (P_parts : MethD P w K mg base C "parts" 1 (d_parts C)) (T : TxC K mg C) : Body P w K mg base 1 "Network.__eq__" s_Network___eq__ N_Network___eq__ (r_Network___eq__ C) := by
  refine fun f => ⟨_, fun cdv A outer s H E hr => ⟨(pss_one (ps_ret (pe_and (ke_isiC T.b_isinstance T.mgC (pv 1)) (pe_one (pe_cmpR (ko_eqD K hr.units) (ke_meth0 T.cmp.cls P_parts hr (pv 0)) (ke_meth0 T.cmp.cls P_parts hr (pv 1)) (nomark _)))))),
    (okS_ret (okE_andV (okE_isiC T.cmp (okE_var 1)) (okE_op okEq (okE_meth0 (okE_var 0)) (okE_meth0 (okE_var 1)))))⟩⟩



/-! ### the properties -/
theorem ok_inputs (a : AtP K C "inputs" "Network.inputs" s_Network_inputs) (T : TxC K mg C) : PropD P w K mg base C "inputs" 1 (d_inputs C) := by
  refine propD_of a (b_Network_inputs T) sc_Network_inputs (fun _ _ _ _ _ _ us hl => match us, hl with | [_], _ => rfl) ?_ ?_
  · rintro ds μ k ⟨n, ls, la, rfl, h⟩; rfl
  · rintro ds μ k ⟨n, ls, la, rfl, h⟩
    simpa [r_Network_inputs] using h
theorem ok_layers (a : AtP K C "layers" "Network.layers" s_Network_layers) (T : TxC K mg C) : PropD P w K mg base C "layers" 1 (d_layers C) := by
  refine propD_of a (b_Network_layers T) sc_Network_layers (fun _ _ _ _ _ _ us hl => match us, hl with | [_], _ => rfl) ?_ ?_
  · rintro ds μ k ⟨n, ls, la, rfl, h⟩; rfl
  · rintro ds μ k ⟨n, ls, la, rfl, h⟩
    simpa [r_Network_layers] using h
theorem ok_last (a : AtP K C "last" "Network.last" s_Network_last) (T : TxC K mg C) : PropD P w K mg base C "last" 1 (d_last C) := by
  refine propD_of a (b_Network_last T) sc_Network_last (fun _ _ _ _ _ _ us hl => match us, hl with | [_], _ => rfl) ?_ ?_
  · rintro ds μ k ⟨n, ls, la, rfl, h⟩; rfl
  · rintro ds μ k ⟨n, ls, la, rfl, h⟩
    simpa [r_Network_last] using h
theorem ok_units (a : AtP K C "units" "Network.units" s_Network_units) (T : TxC K mg C) : PropD P w K mg base C "units" 1 (d_units C) := by
  refine propD_of a (b_Network_units T) sc_Network_units (fun _ _ _ _ _ _ us hl => match us, hl with | [_], _ => rfl) ?_ ?_
  · rintro ds μ k ⟨n, ls, la, rfl, h⟩; rfl
  · rintro ds μ k ⟨n, ls, la, rfl, h1, h2, h⟩
    simp [r_Network_units]
    refine lc2_map ls layerD (fun l => l.map rowD) (.l _) h1 (fun l hl acc kt kf hacc hk => ?_) ?_
    · obtain ⟨i, rfl, hi⟩ := hacc
      simp
      refine inW_map l rowD rowD (.l _) ?_ (fun r hr kt kf h => ?_) ?_
      · have h3 := total_le (ls := ls) (i + 1)
        rw [total_take_succ hi] at h3
        have : ((ls.take i).flatMap fun l => l.map rowD).length = total (ls.take i) := by
          simp [total, List.length_flatMap]
        rw [this]; omega
      · simpa using h
      · exact hk
    · have e : (ls.flatMap fun l => l.map rowD) = ls.flatten.map rowD := by rw [List.map_flatten]; rfl
      rw [e]
      exact h
theorem ok_parts (a : AtM K C "parts" "Network.parts" s_Network_parts) (T : TxC K mg C) : MethD P w K mg base C "parts" 1 (d_parts C) := by
  refine methD_of a (b_Network_parts T) sc_Network_parts (fun _ _ _ _ _ _ us hl => match us, hl with | [_], _ => rfl) ?_ ?_
  · rintro ds μ k ⟨n, ls, la, rfl, h⟩; rfl
  · rintro ds μ k ⟨n, ls, la, rfl, h⟩
    simpa [r_Network_parts] using h
theorem ok_eq (a : AtM K C "__eq__" "Network.__eq__" s_Network___eq__) (Pp : MethD P w K mg base C "parts" 1 (d_parts C)) (T : TxC K mg C) : SpD P w K mg base C "__eq__" 2 (d_eq C) := by
  refine spD_of a (b_Network___eq__ Pp T) sc_Network___eq__ (fun _ _ _ _ _ _ us hl => match us, hl with | [_, _], _ => rfl) ?_ ?_
  · rintro ds μ k ⟨n, ls, la, y, rfl, h⟩; rfl
  · rintro ds μ k ⟨n, ls, la, y, rfl, h⟩
    simp [r_Network___eq__]
    rcases h with ⟨n', ls', la', rfl, h⟩ | ⟨h1, h2, h⟩
    · simp
      refine ⟨n, ls, la, rfl, n', ls', la', rfl, ?_⟩
      have cm := (CmL.cons Cm.int (CmL.cons cmLs (CmL.cons cmRow CmL.nil))).tup
      refine cm.toEq (x := ((n : Int), ls, la, ())) (y := ((n' : Int), ls', la', ())) (cm.as μ ((n : Int), ls, la, ())) (cm.as μ ((n' : Int), ls', la', ())) (by decide) ?_
      have e : decide (((n : Int), ls, la, ()) = ((n' : Int), ls', la', ())) = decide (n = n' ∧ ls = ls' ∧ la = la') := by
        rw [Bool.eq_iff_iff]; simp; intro _ _; omega
      rw [e]
      exact h
    · refine ⟨h2, ?_⟩
      simp [h1]
      exact h
/-- __init__ -/
abbrev s_Network___init__ : Stmt := inClass (topS 18) 1
abbrev N_Network___init__ : List Str := ["self", "inputs", "layers", "last"]
theorem sc_Network___init__ : FnScope N_Network___init__ ["self", "inputs", "layers", "last"] (defScope s_Network___init__) := ⟨rfl, rfl, rfl, by decide +kernel, rfl, by decide +kernel, by decide +kernel⟩
structure AtI (K : PySem.W.Frag) (mg : Str → Option Value) (C : Addr) (x qual : Str) (st : Stmt) : Prop where
  ex : ∃ (g : Addr) (fd : FuncData), Mk K C g ∧ Fun K "__init__" qual st g fd ∧ mg x = some (.ref C)
theorem ok_init (at_ : AtI K mg C "Network" "Network.__init__" s_Network___init__) (F_are_parts : FnD P w K mg base "are_parts" 6 d_are_parts) (T : TxC K mg C) : MakD P w K mg base 7 "Network" C (spMk K C inm_Network) := by
  obtain ⟨f, fd, M, F, hm⟩ := at_.ex
  refine ⟨f, fd, ["self", "inputs", "layers", "last"], M, ?_, hm, F.binds (fun _ _ _ _ _ _ us hl => match us, hl with | [_, _, _, _], _ => rfl)⟩
  refine F.ok sc_Network___init__ (fun vs H Q E h => ?_) (fun cdv A outer s H vs Q E hr h => ⟨_, (pss_cons (ps_if (pt_not (pt_val (ke_call K F_are_parts hr (pa_cons (pv 1) (pa_cons (pv 2) (pa_cons (pv 3) pa_nil)))))) (pss_one ps_never) pss_nil)
      (pss_one (ps_asg (pe_tup (pa_cons (pv 1) (pa_cons (pv 2) (pa_cons (pv 3) pa_nil)))) (kg_tup K (pgs_cons (kg_slA (K := K) (pv 0)) (pgs_cons (kg_slA (K := K) (pv 0)) (pgs_cons (kg_slA (K := K) (pv 0)) pgs_nil))))))), ?_⟩)
  · obtain ⟨a, dx, ws, ds, fs, μ, G, H1, k, rfl, _, _, _, _, _, rl, ⟨n, ls, la, rfl, _⟩, _⟩ := h
    rw [List.length_cons, rl.length]; rfl
  · obtain ⟨a, dx, ws, ds, fs, μ, G, H1, k, rfl, ha, hd, hne, rfl, wd, rl, ⟨n, ls, la, rfl, N, rfl⟩, hk, hQ⟩ := h
    cases rl with
    | cons r1 rl =>
      cases rl with
      | cons r2 rl =>
        cases rl with
        | cons r3 rl =>
          cases rl
          rename_i v1 v2 v3
          obtain ⟨p0, t0⟩ := T.sx_own_inputs
          obtain ⟨p1, t1⟩ := T.sx_own_last
          obtain ⟨p2, t2⟩ := T.sx_own_layers
          have w0 := wd_made (C := C) wd ha hd
          refine ⟨v1, rfl, v2, rfl, v3, rfl, ?_⟩
          refine ⟨[.int n, layersD ls, rowD la], μ, G, fun d μ' => d = .bl true ∧ μ' = μ, w0, .cons r1 (.cons r2 (.cons r3 .nil)), ⟨n, ls, la, rfl, N, rfl, rfl⟩, fun v d μ' G' H' hkk w' g' r' => ?_⟩
          obtain ⟨rfl, rfl⟩ := hkk
          cases r'
          refine ⟨true, rfl, ?_⟩
          refine ⟨v1, rfl, v2, rfl, v3, rfl, (by show 3 ≤ sizeLine; decide), fun p hp => ?_⟩
          have hs0 : Slt (upd H' p (.tup [v1, v2, v3])) a C dx [] := by
            have e := g'.kp a (.ins C dx []) upd_same (wd.mnone ha)
            exact .inl ⟨by rw [upd_ne (ne_of_none e hp)]; exact e, rfl⟩
          refine ⟨p, [v1, v2, v3], rfl, SqT.of upd_same, rfl, ?_⟩
          refine ⟨v1, _, rfl, .ref a, rfl, a, C, dx, p0, [], 0, rfl, hs0, T.cmp.cls, t0, ?_⟩
          refine ⟨v2, _, rfl, .ref a, rfl, a, C, dx, p2, _, 2, rfl, slH_slt hne, T.cmp.cls, t2, ?_⟩
          refine ⟨v3, _, rfl, .ref a, rfl, a, C, dx, p1, _, 1, rfl, slH_slt hne, T.cmp.cls, t1, ?_⟩
          refine ⟨rfl, ?_⟩
          rw [slH_twice hne, slH_twice hne]
          have w3 := w'.new (o := .tup [v1, v2, v3]) hp
          have g3 := g'.trans (Go.new (o := .tup [v1, v2, v3]) w' hp)
          obtain ⟨G3, a1, a2, a3⟩ := mk_done (C := C) (vs := [v1, v3, v2]) wd ha hd hne w3 g3 (.cons (r1.mono g3.eg) (.cons (r3.mono g3.eg) (.cons (r2.mono g3.eg) .nil)))
          exact hQ _ G3 _ hk a1 a2 a3
end
end K21


set_option Elab.async false
set_option linter.all false
set_option maxRecDepth 100000
set_option maxHeartbeats 4000000
namespace K21
open PySem PySem.Spec PyProof.Rows L2 SlX DL
/-! what the functions tell -/
def told (ws ns : List Int) : Int := (List.zipWith (fun w n => w * n) ws ns).sum
def numbers : List (List (List Int)) → List Int → List Int
  | [], f => f
  | l :: ls, f => numbers ls (f ++ l.map fun u => max 0 (told u f))
def sumForms (ws : List Int) (fs : List (List Int)) (m : Nat) : List Int := (List.range m).map fun p => (List.zipWith (fun w f => w * f.getD p 0) ws fs).sum
def forms0 (n : Nat) : List (List Int) := (List.range n).map fun a => (List.range n).map fun p => if p = a then 1 else 0
def formStep (n : Nat) (fs : List (List Int)) (u : List Int × Bool) : List (List Int) := fs ++ [if u.2 = true then sumForms u.1 fs n else List.replicate n 0]
def formsIn (n : Nat) (us : List (List Int × Bool)) : List (List Int) := us.foldl (formStep n) (forms0 n)
def formIn (n : Nat) (ls : List (List (List Int))) (la : List Int) (ps : List Bool) : List Int := sumForms la (formsIn n (ls.flatten.zip ps)) n
def pattern (n : Nat) (ls : List (List (List Int))) (xs : List Int) : List Bool := ((numbers ls xs).drop n).map fun x => decide (0 < x)
def Sm (b : Nat) (x : Int) : Prop := x.natAbs < 2 ^ b
/-! sizes -/
theorem Sm.mono {a b : Nat} {x : Int} (h : Sm a x) (l : a ≤ b) : Sm b x := Nat.lt_of_lt_of_le h (Nat.pow_le_pow_right (by decide) l)
theorem short_iff {x : Int} : short x = true ↔ -sixty < x ∧ x < sixty := by unfold short; simp
theorem sm_short {x : Int} (h : short x = true) : Sm 200 x := by
  rw [short_iff] at h
  have e : sixty = 10 ^ 60 := by decide +kernel
  rw [e] at h
  unfold Sm
  have : (10 : Nat) ^ 60 < 2 ^ 200 := by decide +kernel
  omega
theorem sm_mulW {a b : Nat} {x y : Int} (hx : Sm a x) (hy : Sm b y) (ha : 0 < a) (hb : 0 < b) (h : a + b ≤ 1000000) : CMulW x y := by
  have h1 := PySem.Flt.log2_lt_of ha hx
  have h2 := PySem.Flt.log2_lt_of hb hy
  unfold CMulW
  omega
theorem sm_mul {a b : Nat} {x y : Int} (hx : Sm a x) (hy : Sm b y) : Sm (a + b) (x * y) := by
  unfold Sm at *
  rw [Int.natAbs_mul, Nat.pow_add]
  exact Nat.mul_lt_mul'' hx hy
theorem sum_bound {M : Nat} : ∀ {zs : List Int}, (∀ z ∈ zs, z.natAbs ≤ M) → zs.sum.natAbs ≤ zs.length * M
  | [], _ => by simp
  | z :: zs, h => by
    have h1 := h z (by simp)
    have h2 := sum_bound (fun y hy => h y (List.mem_cons_of_mem _ hy))
    simp only [List.sum_cons, List.length_cons]
    have h3 := Int.natAbs_add_le z zs.sum
    rw [Nat.add_mul, Nat.one_mul]
    omega
theorem sum_sm {a c : Nat} {zs : List Int} (h : ∀ z ∈ zs, Sm a z) (hl : zs.length ≤ 2 ^ c) (h0 : zs.length = 0 ∨ 0 < zs.length) : Sm (a + c) zs.sum := by
  by_cases hz : zs = []
  · subst hz
    show (0 : Int).natAbs < _
    exact Nat.pos_of_ne_zero (by simp)
  · have hp : 0 < zs.length := List.length_pos_iff.mpr hz
    have h1 : zs.sum.natAbs ≤ zs.length * (2 ^ a - 1) := sum_bound (fun z hz => by have : z.natAbs < 2 ^ a := h z hz; omega)
    have h2 : 0 < 2 ^ a := Nat.pos_of_ne_zero (by simp)
    show zs.sum.natAbs < _
    calc zs.sum.natAbs ≤ zs.length * (2 ^ a - 1) := h1
      _ < zs.length * 2 ^ a := Nat.mul_lt_mul_of_pos_left (by omega) hp
      _ ≤ 2 ^ c * 2 ^ a := Nat.mul_le_mul_right _ hl
      _ = 2 ^ (a + c) := by rw [Nat.pow_add, Nat.mul_comm]
theorem zipWith_mem {α β γ : Type} {f : α → β → γ} : ∀ {xs : List α} {ys : List β} {z : γ}, z ∈ List.zipWith f xs ys → ∃ x ∈ xs, ∃ y ∈ ys, z = f x y
  | [], _, _, h => by simp at h
  | _ :: _, [], _, h => by simp at h
  | x :: xs, y :: ys, z, h => by
    simp only [List.zipWith_cons_cons, List.mem_cons] at h
    rcases h with rfl | h
    · exact ⟨x, by simp, y, by simp, rfl⟩
    · obtain ⟨x', h1, y', h2, h3⟩ := zipWith_mem h
      exact ⟨x', List.mem_cons_of_mem _ h1, y', List.mem_cons_of_mem _ h2, h3⟩
theorem told_sm {a b c : Nat} {ws ns : List Int} (hw : ∀ w ∈ ws, Sm a w) (hn : ∀ n ∈ ns, Sm b n) (hl : ws.length ≤ 2 ^ c) : Sm (a + b + c) (told ws ns) := by
  refine sum_sm (fun z hz => ?_) (by rw [List.length_zipWith]; omega) (by omega)
  obtain ⟨x, hx, y, hy, rfl⟩ := zipWith_mem hz
  exact sm_mul (hw x hx) (hn y hy)
theorem sm_max {b : Nat} {x : Int} (h : Sm b x) : Sm b (max 0 x) := by
  unfold Sm at *
  omega
theorem numbers_append {ls ms : List (List (List Int))} : ∀ {f : List Int}, numbers (ls ++ ms) f = numbers ms (numbers ls f) := by
  induction ls with
  | nil => intro f; rfl
  | cons l ls ih => intro f; exact ih
theorem numbers_len : ∀ {ls : List (List (List Int))} {f : List Int}, (numbers ls f).length = f.length + total ls
  | [], f => by simp [numbers, total]
  | l :: ls, f => by
    have h1 := numbers_len (ls := ls) (f := f ++ l.map fun u => max 0 (told u f))
    show (numbers ls (f ++ l.map fun u => max 0 (told u f))).length = _
    rw [h1]
    simp [total]
    omega
theorem numbers_sm : ∀ {ls : List (List (List Int))} {m b : Nat} {f : List Int}, Lays ls m → f.length = m → m + total ls ≤ 256 → (∀ x ∈ f, Sm b x) → ∀ x ∈ numbers ls f, Sm (b + 300 * ls.length) x
  | [], m, b, f, _, _, _, h => fun x hx => (h x hx).mono (by simp)
  | l :: ls, m, b, f, q, hf, ht, h => fun x hx => by
    have ht' : m + (l.length + total ls) ≤ 256 := by simpa [total] using ht
    have h2 : ∀ y ∈ f ++ l.map (fun u => max 0 (told u f)), Sm (b + 300) y := fun y hy => by
      rcases List.mem_append.mp hy with hy | hy
      · exact (h y hy).mono (by omega)
      · obtain ⟨u, hu, rfl⟩ := List.mem_map.mp hy
        obtain ⟨a1, a2⟩ := q.2.1 u hu
        exact (sm_max (told_sm (a := 200) (b := b) (c := 8) (fun w hw => sm_short (a2 w hw)) h (by rw [a1]; omega))).mono (by omega)
    exact (numbers_sm (m := m + l.length) (b := b + 300) q.2.2 (by simp [hf]) (by omega) h2 x hx).mono (by simp only [List.length_cons]; omega)
theorem numbers_take_sm {ls : List (List (List Int))} {n b : Nat} {xs : List Int} (h : Lays ls n) (hx : xs.length = n) (ht : n + total ls ≤ 256) (hb : ∀ x ∈ xs, Sm b x) (i : Nat) : ∀ x ∈ numbers (ls.take i) xs, Sm (b + 300 * ls.length) x := fun x hxm => by
  have lt : ∀ {ls : List (List (List Int))} {m i : Nat}, Lays ls m → Lays (ls.take i) m := by
    intro ls
    induction ls with
    | nil => intro m i _; simp [Lays]
    | cons l ls ih =>
      intro m i q
      cases i with
      | zero => simp [Lays]
      | succ i => exact ⟨q.1, q.2.1, ih q.2.2⟩
  have := total_le (ls := ls) i
  exact (numbers_sm (lt h) hx (by omega) hb x hxm).mono (by simp; omega)
theorem flat_rows : ∀ {ls : List (List (List Int))} {m : Nat}, Lays ls m → ∀ r ∈ ls.flatten, r.length ≤ m + total ls ∧ ∀ x ∈ r, short x = true
  | [], _, _, r, h => by simp at h
  | l :: ls, m, q, r, h => by
    have e : total (l :: ls) = l.length + total ls := by simp [total]
    rw [List.flatten_cons, List.mem_append] at h
    rcases h with h | h
    · exact ⟨by rw [(q.2.1 r h).1]; omega, (q.2.1 r h).2⟩
    · obtain ⟨h1, h2⟩ := flat_rows q.2.2 r h
      exact ⟨by omega, h2⟩
theorem flat_len (ls : List (List (List Int))) : ls.flatten.length = total ls := by simp [total, List.length_flatten]
theorem getD_mem {f : List Int} {p : Nat} (h : p < f.length) : f.getD p 0 ∈ f := by
  rw [List.getD_eq_getElem?_getD, List.getElem?_eq_getElem h]
  exact List.getElem_mem h
theorem sumForms_sm {a b c m : Nat} {ws : List Int} {fs : List (List Int)} (hw : ∀ w ∈ ws, Sm a w) (hf : ∀ f ∈ fs, f.length = m ∧ ∀ x ∈ f, Sm b x) (hl : ws.length ≤ 2 ^ c) : (sumForms ws fs m).length = m ∧ ∀ x ∈ sumForms ws fs m, Sm (a + b + c) x := by
  refine ⟨by simp [sumForms], fun x hx => ?_⟩
  obtain ⟨p, hp, rfl⟩ := List.mem_map.mp hx
  have hp : p < m := List.mem_range.mp hp
  refine sum_sm (fun z hz => ?_) (by rw [List.length_zipWith]; omega) (by omega)
  obtain ⟨w, h1, f, h2, rfl⟩ := zipWith_mem hz
  exact sm_mul (hw w h1) ((hf f h2).2 _ (getD_mem (by rw [(hf f h2).1]; exact hp)))
theorem forms0_ok (n : Nat) : ∀ f ∈ forms0 n, f.length = n ∧ ∀ x ∈ f, Sm 2 x := fun f hf => by
  obtain ⟨a, _, rfl⟩ := List.mem_map.mp hf
  refine ⟨by simp, fun x hx => ?_⟩
  obtain ⟨p, _, rfl⟩ := List.mem_map.mp hx
  unfold Sm
  split <;> decide
theorem formsIn_okG {n : Nat} : ∀ {us : List (List Int × Bool)} {fs : List (List Int)} {b : Nat}, (∀ u ∈ us, u.1.length ≤ 256 ∧ ∀ x ∈ u.1, short x = true) → (∀ f ∈ fs, f.length = n ∧ ∀ x ∈ f, Sm b x) → ∀ f ∈ us.foldl (formStep n) fs, f.length = n ∧ ∀ x ∈ f, Sm (b + 210 * us.length) x
  | [], fs, b, _, h0, f, hf => by simpa using h0 f hf
  | u :: us, fs, b, h, h0, f, hf => by
    have hu := h u (by simp)
    rw [List.foldl_cons] at hf
    have h1 : ∀ f ∈ formStep n fs u, f.length = n ∧ ∀ x ∈ f, Sm (b + 210) x := fun f hf => by
      simp only [formStep, List.mem_append, List.mem_singleton] at hf
      rcases hf with hf | rfl
      · exact ⟨(h0 f hf).1, fun x hx => ((h0 f hf).2 x hx).mono (by omega)⟩
      · split
        · obtain ⟨a1, a2⟩ := sumForms_sm (a := 200) (b := b) (c := 8) (m := n) (ws := u.1) (fs := fs) (fun w hw => sm_short (hu.2 w hw)) h0 hu.1
          exact ⟨a1, fun x hx => (a2 x hx).mono (by omega)⟩
        · refine ⟨by simp, fun x hx => ?_⟩
          rw [List.mem_replicate] at hx
          rw [hx.2]
          exact Nat.pos_of_ne_zero (by simp)
    obtain ⟨a1, a2⟩ := formsIn_okG (b := b + 210) (fun v hv => h v (List.mem_cons_of_mem _ hv)) h1 f hf
    exact ⟨a1, fun x hx => (a2 x hx).mono (by simp only [List.length_cons]; omega)⟩
theorem formsIn_ok {n : Nat} {us : List (List Int × Bool)} (h : ∀ u ∈ us, u.1.length ≤ 256 ∧ ∀ x ∈ u.1, short x = true) : ∀ f ∈ formsIn n us, f.length = n ∧ ∀ x ∈ f, Sm (2 + 210 * us.length) x := formsIn_okG h (forms0_ok n)
theorem formsIn_len {n : Nat} (us : List (List Int × Bool)) : (formsIn n us).length = n + us.length := by
  unfold formsIn
  have : ∀ (us : List (List Int × Bool)) (fs : List (List Int)), (us.foldl (formStep n) fs).length = fs.length + us.length := by
    intro us
    induction us with
    | nil => intro fs; simp
    | cons u us ih => intro fs; rw [List.foldl_cons, ih]; simp [formStep]; omega
  rw [this]
  simp [forms0]
/-! the promises -/
def d_told_by : DSp := fun ds μ k => ∃ ws d ns, ds = [rowD ws, d] ∧ asQ μ d = some (intsD ns) ∧ ws.length ≤ 1000000 ∧ (∀ w ∈ ws, ∀ n ∈ ns, CMulW w n) ∧ k (.int (told ws ns)) μ
def d_numbers_in (C : Addr) : DSp := fun ds μ k => ∃ n ls la xs, ds = [netD C n ls la, rowD xs] ∧ IsNet n ls la ∧ xs.length = n ∧ (∀ x ∈ xs, Sm 1000 x) ∧ k (.lst (intsD (numbers ls xs))) μ
def d_value_in (C : Addr) : DSp := fun ds μ k => ∃ n ls la xs, ds = [netD C n ls la, rowD xs] ∧ IsNet n ls la ∧ xs.length = n ∧ (∀ x ∈ xs, Sm 1000 x) ∧ k (.int (told la (numbers ls xs))) μ
def d_pattern_in (C : Addr) : DSp := fun ds μ k => ∃ n ls la xs, ds = [netD C n ls la, rowD xs] ∧ IsNet n ls la ∧ xs.length = n ∧ (∀ x ∈ xs, Sm 1000 x) ∧ k (.lst ((pattern n ls xs).map D.bl)) μ
def d_sum_of_forms : DSp := fun ds μ k => ∃ ws d fs m, ds = [rowD ws, d, .int (m : Nat)] ∧ asQ μ d = some (fs.map rowD) ∧ m ≤ 1000 ∧ (∀ f ∈ fs, f.length = m) ∧ ws.length ≤ 1000000 ∧ (∀ w ∈ ws, ∀ f ∈ fs, ∀ x ∈ f, CMulW w x) ∧ k (rowD (sumForms ws fs m)) μ
def d_form_in (C : Addr) : DSp := fun ds μ k => ∃ n ls la ps, ds = [netD C n ls la, .lst (ps.map D.bl)] ∧ IsNet n ls la ∧ k (rowD (formIn n ls la ps)) μ
def d_require_network (C : Addr) : DSp := fun ds μ k => ∃ n ls la, ds = [netD C n ls la] ∧ k .non μ
def d_require_inputs (C : Addr) : DSp := fun ds μ k => ∃ n ls la xs, ds = [netD C n ls la, rowD xs] ∧ xs.length = n ∧ n ≤ 8 ∧ (∀ x ∈ xs, short x = true) ∧ k .non μ
def d_require_place (C : Addr) : DSp := fun ds μ k => ∃ n ls la xs, ds = [netD C n ls la, rowD xs] ∧ xs.length = n ∧ n ≤ 8 ∧ (∀ x ∈ xs, short x = true) ∧ k .non μ
def d_value_of (C : Addr) : DSp := fun ds μ k => ∃ n ls la xs, ds = [netD C n ls la, rowD xs] ∧ IsNet n ls la ∧ xs.length = n ∧ (∀ x ∈ xs, short x = true) ∧ k (.int (told la (numbers ls xs))) μ
def d_unit_values (C : Addr) : DSp := fun ds μ k => ∃ n ls la xs, ds = [netD C n ls la, rowD xs] ∧ IsNet n ls la ∧ xs.length = n ∧ (∀ x ∈ xs, short x = true) ∧ k (rowD ((numbers ls xs).drop n)) μ
def d_pattern_at (C : Addr) : DSp := fun ds μ k => ∃ n ls la xs, ds = [netD C n ls la, rowD xs] ∧ IsNet n ls la ∧ xs.length = n ∧ (∀ x ∈ xs, short x = true) ∧ k (.tup ((pattern n ls xs).map D.bl)) μ
def d_form_at (C : Addr) : DSp := fun ds μ k => ∃ n ls la xs, ds = [netD C n ls la, rowD xs] ∧ IsNet n ls la ∧ xs.length = n ∧ (∀ x ∈ xs, short x = true) ∧ k (rowD (formIn n ls la (pattern n ls xs))) μ
def d_form_network (C : Addr) : DSp := fun ds μ k => ∃ ws, ds = [rowD ws] ∧ 1 ≤ ws.length ∧ ws.length ≤ 8 ∧ (∀ x ∈ ws, short x = true) ∧ k (netD C ws.length [] ws) μ
section
variable {P : Program} {w : World} {K : PySem.W.Frag} {mg : Str → Option Value} {base : Heap} {C : Addr}
abbrev s_told_by : Stmt := topS 19
abbrev N_told_by : List Str := ["row", "numbers", "weight", "number"]
theorem sc_told_by : FnScope N_told_by ["row", "numbers"] (defScope s_told_by) := ⟨rfl, rfl, rfl, by decide +kernel, rfl, by decide +kernel, by decide +kernel⟩
def r_told_by : RS :=
  (rRet (rCB oSum (rCons (rLc (rIZ (rCons (rVar 0) (rCons (rVar 1) rNil))) (rgTup 2 (rgCons (rgName 2) (rgCons (rgName 3) rgNil))) rYes (rOp (oIc CMulW fun i j => i * j) (rVar 2) (rVar 3)) [2, 3]) rNil)))
theorem b_told_by (T : TxC K mg C) : Body P w K mg base 6 "told_by" s_told_by N_told_by (r_told_by) := by
  refine fun f => ⟨_, fun cdv A outer s H E hr => ⟨(pss_one (ps_ret (kb_call (kc_sum K) T.b_sum (pa_cons (pe_lc (own := [("weight", 2), ("number", 3)]) rfl sc_told_by.nd (ki_zip K (by rfl) T.b_zip (pa_cons (pv 0) (pa_cons (pv 1) pa_nil))) (blkOk_by (own := [("weight", 2), ("number", 3)]) (N := N_told_by) (sc := defScope s_told_by) (by decide +kernel)) (fun _ _ _ _ _ => (kg_tup K (pgs_cons (pg_name (i := 2) sc_told_by.nd rfl (by first | exact Or.inl rfl | exact Or.inr rfl)) (pgs_cons (pg_name (i := 3) sc_told_by.nd rfl (by first | exact Or.inl rfl | exact Or.inr rfl)) pgs_nil)))) (fun _ _ _ _ _ => pts_nil) (fun _ _ _ _ _ => (pe_op op_mulW (pv 2) (pv 3)))) pa_nil)))),
    (okS_ret (okE_CB okSum (okA_cons (okE_lc (okI_zip (okA_cons (okE_var 0) (okA_cons (okE_var 1) okA_nil))) (okG_tup (okGs_cons (okG_name 2) (okGs_cons (okG_name 3) okGs_nil))) okT_yes (okE_op okIc (okE_var 2) (okE_var 3)) (by decide)) okA_nil)))⟩⟩

abbrev s_numbers_in : Stmt := topS 20
abbrev N_numbers_in : List Str := ["network", "row", "found", "layer", "unit"]
theorem sc_numbers_in : FnScope N_numbers_in ["network", "row"] (defScope s_numbers_in) := ⟨rfl, rfl, rfl, by decide +kernel, rfl, by decide +kernel, by decide +kernel⟩
def r_numbers_in (C : Addr) : RS :=
  (rSeq (rAsg (rCB oListO (rCons (rVar 1) rNil)) (rgName 2))
  (rSeq (rFor (rIT (rFld C 2 (rVar 0))) (rgName 3) (rDrop (rExt (rVar 2) (rLc (rIT (rVar 3)) (rgName 4) rYes (rCB (o2I fun i j => if j > i then j else i) (rCons (rC (.int 0)) (rCons (rCall d_told_by (rCons (rVar 4) (rCons (rVar 2) rNil))) rNil))) [4]))))
  (rRetF (rVar 2))))
theorem b_numbers_in (F_told_by : FnD P w K mg base "told_by" 7 d_told_by) (T : TxC K mg C) : Body P w K mg base 7 "numbers_in" s_numbers_in N_numbers_in (r_numbers_in C) := by
  refine fun f => ⟨_, fun cdv A outer s H E hr => ⟨(pss_cons (ps_set (i := 2) sc_numbers_in.nd rfl (Or.inr rfl) (kt_call (kc_list K) T.b_list (pa_cons (pv 1) pa_nil)))
      (pss_cons (ps_for PassesOwn.never rfl (ki_tup K (ke_sl K (pv 0))) (pg_name (i := 3) sc_numbers_in.nd rfl (Or.inl rfl)) (pss_one (ps_expr (ke_ext K (pv 2) (pa_cons (pe_lc (own := [("unit", 4)]) rfl sc_numbers_in.nd (ki_tup K (pv 3)) (blkOk_by (own := [("unit", 4)]) (N := N_numbers_in) (sc := defScope s_numbers_in) (by decide +kernel)) (fun _ _ _ _ _ => (pg_name (i := 4) sc_numbers_in.nd rfl (by first | exact Or.inl rfl | exact Or.inr rfl))) (fun _ _ _ _ _ => pts_nil) (fun _ _ _ _ _ => (kb_call (call_max2 rfl) T.b_max (pa_cons pe_int (pa_cons (ke_call K F_told_by hr (pa_cons (pv 4) (pa_cons (pv 2) pa_nil))) pa_nil))))) pa_nil)))))
      (pss_one (ps_ret (pv 2))))),
    (okS_seq (okS_asg (okE_CB okListO (okA_cons (okE_var 1) okA_nil)) (okG_name 2))
      (okS_seq (okS_for (okI_tup (fld T.cmp.cls T.sx_own_layers (okE_var 0))) (okG_name 3) (okS_drop (okE_ext (okE_var 2) (okE_lc (okI_tup (okE_var 3)) (okG_name 4) okT_yes (okE_CB ok2I (okA_cons (okE_C fun _ => .int _) (okA_cons (okE_call (okA_cons (okE_var 4) (okA_cons (okE_var 2) okA_nil))) okA_nil))) (by decide)))))
      (okS_retF (okE_var 2))))⟩⟩

abbrev s_value_in : Stmt := topS 21
abbrev N_value_in : List Str := ["network", "row"]
theorem sc_value_in : FnScope N_value_in ["network", "row"] (defScope s_value_in) := ⟨rfl, rfl, rfl, by decide +kernel, rfl, by decide +kernel, by decide +kernel⟩
def r_value_in (C : Addr) : RS :=
  (rRet (rCall d_told_by (rCons (rFld C 1 (rVar 0)) (rCons (rCall (d_numbers_in C) (rCons (rVar 0) (rCons (rVar 1) rNil))) rNil))))
theorem b_value_in (F_told_by : FnD P w K mg base "told_by" 7 d_told_by) (F_numbers_in : FnD P w K mg base "numbers_in" 8 (d_numbers_in C)) (T : TxC K mg C) : Body P w K mg base 8 "value_in" s_value_in N_value_in (r_value_in C) := by
  refine fun f => ⟨_, fun cdv A outer s H E hr => ⟨(pss_one (ps_ret (ke_call K F_told_by hr (pa_cons (ke_sl K (pv 0)) (pa_cons (ke_call K F_numbers_in hr (pa_cons (pv 0) (pa_cons (pv 1) pa_nil))) pa_nil))))),
    (okS_ret (okE_call (okA_cons (fld T.cmp.cls T.sx_own_last (okE_var 0)) (okA_cons (okE_call (okA_cons (okE_var 0) (okA_cons (okE_var 1) okA_nil))) okA_nil))))⟩⟩

abbrev s_require_network : Stmt := topS 26
abbrev N_require_network : List Str := ["value"]
theorem sc_require_network : FnScope N_require_network ["value"] (defScope s_require_network) := ⟨rfl, rfl, rfl, by decide +kernel, rfl, by decide +kernel, by decide +kernel⟩
def r_require_network (C : Addr) : RS :=
  (rIfS (rNot (rB (rIsiC C (rVar 0)))) rNever rNext)
theorem b_require_network (T : TxC K mg C) : Body P w K mg base 10 "require_network" s_require_network N_require_network (r_require_network C) := by
  refine fun f => ⟨_, fun cdv A outer s H E hr => ⟨(pss_one (ps_if (pt_not (pt_val (ke_isiC T.b_isinstance T.mgC (pv 0)))) (pss_one ps_never) pss_nil)),
    (okS_if (okT_not (okT_B (okE_isiC T.cmp (okE_var 0)))) okS_never okS_next)⟩⟩

abbrev s_require_inputs : Stmt := topS 27
abbrev N_require_inputs : List Str := ["network", "row"]
theorem sc_require_inputs : FnScope N_require_inputs ["network", "row"] (defScope s_require_inputs) := ⟨rfl, rfl, rfl, by decide +kernel, rfl, by decide +kernel, by decide +kernel⟩
def r_require_inputs (C : Addr) : RS :=
  (rIfS (rNot (rB (rCall d_are_short (rCons (rVar 1) (rCons (rFld C 0 (rVar 0)) rNil))))) rNever rNext)
theorem b_require_inputs (F_are_short : FnD P w K mg base "are_short" 4 d_are_short) (T : TxC K mg C) : Body P w K mg base 11 "require_inputs" s_require_inputs N_require_inputs (r_require_inputs C) := by
  refine fun f => ⟨_, fun cdv A outer s H E hr => ⟨(pss_one (ps_if (pt_not (pt_val (ke_call K F_are_short hr (pa_cons (pv 1) (pa_cons (ke_sl K (pv 0)) pa_nil))))) (pss_one ps_never) pss_nil)),
    (okS_if (okT_not (okT_B (okE_call (okA_cons (okE_var 1) (okA_cons (fld T.cmp.cls T.sx_own_inputs (okE_var 0)) okA_nil))))) okS_never okS_next)⟩⟩

abbrev s_require_place : Stmt := topS 28
abbrev N_require_place : List Str := ["network", "row"]
theorem sc_require_place : FnScope N_require_place ["network", "row"] (defScope s_require_place) := ⟨rfl, rfl, rfl, by decide +kernel, rfl, by decide +kernel, by decide +kernel⟩
def r_require_place (C : Addr) : RS :=
  (rSeq (rDrop (rCall (d_require_network C) (rCons (rVar 0) rNil)))
  (rDrop (rCall (d_require_inputs C) (rCons (rVar 0) (rCons (rVar 1) rNil)))))
theorem b_require_place (F_require_network : FnD P w K mg base "require_network" 11 (d_require_network C)) (F_require_inputs : FnD P w K mg base "require_inputs" 12 (d_require_inputs C)) (T : TxC K mg C) : Body P w K mg base 12 "require_place" s_require_place N_require_place (r_require_place C) := by
  refine fun f => ⟨_, fun cdv A outer s H E hr => ⟨(pss_cons (ps_expr (ke_call K F_require_network hr (pa_cons (pv 0) pa_nil)))
      (pss_one (ps_expr (ke_call K F_require_inputs hr (pa_cons (pv 0) (pa_cons (pv 1) pa_nil)))))),
    (okS_seq (okS_drop (okE_call (okA_cons (okE_var 0) okA_nil)))
      (okS_drop (okE_call (okA_cons (okE_var 0) (okA_cons (okE_var 1) okA_nil)))))⟩⟩

abbrev s_value_of : Stmt := topS 29
abbrev N_value_of : List Str := ["network", "row"]
theorem sc_value_of : FnScope N_value_of ["network", "row"] (defScope s_value_of) := ⟨rfl, rfl, rfl, by decide +kernel, rfl, by decide +kernel, by decide +kernel⟩
def r_value_of (C : Addr) : RS :=
  (rSeq (rDrop (rCall (d_require_place C) (rCons (rVar 0) (rCons (rVar 1) rNil))))
  (rRet (rCall (d_value_in C) (rCons (rVar 0) (rCons (rVar 1) rNil)))))
theorem b_value_of (F_require_place : FnD P w K mg base "require_place" 13 (d_require_place C)) (F_value_in : FnD P w K mg base "value_in" 9 (d_value_in C)) (T : TxC K mg C) : Body P w K mg base 13 "value_of" s_value_of N_value_of (r_value_of C) := by
  refine fun f => ⟨_, fun cdv A outer s H E hr => ⟨(pss_cons (ps_expr (ke_call K F_require_place hr (pa_cons (pv 0) (pa_cons (pv 1) pa_nil))))
      (pss_one (ps_ret (ke_call K F_value_in hr (pa_cons (pv 0) (pa_cons (pv 1) pa_nil)))))),
    (okS_seq (okS_drop (okE_call (okA_cons (okE_var 0) (okA_cons (okE_var 1) okA_nil))))
      (okS_ret (okE_call (okA_cons (okE_var 0) (okA_cons (okE_var 1) okA_nil)))))⟩⟩



/-! ### the VCs -/
theorem ok_told_by (a : At K mg "told_by" s_told_by) (T : TxC K mg C) : FnD P w K mg base "told_by" 7 d_told_by := by
  refine fnD_of a (b_told_by T) sc_told_by (fun _ _ _ _ _ _ us hl => match us, hl with | [_, _], _ => rfl) ?_ ?_
  · rintro ds μ k ⟨ws, d, ns, rfl, _⟩; rfl
  · rintro ds μ k ⟨ws, d, ns, rfl, hd, hl, hw, h⟩
    simp [r_told_by]
    refine ⟨_, hd, ?_⟩
    have sz := Src.z (μ := μ) (x := rowD ws) (y := d) rfl hd
    have e : ((ws.map D.int).zip (ns.map D.int)).map (fun q => D.tup [q.1, q.2]) = (ws.zip ns).map fun q => .tup [.int q.1, .int q.2] := by
      rw [List.zip_map, List.map_map]; rfl
    rw [e] at sz
    refine lcW_map (ws.zip ns) (fun q => .tup [.int q.1, .int q.2]) (fun q => .int (q.1 * q.2)) sz (by rw [List.length_zip]; omega) (fun q hq kt kf h1 => ?_) ?_
    · simp
      exact ⟨hw _ (List.of_mem_zip hq).1 _ (List.of_mem_zip hq).2, h1⟩
    · refine sum_of rfl ?_
      have e2 : ((ws.zip ns).map fun q => q.1 * q.2) = List.zipWith (fun w n => w * n) ws ns := by
        rw [List.zip, List.map_zipWith]
      rw [e2]
      exact h
theorem ixN_nat {p m : Nat} (h : p < m) : ixN m (p : Int) = some p := by
  unfold ixN
  simp [h]
theorem muSet_self {μ : Mu} {p : Addr} {ds : Cnt} (h : μ p = some ds) : muSet μ p ds = μ := by
  funext q; unfold muSet
  by_cases hq : q = p
  · rw [if_pos hq, hq, h]
  · rw [if_neg hq]
theorem muDel_none {μ : Mu} {p : Addr} (h : μ p = none) : muDel μ p = μ := by
  funext q; unfold muDel
  by_cases hq : q = p
  · rw [if_pos hq, hq, h]
  · rw [if_neg hq]
theorem ok_numbers_in (a : At K mg "numbers_in" s_numbers_in) (F : FnD P w K mg base "told_by" 7 d_told_by) (T : TxC K mg C) : FnD P w K mg base "numbers_in" 8 (d_numbers_in C) := by
  refine fnD_of a (b_numbers_in F T) sc_numbers_in (fun _ _ _ _ _ _ us hl => match us, hl with | [_, _], _ => rfl) ?_ ?_
  · rintro ds μ k ⟨n, ls, la, xs, rfl, _⟩; rfl
  · rintro ds μ k ⟨n, ls, la, xs, rfl, N, hx, hb, h⟩
    simp [r_numbers_in]
    intro p hp
    have ht := N.tot
    have hn := N.hi
    have hfew := N.few
    refine for_inv ls layerD (fun i δ μ' => μ' = muSet μ p (intsD (numbers (ls.take i) xs)) ∧ ∃ x, δ = [some (netD C n ls la), some (rowD xs), some (.own p), x, none]) (fun kk hk => ?_) (fun i l δ μ' hl q => ?_) (fun δ μ' q => ?_)
    · simp
      exact hk _ _ (.l _) ⟨rfl, none, rfl⟩ (fun _ _ _ _ => trivial)
    · obtain ⟨rfl, x, rfl⟩ := q
      obtain ⟨a1, a2⟩ := lays_at N.lays hl
      have a3 := numbers_len (ls := ls.take i) (f := xs)
      have a4 := total_le (ls := ls) i
      simp [muSet_same]
      refine lcW_map l rowD (fun u => .int (max 0 (told u (numbers (ls.take i) xs)))) (.l _) (by omega) (fun u hu kt kf h1 => ?_) ?_
      · simp
        refine ⟨u, .own p, _, rfl, lsAt_of muSet_same, by rw [(a2 u hu).1]; omega, fun w hw y hy => ?_, ?_⟩
        · exact sm_mulW (sm_short ((a2 u hu).2 w hw)) (numbers_take_sm N.lays hx (by omega) hb i y hy) (by omega) (by omega) (by omega)
        · have e : (if 0 < told u (numbers (ls.take i) xs) then told u (numbers (ls.take i) xs) else 0) = max 0 (told u (numbers (ls.take i) xs)) := by
            split <;> omega
          show kt (D.int (if 0 < told u (numbers (ls.take i) xs) then told u (numbers (ls.take i) xs) else 0)) _
          rw [e]
          exact h1
      · refine ⟨_, muSet_same, by simp; omega, ?_⟩
        rw [muSet_set, take_succ_of hl, numbers_append]
        congr 1
        simp [numbers, intsD]
    · obtain ⟨rfl, x, rfl⟩ := q
      simp [muSet_same]
      rw [muDel_set, muDel_none hp]
      exact h
theorem ok_value_in (a : At K mg "value_in" s_value_in) (F1 : FnD P w K mg base "told_by" 7 d_told_by) (F2 : FnD P w K mg base "numbers_in" 8 (d_numbers_in C)) (T : TxC K mg C) : FnD P w K mg base "value_in" 9 (d_value_in C) := by
  refine fnD_of a (b_value_in F1 F2 T) sc_value_in (fun _ _ _ _ _ _ us hl => match us, hl with | [_, _], _ => rfl) ?_ ?_
  · rintro ds μ k ⟨n, ls, la, xs, rfl, _⟩; rfl
  · rintro ds μ k ⟨n, ls, la, xs, rfl, N, hx, hb, h⟩
    have ht := N.tot
    have hn := N.hi
    have hfew := N.few
    have hlen := N.len
    simp [r_value_in]
    refine ⟨n, ls, la, xs, rfl, N, hx, hb, ?_⟩
    refine ⟨la, _, numbers ls xs, rfl, rfl, by omega, fun w hw y hy => ?_, h⟩
    exact sm_mulW (sm_short (N.short w hw)) (numbers_sm N.lays hx (by omega) hb y hy) (by omega) (by omega) (by omega)
theorem cut_drop (n : Nat) (ds : List D) (h : n ≤ ds.length) : DL.cutD ds (some (n : Int)) none = ds.drop n := by
  unfold DL.cutD
  have e1 : HT.sIx ds.length 0 (some (n : Int)) = n := by rw [HT.sIx_nat]; omega
  have e2 : HT.sIx ds.length ds.length none = ds.length := by unfold HT.sIx; rfl
  rw [e1, e2]
  rw [List.take_of_length_le (by simp)]
theorem units_ok {n : Nat} {ls : List (List (List Int))} {la : List Int} (N : IsNet n ls la) (ps : List Bool) : ∀ u ∈ ls.flatten.zip ps, u.1.length ≤ 256 ∧ ∀ x ∈ u.1, short x = true := fun u hu => by
  obtain ⟨h1, h2⟩ := flat_rows N.lays u.1 (List.of_mem_zip hu).1
  have := N.tot
  have := N.hi
  exact ⟨by omega, h2⟩
theorem ok_require_network (a : At K mg "require_network" s_require_network) (T : TxC K mg C) : FnD P w K mg base "require_network" 11 (d_require_network C) := by
  refine fnD_of a (b_require_network T) sc_require_network (fun _ _ _ _ _ _ us hl => match us, hl with | [_], _ => rfl) ?_ ?_
  · rintro ds μ k ⟨n, ls, la, rfl, h⟩; rfl
  · rintro ds μ k ⟨n, ls, la, rfl, h⟩
    simpa [r_require_network] using h
theorem ok_require_inputs (a : At K mg "require_inputs" s_require_inputs) (F : FnD P w K mg base "are_short" 4 d_are_short) (T : TxC K mg C) : FnD P w K mg base "require_inputs" 12 (d_require_inputs C) := by
  refine fnD_of a (b_require_inputs F T) sc_require_inputs (fun _ _ _ _ _ _ us hl => match us, hl with | [_, _], _ => rfl) ?_ ?_
  · rintro ds μ k ⟨n, ls, la, xs, rfl, _⟩; rfl
  · rintro ds μ k ⟨n, ls, la, xs, rfl, hx, hn, hb, h⟩
    simp [r_require_inputs]
    refine ⟨xs, _, rfl, by omega, ?_⟩
    have e : areShort xs (n : Int) = true := by
      simp only [areShort, Bool.and_eq_true, decide_eq_true_eq, List.all_eq_true]
      exact ⟨by omega, hb⟩
    simp [e]
    exact h
theorem ok_require_place (a : At K mg "require_place" s_require_place) (F1 : FnD P w K mg base "require_network" 11 (d_require_network C)) (F2 : FnD P w K mg base "require_inputs" 12 (d_require_inputs C)) (T : TxC K mg C) : FnD P w K mg base "require_place" 13 (d_require_place C) := by
  refine fnD_of a (b_require_place F1 F2 T) sc_require_place (fun _ _ _ _ _ _ us hl => match us, hl with | [_, _], _ => rfl) ?_ ?_
  · rintro ds μ k ⟨n, ls, la, xs, rfl, _⟩; rfl
  · rintro ds μ k ⟨n, ls, la, xs, rfl, hx, hn, hb, h⟩
    simp [r_require_place]
    refine ⟨n, ls, la, rfl, n, ls, la, xs, rfl, hx, hn, hb, h⟩
theorem ok_value_of (a : At K mg "value_of" s_value_of) (F1 : FnD P w K mg base "require_place" 13 (d_require_place C)) (F2 : FnD P w K mg base "value_in" 9 (d_value_in C)) (T : TxC K mg C) : FnD P w K mg base "value_of" 14 (d_value_of C) := by
  refine fnD_of a (b_value_of F1 F2 T) sc_value_of (fun _ _ _ _ _ _ us hl => match us, hl with | [_, _], _ => rfl) ?_ ?_
  · rintro ds μ k ⟨n, ls, la, xs, rfl, _⟩; rfl
  · rintro ds μ k ⟨n, ls, la, xs, rfl, N, hx, hb, h⟩
    simp [r_value_of]
    exact ⟨n, ls, la, xs, rfl, hx, N.hi, hb, n, ls, la, xs, rfl, N, hx, fun x hx => (sm_short (hb x hx)).mono (by omega), h⟩
end
end K21


set_option Elab.async false
set_option linter.all false
set_option maxRecDepth 100000
set_option maxHeartbeats 4000000
namespace K21
open PySem PySem.Spec PyProof.Rows L2 SlX StX DL
/-! picking by places -/
def selP {α : Type} (p : Nat → Bool) : Nat → List α → List α
  | _, [] => []
  | i, x :: xs => if p i = true then x :: selP p (i + 1) xs else selP p (i + 1) xs
def cnt (p : Nat → Bool) : Nat → Nat → Nat
  | _, 0 => 0
  | i, m + 1 => (if p i = true then 1 else 0) + cnt p (i + 1) m
theorem selP_len {α : Type} (p : Nat → Bool) : ∀ (i : Nat) (xs : List α), (selP p i xs).length = cnt p i xs.length
  | _, [] => rfl
  | i, x :: xs => by
    have ih := selP_len p (i + 1) xs
    simp only [selP, cnt, List.length_cons]
    split
    · rw [List.length_cons, ih]; omega
    · rw [ih]; omega
theorem selP_append {α : Type} (p : Nat → Bool) : ∀ (i : Nat) (xs ys : List α), selP p i (xs ++ ys) = selP p i xs ++ selP p (i + xs.length) ys
  | _, [], _ => rfl
  | i, x :: xs, ys => by
    have ih := selP_append p (i + 1) xs ys
    have e : i + 1 + xs.length = i + (xs.length + 1) := by omega
    simp only [List.cons_append, selP, List.length_cons, ih, e]
    split <;> simp
theorem selP_map {α β : Type} (p : Nat → Bool) (f : α → β) : ∀ (i : Nat) (xs : List α), selP p i (xs.map f) = (selP p i xs).map f
  | _, [] => rfl
  | i, x :: xs => by
    have ih := selP_map p f (i + 1) xs
    simp only [List.map_cons, selP, ih]
    split <;> simp
theorem selP_true {α : Type} (p : Nat → Bool) : ∀ (i : Nat) (xs : List α), (∀ j, j < xs.length → p (i + j) = true) → selP p i xs = xs
  | _, [], _ => rfl
  | i, x :: xs, h => by
    have h0 := h 0 (by simp)
    have ih := selP_true p (i + 1) xs (fun j hj => by have := h (j + 1) (by simp; omega); rwa [show i + (j + 1) = i + 1 + j by omega] at this)
    simp only [Nat.add_zero] at h0
    simp [selP, h0, ih]
theorem selP_mem {α : Type} (p : Nat → Bool) : ∀ {i : Nat} {xs : List α} {x : α}, x ∈ selP p i xs → ∃ j, xs[j]? = some x ∧ p (i + j) = true
  | _, [], _, h => by simp [selP] at h
  | i, y :: xs, x, h => by
    have ih := fun (h : x ∈ selP p (i + 1) xs) => selP_mem p h
    have go : x ∈ selP p (i + 1) xs → ∃ j, (y :: xs)[j]? = some x ∧ p (i + j) = true := fun h => by
      obtain ⟨j, h1, h2⟩ := ih h
      exact ⟨j + 1, by simpa using h1, by rwa [show i + (j + 1) = i + 1 + j by omega]⟩
    simp only [selP] at h
    split at h
    · rename_i hp
      rcases List.mem_cons.mp h with rfl | h
      · exact ⟨0, rfl, hp⟩
      · exact go h
    · exact go h
theorem cnt_le (p : Nat → Bool) : ∀ (i m : Nat), cnt p i m ≤ m
  | _, 0 => Nat.le_refl _
  | i, m + 1 => by have := cnt_le p (i + 1) m; simp only [cnt]; split <;> omega
theorem cnt_add (p : Nat → Bool) : ∀ (i a b : Nat), cnt p i (a + b) = cnt p i a + cnt p (i + a) b
  | i, 0, b => by simp [cnt]
  | i, a + 1, b => by
    have ih := cnt_add p (i + 1) a b
    rw [show a + 1 + b = (a + b) + 1 by omega]
    simp only [cnt, ih, show i + (a + 1) = i + 1 + a by omega]
    omega
theorem cnt_lt (p : Nat → Bool) {i a b : Nat} (h : a < b) (hp : p (i + a) = true) : cnt p i a < cnt p i b := by
  obtain ⟨c, rfl⟩ : ∃ c, b = a + (c + 1) := ⟨b - a - 1, by omega⟩
  rw [cnt_add p i a (c + 1)]
  simp only [cnt, hp, if_true]
  omega
theorem selP_at {α : Type} (p : Nat → Bool) : ∀ {i : Nat} {xs : List α} {j : Nat}, j < xs.length → p (i + j) = true → (selP p i xs)[cnt p i j]? = xs[j]?
  | _, [], _, h, _ => by simp at h
  | i, x :: xs, 0, _, hp => by
    simp only [Nat.add_zero] at hp
    simp [selP, cnt, hp]
  | i, x :: xs, j + 1, h, hp => by
    have ih := selP_at p (i := i + 1) (xs := xs) (j := j) (by simpa using h) (by rwa [show i + 1 + j = i + (j + 1) by omega])
    simp only [selP, cnt]
    split
    · rw [show 1 + cnt p (i + 1) j = cnt p (i + 1) j + 1 by omega]
      simpa using ih
    · simpa using ih
theorem selP_idx {α : Type} (p : Nat → Bool) : ∀ {i : Nat} {xs : List α} {a : Nat}, a < (selP p i xs).length → ∃ j, j < xs.length ∧ p (i + j) = true ∧ cnt p i j = a
  | _, [], _, h => by simp [selP] at h
  | i, x :: xs, a, h => by
    simp only [selP] at h
    split at h
    · rename_i hp
      cases a with
      | zero => exact ⟨0, by simp, hp, rfl⟩
      | succ a =>
        obtain ⟨j, h1, h2, h3⟩ := selP_idx p (i := i + 1) (xs := xs) (a := a) (by simpa using h)
        exact ⟨j + 1, by simpa using h1, by rwa [show i + (j + 1) = i + 1 + j by omega], by simp only [cnt, hp, if_true, h3]; omega⟩
    · rename_i hp
      obtain ⟨j, h1, h2, h3⟩ := selP_idx p (i := i + 1) (xs := xs) (a := a) h
      exact ⟨j + 1, by simpa using h1, by rwa [show i + (j + 1) = i + 1 + j by omega], by simp only [cnt, hp, if_false, h3]; simp⟩
theorem selP_range {α : Type} (p : Nat → Bool) (d : α) : ∀ (xs : List α) (i : Nat), selP p i xs = ((List.range xs.length).filter fun j => p (i + j)).map fun j => xs.getD j d
  | [], _ => rfl
  | x :: xs, i => by
    have ih := selP_range p d xs (i + 1)
    rw [List.length_cons, List.range_succ_eq_map, List.filter_cons, List.filter_map]
    have e : (fun j => p (i + j)) ∘ Nat.succ = fun j => p (i + 1 + j) := by funext j; simp only [Function.comp_def]; congr 1; omega
    rw [e]
    simp only [selP, ih, Nat.add_zero]
    split
    · simp [List.map_map, Function.comp_def]
    · simp [List.map_map, Function.comp_def]
/-! rows and numbers without some places behind the inputs -/
def lessR (n : Nat) (p : Nat → Bool) (r : List Int) : List Int := r.take n ++ selP p 0 (r.drop n)
def wt (r : List Int) (i : Nat) : Int := r.getD i 0
theorem wt_ge {r : List Int} {i : Nat} (h : r.length ≤ i) : wt r i = 0 := by unfold wt; rw [List.getD_eq_getElem?_getD, List.getElem?_eq_none h]; rfl
theorem wt_lt {r : List Int} {i : Nat} (h : i < r.length) : r[i]? = some (wt r i) := by unfold wt; rw [List.getD_eq_getElem?_getD, List.getElem?_eq_getElem h]; rfl
theorem told_sel (p : Nat → Bool) : ∀ (i : Nat) (s u : List Int), s.length = u.length → (∀ j, p (i + j) = false → wt s j = 0) → told (selP p i s) (selP p i u) = told s u
  | _, [], [], _, _ => rfl
  | i, x :: s, y :: u, h, hz => by
    have ih := told_sel p (i + 1) s u (by simpa using h) (fun j hj => by
      have := hz (j + 1) (by rwa [show i + (j + 1) = i + 1 + j by omega])
      simpa [wt] using this)
    simp only [selP]
    split
    · have e : ∀ a b : List Int, told (x :: a) (y :: b) = x * y + told a b := fun a b => by simp [told]
      rw [e, e, ih]
    · rename_i hp
      have hx : x = 0 := by have := hz 0 (by simpa using hp); simpa [wt] using this
      rw [ih]
      simp [told, hx]
theorem told_append : ∀ {a b u v : List Int}, a.length = u.length → told (a ++ b) (u ++ v) = told a u + told b v
  | [], b, [], v, _ => by simp [told]
  | x :: a, b, y :: u, v, h => by
    have ih := told_append (a := a) (b := b) (u := u) (v := v) (by simpa using h)
    unfold told at ih ⊢
    simp only [List.cons_append, List.zipWith_cons_cons, List.sum_cons, ih]
    omega
theorem told_less {n : Nat} {p : Nat → Bool} {r f : List Int} (h : r.length = f.length) (hz : ∀ j, p j = false → wt r (n + j) = 0) : told (lessR n p r) (lessR n p f) = told r f := by
  unfold lessR
  rw [told_append (by simp [h]), told_sel p 0 _ _ (by simp [h]) (fun j hj => by
    have := hz j (by simpa using hj)
    unfold wt at this ⊢
    rw [List.getD_eq_getElem?_getD, List.getElem?_drop, ← List.getD_eq_getElem?_getD]; exact this)]
  conv => rhs; rw [← List.take_append_drop n r, ← List.take_append_drop n f]
  rw [told_append (by simp [h])]
theorem lessR_append {n : Nat} (p : Nat → Bool) {f g : List Int} (h : n ≤ f.length) : lessR n p (f ++ g) = lessR n p f ++ selP p (f.length - n) g := by
  unfold lessR
  rw [List.take_append_of_le_length h, List.drop_append_of_le_length h, selP_append]
  simp
theorem lessR_len {n : Nat} (p : Nat → Bool) {r : List Int} (h : n ≤ r.length) : (lessR n p r).length = n + cnt p 0 (r.length - n) := by
  unfold lessR
  rw [List.length_append, selP_len]; simp; omega
theorem lessR_mem {n : Nat} {p : Nat → Bool} {r : List Int} {x : Int} (h : x ∈ lessR n p r) : x ∈ r := by
  rcases List.mem_append.mp h with h | h
  · exact List.mem_of_mem_take h
  · obtain ⟨j, h1, _⟩ := selP_mem p h
    exact List.mem_of_mem_drop (List.mem_of_getElem? h1)
theorem lessR_all {n : Nat} {p : Nat → Bool} {r : List Int} (h : ∀ j, j < r.length - n → p j = true) : lessR n p r = r := by
  unfold lessR
  rw [selP_true p 0 _ (fun j hj => by simpa using h j (by simpa using hj)), List.take_append_drop]
theorem wt_less {n : Nat} {p : Nat → Bool} {r : List Int} {a : Nat} (h : n + a < r.length) (hp : p a = true) : wt (lessR n p r) (n + cnt p 0 a) = wt r (n + a) := by
  unfold wt lessR
  rw [List.getD_eq_getElem?_getD, List.getElem?_append_right (by simp; omega)]
  have e : n + cnt p 0 a - (r.take n).length = cnt p 0 a := by simp; omega
  rw [e, selP_at p (by simp; omega) (by simpa using hp), List.getElem?_drop, ← List.getD_eq_getElem?_getD]
/-! layers -/
def trimL (n : Nat) (p : Nat → Bool) (off : Nat) (l : List (List Int)) : List (List Int) := (selP p off l).map (lessR n p)
def oneL (t : List (List Int)) : List (List (List Int)) := if t = [] then [] else [t]
def trimLs (n : Nat) (p : Nat → Bool) : Nat → List (List (List Int)) → List (List (List Int))
  | _, [] => []
  | off, l :: ls => oneL (trimL n p off l) ++ trimLs n p (off + l.length) ls
theorem trimLs_snoc (n : Nat) (p : Nat → Bool) : ∀ (off : Nat) (ls : List (List (List Int))) (l : List (List Int)), trimLs n p off (ls ++ [l]) = trimLs n p off ls ++ oneL (trimL n p (off + total ls) l)
  | off, [], l => by simp [trimLs, total]
  | off, l' :: ls, l => by
    have ih := trimLs_snoc n p (off + l'.length) ls l
    simp only [List.cons_append, trimLs, ih, List.append_assoc]
    rw [show off + l'.length + total ls = off + total (l' :: ls) by simp [total]; omega]
theorem flat_one (t : List (List Int)) : (oneL t).flatten = t := by unfold oneL; split <;> simp_all
theorem trim_flat (n : Nat) (p : Nat → Bool) : ∀ (off : Nat) (ls : List (List (List Int))), (trimLs n p off ls).flatten = (selP p off ls.flatten).map (lessR n p)
  | off, [] => rfl
  | off, l :: ls => by
    have ih := trim_flat n p (off + l.length) ls
    rw [List.flatten_cons, selP_append, List.map_append, ← ih]
    simp only [trimLs, List.flatten_append, flat_one, trimL]
theorem total_flat (ls : List (List (List Int))) : total ls = ls.flatten.length := by simp [total, List.length_flatten]
theorem trim_total (n : Nat) (p : Nat → Bool) (off : Nat) (ls : List (List (List Int))) : total (trimLs n p off ls) = cnt p off (total ls) := by
  rw [total_flat, trim_flat, List.length_map, selP_len, ← total_flat]
theorem trim_few (n : Nat) (p : Nat → Bool) : ∀ (off : Nat) (ls : List (List (List Int))), (trimLs n p off ls).length ≤ ls.length
  | _, [] => Nat.le_refl _
  | off, l :: ls => by
    have ih := trim_few n p (off + l.length) ls
    simp only [trimLs, List.length_append, List.length_cons]
    have : (oneL (trimL n p off l)).length ≤ 1 := by unfold oneL; split <;> simp
    omega
/-- the numbers of what is trimmed -/
theorem trim_numbers {n : Nat} {p : Nat → Bool} : ∀ {ls : List (List (List Int))} {off : Nat} {f : List Int}, f.length = n + off → Lays ls (n + off) →
    (∀ j r, ls.flatten[j]? = some r → p (off + j) = true → ∀ i, p i = false → wt r (n + i) = 0) → numbers (trimLs n p off ls) (lessR n p f) = lessR n p (numbers ls f)
  | [], _, _, _, _, _ => rfl
  | l :: ls, off, f, hf, L, hz => by
    have hl : (selP p off l).map (fun r => max 0 (told (lessR n p r) (lessR n p f))) = (selP p off l).map fun r => max 0 (told r f) := List.map_congr_left fun r hr => by
      obtain ⟨j, h1, h2⟩ := selP_mem p hr
      have hj : j < l.length := (List.getElem?_eq_some_iff.mp h1).1
      rw [told_less (by rw [(L.2.1 r (List.mem_of_getElem? h1)).1, hf]) (hz j r (by rw [List.flatten_cons, List.getElem?_append_left hj]; exact h1) h2)]
    have step : ∀ g, numbers (oneL (trimL n p off l)) g = g ++ (trimL n p off l).map fun r => max 0 (told r g) := fun g => by
      unfold oneL
      split
      · rename_i h; rw [h]; simp [numbers]
      · rfl
    have e1 : numbers (oneL (trimL n p off l)) (lessR n p f) = lessR n p (f ++ l.map fun u => max 0 (told u f)) := by
      rw [step, lessR_append p (by omega), hf, Nat.add_sub_cancel_left, selP_map]
      unfold trimL
      rw [List.map_map]
      congr 1
    have L2 : Lays ls (n + (off + l.length)) := by rw [← Nat.add_assoc]; exact L.2.2
    have ih := trim_numbers (ls := ls) (off := off + l.length) (f := f ++ l.map fun u => max 0 (told u f)) (by simp [hf]; omega) L2 (fun j r h1 h2 i hi => by
      refine hz (l.length + j) r ?_ (by rwa [← Nat.add_assoc]) i hi
      rw [List.flatten_cons, List.getElem?_append_right (by omega)]
      simpa using h1)
    show numbers (oneL (trimL n p off l) ++ trimLs n p (off + l.length) ls) _ = _
    rw [numbers_append, e1, ih]
    rfl
theorem trim_lays {n : Nat} (p : Nat → Bool) : ∀ {ls : List (List (List Int))} {off : Nat}, Lays ls (n + off) → Lays (trimLs n p off ls) (n + cnt p 0 off)
  | [], _, _ => trivial
  | l :: ls, off, L => by
    have L2 : Lays ls (n + (off + l.length)) := by rw [← Nat.add_assoc]; exact L.2.2
    have ih := trim_lays p (ls := ls) (off := off + l.length) L2
    have hc : cnt p 0 (off + l.length) = cnt p 0 off + cnt p off l.length := by have := cnt_add p 0 off l.length; simpa using this
    rw [hc] at ih
    have hlen : (trimL n p off l).length = cnt p off l.length := by unfold trimL; rw [List.length_map, selP_len]
    simp only [trimLs]
    unfold oneL
    split
    · rename_i h
      rw [h] at hlen
      simp only [List.length_nil] at hlen
      rw [← hlen] at ih
      simpa using ih
    · rename_i h
      refine ⟨⟨?_, ?_⟩, fun r hr => ?_, ?_⟩
      · have : (trimL n p off l).length ≠ 0 := fun z => h (List.length_eq_zero_iff.mp z)
        omega
      · have := cnt_le p off l.length
        have := L.1.2
        omega
      · obtain ⟨u, hu, rfl⟩ := List.mem_map.mp hr
        obtain ⟨j, h1, _⟩ := selP_mem p hu
        obtain ⟨a1, a2⟩ := L.2.1 u (List.mem_of_getElem? h1)
        exact ⟨by rw [lessR_len p (by omega), a1, Nat.add_sub_cancel_left], fun x hx => a2 x (lessR_mem hx)⟩
      · rw [hlen]
        rw [show n + (cnt p 0 off + cnt p off l.length) = n + cnt p 0 off + cnt p off l.length by omega] at ih
        exact ih
theorem trim_net {n : Nat} {ls : List (List (List Int))} {la : List Int} (N : IsNet n ls la) (p : Nat → Bool) : IsNet n (trimLs n p 0 ls) (lessR n p la) := by
  refine ⟨N.lo, N.hi, Nat.le_trans (trim_few n p 0 ls) N.few, by have := trim_lays p (ls := ls) (off := 0) (by simpa using N.lays); simpa [cnt] using this, ?_, ?_, fun x hx => N.short x (lessR_mem hx)⟩
  · rw [trim_total]; have := cnt_le p 0 (total ls); have := N.tot; omega
  · rw [trim_total, lessR_len p (by rw [N.len]; omega), N.len, Nat.add_sub_cancel_left]
theorem trim_value {n : Nat} {ls : List (List (List Int))} {la x : List Int} (N : IsNet n ls la) {p : Nat → Bool} (hx : x.length = n)
    (h1 : ∀ j r, ls.flatten[j]? = some r → p j = true → ∀ i, p i = false → wt r (n + i) = 0) (h0 : ∀ i, p i = false → wt la (n + i) = 0) : told (lessR n p la) (numbers (trimLs n p 0 ls) x) = told la (numbers ls x) := by
  have e : lessR n p x = x := by
    unfold lessR
    rw [List.drop_of_length_le (by omega), List.take_of_length_le (by omega)]; simp [selP]
  have := trim_numbers (n := n) (p := p) (ls := ls) (off := 0) (f := x) (by omega) (by simpa using N.lays) (fun j r h2 h3 => h1 j r h2 (by simpa using h3))
  rw [e] at this
  rw [this, told_less (by rw [numbers_len, N.len, hx]) h0]
theorem trim_all {n : Nat} {p : Nat → Bool} : ∀ {ls : List (List (List Int))} {off m : Nat}, Lays ls (n + off) → (∀ j, j < off + total ls → p j = true) → trimLs n p off ls = ls
  | [], _, _, _, _ => rfl
  | l :: ls, off, m, L, h => by
    have L2 : Lays ls (n + (off + l.length)) := by rw [← Nat.add_assoc]; exact L.2.2
    have ht : total (l :: ls) = l.length + total ls := by simp [total]
    have ih := trim_all (ls := ls) (off := off + l.length) (m := m) L2 (fun j hj => h j (by omega))
    have e : trimL n p off l = l := by
      unfold trimL
      rw [selP_true p off l (fun j hj => h _ (by omega))]
      conv => rhs; rw [← List.map_id l]
      refine List.map_congr_left fun r hr => ?_
      rw [lessR_all (fun j hj => h j (by rw [(L.2.1 r hr).1] at hj; omega))]
      rfl
    simp only [trimLs, e, ih]
    unfold oneL
    rw [if_neg (fun z => by have := L.1.1; rw [z] at this; simp at this)]
    rfl
/-! which units matter -/
def need (n : Nat) (us : List (List Int)) (la : List Int) (S : List Nat) (a : Nat) : Bool := decide (wt la (n + a) ≠ 0) || S.any fun b => decide (wt (us.getD b []) (n + a) ≠ 0)
/-- from behind: k units looked at -/
def stay (n : Nat) (us : List (List Int)) (la : List Int) : Nat → List Nat
  | 0 => []
  | k + 1 => if need n us la (stay n us la k) (us.length - 1 - k) = true then stay n us la k ++ [us.length - 1 - k] else stay n us la k
def mat (n : Nat) (us : List (List Int)) (la : List Int) (a : Nat) : Bool := decide (a ∈ stay n us la us.length)
section
variable {n : Nat} {us : List (List Int)} {la : List Int}
theorem stay_lt : ∀ {k a : Nat}, k ≤ us.length → a ∈ stay n us la k → us.length - k ≤ a ∧ a < us.length
  | 0, a, _, h => by simp [stay] at h
  | k + 1, a, hk, h => by
    have go : a ∈ stay n us la k → us.length - (k + 1) ≤ a ∧ a < us.length := fun h => by
      have := stay_lt (by omega) h; omega
    simp only [stay] at h
    split at h
    · rcases List.mem_append.mp h with h | h
      · exact go h
      · rw [List.mem_singleton] at h; omega
    · exact go h
theorem stay_mono : ∀ {k d a : Nat}, a ∈ stay n us la k → a ∈ stay n us la (k + d)
  | k, 0, a, h => h
  | k, d + 1, a, h => by
    have ih := stay_mono (d := d) h
    show a ∈ stay n us la (k + d + 1)
    simp only [stay]
    split
    · exact List.mem_append_left _ ih
    · exact ih
theorem stay_back : ∀ {k d a : Nat}, k + d ≤ us.length → us.length - k ≤ a → a ∈ stay n us la (k + d) → a ∈ stay n us la k
  | k, 0, a, _, _, h => h
  | k, d + 1, a, hd, ha, h => by
    refine stay_back (d := d) (by omega) ha ?_
    have h : a ∈ stay n us la (k + d + 1) := h
    simp only [stay] at h
    split at h
    · rcases List.mem_append.mp h with h | h
      · exact h
      · rw [List.mem_singleton] at h; omega
    · exact h
theorem stay_at {a : Nat} (h : a < us.length) : a ∈ stay n us la us.length ↔ need n us la (stay n us la (us.length - 1 - a)) a = true := by
  have e : us.length = (us.length - 1 - a) + 1 + a := by omega
  have ea : us.length - 1 - (us.length - 1 - a) = a := by omega
  have h1 : a ∈ stay n us la us.length ↔ a ∈ stay n us la (us.length - 1 - a + 1) := by
    constructor
    · intro q
      refine stay_back (d := a) (by omega) (by omega) ?_
      rw [← e]; exact q
    · intro q
      have := stay_mono (d := a) q
      rwa [← e] at this
  rw [h1]
  simp only [stay, ea]
  split
  · rename_i q
    simp [q]
  · rename_i q
    have : ¬ a ∈ stay n us la (us.length - 1 - a) := fun z => by have := stay_lt (by omega) z; omega
    simp [q, this]
theorem mat_iff {a : Nat} (h : a < us.length) : mat n us la a = true ↔ wt la (n + a) ≠ 0 ∨ ∃ b, a < b ∧ b < us.length ∧ mat n us la b = true ∧ wt (us.getD b []) (n + a) ≠ 0 := by
  unfold mat
  rw [decide_eq_true_eq, stay_at h]
  simp only [need, Bool.or_eq_true, decide_eq_true_eq, List.any_eq_true]
  have e : us.length = (us.length - 1 - a) + (a + 1) := by omega
  constructor
  · rintro (q | ⟨b, h1, h2⟩)
    · exact .inl q
    · have hb := stay_lt (by omega) h1
      have := stay_mono (d := a + 1) h1
      rw [← e] at this
      exact .inr ⟨b, by omega, hb.2, this, h2⟩
  · rintro (q | ⟨b, h1, h2, h3, h4⟩)
    · exact .inl q
    · exact .inr ⟨b, stay_back (d := a + 1) (by omega) (by omega) (by rw [← e]; exact h3), h4⟩
theorem mat_lt {a : Nat} (h : mat n us la a = true) : a < us.length := by
  unfold mat at h
  rw [decide_eq_true_eq] at h
  exact (stay_lt (Nat.le_refl _) h).2
end
/-- of rows that see just units ahead of them -/
theorem flat_row : ∀ {ls : List (List (List Int))} {m j : Nat} {r : List Int}, Lays ls m → ls.flatten[j]? = some r → m ≤ r.length ∧ r.length ≤ m + j
  | [], _, _, _, _, h => by simp at h
  | l :: ls, m, j, r, L, h => by
    rw [List.flatten_cons] at h
    by_cases hj : j < l.length
    · rw [List.getElem?_append_left hj] at h
      have := (L.2.1 r (List.mem_of_getElem? h)).1
      omega
    · rw [List.getElem?_append_right (by omega)] at h
      have := flat_row L.2.2 h
      omega
theorem mat_value {n : Nat} {ls : List (List (List Int))} {la x : List Int} (N : IsNet n ls la) (hx : x.length = n) :
    told (lessR n (mat n ls.flatten la) la) (numbers (trimLs n (mat n ls.flatten la) 0 ls) x) = told la (numbers ls x) := by
  have hl : ls.flatten.length = total ls := (total_flat ls).symm
  have hla := N.len
  refine trim_value N hx (fun j r hj hp i hi => ?_) (fun i hi => ?_)
  · by_cases hz : wt r (n + i) = 0
    · exact hz
    · exfalso
      have hr := flat_row N.lays hj
      have hi2 : n + i < r.length := by
        by_cases q : n + i < r.length
        · exact q
        · exact absurd (wt_ge (by omega)) hz
      have hjl : j < ls.flatten.length := (List.getElem?_eq_some_iff.mp hj).1
      have hm := (mat_iff (n := n) (us := ls.flatten) (la := la) (a := i) (by omega)).mpr (.inr ⟨j, by omega, hjl, hp, by rw [List.getD_eq_getElem?_getD, hj]; exact hz⟩)
      rw [hm] at hi
      cases hi
  · by_cases hz : wt la (n + i) = 0
    · exact hz
    · exfalso
      have hi2 : n + i < la.length := by
        by_cases q : n + i < la.length
        · exact q
        · exact absurd (wt_ge (by omega)) hz
      have hm := (mat_iff (n := n) (us := ls.flatten) (la := la) (a := i) (by omega)).mpr (.inl hz)
      rw [hm] at hi
      cases hi
theorem mat_again {n : Nat} {ls : List (List (List Int))} {la : List Int} (N : IsNet n ls la) :
    ∀ a, a < total (trimLs n (mat n ls.flatten la) 0 ls) → mat n (trimLs n (mat n ls.flatten la) 0 ls).flatten (lessR n (mat n ls.flatten la) la) a = true := by
  generalize hp : mat n ls.flatten la = p
  have hl : ls.flatten.length = total ls := (total_flat ls).symm
  have hla := N.len
  have hfl := trim_flat n p 0 ls
  generalize hus : (trimLs n p 0 ls).flatten = us' at hfl
  have hul : us'.length = cnt p 0 (total ls) := by rw [← hus, ← total_flat, trim_total]
  have htl : total (trimLs n p 0 ls) = us'.length := by rw [total_flat, hus]
  rw [htl]
  have main : ∀ d a, a < us'.length → us'.length - a ≤ d → mat n us' (lessR n p la) a = true := by
    intro d
    induction d with
    | zero => intro a h1 h2; omega
    | succ d ih =>
      intro a ha hd
      have ha2 : a < (selP p 0 ls.flatten).length := by rw [selP_len, hl, ← hul]; exact ha
      obtain ⟨j, hj, hpj, rfl⟩ := selP_idx p ha2
      simp only [Nat.zero_add] at hpj
      rw [mat_iff ha]
      have hm : mat n ls.flatten la j = true := by rw [hp]; exact hpj
      rcases (mat_iff hj).mp hm with q | ⟨b, h1, h2, h3, h4⟩
      · left
        rw [wt_less (by omega) hpj]; exact q
      · right
        have hpb : p b = true := by rw [← hp]; exact h3
        have hlt := cnt_lt p (i := 0) h1 (by simpa using hpj)
        have hsel := selP_at p (i := 0) (xs := ls.flatten) h2 (by simpa using hpb)
        have hb' : us'[cnt p 0 b]? = some (lessR n p (ls.flatten.getD b [])) := by
          rw [hfl, List.getElem?_map, hsel, List.getD_eq_getElem?_getD, List.getElem?_eq_getElem h2]; rfl
        have hbl : cnt p 0 b < us'.length := (List.getElem?_eq_some_iff.mp hb').1
        refine ⟨cnt p 0 b, hlt, hbl, ih _ hbl (by omega), ?_⟩
        rw [List.getD_eq_getElem?_getD, hb']
        show wt (lessR n p (ls.flatten.getD b [])) _ ≠ 0
        have hlen : n + j < (ls.flatten.getD b []).length := by
          by_cases q : n + j < (ls.flatten.getD b []).length
          · exact q
          · exact absurd (wt_ge (by omega)) h4
        rw [wt_less hlen hpj]
        exact h4
  intro a ha
  exact main us'.length a ha (by omega)
/-- the trimmed network -/
def tLs (n : Nat) (ls : List (List (List Int))) (la : List Int) : List (List (List Int)) := trimLs n (mat n ls.flatten la) 0 ls
def tLa (n : Nat) (ls : List (List (List Int))) (la : List Int) : List Int := lessR n (mat n ls.flatten la) la
theorem t_net {n : Nat} {ls : List (List (List Int))} {la : List Int} (N : IsNet n ls la) : IsNet n (tLs n ls la) (tLa n ls la) := trim_net N _
theorem t_value {n : Nat} {ls : List (List (List Int))} {la x : List Int} (N : IsNet n ls la) (hx : x.length = n) : told (tLa n ls la) (numbers (tLs n ls la) x) = told la (numbers ls x) := mat_value N hx
theorem t_again {n : Nat} {ls : List (List (List Int))} {la : List Int} (N : IsNet n ls la) : tLs n (tLs n ls la) (tLa n ls la) = tLs n ls la ∧ tLa n (tLs n ls la) (tLa n ls la) = tLa n ls la := by
  have M := t_net N
  have h := mat_again N
  refine ⟨trim_all (off := 0) (m := 0) (by simpa using M.lays) (fun j hj => h j (by rw [Nat.zero_add] at hj; exact hj)), lessR_all fun j hj => h j ?_⟩
  have := M.len
  have hj : j < (tLa n ls la).length - n := hj
  show j < total (tLs n ls la)
  omega
end K21


set_option Elab.async false
set_option linter.all false
set_option maxRecDepth 100000
set_option maxHeartbeats 4000000
namespace K21
open PySem PySem.Spec PyProof.Rows L2 SlX StX DL
def keptP (U : Nat) (p : Nat → Bool) : List Nat := (List.range U).filter p
abbrev natsD (as : List Nat) : List D := as.map fun a : Nat => D.int (a : Nat)
def d_told_weight : DSp := fun ds μ k => ∃ r i, ds = [rowD r, .int (i : Nat)] ∧ k (.int (wt r i)) μ
def d_less_row : DSp := fun ds μ k => ∃ r n U p, ds = [rowD r, .int (n : Nat), .lst (natsD (keptP U p))] ∧ n ≤ r.length ∧ r.length ≤ n + U ∧ n ≤ 1000 ∧ U ≤ 1000 ∧ k (rowD (lessR n p r)) μ
def d_mattering (C : Addr) : DSp := fun ds μ k => ∃ n ls la, ds = [netD C n ls la] ∧ IsNet n ls la ∧ total ls < 64 ∧ k (.lst (natsD (keptP (total ls) (mat n ls.flatten la)))) μ
def d_trimmed_in (C : Addr) : DSp := fun ds μ k => ∃ n ls la, ds = [netD C n ls la] ∧ IsNet n ls la ∧ total ls < 64 ∧ k (netD C n (tLs n ls la) (tLa n ls la)) μ
def d_trimmed (C : Addr) : DSp := d_trimmed_in C
section
variable {P : Program} {w : World} {K : PySem.W.Frag} {mg : Str → Option Value} {base : Heap} {C : Addr}
abbrev s_told_weight : Stmt := topS 23
abbrev N_told_weight : List Str := ["row", "place"]
theorem sc_told_weight : FnScope N_told_weight ["row", "place"] (defScope s_told_weight) := ⟨rfl, rfl, rfl, by decide +kernel, rfl, by decide +kernel, by decide +kernel⟩
def r_told_weight : RS :=
  (rRet (rIf (rB (rOp (oB (fun i j => decide (i < j))) (rVar 1) (rCB oLen (rCons (rVar 0) rNil)))) (rOp oIx (rVar 0) (rVar 1)) (rC (.int 0))))
theorem b_told_weight (T : TxC K mg C) : Body P w K mg base 14 "told_weight" s_told_weight N_told_weight (r_told_weight) := by
  refine fun f => ⟨_, fun cdv A outer s H E hr => ⟨(pss_one (ps_ret (pe_ifExp (pt_cmpR op_lt (pv 1) (kb_call (kc_len K) T.b_len (pa_cons (pv 0) pa_nil)) (nomark _)) (pe_ix (kx_seq K) (pv 0) (pv 1) (fun _ _ => rfl)) pe_int))),
    (okS_ret (okE_if (okT_test (okE_op okB (okE_var 1) (okE_CB okLen (okA_cons (okE_var 0) okA_nil)))) (okE_op okIx (okE_var 0) (okE_var 1)) (okE_C fun _ => .int _)))⟩⟩

abbrev s_less_row : Stmt := topS 24
abbrev N_less_row : List Str := ["row", "inputs", "kept", "at"]
theorem sc_less_row : FnScope N_less_row ["row", "inputs", "kept"] (defScope s_less_row) := ⟨rfl, rfl, rfl, by decide +kernel, rfl, by decide +kernel, by decide +kernel⟩
def r_less_row : RS :=
  (rRet (rTup (rStar (rSlc oSlT (rVar 0) rNo (rPart (rVar 1))) (rStar (rLc (rIL (rVar 2)) (rgName 3) (rB (rOp (oB (fun i j => decide (i < j))) (rOp (oI fun i j => i + j) (rVar 1) (rVar 3)) (rCB oLen (rCons (rVar 0) rNil)))) (rOp oIx (rVar 0) (rOp (oI fun i j => i + j) (rVar 1) (rVar 3))) [3]) rNil))))
theorem b_less_row (T : TxC K mg C) : Body P w K mg base 15 "less_row" s_less_row N_less_row (r_less_row) := by
  refine fun f => ⟨_, fun cdv A outer s H E hr => ⟨(pss_one (ps_ret (pe_tup (ka_star K (pe_slice (ks_tupA K) (pv 0) po_none (po_some (pv 1))) (ka_star K (pe_lc (own := [("at", 3)]) rfl sc_less_row.nd (ki_list K (pv 2)) (blkOk_by (own := [("at", 3)]) (N := N_less_row) (sc := defScope s_less_row) (by decide +kernel)) (fun _ _ _ _ _ => (pg_name (i := 3) sc_less_row.nd rfl (by first | exact Or.inl rfl | exact Or.inr rfl))) (fun _ _ _ _ _ => (pts_one (pt_cmpR op_lt (pe_op op_add (pv 1) (pv 3)) (kb_call (kc_len K) T.b_len (pa_cons (pv 0) pa_nil)) (nomark _)))) (fun _ _ _ _ _ => (pe_ix (kx_seq K) (pv 0) (pe_op op_add (pv 1) (pv 3)) (fun _ _ => rfl)))) pa_nil))))),
    (okS_ret (okE_tup (okA_star (okE_slc okSlT (okE_var 0) okO_no (okO_part (okE_var 1))) (okA_star (okE_lc (okI_list (okE_var 2)) (okG_name 3) (okT_test (okE_op okB (okE_op okI (okE_var 1) (okE_var 3)) (okE_CB okLen (okA_cons (okE_var 0) okA_nil)))) (okE_op okIx (okE_var 0) (okE_op okI (okE_var 1) (okE_var 3))) (by decide)) okA_nil))))⟩⟩

abbrev s_mattering : Stmt := topS 22
abbrev N_mattering : List Str := ["network", "found", "at", "units", "inputs", "one"]
theorem sc_mattering : FnScope N_mattering ["network"] (defScope s_mattering) := ⟨rfl, rfl, rfl, by decide +kernel, rfl, by decide +kernel, by decide +kernel⟩
def r_mattering (C : Addr) : RS :=
  (rSeq (rAsg (rTup (rCons (rGet C (d_units C) (rVar 0)) (rCons (rFld C 0 (rVar 0)) rNil))) (rgTup 2 (rgCons (rgName 3) (rgCons (rgName 4) rgNil))))
  (rSeq (rAsg (rDcO (rIR1 (rCons (rCB oLen (rCons (rVar 3) rNil)) rNil)) (rgName 2) (rB (rOp oNe (rOp oIx (rFld C 1 (rVar 0)) (rOp (oI fun i j => i + j) (rVar 4) (rVar 2))) (rC (.int 0)))) (rVar 2) (rC (.bl true)) [2]) (rgName 1))
  (rSeq (rFor (rIR3 (rCons (rOp (oI fun i j => i - j) (rCB oLen (rCons (rVar 3) rNil)) (rC (.int 1))) (rCons (rUn oNeg (rC (.int 1))) (rCons (rUn oNeg (rC (.int 1))) rNil)))) (rgName 2) (rIfS (rB (rDIn (rVar 2) (rVar 1))) (rDrop (rUpd (rVar 1) (rDc (rIR1 (rCons (rVar 2) rNil)) (rgName 5) (rB (rOp oNe (rCall d_told_weight (rCons (rOp oIx (rVar 3) (rVar 2)) (rCons (rOp (oI fun i j => i + j) (rVar 4) (rVar 5)) rNil))) (rC (.int 0)))) (rVar 5) (rC (.bl true)) [5]))) rNext))
  (rRet (rCB oSortK (rCons (rVar 1) rNil))))))
theorem b_mattering (F_told_weight : FnD P w K mg base "told_weight" 15 d_told_weight) (Q_units : PropD P w K mg base C "units" 1 (d_units C)) (T : TxC K mg C) : Body P w K mg base 16 "mattering" s_mattering N_mattering (r_mattering C) := by
  refine fun f => ⟨_, fun cdv A outer s H E hr => ⟨(pss_cons (ps_asg (pe_tup (pa_cons (ke_prop K T.cmp.cls Q_units hr (pv 0)) (pa_cons (ke_sl K (pv 0)) pa_nil))) (kg_tup K (pgs_cons (pg_name (i := 3) sc_mattering.nd rfl (Or.inr rfl)) (pgs_cons (pg_name (i := 4) sc_mattering.nd rfl (Or.inr rfl)) pgs_nil))))
      (pss_cons (ps_setDc (i := 1) (own := [("at", 2)]) rfl sc_mattering.nd rfl rfl (swd_true rfl rfl rfl (by decide +kernel)) (kr_range1 T.b_range (pa_cons (kb_call (kc_len K) T.b_len (pa_cons (pv 3) pa_nil)) pa_nil)) (blkOk_by (own := [("at", 2)]) (N := N_mattering) (sc := defScope s_mattering) (by decide +kernel)) (fun _ _ _ _ _ => (pg_name (i := 2) sc_mattering.nd rfl (by first | exact Or.inl rfl | exact Or.inr rfl))) (fun _ _ _ _ _ => (pts_one (pt_cmpR (ko_neD K hr.units) (pe_ix (kx_seq K) (ke_sl K (pv 0)) (pe_op op_add (pv 4) (pv 2)) (fun _ _ => rfl)) pe_int (nomark _)))) (fun _ _ _ _ _ => (pv 2)) (fun _ _ _ _ _ => pe_bl))
      (pss_cons (ps_for PassesOwn.never rfl (kr_range3 T.b_range (pa_cons (pe_op op_sub (kb_call (kc_len K) T.b_len (pa_cons (pv 3) pa_nil)) pe_int) (pa_cons (pe_un un_neg pe_int) (pa_cons (pe_un un_neg pe_int) pa_nil)))) (pg_name (i := 2) sc_mattering.nd rfl (Or.inr rfl)) (pss_one (ps_if (pt_cmp (pc_din (units1 hr.units) (pv 2) (pv 1))) (pss_one (ps_expr (ke_updK K (pv 1) (pa_cons (pe_dc (own := [("one", 5)]) rfl sc_mattering.nd (kr_range1 T.b_range (pa_cons (pv 2) pa_nil)) (blkOk_by (own := [("one", 5)]) (N := N_mattering) (sc := defScope s_mattering) (by decide +kernel)) (fun _ _ _ _ _ => (pg_name (i := 5) sc_mattering.nd rfl (by first | exact Or.inl rfl | exact Or.inr rfl))) (fun _ _ _ _ _ => (pts_one (pt_cmpR (ko_neD K hr.units) (ke_call K F_told_weight hr (pa_cons (pe_ix (kx_seq K) (pv 3) (pv 2) (fun _ _ => rfl)) (pa_cons (pe_op op_add (pv 4) (pv 5)) pa_nil))) pe_int (nomark _)))) (fun _ _ _ _ _ => (pv 5)) (fun _ _ _ _ _ => pe_bl)) pa_nil)))) pss_nil)))
      (pss_one (ps_ret (kb_call (kc_sortedK K) T.b_sorted (pa_cons (pv 1) pa_nil))))))),
    (okS_seq (okS_asg (okE_tup (okA_cons (okE_prop (okE_var 0)) (okA_cons (fld T.cmp.cls T.sx_own_inputs (okE_var 0)) okA_nil))) (okG_tup (okGs_cons (okG_name 3) (okGs_cons (okG_name 4) okGs_nil))))
      (okS_seq (okS_asg (okE_dcO (okI_range1 (okA_cons (okE_CB okLen (okA_cons (okE_var 3) okA_nil)) okA_nil)) (okG_name 2) (okT_test (okE_op okNe (okE_op okIx (fld T.cmp.cls T.sx_own_last (okE_var 0)) (okE_op okI (okE_var 4) (okE_var 2))) (okE_C fun _ => .int _))) (okE_var 2) (okE_C fun _ => .bl _) (by decide)) (okG_name 1))
      (okS_seq (okS_for (okI_range3 (okA_cons (okE_op okI (okE_CB okLen (okA_cons (okE_var 3) okA_nil)) (okE_C fun _ => .int _)) (okA_cons (okE_un okNeg (okE_C fun _ => .int _)) (okA_cons (okE_un okNeg (okE_C fun _ => .int _)) okA_nil)))) (okG_name 2) (okS_if (okT_test (okE_din (okE_var 2) (okE_var 1))) (okS_drop (okE_upd (okE_var 1) (okE_dc (okI_range1 (okA_cons (okE_var 2) okA_nil)) (okG_name 5) (okT_test (okE_op okNe (okE_call (okA_cons (okE_op okIx (okE_var 3) (okE_var 2)) (okA_cons (okE_op okI (okE_var 4) (okE_var 5)) okA_nil))) (okE_C fun _ => .int _))) (okE_var 5) (okE_C fun _ => .bl _) (by decide)))) okS_next))
      (okS_ret (okE_CB okSortK (okA_cons (okE_var 1) okA_nil))))))⟩⟩

abbrev s_trimmed_in : Stmt := topS 25
abbrev N_trimmed_in : List Str := ["network", "layer", "kept", "layers", "first", "places", "at"]
theorem sc_trimmed_in : FnScope N_trimmed_in ["network"] (defScope s_trimmed_in) := ⟨rfl, rfl, rfl, by decide +kernel, rfl, by decide +kernel, by decide +kernel⟩
def r_trimmed_in (C : Addr) : RS :=
  (rSeq (rAsg (rTup (rCons (rCall (d_mattering C) (rCons (rVar 0) rNil)) (rCons (rLstO rNil) (rCons (rC (.int 0)) rNil)))) (rgTup 3 (rgCons (rgName 2) (rgCons (rgName 3) (rgCons (rgName 4) rgNil)))))
  (rSeq (rFor (rIT (rFld C 2 (rVar 0))) (rgName 1) (rSeq (rAsg (rLc (rIL (rVar 2)) (rgName 6) (rB (rChain (oB (fun i j => decide (i ≤ j))) (oB (fun i j => decide (i < j))) (rVar 4) (rVar 6) (rOp (oI fun i j => i + j) (rVar 4) (rCB oLen (rCons (rVar 1) rNil))))) (rVar 6) [6]) (rgName 5))
  (rSeq (rAug 4 (rCB oLen (rCons (rVar 1) rNil)) (fun i j => i + j))
  (rIfS (rB (rOp oNe (rVar 5) (rLst rNil))) (rDrop (rApp (rVar 3) (rCB oTuple (rCons (rLc (rIL (rVar 5)) (rgName 6) rYes (rCall d_less_row (rCons (rOp oIx (rGet C (d_units C) (rVar 0)) (rVar 6)) (rCons (rFld C 0 (rVar 0)) (rCons (rVar 2) rNil)))) [6]) rNil)))) rNext))))
  (rFrz 3 (rRet (rMk C inm_Network (rCons (rFld C 0 (rVar 0)) (rCons (rCB oTuple (rCons (rVar 3) rNil)) (rCons (rCall d_less_row (rCons (rFld C 1 (rVar 0)) (rCons (rFld C 0 (rVar 0)) (rCons (rVar 2) rNil)))) rNil))))))))
theorem b_trimmed_in (F_mattering : FnD P w K mg base "mattering" 17 (d_mattering C)) (F_less_row : FnD P w K mg base "less_row" 16 d_less_row) (Q_units : PropD P w K mg base C "units" 1 (d_units C)) (M_Network : MakD P w K mg base 7 "Network" C (spMk K C inm_Network)) (T : TxC K mg C) : Body P w K mg base 17 "trimmed_in" s_trimmed_in N_trimmed_in (r_trimmed_in C) := by
  refine fun f => ⟨_, fun cdv A outer s H E hr => ⟨(pss_cons (ps_asg (pe_tup (pa_cons (ke_call K F_mattering hr (pa_cons (pv 0) pa_nil)) (pa_cons (pe_lst pa_nil) (pa_cons pe_int pa_nil)))) (kg_tup K (pgs_cons (pg_name (i := 2) sc_trimmed_in.nd rfl (Or.inr rfl)) (pgs_cons (pg_name (i := 3) sc_trimmed_in.nd rfl (Or.inl rfl)) (pgs_cons (pg_name (i := 4) sc_trimmed_in.nd rfl (Or.inr rfl)) pgs_nil)))))
      (pss_cons (ps_for PassesOwn.never rfl (ki_tup K (ke_sl K (pv 0))) (pg_name (i := 1) sc_trimmed_in.nd rfl (Or.inr rfl)) (pss_cons (ps_setLc (i := 5) (own := [("at", 6)]) rfl sc_trimmed_in.nd rfl rfl (sw_true rfl rfl rfl (by decide +kernel)) (ki_list K (pv 2)) (blkOk_by (own := [("at", 6)]) (N := N_trimmed_in) (sc := defScope s_trimmed_in) (by decide +kernel)) (fun _ _ _ _ _ => (pg_name (i := 6) sc_trimmed_in.nd rfl (by first | exact Or.inl rfl | exact Or.inr rfl))) (fun _ _ _ _ _ => (pts_one (pt_chain op_le op_lt (pv 4) (pv 6) (pe_op op_add (pv 4) (kb_call (kc_len K) T.b_len (pa_cons (pv 1) pa_nil)))))) (fun _ _ _ _ _ => (pv 6)))
      (pss_cons (ps_aug (i := 4) sc_trimmed_in.nd rfl (Or.inr rfl) (kb_call (kc_len K) T.b_len (pa_cons (pv 1) pa_nil)) ip_add)
      (pss_one (ps_if (pt_cmpR (ko_neD K hr.units) (pv 5) (pe_lst pa_nil) (nomark _)) (pss_one (ps_expr (ke_app K (pv 3) (pa_cons (kt_call (kc_tuple K) T.b_tuple (pa_cons (pe_lc (own := [("at", 6)]) rfl sc_trimmed_in.nd (ki_list K (pv 5)) (blkOk_by (own := [("at", 6)]) (N := N_trimmed_in) (sc := defScope s_trimmed_in) (by decide +kernel)) (fun _ _ _ _ _ => (pg_name (i := 6) sc_trimmed_in.nd rfl (by first | exact Or.inl rfl | exact Or.inr rfl))) (fun _ _ _ _ _ => pts_nil) (fun _ _ _ _ _ => (ke_call K F_less_row hr (pa_cons (pe_ix (kx_seq K) (ke_prop K T.cmp.cls Q_units hr (pv 0)) (pv 6) (fun _ _ => rfl)) (pa_cons (ke_sl K (pv 0)) (pa_cons (pv 2) pa_nil)))))) pa_nil)) pa_nil)))) pss_nil)))))
      (pss_one (ps_ret (ke_mk M_Network hr (pa_cons (ke_sl K (pv 0)) (pa_cons (kt_call (kc_tuple K) T.b_tuple (pa_cons (pv 3) pa_nil)) (pa_cons (ke_call K F_less_row hr (pa_cons (ke_sl K (pv 0)) (pa_cons (ke_sl K (pv 0)) (pa_cons (pv 2) pa_nil)))) pa_nil)))))))),
    (okS_seq (okS_asg (okE_tup (okA_cons (okE_call (okA_cons (okE_var 0) okA_nil)) (okA_cons (okE_lstO okA_nil) (okA_cons (okE_C fun _ => .int _) okA_nil)))) (okG_tup (okGs_cons (okG_name 2) (okGs_cons (okG_name 3) (okGs_cons (okG_name 4) okGs_nil)))))
      (okS_seq (okS_for (okI_tup (fld T.cmp.cls T.sx_own_layers (okE_var 0))) (okG_name 1) (okS_seq (okS_asg (okE_lc (okI_list (okE_var 2)) (okG_name 6) (okT_test (okE_chain okB okB (okE_var 4) (okE_var 6) (okE_op okI (okE_var 4) (okE_CB okLen (okA_cons (okE_var 1) okA_nil))))) (okE_var 6) (by decide)) (okG_name 5))
      (okS_seq (okS_aug (okE_CB okLen (okA_cons (okE_var 1) okA_nil)))
      (okS_if (okT_test (okE_op okNe (okE_var 5) (okE_lst okA_nil))) (okS_drop (okE_app (okE_var 3) (okE_CB okTuple (okA_cons (okE_lc (okI_list (okE_var 5)) (okG_name 6) okT_yes (okE_call (okA_cons (okE_op okIx (okE_prop (okE_var 0)) (okE_var 6)) (okA_cons (fld T.cmp.cls T.sx_own_inputs (okE_var 0)) (okA_cons (okE_var 2) okA_nil)))) (by decide)) okA_nil)))) okS_next))))
      (okS_frz (i := 3) (okS_ret (okE_mk (okA_cons (fld T.cmp.cls T.sx_own_inputs (okE_var 0)) (okA_cons (okE_CB okTuple (okA_cons (okE_var 3) okA_nil)) (okA_cons (okE_call (okA_cons (fld T.cmp.cls T.sx_own_last (okE_var 0)) (okA_cons (fld T.cmp.cls T.sx_own_inputs (okE_var 0)) (okA_cons (okE_var 2) okA_nil)))) okA_nil))))))))⟩⟩

abbrev s_trimmed : Stmt := topS 30
abbrev N_trimmed : List Str := ["network"]
theorem sc_trimmed : FnScope N_trimmed ["network"] (defScope s_trimmed) := ⟨rfl, rfl, rfl, by decide +kernel, rfl, by decide +kernel, by decide +kernel⟩
def r_trimmed (C : Addr) : RS :=
  (rSeq (rDrop (rCall (d_require_network C) (rCons (rVar 0) rNil)))
  (rRet (rCall (d_trimmed_in C) (rCons (rVar 0) rNil))))
theorem b_trimmed (F_require_network : FnD P w K mg base "require_network" 11 (d_require_network C)) (F_trimmed_in : FnD P w K mg base "trimmed_in" 18 (d_trimmed_in C)) (T : TxC K mg C) : Body P w K mg base 18 "trimmed" s_trimmed N_trimmed (r_trimmed C) := by
  refine fun f => ⟨_, fun cdv A outer s H E hr => ⟨(pss_cons (ps_expr (ke_call K F_require_network hr (pa_cons (pv 0) pa_nil)))
      (pss_one (ps_ret (ke_call K F_trimmed_in hr (pa_cons (pv 0) pa_nil))))),
    (okS_seq (okS_drop (okE_call (okA_cons (okE_var 0) okA_nil)))
      (okS_ret (okE_call (okA_cons (okE_var 0) okA_nil))))⟩⟩


end
end K21


set_option Elab.async false
set_option linter.all false
set_option maxRecDepth 100000
set_option maxHeartbeats 4000000
namespace K21
open PySem PySem.Spec PyProof.Rows L2 SlX StX DL
section
variable {P : Program} {w : World} {K : PySem.W.Frag} {mg : Str → Option Value} {base : Heap} {C : Addr}
theorem cut_take (la : List Int) (n : Nat) : DL.cutD (intsD la) none (some (n : Int)) = intsD (la.take n) := by
  unfold DL.cutD
  have e0 : HT.sIx (intsD la).length 0 none = 0 := rfl
  rw [e0, HT.sIx_nat, List.drop_zero, Nat.sub_zero]
  simp only [intsD, List.length_map, ← List.map_take]
  congr 1
  by_cases h : n ≤ la.length
  · rw [Nat.min_eq_left h]
  · rw [Nat.min_eq_right (by omega), List.take_of_length_le (Nat.le_refl _), List.take_of_length_le (by omega)]
theorem range_get {m i : Nat} {x : Nat} (h : (List.range m)[i]? = some x) : x = i ∧ i < m := by
  have hi : i < m := by
    by_cases hi : i < (List.range m).length
    · simpa using hi
    · rw [List.getElem?_eq_none (by omega)] at h; cases h
  rw [List.getElem?_range hi] at h
  cases h
  exact ⟨rfl, hi⟩
theorem at_wt {r : List Int} {i : Nat} (h : i < r.length) : atI (intsD r) (i : Int) = some (.int (wt r i)) := by
  unfold atI
  rw [List.length_map, ixN_nat h]
  show (intsD r)[i]? = _
  rw [List.getElem?_map, wt_lt h]; rfl
theorem at_wt2 {r : List Int} {n i : Nat} (h : n + i < r.length) : atI (intsD r) ((n : Int) + (i : Nat)) = some (.int (wt r (n + i))) := by
  rw [← at_wt h]; congr 1
theorem ok_told_weight (a : At K mg "told_weight" s_told_weight) (T : TxC K mg C) : FnD P w K mg base "told_weight" 15 d_told_weight := by
  refine fnD_of a (b_told_weight T) sc_told_weight (fun _ _ _ _ _ _ us hl => match us, hl with | [_, _], _ => rfl) ?_ ?_
  · rintro ds μ k ⟨r, i, rfl, _⟩; rfl
  · rintro ds μ k ⟨r, i, rfl, h⟩
    simp [r_told_weight]
    split
    · rename_i hi
      exact ⟨_, at_wt hi, h⟩
    · rename_i hi
      rw [wt_ge (by omega)] at h
      exact h
theorem kept_cut {n U : Nat} {p : Nat → Bool} {m : Nat} (h : m ≤ U) : (keptP U p).filter (fun a => decide (a < m)) = keptP m p := by
  unfold keptP
  obtain ⟨d, rfl⟩ : ∃ d, U = m + d := ⟨U - m, by omega⟩
  rw [List.filter_filter, List.range_add, List.filter_append]
  have e2 : ((List.range d).map (m + ·)).filter (fun a => decide (a < m) && p a) = [] := by
    rw [List.filter_eq_nil_iff]
    intro a ha
    obtain ⟨b, _, rfl⟩ := List.mem_map.mp ha
    have : ¬ (m + b < m) := by omega
    simp [this]
  rw [e2, List.append_nil]
  refine List.filter_congr fun a ha => ?_
  have : a < m := List.mem_range.mp ha
  simp [this]
theorem kept_less {n U : Nat} {p : Nat → Bool} {r : List Int} (h1 : n ≤ r.length) (h2 : r.length ≤ n + U) :
    intsD (r.take n) ++ ((keptP U p).filter fun a => decide (n + a < r.length)).map (fun a => D.int (wt r (n + a))) = intsD (lessR n p r) := by
  have e1 : (fun a => decide (n + a < r.length)) = fun a => decide (a < r.length - n) := by
    funext a; rw [decide_eq_decide]; omega
  rw [e1, kept_cut (n := n) (by omega)]
  unfold lessR
  rw [selP_range p 0 (r.drop n) 0]
  simp only [intsD, List.map_append, List.map_map, List.length_drop, keptP, Nat.zero_add]
  congr 1
  refine List.map_congr_left fun a ha => ?_
  simp only [Function.comp_def, wt]
  rw [List.getD_eq_getElem?_getD, List.getD_eq_getElem?_getD, List.getElem?_drop]
theorem kept_len (U : Nat) (p : Nat → Bool) : (keptP U p).length ≤ U := by
  unfold keptP
  have := List.length_filter_le p (List.range U)
  rwa [List.length_range] at this
theorem ok_less_row (a : At K mg "less_row" s_less_row) (T : TxC K mg C) : FnD P w K mg base "less_row" 16 d_less_row := by
  refine fnD_of a (b_less_row T) sc_less_row (fun _ _ _ _ _ _ us hl => match us, hl with | [_, _, _], _ => rfl) ?_ ?_
  · rintro ds μ k ⟨r, n, U, p, rfl, _⟩; rfl
  · rintro ds μ k ⟨r, n, U, p, rfl, h1, h2, h3, h4, h⟩
    simp [r_less_row]
    rw [cut_take]
    have hk := kept_len U p
    refine lcW_filt (keptP U p) (fun a : Nat => D.int (a : Nat)) (fun a => .int (wt r (n + a))) (fun a => decide (n + a < r.length)) (.l _) (by omega) (fun a ha kt kf hk1 hk0 => ?_) ?_
    · simp
      split
      · rename_i hlt
        exact ⟨_, at_wt2 (by omega), hk1 (by simp; omega)⟩
      · rename_i hlt
        exact hk0 (by simp; omega)
    · have hl : ((keptP U p).filter fun a => decide (n + a < r.length)).length ≤ U := Nat.le_trans (List.length_filter_le _ _) hk
      simp
      refine ⟨by omega, ?_⟩
      have e := kept_less (p := p) h1 h2
      simp only [intsD, List.map_take] at e
      rw [e]
      exact h
theorem src_dn {μ : Mu} (lo : Int) (n : Nat) : Src ⟨n, fun t => some (.int (lo + -(t : Nat))), fun _ => True⟩ μ ((List.range n).map fun i : Nat => .int (lo + -(i : Nat))) := by
  have := Src.c (μ := μ) lo (-1) n
  simpa using this
theorem ok_mattering (a : At K mg "mattering" s_mattering) (F : FnD P w K mg base "told_weight" 15 d_told_weight) (Q : PropD P w K mg base C "units" 1 (d_units C)) (T : TxC K mg C) : FnD P w K mg base "mattering" 17 (d_mattering C) := by
  refine fnD_ofW a (b_mattering F Q T) sc_mattering (fun _ _ _ _ _ _ us hl => match us, hl with | [_], _ => rfl) ?_ ?_
  · rintro ds μ k ⟨n, ls, la, rfl, _⟩; rfl
  · rintro ds μ k ⟨n, ls, la, rfl, N, h64, h⟩
    unfold r_mattering
    have f1 := N.few
    have t1 := N.tot
    have hla := N.len
    have hfl : ls.flatten.length = total ls := (total_flat ls).symm
    refine seq_gen fun NX hNX => ?_
    simp
    refine ⟨n, ls, la, rfl, by omega, by omega, ?_⟩
    generalize hus : ls.flatten = us at hfl h ⊢
    generalize hU : total ls = U at *
    subst hNX
    refine seq_gen fun NX hNX => ?_
    simp [hfl]
    refine ⟨by omega, ?_⟩
    refine dcW_filt (List.range U) (fun i : Nat => .int (0 + (i : Nat))) (fun a => .inl (a : Int)) (fun _ => .bl true) (fun a => decide (wt la (n + a) ≠ 0)) (.r 0 U) (by simp; omega) (fun a ha kt kf hk1 hk0 => ?_) ?_
    · have ha : a < U := List.mem_range.mp ha
      simp
      refine ⟨_, at_wt2 (by omega), ?_⟩
      simp
      split
      · rename_i hz
        exact hk0 (by simp [hz])
      · rename_i hz
        exact hk1 (by simp [hz])
    · intro p hp
      rw [fold_merge]
      subst hNX
      refine seq_gen fun NX hNX => ?_
      simp [rFor, rIR3, hfl]
      refine ⟨U, ?_, ?_⟩
      · have := RgC.neg (i := (U : Int) - 1) (j := -1) (by omega) (by omega) (by omega) (by omega)
        rwa [show ((U : Int) - 1 - -1).toNat = U by omega] at this
      obtain ⟨Inv, hInv⟩ : ∃ Inv : Nat → Sl → Mu → Prop, Inv = (fun t δ μ' => ∃ kvs x2, δ = [some (netD C n ls la), some (.own p), x2, some (layerD us), some (.int (n : Nat)), none] ∧ μ' = muSet μ p (.k kvs) ∧ (kvs.map (·.1)).Nodup ∧ kvs.length ≤ U + U * t ∧
          ∀ x : Key, x ∈ kvs.map (·.1) ↔ ∃ one : Nat, x = .inl (one : Int) ∧ one < U ∧ (wt la (n + one) ≠ 0 ∨ ∃ b ∈ stay n us la t, one < b ∧ wt (us.getD b []) (n + one) ≠ 0)) := ⟨_, rfl⟩
      refine forW_inv (List.range U) (fun t : Nat => .int ((U : Int) - 1 + -(t : Nat))) (src_dn _ _) Inv ?_ (fun _ _ _ _ => trivial) (fun t x δ μ' hx z => ?_) (fun δ μ' z => ?_)
      · rw [hInv]
        refine ⟨_, none, rfl, rfl, mergeG_nodup (by simp), ?_, fun x => ?_⟩
        · refine Nat.le_trans (mergeG_len _ _) ?_
          have := List.length_filter_le (fun a => decide (wt la (n + a) ≠ 0)) (List.range U)
          rw [List.length_range] at this
          simp at this ⊢
          omega
        · rw [mergeG_keys]
          simp [stay]
          exact ⟨fun ⟨a, ⟨h1, h2⟩, e⟩ => ⟨a, e.symm, h1, h2⟩, fun ⟨a, e, h1, h2⟩ => ⟨a, ⟨h1, h2⟩, e.symm⟩⟩
      · rw [hInv] at z
        obtain ⟨kvs, x2, rfl, rfl, hnd, hlen, hkeys⟩ := z
        obtain ⟨rfl, ht⟩ := range_get hx
        obtain ⟨a, ha⟩ : ∃ a : Nat, a = U - 1 - x := ⟨_, rfl⟩
        have eat : (U : Int) - 1 + -(x : Nat) = (a : Int) := by omega
        rw [eat]
        have hau : a < us.length := by omega
        have hin : (getG kvs (.inl (a : Int))).isSome = need n us la (stay n us la x) a := by
          rw [Bool.eq_iff_iff, getG_some, hkeys]
          simp only [need, Bool.or_eq_true, decide_eq_true_eq, List.any_eq_true]
          constructor
          · rintro ⟨one, h1, h2, h3⟩
            have h1 : a = one := by have := Sum.inl.inj h1; omega
            subst h1
            rcases h3 with h3 | ⟨b, hb, _, h3⟩
            · exact .inl h3
            · exact .inr ⟨b, hb, h3⟩
          · rintro (h3 | ⟨b, hb, h3⟩)
            · exact ⟨a, rfl, by omega, .inl h3⟩
            · have := stay_lt (by omega) hb
              exact ⟨a, rfl, by omega, .inr ⟨b, hb, by omega, h3⟩⟩
        have estay : stay n us la (x + 1) = if need n us la (stay n us la x) a = true then stay n us la x ++ [a] else stay n us la x := by
          rw [ha]; simp only [stay, hfl]
        simp [muSet_same, hin]
        split
        · rename_i hneed
          have hneed : need n us la (stay n us la x) a = true := hneed
          refine ⟨by omega, ?_⟩
          refine dcW_filt (List.range a) (fun i : Nat => .int (0 + (i : Nat))) (fun one => .inl (one : Int)) (fun _ => .bl true) (fun one => decide (wt (us.getD a []) (n + one) ≠ 0)) (.r 0 a) (by simp; omega) (fun one hone kt kf hk1 hk0 => ?_) ?_
          · have hone : one < a := List.mem_range.mp hone
            simp
            refine ⟨rowD (us.getD a []), ?_, us.getD a [], n + one, by simp, ?_⟩
            · unfold atI
              rw [List.length_map, ixN_nat hau]
              show (us.map rowD)[a]? = _
              rw [List.getElem?_map, List.getElem?_eq_getElem hau, List.getD_eq_getElem?_getD, List.getElem?_eq_getElem hau]
              rfl
            · simp
              split
              · rename_i hz
                exact hk0 (by simpa using hz)
              · rename_i hz
                exact hk1 (by simpa using hz)
          · rw [fold_merge]
            obtain ⟨more, hmore⟩ : ∃ more : List (Key × D), more = ((List.range a).filter fun one => decide (wt (us.getD a []) (n + one) ≠ 0)).map fun x : Nat => (Sum.inl (x : Int), D.bl true) := ⟨_, rfl⟩
            have hml : more.length ≤ a := by
              rw [hmore, List.length_map]
              have := List.length_filter_le (fun one => decide (wt (us.getD a []) (n + one) ≠ 0)) (List.range a)
              rwa [List.length_range] at this
            have hmk : ∀ x : Key, x ∈ more.map (·.1) ↔ ∃ one : Nat, x = .inl (one : Int) ∧ one < a ∧ wt (us.getD a []) (n + one) ≠ 0 := fun x => by
              rw [hmore]
              simp
              exact ⟨fun ⟨a, ⟨h1, h2⟩, e⟩ => ⟨a, e.symm, h1, h2⟩, fun ⟨a, e, h1, h2⟩ => ⟨a, ⟨h1, h2⟩, e.symm⟩⟩
            rw [← hmore]
            have hM := mergeG_len more ([] : List (Key × D))
            have hMk : ∀ x : Key, x ∈ (mergeG [] more).map (·.1) ↔ ∃ one : Nat, x = .inl (one : Int) ∧ one < a ∧ wt (us.getD a []) (n + one) ≠ 0 := fun x => by
              rw [mergeG_keys, ← hmk]; simp
            generalize mergeG [] more = M at hM hMk ⊢
            simp only [List.length_nil, Nat.zero_add] at hM
            have hxU : U * x ≤ U * U := Nat.mul_le_mul_left _ (by omega)
            have hUU : U * U ≤ 64 * 64 := Nat.mul_le_mul (by omega) (by omega)
            refine ⟨kvs, muSet_same, by omega, ?_⟩
            rw [zip_back, hInv]
            refine ⟨mergeG kvs M, _, rfl, by rw [muSet_set], mergeG_nodup hnd, ?_, fun y => ?_⟩
            · have := mergeG_len M kvs
              rw [Nat.mul_add]; omega
            · rw [mergeG_keys, hkeys, hMk, estay, if_pos hneed]
              constructor
              · rintro (⟨one, h1, h2, h3⟩ | ⟨one, h1, h2, h3⟩)
                · refine ⟨one, h1, h2, h3.imp id fun ⟨b, hb, q⟩ => ⟨b, List.mem_append_left _ hb, q⟩⟩
                · exact ⟨one, h1, by omega, .inr ⟨a, by simp, h2, h3⟩⟩
              · rintro ⟨one, h1, h2, h3⟩
                rcases h3 with h3 | ⟨b, hb, h3, h4⟩
                · exact .inl ⟨one, h1, h2, .inl h3⟩
                · rcases List.mem_append.mp hb with hb | hb
                  · exact .inl ⟨one, h1, h2, .inr ⟨b, hb, h3, h4⟩⟩
                  · rw [List.mem_singleton] at hb
                    subst hb
                    exact .inr ⟨one, h1, h3, h4⟩
        · rename_i hneed
          have hneed : need n us la (stay n us la x) a = false := by simpa using hneed
          rw [hneed] at estay
          simp only [Bool.false_eq_true, if_false] at estay
          rw [hInv]
          simp only [estay]
          exact ⟨kvs, _, rfl, rfl, hnd, by rw [Nat.mul_add]; omega, hkeys⟩
      · rw [hInv] at z
        obtain ⟨kvs, x2, rfl, rfl, hnd, hlen, hkeys⟩ := z
        subst hNX
        simp
        rw [List.length_range] at hkeys
        have hkk : (keptP U (mat n us la)).Pairwise (· < ·) := List.pairwise_lt_range.filter _
        have hkl := kept_len U (mat n us la)
        obtain ⟨ks, e1, e2, e3⟩ := sorted_of hnd hkk fun y => by
          rw [hkeys]
          constructor
          · rintro ⟨one, h1, h2, h3⟩
            refine ⟨one, h1, List.mem_filter.mpr ⟨List.mem_range.mpr h2, (mat_iff (by omega)).mpr (h3.imp id fun ⟨b, hb, q1, q2⟩ => ⟨b, q1, ?_, ?_, q2⟩)⟩⟩
            · exact (stay_lt (by omega) hb).2
            · unfold mat; rw [hfl]; exact decide_eq_true hb
          · rintro ⟨one, h1, h2⟩
            obtain ⟨h2, h3⟩ := List.mem_filter.mp h2
            have h2 : one < U := List.mem_range.mp h2
            refine ⟨one, h1, h2, ((mat_iff (by omega)).mp h3).imp id fun ⟨b, q1, q2, q3, q4⟩ => ⟨b, ?_, q1, q4⟩⟩
            unfold mat at q3
            rw [hfl] at q3
            exact of_decide_eq_true q3
        refine ⟨kvs, ks, by simp [muSet_same], e1, by omega, fun ys h1 h2 => ?_⟩
        rw [e3 ys h1 h2]
        refine ⟨μ, Sub.set hp, ?_⟩
        rw [List.map_map]
        exact h
end
end K21


set_option Elab.async false
set_option linter.all false
set_option maxRecDepth 100000
set_option maxHeartbeats 4000000
namespace K21
open PySem PySem.Spec PyProof.Rows L2 SlX StX DL
/-- the places of one layer -/
def place (p : Nat → Bool) (off m : Nat) : List Nat := ((List.range m).filter fun j => p (off + j)).map (off + ·)
theorem place_eq {U off m : Nat} {p : Nat → Bool} (h : off + m ≤ U) : (keptP U p).filter (fun a => decide (off ≤ a) && decide (a < off + m)) = place p off m := by
  unfold keptP place
  obtain ⟨d, rfl⟩ : ∃ d, U = off + m + d := ⟨U - (off + m), by omega⟩
  rw [List.filter_filter, List.range_add, List.range_add, List.filter_append, List.filter_append]
  have e1 : (List.range off).filter (fun a => (decide (off ≤ a) && decide (a < off + m)) && p a) = [] := by
    rw [List.filter_eq_nil_iff]
    intro a ha
    have : a < off := List.mem_range.mp ha
    have : ¬ off ≤ a := by omega
    simp [this]
  have e2 : ((List.range d).map (off + m + ·)).filter (fun a => (decide (off ≤ a) && decide (a < off + m)) && p a) = [] := by
    rw [List.filter_eq_nil_iff]
    intro a ha
    obtain ⟨b, _, rfl⟩ := List.mem_map.mp ha
    have : ¬ (off + m + b < off + m) := by omega
    simp [this]
  rw [e1, e2, List.append_nil, List.nil_append, List.filter_map]
  congr 1
  refine List.filter_congr fun a ha => ?_
  have : a < m := List.mem_range.mp ha
  simp [this]
theorem place_len (p : Nat → Bool) (off m : Nat) : (place p off m).length ≤ m := by
  unfold place
  have := List.length_filter_le (fun j => p (off + j)) (List.range m)
  rw [List.length_range] at this
  simpa using this
theorem flat_get : ∀ {ls : List (List (List Int))} {i j : Nat} {l : List (List Int)} {u : List Int}, ls[i]? = some l → l[j]? = some u → ls.flatten[total (ls.take i) + j]? = some u
  | [], _, _, _, _, h, _ => by simp at h
  | l0 :: ls, 0, j, l, u, h, hu => by
    simp at h; subst h
    have hj : j < l0.length := by
      by_cases hj : j < l0.length
      · exact hj
      · rw [List.getElem?_eq_none (by omega)] at hu; cases hu
    simp [total]
    rw [List.getElem?_append_left hj]
    exact hu
  | l0 :: ls, i + 1, j, l, u, h, hu => by
    have ih := flat_get (ls := ls) (i := i) (j := j) (by simpa using h) hu
    have e : total ((l0 :: ls).take (i + 1)) + j = l0.length + (total (ls.take i) + j) := by simp [total]; omega
    rw [e, List.flatten_cons, List.getElem?_append_right (by omega)]
    simpa using ih
theorem place_rows {n : Nat} {p : Nat → Bool} {ls : List (List (List Int))} {i : Nat} {l : List (List Int)} (h : ls[i]? = some l) :
    (place p (total (ls.take i)) l.length).map (fun a => lessR n p (ls.flatten.getD a [])) = trimL n p (total (ls.take i)) l := by
  unfold place trimL
  rw [selP_range p [] l (total (ls.take i)), List.map_map, List.map_map]
  refine List.map_congr_left fun j hj => ?_
  have hj : j < l.length := List.mem_range.mp (List.mem_filter.mp hj).1
  have := flat_get h (List.getElem?_eq_getElem hj)
  simp only [Function.comp_def]
  rw [List.getD_eq_getElem?_getD, this, List.getD_eq_getElem?_getD, List.getElem?_eq_getElem hj]
theorem ne_lst {as : List Nat} {μ : Mu} {k : DK} (h : k (.bl (decide (as ≠ []))) μ) : oNe (.lst (natsD as)) (.lst []) μ k := by
  have e : natsD as = (as.map fun a : Nat => (a : Int)).map D.int := by rw [List.map_map]; rfl
  rw [e]
  refine Cm.int.lst.toNe (x := as.map fun a : Nat => (a : Int)) (y := []) (Cm.int.lst.as _ _) (Cm.int.lst.as _ []) (by decide) ?_
  have e2 : (!decide ((as.map fun a : Nat => (a : Int)) = [])) = decide (as ≠ []) := by
    cases as <;> simp
  rw [e2]; exact h
section
variable {P : Program} {w : World} {K : PySem.W.Frag} {mg : Str → Option Value} {base : Heap} {C : Addr}
theorem ok_trimmed_in (a : At K mg "trimmed_in" s_trimmed_in) (F1 : FnD P w K mg base "mattering" 17 (d_mattering C)) (F2 : FnD P w K mg base "less_row" 16 d_less_row) (Q : PropD P w K mg base C "units" 1 (d_units C)) (M : MakD P w K mg base 7 "Network" C (spMk K C inm_Network)) (T : TxC K mg C) : FnD P w K mg base "trimmed_in" 18 (d_trimmed_in C) := by
  refine fnD_ofW a (b_trimmed_in F1 F2 Q M T) sc_trimmed_in (fun _ _ _ _ _ _ us hl => match us, hl with | [_], _ => rfl) ?_ ?_
  · rintro ds μ k ⟨n, ls, la, rfl, _⟩; rfl
  · rintro ds μ k ⟨n, ls, la, rfl, N, h64, h⟩
    unfold r_trimmed_in
    have f1 := N.few
    have t1 := N.tot
    have hla := N.len
    have hi := N.hi
    have MN := t_net N
    have hfl : ls.flatten.length = total ls := (total_flat ls).symm
    unfold tLs tLa at h MN
    refine seq_gen fun NX hNX => ?_
    simp
    refine ⟨n, ls, la, rfl, N, h64, ?_⟩
    generalize hus : ls.flatten = us at hfl h MN ⊢
    generalize hp : mat n us la = pm at h MN ⊢
    have hkl := kept_len (total ls) pm
    intro p hp
    subst hNX
    refine seq_gen fun NX hNX => ?_
    obtain ⟨Inv, hInv⟩ : ∃ Inv : Nat → Sl → Mu → Prop, Inv = (fun i δ μ' => μ' = muSet μ p (.l ((trimLs n pm 0 (ls.take i)).map layerD)) ∧ ∃ x1 x5, δ = [some (netD C n ls la), x1, some (.lst (natsD (keptP (total ls) pm))), some (.own p), some (.int ((total (ls.take i) : Nat) : Int)), x5, none]) := ⟨_, rfl⟩
    refine for_inv ls layerD Inv (fun kk hk => ?_) (fun i l δ μ' hl z => ?_) (fun δ μ' z => ?_)
    · simp
      refine hk _ _ (.l _) ?_ (fun _ _ _ _ => trivial)
      rw [hInv]
      exact ⟨by simp [trimLs], none, none, by simp [total]⟩
    · rw [hInv] at z
      obtain ⟨rfl, x1, x5, rfl⟩ := z
      have hoff := total_le (ls := ls) (i + 1)
      rw [total_take_succ hl] at hoff
      simp only [rgName, List.set_cons_succ, List.set_cons_zero]
      clear hNX
      refine seq_gen fun NX hNX => ?_
      simp
      refine lcW_filt (keptP (total ls) pm) (fun a : Nat => D.int (a : Nat)) (fun a : Nat => D.int (a : Nat)) (fun a => decide (total (ls.take i) ≤ a) && decide (a < total (ls.take i) + l.length)) (.l _) (by omega) (fun a ha kt kf hk1 hk0 => ?_) ?_
      · simp
        split
        · rename_i h1
          split
          · rename_i h2
            exact hk1 (by simp; omega)
          · rename_i h2
            exact hk0 (by simp; omega)
        · rename_i h1
          exact hk0 (by simp; omega)
      · rw [place_eq (by omega)]
        subst hNX
        refine seq_gen fun NX hNX => ?_
        simp
        subst hNX
        have hrows := place_rows (n := n) (p := pm) hl
        rw [hus] at hrows
        have hsn : trimLs n pm 0 (ls.take (i + 1)) = trimLs n pm 0 (ls.take i) ++ oneL (trimL n pm (total (ls.take i)) l) := by
          rw [take_succ_of hl, trimLs_snoc]; simp
        have hfew := trim_few n pm 0 (ls.take i)
        have hil : (ls.take i).length ≤ 4 := by rw [List.length_take]; omega
        have hpll := place_len pm (total (ls.take i)) l.length
        have hpm : ∀ a ∈ place pm (total (ls.take i)) l.length, a < total ls := fun a ha => by
          unfold place at ha
          obtain ⟨j, hj, rfl⟩ := List.mem_map.mp ha
          have : j < l.length := List.mem_range.mp (List.mem_filter.mp hj).1
          omega
        generalize place pm (total (ls.take i)) l.length = pl at hrows hpll hpm ⊢
        simp only [rIfS, rB, rOp, oNe, rVar, rLst, rNil, List.getElem?_cons_succ, List.getElem?_cons_zero]
        refine ⟨by show 0 ≤ 1000000; omega, ?_⟩
        refine ne_lst ?_
        simp only [asB]
        by_cases hpl : pl = []
        · rw [if_neg (by simp [hpl])]
          simp only [rNext]
          rw [hInv]
          refine ⟨?_, some (layerD l), some (D.lst (natsD pl)), ?_⟩
          · rw [hsn, ← hrows, hpl]
            simp [oneL]
          · rw [total_take_succ hl]; simp
        · rw [if_pos (by simp [hpl])]
          simp [muSet_same]
          refine lcW_map pl (fun a : Nat => D.int (a : Nat)) (fun a => rowD (lessR n pm (us.getD a []))) (.l _) (by omega) (fun a ha kt kf hk => ?_) ?_
          · have hau : a < us.length := by have := hpm a ha; omega
            have hra := flat_row N.lays (j := a) (r := us.getD a []) (by rw [hus, List.getD_eq_getElem?_getD, List.getElem?_eq_getElem hau]; rfl)
            simp
            refine ⟨n, ls, la, rfl, by omega, by omega, ?_⟩
            rw [hus]
            simp
            refine ⟨rowD (us.getD a []), ?_, us.getD a [], n, total ls, pm, ?_, hra.1, by omega, by omega, by omega, hk⟩
            · unfold atI
              rw [List.length_map, ixN_nat hau]
              show (us.map rowD)[a]? = _
              rw [List.getElem?_map, List.getElem?_eq_getElem hau, List.getD_eq_getElem?_getD, List.getElem?_eq_getElem hau]
              rfl
            · rfl
          · refine ⟨_, muSet_same, by rw [List.length_map]; omega, ?_⟩
            rw [hInv]
            refine ⟨?_, some (layerD l), some (D.lst (natsD pl)), ?_⟩
            · rw [muSet_set]
              congr 1
              have : trimL n pm (total (ls.take i)) l ≠ [] := fun z => hpl (by rw [← hrows] at z; simpa using z)
              rw [hsn, oneL, if_neg this, ← hrows]
              simp
            · rw [total_take_succ hl]; simp
    · rw [hInv] at z
      obtain ⟨rfl, x1, x5, rfl⟩ := z
      rw [List.take_length]
      subst hNX
      dsimp only
      simp [muSet_same]
      rw [muDel_set, muDel_none hp]
      refine ⟨la, n, total ls, pm, rfl, by omega, by omega, by omega, by omega, ?_⟩
      refine ⟨_, ⟨n, _, _, rfl, MN, rfl⟩, μ, Sub.refl _, h⟩
theorem ok_trimmed (a : At K mg "trimmed" s_trimmed) (F1 : FnD P w K mg base "require_network" 11 (d_require_network C)) (F2 : FnD P w K mg base "trimmed_in" 18 (d_trimmed_in C)) (T : TxC K mg C) : FnD P w K mg base "trimmed" 19 (d_trimmed C) := by
  refine fnD_of a (b_trimmed F1 F2 T) sc_trimmed (fun _ _ _ _ _ _ us hl => match us, hl with | [_], _ => rfl) ?_ ?_
  · rintro ds μ k ⟨n, ls, la, rfl, _⟩; rfl
  · rintro ds μ k ⟨n, ls, la, rfl, N, h64, h⟩
    simp [r_trimmed]
    exact ⟨n, ls, la, rfl, n, ls, la, rfl, N, h64, h⟩
end
end K21


set_option Elab.async false
set_option linter.all false
set_option maxRecDepth 100000
set_option maxHeartbeats 4000000
namespace K21
open PySem PySem.Spec PyProof.Rows L2 SlX DL
/-- the vat: the drawn numbers are any -/
def VOk (vs : List D) (N : Nat) : Prop := ∃ a b c : Int, vs = [.int a, .int b, .int c] ∧ 0 ≤ a ∧ Sm 2000 a ∧ Sm 100 b ∧ 0 ≤ c ∧ c ≤ N
theorem VOk.mono {vs : List D} {N M : Nat} (h : VOk vs N) (l : N ≤ M) : VOk vs M := by
  obtain ⟨a, b, c, h1, h2, h3, h4, h5, h6⟩ := h
  exact ⟨a, b, c, h1, h2, h3, h4, h5, by omega⟩
/-- of a drawn row -/
def BdN (b x : Int) : Prop := -(b + 1) ≤ x ∧ x ≤ b + 1
theorem BdN.short {b x : Int} (h : BdN b x) (hb : b ≤ 10 ^ 30) : short x = true := by
  rw [short_iff]
  unfold BdN at h
  have e : sixty = 10 ^ 60 := by decide +kernel
  rw [e]
  omega
def d__law_vat : DSp := fun ds μ k => ∃ ns i, ds = [.scr ns, .int i] ∧ 0 ≤ i ∧ i < 1000 ∧ ∀ p vs, μ p = none → VOk vs 0 → k (.own p) (muSet μ p vs)
def d__law_draw : DSp := fun ds μ k => ∃ p t N vs, ds = [.own p, .int t] ∧ μ p = some (.l vs) ∧ VOk vs N ∧ 0 < t ∧ Sm 1000 t ∧ N < 2 ^ 30 ∧ ∀ r vs', 0 ≤ r → r < t → VOk vs' (N + 1) → k (.int r) (muSet μ p vs')
def d__law_pick : DSp := fun ds μ k => ∃ p is N vs, ds = [.own p, .lst is] ∧ μ p = some (.l vs) ∧ VOk vs N ∧ is ≠ [] ∧ is.length ≤ 1000 ∧ N < 2 ^ 30 ∧ ∀ d vs', d ∈ is → VOk vs' (N + 1) → k d (muSet μ p vs')
def d__law_told : DSp := d_told_by
def d__law_numbers : DSp := fun ds μ k => ∃ n ls xs, ds = [.int (n : Nat), layersD ls, rowD xs] ∧ Lays ls n ∧ ls.length ≤ 4 ∧ xs.length = n ∧ n + total ls ≤ 256 ∧ (∀ x ∈ xs, Sm 1000 x) ∧ k (.lst (intsD (numbers ls xs))) μ
def d__law_row : DSp := fun ds μ k => ∃ p m sz N vs, ds = [.own p, .int (m : Nat), .int sz] ∧ μ p = some (.l vs) ∧ VOk vs N ∧ m ≤ 1000 ∧ 0 ≤ sz ∧ sz ≤ 10 ^ 30 ∧ N + 2 * m < 2 ^ 30 ∧ ∀ (r : List Int) vs', r.length = m → (∀ x ∈ r, BdN sz x) → VOk vs' (N + 2 * m) → k (rowD r) (muSet μ p vs')
def d__law_parts : DSp := fun ds μ k => ∃ p n dep wide sz N vs, ds = [.own p, .int (n : Nat), .int (dep : Nat), .int (wide : Nat), .int sz] ∧ μ p = some (.l vs) ∧ VOk vs N ∧ 1 ≤ n ∧ n ≤ 8 ∧ dep ≤ 4 ∧ 1 ≤ wide ∧ wide ≤ 4 ∧ 0 ≤ sz ∧ sz ≤ 10 ^ 30 ∧ N + 5000 < 2 ^ 30 ∧
  ∀ ls la vs', IsNet n ls la → ls.length = dep → (∀ l ∈ ls, l.length ≤ wide) → (∀ x ∈ la, BdN sz x) → VOk vs' (N + 5000) → k (.tup [layersD ls, rowD la]) (muSet μ p vs')
def d__law_value : DSp := fun ds μ k => ∃ n ls la xs, ds = [.int (n : Nat), layersD ls, rowD la, rowD xs] ∧ IsNet n ls la ∧ xs.length = n ∧ (∀ x ∈ xs, Sm 1000 x) ∧ k (.int (told la (numbers ls xs))) μ
def d__law_rows : DSp := fun ds μ k => ∃ p n t N vs, ds = [.own p, .int (n : Nat), .int (t : Nat)] ∧ μ p = some (.l vs) ∧ VOk vs N ∧ 1 ≤ n ∧ n ≤ 8 ∧ t ≤ 10 ∧ N + 1000 < 2 ^ 30 ∧ ∀ (rs : List (List Int)) vs', rs.length ≤ 11 → (∀ r ∈ rs, r.length = n ∧ ∀ x ∈ r, Sm 40 x) → VOk vs' (N + 1000) → k (.lst (rs.map rowD)) (muSet μ p vs')
section
variable {P : Program} {w : World} {K : PySem.W.Frag} {mg : Str → Option Value} {base : Heap} {C : Addr}
abbrev s__law_vat : Stmt := topS 32
abbrev N__law_vat : List Str := ["_law_script", "_law_spot", "_law_cell", "_law_great"]
theorem sc__law_vat : FnScope N__law_vat ["_law_script", "_law_spot"] (defScope s__law_vat) := ⟨rfl, rfl, rfl, by decide +kernel, rfl, by decide +kernel, by decide +kernel⟩
def r__law_vat : RS :=
  (rSeq (rAsg (rIf (rB (rOp (oB (fun i j => decide (i < j))) (rVar 1) (rCB oLen (rCons (rVar 0) rNil)))) (rCB oInt (rCons (rOp oIxS (rVar 0) (rVar 1)) rNil)) (rOp (oI fun i j => i + j) (rOp (oIc CMulW fun i j => i * j) (rC (.int 439)) (rVar 1)) (rC (.int 197)))) (rgName 2))
  (rSeq (rAsg (rOp (oIc (fun _ j => 0 < j) fun i j => i % j) (rCB oInt (rCons (rCB oAbs (rCons (rVar 2) rNil)) rNil)) (rOp (oIc CPowW fun i j => i ^ j.toNat) (rOp (oIc CPowW fun i j => i ^ j.toNat) (rC (.int 10)) (rC (.int 57))) (rC (.int 6)))) (rgName 3))
  (rRet (rLstO (rCons (rCB (o2I fun i j => if j > i then j else i) (rCons (rC (.int 0)) (rCons (rOp (oI fun i j => i - j) (rVar 3) (rOp (oIc CPowW fun i j => i ^ j.toNat) (rC (.int 10)) (rC (.int 16)))) rNil))) (rCons (rOp (oI fun i j => i + j) (rOp (oI fun i j => i + j) (rOp (oI fun i j => i + j) (rOp (oIc CMulW fun i j => i * j) (rOp (oIc (fun _ j => 0 < j) fun i j => i % j) (rCB oInt (rCons (rVar 3) rNil)) (rC (.int 2147483477))) (rC (.int 269))) (rOp (oIc CMulW fun i j => i * j) (rC (.int 587)) (rVar 1))) (rOp (oIc CMulW fun i j => i * j) (rC (.int 37)) (rCB oInt (rCons (rOp (oB (fun i j => decide (i < j))) (rVar 2) (rC (.int 0))) rNil)))) (rC (.int 9))) (rCons (rC (.int 0)) rNil)))))))
theorem b__law_vat (T : TxC K mg C) : Body P w K mg base 19 "_law_vat" s__law_vat N__law_vat (r__law_vat) := by
  refine fun f => ⟨_, fun cdv A outer s H E hr => ⟨(pss_cons (ps_set (i := 2) sc__law_vat.nd rfl (Or.inl rfl) (pe_ifExp (pt_cmpR op_lt (pv 1) (kb_call (kc_len K) T.b_len (pa_cons (pv 0) pa_nil)) (nomark _)) (kt_call call_int1 T.b_int (pa_cons (pe_ix (kx_list K) (pv 0) (pv 1) (fun _ _ => rfl)) pa_nil)) (pe_op op_add (pe_op op_mulW pe_int (pv 1)) pe_int)))
      (pss_cons (ps_set (i := 3) sc__law_vat.nd rfl (Or.inl rfl) (pe_op op_mod (kt_call call_int1 T.b_int (pa_cons (kb_call call_abs T.b_abs (pa_cons (pv 2) pa_nil)) pa_nil)) (pe_op op_powW (pe_op op_powW pe_int pe_int) pe_int)))
      (pss_one (ps_ret (pe_lst (pa_cons (kb_call (call_max2 rfl) T.b_max (pa_cons pe_int (pa_cons (pe_op op_sub (pv 3) (pe_op op_powW pe_int pe_int)) pa_nil))) (pa_cons (pe_op op_add (pe_op op_add (pe_op op_add (pe_op op_mulW (pe_op op_mod (kt_call call_int1 T.b_int (pa_cons (pv 3) pa_nil)) pe_int) pe_int) (pe_op op_mulW pe_int (pv 1))) (pe_op op_mulW pe_int (kt_call call_int1 T.b_int (pa_cons (pe_cmpR op_lt (pv 2) pe_int (nomark _)) pa_nil)))) pe_int) (pa_cons pe_int pa_nil)))))))),
    (okS_seq (okS_asg (okE_if (okT_test (okE_op okB (okE_var 1) (okE_CB okLen (okA_cons (okE_var 0) okA_nil)))) (okE_CB okInt (okA_cons (okE_op okIxS (okE_var 0) (okE_var 1)) okA_nil)) (okE_op okI (okE_op okIc (okE_C fun _ => .int _) (okE_var 1)) (okE_C fun _ => .int _))) (okG_name 2))
      (okS_seq (okS_asg (okE_op okIc (okE_CB okInt (okA_cons (okE_CB okAbs (okA_cons (okE_var 2) okA_nil)) okA_nil)) (okE_op okIc (okE_op okIc (okE_C fun _ => .int _) (okE_C fun _ => .int _)) (okE_C fun _ => .int _))) (okG_name 3))
      (okS_ret (okE_lstO (okA_cons (okE_CB ok2I (okA_cons (okE_C fun _ => .int _) (okA_cons (okE_op okI (okE_var 3) (okE_op okIc (okE_C fun _ => .int _) (okE_C fun _ => .int _))) okA_nil))) (okA_cons (okE_op okI (okE_op okI (okE_op okI (okE_op okIc (okE_op okIc (okE_CB okInt (okA_cons (okE_var 3) okA_nil)) (okE_C fun _ => .int _)) (okE_C fun _ => .int _)) (okE_op okIc (okE_C fun _ => .int _) (okE_var 1))) (okE_op okIc (okE_C fun _ => .int _) (okE_CB okInt (okA_cons (okE_op okB (okE_var 2) (okE_C fun _ => .int _)) okA_nil)))) (okE_C fun _ => .int _)) (okA_cons (okE_C fun _ => .int _) okA_nil)))))))⟩⟩

abbrev s__law_draw : Stmt := topS 33
abbrev N__law_draw : List Str := ["_law_vat_here", "_law_total", "_law_one", "_law_two", "_law_found"]
theorem sc__law_draw : FnScope N__law_draw ["_law_vat_here", "_law_total"] (defScope s__law_draw) := ⟨rfl, rfl, rfl, by decide +kernel, rfl, by decide +kernel, by decide +kernel⟩
def r__law_draw : RS :=
  (rSeq (rIfS (rB (rOp (oB (fun i j => decide (j < i))) (rOp oIx (rVar 0) (rC (.int 0))) (rC (.int 0)))) (rSeq (rAsg (rOp (oIc (fun _ j => 0 < j) fun i j => i % j) (rCB oInt (rCons (rOp oIx (rVar 0) (rC (.int 0))) rNil)) (rVar 1)) (rgName 4))
  (rSeq (rAsg (rOp (oIc CDivW fun i j => i / j) (rOp oIx (rVar 0) (rC (.int 0))) (rVar 1)) (rgSetL (rVar 0) (rC (.int 0))))
  (rRet (rVar 4)))) rNext)
  (rSeq (rAsg (rOp (oI fun i j => i + j) (rOp oIx (rVar 0) (rC (.int 2))) (rC (.int 1))) (rgSetL (rVar 0) (rC (.int 2))))
  (rSeq (rAsg (rOp (oIc (fun _ j => 0 < j) fun i j => i % j) (rCB oInt (rCons (rOp (oI fun i j => i + j) (rOp oIx (rVar 0) (rC (.int 1))) (rOp (oIc CMulW fun i j => i * j) (rC (.int 9699713)) (rOp oIx (rVar 0) (rC (.int 2))))) rNil)) (rC (.int 2305843009213693951))) (rgName 2))
  (rSeq (rAsg (rOp (oI fun i j => i + j) (rOp (oIc CMulW fun i j => i * j) (rOp (oIc (fun _ j => 0 < j) fun i j => i % j) (rCB oInt (rCons (rOp (oI fun i j => i + j) (rOp (oIc CMulW fun i j => i * j) (rVar 2) (rVar 2)) (rOp (oIc CMulW fun i j => i * j) (rC (.int 341)) (rOp oIx (rVar 0) (rC (.int 2))))) rNil)) (rC (.int 2305843009213693921))) (rC (.int 5800079))) (rVar 2)) (rgName 3))
  (rRet (rOp (oIc (fun _ j => 0 < j) fun i j => i % j) (rCB oInt (rCons (rOp (oIc CDivW fun i j => i / j) (rVar 3) (rC (.int 65537))) rNil)) (rVar 1)))))))
theorem b__law_draw (T : TxC K mg C) : Body P w K mg base 20 "_law_draw" s__law_draw N__law_draw (r__law_draw) := by
  refine fun f => ⟨_, fun cdv A outer s H E hr => ⟨(pss_cons (ps_if (pt_cmpR op_gt (pe_ix (kx_seq K) (pv 0) pe_int (fun _ _ => rfl)) pe_int (nomark _)) (pss_cons (ps_set (i := 4) sc__law_draw.nd rfl (Or.inl rfl) (pe_op op_mod (kt_call call_int1 T.b_int (pa_cons (pe_ix (kx_seq K) (pv 0) pe_int (fun _ _ => rfl)) pa_nil)) (pv 1)))
      (pss_cons (ps_asg (pe_op op_fdivW (pe_ix (kx_seq K) (pv 0) pe_int (fun _ _ => rfl)) (pv 1)) (pg_sub (pv 0) pe_int set_list))
      (pss_one (ps_ret (pv 4))))) pss_nil)
      (pss_cons (ps_asg (pe_op op_add (pe_ix (kx_seq K) (pv 0) pe_int (fun _ _ => rfl)) pe_int) (pg_sub (pv 0) pe_int set_list))
      (pss_cons (ps_set (i := 2) sc__law_draw.nd rfl (Or.inl rfl) (pe_op op_mod (kt_call call_int1 T.b_int (pa_cons (pe_op op_add (pe_ix (kx_seq K) (pv 0) pe_int (fun _ _ => rfl)) (pe_op op_mulW pe_int (pe_ix (kx_seq K) (pv 0) pe_int (fun _ _ => rfl)))) pa_nil)) pe_int))
      (pss_cons (ps_set (i := 3) sc__law_draw.nd rfl (Or.inl rfl) (pe_op op_add (pe_op op_mulW (pe_op op_mod (kt_call call_int1 T.b_int (pa_cons (pe_op op_add (pe_op op_mulW (pv 2) (pv 2)) (pe_op op_mulW pe_int (pe_ix (kx_seq K) (pv 0) pe_int (fun _ _ => rfl)))) pa_nil)) pe_int) pe_int) (pv 2)))
      (pss_one (ps_ret (pe_op op_mod (kt_call call_int1 T.b_int (pa_cons (pe_op op_fdivW (pv 3) pe_int) pa_nil)) (pv 1)))))))),
    (okS_seq (okS_if (okT_test (okE_op okB (okE_op okIx (okE_var 0) (okE_C fun _ => .int _)) (okE_C fun _ => .int _))) (okS_seq (okS_asg (okE_op okIc (okE_CB okInt (okA_cons (okE_op okIx (okE_var 0) (okE_C fun _ => .int _)) okA_nil)) (okE_var 1)) (okG_name 4))
      (okS_seq (okS_asg (okE_op okIc (okE_op okIx (okE_var 0) (okE_C fun _ => .int _)) (okE_var 1)) (okG_setL (okE_var 0) (okE_C fun _ => .int _)))
      (okS_ret (okE_var 4)))) okS_next)
      (okS_seq (okS_asg (okE_op okI (okE_op okIx (okE_var 0) (okE_C fun _ => .int _)) (okE_C fun _ => .int _)) (okG_setL (okE_var 0) (okE_C fun _ => .int _)))
      (okS_seq (okS_asg (okE_op okIc (okE_CB okInt (okA_cons (okE_op okI (okE_op okIx (okE_var 0) (okE_C fun _ => .int _)) (okE_op okIc (okE_C fun _ => .int _) (okE_op okIx (okE_var 0) (okE_C fun _ => .int _)))) okA_nil)) (okE_C fun _ => .int _)) (okG_name 2))
      (okS_seq (okS_asg (okE_op okI (okE_op okIc (okE_op okIc (okE_CB okInt (okA_cons (okE_op okI (okE_op okIc (okE_var 2) (okE_var 2)) (okE_op okIc (okE_C fun _ => .int _) (okE_op okIx (okE_var 0) (okE_C fun _ => .int _)))) okA_nil)) (okE_C fun _ => .int _)) (okE_C fun _ => .int _)) (okE_var 2)) (okG_name 3))
      (okS_ret (okE_op okIc (okE_CB okInt (okA_cons (okE_op okIc (okE_var 3) (okE_C fun _ => .int _)) okA_nil)) (okE_var 1)))))))⟩⟩

abbrev s__law_pick : Stmt := topS 34
abbrev N__law_pick : List Str := ["_law_vat_here", "_law_items"]
theorem sc__law_pick : FnScope N__law_pick ["_law_vat_here", "_law_items"] (defScope s__law_pick) := ⟨rfl, rfl, rfl, by decide +kernel, rfl, by decide +kernel, by decide +kernel⟩
def r__law_pick : RS :=
  (rRet (rOp oIx (rVar 1) (rCall d__law_draw (rCons (rVar 0) (rCons (rCB oLen (rCons (rVar 1) rNil)) rNil)))))
theorem b__law_pick (F__law_draw : FnD P w K mg base "_law_draw" 21 d__law_draw) (T : TxC K mg C) : Body P w K mg base 21 "_law_pick" s__law_pick N__law_pick (r__law_pick) := by
  refine fun f => ⟨_, fun cdv A outer s H E hr => ⟨(pss_one (ps_ret (pe_ix (kx_seq K) (pv 1) (ke_call K F__law_draw hr (pa_cons (pv 0) (pa_cons (kb_call (kc_len K) T.b_len (pa_cons (pv 1) pa_nil)) pa_nil))) (fun _ _ => rfl)))),
    (okS_ret (okE_op okIx (okE_var 1) (okE_call (okA_cons (okE_var 0) (okA_cons (okE_CB okLen (okA_cons (okE_var 1) okA_nil)) okA_nil)))))⟩⟩

abbrev s__law_row : Stmt := topS 35
abbrev N__law_row : List Str := ["_law_vat_here", "_law_many", "_law_size", "_law_place"]
theorem sc__law_row : FnScope N__law_row ["_law_vat_here", "_law_many", "_law_size"] (defScope s__law_row) := ⟨rfl, rfl, rfl, by decide +kernel, rfl, by decide +kernel, by decide +kernel⟩
def r__law_row : RS :=
  (rRet (rCB oTuple (rCons (rLc (rIR1 (rCons (rVar 1) rNil)) (rgName 3) rYes (rCall d__law_pick (rCons (rVar 0) (rCons (rLst (rCons (rC (.int 0)) (rCons (rC (.int 1)) (rCons (rUn oNeg (rC (.int 1))) (rCons (rC (.int 1)) (rCons (rOp (oI fun i j => i - j) (rCall d__law_draw (rCons (rVar 0) (rCons (rOp (oI fun i j => i + j) (rOp (oIc CMulW fun i j => i * j) (rC (.int 2)) (rVar 2)) (rC (.int 1))) rNil))) (rVar 2)) rNil)))))) rNil))) [3]) rNil)))
theorem b__law_row (F__law_pick : FnD P w K mg base "_law_pick" 22 d__law_pick) (F__law_draw : FnD P w K mg base "_law_draw" 21 d__law_draw) (T : TxC K mg C) : Body P w K mg base 24 "_law_row" s__law_row N__law_row (r__law_row) := by
  refine fun f => ⟨_, fun cdv A outer s H E hr => ⟨(pss_one (ps_ret (kt_call (kc_tuple K) T.b_tuple (pa_cons (pe_lc (own := [("_law_place", 3)]) rfl sc__law_row.nd (kr_range1 T.b_range (pa_cons (pv 1) pa_nil)) (blkOk_by (own := [("_law_place", 3)]) (N := N__law_row) (sc := defScope s__law_row) (by decide +kernel)) (fun _ _ _ _ _ => (pg_name (i := 3) sc__law_row.nd rfl (by first | exact Or.inl rfl | exact Or.inr rfl))) (fun _ _ _ _ _ => pts_nil) (fun _ _ _ _ _ => (ke_call K F__law_pick hr (pa_cons (pv 0) (pa_cons (pe_lst (pa_cons pe_int (pa_cons pe_int (pa_cons (pe_un un_neg pe_int) (pa_cons pe_int (pa_cons (pe_op op_sub (ke_call K F__law_draw hr (pa_cons (pv 0) (pa_cons (pe_op op_add (pe_op op_mulW pe_int (pv 2)) pe_int) pa_nil))) (pv 2)) pa_nil)))))) pa_nil))))) pa_nil)))),
    (okS_ret (okE_CB okTuple (okA_cons (okE_lc (okI_range1 (okA_cons (okE_var 1) okA_nil)) (okG_name 3) okT_yes (okE_call (okA_cons (okE_var 0) (okA_cons (okE_lst (okA_cons (okE_C fun _ => .int _) (okA_cons (okE_C fun _ => .int _) (okA_cons (okE_un okNeg (okE_C fun _ => .int _)) (okA_cons (okE_C fun _ => .int _) (okA_cons (okE_op okI (okE_call (okA_cons (okE_var 0) (okA_cons (okE_op okI (okE_op okIc (okE_C fun _ => .int _) (okE_var 2)) (okE_C fun _ => .int _)) okA_nil))) (okE_var 2)) okA_nil)))))) okA_nil))) (by decide)) okA_nil)))⟩⟩

abbrev s__law_parts : Stmt := topS 36
abbrev N__law_parts : List Str := ["_law_vat_here", "_law_inputs", "_law_depth", "_law_wide", "_law_size", "_law_turn", "_law_layers", "_law_seen", "_law_layer", "_law_unit"]
theorem sc__law_parts : FnScope N__law_parts ["_law_vat_here", "_law_inputs", "_law_depth", "_law_wide", "_law_size"] (defScope s__law_parts) := ⟨rfl, rfl, rfl, by decide +kernel, rfl, by decide +kernel, by decide +kernel⟩
def r__law_parts : RS :=
  (rSeq (rAsg (rTup (rCons (rLstO rNil) (rCons (rVar 1) rNil))) (rgTup 2 (rgCons (rgName 6) (rgCons (rgName 7) rgNil))))
  (rSeq (rFor (rIR1 (rCons (rVar 2) rNil)) (rgName 5) (rSeq (rAsg (rCB oTuple (rCons (rLc (rIR1 (rCons (rOp (oI fun i j => i + j) (rC (.int 1)) (rCall d__law_draw (rCons (rVar 0) (rCons (rVar 3) rNil)))) rNil)) (rgName 9) rYes (rCall d__law_row (rCons (rVar 0) (rCons (rVar 7) (rCons (rVar 4) rNil)))) [9]) rNil)) (rgName 8))
  (rSeq (rDrop (rApp (rVar 6) (rVar 8)))
  (rAsg (rOp (oI fun i j => i + j) (rVar 7) (rCB oLen (rCons (rVar 8) rNil))) (rgName 7)))))
  (rRet (rTup (rCons (rCB oTuple (rCons (rVar 6) rNil)) (rCons (rCall d__law_row (rCons (rVar 0) (rCons (rVar 7) (rCons (rVar 4) rNil)))) rNil))))))
theorem b__law_parts (F__law_draw : FnD P w K mg base "_law_draw" 21 d__law_draw) (F__law_row : FnD P w K mg base "_law_row" 25 d__law_row) (T : TxC K mg C) : Body P w K mg base 25 "_law_parts" s__law_parts N__law_parts (r__law_parts) := by
  refine fun f => ⟨_, fun cdv A outer s H E hr => ⟨(pss_cons (ps_asg (pe_tup (pa_cons (pe_lst pa_nil) (pa_cons (pv 1) pa_nil))) (kg_tup K (pgs_cons (pg_name (i := 6) sc__law_parts.nd rfl (Or.inl rfl)) (pgs_cons (pg_name (i := 7) sc__law_parts.nd rfl (Or.inr rfl)) pgs_nil))))
      (pss_cons (ps_for PassesOwn.never rfl (kr_range1 T.b_range (pa_cons (pv 2) pa_nil)) (pg_name (i := 5) sc__law_parts.nd rfl (Or.inl rfl)) (pss_cons (ps_set (i := 8) sc__law_parts.nd rfl (Or.inl rfl) (kt_call (kc_tuple K) T.b_tuple (pa_cons (pe_lc (own := [("_law_unit", 9)]) rfl sc__law_parts.nd (kr_range1 T.b_range (pa_cons (pe_op op_add pe_int (ke_call K F__law_draw hr (pa_cons (pv 0) (pa_cons (pv 3) pa_nil)))) pa_nil)) (blkOk_by (own := [("_law_unit", 9)]) (N := N__law_parts) (sc := defScope s__law_parts) (by decide +kernel)) (fun _ _ _ _ _ => (pg_name (i := 9) sc__law_parts.nd rfl (by first | exact Or.inl rfl | exact Or.inr rfl))) (fun _ _ _ _ _ => pts_nil) (fun _ _ _ _ _ => (ke_call K F__law_row hr (pa_cons (pv 0) (pa_cons (pv 7) (pa_cons (pv 4) pa_nil)))))) pa_nil)))
      (pss_cons (ps_expr (ke_app K (pv 6) (pa_cons (pv 8) pa_nil)))
      (pss_one (ps_set (i := 7) sc__law_parts.nd rfl (Or.inr rfl) (pe_op op_add (pv 7) (kb_call (kc_len K) T.b_len (pa_cons (pv 8) pa_nil))))))))
      (pss_one (ps_ret (pe_tup (pa_cons (kt_call (kc_tuple K) T.b_tuple (pa_cons (pv 6) pa_nil)) (pa_cons (ke_call K F__law_row hr (pa_cons (pv 0) (pa_cons (pv 7) (pa_cons (pv 4) pa_nil)))) pa_nil))))))),
    (okS_seq (okS_asg (okE_tup (okA_cons (okE_lstO okA_nil) (okA_cons (okE_var 1) okA_nil))) (okG_tup (okGs_cons (okG_name 6) (okGs_cons (okG_name 7) okGs_nil))))
      (okS_seq (okS_for (okI_range1 (okA_cons (okE_var 2) okA_nil)) (okG_name 5) (okS_seq (okS_asg (okE_CB okTuple (okA_cons (okE_lc (okI_range1 (okA_cons (okE_op okI (okE_C fun _ => .int _) (okE_call (okA_cons (okE_var 0) (okA_cons (okE_var 3) okA_nil)))) okA_nil)) (okG_name 9) okT_yes (okE_call (okA_cons (okE_var 0) (okA_cons (okE_var 7) (okA_cons (okE_var 4) okA_nil)))) (by decide)) okA_nil)) (okG_name 8))
      (okS_seq (okS_drop (okE_app (okE_var 6) (okE_var 8)))
      (okS_asg (okE_op okI (okE_var 7) (okE_CB okLen (okA_cons (okE_var 8) okA_nil))) (okG_name 7)))))
      (okS_ret (okE_tup (okA_cons (okE_CB okTuple (okA_cons (okE_var 6) okA_nil)) (okA_cons (okE_call (okA_cons (okE_var 0) (okA_cons (okE_var 7) (okA_cons (okE_var 4) okA_nil)))) okA_nil))))))⟩⟩

abbrev s__law_rows : Stmt := topS 37
abbrev N__law_rows : List Str := ["_law_vat_here", "_law_many", "_law_turns", "_law_found", "_law_turn", "_law_size", "_law_place"]
theorem sc__law_rows : FnScope N__law_rows ["_law_vat_here", "_law_many", "_law_turns"] (defScope s__law_rows) := ⟨rfl, rfl, rfl, by decide +kernel, rfl, by decide +kernel, by decide +kernel⟩
def r__law_rows : RS :=
  (rSeq (rAsg (rLstO (rCons (rOp oRepT (rTup (rCons (rC (.int 0)) rNil)) (rVar 1)) rNil)) (rgName 3))
  (rSeq (rFor (rIR1 (rCons (rVar 2) rNil)) (rgName 4) (rSeq (rAsg (rCall d__law_pick (rCons (rVar 0) (rCons (rLst (rCons (rC (.int 1)) (rCons (rC (.int 3)) (rCons (rC (.int 9)) (rCons (rOp (oIc CPowW fun i j => i ^ j.toNat) (rC (.int 10)) (rC (.int 9))) rNil))))) rNil))) (rgName 5))
  (rDrop (rApp (rVar 3) (rCB oTuple (rCons (rLc (rIR1 (rCons (rVar 1) rNil)) (rgName 6) rYes (rOp (oI fun i j => i - j) (rCall d__law_draw (rCons (rVar 0) (rCons (rOp (oI fun i j => i + j) (rOp (oIc CMulW fun i j => i * j) (rC (.int 2)) (rVar 5)) (rC (.int 1))) rNil))) (rVar 5)) [6]) rNil))))))
  (rRetF (rVar 3))))
theorem b__law_rows (F__law_pick : FnD P w K mg base "_law_pick" 22 d__law_pick) (F__law_draw : FnD P w K mg base "_law_draw" 21 d__law_draw) (T : TxC K mg C) : Body P w K mg base 27 "_law_rows" s__law_rows N__law_rows (r__law_rows) := by
  refine fun f => ⟨_, fun cdv A outer s H E hr => ⟨(pss_cons (ps_set (i := 3) sc__law_rows.nd rfl (Or.inl rfl) (pe_lst (pa_cons (pe_op (ko_repTA K) (pe_tup (pa_cons pe_int pa_nil)) (pv 1)) pa_nil)))
      (pss_cons (ps_for PassesOwn.never rfl (kr_range1 T.b_range (pa_cons (pv 2) pa_nil)) (pg_name (i := 4) sc__law_rows.nd rfl (Or.inl rfl)) (pss_cons (ps_set (i := 5) sc__law_rows.nd rfl (Or.inr rfl) (ke_call K F__law_pick hr (pa_cons (pv 0) (pa_cons (pe_lst (pa_cons pe_int (pa_cons pe_int (pa_cons pe_int (pa_cons (pe_op op_powW pe_int pe_int) pa_nil))))) pa_nil))))
      (pss_one (ps_expr (ke_app K (pv 3) (pa_cons (kt_call (kc_tuple K) T.b_tuple (pa_cons (pe_lc (own := [("_law_place", 6)]) rfl sc__law_rows.nd (kr_range1 T.b_range (pa_cons (pv 1) pa_nil)) (blkOk_by (own := [("_law_place", 6)]) (N := N__law_rows) (sc := defScope s__law_rows) (by decide +kernel)) (fun _ _ _ _ _ => (pg_name (i := 6) sc__law_rows.nd rfl (by first | exact Or.inl rfl | exact Or.inr rfl))) (fun _ _ _ _ _ => pts_nil) (fun _ _ _ _ _ => (pe_op op_sub (ke_call K F__law_draw hr (pa_cons (pv 0) (pa_cons (pe_op op_add (pe_op op_mulW pe_int (pv 5)) pe_int) pa_nil))) (pv 5)))) pa_nil)) pa_nil))))))
      (pss_one (ps_ret (pv 3))))),
    (okS_seq (okS_asg (okE_lstO (okA_cons (okE_op okRepT (okE_tup (okA_cons (okE_C fun _ => .int _) okA_nil)) (okE_var 1)) okA_nil)) (okG_name 3))
      (okS_seq (okS_for (okI_range1 (okA_cons (okE_var 2) okA_nil)) (okG_name 4) (okS_seq (okS_asg (okE_call (okA_cons (okE_var 0) (okA_cons (okE_lst (okA_cons (okE_C fun _ => .int _) (okA_cons (okE_C fun _ => .int _) (okA_cons (okE_C fun _ => .int _) (okA_cons (okE_op okIc (okE_C fun _ => .int _) (okE_C fun _ => .int _)) okA_nil))))) okA_nil))) (okG_name 5))
      (okS_drop (okE_app (okE_var 3) (okE_CB okTuple (okA_cons (okE_lc (okI_range1 (okA_cons (okE_var 1) okA_nil)) (okG_name 6) okT_yes (okE_op okI (okE_call (okA_cons (okE_var 0) (okA_cons (okE_op okI (okE_op okIc (okE_C fun _ => .int _) (okE_var 5)) (okE_C fun _ => .int _)) okA_nil))) (okE_var 5)) (by decide)) okA_nil))))))
      (okS_retF (okE_var 3))))⟩⟩



theorem sm_mod {i j : Int} {b : Nat} (hj : 0 < j) (h : j ≤ 2 ^ b) : Sm b (i % j) := by
  have h1 := Int.emod_nonneg i (by omega : j ≠ 0)
  have h2 := Int.emod_lt_of_pos i hj
  unfold Sm
  have e : ((2 : Int) ^ b) = ((2 ^ b : Nat) : Int) := by simp
  omega
theorem sm_lit {b : Nat} {i : Int} (h : i.natAbs < 2 ^ b) : Sm b i := h
theorem sm_le {b : Nat} {i j : Int} (h0 : 0 ≤ i) (h : i ≤ j) (hj : Sm b j) : Sm b i := by unfold Sm at *; omega
theorem sm_add {a b : Nat} {x y : Int} (hx : Sm a x) (hy : Sm b y) : Sm (max a b + 1) (x + y) := by
  have h1 := hx.mono (Nat.le_max_left a b)
  have h2 := hy.mono (Nat.le_max_right a b)
  unfold Sm at *
  rw [Nat.pow_succ]
  omega
theorem vat_fin (n i : Int) (h0 : 0 ≤ i) (h1 : i < 1000) :
    CMulW ((if n < 0 then -n else n) % 1000000000000000000000000000000000000000000000000000000000000000000000000000000000000000000000000000000000000000000000000000000000000000000000000000000000000000000000000000000000000000000000000000000000000000000000000000000000000000000000000000000000000000000000000000000000000000000000000000000000000000000000000000000000000000000000000000000 % 2147483477) 269 ∧ CMulW 587 i ∧ CMulW 37 (if n < 0 then 1 else 0) ∧
    VOk [D.int (if 10000000000000000 < (if n < 0 then -n else n) % 1000000000000000000000000000000000000000000000000000000000000000000000000000000000000000000000000000000000000000000000000000000000000000000000000000000000000000000000000000000000000000000000000000000000000000000000000000000000000000000000000000000000000000000000000000000000000000000000000000000000000000000000000000000000000000000000000000000 then (if n < 0 then -n else n) % 1000000000000000000000000000000000000000000000000000000000000000000000000000000000000000000000000000000000000000000000000000000000000000000000000000000000000000000000000000000000000000000000000000000000000000000000000000000000000000000000000000000000000000000000000000000000000000000000000000000000000000000000000000000000000000000000000000000 - 10000000000000000 else 0),
      D.int ((if n < 0 then -n else n) % 1000000000000000000000000000000000000000000000000000000000000000000000000000000000000000000000000000000000000000000000000000000000000000000000000000000000000000000000000000000000000000000000000000000000000000000000000000000000000000000000000000000000000000000000000000000000000000000000000000000000000000000000000000000000000000000000000000000 % 2147483477 * 269 + 587 * i + 37 * (if n < 0 then 1 else 0) + 9), D.int 0] 0 := by
  have g0 : 0 ≤ (if n < 0 then -n else n) % 1000000000000000000000000000000000000000000000000000000000000000000000000000000000000000000000000000000000000000000000000000000000000000000000000000000000000000000000000000000000000000000000000000000000000000000000000000000000000000000000000000000000000000000000000000000000000000000000000000000000000000000000000000000000000000000000000000000 := Int.emod_nonneg _ (by decide)
  have g1 : Sm 1140 ((if n < 0 then -n else n) % 1000000000000000000000000000000000000000000000000000000000000000000000000000000000000000000000000000000000000000000000000000000000000000000000000000000000000000000000000000000000000000000000000000000000000000000000000000000000000000000000000000000000000000000000000000000000000000000000000000000000000000000000000000000000000000000000000000000) := sm_mod (by decide) (by decide)
  generalize (if n < 0 then -n else n) % 1000000000000000000000000000000000000000000000000000000000000000000000000000000000000000000000000000000000000000000000000000000000000000000000000000000000000000000000000000000000000000000000000000000000000000000000000000000000000000000000000000000000000000000000000000000000000000000000000000000000000000000000000000000000000000000000000000000 = g at g0 g1 ⊢
  have m0 := Int.emod_nonneg g (by decide : (2147483477 : Int) ≠ 0)
  have m1 := Int.emod_lt_of_pos g (by decide : (0 : Int) < 2147483477)
  have m2 : Sm 31 (g % 2147483477) := sm_mod (by decide) (by decide)
  have i1 : Sm 10 i := by unfold Sm; omega
  have s1 : Sm 1 (if n < 0 then (1 : Int) else 0) := by unfold Sm; split <;> decide
  refine ⟨sm_mulW m2 (b := 9) (by unfold Sm; decide) (by omega) (by omega) (by omega), sm_mulW (a := 10) (by unfold Sm; decide) i1 (by omega) (by omega) (by omega), sm_mulW (a := 6) (by unfold Sm; decide) s1 (by omega) (by omega) (by omega), _, _, _, rfl, ?_, ?_, ?_, by omega, by omega⟩
  · split <;> omega
  · have g2 := g1.mono (b := 2000) (by omega)
    split
    · exact sm_le (by omega) (by omega) g2
    · unfold Sm; exact Nat.pos_of_ne_zero (by simp)
  · generalize g % 2147483477 = q at m0 m1 m2 ⊢
    unfold Sm
    have : (2 : Nat) ^ 100 > 10 ^ 20 := by decide
    split <;> omega
theorem ok__law_vat (a : At K mg "_law_vat" s__law_vat) (T : TxC K mg C) : FnD P w K mg base "_law_vat" 20 d__law_vat := by
  refine fnD_of a (b__law_vat T) sc__law_vat (fun _ _ _ _ _ _ us hl => match us, hl with | [_, _], _ => rfl) ?_ ?_
  · rintro ds μ k ⟨ns, i, rfl, _⟩; rfl
  · rintro ds μ k ⟨ns, i, rfl, h0, h1, h⟩
    simp [r__law_vat]
    have p1 : CPowW 10 57 := ⟨by decide, by decide, by decide +kernel⟩
    have p2 : CPowW 1000000000000000000000000000000000000000000000000000000000 6 := ⟨by decide, by decide, by decide +kernel⟩
    have p3 : CPowW 10 16 := ⟨by decide, by decide, by decide +kernel⟩
    split
    · rename_i hi
      obtain ⟨j, rfl⟩ : ∃ j : Nat, i = (j : Int) := ⟨i.toNat, by omega⟩
      have hj : j < ns.length := by omega
      refine ⟨ns[j], by unfold atI; rw [ixN_nat hj]; simp, p1, p2, p3, ?_⟩
      obtain ⟨a1, a2, a3, a4⟩ := vat_fin ns[j] j h0 h1
      exact ⟨a1, a2, a3, fun p hp => h p _ hp a4⟩
    · have i1 : Sm 10 i := by unfold Sm; omega
      obtain ⟨a1, a2, a3, a4⟩ := vat_fin (439 * i + 197) i h0 h1
      exact ⟨sm_mulW (a := 9) (by unfold Sm; decide) i1 (by omega) (by omega) (by omega), p1, p2, p3, a1, a2, a3, fun p hp => h p _ hp a4⟩
@[simp] theorem at3_0 {α : Type} {x y z : α} : atI [x, y, z] 0 = some x := rfl
@[simp] theorem at3_1 {α : Type} {x y z : α} : atI [x, y, z] 1 = some y := rfl
@[simp] theorem at3_2 {α : Type} {x y z : α} : atI [x, y, z] 2 = some z := rfl
@[simp] theorem ix3_0 : ixN 3 0 = some 0 := rfl
@[simp] theorem ix3_2 : ixN 3 2 = some 2 := rfl
theorem ok__law_draw (a : At K mg "_law_draw" s__law_draw) (T : TxC K mg C) : FnD P w K mg base "_law_draw" 21 d__law_draw := by
  refine fnD_of a (b__law_draw T) sc__law_draw (fun _ _ _ _ _ _ us hl => match us, hl with | [_, _], _ => rfl) ?_ ?_
  · rintro ds μ k ⟨p, t, N, vs, rfl, _⟩; rfl
  · rintro ds μ k ⟨p, t, N, vs, rfl, hp, ⟨a, b, c, rfl, v1, v2, v3, v4, v5⟩, t0, t1, hN, h⟩
    simp [r__law_draw, hp, muSet_same]
    have dt : CDivW a t := ⟨t0, by have := PySem.Flt.log2_lt_of (by decide : 0 < 1000) t1; omega⟩
    split
    · refine ⟨t0, dt, h _ _ (Int.emod_nonneg _ (by omega)) (Int.emod_lt_of_pos _ t0) ⟨_, _, _, rfl, Int.ediv_nonneg v1 (by omega), sm_le (Int.ediv_nonneg v1 (by omega)) (Int.ediv_le_self _ v1) v2, v3, v4, by omega⟩⟩
    · have c1 : Sm 31 (c + 1) := by unfold Sm; omega
      have q1 : Sm 61 ((b + 9699713 * (c + 1)) % 2305843009213693951) := sm_mod (by decide) (by decide)
      have q2 : ∀ z : Int, Sm 61 (z % 2305843009213693921) := fun z => sm_mod (by decide) (by decide)
      refine ⟨sm_mulW (a := 30) (by unfold Sm; decide) c1 (by omega) (by omega) (by omega), sm_mulW q1 q1 (by omega) (by omega) (by omega), sm_mulW (a := 30) (by unfold Sm; decide) c1 (by omega) (by omega) (by omega),
        sm_mulW (b := 30) (q2 _) (by unfold Sm; decide) (by omega) (by omega) (by omega), ⟨by decide, by decide +kernel⟩, t0, h _ _ (Int.emod_nonneg _ (by omega)) (Int.emod_lt_of_pos _ t0) ⟨_, _, _, rfl, v1, v2, v3, by omega, by omega⟩⟩
theorem ok__law_pick (a : At K mg "_law_pick" s__law_pick) (F : FnD P w K mg base "_law_draw" 21 d__law_draw) (T : TxC K mg C) : FnD P w K mg base "_law_pick" 22 d__law_pick := by
  refine fnD_of a (b__law_pick F T) sc__law_pick (fun _ _ _ _ _ _ us hl => match us, hl with | [_, _], _ => rfl) ?_ ?_
  · rintro ds μ k ⟨p, is, N, vs, rfl, _⟩; rfl
  · rintro ds μ k ⟨p, is, N, vs, rfl, hp, hv, h1, h2, hN, h⟩
    simp [r__law_pick, hp]
    have hl : 0 < is.length := List.length_pos_iff.mpr h1
    refine ⟨p, _, N, vs, rfl, hp, hv, by omega, ?_, hN, fun r vs' r0 r1 hv' => ?_⟩
    · have : Sm 20 (is.length : Int) := by unfold Sm; omega
      exact this.mono (by omega)
    · obtain ⟨j, rfl⟩ : ∃ j : Nat, r = (j : Int) := ⟨r.toNat, by omega⟩
      have hj : j < is.length := by omega
      exact ⟨is[j], ⟨_, rfl, by unfold atI; rw [ixN_nat hj]; simp⟩, h _ _ (List.getElem_mem hj) hv'⟩
theorem ok__law_row (a : At K mg "_law_row" s__law_row) (F1 : FnD P w K mg base "_law_pick" 22 d__law_pick) (F2 : FnD P w K mg base "_law_draw" 21 d__law_draw) (T : TxC K mg C) : FnD P w K mg base "_law_row" 25 d__law_row := by
  refine fnD_of a (b__law_row F1 F2 T) sc__law_row (fun _ _ _ _ _ _ us hl => match us, hl with | [_, _, _], _ => rfl) ?_ ?_
  · rintro ds μ k ⟨p, m, sz, N, vs, rfl, _⟩; rfl
  · rintro ds μ k ⟨p, m, sz, N, vs, rfl, hp, hv, hm, hz0, hz1, hN, h⟩
    simp [r__law_row]
    refine ⟨by omega, ?_⟩
    refine lcW_inv (List.range m) (fun i : Nat => .int (0 + (i : Nat))) (.r 0 m) (by simp; omega)
      (fun i acc μ' => ∃ (r : List Int) (vs' : List D), acc = intsD r ∧ r.length = i ∧ (∀ x ∈ r, BdN sz x) ∧ VOk vs' (N + 2 * i) ∧ μ' = muSet μ p vs')
      ⟨[], vs, rfl, rfl, by simp, hv, (muSet_self hp).symm⟩ (fun _ _ _ _ => trivial) (fun i x acc μ' hx q => ?_) (fun acc μ' q => ?_)
    · obtain ⟨r, vs', rfl, hr, hsh, hv', rfl⟩ := q
      have hi : i < m := by
        by_cases hi : i < (List.range m).length
        · simpa using hi
        · rw [List.getElem?_eq_none (by omega)] at hx; cases hx
      simp
      refine ⟨sm_mulW (a := 2) (b := 200) (by unfold Sm; decide) (sm_le hz0 hz1 (by unfold Sm; decide)) (by omega) (by omega) (by omega), ?_⟩
      refine ⟨p, _, N + 2 * i, vs', rfl, muSet_same, hv', by omega, ?_, by omega, fun q vs2 q0 q1 hv2 => ?_⟩
      · exact sm_le (j := 2 * 10 ^ 30 + 1) (by omega) (by omega) (by unfold Sm; decide)
      · simp
        refine ⟨p, _, N + 2 * i + 1, vs2, rfl, by rw [muSet_set, muSet_same], hv2, by simp, by simp, by omega, fun d vs3 hd hv3 => ?_⟩
        have fin : ∀ z : Int, BdN sz z → d = .int z → ∃ (r' : List Int), intsD r ++ [d] = intsD r' ∧ r'.length = i + 1 ∧ (∀ x ∈ r', BdN sz x) ∧ ∃ (vs'' : List D), VOk vs'' (N + 2 * (i + 1)) ∧ muSet (muSet (muSet μ p vs') p vs2) p vs3 = muSet μ p vs'' := fun z hz hdz => by
          subst hdz
          refine ⟨r ++ [z], by simp [intsD], by simp [hr], fun x hx => ?_, vs3, hv3.mono (by omega), by rw [muSet_set, muSet_set]⟩
          rcases List.mem_append.mp hx with hx | hx
          · exact hsh x hx
          · rw [List.mem_singleton] at hx; rw [hx]; exact hz
        simp at hd
        rcases hd with hd | hd | hd | hd | hd
        · exact fin _ (by unfold BdN; omega) hd
        · exact fin _ (by unfold BdN; omega) hd
        · exact fin _ (by unfold BdN; omega) hd
        · exact fin _ (by unfold BdN; omega) hd
        · refine fin _ ?_ hd
          exact ⟨by omega, by omega⟩
    · obtain ⟨r, vs', rfl, hr, hsh, hv', rfl⟩ := q
      rw [List.length_range] at hr hv'
      exact h r vs' hr hsh hv'
theorem lays_snoc : ∀ {ls : List (List (List Int))} {m : Nat} {l : List (List Int)}, Lays ls m → (1 ≤ l.length ∧ l.length ≤ 64) → (∀ r ∈ l, r.length = m + total ls ∧ ∀ x ∈ r, short x = true) → Lays (ls ++ [l]) m
  | [], m, l, _, h1, h2 => ⟨h1, fun r hr => by simpa [total] using h2 r hr, trivial⟩
  | l0 :: ls, m, l, q, h1, h2 => ⟨q.1, q.2.1, lays_snoc q.2.2 h1 fun r hr => ⟨by rw [(h2 r hr).1]; simp [total]; omega, (h2 r hr).2⟩⟩
theorem total_snoc (ls : List (List (List Int))) (l : List (List Int)) : total (ls ++ [l]) = total ls + l.length := by simp [total]
theorem ok__law_parts (a : At K mg "_law_parts" s__law_parts) (F1 : FnD P w K mg base "_law_draw" 21 d__law_draw) (F2 : FnD P w K mg base "_law_row" 25 d__law_row) (T : TxC K mg C) : FnD P w K mg base "_law_parts" 26 d__law_parts := by
  refine fnD_ofW a (b__law_parts F1 F2 T) sc__law_parts (fun _ _ _ _ _ _ us hl => match us, hl with | [_, _, _, _, _], _ => rfl) ?_ ?_
  · rintro ds μ k ⟨p, n, dep, wide, sz, N, vs, rfl, _⟩; rfl
  · rintro ds μ k ⟨p, n, dep, wide, sz, N, vs, rfl, hp, hv, hn0, hn1, hd, hw0, hw1, hz0, hz1, hN, h⟩
    simp [r__law_parts]
    intro q hq
    have hqp : q ≠ p := fun z => by rw [z, hp] at hq; cases hq
    refine for_inv (List.range dep) (fun i : Nat => .int (0 + (i : Nat))) (fun i δ μ' => ∃ (ls : List (List (List Int))) (vs' : List D) (x y : Option D), δ = [some (.own p), some (.int (n : Nat)), some (.int (dep : Nat)), some (.int (wide : Nat)), some (.int sz), x, some (.own q), some (.int ((n + total ls : Nat) : Int)), y, none] ∧
      Lays ls n ∧ ls.length = i ∧ (∀ l ∈ ls, l.length ≤ wide) ∧ total ls ≤ 4 * i ∧ VOk vs' (N + 1000 * i) ∧ Sub (muSet μ p vs') μ' ∧ μ' q = some (.l (ls.map layerD))) (fun kk hk => ?_) (fun i t δ μ' ht z => ?_) (fun δ μ' z => ?_)
    · simp
      refine ⟨by omega, hk _ _ (.r 0 dep) ⟨[], vs, none, none, by simp [total], trivial, rfl, by simp, by simp [total], hv, ?_, muSet_same⟩ (fun _ _ _ _ => trivial)⟩
      rw [muSet_self hp]
      exact Sub.set hq
    · obtain ⟨ls, vs', x, y, rfl, L, hlen, hwd, htot, hv', hs, hmq⟩ := z
      obtain ⟨rfl, hi⟩ := range_get ht
      simp
      refine ⟨p, wide, N + 1000 * t, vs', rfl, hs.at_, hv', by omega, ?_, by omega, fun r vs2 r0 r1 hv2 => ?_⟩
      · have : Sm 20 (wide : Int) := by unfold Sm; omega
        exact this.mono (by omega)
      · obtain ⟨c, rfl⟩ : ∃ c : Nat, r = (c : Int) := ⟨r.toNat, by omega⟩
        have e1 : (1 + (c : Int)).toNat = c + 1 := by omega
        simp [e1]
        refine ⟨by omega, ?_⟩
        refine lcW_inv (List.range (c + 1)) (fun i : Nat => .int (0 + (i : Nat))) (.r 0 (c + 1)) (by simp; omega)
          (fun j acc μ'' => ∃ (rows : List (List Int)) (vs3 : List D), acc = rows.map rowD ∧ rows.length = j ∧ (∀ r ∈ rows, r.length = n + total ls ∧ ∀ x ∈ r, short x = true) ∧ VOk vs3 (N + 1000 * t + 1 + 100 * j) ∧ μ'' = muSet μ' p vs3)
          ⟨[], vs2, rfl, rfl, by simp, hv2, rfl⟩ (fun _ _ _ _ => trivial) (fun j u acc μ'' hu z => ?_) (fun acc μ'' z => ?_)
        · obtain ⟨rows, vs3, rfl, hr, hok, hv3, rfl⟩ := z
          obtain ⟨rfl, hj⟩ := range_get hu
          simp
          refine ⟨p, n + total ls, sz, N + 1000 * t + 1 + 100 * u, vs3, by simp, muSet_same, hv3, by omega, hz0, hz1, by omega, fun r vs4 hrl hrs hv4 => ?_⟩
          refine ⟨rows ++ [r], by simp, by simp [hr], fun r' hr' => ?_, vs4, hv4.mono (by omega), by rw [muSet_set]⟩
          rcases List.mem_append.mp hr' with hr' | hr'
          · exact hok r' hr'
          · rw [List.mem_singleton] at hr'; rw [hr']; exact ⟨hrl, fun x hx => (hrs x hx).short hz1⟩
        · obtain ⟨rows, vs3, rfl, hr, hok, hv3, rfl⟩ := z
          rw [List.length_range] at hr hv3
          have hmq' : muSet μ' p vs3 q = some (.l (ls.map layerD)) := by rw [muSet_ne hqp]; exact hmq
          simp [hmq']
          refine ⟨by omega, ls ++ [rows], by rw [total_snoc]; omega, lays_snoc L (by omega) hok, by simp [hlen], fun l' hl' => ?_, by rw [total_snoc]; omega, vs3, hv3.mono (by omega), ?_, ?_⟩
          · rcases List.mem_append.mp hl' with hl' | hl'
            · exact hwd l' hl'
            · rw [List.mem_singleton] at hl'; rw [hl']; omega
          · exact Sub.upd (Sub.setBoth hs) (by rw [muSet_ne hqp]; exact hq)
          · rw [muSet_same]; simp
    · obtain ⟨ls, vs', x, y, rfl, L, hlen, hwd, htot, hv', hs, hmq⟩ := z
      rw [List.length_range] at hlen htot hv'
      simp [hmq]
      refine ⟨p, n + total ls, sz, N + 1000 * dep, vs', by simp, hs.at_, hv', by omega, hz0, hz1, by omega, fun r vs4 hrl hrs hv4 => ?_⟩
      refine ⟨muSet μ p vs4, Sub.setBoth hs, ?_⟩
      exact h ls r vs4 ⟨hn0, hn1, by omega, L, by omega, hrl, fun x hx => (hrs x hx).short hz1⟩ hlen hwd hrs (hv4.mono (by omega))
theorem ok__law_rows (a : At K mg "_law_rows" s__law_rows) (F1 : FnD P w K mg base "_law_pick" 22 d__law_pick) (F2 : FnD P w K mg base "_law_draw" 21 d__law_draw) (T : TxC K mg C) : FnD P w K mg base "_law_rows" 28 d__law_rows := by
  refine fnD_ofW a (b__law_rows F1 F2 T) sc__law_rows (fun _ _ _ _ _ _ us hl => match us, hl with | [_, _, _], _ => rfl) ?_ ?_
  · rintro ds μ k ⟨p, n, t, N, vs, rfl, _⟩; rfl
  · rintro ds μ k ⟨p, n, t, N, vs, rfl, hp, hv, hn0, hn1, ht, hN, h⟩
    simp [r__law_rows]
    refine ⟨by omega, by omega, fun q hq => ?_⟩
    have hqp : q ≠ p := fun z => by rw [z, hp] at hq; cases hq
    refine for_inv (List.range t) (fun i : Nat => .int (0 + (i : Nat))) (fun i δ μ' => ∃ (rs : List (List Int)) (vs' : List D) (x y : Option D), δ = [some (.own p), some (.int (n : Nat)), some (.int (t : Nat)), some (.own q), x, y, none] ∧
      rs.length = i + 1 ∧ (∀ r ∈ rs, r.length = n ∧ ∀ x ∈ r, Sm 40 x) ∧ VOk vs' (N + 20 * i) ∧ Sub (muSet μ p vs') μ' ∧ μ' q = some (.l (rs.map rowD))) (fun kk hk => ?_) (fun i u δ μ' hu z => ?_) (fun δ μ' z => ?_)
    · simp
      refine ⟨by omega, hk _ _ (.r 0 t) ⟨[List.replicate n 0], vs, none, none, rfl, rfl, ?_, hv, ?_, ?_⟩ (fun _ _ _ _ => trivial)⟩
      · intro r hr
        rw [List.mem_singleton] at hr
        subst hr
        refine ⟨by simp, fun x hx => ?_⟩
        rw [List.mem_replicate] at hx
        rw [hx.2]; unfold Sm; decide
      · rw [muSet_self hp]; exact Sub.set hq
      · rw [muSet_same]; simp [rowD, intsD]
    · obtain ⟨rs, vs', x, y, rfl, hlen, hok, hv', hs, hmq⟩ := z
      obtain ⟨rfl, hi⟩ := range_get hu
      simp
      refine ⟨⟨by decide, by decide, by decide +kernel⟩, p, _, N + 20 * u, vs', rfl, hs.at_, hv', by simp, by simp, by omega, fun d vs2 hd hv2 => ?_⟩
      have fin : ∀ sz : Int, 0 ≤ sz → sz ≤ 1000000000 → d = .int sz → True := fun _ _ _ _ => trivial
      obtain ⟨sz, hz0, hz1, rfl⟩ : ∃ sz : Int, 0 ≤ sz ∧ sz ≤ 1000000000 ∧ d = .int sz := by
        simp at hd
        rcases hd with hd | hd | hd | hd
        · exact ⟨_, by decide, by decide, hd⟩
        · exact ⟨_, by decide, by decide, hd⟩
        · exact ⟨_, by decide, by decide, hd⟩
        · exact ⟨_, by decide, by decide, hd⟩
      have hmq' : muSet μ' p vs2 q = some (.l (rs.map rowD)) := by rw [muSet_ne hqp]; exact hmq
      simp [hmq']
      refine ⟨by omega, ?_⟩
      refine lcW_inv (List.range n) (fun i : Nat => .int (0 + (i : Nat))) (.r 0 n) (by simp; omega)
        (fun j acc μ'' => ∃ (r : List Int) (vs3 : List D), acc = intsD r ∧ r.length = j ∧ (∀ x ∈ r, Sm 40 x) ∧ VOk vs3 (N + 20 * u + 1 + j) ∧ μ'' = muSet μ' p vs3)
        ⟨[], vs2, rfl, rfl, by simp, hv2, rfl⟩ (fun _ _ _ _ => trivial) (fun j c acc μ'' hc z => ?_) (fun acc μ'' z => ?_)
      · obtain ⟨r, vs3, rfl, hr, hsm, hv3, rfl⟩ := z
        obtain ⟨rfl, hj⟩ := range_get hc
        simp
        refine ⟨sm_mulW (a := 2) (b := 40) (by unfold Sm; decide) (sm_le hz0 hz1 (by unfold Sm; decide)) (by omega) (by omega) (by omega), ?_⟩
        refine ⟨p, _, N + 20 * u + 1 + c, vs3, rfl, muSet_same, hv3, by omega, ?_, by omega, fun b vs4 b0 b1 hv4 => ?_⟩
        · have : Sm 40 (2 * sz + 1) := by unfold Sm; omega
          exact this.mono (by omega)
        · simp
          refine ⟨r ++ [b - sz], by simp [intsD], by simp [hr], fun x hx => ?_, vs4, hv4.mono (by omega), by rw [muSet_set]⟩
          rcases List.mem_append.mp hx with hx | hx
          · exact hsm x hx
          · rw [List.mem_singleton] at hx; rw [hx]; unfold Sm; omega
      · obtain ⟨r, vs3, rfl, hr, hsm, hv3, rfl⟩ := z
        rw [List.length_range] at hr hv3
        have hmq3 : muSet μ' p vs3 q = some (.l (rs.map rowD)) := by rw [muSet_ne hqp]; exact hmq
        refine ⟨_, hmq3, by simp; omega, rs ++ [r], by simp [hlen], fun r' hr' => ?_, vs3, hv3.mono (by omega), ?_, ?_⟩
        · rcases List.mem_append.mp hr' with hr' | hr'
          · exact hok r' hr'
          · rw [List.mem_singleton] at hr'; rw [hr']; exact ⟨hr, hsm⟩
        · exact Sub.upd (Sub.setBoth hs) (by rw [muSet_ne hqp]; exact hq)
        · rw [muSet_same]; simp
    · obtain ⟨rs, vs', x, y, rfl, hlen, hok, hv', hs, hmq⟩ := z
      rw [List.length_range] at hlen hv'
      simp [hmq]
      refine ⟨muSet μ p vs', Sub.del hs (by rw [muSet_ne hqp]; exact hq), ?_⟩
      exact h rs vs' (by omega) hok (hv'.mono (by omega))
end
end K21


set_option Elab.async false
set_option linter.all false
set_option maxRecDepth 100000
set_option maxHeartbeats 4000000
namespace K21
open PySem PySem.Spec PyProof.Rows L2 SlX StX DL
def d__law_thin : DSp := fun ds μ k => ∃ p r n N vs, ds = [.own p, rowD r, .int (n : Nat)] ∧ μ p = some (.l vs) ∧ VOk vs N ∧ n ≤ r.length ∧ r.length ≤ 1000 ∧ N + r.length < 2 ^ 30 ∧ ∀ (r' : List Int) vs', r'.length = r.length → (∀ x ∈ r', x = 0 ∨ x ∈ r) → VOk vs' (N + r.length) → k (rowD r') (muSet μ p (.l vs'))
def d__law_left : DSp := d_less_row
def d__law_trimmed : DSp := fun ds μ k => ∃ n ls la, ds = [.int (n : Nat), layersD ls, rowD la] ∧ IsNet n ls la ∧ total ls < 64 ∧ k (.tup [layersD (tLs n ls la), rowD (tLa n ls la)]) μ
def d__law_right : DSp := fun ds μ k => ∃ p N vs, ds = [.own p] ∧ μ p = some (.l vs) ∧ VOk vs N ∧ N + 20000 < 2 ^ 30 ∧ ∀ vs', VOk vs' (N + 20000) → k (.bl true) (muSet μ p (.l vs'))
def d_law : DSp := fun ds μ k => ∃ ns, ds = [.scr ns] ∧ ns.length ≤ 63 ∧ k (.bl true) μ
section
variable {P : Program} {w : World} {K : PySem.W.Frag} {mg : Str → Option Value} {base : Heap} {C : Addr}
abbrev s__law_thin : Stmt := topS 38
abbrev N__law_thin : List Str := ["_law_vat_here", "_law_row_here", "_law_inputs", "_law_weight"]
theorem sc__law_thin : FnScope N__law_thin ["_law_vat_here", "_law_row_here", "_law_inputs"] (defScope s__law_thin) := ⟨rfl, rfl, rfl, by decide +kernel, rfl, by decide +kernel, by decide +kernel⟩
def r__law_thin : RS :=
  (rRet (rOp oCatT (rSlc oSlT (rVar 1) rNo (rPart (rVar 2))) (rCB oTuple (rCons (rLc (rIT (rSlc oSlT (rVar 1) (rPart (rVar 2)) rNo)) (rgName 3) rYes (rIf (rB (rOp oEq (rCall d__law_draw (rCons (rVar 0) (rCons (rC (.int 3)) rNil))) (rC (.int 0)))) (rVar 3) (rC (.int 0))) [3]) rNil))))
theorem b__law_thin (F__law_draw : FnD P w K mg base "_law_draw" 21 d__law_draw) (T : TxC K mg C) : Body P w K mg base 28 "_law_thin" s__law_thin N__law_thin (r__law_thin) := by
  refine fun f => ⟨_, fun cdv A outer s H E hr => ⟨(pss_one (ps_ret (pe_op (ko_catA K) (pe_slice (ks_tupA K) (pv 1) po_none (po_some (pv 2))) (kt_call (kc_tuple K) T.b_tuple (pa_cons (pe_lc (own := [("_law_weight", 3)]) rfl sc__law_thin.nd (ki_tup K (pe_slice (ks_tupA K) (pv 1) (po_some (pv 2)) po_none)) (blkOk_by (own := [("_law_weight", 3)]) (N := N__law_thin) (sc := defScope s__law_thin) (by decide +kernel)) (fun _ _ _ _ _ => (pg_name (i := 3) sc__law_thin.nd rfl (by first | exact Or.inl rfl | exact Or.inr rfl))) (fun _ _ _ _ _ => pts_nil) (fun _ _ _ _ _ => (pe_ifExp (pt_cmpR (ko_eqD K hr.units) (ke_call K F__law_draw hr (pa_cons (pv 0) (pa_cons pe_int pa_nil))) pe_int (nomark _)) (pv 3) pe_int))) pa_nil))))),
    (okS_ret (okE_op okCatT (okE_slc okSlT (okE_var 1) okO_no (okO_part (okE_var 2))) (okE_CB okTuple (okA_cons (okE_lc (okI_tup (okE_slc okSlT (okE_var 1) (okO_part (okE_var 2)) okO_no)) (okG_name 3) okT_yes (okE_if (okT_test (okE_op okEq (okE_call (okA_cons (okE_var 0) (okA_cons (okE_C fun _ => .int _) okA_nil))) (okE_C fun _ => .int _))) (okE_var 3) (okE_C fun _ => .int _)) (by decide)) okA_nil))))⟩⟩

abbrev s__law_left : Stmt := topS 40
abbrev N__law_left : List Str := ["_law_row_here", "_law_inputs", "_law_stays", "_law_at"]
theorem sc__law_left : FnScope N__law_left ["_law_row_here", "_law_inputs", "_law_stays"] (defScope s__law_left) := ⟨rfl, rfl, rfl, by decide +kernel, rfl, by decide +kernel, by decide +kernel⟩
def r__law_left : RS :=
  (rRet (rOp oCatT (rSlc oSlT (rVar 0) rNo (rPart (rVar 1))) (rCB oTuple (rCons (rLc (rIL (rVar 2)) (rgName 3) (rB (rOp (oB (fun i j => decide (i < j))) (rOp (oI fun i j => i + j) (rVar 1) (rVar 3)) (rCB oLen (rCons (rVar 0) rNil)))) (rOp oIx (rVar 0) (rOp (oI fun i j => i + j) (rVar 1) (rVar 3))) [3]) rNil))))
theorem b__law_left (T : TxC K mg C) : Body P w K mg base 29 "_law_left" s__law_left N__law_left (r__law_left) := by
  refine fun f => ⟨_, fun cdv A outer s H E hr => ⟨(pss_one (ps_ret (pe_op (ko_catA K) (pe_slice (ks_tupA K) (pv 0) po_none (po_some (pv 1))) (kt_call (kc_tuple K) T.b_tuple (pa_cons (pe_lc (own := [("_law_at", 3)]) rfl sc__law_left.nd (ki_list K (pv 2)) (blkOk_by (own := [("_law_at", 3)]) (N := N__law_left) (sc := defScope s__law_left) (by decide +kernel)) (fun _ _ _ _ _ => (pg_name (i := 3) sc__law_left.nd rfl (by first | exact Or.inl rfl | exact Or.inr rfl))) (fun _ _ _ _ _ => (pts_one (pt_cmpR op_lt (pe_op op_add (pv 1) (pv 3)) (kb_call (kc_len K) T.b_len (pa_cons (pv 0) pa_nil)) (nomark _)))) (fun _ _ _ _ _ => (pe_ix (kx_seq K) (pv 0) (pe_op op_add (pv 1) (pv 3)) (fun _ _ => rfl)))) pa_nil))))),
    (okS_ret (okE_op okCatT (okE_slc okSlT (okE_var 0) okO_no (okO_part (okE_var 1))) (okE_CB okTuple (okA_cons (okE_lc (okI_list (okE_var 2)) (okG_name 3) (okT_test (okE_op okB (okE_op okI (okE_var 1) (okE_var 3)) (okE_CB okLen (okA_cons (okE_var 0) okA_nil)))) (okE_op okIx (okE_var 0) (okE_op okI (okE_var 1) (okE_var 3))) (by decide)) okA_nil))))⟩⟩

abbrev s__law_trimmed : Stmt := topS 39
abbrev N__law_trimmed : List Str := ["_law_inputs", "_law_layers", "_law_last", "_law_stays", "_law_at", "_law_told", "_law_depth", "_law_units", "_law_homes", "_law_layer", "_law_rows_here", "_law_one", "_law_row_here"]
theorem sc__law_trimmed : FnScope N__law_trimmed ["_law_inputs", "_law_layers", "_law_last"] (defScope s__law_trimmed) := ⟨rfl, rfl, rfl, by decide +kernel, rfl, by decide +kernel, by decide +kernel⟩
def r__law_trimmed : RS :=
  (rSeq (rAsg (rTup (rCons (rLstO rNil) (rCons (rLstO rNil) rNil))) (rgTup 2 (rgCons (rgName 7) (rgCons (rgName 8) rgNil))))
  (rSeq (rFor (rIE (rCons (rVar 1) rNil)) (rgTup 2 (rgCons (rgName 6) (rgCons (rgName 9) rgNil))) (rSeq (rDrop (rExt (rVar 7) (rCB oList (rCons (rVar 9) rNil))))
  (rDrop (rExt (rVar 8) (rOp oRep (rLst (rCons (rVar 6) rNil)) (rCB oLen (rCons (rVar 9) rNil)))))))
  (rFrz 8 (rFrz 7 (rSeq (rAsg (rLstO rNil) (rgName 3))
  (rSeq (rFor (rIR3 (rCons (rOp (oI fun i j => i - j) (rCB oLen (rCons (rVar 7) rNil)) (rC (.int 1))) (rCons (rUn oNeg (rC (.int 1))) (rCons (rUn oNeg (rC (.int 1))) rNil)))) (rgName 4) (rSeq (rAsg (rOp oCat (rLst (rCons (rVar 2) rNil)) (rLc (rIL (rVar 3)) (rgName 11) (rB (rOp (oB (fun i j => decide (j < i))) (rCB oLen (rCons (rOp oIx (rVar 7) (rVar 11)) rNil)) (rOp (oI fun i j => i + j) (rVar 0) (rVar 4)))) (rOp oIx (rVar 7) (rVar 11)) [11])) (rgName 10))
  (rIfS (rB (rOp oNe (rLc (rIL (rVar 10)) (rgName 12) (rB (rOp oNe (rOp oIx (rVar 12) (rOp (oI fun i j => i + j) (rVar 0) (rVar 4))) (rC (.int 0)))) (rVar 12) [12]) (rLst rNil))) (rDrop (rApp (rVar 3) (rVar 4))) rNext)))
  (rSeq (rAsg (rCB oSortI (rCons (rVar 3) rNil)) (rgName 3))
  (rSeq (rAsg (rLst rNil) (rgName 5))
  (rSeq (rFor (rIR1 (rCons (rCB oLen (rCons (rVar 1) rNil)) rNil)) (rgName 6) (rSeq (rAsg (rLc (rIL (rVar 3)) (rgName 4) (rB (rOp oEq (rOp oIx (rVar 8) (rVar 4)) (rVar 6))) (rCall d__law_left (rCons (rOp oIx (rVar 7) (rVar 4)) (rCons (rVar 0) (rCons (rVar 3) rNil)))) [4]) (rgName 9))
  (rAsg (rOp oCat (rVar 5) (rIf (rB (rOp oNe (rVar 9) (rLst rNil))) (rLst (rCons (rCB oTuple (rCons (rVar 9) rNil)) rNil)) (rLst rNil))) (rgName 5))))
  (rRet (rTup (rCons (rCB oTuple (rCons (rVar 5) rNil)) (rCons (rCall d__law_left (rCons (rVar 2) (rCons (rVar 0) (rCons (rVar 3) rNil)))) rNil)))))))))))))
theorem b__law_trimmed (F__law_left : FnD P w K mg base "_law_left" 30 d__law_left) (T : TxC K mg C) : Body P w K mg base 30 "_law_trimmed" s__law_trimmed N__law_trimmed (r__law_trimmed) := by
  refine fun f => ⟨_, fun cdv A outer s H E hr => ⟨(pss_cons (ps_asg (pe_tup (pa_cons (pe_lst pa_nil) (pa_cons (pe_lst pa_nil) pa_nil))) (kg_tup K (pgs_cons (pg_name (i := 7) sc__law_trimmed.nd rfl (Or.inr rfl)) (pgs_cons (pg_name (i := 8) sc__law_trimmed.nd rfl (Or.inr rfl)) pgs_nil))))
      (pss_cons (ps_for PassesOwn.never rfl (ki_enum K (by rfl) T.b_enumerate (pa_cons (pv 1) pa_nil)) (kg_tup K (pgs_cons (pg_name (i := 6) sc__law_trimmed.nd rfl (Or.inr rfl)) (pgs_cons (pg_name (i := 9) sc__law_trimmed.nd rfl (Or.inl rfl)) pgs_nil))) (pss_cons (ps_expr (ke_ext K (pv 7) (pa_cons (kt_call (kc_list K) T.b_list (pa_cons (pv 9) pa_nil)) pa_nil)))
      (pss_one (ps_expr (ke_ext K (pv 8) (pa_cons (pe_op op_rep (pe_lst (pa_cons (pv 6) pa_nil)) (kb_call (kc_len K) T.b_len (pa_cons (pv 9) pa_nil))) pa_nil))))))
      (pss_cons (ps_set (i := 3) sc__law_trimmed.nd rfl (Or.inr rfl) (pe_lst pa_nil))
      (pss_cons (ps_for PassesOwn.never rfl (kr_range3 T.b_range (pa_cons (pe_op op_sub (kb_call (kc_len K) T.b_len (pa_cons (pv 7) pa_nil)) pe_int) (pa_cons (pe_un un_neg pe_int) (pa_cons (pe_un un_neg pe_int) pa_nil)))) (pg_name (i := 4) sc__law_trimmed.nd rfl (Or.inr rfl)) (pss_cons (ps_set (i := 10) sc__law_trimmed.nd rfl (Or.inl rfl) (pe_op op_cat (pe_lst (pa_cons (pv 2) pa_nil)) (pe_lc (own := [("_law_one", 11)]) rfl sc__law_trimmed.nd (ki_list K (pv 3)) (blkOk_by (own := [("_law_one", 11)]) (N := N__law_trimmed) (sc := defScope s__law_trimmed) (by decide +kernel)) (fun _ _ _ _ _ => (pg_name (i := 11) sc__law_trimmed.nd rfl (by first | exact Or.inl rfl | exact Or.inr rfl))) (fun _ _ _ _ _ => (pts_one (pt_cmpR op_gt (kb_call (kc_len K) T.b_len (pa_cons (pe_ix (kx_seq K) (pv 7) (pv 11) (fun _ _ => rfl)) pa_nil)) (pe_op op_add (pv 0) (pv 4)) (nomark _)))) (fun _ _ _ _ _ => (pe_ix (kx_seq K) (pv 7) (pv 11) (fun _ _ => rfl))))))
      (pss_one (ps_if (pt_cmpR (ko_neD K hr.units) (pe_lc (own := [("_law_row_here", 12)]) rfl sc__law_trimmed.nd (ki_list K (pv 10)) (blkOk_by (own := [("_law_row_here", 12)]) (N := N__law_trimmed) (sc := defScope s__law_trimmed) (by decide +kernel)) (fun _ _ _ _ _ => (pg_name (i := 12) sc__law_trimmed.nd rfl (by first | exact Or.inl rfl | exact Or.inr rfl))) (fun _ _ _ _ _ => (pts_one (pt_cmpR (ko_neD K hr.units) (pe_ix (kx_seq K) (pv 12) (pe_op op_add (pv 0) (pv 4)) (fun _ _ => rfl)) pe_int (nomark _)))) (fun _ _ _ _ _ => (pv 12))) (pe_lst pa_nil) (nomark _)) (pss_one (ps_expr (ke_app K (pv 3) (pa_cons (pv 4) pa_nil)))) pss_nil))))
      (pss_cons (ps_set (i := 3) sc__law_trimmed.nd rfl (Or.inr rfl) (kb_call (kc_sorted K) T.b_sorted (pa_cons (pv 3) pa_nil)))
      (pss_cons (ps_set (i := 5) sc__law_trimmed.nd rfl (Or.inl rfl) (pe_lst pa_nil))
      (pss_cons (ps_for PassesOwn.never rfl (kr_range1 T.b_range (pa_cons (kb_call (kc_len K) T.b_len (pa_cons (pv 1) pa_nil)) pa_nil)) (pg_name (i := 6) sc__law_trimmed.nd rfl (Or.inr rfl)) (pss_cons (ps_setLc (i := 9) (own := [("_law_at", 4)]) rfl sc__law_trimmed.nd rfl rfl (sw_true rfl rfl rfl (by decide +kernel)) (ki_list K (pv 3)) (blkOk_by (own := [("_law_at", 4)]) (N := N__law_trimmed) (sc := defScope s__law_trimmed) (by decide +kernel)) (fun _ _ _ _ _ => (pg_name (i := 4) sc__law_trimmed.nd rfl (by first | exact Or.inl rfl | exact Or.inr rfl))) (fun _ _ _ _ _ => (pts_one (pt_cmpR (ko_eqD K hr.units) (pe_ix (kx_seq K) (pv 8) (pv 4) (fun _ _ => rfl)) (pv 6) (nomark _)))) (fun _ _ _ _ _ => (ke_call K F__law_left hr (pa_cons (pe_ix (kx_seq K) (pv 7) (pv 4) (fun _ _ => rfl)) (pa_cons (pv 0) (pa_cons (pv 3) pa_nil))))))
      (pss_one (ps_set (i := 5) sc__law_trimmed.nd rfl (Or.inl rfl) (pe_op op_cat (pv 5) (pe_ifExp (pt_cmpR (ko_neD K hr.units) (pv 9) (pe_lst pa_nil) (nomark _)) (pe_lst (pa_cons (kt_call (kc_tuple K) T.b_tuple (pa_cons (pv 9) pa_nil)) pa_nil)) (pe_lst pa_nil)))))))
      (pss_one (ps_ret (pe_tup (pa_cons (kt_call (kc_tuple K) T.b_tuple (pa_cons (pv 5) pa_nil)) (pa_cons (ke_call K F__law_left hr (pa_cons (pv 2) (pa_cons (pv 0) (pa_cons (pv 3) pa_nil)))) pa_nil)))))))))))),
    (okS_seq (okS_asg (okE_tup (okA_cons (okE_lstO okA_nil) (okA_cons (okE_lstO okA_nil) okA_nil))) (okG_tup (okGs_cons (okG_name 7) (okGs_cons (okG_name 8) okGs_nil))))
      (okS_seq (okS_for (okI_enum (okA_cons (okE_var 1) okA_nil)) (okG_tup (okGs_cons (okG_name 6) (okGs_cons (okG_name 9) okGs_nil))) (okS_seq (okS_drop (okE_ext (okE_var 7) (okE_CB okList (okA_cons (okE_var 9) okA_nil))))
      (okS_drop (okE_ext (okE_var 8) (okE_op okRep (okE_lst (okA_cons (okE_var 6) okA_nil)) (okE_CB okLen (okA_cons (okE_var 9) okA_nil)))))))
      (okS_frz (i := 8) (okS_frz (i := 7) (okS_seq (okS_asg (okE_lstO okA_nil) (okG_name 3))
      (okS_seq (okS_for (okI_range3 (okA_cons (okE_op okI (okE_CB okLen (okA_cons (okE_var 7) okA_nil)) (okE_C fun _ => .int _)) (okA_cons (okE_un okNeg (okE_C fun _ => .int _)) (okA_cons (okE_un okNeg (okE_C fun _ => .int _)) okA_nil)))) (okG_name 4) (okS_seq (okS_asg (okE_op okCat (okE_lst (okA_cons (okE_var 2) okA_nil)) (okE_lc (okI_list (okE_var 3)) (okG_name 11) (okT_test (okE_op okB (okE_CB okLen (okA_cons (okE_op okIx (okE_var 7) (okE_var 11)) okA_nil)) (okE_op okI (okE_var 0) (okE_var 4)))) (okE_op okIx (okE_var 7) (okE_var 11)) (by decide))) (okG_name 10))
      (okS_if (okT_test (okE_op okNe (okE_lc (okI_list (okE_var 10)) (okG_name 12) (okT_test (okE_op okNe (okE_op okIx (okE_var 12) (okE_op okI (okE_var 0) (okE_var 4))) (okE_C fun _ => .int _))) (okE_var 12) (by decide)) (okE_lst okA_nil))) (okS_drop (okE_app (okE_var 3) (okE_var 4))) okS_next)))
      (okS_seq (okS_asg (okE_CB okSortI (okA_cons (okE_var 3) okA_nil)) (okG_name 3))
      (okS_seq (okS_asg (okE_lst okA_nil) (okG_name 5))
      (okS_seq (okS_for (okI_range1 (okA_cons (okE_CB okLen (okA_cons (okE_var 1) okA_nil)) okA_nil)) (okG_name 6) (okS_seq (okS_asg (okE_lc (okI_list (okE_var 3)) (okG_name 4) (okT_test (okE_op okEq (okE_op okIx (okE_var 8) (okE_var 4)) (okE_var 6))) (okE_call (okA_cons (okE_op okIx (okE_var 7) (okE_var 4)) (okA_cons (okE_var 0) (okA_cons (okE_var 3) okA_nil)))) (by decide)) (okG_name 9))
      (okS_asg (okE_op okCat (okE_var 5) (okE_if (okT_test (okE_op okNe (okE_var 9) (okE_lst okA_nil))) (okE_lst (okA_cons (okE_CB okTuple (okA_cons (okE_var 9) okA_nil)) okA_nil)) (okE_lst okA_nil))) (okG_name 5))))
      (okS_ret (okE_tup (okA_cons (okE_CB okTuple (okA_cons (okE_var 5) okA_nil)) (okA_cons (okE_call (okA_cons (okE_var 2) (okA_cons (okE_var 0) (okA_cons (okE_var 3) okA_nil)))) okA_nil)))))))))))))⟩⟩

abbrev s__law_right : Stmt := topS 41
abbrev N__law_right : List Str := ["_law_vat_here", "_law_inputs", "_law_layers", "_law_last", "_law_told", "_law_network", "_law_due", "_law_layer", "_law_row_here", "_law_unit"]
theorem sc__law_right : FnScope N__law_right ["_law_vat_here"] (defScope s__law_right) := ⟨rfl, rfl, rfl, by decide +kernel, rfl, by decide +kernel, by decide +kernel⟩
def r__law_right (C : Addr) : RS :=
  (rSeq (rAsg (rOp (oI fun i j => i + j) (rC (.int 1)) (rCall d__law_draw (rCons (rVar 0) (rCons (rC (.int 3)) rNil)))) (rgName 1))
  (rSeq (rAsg (rCall d__law_parts (rCons (rVar 0) (rCons (rVar 1) (rCons (rCall d__law_draw (rCons (rVar 0) (rCons (rC (.int 5)) rNil))) (rCons (rC (.int 3)) (rCons (rC (.int 4)) rNil)))))) (rgTup 2 (rgCons (rgName 2) (rgCons (rgName 3) rgNil))))
  (rSeq (rAsg (rCB oTuple (rCons (rLc (rIT (rVar 2)) (rgName 7) rYes (rCB oTuple (rCons (rLc (rIT (rVar 7)) (rgName 9) rYes (rCall d__law_thin (rCons (rVar 0) (rCons (rVar 9) (rCons (rVar 1) rNil)))) [9]) rNil)) [7]) rNil)) (rgName 2))
  (rSeq (rAsg (rCall d__law_thin (rCons (rVar 0) (rCons (rVar 3) (rCons (rVar 1) rNil)))) (rgName 3))
  (rSeq (rAsg (rTup (rCons (rMk C inm_Network (rCons (rVar 1) (rCons (rVar 2) (rCons (rVar 3) rNil)))) (rCons (rCall d__law_trimmed (rCons (rVar 1) (rCons (rVar 2) (rCons (rVar 3) rNil)))) rNil))) (rgTup 2 (rgCons (rgName 5) (rgCons (rgName 6) rgNil))))
  (rSeq (rAsg (rCall (d_trimmed C) (rCons (rVar 5) rNil)) (rgName 4))
  (rSeq (rIfS (rOr (rB (rOp oNe (rTup (rCons (rGet C (d_inputs C) (rVar 4)) (rCons (rGet C (d_layers C) (rVar 4)) (rCons (rGet C (d_last C) (rVar 4)) rNil)))) (rOp oCatT (rTup (rCons (rVar 1) rNil)) (rVar 6)))) (rB (rOp (oNeC C (d_eq C)) (rCall (d_trimmed C) (rCons (rVar 4) rNil)) (rVar 4)))) (rRet (rC (.bl false))) rNext)
  (rRet (rOp oEq (rLc (rIL (rCall d__law_rows (rCons (rVar 0) (rCons (rVar 1) (rCons (rC (.int 5)) rNil))))) (rgName 8) (rB (rOp oNe (rCall (d_value_of C) (rCons (rVar 4) (rCons (rVar 8) rNil))) (rCall (d_value_of C) (rCons (rVar 5) (rCons (rVar 8) rNil))))) (rVar 8) [8]) (rLst rNil))))))))))
theorem b__law_right (F__law_draw : FnD P w K mg base "_law_draw" 21 d__law_draw) (F__law_parts : FnD P w K mg base "_law_parts" 26 d__law_parts) (F__law_thin : FnD P w K mg base "_law_thin" 29 d__law_thin) (F__law_trimmed : FnD P w K mg base "_law_trimmed" 31 d__law_trimmed) (F_trimmed : FnD P w K mg base "trimmed" 19 (d_trimmed C)) (F__law_rows : FnD P w K mg base "_law_rows" 28 d__law_rows) (F_value_of : FnD P w K mg base "value_of" 14 (d_value_of C)) (M_Network : MakD P w K mg base 7 "Network" C (spMk K C inm_Network)) (Q_inputs : PropD P w K mg base C "inputs" 1 (d_inputs C)) (Q_layers : PropD P w K mg base C "layers" 1 (d_layers C)) (Q_last : PropD P w K mg base C "last" 1 (d_last C)) (E_Network : SpD P w K mg base C "__eq__" 2 (d_eq C)) (T : TxC K mg C) : Body P w K mg base 31 "_law_right" s__law_right N__law_right (r__law_right C) := by
  refine fun f => ⟨_, fun cdv A outer s H E hr => ⟨(pss_cons (ps_set (i := 1) sc__law_right.nd rfl (Or.inr rfl) (pe_op op_add pe_int (ke_call K F__law_draw hr (pa_cons (pv 0) (pa_cons pe_int pa_nil)))))
      (pss_cons (ps_asg (ke_call K F__law_parts hr (pa_cons (pv 0) (pa_cons (pv 1) (pa_cons (ke_call K F__law_draw hr (pa_cons (pv 0) (pa_cons pe_int pa_nil))) (pa_cons pe_int (pa_cons pe_int pa_nil)))))) (kg_tup K (pgs_cons (pg_name (i := 2) sc__law_right.nd rfl (Or.inl rfl)) (pgs_cons (pg_name (i := 3) sc__law_right.nd rfl (Or.inl rfl)) pgs_nil))))
      (pss_cons (ps_set (i := 2) sc__law_right.nd rfl (Or.inl rfl) (kt_call (kc_tuple K) T.b_tuple (pa_cons (pe_lc (own := [("_law_layer", 7)]) rfl sc__law_right.nd (ki_tup K (pv 2)) (blkOk_by (own := [("_law_layer", 7)]) (N := N__law_right) (sc := defScope s__law_right) (by decide +kernel)) (fun _ _ _ _ _ => (pg_name (i := 7) sc__law_right.nd rfl (by first | exact Or.inl rfl | exact Or.inr rfl))) (fun _ _ _ _ _ => pts_nil) (fun _ _ _ _ _ => (kt_call (kc_tuple K) T.b_tuple (pa_cons (pe_lc (own := [("_law_unit", 9)]) rfl sc__law_right.nd (ki_tup K (pv 7)) (by refine blkOk_by (own := [("_law_unit", 9)]) (N := N__law_right) ?_; kernel_rfl) (fun _ _ _ _ _ => (pg_name (i := 9) sc__law_right.nd rfl (by first | exact Or.inl rfl | exact Or.inr rfl))) (fun _ _ _ _ _ => pts_nil) (fun _ _ _ _ _ => (ke_call K F__law_thin hr (pa_cons (pv 0) (pa_cons (pv 9) (pa_cons (pv 1) pa_nil)))))) pa_nil)))) pa_nil)))
      (pss_cons (ps_set (i := 3) sc__law_right.nd rfl (Or.inl rfl) (ke_call K F__law_thin hr (pa_cons (pv 0) (pa_cons (pv 3) (pa_cons (pv 1) pa_nil)))))
      (pss_cons (ps_asg (pe_tup (pa_cons (ke_mk M_Network hr (pa_cons (pv 1) (pa_cons (pv 2) (pa_cons (pv 3) pa_nil)))) (pa_cons (ke_call K F__law_trimmed hr (pa_cons (pv 1) (pa_cons (pv 2) (pa_cons (pv 3) pa_nil)))) pa_nil))) (kg_tup K (pgs_cons (pg_name (i := 5) sc__law_right.nd rfl (Or.inr rfl)) (pgs_cons (pg_name (i := 6) sc__law_right.nd rfl (Or.inl rfl)) pgs_nil))))
      (pss_cons (ps_set (i := 4) sc__law_right.nd rfl (Or.inr rfl) (ke_call K F_trimmed hr (pa_cons (pv 5) pa_nil)))
      (pss_cons (ps_if (PW.pt (pw_or (pt_cmpR (ko_neD K hr.units) (pe_tup (pa_cons (ke_prop K T.cmp.cls Q_inputs hr (pv 4)) (pa_cons (ke_prop K T.cmp.cls Q_layers hr (pv 4)) (pa_cons (ke_prop K T.cmp.cls Q_last hr (pv 4)) pa_nil)))) (pe_op (ko_catA K) (pe_tup (pa_cons (pv 1) pa_nil)) (pv 6)) (nomark _)) (pw_or1 (pt_cmpR (ko_neC T.cmp E_Network hr) (ke_call K F_trimmed hr (pa_cons (pv 4) pa_nil)) (pv 4) (nomark _))))) (pss_one (ps_ret pe_bl)) pss_nil)
      (pss_one (ps_ret (pe_cmpR (ko_eqD K hr.units) (pe_lc (own := [("_law_row_here", 8)]) rfl sc__law_right.nd (ki_list K (ke_call K F__law_rows hr (pa_cons (pv 0) (pa_cons (pv 1) (pa_cons pe_int pa_nil))))) (blkOk_by (own := [("_law_row_here", 8)]) (N := N__law_right) (sc := defScope s__law_right) (by decide +kernel)) (fun _ _ _ _ _ => (pg_name (i := 8) sc__law_right.nd rfl (by first | exact Or.inl rfl | exact Or.inr rfl))) (fun _ _ _ _ _ => (pts_one (pt_cmpR (ko_neD K hr.units) (ke_call K F_value_of hr (pa_cons (pv 4) (pa_cons (pv 8) pa_nil))) (ke_call K F_value_of hr (pa_cons (pv 5) (pa_cons (pv 8) pa_nil))) (nomark _)))) (fun _ _ _ _ _ => (pv 8))) (pe_lst pa_nil) (nomark _))))))))))),
    (okS_seq (okS_asg (okE_op okI (okE_C fun _ => .int _) (okE_call (okA_cons (okE_var 0) (okA_cons (okE_C fun _ => .int _) okA_nil)))) (okG_name 1))
      (okS_seq (okS_asg (okE_call (okA_cons (okE_var 0) (okA_cons (okE_var 1) (okA_cons (okE_call (okA_cons (okE_var 0) (okA_cons (okE_C fun _ => .int _) okA_nil))) (okA_cons (okE_C fun _ => .int _) (okA_cons (okE_C fun _ => .int _) okA_nil)))))) (okG_tup (okGs_cons (okG_name 2) (okGs_cons (okG_name 3) okGs_nil))))
      (okS_seq (okS_asg (okE_CB okTuple (okA_cons (okE_lc (okI_tup (okE_var 2)) (okG_name 7) okT_yes (okE_CB okTuple (okA_cons (okE_lc (okI_tup (okE_var 7)) (okG_name 9) okT_yes (okE_call (okA_cons (okE_var 0) (okA_cons (okE_var 9) (okA_cons (okE_var 1) okA_nil)))) (by decide)) okA_nil)) (by decide)) okA_nil)) (okG_name 2))
      (okS_seq (okS_asg (okE_call (okA_cons (okE_var 0) (okA_cons (okE_var 3) (okA_cons (okE_var 1) okA_nil)))) (okG_name 3))
      (okS_seq (okS_asg (okE_tup (okA_cons (okE_mk (okA_cons (okE_var 1) (okA_cons (okE_var 2) (okA_cons (okE_var 3) okA_nil)))) (okA_cons (okE_call (okA_cons (okE_var 1) (okA_cons (okE_var 2) (okA_cons (okE_var 3) okA_nil)))) okA_nil))) (okG_tup (okGs_cons (okG_name 5) (okGs_cons (okG_name 6) okGs_nil))))
      (okS_seq (okS_asg (okE_call (okA_cons (okE_var 5) okA_nil)) (okG_name 4))
      (okS_seq (okS_if (okT_or (okT_test (okE_op okNe (okE_tup (okA_cons (okE_prop (okE_var 4)) (okA_cons (okE_prop (okE_var 4)) (okA_cons (okE_prop (okE_var 4)) okA_nil)))) (okE_op okCatT (okE_tup (okA_cons (okE_var 1) okA_nil)) (okE_var 6)))) (okT_test (okE_op (okNeC T.cmp) (okE_call (okA_cons (okE_var 4) okA_nil)) (okE_var 4)))) (okS_ret (okE_C fun _ => .bl _)) okS_next)
      (okS_ret (okE_op okEq (okE_lc (okI_list (okE_call (okA_cons (okE_var 0) (okA_cons (okE_var 1) (okA_cons (okE_C fun _ => .int _) okA_nil))))) (okG_name 8) (okT_test (okE_op okNe (okE_call (okA_cons (okE_var 4) (okA_cons (okE_var 8) okA_nil))) (okE_call (okA_cons (okE_var 5) (okA_cons (okE_var 8) okA_nil))))) (okE_var 8) (by decide)) (okE_lst okA_nil))))))))))⟩⟩

abbrev s_law : Stmt := topS 42
abbrev N_law : List Str := ["_law_script", "_law_spot", "_law_long", "_law_vat_here", "_law_turn"]
theorem sc_law : FnScope N_law ["_law_script"] (defScope s_law) := ⟨rfl, rfl, rfl, by decide +kernel, rfl, by decide +kernel, by decide +kernel⟩
def r_law (C : Addr) : RS :=
  (rSeq (rFor (rIR1 (rCons (rCB (o2I fun i j => if j > i then j else i) (rCons (rC (.int 1)) (rCons (rCB (o2I fun i j => if j < i then j else i) (rCons (rC (.int 4)) (rCons (rCB oLen (rCons (rVar 0) rNil)) rNil))) rNil))) rNil)) (rgName 1) (rSeq (rAsg (rCall d__law_vat (rCons (rVar 0) (rCons (rVar 1) rNil))) (rgName 3))
  (rFor (rIR1 (rCons (rC (.int 4)) rNil)) (rgName 4) (rIfS (rNot (rB (rCall d__law_right (rCons (rVar 3) rNil)))) (rRet (rC (.bl false))) rNext))))
  (rSeq (rAsg (rMk C inm_Network (rCons (rC (.int 1)) (rCons (rTup (rCons (rTup (rCons (rTup (rCons (rC (.int 1)) rNil)) (rCons (rTup (rCons (rC (.int 2)) rNil)) rNil))) (rCons (rTup (rCons (rTup (rCons (rC (.int 0)) (rCons (rC (.int 0)) (rCons (rC (.int 1)) rNil)))) rNil)) (rCons (rTup (rCons (rTup (rCons (rC (.int 1)) (rCons (rC (.int 0)) (rCons (rC (.int 0)) (rCons (rC (.int 0)) rNil))))) rNil)) rNil)))) (rCons (rTup (rCons (rC (.int 1)) (rCons (rC (.int 3)) (rCons (rC (.int 0)) (rCons (rC (.int 0)) (rCons (rC (.int 0)) rNil)))))) rNil)))) (rgName 2))
  (rRet (rAndV (rOp (oEqC C (d_eq C)) (rCall (d_trimmed C) (rCons (rVar 2) rNil)) (rMk C inm_Network (rCons (rC (.int 1)) (rCons (rTup (rCons (rTup (rCons (rTup (rCons (rC (.int 1)) rNil)) rNil)) rNil)) (rCons (rTup (rCons (rC (.int 1)) (rCons (rC (.int 3)) rNil))) rNil))))) (rOp (oEqC C (d_eq C)) (rCall (d_trimmed C) (rCons (rMk C inm_Network (rCons (rC (.int 2)) (rCons (rTup (rCons (rTup (rCons (rTup (rCons (rC (.int 1)) (rCons (rC (.int 1)) rNil))) rNil)) rNil)) (rCons (rTup (rCons (rC (.int 5)) (rCons (rC (.int 0)) (rCons (rC (.int 0)) rNil)))) rNil)))) rNil)) (rMk C inm_Network (rCons (rC (.int 2)) (rCons (rTup rNil) (rCons (rTup (rCons (rC (.int 5)) (rCons (rC (.int 0)) rNil))) rNil)))))))))
theorem b_law (F__law_vat : FnD P w K mg base "_law_vat" 20 d__law_vat) (F__law_right : FnD P w K mg base "_law_right" 32 d__law_right) (F_trimmed : FnD P w K mg base "trimmed" 19 (d_trimmed C)) (M_Network : MakD P w K mg base 7 "Network" C (spMk K C inm_Network)) (E_Network : SpD P w K mg base C "__eq__" 2 (d_eq C)) (T : TxC K mg C) : Body P w K mg base 32 "law" s_law N_law (r_law C) := by
  refine fun f => ⟨_, fun cdv A outer s H E hr => ⟨(pss_cons (ps_for PassesOwn.never rfl (kr_range1 T.b_range (pa_cons (kb_call (call_max2 rfl) T.b_max (pa_cons pe_int (pa_cons (kb_call (call_min2 rfl) T.b_min (pa_cons pe_int (pa_cons (kb_call (kc_len K) T.b_len (pa_cons (pv 0) pa_nil)) pa_nil))) pa_nil))) pa_nil)) (pg_name (i := 1) sc_law.nd rfl (Or.inl rfl)) (pss_cons (ps_set (i := 3) sc_law.nd rfl (Or.inl rfl) (ke_call K F__law_vat hr (pa_cons (pv 0) (pa_cons (pv 1) pa_nil))))
      (pss_one (ps_for PassesOwn.never rfl (kr_range1 T.b_range (pa_cons pe_int pa_nil)) (pg_name (i := 4) sc_law.nd rfl (Or.inl rfl)) (pss_one (ps_if (pt_not (pt_val (ke_call K F__law_right hr (pa_cons (pv 3) pa_nil)))) (pss_one (ps_ret pe_bl)) pss_nil))))))
      (pss_cons (ps_set (i := 2) sc_law.nd rfl (Or.inl rfl) (ke_mk M_Network hr (pa_cons pe_int (pa_cons (pe_tup (pa_cons (pe_tup (pa_cons (pe_tup (pa_cons pe_int pa_nil)) (pa_cons (pe_tup (pa_cons pe_int pa_nil)) pa_nil))) (pa_cons (pe_tup (pa_cons (pe_tup (pa_cons pe_int (pa_cons pe_int (pa_cons pe_int pa_nil)))) pa_nil)) (pa_cons (pe_tup (pa_cons (pe_tup (pa_cons pe_int (pa_cons pe_int (pa_cons pe_int (pa_cons pe_int pa_nil))))) pa_nil)) pa_nil)))) (pa_cons (pe_tup (pa_cons pe_int (pa_cons pe_int (pa_cons pe_int (pa_cons pe_int (pa_cons pe_int pa_nil)))))) pa_nil)))))
      (pss_one (ps_ret (pe_and (pe_cmpR (ko_eqC E_Network hr) (ke_call K F_trimmed hr (pa_cons (pv 2) pa_nil)) (ke_mk M_Network hr (pa_cons pe_int (pa_cons (pe_tup (pa_cons (pe_tup (pa_cons (pe_tup (pa_cons pe_int pa_nil)) pa_nil)) pa_nil)) (pa_cons (pe_tup (pa_cons pe_int (pa_cons pe_int pa_nil))) pa_nil)))) (nomark _)) (pe_one (pe_cmpR (ko_eqC E_Network hr) (ke_call K F_trimmed hr (pa_cons (ke_mk M_Network hr (pa_cons pe_int (pa_cons (pe_tup (pa_cons (pe_tup (pa_cons (pe_tup (pa_cons pe_int (pa_cons pe_int pa_nil))) pa_nil)) pa_nil)) (pa_cons (pe_tup (pa_cons pe_int (pa_cons pe_int (pa_cons pe_int pa_nil)))) pa_nil)))) pa_nil)) (ke_mk M_Network hr (pa_cons pe_int (pa_cons (pe_tup pa_nil) (pa_cons (pe_tup (pa_cons pe_int (pa_cons pe_int pa_nil))) pa_nil)))) (nomark _)))))))),
    (okS_seq (okS_for (okI_range1 (okA_cons (okE_CB ok2I (okA_cons (okE_C fun _ => .int _) (okA_cons (okE_CB ok2I (okA_cons (okE_C fun _ => .int _) (okA_cons (okE_CB okLen (okA_cons (okE_var 0) okA_nil)) okA_nil))) okA_nil))) okA_nil)) (okG_name 1) (okS_seq (okS_asg (okE_call (okA_cons (okE_var 0) (okA_cons (okE_var 1) okA_nil))) (okG_name 3))
      (okS_for (okI_range1 (okA_cons (okE_C fun _ => .int _) okA_nil)) (okG_name 4) (okS_if (okT_not (okT_B (okE_call (okA_cons (okE_var 3) okA_nil)))) (okS_ret (okE_C fun _ => .bl _)) okS_next))))
      (okS_seq (okS_asg (okE_mk (okA_cons (okE_C fun _ => .int _) (okA_cons (okE_tup (okA_cons (okE_tup (okA_cons (okE_tup (okA_cons (okE_C fun _ => .int _) okA_nil)) (okA_cons (okE_tup (okA_cons (okE_C fun _ => .int _) okA_nil)) okA_nil))) (okA_cons (okE_tup (okA_cons (okE_tup (okA_cons (okE_C fun _ => .int _) (okA_cons (okE_C fun _ => .int _) (okA_cons (okE_C fun _ => .int _) okA_nil)))) okA_nil)) (okA_cons (okE_tup (okA_cons (okE_tup (okA_cons (okE_C fun _ => .int _) (okA_cons (okE_C fun _ => .int _) (okA_cons (okE_C fun _ => .int _) (okA_cons (okE_C fun _ => .int _) okA_nil))))) okA_nil)) okA_nil)))) (okA_cons (okE_tup (okA_cons (okE_C fun _ => .int _) (okA_cons (okE_C fun _ => .int _) (okA_cons (okE_C fun _ => .int _) (okA_cons (okE_C fun _ => .int _) (okA_cons (okE_C fun _ => .int _) okA_nil)))))) okA_nil)))) (okG_name 2))
      (okS_ret (okE_andV (okE_op (okEqC T.cmp) (okE_call (okA_cons (okE_var 2) okA_nil)) (okE_mk (okA_cons (okE_C fun _ => .int _) (okA_cons (okE_tup (okA_cons (okE_tup (okA_cons (okE_tup (okA_cons (okE_C fun _ => .int _) okA_nil)) okA_nil)) okA_nil)) (okA_cons (okE_tup (okA_cons (okE_C fun _ => .int _) (okA_cons (okE_C fun _ => .int _) okA_nil))) okA_nil))))) (okE_op (okEqC T.cmp) (okE_call (okA_cons (okE_mk (okA_cons (okE_C fun _ => .int _) (okA_cons (okE_tup (okA_cons (okE_tup (okA_cons (okE_tup (okA_cons (okE_C fun _ => .int _) (okA_cons (okE_C fun _ => .int _) okA_nil))) okA_nil)) okA_nil)) (okA_cons (okE_tup (okA_cons (okE_C fun _ => .int _) (okA_cons (okE_C fun _ => .int _) (okA_cons (okE_C fun _ => .int _) okA_nil)))) okA_nil)))) okA_nil)) (okE_mk (okA_cons (okE_C fun _ => .int _) (okA_cons (okE_tup okA_nil) (okA_cons (okE_tup (okA_cons (okE_C fun _ => .int _) (okA_cons (okE_C fun _ => .int _) okA_nil))) okA_nil)))))))))⟩⟩


end
end K21


set_option Elab.async false
set_option linter.all false
set_option maxRecDepth 100000
set_option maxHeartbeats 4000000
namespace K21
open PySem PySem.Spec PyProof.Rows L2 SlX StX DL
def homes : Nat → List (List (List Int)) → List Nat
  | _, [] => []
  | d, l :: ls => List.replicate l.length d ++ homes (d + 1) ls
theorem homes_snoc : ∀ (d : Nat) (ls : List (List (List Int))) (l : List (List Int)), homes d (ls ++ [l]) = homes d ls ++ List.replicate l.length (d + ls.length)
  | d, [], l => by simp [homes]
  | d, l' :: ls, l => by
    have ih := homes_snoc (d + 1) ls l
    simp only [List.cons_append, homes, ih, List.append_assoc, List.length_cons]
    rw [show d + 1 + ls.length = d + (ls.length + 1) by omega]
theorem homes_len : ∀ (d : Nat) (ls : List (List (List Int))), (homes d ls).length = total ls
  | d, [] => rfl
  | d, l :: ls => by
    have ih := homes_len (d + 1) ls
    simp [homes, ih, total]
theorem homes_at : ∀ {ls : List (List (List Int))} {d i a : Nat} {l : List (List Int)}, ls[i]? = some l → a < total ls → ((homes d ls).getD a 0 = d + i ↔ total (ls.take i) ≤ a ∧ a < total (ls.take i) + l.length)
  | [], _, _, _, _, h, _ => by simp at h
  | l0 :: ls, d, i, a, l, h, ha => by
    have ht : total (l0 :: ls) = l0.length + total ls := by simp [total]
    have lo : ∀ {ls : List (List (List Int))} {d a : Nat}, a < total ls → d ≤ (homes d ls).getD a 0 := by
      intro ls
      induction ls with
      | nil => intro d a h; simp [total] at h
      | cons l0 ls ih =>
        intro d a h
        have ht : total (l0 :: ls) = l0.length + total ls := by simp [total]
        by_cases q : a < l0.length
        · simp only [homes]
          rw [List.getD_eq_getElem?_getD, List.getElem?_append_left (by simpa using q), List.getElem?_replicate]
          simp [q]
        · have := ih (d := d + 1) (a := a - l0.length) (by omega)
          have e : (homes d (l0 :: ls)).getD a 0 = (homes (d + 1) ls).getD (a - l0.length) 0 := by
            simp only [homes]
            rw [List.getD_eq_getElem?_getD, List.getElem?_append_right (by simp; omega), List.length_replicate, ← List.getD_eq_getElem?_getD]
          rw [e]
          exact Nat.le_trans (Nat.le_succ d) this
    by_cases q : a < l0.length
    · have e : (homes d (l0 :: ls)).getD a 0 = d := by
        simp only [homes]
        rw [List.getD_eq_getElem?_getD, List.getElem?_append_left (by simpa using q), List.getElem?_replicate]
        simp [q]
      rw [e]
      cases i with
      | zero => simp at h; subst h; simp [total]; omega
      | succ i => simp [total]; omega
    · have e : (homes d (l0 :: ls)).getD a 0 = (homes (d + 1) ls).getD (a - l0.length) 0 := by
        simp only [homes]
        rw [List.getD_eq_getElem?_getD, List.getElem?_append_right (by simp; omega), List.length_replicate, ← List.getD_eq_getElem?_getD]
      rw [e]
      cases i with
      | zero =>
        simp at h; subst h
        have := lo (ls := ls) (d := d + 1) (a := a - l0.length) (by omega)
        have e0 : total ((l0 :: ls).take 0) = 0 := rfl
        rw [e0]; omega
      | succ i =>
        have ih := homes_at (ls := ls) (d := d + 1) (i := i) (a := a - l0.length) (l := l) (by simpa using h) (by omega)
        have e2 : total ((l0 :: ls).take (i + 1)) = l0.length + total (ls.take i) := by simp [total]
        rw [e2, show d + (i + 1) = d + 1 + i by omega, ih]
        omega
theorem stay_len {n : Nat} {us : List (List Int)} {la : List Int} : ∀ k, (stay n us la k).length ≤ k
  | 0 => Nat.le_refl _
  | k + 1 => by
    have := stay_len (n := n) (us := us) (la := la) k
    simp only [stay]
    split
    · simp; omega
    · omega
theorem stay_nodup {n : Nat} {us : List (List Int)} {la : List Int} : ∀ k, k ≤ us.length → (stay n us la k).Nodup
  | 0, _ => List.nodup_nil
  | k + 1, h => by
    have ih := stay_nodup (n := n) (us := us) (la := la) k (by omega)
    simp only [stay]
    split
    · rw [List.nodup_append]
      refine ⟨ih, by simp, fun a ha b hb => ?_⟩
      rw [List.mem_singleton] at hb
      have := stay_lt (by omega) ha
      omega
    · exact ih
theorem muSet_comm {μ : Mu} {p q : Addr} {a b : Cnt} (h : p ≠ q) : muSet (muSet μ p a) q b = muSet (muSet μ q b) p a := by
  funext x
  unfold muSet
  by_cases h1 : x = p
  · by_cases h2 : x = q
    · exact absurd (h1.symm.trans h2) h
    · simp [h1, h]
  · by_cases h2 : x = q
    · simp [h2, Ne.symm h]
    · simp [h1, h2]
theorem frz_of {i : Nat} {r : RS} {DD : DEnds} {δ : Sl} {μ : Mu} {p : Addr} {c : Cnt} (h1 : δ[i]? = some (some (.own p))) (h2 : μ p = some c) (h : r DD (δ.set i (some (cntD c))) (muDel μ p)) : rFrz i r DD δ μ := by
  unfold rFrz
  rw [h1]
  simp only [h2]
  exact h
section
variable {P : Program} {w : World} {K : PySem.W.Frag} {mg : Str → Option Value} {base : Heap} {C : Addr}
theorem ok__law_thin (a : At K mg "_law_thin" s__law_thin) (F : FnD P w K mg base "_law_draw" 21 d__law_draw) (T : TxC K mg C) : FnD P w K mg base "_law_thin" 29 d__law_thin := by
  refine fnD_of a (b__law_thin F T) sc__law_thin (fun _ _ _ _ _ _ us hl => match us, hl with | [_, _, _], _ => rfl) ?_ ?_
  · rintro ds μ k ⟨p, r, n, N, vs, rfl, _⟩; rfl
  · rintro ds μ k ⟨p, r, n, N, vs, rfl, hp, hv, h1, h2, hN, h⟩
    simp [r__law_thin]
    rw [cut_take, cut_drop n _ (by rw [List.length_map]; omega)]
    rw [← List.map_drop]
    refine lcW_inv (r.drop n) D.int (.l _) (by simp; omega)
      (fun i acc μ' => ∃ (q : List Int) (vs' : List D), acc = intsD q ∧ q.length = i ∧ (∀ x ∈ q, x = 0 ∨ x ∈ r) ∧ VOk vs' (N + i) ∧ μ' = muSet μ p (.l vs'))
      ⟨[], vs, rfl, rfl, by simp, hv, (muSet_self hp).symm⟩ (fun _ _ _ _ => trivial) (fun i x acc μ' hx z => ?_) (fun acc μ' z => ?_)
    · obtain ⟨q, vs', rfl, hq, hqm, hv', rfl⟩ := z
      have hil : i < (r.drop n).length := (List.getElem?_eq_some_iff.mp hx).1
      have hil2 : i < r.length := by rw [List.length_drop] at hil; omega
      have hxr : x ∈ r := List.mem_of_mem_drop (List.mem_of_getElem? hx)
      simp
      refine ⟨p, 3, N + i, vs', rfl, muSet_same, hv', by omega, (show Sm 4 (3 : Int) by unfold Sm; decide).mono (by omega), by omega, fun z vs2 z0 z1 hv2 => ?_⟩
      have fin : ∀ y : Int, (y = 0 ∨ y ∈ r) → ∃ (q' : List Int), intsD q ++ [D.int y] = intsD q' ∧ q'.length = i + 1 ∧ (∀ x ∈ q', x = 0 ∨ x ∈ r) ∧ ∃ (vs'' : List D), VOk vs'' (N + (i + 1)) ∧ muSet (muSet μ p (.l vs')) p (.l vs2) = muSet μ p (.l vs'') := fun y hy => by
        refine ⟨q ++ [y], by simp [intsD], by simp [hq], fun x hx => ?_, vs2, hv2, by rw [muSet_set]⟩
        rcases List.mem_append.mp hx with hx | hx
        · exact hqm x hx
        · rw [List.mem_singleton] at hx; rw [hx]; exact hy
      simp
      split
      · exact fin x (.inr hxr)
      · exact fin 0 (.inl rfl)
    · obtain ⟨q, vs', rfl, hq, hqm, hv', rfl⟩ := z
      simp
      have hql : q.length = r.length - n := by rw [hq, List.length_drop]
      refine ⟨by omega, ?_⟩
      have e : D.tup (List.take n (List.map D.int r) ++ intsD q) = rowD (r.take n ++ q) := by simp [intsD]
      rw [e]
      refine h _ _ (by simp; omega) (fun x hx => ?_) (hv'.mono (by omega))
      rcases List.mem_append.mp hx with hx | hx
      · exact .inr (List.mem_of_mem_take hx)
      · exact hqm x hx
theorem ok__law_left (a : At K mg "_law_left" s__law_left) (T : TxC K mg C) : FnD P w K mg base "_law_left" 30 d__law_left := by
  refine fnD_of a (b__law_left T) sc__law_left (fun _ _ _ _ _ _ us hl => match us, hl with | [_, _, _], _ => rfl) ?_ ?_
  · rintro ds μ k ⟨r, n, U, p, rfl, _⟩; rfl
  · rintro ds μ k ⟨r, n, U, p, rfl, h1, h2, h3, h4, h⟩
    simp [r__law_left]
    rw [cut_take]
    have hk := kept_len U p
    refine lcW_filt (keptP U p) (fun a : Nat => D.int (a : Nat)) (fun a => .int (wt r (n + a))) (fun a => decide (n + a < r.length)) (.l _) (by omega) (fun a ha kt kf hk1 hk0 => ?_) ?_
    · simp
      split
      · rename_i hlt
        exact ⟨_, at_wt2 (by omega), hk1 (by simp; omega)⟩
      · rename_i hlt
        exact hk0 (by simp; omega)
    · have hl : ((keptP U p).filter fun a => decide (n + a < r.length)).length ≤ U := Nat.le_trans (List.length_filter_le _ _) hk
      simp
      refine ⟨by omega, ?_⟩
      have e := kept_less (p := p) h1 h2
      simp only [intsD, List.map_take] at e
      rw [e]
      exact h
theorem vc_trimmed {n : Nat} {ls : List (List (List Int))} {la : List Int} {μ : Mu} {k : DK} (N : IsNet n ls la) (h64 : total ls < 64) (h : k (.tup [layersD (tLs n ls la), rowD (tLa n ls la)]) μ) :
    r__law_trimmed { nx := fun _ μ' => ∃ μ'', Sub μ'' μ' ∧ k .non μ'', rt := fun d μ' => ∃ μ'', Sub μ'' μ' ∧ k d μ'' } (startD N__law_trimmed [.int (n : Nat), layersD ls, rowD la]) μ := by
  have f1 := N.few
  have t1 := N.tot
  have hla := N.len
  have hi := N.hi
  have hfl : ls.flatten.length = total ls := (total_flat ls).symm
  unfold tLs tLa at h
  unfold r__law_trimmed
  refine seq_gen fun NX hNX => ?_
  simp
  intro q7 hq7 q8 hq8
  have h78 : q7 ≠ q8 := fun z => by rw [z, muSet_same] at hq8; cases hq8
  subst hNX
  refine seq_gen fun NX hNX => ?_
  obtain ⟨Inv, hInv⟩ : ∃ Inv : Nat → Sl → Mu → Prop, Inv = (fun i δ μ' => μ' = muSet (muSet μ q7 (.l ((ls.take i).flatten.map rowD))) q8 (.l (natsD (homes 0 (ls.take i)))) ∧ ∃ x6 x9, δ = [some (.int (n : Nat)), some (layersD ls), some (rowD la), none, none, none, x6, some (.own q7), some (.own q8), x9, none, none, none]) := ⟨_, rfl⟩
  simp only [rFor, rIE, rCons, rVar, rNil, List.getElem?_cons_succ, List.getElem?_cons_zero, List.set_cons_succ, List.set_cons_zero]
  refine ⟨_, rfl, ?_⟩
  have sr : Src (itE (layersD ls) (ls.map layerD)) (muSet (muSet μ q7 (.l [])) q8 (.l [])) (ls.zipIdx.map fun q => D.tup [.int (q.2 : Nat), layerD q.1]) := by
    have := Src.e (μ := muSet (muSet μ q7 (.l [])) q8 (.l [])) (x := layersD ls) (xs := ls.map layerD) rfl
    rw [List.zipIdx_map] at this
    rw [List.map_map] at this
    exact this
  refine forW_inv ls.zipIdx (fun q => D.tup [.int (q.2 : Nat), layerD q.1]) sr Inv ?_ (fun _ _ _ _ => rfl) (fun i q δ μ' hq z => ?_) (fun δ μ' z => ?_)
  · rw [hInv]
    exact ⟨by simp [homes], none, none, rfl⟩
  · rw [hInv] at z
    obtain ⟨rfl, x6, x9, rfl⟩ := z
    have hl : ls[i]? = some q.1 ∧ q.2 = i := by
      rw [List.getElem?_zipIdx] at hq
      cases e : ls[i]? with
      | none => rw [e] at hq; simp at hq
      | some l => rw [e] at hq; simp at hq; subst hq; exact ⟨rfl, rfl⟩
    obtain ⟨hl, hq2⟩ := hl
    have hoff := total_le (ls := ls) (i + 1)
    rw [total_take_succ hl] at hoff
    have hhl := homes_len 0 (ls.take i)
    have hfl2 : (ls.take i).flatten.length = total (ls.take i) := (total_flat _).symm
    simp only [rgTup, rgCons, rgName, rgNil, List.set_cons_succ, List.set_cons_zero]
    refine ⟨rfl, ?_⟩
    clear hNX
    refine seq_gen fun NX hNX => ?_
    simp [-List.map_flatten, -List.length_flatten]
    have a1 : muSet (muSet μ q7 (.l ((ls.take i).flatten.map rowD))) q8 (.l (natsD (homes 0 (ls.take i)))) q7 = some (.l ((ls.take i).flatten.map rowD)) := by rw [muSet_ne h78, muSet_same]
    refine ⟨⟨_, a1⟩, _, a1, by rw [List.length_map, hfl2]; omega, ?_⟩
    have a2 : ∀ X, muSet (muSet (muSet μ q7 (.l ((ls.take i).flatten.map rowD))) q8 (.l (natsD (homes 0 (ls.take i))))) q7 X q8 = some (.l (natsD (homes 0 (ls.take i)))) := fun X => by rw [muSet_ne (Ne.symm h78), muSet_same]
    subst hNX
    simp [-List.map_flatten, -List.length_flatten]
    refine ⟨⟨_, a2 _⟩, by omega, _, a2 _, by rw [List.length_map, hhl]; omega, ?_⟩
    rw [hInv]
    refine ⟨?_, some (.int (q.2 : Nat)), some (layerD q.1), rfl⟩
    rw [muSet_comm (Ne.symm h78), muSet_set, muSet_set, take_succ_of hl, homes_snoc, hq2]
    congr 1
    · congr 1
      simp
    · have : (ls.take i).length = i := by
        rw [List.length_take]
        have : i < ls.length := (List.getElem?_eq_some_iff.mp hl).1
        omega
      simp [this]
  · rw [hInv] at z
    obtain ⟨rfl, x6, x9, rfl⟩ := z
    subst hNX
    dsimp only
    rw [List.length_zipIdx, List.take_length]
    have b8 : muSet μ q7 (.l (ls.flatten.map rowD)) q8 = none := by rw [muSet_ne (Ne.symm h78)]; rw [muSet_ne (Ne.symm h78)] at hq8; exact hq8
    refine frz_of rfl muSet_same ?_
    rw [muDel_set, muDel_none b8]
    refine frz_of rfl muSet_same ?_
    rw [muDel_set, muDel_none hq7]
    generalize hus : ls.flatten = us at hfl h ⊢
    generalize hpm : mat n us la = pm at h
    refine seq_gen fun NX hNX => ?_
    simp
    intro p hp
    subst hNX
    refine seq_gen fun NX hNX => ?_
    simp [rFor, rIR3, hfl]
    refine ⟨total ls, ?_, ?_⟩
    · have := RgC.neg (i := (total ls : Int) - 1) (j := -1) (by omega) (by omega) (by omega) (by omega)
      rwa [show ((total ls : Int) - 1 - -1).toNat = total ls by omega] at this
    obtain ⟨Inv, hInv⟩ : ∃ Inv : Nat → Sl → Mu → Prop, Inv = (fun t δ μ' => μ' = muSet μ p (.l (natsD (stay n us la t))) ∧ ∃ x4 x10, δ = [some (.int (n : Nat)), some (layersD ls), some (rowD la), some (.own p), x4, none, x6, some (.lst (us.map rowD)), some (.lst (natsD (homes 0 ls))), x9, x10, none, none]) := ⟨_, rfl⟩
    refine forW_inv (List.range (total ls)) (fun t : Nat => .int ((total ls : Int) - 1 + -(t : Nat))) (src_dn _ _) Inv ?_ (fun _ _ _ _ => trivial) (fun t x δ μ' hx z => ?_) (fun δ μ' z => ?_)
    · rw [hInv]
      exact ⟨rfl, none, none, rfl⟩
    · rw [hInv] at z
      obtain ⟨rfl, x4, x10, rfl⟩ := z
      obtain ⟨rfl, ht⟩ := range_get hx
      obtain ⟨a, ha⟩ : ∃ a : Nat, a = total ls - 1 - x := ⟨_, rfl⟩
      have eat : (total ls : Int) - 1 + -(x : Nat) = (a : Int) := by omega
      rw [eat]
      have hau : a < us.length := by omega
      have estay : stay n us la (x + 1) = if need n us la (stay n us la x) a = true then stay n us la x ++ [a] else stay n us la x := by
        rw [ha]; simp only [stay, hfl]
      have hsl := stay_len (n := n) (us := us) (la := la) x
      have hsm : ∀ b ∈ stay n us la x, b < us.length := fun b hb => (stay_lt (by omega) hb).2
      simp only [rgName, List.set_cons_succ, List.set_cons_zero]
      clear hNX
      refine seq_gen fun NX hNX => ?_
      simp [muSet_same]
      have hrow : ∀ b, b < us.length → atI (us.map rowD) (b : Int) = some (rowD (us.getD b [])) := fun b hb => by
        unfold atI
        rw [List.length_map, ixN_nat hb]
        show (us.map rowD)[b]? = _
        rw [List.getElem?_map, List.getElem?_eq_getElem hb, List.getD_eq_getElem?_getD, List.getElem?_eq_getElem hb]
        rfl
      refine lcW_filt (stay n us la x) (fun b : Nat => D.int (b : Nat)) (fun b => rowD (us.getD b [])) (fun b => decide (n + a < (us.getD b []).length)) (.o muSet_same) (by omega) (fun b hb kt kf hk1 hk0 => ?_) ?_
      · simp
        refine ⟨_, hrow b (hsm b hb), (us.getD b []).length, by simp, ?_⟩
        split
        · rename_i hlt
          exact ⟨_, hrow b (hsm b hb), hk1 (decide_eq_true (by omega))⟩
        · rename_i hlt
          exact hk0 (decide_eq_false (by omega))
      obtain ⟨rows, hrows⟩ : ∃ rows : List (List Int), rows = la :: ((stay n us la x).filter fun b => decide (n + a < (us.getD b []).length)).map fun b => us.getD b [] := ⟨_, rfl⟩
      have erows : rowD la :: ((stay n us la x).filter fun b => decide (n + a < (us.getD b []).length)).map (fun b => rowD (us.getD b [])) = rows.map rowD := by
        rw [hrows]; simp
      have hrl : rows.length ≤ 1 + x := by
        rw [hrows]
        have := List.length_filter_le (fun b => decide (n + a < (us.getD b []).length)) (stay n us la x)
        simp only [List.length_cons, List.length_map]; omega
      have hrlen : ∀ r ∈ rows, n + a < r.length := fun r hr => by
        rw [hrows] at hr
        rcases List.mem_cons.mp hr with rfl | hr
        · omega
        · obtain ⟨b, hb, rfl⟩ := List.mem_map.mp hr
          exact of_decide_eq_true (List.mem_filter.mp hb).2
      have hneed : decide (rows.filter (fun r => decide (wt r (n + a) ≠ 0)) ≠ []) = need n us la (stay n us la x) a := by
        rw [Bool.eq_iff_iff]
        simp only [need, Bool.or_eq_true, decide_eq_true_eq, List.any_eq_true, ne_eq, List.filter_eq_nil_iff, Classical.not_forall, Classical.not_not]
        constructor
        · rintro ⟨r, hr, hz⟩
          rw [hrows] at hr
          rcases List.mem_cons.mp hr with rfl | hr
          · exact .inl hz
          · obtain ⟨b, hb, rfl⟩ := List.mem_map.mp hr
            exact .inr ⟨b, (List.mem_filter.mp hb).1, hz⟩
        · rintro (hz | ⟨b, hb, hz⟩)
          · exact ⟨la, by rw [hrows]; simp, hz⟩
          · refine ⟨us.getD b [], ?_, hz⟩
            rw [hrows]
            refine List.mem_cons_of_mem _ (List.mem_map.mpr ⟨b, List.mem_filter.mpr ⟨hb, decide_eq_true ?_⟩, rfl⟩)
            by_cases q : n + a < (us.getD b []).length
            · exact q
            · exact absurd (wt_ge (by omega)) hz
      refine ⟨by have := List.length_filter_le (fun b => decide (n + a < (us.getD b []).length)) (stay n us la x); rw [List.length_map]; omega, ?_⟩
      subst hNX
      rw [erows]
      simp only [rIfS, rB, rOp, oNe, rLc, rIL, rVar, rLst, rNil, itOf, List.getElem?_cons_succ, List.getElem?_cons_zero]
      refine ⟨_, rfl, ?_⟩
      refine lcW_filt rows rowD rowD (fun r => decide (wt r (n + a) ≠ 0)) (.l _) (by omega) (fun r hr kt kf hk1 hk0 => ?_) ?_
      · simp
        refine ⟨_, at_wt2 (hrlen r hr), ?_⟩
        simp
        split
        · rename_i hz
          exact hk0 (by simp [hz])
        · rename_i hz
          exact hk1 (by simp [hz])
      refine ⟨by show 0 ≤ 1000000; omega, ?_⟩
      refine cmRow.lst.toNe (x := rows.filter fun r => decide (wt r (n + a) ≠ 0)) (y := []) (cmRow.lst.as _ _) (cmRow.lst.as _ []) (by decide) ?_
      have e3 : (!decide ((rows.filter fun r => decide (wt r (n + a) ≠ 0)) = [])) = need n us la (stay n us la x) a := by
        rw [← hneed]; simp only [ne_eq, decide_not]
      rw [e3]
      simp only [asB]
      by_cases hnd : need n us la (stay n us la x) a = true
      · rw [if_pos hnd] at estay
        rw [if_pos hnd]
        simp only [rDrop, rApp, rVar, List.getElem?_cons_succ, List.getElem?_cons_zero]
        refine ⟨⟨_, muSet_same⟩, _, muSet_same, by rw [List.length_map]; omega, ?_⟩
        rw [hInv]
        refine ⟨by rw [muSet_set, estay]; simp, some (.int (a : Nat)), some (.lst (rows.map rowD)), rfl⟩
      · rw [if_neg hnd] at estay
        rw [if_neg hnd]
        simp only [rNext]
        rw [hInv]
        refine ⟨by rw [estay], some (.int (a : Nat)), some (.lst (rows.map rowD)), rfl⟩
    · rw [hInv] at z
      obtain ⟨rfl, x4, x10, rfl⟩ := z
      subst hNX
      dsimp only
      refine seq_gen fun NX hNX => ?_
      simp only [rAsg, rCB, oSortI, rCons, rVar, rNil, List.getElem?_cons_succ, List.getElem?_cons_zero]
      rw [List.length_range]
      have hkk : (keptP (total ls) pm).Pairwise (· < ·) := List.pairwise_lt_range.filter _
      have hkl := kept_len (total ls) pm
      have hsl := stay_len (n := n) (us := us) (la := la) (total ls)
      refine ⟨(stay n us la (total ls)).map fun a : Nat => (a : Int), by simp [muSet_same, List.map_map, Function.comp_def], by rw [List.length_map]; omega, fun ys h1 h2 => ?_⟩
      have hys := sorted_nats (stay_nodup (total ls) (by omega)) hkk (fun b => by
        unfold keptP
        rw [List.mem_filter, List.mem_range, ← hpm]
        unfold mat
        rw [hfl, decide_eq_true_eq]
        exact ⟨fun hb => ⟨by have := (stay_lt (by omega) hb).2; omega, hb⟩, fun hb => hb.2⟩) h1 h2
      have ekept : ys.map D.int = natsD (keptP (total ls) pm) := by rw [hys, List.map_map]; rfl
      rw [ekept]
      simp only [rgName, List.set_cons_succ, List.set_cons_zero]
      subst hNX
      refine seq_gen fun NX hNX => ?_
      simp
      subst hNX
      refine seq_gen fun NX hNX => ?_
      have hp2 : Sub μ (muSet μ p (.l (natsD (stay n us la (total ls))))) := Sub.set hp
      generalize muSet μ p (.l (natsD (stay n us la (total ls)))) = μ2 at hp2 ⊢
      obtain ⟨Inv, hInv⟩ : ∃ Inv : Nat → Sl → Mu → Prop, Inv = (fun i δ μ' => μ' = μ2 ∧ ∃ x4 x6 x9, δ = [some (.int (n : Nat)), some (layersD ls), some (rowD la), some (.lst (natsD (keptP (total ls) pm))), x4, some (.lst ((trimLs n pm 0 (ls.take i)).map layerD)), x6, some (.lst (us.map rowD)), some (.lst (natsD (homes 0 ls))), x9, x10, none, none]) := ⟨_, rfl⟩
      refine for_inv (List.range ls.length) (fun i : Nat => .int (0 + (i : Nat))) Inv (fun kk hk => ?_) (fun i x δ μ' hx z => ?_) (fun δ μ' z => ?_)
      · simp
        refine ⟨by omega, ?_⟩
        refine hk _ _ (.r 0 _) ?_ (fun _ _ _ _ => trivial)
        rw [hInv]
        exact ⟨rfl, x4, x6, x9, by simp [trimLs]⟩
      · rw [hInv] at z
        obtain ⟨rfl, x4, x6, x9, rfl⟩ := z
        obtain ⟨rfl, hx2⟩ := range_get hx
        have hl : ls[x]? = some ls[x] := List.getElem?_eq_getElem hx2
        generalize ls[x] = l at hl
        have hoff := total_le (ls := ls) (x + 1)
        rw [total_take_succ hl] at hoff
        have hhl := homes_len 0 ls
        simp only [rgName, List.set_cons_succ, List.set_cons_zero]
        clear hNX
        refine seq_gen fun NX hNX => ?_
        simp
        refine lcW_filt (keptP (total ls) pm) (fun a : Nat => D.int (a : Nat)) (fun a => rowD (lessR n pm (us.getD a []))) (fun a => decide (total (ls.take x) ≤ a) && decide (a < total (ls.take x) + l.length)) (.l _) (by omega) (fun a ha kt kf hk1 hk0 => ?_) ?_
        · have hal : a < total ls := List.mem_range.mp (List.mem_filter.mp ha).1
          have hhome := homes_at (d := 0) (a := a) hl hal
          rw [Nat.zero_add] at hhome
          have hra := flat_row N.lays (j := a) (r := us.getD a []) (by rw [hus, List.getD_eq_getElem?_getD, List.getElem?_eq_getElem (by omega)]; rfl)
          have hat : atI (natsD (homes 0 ls)) (a : Int) = some (.int ((homes 0 ls).getD a 0 : Nat)) := by
            unfold atI
            rw [List.length_map, ixN_nat (by omega)]
            show (natsD (homes 0 ls))[a]? = _
            rw [List.getElem?_map, List.getD_eq_getElem?_getD, List.getElem?_eq_getElem (by omega)]
            rfl
          have hau : a < us.length := by omega
          generalize (homes 0 ls).getD a 0 = hm at hhome hat
          simp only [rgName, wipeD, rB, rOp, oEq, oIx, rVar, rCall, rCons, rNil, asQ, List.set_cons_succ, List.set_cons_zero, List.getElem?_cons_succ, List.getElem?_cons_zero]
          refine ⟨_, _, rfl, ⟨_, rfl, hat⟩, ?_⟩
          refine oEq_int.mpr ?_
          simp only [asB]
          by_cases hq : hm = x
          · have hq2 := hhome.mp hq
            rw [if_pos (decide_eq_true (by omega))]
            refine ⟨_, rowD (us.getD a []), rfl, ⟨_, rfl, ?_⟩, us.getD a [], n, total ls, pm, rfl, hra.1, by omega, by omega, by omega, hk1 (by simp; omega)⟩
            unfold atI
            rw [List.length_map, ixN_nat hau]
            show (us.map rowD)[a]? = _
            rw [List.getElem?_map, List.getElem?_eq_getElem hau, List.getD_eq_getElem?_getD, List.getElem?_eq_getElem hau]
            rfl
          · have hq2 : ¬ (total (ls.take x) ≤ a ∧ a < total (ls.take x) + l.length) := fun z => hq (hhome.mpr z)
            rw [if_neg (by simp; omega)]
            exact hk0 (by simp; omega)
        · rw [place_eq (by omega)]
          have hrows := place_rows (n := n) (p := pm) hl
          rw [hus] at hrows
          have hsn : trimLs n pm 0 (ls.take (x + 1)) = trimLs n pm 0 (ls.take x) ++ oneL (trimL n pm (total (ls.take x)) l) := by
            rw [take_succ_of hl, trimLs_snoc]; simp
          have hfew := trim_few n pm 0 (ls.take x)
          have hil : (ls.take x).length ≤ 4 := by rw [List.length_take]; omega
          have hpll := place_len pm (total (ls.take x)) l.length
          have emap : (place pm (total (ls.take x)) l.length).map (fun a => rowD (lessR n pm (us.getD a []))) = (trimL n pm (total (ls.take x)) l).map rowD := by
            rw [← hrows, List.map_map]; rfl
          rw [emap]
          have htl : (trimL n pm (total (ls.take x)) l).length ≤ l.length := by rw [← hrows, List.length_map]; exact hpll
          generalize trimL n pm (total (ls.take x)) l = tl at hsn htl ⊢
          subst hNX
          simp only [rAsg, rOp, oCat, rIf, rB, oNe, rVar, rLst, rCons, rCB, oTuple, rNil, List.getElem?_cons_succ, List.getElem?_cons_zero]
          refine ⟨by show 0 ≤ 1000000; omega, ?_⟩
          refine cmRow.lst.toNe (x := tl) (y := []) (cmRow.lst.as _ _) (cmRow.lst.as _ []) (by decide) ?_
          simp only [asB]
          by_cases ht : tl = []
          · rw [if_neg (by simp [ht])]
            refine ⟨by show 0 ≤ 1000000; omega, _, _, rfl, rfl, by rw [List.length_map]; show _ + 0 ≤ 1000000; omega, ?_⟩
            simp only [rgName, List.set_cons_succ, List.set_cons_zero]
            rw [hInv]
            refine ⟨rfl, x4, some (.int (x : Nat)), some (.lst (tl.map rowD)), ?_⟩
            rw [hsn, ht]; simp [oneL]
          · rw [if_pos (by simp [ht])]
            refine ⟨_, rfl, by show 1 ≤ 1000000; omega, _, _, rfl, rfl, by rw [List.length_map]; show _ + 1 ≤ 1000000; omega, ?_⟩
            simp only [rgName, List.set_cons_succ, List.set_cons_zero]
            rw [hInv]
            refine ⟨rfl, x4, some (.int (x : Nat)), some (.lst (tl.map rowD)), ?_⟩
            rw [hsn]; simp [oneL, ht]
      · rw [hInv] at z
        obtain ⟨rfl, x4, x6, x9, rfl⟩ := z
        rw [List.length_range, List.take_length]
        subst hNX
        simp
        refine ⟨la, n, total ls, pm, rfl, by omega, by omega, by omega, by omega, ?_⟩
        refine ⟨μ, hp2, ?_⟩
        exact h
theorem ok__law_trimmed (a : At K mg "_law_trimmed" s__law_trimmed) (F : FnD P w K mg base "_law_left" 30 d__law_left) (T : TxC K mg C) : FnD P w K mg base "_law_trimmed" 31 d__law_trimmed := by
  refine fnD_ofW a (b__law_trimmed F T) sc__law_trimmed (fun _ _ _ _ _ _ us hl => match us, hl with | [_, _, _], _ => rfl) ?_ ?_
  · rintro ds μ k ⟨n, ls, la, rfl, _⟩; rfl
  · rintro ds μ k ⟨n, ls, la, rfl, N, h64, h⟩
    exact vc_trimmed N h64 h
end
end K21


set_option Elab.async false
set_option linter.all false
set_option maxRecDepth 100000
set_option maxHeartbeats 4000000
namespace K21
open PySem PySem.Spec PyProof.Rows L2 SlX StX DL
theorem sm40_short {x : Int} (h : Sm 40 x) : short x = true := by
  rw [short_iff]
  have e : sixty = 10 ^ 60 := by decide +kernel
  rw [e]
  unfold Sm at h
  omega
theorem short0 : short 0 = true := by decide +kernel
theorem total_wide {w : Nat} : ∀ {ls : List (List (List Int))}, (∀ l ∈ ls, l.length ≤ w) → total ls ≤ w * ls.length
  | [], _ => by simp [total]
  | l :: ls, h => by
    have h1 := h l (by simp)
    have ih := total_wide (ls := ls) (w := w) (fun l' hl => h l' (List.mem_cons_of_mem _ hl))
    have e : total (l :: ls) = l.length + total ls := by simp [total]
    rw [e, List.length_cons, Nat.mul_add]; omega
theorem vc_right {C : Addr} {p : Addr} {N : Nat} {vs : List D} {μ : Mu} {k : DK} (hp : μ p = some (.l vs)) (hv : VOk vs N) (hN : N + 20000 < 2 ^ 30) (h : ∀ vs', VOk vs' (N + 20000) → k (.bl true) (muSet μ p (.l vs'))) :
    r__law_right C { nx := fun _ μ' => ∃ μ'', Sub μ'' μ' ∧ k .non μ'', rt := fun d μ' => ∃ μ'', Sub μ'' μ' ∧ k d μ'' } (startD N__law_right [.own p]) μ := by
  unfold r__law_right
  refine seq_gen fun NX hNX => ?_
  simp
  refine ⟨p, 3, N, vs, rfl, hp, hv, by omega, (show Sm 4 (3 : Int) by unfold Sm; decide).mono (by omega), by omega, fun r1 vs1 r10 r11 hv1 => ?_⟩
  simp
  obtain ⟨n, hn⟩ : ∃ n : Nat, 1 + r1 = (n : Int) := ⟨(1 + r1).toNat, by omega⟩
  rw [hn]
  subst hNX
  refine seq_gen fun NX hNX => ?_
  simp
  refine ⟨p, 5, N + 1, vs1, rfl, muSet_same, hv1, by omega, (show Sm 4 (5 : Int) by unfold Sm; decide).mono (by omega), by omega, fun dep1 vs2 dep10 dep11 hv2 => ?_⟩
  simp only [muSet_set]
  obtain ⟨d1, rfl⟩ : ∃ d1 : Nat, dep1 = (d1 : Int) := ⟨dep1.toNat, by omega⟩
  refine ⟨p, n, d1, 3, 4, N + 2, vs2, rfl, muSet_same, hv2, by omega, by omega, by omega, by omega, by omega, by omega, by omega, by omega, fun l0 a0 vs3 N0 h11 h12 h13 hv3 => ?_⟩
  simp only [muSet_set]
  simp
  have htw := total_wide h12
  have hl0 := N0.len
  have hn8 := N0.hi
  have hf0 := N0.few
  have ht12 : total l0 ≤ 12 := by omega
  subst hNX
  refine seq_gen fun NX hNX => ?_
  simp
  refine lcW_inv l0 layerD (.l _) (by omega)
    (fun i acc μ' => ∃ (ls : List (List (List Int))) (vs' : List D), acc = ls.map layerD ∧ ls.length = i ∧ Lays ls n ∧ total ls = total (l0.take i) ∧ VOk vs' (N + 5002 + 1000 * i) ∧ μ' = muSet μ p (.l vs'))
    ⟨[], vs3, rfl, rfl, trivial, by simp [total], hv3, rfl⟩ (fun _ _ _ _ => trivial) (fun i l acc μ' hl z => ?_) (fun acc μ' z => ?_)
  · obtain ⟨ls, vs', rfl, hlen, L, htot, hv', rfl⟩ := z
    have hil : i < l0.length := (List.getElem?_eq_some_iff.mp hl).1
    obtain ⟨b1, b2⟩ := lays_at N0.lays hl
    have hoff := total_le (ls := l0) (i + 1)
    rw [total_take_succ hl] at hoff
    have hlw := h12 l (List.mem_of_getElem? hl)
    simp
    refine lcW_inv l rowD (.l _) (by omega)
      (fun j acc μ' => ∃ (rs : List (List Int)) (vs2 : List D), acc = rs.map rowD ∧ rs.length = j ∧ (∀ r ∈ rs, r.length = n + total ls ∧ ∀ x ∈ r, short x = true) ∧ VOk vs2 (N + 5002 + 1000 * i + 100 * j) ∧ μ' = muSet μ p (.l vs2))
      ⟨[], vs', rfl, rfl, by simp, hv', rfl⟩ (fun _ _ _ _ => trivial) (fun j u acc μ' hu z => ?_) (fun acc μ' z => ?_)
    · obtain ⟨rs, vs2, rfl, hrs, hrm, hv2, rfl⟩ := z
      have hum := b2 u (List.mem_of_getElem? hu)
      have hjl : j < l.length := (List.getElem?_eq_some_iff.mp hu).1
      simp
      refine ⟨p, u, n, _, vs2, rfl, muSet_same, hv2, by omega, by omega, by omega, fun r' vs3 hr1 hr2 hv3 => ?_⟩
      refine ⟨rs ++ [r'], by simp, by simp [hrs], fun r hr => ?_, vs3, hv3.mono (by omega), by rw [muSet_set]⟩
      rcases List.mem_append.mp hr with hr | hr
      · exact hrm r hr
      · rw [List.mem_singleton] at hr
        subst hr
        refine ⟨by omega, fun x hx => ?_⟩
        rcases hr2 x hx with rfl | hx
        · exact short0
        · exact hum.2 x hx
    · obtain ⟨rs, vs2, rfl, hrs, hrm, hv2, rfl⟩ := z
      refine ⟨ls ++ [rs], by simp, by simp [hlen], lays_snoc L (by omega) hrm, by rw [total_snoc, total_take_succ hl]; omega, vs2, hv2.mono (by omega), rfl⟩
  obtain ⟨ls, vs4, rfl, hlen, L, htot, hv4, rfl⟩ := z
  rw [List.take_length] at htot
  subst hNX
  refine seq_gen fun NX hNX => ?_
  simp
  refine ⟨p, a0, n, _, vs4, rfl, muSet_same, hv4, by omega, by omega, by omega, fun la vs5 hla1 hla2 hv5 => ?_⟩
  have N1 : IsNet n ls la := ⟨N0.lo, N0.hi, by omega, L, by omega, by omega, fun x hx => by
    rcases hla2 x hx with rfl | hx
    · exact short0
    · exact N0.short x hx⟩
  have hv6 : VOk vs5 (N + 10002) := hv5.mono (by omega)
  clear hv5 hv4 hv3 hv2 hv1 hla2 hla1 h13 h12 N0
  simp only [muSet_set]
  have h64 : total ls < 64 := by omega
  have NT := t_net N1
  have hT64 : total (tLs n ls la) < 64 := by
    unfold tLs; rw [trim_total]
    have := cnt_le (mat n ls.flatten la) 0 (total ls)
    omega
  obtain ⟨g1, g2⟩ := t_again N1
  have hval := fun (x : List Int) (hx : x.length = n) => t_value N1 hx
  generalize hTl : tLs n ls la = tl at *
  generalize hTa : tLa n ls la = ta at *
  subst hNX
  refine seq_gen fun NX hNX => ?_
  simp
  refine ⟨_, ⟨n, ls, la, rfl, N1, rfl⟩, n, ls, la, rfl, N1, h64, ?_⟩
  rw [hTl, hTa]
  simp
  subst hNX
  refine seq_gen fun NX hNX => ?_
  simp
  refine ⟨n, ls, la, rfl, N1, h64, ?_⟩
  rw [hTl, hTa]
  subst hNX
  refine seq_gen fun NX hNX => ?_
  simp
  refine ⟨n, tl, ta, rfl, n, tl, ta, rfl, n, tl, ta, rfl, ?_⟩
  have c3 := (CmL.cons Cm.int (CmL.cons cmLs (CmL.cons cmRow CmL.nil))).tup
  refine c3.toNe (c3.as _ ((n : Int), tl, ta, ())) (c3.as _ ((n : Int), tl, ta, ())) (by decide) ?_
  simp
  refine ⟨n, tl, ta, rfl, NT, hT64, ?_⟩
  rw [g1, g2]
  refine ⟨rfl, n, tl, ta, _, rfl, .inl ⟨n, tl, ta, rfl, ?_⟩⟩
  simp
  subst hNX
  simp only [rRet, rOp, oEq, rLc, rIL, rCall, rLst, rCons, rVar, rC, rNil, List.getElem?_cons_succ, List.getElem?_cons_zero]
  refine ⟨p, n, 5, _, vs5, rfl, muSet_same, hv6, by omega, hn8, by omega, by omega, fun rs vs7 hrs1 hrs2 hv7 => ?_⟩
  simp only [muSet_set]
  refine ⟨itL (rs.map rowD), rfl, ?_⟩
  refine lcW_filt rs rowD rowD (fun _ => false) (.l _) (by omega) (fun r hr kt kf hk1 hk0 => ?_) ?_
  · obtain ⟨hrl, hrsm⟩ := hrs2 r hr
    have hrsh : ∀ x ∈ r, short x = true := fun x hx => sm40_short (hrsm x hx)
    simp
    refine ⟨n, tl, ta, r, rfl, NT, hrl, hrsh, n, ls, la, r, rfl, N1, hrl, hrsh, ?_⟩
    rw [hval r hrl]
    simp
    exact hk0 rfl
  rw [List.filter_eq_nil_iff.mpr (fun _ _ => by decide)]
  refine ⟨by show 0 ≤ 1000000; omega, ?_⟩
  refine cmRow.lst.toEq (x := []) (y := []) (cmRow.lst.as _ []) (cmRow.lst.as _ []) (by decide) ?_
  simp only [decide_true]
  exact ⟨_, Sub.refl _, h vs7 (hv7.mono (by omega))⟩
section
variable {P : Program} {w : World} {K : PySem.W.Frag} {mg : Str → Option Value} {base : Heap} {C : Addr}
theorem ok__law_right (a : At K mg "_law_right" s__law_right) (F__law_draw : FnD P w K mg base "_law_draw" 21 d__law_draw) (F__law_parts : FnD P w K mg base "_law_parts" 26 d__law_parts) (F__law_thin : FnD P w K mg base "_law_thin" 29 d__law_thin) (F__law_trimmed : FnD P w K mg base "_law_trimmed" 31 d__law_trimmed) (F_trimmed : FnD P w K mg base "trimmed" 19 (d_trimmed C)) (F__law_rows : FnD P w K mg base "_law_rows" 28 d__law_rows) (F_value_of : FnD P w K mg base "value_of" 14 (d_value_of C)) (M_Network : MakD P w K mg base 7 "Network" C (spMk K C inm_Network)) (Q_inputs : PropD P w K mg base C "inputs" 1 (d_inputs C)) (Q_layers : PropD P w K mg base C "layers" 1 (d_layers C)) (Q_last : PropD P w K mg base C "last" 1 (d_last C)) (E_Network : SpD P w K mg base C "__eq__" 2 (d_eq C)) (T : TxC K mg C) : FnD P w K mg base "_law_right" 32 d__law_right := by
  refine fnD_ofW a (b__law_right F__law_draw F__law_parts F__law_thin F__law_trimmed F_trimmed F__law_rows F_value_of M_Network Q_inputs Q_layers Q_last E_Network T) sc__law_right (fun _ _ _ _ _ _ us hl => match us, hl with | [_], _ => rfl) ?_ ?_
  · rintro ds μ k ⟨p, N, vs, rfl, _⟩; rfl
  · rintro ds μ k ⟨p, N, vs, rfl, hp, hv, hN, h⟩
    exact vc_right hp hv hN h
end
end K21


set_option Elab.async false
set_option linter.all false
set_option maxRecDepth 100000
set_option maxHeartbeats 4000000
set_option synthInstance.maxSize 2048
set_option synthInstance.maxHeartbeats 400000
namespace K21
open PySem PySem.Spec PyProof.Rows L2 SlX StX DL
def gLs : List (List (List Int)) := [[[1], [2]], [[0, 0, 1]], [[1, 0, 0, 0]]]
def gLa : List Int := [1, 3, 0, 0, 0]
theorem g_ok : IsNet 1 gLs gLa := ⟨by decide, by decide, by decide, ⟨by decide, by decide, by decide, by decide, by decide, by decide, trivial⟩, by decide, by decide, by decide⟩
theorem g_ls : tLs 1 gLs gLa = [[[1]]] := by decide
theorem g_la : tLa 1 gLs gLa = [1, 3] := by decide
theorem g2_ok : IsNet 1 [[[1]]] [1, 3] := ⟨by decide, by decide, by decide, ⟨by decide, by decide, trivial⟩, by decide, by decide, by decide⟩
theorem h_ok : IsNet 2 [[[1, 1]]] [5, 0, 0] := ⟨by decide, by decide, by decide, ⟨by decide, by decide, trivial⟩, by decide, by decide, by decide⟩
theorem h_ls : tLs 2 [[[1, 1]]] [5, 0, 0] = [] := by decide
theorem h_la : tLa 2 [[[1, 1]]] [5, 0, 0] = [5, 0] := by decide
theorem h2_ok : IsNet 2 [] [5, 0] := ⟨by decide, by decide, by decide, trivial, by decide, by decide, by decide⟩
theorem vc_law {C : Addr} {ns : List Int} {μ : Mu} {k : DK} (hl : ns.length ≤ 63) (h : k (.bl true) μ) :
    r_law C { nx := fun _ μ' => ∃ μ'', Sub μ'' μ' ∧ k .non μ'', rt := fun d μ' => ∃ μ'', Sub μ'' μ' ∧ k d μ'' } (startD N_law [.scr ns]) μ := by
  unfold r_law
  refine seq_gen fun NX hNX => ?_
  simp only [rFor, rIR1, rCons, rCB, rC, rNil, o2I, oLen, rVar, startD, List.map_cons, List.map_nil, List.cons_append, List.nil_append, List.getElem?_cons_zero]
  refine ⟨ns.length, rfl, ?_⟩
  generalize hm : (if (if (ns.length : Int) < 4 then (ns.length : Int) else 4) > 1 then (if (ns.length : Int) < 4 then (ns.length : Int) else 4) else 1) = m
  have hm4 : m ≤ 4 ∧ 1 ≤ m := by
    subst hm
    split <;> split <;> omega
  refine ⟨⟨by omega, by omega⟩, ?_⟩
  refine forW_inv (List.range m.toNat) (fun i : Nat => .int (0 + (i : Nat))) (.r 0 m.toNat) (fun i δ μ' => ∃ x1 x3 x4, δ = [some (.scr ns), x1, none, x3, x4] ∧ Sub μ μ') ⟨none, none, none, rfl, Sub.refl _⟩ (fun _ _ _ _ => trivial) (fun i x δ μ' hx z => ?_) (fun δ μ' z => ?_)
  · obtain ⟨x1, x3, x4, rfl, hs⟩ := z
    obtain ⟨rfl, hi⟩ := range_get hx
    simp only [rgName, List.set_cons_succ, List.set_cons_zero]
    clear hNX
    refine seq_gen fun NX hNX => ?_
    simp only [rAsg, rCall, rCons, rVar, rNil, rgName, List.getElem?_cons_succ, List.getElem?_cons_zero, List.set_cons_succ, List.set_cons_zero]
    refine ⟨ns, _, rfl, by omega, by omega, fun p vs hp hv => ?_⟩
    subst hNX
    simp only [rFor, rIR1, rCons, rC, rNil]
    refine ⟨by omega, ?_⟩
    refine forW_inv (List.range 4) (fun i : Nat => .int (0 + (i : Nat))) (.r 0 4) (fun j δ μ'' => ∃ x4 vs', δ = [some (.scr ns), some (.int (0 + (x : Nat))), none, some (.own p), x4] ∧ VOk vs' (20000 * j) ∧ μ'' = muSet μ' p (.l vs')) ⟨x4, vs, rfl, hv, rfl⟩ (fun _ _ _ _ => trivial) (fun j y δ μ'' hy z => ?_) (fun δ μ'' z => ?_)
    · obtain ⟨x4, vs', rfl, hv', rfl⟩ := z
      obtain ⟨rfl, hj⟩ := range_get hy
      simp
      refine ⟨p, 20000 * y, vs', rfl, muSet_same, hv', by omega, fun vs2 hv2 => ?_⟩
      simp
      exact ⟨vs2, hv2.mono (by omega), by rw [muSet_set]⟩
    · obtain ⟨x4, vs', rfl, hv', rfl⟩ := z
      exact ⟨_, _, _, rfl, Sub.up hs hp⟩
  obtain ⟨x1, x3, x4, rfl, hs⟩ := z
  subst hNX
  dsimp only
  refine seq_gen fun NX hNX => ?_
  simp only [rAsg, rMk, rTup, rCons, rC, rNil, rgName, List.set_cons_succ, List.set_cons_zero]
  refine ⟨by show 1 ≤ 1000000; omega, by show 1 ≤ 1000000; omega, by show 2 ≤ 1000000; omega, by show 3 ≤ 1000000; omega, by show 1 ≤ 1000000; omega, by show 4 ≤ 1000000; omega, by show 1 ≤ 1000000; omega, by show 3 ≤ 1000000; omega, by show 5 ≤ 1000000; omega, _, ⟨1, gLs, gLa, rfl, g_ok, rfl⟩, ?_⟩
  subst hNX
  simp only [rRet, rAndV, rOp, oEqC, rMk, rTup, rVar, rCall, rCons, rC, rNil, List.getElem?_cons_succ, List.getElem?_cons_zero]
  refine ⟨1, gLs, gLa, rfl, g_ok, by decide, ?_⟩
  rw [g_ls, g_la]
  refine ⟨by show 1 ≤ 1000000; omega, by show 1 ≤ 1000000; omega, by show 1 ≤ 1000000; omega, by show 2 ≤ 1000000; omega, _, ⟨1, [[[1]]], [1, 3], rfl, g2_ok, rfl⟩, rfl, rfl, 1, [[[1]]], [1, 3], _, rfl, .inl ⟨1, [[[1]]], [1, 3], rfl, ?_⟩⟩
  simp only [asB, and_self, decide_true, if_true]
  refine ⟨by show 2 ≤ 1000000; omega, by show 1 ≤ 1000000; omega, by show 1 ≤ 1000000; omega, by show 3 ≤ 1000000; omega, _, ⟨2, [[[1, 1]]], [5, 0, 0], rfl, h_ok, rfl⟩, ?_⟩
  refine ⟨2, [[[1, 1]]], [5, 0, 0], rfl, h_ok, by decide, ?_⟩
  rw [h_ls, h_la]
  refine ⟨by show 0 ≤ 1000000; omega, by show 2 ≤ 1000000; omega, _, ⟨2, [], [5, 0], rfl, h2_ok, rfl⟩, rfl, rfl, 2, [], [5, 0], _, rfl, .inl ⟨2, [], [5, 0], rfl, ?_⟩⟩
  simp only [and_self, decide_true]
  exact ⟨μ, hs, h⟩
section
variable {P : Program} {w : World} {K : PySem.W.Frag} {mg : Str → Option Value} {base : Heap} {C : Addr}
theorem ok_law {f : Addr} {fd : FuncData} (F : Fun K "law" "law" s_law f fd) (F__law_vat : FnD P w K mg base "_law_vat" 20 d__law_vat) (F__law_right : FnD P w K mg base "_law_right" 32 d__law_right) (F_trimmed : FnD P w K mg base "trimmed" 19 (d_trimmed C)) (M_Network : MakD P w K mg base 7 "Network" C (spMk K C inm_Network)) (E_Network : SpD P w K mg base C "__eq__" 2 (d_eq C)) (T : TxC K mg C) : FnOk P w K mg base CX0 33 f fd ["_law_script"] (spOf K d_law) := by
  obtain ⟨t, hb⟩ := b_law F__law_vat F__law_right F_trimmed M_Network E_Network T f
  refine fn_mkW F sc_law ?_ hb ?_
  · rintro ds μ k ⟨ns, rfl, _⟩; rfl
  · rintro ds μ k ⟨ns, rfl, hl, h⟩
    exact vc_law hl h
end
end K21


set_option Elab.async false
set_option linter.all false
set_option maxRecDepth 100000
set_option maxHeartbeats 8000000
namespace K21
open PySem PySem.Spec PyProof.Rows L2 SlX DL
/-- the end, the loose names' values at hand -/
theorem walk_ofX {l : PySem.W.OpenLaw} {n k : Nat} {q : Program} {loose : List Str} {XP : (Str → Option Value) → Heap → Prop} {YP : World → Heap → Prop} {d : DefRec} {K : Params → PySem.W.Frag} {sp : World → Sp} {x : Str}
    (hn : l.most = some n) (hn2 : n ≤ sizeLine) (hdf : d.params.defaults = []) (hr : Room k callerA)
    (hY : ∀ (w : World) (h : Heap), YP w h → (K w.params).In h)
    (F : ∀ (w : World) (mg : Str → Option Value) (fa : Addr) (h : Heap), (∃ h0, XP mg h0) → (K w.params).In h → h.Ns mainGlobals mg → mg d.name = some (.ref fa) →
      ∃ fd : FuncData, (∀ (s : Shared) (u : Value), BindsTo s fd ⟨[u], []⟩ [(x, u)]) ∧
        ∀ base : Heap, (K w.params).In base → base.Ns mainGlobals mg → FnOk l.prog w (K w.params) mg base CX0 k fa fd [x] (sp w))
    (hsp : ∀ (w : World) (H : Hp) (a : Addr) (ns : List Int), ns.length ≤ n → Only H → SqL (K w.params) H a (ns.map V.int) → sp w [.ref a] H (fun v _ => v = .bl true) fun _ _ _ => False) :
    PySem.W.WalkO q loose XP YP l.row.toRowW d [] (fun f vs => PySem.call f vs) := by
  refine Att.attach_call hn hdf fun w s₀ s₁ mg mb fa o pm cd doc a vs ns G Y ho hd hcd hmg hobj hints hlen hg => ?_
  have KX := hY w _ Y
  obtain ⟨fd, hb, hF⟩ := F w mg fa _ ⟨_, G.X⟩ KX G.T.g hmg
  exact law_call KX G.T.g G.T.b G.T.builtins G.T.nolimit hg hobj hints (Nat.le_trans hlen hn2) hr hF hb (fun H hO hS => hsp w H a ns hlen hO hS) fun H e s' z => z
theorem kit_own {K : PySem.W.Frag} {C : Addr} : PySem.W.kitOne K (.ref C) (.ref C) = some true := by
  unfold PySem.W.kitOne
  rw [if_pos (by simp)]
theorem kit_off {K : PySem.W.Frag} {C : Addr} {T : String} (ic : PySem.W.isClsIn K C = true) (ty : PySem.W.typeIn K (.ref C) = some (.type "type")) (ti : PySem.W.instIn K (.ref C) (.type "type") = some true) (u : PySem.W.subIn K (.type T) (.ref C) = some false) : PySem.W.kitOne K (.type T) (.ref C) = some false := by
  unfold PySem.W.kitOne
  have e : (Value.type T == Value.ref C) = false := by rfl
  rw [e]
  unfold PySem.W.kitCls
  simp [ic, ty, ti, u, show (PySem.W.clsIn K C).isSome = true from ic]
theorem loose_SIXTY {p : Program} {lv : List (Str × PySem.W.WData)} {mg : Str → Option Value} {h : Heap} (x : PySem.W.XL p lv mg h) (hm : (("SIXTY" : Str), PySem.W.WData.int sixty) ∈ lv) : ∃ t, mg "SIXTY" = some (.int sixty t) := by
  obtain ⟨v, e, r⟩ := x.2.val _ hm
  cases r
  exact ⟨_, e⟩
theorem all_mk {l : PySem.W.OpenLaw} {w : World} {K : PySem.W.Frag} {h : Heap} {mg : Str → Option Value} {fa C f_0 f_1 f_2 f_3 f_4 f_5 f_6 f_7 f_8 f_9 f_10 f_11 f_12 f_13 f_14 f_15 f_16 f_17 f_18 f_19 f_20 f_21 f_22 f_23 f_24 f_25 f_26 f_27 f_28 p_own_inputs p_own_last p_own_layers q_inputs f_pinputs q_layers f_players q_last f_plast q_units f_punits f_mparts f_meq f_minit : Addr} (X : K.In h) (G : h.Ns mainGlobals mg) (hfa : mg "law" = some (.ref fa)) (hx_SIXTY : ∃ t, mg "SIXTY" = some (.int sixty t))
    {od_0 an_0 od_1 an_1 od_2 an_2 od_3 an_3 od_4 an_4 od_5 an_5 od_6 an_6 od_7 an_7 od_8 an_8 od_9 an_9 od_10 an_10 od_11 an_11 od_12 an_12 od_13 an_13 od_14 an_14 od_15 an_15 od_16 an_16 od_17 an_17 od_18 an_18 od_19 an_19 od_20 an_20 od_21 an_21 od_22 an_22 od_23 an_23 od_24 an_24 od_25 an_25 od_26 an_26 od_27 an_27 od_28 an_28 od_pinputs an_pinputs od_players an_players od_plast an_plast od_punits an_punits od_mparts an_mparts od_meq an_meq od_minit an_minit : Option Addr} {sl_0 sl_1 sl_2 sl_3 sl_4 sl_5 sl_6 sl_7 sl_8 sl_9 sl_10 sl_11 sl_12 sl_13 sl_14 sl_15 sl_16 sl_17 sl_18 sl_19 sl_20 sl_21 sl_22 sl_23 sl_24 sl_25 sl_26 sl_27 sl_28 sl_pinputs sl_players sl_plast sl_punits sl_mparts sl_meq sl_minit : Array (Option Value)} {oc_0 kV_0 dc_0 pm_0 cd_0 ct_0 oc_1 kV_1 dc_1 pm_1 cd_1 ct_1 oc_2 kV_2 dc_2 pm_2 cd_2 ct_2 oc_3 kV_3 dc_3 pm_3 cd_3 ct_3 oc_4 kV_4 dc_4 pm_4 cd_4 ct_4 oc_5 kV_5 dc_5 pm_5 cd_5 ct_5 oc_6 kV_6 dc_6 pm_6 cd_6 ct_6 oc_7 kV_7 dc_7 pm_7 cd_7 ct_7 oc_8 kV_8 dc_8 pm_8 cd_8 ct_8 oc_9 kV_9 dc_9 pm_9 cd_9 ct_9 oc_10 kV_10 dc_10 pm_10 cd_10 ct_10 oc_11 kV_11 dc_11 pm_11 cd_11 ct_11 oc_12 kV_12 dc_12 pm_12 cd_12 ct_12 oc_13 kV_13 dc_13 pm_13 cd_13 ct_13 oc_14 kV_14 dc_14 pm_14 cd_14 ct_14 oc_15 kV_15 dc_15 pm_15 cd_15 ct_15 oc_16 kV_16 dc_16 pm_16 cd_16 ct_16 oc_17 kV_17 dc_17 pm_17 cd_17 ct_17 oc_18 kV_18 dc_18 pm_18 cd_18 ct_18 oc_19 kV_19 dc_19 pm_19 cd_19 ct_19 oc_20 kV_20 dc_20 pm_20 cd_20 ct_20 oc_21 kV_21 dc_21 pm_21 cd_21 ct_21 oc_22 kV_22 dc_22 pm_22 cd_22 ct_22 oc_23 kV_23 dc_23 pm_23 cd_23 ct_23 oc_24 kV_24 dc_24 pm_24 cd_24 ct_24 oc_25 kV_25 dc_25 pm_25 cd_25 ct_25 oc_26 kV_26 dc_26 pm_26 cd_26 ct_26 oc_27 kV_27 dc_27 pm_27 cd_27 ct_27 oc_28 kV_28 dc_28 pm_28 cd_28 ct_28 oc_pinputs kV_pinputs dc_pinputs pm_pinputs cd_pinputs ct_pinputs oc_players kV_players dc_players pm_players cd_players ct_players oc_plast kV_plast dc_plast pm_plast cd_plast ct_plast oc_punits kV_punits dc_punits pm_punits cd_punits ct_punits oc_mparts kV_mparts dc_mparts pm_mparts cd_mparts ct_mparts oc_meq kV_meq dc_meq pm_meq cd_meq ct_meq oc_minit kV_minit dc_minit pm_minit cd_minit ct_minit : Value} {r_inputsx r_layersx r_lastx r_unitsx : List Value}
    (a_0 : PySem.W.nsIn K mainGlobals "is_whole" = some (some (.ref f_0)))
    (l_0 : K.lookup f_0 = some ⟨oc_0, od_0, .func (PySem.W.fnOf "is_whole" "is_whole" (defArgs s_is_whole) (defBody s_is_whole) (defScope s_is_whole) .none kV_0 dc_0 pm_0 an_0 cd_0 ct_0), sl_0⟩)
    (c_0 : PySem.W.codeIn K cd_0 "is_whole" = true)
    (k_0 : PySem.W.keepIn K (.ref f_0) = true)
    (a_1 : PySem.W.nsIn K mainGlobals "is_short" = some (some (.ref f_1)))
    (l_1 : K.lookup f_1 = some ⟨oc_1, od_1, .func (PySem.W.fnOf "is_short" "is_short" (defArgs s_is_short) (defBody s_is_short) (defScope s_is_short) .none kV_1 dc_1 pm_1 an_1 cd_1 ct_1), sl_1⟩)
    (c_1 : PySem.W.codeIn K cd_1 "is_short" = true)
    (k_1 : PySem.W.keepIn K (.ref f_1) = true)
    (a_2 : PySem.W.nsIn K mainGlobals "is_from" = some (some (.ref f_2)))
    (l_2 : K.lookup f_2 = some ⟨oc_2, od_2, .func (PySem.W.fnOf "is_from" "is_from" (defArgs s_is_from) (defBody s_is_from) (defScope s_is_from) .none kV_2 dc_2 pm_2 an_2 cd_2 ct_2), sl_2⟩)
    (c_2 : PySem.W.codeIn K cd_2 "is_from" = true)
    (k_2 : PySem.W.keepIn K (.ref f_2) = true)
    (a_3 : PySem.W.nsIn K mainGlobals "are_short" = some (some (.ref f_3)))
    (l_3 : K.lookup f_3 = some ⟨oc_3, od_3, .func (PySem.W.fnOf "are_short" "are_short" (defArgs s_are_short) (defBody s_are_short) (defScope s_are_short) .none kV_3 dc_3 pm_3 an_3 cd_3 ct_3), sl_3⟩)
    (c_3 : PySem.W.codeIn K cd_3 "are_short" = true)
    (k_3 : PySem.W.keepIn K (.ref f_3) = true)
    (a_4 : PySem.W.nsIn K mainGlobals "is_layer" = some (some (.ref f_4)))
    (l_4 : K.lookup f_4 = some ⟨oc_4, od_4, .func (PySem.W.fnOf "is_layer" "is_layer" (defArgs s_is_layer) (defBody s_is_layer) (defScope s_is_layer) .none kV_4 dc_4 pm_4 an_4 cd_4 ct_4), sl_4⟩)
    (c_4 : PySem.W.codeIn K cd_4 "is_layer" = true)
    (k_4 : PySem.W.keepIn K (.ref f_4) = true)
    (a_5 : PySem.W.nsIn K mainGlobals "are_parts" = some (some (.ref f_5)))
    (l_5 : K.lookup f_5 = some ⟨oc_5, od_5, .func (PySem.W.fnOf "are_parts" "are_parts" (defArgs s_are_parts) (defBody s_are_parts) (defScope s_are_parts) .none kV_5 dc_5 pm_5 an_5 cd_5 ct_5), sl_5⟩)
    (c_5 : PySem.W.codeIn K cd_5 "are_parts" = true)
    (k_5 : PySem.W.keepIn K (.ref f_5) = true)
    (a_6 : PySem.W.nsIn K mainGlobals "told_by" = some (some (.ref f_6)))
    (l_6 : K.lookup f_6 = some ⟨oc_6, od_6, .func (PySem.W.fnOf "told_by" "told_by" (defArgs s_told_by) (defBody s_told_by) (defScope s_told_by) .none kV_6 dc_6 pm_6 an_6 cd_6 ct_6), sl_6⟩)
    (c_6 : PySem.W.codeIn K cd_6 "told_by" = true)
    (k_6 : PySem.W.keepIn K (.ref f_6) = true)
    (a_7 : PySem.W.nsIn K mainGlobals "numbers_in" = some (some (.ref f_7)))
    (l_7 : K.lookup f_7 = some ⟨oc_7, od_7, .func (PySem.W.fnOf "numbers_in" "numbers_in" (defArgs s_numbers_in) (defBody s_numbers_in) (defScope s_numbers_in) .none kV_7 dc_7 pm_7 an_7 cd_7 ct_7), sl_7⟩)
    (c_7 : PySem.W.codeIn K cd_7 "numbers_in" = true)
    (k_7 : PySem.W.keepIn K (.ref f_7) = true)
    (a_8 : PySem.W.nsIn K mainGlobals "value_in" = some (some (.ref f_8)))
    (l_8 : K.lookup f_8 = some ⟨oc_8, od_8, .func (PySem.W.fnOf "value_in" "value_in" (defArgs s_value_in) (defBody s_value_in) (defScope s_value_in) .none kV_8 dc_8 pm_8 an_8 cd_8 ct_8), sl_8⟩)
    (c_8 : PySem.W.codeIn K cd_8 "value_in" = true)
    (k_8 : PySem.W.keepIn K (.ref f_8) = true)
    (a_9 : PySem.W.nsIn K mainGlobals "require_network" = some (some (.ref f_9)))
    (l_9 : K.lookup f_9 = some ⟨oc_9, od_9, .func (PySem.W.fnOf "require_network" "require_network" (defArgs s_require_network) (defBody s_require_network) (defScope s_require_network) .none kV_9 dc_9 pm_9 an_9 cd_9 ct_9), sl_9⟩)
    (c_9 : PySem.W.codeIn K cd_9 "require_network" = true)
    (k_9 : PySem.W.keepIn K (.ref f_9) = true)
    (a_10 : PySem.W.nsIn K mainGlobals "require_inputs" = some (some (.ref f_10)))
    (l_10 : K.lookup f_10 = some ⟨oc_10, od_10, .func (PySem.W.fnOf "require_inputs" "require_inputs" (defArgs s_require_inputs) (defBody s_require_inputs) (defScope s_require_inputs) .none kV_10 dc_10 pm_10 an_10 cd_10 ct_10), sl_10⟩)
    (c_10 : PySem.W.codeIn K cd_10 "require_inputs" = true)
    (k_10 : PySem.W.keepIn K (.ref f_10) = true)
    (a_11 : PySem.W.nsIn K mainGlobals "require_place" = some (some (.ref f_11)))
    (l_11 : K.lookup f_11 = some ⟨oc_11, od_11, .func (PySem.W.fnOf "require_place" "require_place" (defArgs s_require_place) (defBody s_require_place) (defScope s_require_place) .none kV_11 dc_11 pm_11 an_11 cd_11 ct_11), sl_11⟩)
    (c_11 : PySem.W.codeIn K cd_11 "require_place" = true)
    (k_11 : PySem.W.keepIn K (.ref f_11) = true)
    (a_12 : PySem.W.nsIn K mainGlobals "value_of" = some (some (.ref f_12)))
    (l_12 : K.lookup f_12 = some ⟨oc_12, od_12, .func (PySem.W.fnOf "value_of" "value_of" (defArgs s_value_of) (defBody s_value_of) (defScope s_value_of) .none kV_12 dc_12 pm_12 an_12 cd_12 ct_12), sl_12⟩)
    (c_12 : PySem.W.codeIn K cd_12 "value_of" = true)
    (k_12 : PySem.W.keepIn K (.ref f_12) = true)
    (a_13 : PySem.W.nsIn K mainGlobals "told_weight" = some (some (.ref f_13)))
    (l_13 : K.lookup f_13 = some ⟨oc_13, od_13, .func (PySem.W.fnOf "told_weight" "told_weight" (defArgs s_told_weight) (defBody s_told_weight) (defScope s_told_weight) .none kV_13 dc_13 pm_13 an_13 cd_13 ct_13), sl_13⟩)
    (c_13 : PySem.W.codeIn K cd_13 "told_weight" = true)
    (k_13 : PySem.W.keepIn K (.ref f_13) = true)
    (a_14 : PySem.W.nsIn K mainGlobals "less_row" = some (some (.ref f_14)))
    (l_14 : K.lookup f_14 = some ⟨oc_14, od_14, .func (PySem.W.fnOf "less_row" "less_row" (defArgs s_less_row) (defBody s_less_row) (defScope s_less_row) .none kV_14 dc_14 pm_14 an_14 cd_14 ct_14), sl_14⟩)
    (c_14 : PySem.W.codeIn K cd_14 "less_row" = true)
    (k_14 : PySem.W.keepIn K (.ref f_14) = true)
    (a_15 : PySem.W.nsIn K mainGlobals "mattering" = some (some (.ref f_15)))
    (l_15 : K.lookup f_15 = some ⟨oc_15, od_15, .func (PySem.W.fnOf "mattering" "mattering" (defArgs s_mattering) (defBody s_mattering) (defScope s_mattering) .none kV_15 dc_15 pm_15 an_15 cd_15 ct_15), sl_15⟩)
    (c_15 : PySem.W.codeIn K cd_15 "mattering" = true)
    (k_15 : PySem.W.keepIn K (.ref f_15) = true)
    (a_16 : PySem.W.nsIn K mainGlobals "trimmed_in" = some (some (.ref f_16)))
    (l_16 : K.lookup f_16 = some ⟨oc_16, od_16, .func (PySem.W.fnOf "trimmed_in" "trimmed_in" (defArgs s_trimmed_in) (defBody s_trimmed_in) (defScope s_trimmed_in) .none kV_16 dc_16 pm_16 an_16 cd_16 ct_16), sl_16⟩)
    (c_16 : PySem.W.codeIn K cd_16 "trimmed_in" = true)
    (k_16 : PySem.W.keepIn K (.ref f_16) = true)
    (a_17 : PySem.W.nsIn K mainGlobals "trimmed" = some (some (.ref f_17)))
    (l_17 : K.lookup f_17 = some ⟨oc_17, od_17, .func (PySem.W.fnOf "trimmed" "trimmed" (defArgs s_trimmed) (defBody s_trimmed) (defScope s_trimmed) .none kV_17 dc_17 pm_17 an_17 cd_17 ct_17), sl_17⟩)
    (c_17 : PySem.W.codeIn K cd_17 "trimmed" = true)
    (k_17 : PySem.W.keepIn K (.ref f_17) = true)
    (a_18 : PySem.W.nsIn K mainGlobals "_law_vat" = some (some (.ref f_18)))
    (l_18 : K.lookup f_18 = some ⟨oc_18, od_18, .func (PySem.W.fnOf "_law_vat" "_law_vat" (defArgs s__law_vat) (defBody s__law_vat) (defScope s__law_vat) .none kV_18 dc_18 pm_18 an_18 cd_18 ct_18), sl_18⟩)
    (c_18 : PySem.W.codeIn K cd_18 "_law_vat" = true)
    (k_18 : PySem.W.keepIn K (.ref f_18) = true)
    (a_19 : PySem.W.nsIn K mainGlobals "_law_draw" = some (some (.ref f_19)))
    (l_19 : K.lookup f_19 = some ⟨oc_19, od_19, .func (PySem.W.fnOf "_law_draw" "_law_draw" (defArgs s__law_draw) (defBody s__law_draw) (defScope s__law_draw) .none kV_19 dc_19 pm_19 an_19 cd_19 ct_19), sl_19⟩)
    (c_19 : PySem.W.codeIn K cd_19 "_law_draw" = true)
    (k_19 : PySem.W.keepIn K (.ref f_19) = true)
    (a_20 : PySem.W.nsIn K mainGlobals "_law_pick" = some (some (.ref f_20)))
    (l_20 : K.lookup f_20 = some ⟨oc_20, od_20, .func (PySem.W.fnOf "_law_pick" "_law_pick" (defArgs s__law_pick) (defBody s__law_pick) (defScope s__law_pick) .none kV_20 dc_20 pm_20 an_20 cd_20 ct_20), sl_20⟩)
    (c_20 : PySem.W.codeIn K cd_20 "_law_pick" = true)
    (k_20 : PySem.W.keepIn K (.ref f_20) = true)
    (a_21 : PySem.W.nsIn K mainGlobals "_law_row" = some (some (.ref f_21)))
    (l_21 : K.lookup f_21 = some ⟨oc_21, od_21, .func (PySem.W.fnOf "_law_row" "_law_row" (defArgs s__law_row) (defBody s__law_row) (defScope s__law_row) .none kV_21 dc_21 pm_21 an_21 cd_21 ct_21), sl_21⟩)
    (c_21 : PySem.W.codeIn K cd_21 "_law_row" = true)
    (k_21 : PySem.W.keepIn K (.ref f_21) = true)
    (a_22 : PySem.W.nsIn K mainGlobals "_law_parts" = some (some (.ref f_22)))
    (l_22 : K.lookup f_22 = some ⟨oc_22, od_22, .func (PySem.W.fnOf "_law_parts" "_law_parts" (defArgs s__law_parts) (defBody s__law_parts) (defScope s__law_parts) .none kV_22 dc_22 pm_22 an_22 cd_22 ct_22), sl_22⟩)
    (c_22 : PySem.W.codeIn K cd_22 "_law_parts" = true)
    (k_22 : PySem.W.keepIn K (.ref f_22) = true)
    (a_23 : PySem.W.nsIn K mainGlobals "_law_rows" = some (some (.ref f_23)))
    (l_23 : K.lookup f_23 = some ⟨oc_23, od_23, .func (PySem.W.fnOf "_law_rows" "_law_rows" (defArgs s__law_rows) (defBody s__law_rows) (defScope s__law_rows) .none kV_23 dc_23 pm_23 an_23 cd_23 ct_23), sl_23⟩)
    (c_23 : PySem.W.codeIn K cd_23 "_law_rows" = true)
    (k_23 : PySem.W.keepIn K (.ref f_23) = true)
    (a_24 : PySem.W.nsIn K mainGlobals "_law_thin" = some (some (.ref f_24)))
    (l_24 : K.lookup f_24 = some ⟨oc_24, od_24, .func (PySem.W.fnOf "_law_thin" "_law_thin" (defArgs s__law_thin) (defBody s__law_thin) (defScope s__law_thin) .none kV_24 dc_24 pm_24 an_24 cd_24 ct_24), sl_24⟩)
    (c_24 : PySem.W.codeIn K cd_24 "_law_thin" = true)
    (k_24 : PySem.W.keepIn K (.ref f_24) = true)
    (a_25 : PySem.W.nsIn K mainGlobals "_law_left" = some (some (.ref f_25)))
    (l_25 : K.lookup f_25 = some ⟨oc_25, od_25, .func (PySem.W.fnOf "_law_left" "_law_left" (defArgs s__law_left) (defBody s__law_left) (defScope s__law_left) .none kV_25 dc_25 pm_25 an_25 cd_25 ct_25), sl_25⟩)
    (c_25 : PySem.W.codeIn K cd_25 "_law_left" = true)
    (k_25 : PySem.W.keepIn K (.ref f_25) = true)
    (a_26 : PySem.W.nsIn K mainGlobals "_law_trimmed" = some (some (.ref f_26)))
    (l_26 : K.lookup f_26 = some ⟨oc_26, od_26, .func (PySem.W.fnOf "_law_trimmed" "_law_trimmed" (defArgs s__law_trimmed) (defBody s__law_trimmed) (defScope s__law_trimmed) .none kV_26 dc_26 pm_26 an_26 cd_26 ct_26), sl_26⟩)
    (c_26 : PySem.W.codeIn K cd_26 "_law_trimmed" = true)
    (k_26 : PySem.W.keepIn K (.ref f_26) = true)
    (a_27 : PySem.W.nsIn K mainGlobals "_law_right" = some (some (.ref f_27)))
    (l_27 : K.lookup f_27 = some ⟨oc_27, od_27, .func (PySem.W.fnOf "_law_right" "_law_right" (defArgs s__law_right) (defBody s__law_right) (defScope s__law_right) .none kV_27 dc_27 pm_27 an_27 cd_27 ct_27), sl_27⟩)
    (c_27 : PySem.W.codeIn K cd_27 "_law_right" = true)
    (k_27 : PySem.W.keepIn K (.ref f_27) = true)
    (a_28 : PySem.W.nsIn K mainGlobals "law" = some (some (.ref f_28)))
    (l_28 : K.lookup f_28 = some ⟨oc_28, od_28, .func (PySem.W.fnOf "law" "law" (defArgs s_law) (defBody s_law) (defScope s_law) .none kV_28 dc_28 pm_28 an_28 cd_28 ct_28), sl_28⟩)
    (c_28 : PySem.W.codeIn K cd_28 "law" = true)
    (k_28 : PySem.W.keepIn K (.ref f_28) = true)
    (aC : PySem.W.nsIn K mainGlobals "Network" = some (some (.ref C)))
    (pg : PySem.W.plainGet K C Str.empty = true)
    (ic : PySem.W.isClsIn K C = true)
    (po : PySem.W.plainOver K C = true)
    (sa : PySem.W.findIn K (.ref C) "__setattr__" = some (some (.builtin "object.__setattr__")))
    (ca : PySem.W.findIn K (.ref C) "__class__" = some (some (.builtin "object.__class__")))
    (cn : PySem.W.specialIn K (.builtin "object.__class__") "__get__" = some (some (.builtin "getset_descriptor.__get__")))
    (ctk : PySem.W.takesIn K (.builtin "object.__class__") = some true)
    (cm : PySem.W.mroIn K C (.type "object") = some true)
    (nNon : PySem.W.notFirst K C (.type "NoneType") = true)
    (nInt : PySem.W.notFirst K C (.type "int") = true)
    (nTup : PySem.W.notFirst K C (.type "tuple") = true)
    (kTy : PySem.W.typeIn K (.ref C) = some (.type "type"))
    (kTi : PySem.W.instIn K (.ref C) (.type "type") = some true)
    (uNon : PySem.W.subIn K (.type "NoneType") (.ref C) = some false)
    (uInt : PySem.W.subIn K (.type "int") (.ref C) = some false)
    (uTup : PySem.W.subIn K (.type "tuple") (.ref C) = some false)
    (ne : PySem.W.findIn K (.ref C) "__ne__" = some (some (.builtin "object.__ne__")))
    (mk : PySem.W.makesIn K C = true)
    (kc : PySem.W.keepIn K (.ref C) = true)
    (sa_own_inputs : PySem.W.findIn K (.ref C) "own_inputs" = some (some (.ref p_own_inputs)))
    (sg_own_inputs : PySem.W.specialIn K (.ref p_own_inputs) "__get__" = some (some (.builtin "member_descriptor.__get__")))
    (st_own_inputs : PySem.W.takesIn K (.ref p_own_inputs) = some true)
    (sy_own_inputs : PySem.W.typeIn K (.ref p_own_inputs) = some (.type "member_descriptor"))
    (si_own_inputs : PySem.W.slotIn K p_own_inputs C = some 0)
    (sa_own_last : PySem.W.findIn K (.ref C) "own_last" = some (some (.ref p_own_last)))
    (sg_own_last : PySem.W.specialIn K (.ref p_own_last) "__get__" = some (some (.builtin "member_descriptor.__get__")))
    (st_own_last : PySem.W.takesIn K (.ref p_own_last) = some true)
    (sy_own_last : PySem.W.typeIn K (.ref p_own_last) = some (.type "member_descriptor"))
    (si_own_last : PySem.W.slotIn K p_own_last C = some 1)
    (sa_own_layers : PySem.W.findIn K (.ref C) "own_layers" = some (some (.ref p_own_layers)))
    (sg_own_layers : PySem.W.specialIn K (.ref p_own_layers) "__get__" = some (some (.builtin "member_descriptor.__get__")))
    (st_own_layers : PySem.W.takesIn K (.ref p_own_layers) = some true)
    (sy_own_layers : PySem.W.typeIn K (.ref p_own_layers) = some (.type "member_descriptor"))
    (si_own_layers : PySem.W.slotIn K p_own_layers C = some 2)
    (pa_inputs : PySem.W.findIn K (.ref C) "inputs" = some (some (.ref q_inputs)))
    (pg_inputs : PySem.W.specialIn K (.ref q_inputs) "__get__" = some (some (.builtin "property.__get__")))
    (pt_inputs : PySem.W.takesIn K (.ref q_inputs) = some true)
    (pr_inputs : PySem.W.recIn K q_inputs "property" = some (.ref f_pinputs :: r_inputsx))
    (l_pinputs : K.lookup f_pinputs = some ⟨oc_pinputs, od_pinputs, .func (PySem.W.fnOf "inputs" "Network.inputs" (defArgs s_Network_inputs) (defBody s_Network_inputs) (defScope s_Network_inputs) .none kV_pinputs dc_pinputs pm_pinputs an_pinputs cd_pinputs ct_pinputs), sl_pinputs⟩)
    (c_pinputs : PySem.W.codeIn K cd_pinputs "Network.inputs" = true)
    (kp_inputs : PySem.W.keepIn K (.ref f_pinputs) = true)
    (pa_layers : PySem.W.findIn K (.ref C) "layers" = some (some (.ref q_layers)))
    (pg_layers : PySem.W.specialIn K (.ref q_layers) "__get__" = some (some (.builtin "property.__get__")))
    (pt_layers : PySem.W.takesIn K (.ref q_layers) = some true)
    (pr_layers : PySem.W.recIn K q_layers "property" = some (.ref f_players :: r_layersx))
    (l_players : K.lookup f_players = some ⟨oc_players, od_players, .func (PySem.W.fnOf "layers" "Network.layers" (defArgs s_Network_layers) (defBody s_Network_layers) (defScope s_Network_layers) .none kV_players dc_players pm_players an_players cd_players ct_players), sl_players⟩)
    (c_players : PySem.W.codeIn K cd_players "Network.layers" = true)
    (kp_layers : PySem.W.keepIn K (.ref f_players) = true)
    (pa_last : PySem.W.findIn K (.ref C) "last" = some (some (.ref q_last)))
    (pg_last : PySem.W.specialIn K (.ref q_last) "__get__" = some (some (.builtin "property.__get__")))
    (pt_last : PySem.W.takesIn K (.ref q_last) = some true)
    (pr_last : PySem.W.recIn K q_last "property" = some (.ref f_plast :: r_lastx))
    (l_plast : K.lookup f_plast = some ⟨oc_plast, od_plast, .func (PySem.W.fnOf "last" "Network.last" (defArgs s_Network_last) (defBody s_Network_last) (defScope s_Network_last) .none kV_plast dc_plast pm_plast an_plast cd_plast ct_plast), sl_plast⟩)
    (c_plast : PySem.W.codeIn K cd_plast "Network.last" = true)
    (kp_last : PySem.W.keepIn K (.ref f_plast) = true)
    (pa_units : PySem.W.findIn K (.ref C) "units" = some (some (.ref q_units)))
    (pg_units : PySem.W.specialIn K (.ref q_units) "__get__" = some (some (.builtin "property.__get__")))
    (pt_units : PySem.W.takesIn K (.ref q_units) = some true)
    (pr_units : PySem.W.recIn K q_units "property" = some (.ref f_punits :: r_unitsx))
    (l_punits : K.lookup f_punits = some ⟨oc_punits, od_punits, .func (PySem.W.fnOf "units" "Network.units" (defArgs s_Network_units) (defBody s_Network_units) (defScope s_Network_units) .none kV_punits dc_punits pm_punits an_punits cd_punits ct_punits), sl_punits⟩)
    (c_punits : PySem.W.codeIn K cd_punits "Network.units" = true)
    (kp_units : PySem.W.keepIn K (.ref f_punits) = true)
    (ma_mparts : PySem.W.findIn K (.ref C) "parts" = some (some (.ref f_mparts)))
    (mi_mparts : PySem.W.isFn K (.ref f_mparts) = true)
    (l_mparts : K.lookup f_mparts = some ⟨oc_mparts, od_mparts, .func (PySem.W.fnOf "parts" "Network.parts" (defArgs s_Network_parts) (defBody s_Network_parts) (defScope s_Network_parts) .none kV_mparts dc_mparts pm_mparts an_mparts cd_mparts ct_mparts), sl_mparts⟩)
    (c_mparts : PySem.W.codeIn K cd_mparts "Network.parts" = true)
    (mk_mparts : PySem.W.keepIn K (.ref f_mparts) = true)
    (ma_meq : PySem.W.findIn K (.ref C) "__eq__" = some (some (.ref f_meq)))
    (mi_meq : PySem.W.isFn K (.ref f_meq) = true)
    (l_meq : K.lookup f_meq = some ⟨oc_meq, od_meq, .func (PySem.W.fnOf "__eq__" "Network.__eq__" (defArgs s_Network___eq__) (defBody s_Network___eq__) (defScope s_Network___eq__) .none kV_meq dc_meq pm_meq an_meq cd_meq ct_meq), sl_meq⟩)
    (c_meq : PySem.W.codeIn K cd_meq "Network.__eq__" = true)
    (mk_meq : PySem.W.keepIn K (.ref f_meq) = true)
    (ma_minit : PySem.W.findIn K (.ref C) "__init__" = some (some (.ref f_minit)))
    (mi_minit : PySem.W.isFn K (.ref f_minit) = true)
    (l_minit : K.lookup f_minit = some ⟨oc_minit, od_minit, .func (PySem.W.fnOf "__init__" "Network.__init__" (defArgs s_Network___init__) (defBody s_Network___init__) (defScope s_Network___init__) .none kV_minit dc_minit pm_minit an_minit cd_minit ct_minit), sl_minit⟩)
    (c_minit : PySem.W.codeIn K cd_minit "Network.__init__" = true)
    (mk_minit : PySem.W.keepIn K (.ref f_minit) = true)
    (z_isinstance : PySem.W.nsIn K mainGlobals "isinstance" = some none)
    (z_int : PySem.W.nsIn K mainGlobals "int" = some none)
    (z_bool : PySem.W.nsIn K mainGlobals "bool" = some none)
    (z_tuple : PySem.W.nsIn K mainGlobals "tuple" = some none)
    (z_len : PySem.W.nsIn K mainGlobals "len" = some none)
    (z_all : PySem.W.nsIn K mainGlobals "all" = some none)
    (z_sum : PySem.W.nsIn K mainGlobals "sum" = some none)
    (z_zip : PySem.W.nsIn K mainGlobals "zip" = some none)
    (z_range : PySem.W.nsIn K mainGlobals "range" = some none)
    (z_max : PySem.W.nsIn K mainGlobals "max" = some none)
    (z_min : PySem.W.nsIn K mainGlobals "min" = some none)
    (z_abs : PySem.W.nsIn K mainGlobals "abs" = some none)
    (z_list : PySem.W.nsIn K mainGlobals "list" = some none)
    (z_str : PySem.W.nsIn K mainGlobals "str" = some none)
    (z_any : PySem.W.nsIn K mainGlobals "any" = some none)
    (z_enumerate : PySem.W.nsIn K mainGlobals "enumerate" = some none)
    (z_sorted : PySem.W.nsIn K mainGlobals "sorted" = some none)
    (x_MOST_INPUTS : ∃ t, PySem.W.nsIn K mainGlobals "MOST_INPUTS" = some (some (.int 8 t)))
    (x_MOST_LAYERS : ∃ t, PySem.W.nsIn K mainGlobals "MOST_LAYERS" = some (some (.int 4 t)))
    (x_MOST_IN_LAYER : ∃ t, PySem.W.nsIn K mainGlobals "MOST_IN_LAYER" = some (some (.int 64 t)))
    (x_MOST_UNITS : ∃ t, PySem.W.nsIn K mainGlobals "MOST_UNITS" = some (some (.int 128 t))) :
    ∃ fd : FuncData, (∀ (s : Shared) (v : Value), BindsTo s fd ⟨[v], []⟩ [("_law_script", v)]) ∧ ∀ base : Heap, K.In base → base.Ns mainGlobals mg → FnOk l.prog w K mg base CX0 33 fa fd ["_law_script"] (spOf K d_law) := by
  have e := hfa.symm.trans (PySem.W.mg_of X G a_28)
  cases e
  have T0 : Txt K mg := { b_isinstance := PySem.W.mg_none_of X G z_isinstance, b_int := PySem.W.mg_none_of X G z_int, b_bool := PySem.W.mg_none_of X G z_bool, b_tuple := PySem.W.mg_none_of X G z_tuple, b_len := PySem.W.mg_none_of X G z_len, b_all := PySem.W.mg_none_of X G z_all, b_sum := PySem.W.mg_none_of X G z_sum, b_zip := PySem.W.mg_none_of X G z_zip, b_range := PySem.W.mg_none_of X G z_range, b_max := PySem.W.mg_none_of X G z_max, b_min := PySem.W.mg_none_of X G z_min, b_abs := PySem.W.mg_none_of X G z_abs, b_list := PySem.W.mg_none_of X G z_list, b_str := PySem.W.mg_none_of X G z_str, b_any := PySem.W.mg_none_of X G z_any, b_enumerate := PySem.W.mg_none_of X G z_enumerate, b_sorted := PySem.W.mg_none_of X G z_sorted, c_SIXTY := hx_SIXTY, c_MOST_INPUTS := let ⟨t, e⟩ := x_MOST_INPUTS; ⟨t, PySem.W.mg_of X G e⟩, c_MOST_LAYERS := let ⟨t, e⟩ := x_MOST_LAYERS; ⟨t, PySem.W.mg_of X G e⟩, c_MOST_IN_LAYER := let ⟨t, e⟩ := x_MOST_IN_LAYER; ⟨t, PySem.W.mg_of X G e⟩, c_MOST_UNITS := let ⟨t, e⟩ := x_MOST_UNITS; ⟨t, PySem.W.mg_of X G e⟩ }
  have cl : SCls K C := ⟨pg, ic, po, sa⟩
  have cmpC : Cmp K C := ⟨cl, ⟨ca, cn, ctk, cm⟩, nNon, nInt, nTup, kit_off ic kTy kTi uNon, kit_off ic kTy kTi uInt, kit_off ic kTy kTi uTup, kit_own, ne⟩
  have T : TxC K mg C := { toTxt := T0, mgC := PySem.W.mg_of X G aC, cmp := cmpC, sx_own_inputs := ⟨p_own_inputs, sa_own_inputs, sg_own_inputs, st_own_inputs, sy_own_inputs, si_own_inputs, by decide⟩, sx_own_last := ⟨p_own_last, sa_own_last, sg_own_last, st_own_last, sy_own_last, si_own_last, by decide⟩, sx_own_layers := ⟨p_own_layers, sa_own_layers, sg_own_layers, st_own_layers, sy_own_layers, si_own_layers, by decide⟩ }
  have A0 : At K mg "is_whole" s_is_whole := ⟨f_0, _, fun_mk (st := s_is_whole) l_0 c_0 k_0, PySem.W.mg_of X G a_0, k_0⟩
  have A1 : At K mg "is_short" s_is_short := ⟨f_1, _, fun_mk (st := s_is_short) l_1 c_1 k_1, PySem.W.mg_of X G a_1, k_1⟩
  have A2 : At K mg "is_from" s_is_from := ⟨f_2, _, fun_mk (st := s_is_from) l_2 c_2 k_2, PySem.W.mg_of X G a_2, k_2⟩
  have A3 : At K mg "are_short" s_are_short := ⟨f_3, _, fun_mk (st := s_are_short) l_3 c_3 k_3, PySem.W.mg_of X G a_3, k_3⟩
  have A4 : At K mg "is_layer" s_is_layer := ⟨f_4, _, fun_mk (st := s_is_layer) l_4 c_4 k_4, PySem.W.mg_of X G a_4, k_4⟩
  have A5 : At K mg "are_parts" s_are_parts := ⟨f_5, _, fun_mk (st := s_are_parts) l_5 c_5 k_5, PySem.W.mg_of X G a_5, k_5⟩
  have A6 : At K mg "told_by" s_told_by := ⟨f_6, _, fun_mk (st := s_told_by) l_6 c_6 k_6, PySem.W.mg_of X G a_6, k_6⟩
  have A7 : At K mg "numbers_in" s_numbers_in := ⟨f_7, _, fun_mk (st := s_numbers_in) l_7 c_7 k_7, PySem.W.mg_of X G a_7, k_7⟩
  have A8 : At K mg "value_in" s_value_in := ⟨f_8, _, fun_mk (st := s_value_in) l_8 c_8 k_8, PySem.W.mg_of X G a_8, k_8⟩
  have A9 : At K mg "require_network" s_require_network := ⟨f_9, _, fun_mk (st := s_require_network) l_9 c_9 k_9, PySem.W.mg_of X G a_9, k_9⟩
  have A10 : At K mg "require_inputs" s_require_inputs := ⟨f_10, _, fun_mk (st := s_require_inputs) l_10 c_10 k_10, PySem.W.mg_of X G a_10, k_10⟩
  have A11 : At K mg "require_place" s_require_place := ⟨f_11, _, fun_mk (st := s_require_place) l_11 c_11 k_11, PySem.W.mg_of X G a_11, k_11⟩
  have A12 : At K mg "value_of" s_value_of := ⟨f_12, _, fun_mk (st := s_value_of) l_12 c_12 k_12, PySem.W.mg_of X G a_12, k_12⟩
  have A13 : At K mg "told_weight" s_told_weight := ⟨f_13, _, fun_mk (st := s_told_weight) l_13 c_13 k_13, PySem.W.mg_of X G a_13, k_13⟩
  have A14 : At K mg "less_row" s_less_row := ⟨f_14, _, fun_mk (st := s_less_row) l_14 c_14 k_14, PySem.W.mg_of X G a_14, k_14⟩
  have A15 : At K mg "mattering" s_mattering := ⟨f_15, _, fun_mk (st := s_mattering) l_15 c_15 k_15, PySem.W.mg_of X G a_15, k_15⟩
  have A16 : At K mg "trimmed_in" s_trimmed_in := ⟨f_16, _, fun_mk (st := s_trimmed_in) l_16 c_16 k_16, PySem.W.mg_of X G a_16, k_16⟩
  have A17 : At K mg "trimmed" s_trimmed := ⟨f_17, _, fun_mk (st := s_trimmed) l_17 c_17 k_17, PySem.W.mg_of X G a_17, k_17⟩
  have A18 : At K mg "_law_vat" s__law_vat := ⟨f_18, _, fun_mk (st := s__law_vat) l_18 c_18 k_18, PySem.W.mg_of X G a_18, k_18⟩
  have A19 : At K mg "_law_draw" s__law_draw := ⟨f_19, _, fun_mk (st := s__law_draw) l_19 c_19 k_19, PySem.W.mg_of X G a_19, k_19⟩
  have A20 : At K mg "_law_pick" s__law_pick := ⟨f_20, _, fun_mk (st := s__law_pick) l_20 c_20 k_20, PySem.W.mg_of X G a_20, k_20⟩
  have A21 : At K mg "_law_row" s__law_row := ⟨f_21, _, fun_mk (st := s__law_row) l_21 c_21 k_21, PySem.W.mg_of X G a_21, k_21⟩
  have A22 : At K mg "_law_parts" s__law_parts := ⟨f_22, _, fun_mk (st := s__law_parts) l_22 c_22 k_22, PySem.W.mg_of X G a_22, k_22⟩
  have A23 : At K mg "_law_rows" s__law_rows := ⟨f_23, _, fun_mk (st := s__law_rows) l_23 c_23 k_23, PySem.W.mg_of X G a_23, k_23⟩
  have A24 : At K mg "_law_thin" s__law_thin := ⟨f_24, _, fun_mk (st := s__law_thin) l_24 c_24 k_24, PySem.W.mg_of X G a_24, k_24⟩
  have A25 : At K mg "_law_left" s__law_left := ⟨f_25, _, fun_mk (st := s__law_left) l_25 c_25 k_25, PySem.W.mg_of X G a_25, k_25⟩
  have A26 : At K mg "_law_trimmed" s__law_trimmed := ⟨f_26, _, fun_mk (st := s__law_trimmed) l_26 c_26 k_26, PySem.W.mg_of X G a_26, k_26⟩
  have A27 : At K mg "_law_right" s__law_right := ⟨f_27, _, fun_mk (st := s__law_right) l_27 c_27 k_27, PySem.W.mg_of X G a_27, k_27⟩
  have P_inputs : AtP K C "inputs" "Network.inputs" s_Network_inputs := ⟨q_inputs, f_pinputs, _, pa_inputs, pg_inputs, pt_inputs, ⟨_, pr_inputs⟩, fun_mk (st := s_Network_inputs) l_pinputs c_pinputs kp_inputs⟩
  have P_layers : AtP K C "layers" "Network.layers" s_Network_layers := ⟨q_layers, f_players, _, pa_layers, pg_layers, pt_layers, ⟨_, pr_layers⟩, fun_mk (st := s_Network_layers) l_players c_players kp_layers⟩
  have P_last : AtP K C "last" "Network.last" s_Network_last := ⟨q_last, f_plast, _, pa_last, pg_last, pt_last, ⟨_, pr_last⟩, fun_mk (st := s_Network_last) l_plast c_plast kp_last⟩
  have P_units : AtP K C "units" "Network.units" s_Network_units := ⟨q_units, f_punits, _, pa_units, pg_units, pt_units, ⟨_, pr_units⟩, fun_mk (st := s_Network_units) l_punits c_punits kp_units⟩
  have M_mparts : AtM K C "parts" "Network.parts" s_Network_parts := ⟨f_mparts, _, ⟨ma_mparts, mi_mparts, mk_mparts⟩, fun_mk (st := s_Network_parts) l_mparts c_mparts mk_mparts⟩
  have M_meq : AtM K C "__eq__" "Network.__eq__" s_Network___eq__ := ⟨f_meq, _, ⟨ma_meq, mi_meq, mk_meq⟩, fun_mk (st := s_Network___eq__) l_meq c_meq mk_meq⟩
  have I0 : AtI K mg C "Network" "Network.__init__" s_Network___init__ := ⟨f_minit, _, ⟨mk, ma_minit, mi_minit, kc⟩, fun_mk (st := s_Network___init__) l_minit c_minit mk_minit, PySem.W.mg_of X G aC⟩
  have FL := fun_mk (st := s_law) l_28 c_28 k_28
  refine ⟨PySem.W.fnOf "law" "law" (defArgs s_law) (defBody s_law) (defScope s_law) .none kV_28 dc_28 pm_28 an_28 cd_28 ct_28, fun s v => .of_eq rfl, fun base _ _ => ?_⟩
  have Q_inputs := ok_inputs (P := l.prog) (w := w) (base := base) P_inputs T
  have Q_layers := ok_layers (P := l.prog) (w := w) (base := base) P_layers T
  have Q_last := ok_last (P := l.prog) (w := w) (base := base) P_last T
  have Q_units := ok_units (P := l.prog) (w := w) (base := base) P_units T
  have Q_parts := ok_parts (P := l.prog) (w := w) (base := base) M_mparts T
  have E_N := ok_eq (P := l.prog) (w := w) (base := base) M_meq Q_parts T
  have F_is_whole := ok_is_whole (P := l.prog) (w := w) (base := base) A0 T0
  have F_is_short := ok_is_short (P := l.prog) (w := w) (base := base) A1 F_is_whole T0
  have F_is_from := ok_is_from (P := l.prog) (w := w) (base := base) A2 F_is_whole T0
  have F_are_short := ok_are_short (P := l.prog) (w := w) (base := base) A3 F_is_short T0
  have F_is_layer := ok_is_layer (P := l.prog) (w := w) (base := base) A4 F_are_short T0
  have F_are_parts := ok_are_parts (P := l.prog) (w := w) (base := base) A5 F_is_from F_is_layer F_are_short T0
  have F_told_by := ok_told_by (P := l.prog) (w := w) (base := base) A6 T
  have F_numbers_in := ok_numbers_in (P := l.prog) (w := w) (base := base) A7 F_told_by T
  have F_value_in := ok_value_in (P := l.prog) (w := w) (base := base) A8 F_told_by F_numbers_in T
  have F_require_network := ok_require_network (P := l.prog) (w := w) (base := base) A9 T
  have F_require_inputs := ok_require_inputs (P := l.prog) (w := w) (base := base) A10 F_are_short T
  have F_require_place := ok_require_place (P := l.prog) (w := w) (base := base) A11 F_require_network F_require_inputs T
  have F_value_of := ok_value_of (P := l.prog) (w := w) (base := base) A12 F_require_place F_value_in T
  have F_told_weight := ok_told_weight (P := l.prog) (w := w) (base := base) A13 T
  have F_less_row := ok_less_row (P := l.prog) (w := w) (base := base) A14 T
  have F_mattering := ok_mattering (P := l.prog) (w := w) (base := base) A15 F_told_weight Q_units T
  have M_N := ok_init (P := l.prog) (w := w) (base := base) I0 F_are_parts T
  have F_trimmed_in := ok_trimmed_in (P := l.prog) (w := w) (base := base) A16 F_mattering F_less_row Q_units M_N T
  have F_trimmed := ok_trimmed (P := l.prog) (w := w) (base := base) A17 F_require_network F_trimmed_in T
  have F__law_vat := ok__law_vat (P := l.prog) (w := w) (base := base) A18 T
  have F__law_draw := ok__law_draw (P := l.prog) (w := w) (base := base) A19 T
  have F__law_pick := ok__law_pick (P := l.prog) (w := w) (base := base) A20 F__law_draw T
  have F__law_row := ok__law_row (P := l.prog) (w := w) (base := base) A21 F__law_pick F__law_draw T
  have F__law_parts := ok__law_parts (P := l.prog) (w := w) (base := base) A22 F__law_draw F__law_row T
  have F__law_rows := ok__law_rows (P := l.prog) (w := w) (base := base) A23 F__law_pick F__law_draw T
  have F__law_thin := ok__law_thin (P := l.prog) (w := w) (base := base) A24 F__law_draw T
  have F__law_left := ok__law_left (P := l.prog) (w := w) (base := base) A25 T
  have F__law_trimmed := ok__law_trimmed (P := l.prog) (w := w) (base := base) A26 F__law_left T
  have F__law_right := ok__law_right (P := l.prog) (w := w) (base := base) A27 F__law_draw F__law_parts F__law_thin F__law_trimmed F_trimmed F__law_rows F_value_of M_N Q_inputs Q_layers Q_last E_N T
  exact ok_law FL F__law_vat F__law_right F_trimmed M_N E_N T
theorem sp_law {K : PySem.W.Frag} {H : Hp} {a : Addr} {ns : List Int} (hl : ns.length ≤ 63) (hS : SqL K H a (ns.map V.int)) : spOf K d_law [.ref a] H (fun v _ => v = .bl true) fun _ _ _ => False :=
  ⟨[.scr ns], fun _ => none, H, fun d _ => d = .bl true, ⟨fun _ _ e => e, fun _ _ e => (by cases e)⟩, .cons (.scr hS) .nil, ⟨ns, rfl, hl, rfl⟩, fun v d μ' G' H' hd w g r => by subst hd; cases r; rfl⟩
end K21
open PySem PySem.W PyProof.Rows
set_option maxRecDepth 100000 in
set_option maxHeartbeats 0 in
theorem PySem.Challenge.cw_rampworks_k21_whole_trimmed_networks_holds : PySem.Challenge.rw_rampworks_k21_whole_trimmed_networks.Holds := by
  w_on; o_law; k_head; (case hw => w_witness2)
  k_fill
  refine K21.walk_ofX (l := PySem.Challenge.rw_rampworks_k21_whole_trimmed_networks) (n := 63) (k := 33) (x := "_law_script") (sp := fun w => DL.spOf _ K21.d_law) rfl (by decide) rfl ⟨rfl, by decide, by decide⟩ (fun w h Y => PySem.W.kIn_of Y) ?F (fun w H a ns hl _ hS => K21.sp_law hl hS)
  case F =>
    intro w mg fa h hx KX G hmg
    obtain ⟨h0, hx⟩ := hx
    refine' K21.all_mk KX G hmg (K21.loose_SIXTY hx (by first | exact List.mem_cons_self | exact List.mem_cons_of_mem _ List.mem_cons_self | exact List.mem_cons_of_mem _ (List.mem_cons_of_mem _ List.mem_cons_self))) ?a_0 ?l_0 ?c_0 ?k_0 ?a_1 ?l_1 ?c_1 ?k_1 ?a_2 ?l_2 ?c_2 ?k_2 ?a_3 ?l_3 ?c_3 ?k_3 ?a_4 ?l_4 ?c_4 ?k_4 ?a_5 ?l_5 ?c_5 ?k_5 ?a_6 ?l_6 ?c_6 ?k_6 ?a_7 ?l_7 ?c_7 ?k_7 ?a_8 ?l_8 ?c_8 ?k_8 ?a_9 ?l_9 ?c_9 ?k_9 ?a_10 ?l_10 ?c_10 ?k_10 ?a_11 ?l_11 ?c_11 ?k_11 ?a_12 ?l_12 ?c_12 ?k_12 ?a_13 ?l_13 ?c_13 ?k_13 ?a_14 ?l_14 ?c_14 ?k_14 ?a_15 ?l_15 ?c_15 ?k_15 ?a_16 ?l_16 ?c_16 ?k_16 ?a_17 ?l_17 ?c_17 ?k_17 ?a_18 ?l_18 ?c_18 ?k_18 ?a_19 ?l_19 ?c_19 ?k_19 ?a_20 ?l_20 ?c_20 ?k_20 ?a_21 ?l_21 ?c_21 ?k_21 ?a_22 ?l_22 ?c_22 ?k_22 ?a_23 ?l_23 ?c_23 ?k_23 ?a_24 ?l_24 ?c_24 ?k_24 ?a_25 ?l_25 ?c_25 ?k_25 ?a_26 ?l_26 ?c_26 ?k_26 ?a_27 ?l_27 ?c_27 ?k_27 ?a_28 ?l_28 ?c_28 ?k_28 ?aC ?pg ?ic ?po ?sa ?ca ?cn ?ctk ?cm ?nNon ?nInt ?nTup ?kTy ?kTi ?uNon ?uInt ?uTup ?ne ?mk ?kc ?sa_own_inputs ?sg_own_inputs ?st_own_inputs ?sy_own_inputs ?si_own_inputs ?sa_own_last ?sg_own_last ?st_own_last ?sy_own_last ?si_own_last ?sa_own_layers ?sg_own_layers ?st_own_layers ?sy_own_layers ?si_own_layers ?pa_inputs ?pg_inputs ?pt_inputs ?pr_inputs ?l_pinputs ?c_pinputs ?kp_inputs ?pa_layers ?pg_layers ?pt_layers ?pr_layers ?l_players ?c_players ?kp_layers ?pa_last ?pg_last ?pt_last ?pr_last ?l_plast ?c_plast ?kp_last ?pa_units ?pg_units ?pt_units ?pr_units ?l_punits ?c_punits ?kp_units ?ma_mparts ?mi_mparts ?l_mparts ?c_mparts ?mk_mparts ?ma_meq ?mi_meq ?l_meq ?c_meq ?mk_meq ?ma_minit ?mi_minit ?l_minit ?c_minit ?mk_minit ?z_isinstance ?z_int ?z_bool ?z_tuple ?z_len ?z_all ?z_sum ?z_zip ?z_range ?z_max ?z_min ?z_abs ?z_list ?z_str ?z_any ?z_enumerate ?z_sorted ?x_MOST_INPUTS ?x_MOST_LAYERS ?x_MOST_IN_LAYER ?x_MOST_UNITS
    (case a_0 => k_is); (case l_0 => k_is); (case c_0 => k_is); (case k_0 => k_is); (case a_1 => k_is); (case l_1 => k_is); (case c_1 => k_is)
    (case k_1 => k_is); (case a_2 => k_is); (case l_2 => k_is); (case c_2 => k_is); (case k_2 => k_is); (case a_3 => k_is); (case l_3 => k_is)
    (case c_3 => k_is); (case k_3 => k_is); (case a_4 => k_is); (case l_4 => k_is); (case c_4 => k_is); (case k_4 => k_is); (case a_5 => k_is)
    (case l_5 => k_is); (case c_5 => k_is); (case k_5 => k_is); (case a_6 => k_is); (case l_6 => k_is); (case c_6 => k_is); (case k_6 => k_is)
    (case a_7 => k_is); (case l_7 => k_is); (case c_7 => k_is); (case k_7 => k_is); (case a_8 => k_is); (case l_8 => k_is); (case c_8 => k_is)
    (case k_8 => k_is); (case a_9 => k_is); (case l_9 => k_is); (case c_9 => k_is); (case k_9 => k_is); (case a_10 => k_is); (case l_10 => k_is)
    (case c_10 => k_is); (case k_10 => k_is); (case a_11 => k_is); (case l_11 => k_is); (case c_11 => k_is); (case k_11 => k_is); (case a_12 => k_is)
    (case l_12 => k_is); (case c_12 => k_is); (case k_12 => k_is); (case a_13 => k_is); (case l_13 => k_is); (case c_13 => k_is); (case k_13 => k_is)
    (case a_14 => k_is); (case l_14 => k_is); (case c_14 => k_is); (case k_14 => k_is); (case a_15 => k_is); (case l_15 => k_is); (case c_15 => k_is)
    (case k_15 => k_is); (case a_16 => k_is); (case l_16 => k_is); (case c_16 => k_is); (case k_16 => k_is); (case a_17 => k_is); (case l_17 => k_is)
    (case c_17 => k_is); (case k_17 => k_is); (case a_18 => k_is); (case l_18 => k_is); (case c_18 => k_is); (case k_18 => k_is); (case a_19 => k_is)
    (case l_19 => k_is); (case c_19 => k_is); (case k_19 => k_is); (case a_20 => k_is); (case l_20 => k_is); (case c_20 => k_is); (case k_20 => k_is)
    (case a_21 => k_is); (case l_21 => k_is); (case c_21 => k_is); (case k_21 => k_is); (case a_22 => k_is); (case l_22 => k_is); (case c_22 => k_is)
    (case k_22 => k_is); (case a_23 => k_is); (case l_23 => k_is); (case c_23 => k_is); (case k_23 => k_is); (case a_24 => k_is); (case l_24 => k_is)
    (case c_24 => k_is); (case k_24 => k_is); (case a_25 => k_is); (case l_25 => k_is); (case c_25 => k_is); (case k_25 => k_is); (case a_26 => k_is)
    (case l_26 => k_is); (case c_26 => k_is); (case k_26 => k_is); (case a_27 => k_is); (case l_27 => k_is); (case c_27 => k_is); (case k_27 => k_is)
    (case a_28 => k_is); (case l_28 => k_is); (case c_28 => k_is); (case k_28 => k_is); (case aC => k_is); (case pg => k_is); (case ic => k_is)
    (case po => k_is); (case sa => k_is); (case ca => k_is); (case cn => k_is); (case ctk => k_is); (case cm => k_is); (case nNon => k_is); (case nInt => k_is)
    (case nTup => k_is); (case kTy => k_is); (case kTi => k_is); (case uNon => k_is); (case uInt => k_is); (case uTup => k_is); (case ne => k_is)
    (case mk => k_is); (case kc => k_is); (case sa_own_inputs => k_is); (case sg_own_inputs => k_is); (case st_own_inputs => k_is); (case sy_own_inputs => k_is)
    (case si_own_inputs => k_is); (case sa_own_last => k_is); (case sg_own_last => k_is); (case st_own_last => k_is); (case sy_own_last => k_is)
    (case si_own_last => k_is); (case sa_own_layers => k_is); (case sg_own_layers => k_is); (case st_own_layers => k_is); (case sy_own_layers => k_is)
    (case si_own_layers => k_is); (case pa_inputs => k_is); (case pg_inputs => k_is); (case pt_inputs => k_is); (case pr_inputs => k_is); (case l_pinputs => k_is)
    (case c_pinputs => k_is); (case kp_inputs => k_is); (case pa_layers => k_is); (case pg_layers => k_is); (case pt_layers => k_is); (case pr_layers => k_is)
    (case l_players => k_is); (case c_players => k_is); (case kp_layers => k_is); (case pa_last => k_is); (case pg_last => k_is); (case pt_last => k_is)
    (case pr_last => k_is); (case l_plast => k_is); (case c_plast => k_is); (case kp_last => k_is); (case pa_units => k_is); (case pg_units => k_is)
    (case pt_units => k_is); (case pr_units => k_is); (case l_punits => k_is); (case c_punits => k_is); (case kp_units => k_is); (case ma_mparts => k_is)
    (case mi_mparts => k_is); (case l_mparts => k_is); (case c_mparts => k_is); (case mk_mparts => k_is); (case ma_meq => k_is); (case mi_meq => k_is)
    (case l_meq => k_is); (case c_meq => k_is); (case mk_meq => k_is); (case ma_minit => k_is); (case mi_minit => k_is); (case l_minit => k_is)
    (case c_minit => k_is); (case mk_minit => k_is); (case z_isinstance => k_is); (case z_int => k_is); (case z_bool => k_is); (case z_tuple => k_is)
    (case z_len => k_is); (case z_all => k_is); (case z_sum => k_is); (case z_zip => k_is); (case z_range => k_is); (case z_max => k_is); (case z_min => k_is)
    (case z_abs => k_is); (case z_list => k_is); (case z_str => k_is); (case z_any => k_is); (case z_enumerate => k_is); (case z_sorted => k_is)
    (case x_MOST_INPUTS => exact ⟨_, by k_is⟩); (case x_MOST_LAYERS => exact ⟨_, by k_is⟩); (case x_MOST_IN_LAYER => exact ⟨_, by k_is⟩); (case x_MOST_UNITS => exact ⟨_, by k_is⟩)



