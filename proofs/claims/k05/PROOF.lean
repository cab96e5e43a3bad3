import PyProof.Rows.All
import Wide.All
import OpenK.AllK
import Wide.FinOn
import HandS.ForMost
import HandS.Slots
import HandS.SlotsOwn
import HandS.IsInst
import HandS.TupAny
import HandS.TupMul
import HandS.FStr
import HandS.Wide
import HandS.Zip
import HandS.Walk
import KE.GoesEnum
import PyProof.InstNe
import PyProof.CallStr
import HandS.Text
import HandS.Star
import HandS.DictComp
import PyProof.DictUpdate
import KE.KDictZip
import HandS.IterVal
import KE.KTupSum
import KE.DataMinMax
import KE.SortData
import HandS.Conv
import PySem.Challenge.RW_rampworks_k05_whole_papers_of_corners_ju
import HandS.Ends
set_option Elab.async false
set_option linter.all false
set_option maxRecDepth 100000
set_option maxHeartbeats 4000000
/-! DLa: data without heap (D), what stands for it (Rep), readings over data. -/
namespace DL
open PySem PySem.Spec PyProof.Rows L2 SlX

/-- data: own p is a list that is known by its address and may change; obj an instance with slots that does not change any more; scr the law's own list -/
inductive D where
  | non | bl (b : Bool) | int (i : Int) | str (x : Str)
  | tup (ds : List D) | lst (ds : List D) | own (p : Addr) | obj (C : Addr) (ds : List D) | scr (ns : List Int)
  | dk (ks : List Key) (ds : List D) | dt (ks : List (List Key)) (ds : List D)

abbrev Sl := List (Option D)
/-- what stands in an own cell: a list; a dict, its keys ints and texts; a dict, its keys tuples of such -/
inductive Cnt where
  | l (ds : List D) | k (kvs : List (Key × D)) | t (kvs : List (List Key × D))
  /-- an instance that changes: its address, its class, its slots; one that is just made, and its own dict's place; enumerate(x) that has not begun, and its iterator -/
  | o (a C : Addr) (ds : List (Option D)) | oi (C dx : Addr) | ox (a : Addr) | en (e it : Addr) | ei (it : Addr) (x : D)
def Cnt.plain : Cnt → Bool
  | .l _ => true
  | .k _ => true
  | .t _ => true
  | _ => false
def kindA : D → Bool
  | .tup _ => false
  | _ => true
def objA (c : Bool) (a : Addr) : Obj := if c = true then { cls := .type "list_iterator", data := .fields #[.ref a, .int 0 0] } else { cls := .type "tuple_iterator", data := .fields #[.ref a, .int 0 0] }
def LiO (o : Obj) (it : Addr) : HO := .ext fun h => h.get? it = some o
def EnO (e it : Addr) : HO := .ext fun h => IsEnum h e it 0 .none
instance : Coe (List D) Cnt := ⟨.l⟩
abbrev Mu := Addr → Option Cnt
def muSet (μ : Mu) (p : Addr) (ds : Cnt) : Mu := fun q => if q = p then some ds else μ q
def muDel (μ : Mu) (p : Addr) : Mu := fun q => if q = p then none else μ q
theorem muSet_same {μ : Mu} {p : Addr} {ds : Cnt} : muSet μ p ds p = some ds := by unfold muSet; rw [if_pos rfl]
theorem muSet_ne {μ : Mu} {p q : Addr} {ds : Cnt} (h : q ≠ p) : muSet μ p ds q = μ q := by unfold muSet; rw [if_neg h]
theorem muDel_same {μ : Mu} {p : Addr} : muDel μ p p = none := by unfold muDel; rw [if_pos rfl]
theorem muDel_ne {μ : Mu} {p q : Addr} (h : q ≠ p) : muDel μ p q = μ q := by unfold muDel; rw [if_neg h]
theorem muSet_set {μ : Mu} {p : Addr} {a b : Cnt} : muSet (muSet μ p a) p b = muSet μ p b := by
  funext q; unfold muSet; split <;> rfl
theorem muDel_set {μ : Mu} {p : Addr} {a : Cnt} : muDel (muSet μ p a) p = muDel μ p := by
  funext q; unfold muSet muDel
  by_cases h : q = p
  · rw [if_pos h, if_pos h]
  · rw [if_neg h, if_neg h]
    show (if q = p then some a else μ q) = μ q
    rw [if_neg h]

def Ex (H H' : Hp) : Prop := ∀ a o, H a = some o → H' a = some o
theorem Ex.refl (H : Hp) : Ex H H := fun _ _ h => h
theorem Ex.trans {H H1 H2 : Hp} (a : Ex H H1) (b : Ex H1 H2) : Ex H H2 := fun x o h => b x o (a x o h)
theorem Ex.new {H : Hp} {p : Addr} {o : HO} (h : H p = none) : Ex H (upd H p o) := fun a u e => by
  rw [upd_ne (ne_of_none e h)]; exact e
theorem Ex.l {K : PySem.W.Frag} {H H' : Hp} {a : Addr} {xs : List V} (e : Ex H H') (h : SqL K H a xs) : SqL K H' a xs := by
  rcases h with (h | ⟨o, h⟩) | h
  · exact .inl (.inl (e _ _ h))
  · exact .inl (.inr ⟨o, e _ _ h⟩)
  · exact .inr h
theorem Ex.t {K : PySem.W.Frag} {H H' : Hp} {a : Addr} {xs : List V} (e : Ex H H') (h : SqT K H a xs) : SqT K H' a xs := by
  rcases h with (h | ⟨o, h⟩) | h
  · exact .inl (.inl (e _ _ h))
  · exact .inl (.inr ⟨o, e _ _ h⟩)
  · exact .inr h
theorem Ex.slt {H H' : Hp} {a C dx : Addr} {vs : List (Option V)} (e : Ex H H') (h : Slt H a C dx vs) : Slt H' a C dx vs := by
  rcases h with ⟨h1, h2⟩ | ⟨h1, h2⟩
  · exact .inl ⟨e _ _ h1, h2⟩
  · exact .inr ⟨e _ _ h1, e _ _ h2⟩

mutual
/-- the value stands for the data, in the heap G of what does not change -/
inductive Rep (K : PySem.W.Frag) (G : Hp) : V → D → Prop
  | non : Rep K G .non .non
  | bl (b : Bool) : Rep K G (.bl b) (.bl b)
  | int (i : Int) : Rep K G (.int i) (.int i)
  | str (x : Str) : Rep K G (.str x) (.str x)
  | tup {a : Addr} {vs : List V} {ds : List D} : G a = some (.tup vs) → RepL K G vs ds → Rep K G (.ref a) (.tup ds)
  | lst {a : Addr} {vs : List V} {ds : List D} : G a = some (.lst vs) → RepL K G vs ds → Rep K G (.ref a) (.lst ds)
  | own (p : Addr) : Rep K G (.ref p) (.own p)
  | obj {a C dx : Addr} {vs : List V} {ds : List D} : Slt G a C dx (vs.map some) → RepL K G vs ds → Rep K G (.ref a) (.obj C ds)
  | scr {a : Addr} {ns : List Int} : SqL K G a (ns.map V.int) → Rep K G (.ref a) (.scr ns)
  | dk {a : Addr} {ks : List Key} {vs : List V} {ds : List D} : G a = some (.dK (ks.zip vs)) → ks.length = vs.length → RepL K G vs ds → Rep K G (.ref a) (.dk ks ds)
  | dt {a : Addr} {ks : List (List Key)} {vs : List V} {ds : List D} : G a = some (.dT (ks.zip vs)) → ks.length = vs.length → RepL K G vs ds → Rep K G (.ref a) (.dt ks ds)
inductive RepL (K : PySem.W.Frag) (G : Hp) : List V → List D → Prop
  | nil : RepL K G [] []
  | cons {v : V} {d : D} {vs : List V} {ds : List D} : Rep K G v d → RepL K G vs ds → RepL K G (v :: vs) (d :: ds)
end

section
variable {K : PySem.W.Frag} {G G' : Hp}
mutual
theorem Rep.mono (e : Ex G G') : ∀ {d : D} {v : V}, Rep K G v d → Rep K G' v d
  | _, _, .non => .non
  | _, _, .bl b => .bl b
  | _, _, .int i => .int i
  | _, _, .str x => .str x
  | _, _, .tup h r => .tup (e _ _ h) (RepL.mono e r)
  | _, _, .lst h r => .lst (e _ _ h) (RepL.mono e r)
  | _, _, .own p => .own p
  | _, _, .obj h r => .obj (e.slt h) (RepL.mono e r)
  | _, _, .scr h => .scr (e.l h)
  | _, _, .dk h l r => .dk (e _ _ h) l (RepL.mono e r)
  | _, _, .dt h l r => .dt (e _ _ h) l (RepL.mono e r)
theorem RepL.mono (e : Ex G G') : ∀ {ds : List D} {vs : List V}, RepL K G vs ds → RepL K G' vs ds
  | _, _, .nil => .nil
  | _, _, .cons h t => .cons (Rep.mono e h) (RepL.mono e t)
end
theorem RepL.length : ∀ {ds : List D} {vs : List V}, RepL K G vs ds → vs.length = ds.length
  | _, _, .nil => rfl
  | _, _, .cons _ t => congrArg (· + 1) (RepL.length t)
theorem RepL.get : ∀ {ds : List D} {vs : List V} {i : Nat} {v : V}, RepL K G vs ds → vs[i]? = some v → ∃ d, ds[i]? = some d ∧ Rep K G v d
  | _, _, _, _, .nil, e => by simp at e
  | _, _, 0, _, .cons r _, e => by simp at e; subst e; exact ⟨_, rfl, r⟩
  | _, _, i + 1, v, .cons _ t, e => by
    obtain ⟨d, h1, h2⟩ := RepL.get (i := i) (v := v) t (by simpa using e)
    exact ⟨d, by simpa using h1, h2⟩
theorem RepL.getD' : ∀ {ds : List D} {vs : List V} {i : Nat} {d : D}, RepL K G vs ds → ds[i]? = some d → ∃ v, vs[i]? = some v ∧ Rep K G v d
  | _, _, _, _, .nil, e => by simp at e
  | _, _, 0, _, .cons r _, e => by simp at e; subst e; exact ⟨_, rfl, r⟩
  | _, _, i + 1, d, .cons _ t, e => by
    obtain ⟨v, h1, h2⟩ := RepL.getD' (i := i) (d := d) t (by simpa using e)
    exact ⟨v, by simpa using h1, h2⟩
theorem RepL.append : ∀ {ds es : List D} {vs ws : List V}, RepL K G vs ds → RepL K G ws es → RepL K G (vs ++ ws) (ds ++ es)
  | _, _, _, _, .nil, s => s
  | _, _, _, _, .cons r t, s => .cons r (RepL.append t s)
theorem RepL.set {v : V} {d : D} (r : Rep K G v d) : ∀ {ds : List D} {vs : List V} (i : Nat), RepL K G vs ds → RepL K G (vs.set i v) (ds.set i d)
  | _, _, _, .nil => .nil
  | _, _, 0, .cons _ t => .cons r t
  | _, _, i + 1, .cons q t => .cons q (RepL.set r i t)
theorem RepL.take : ∀ {ds : List D} {vs : List V} (n : Nat), RepL K G vs ds → RepL K G (vs.take n) (ds.take n)
  | _, _, 0, _ => .nil
  | _, _, _ + 1, .nil => .nil
  | _, _, n + 1, .cons r t => .cons r (RepL.take n t)
theorem RepL.drop : ∀ {ds : List D} {vs : List V} (n : Nat), RepL K G vs ds → RepL K G (vs.drop n) (ds.drop n)
  | _, _, 0, r => r
  | _, _, _ + 1, .nil => .nil
  | _, _, n + 1, .cons _ t => RepL.drop n t
theorem RepL.replicate {v : V} {d : D} (r : Rep K G v d) : ∀ n : Nat, RepL K G (List.replicate n v) (List.replicate n d)
  | 0 => .nil
  | n + 1 => .cons r (RepL.replicate r n)
/-- what rows of ints stand for -/
theorem RepL.ints : ∀ {ns : List Int} {vs : List V}, RepL K G vs (ns.map D.int) → vs = ns.map V.int
  | [], _, h => by cases h; rfl
  | n :: ns, _, h => by
    cases h with
    | cons a b => cases a; rw [RepL.ints b]; rfl
theorem RepL.of_ints : ∀ (ns : List Int), RepL K G (ns.map V.int) (ns.map D.int)
  | [] => .nil
  | n :: ns => .cons (.int n) (RepL.of_ints ns)
theorem RepL.bls : ∀ {ns : List Bool} {vs : List V}, RepL K G vs (ns.map D.bl) → vs = ns.map V.bl
  | [], _, h => by cases h; rfl
  | n :: ns, _, h => by
    cases h with
    | cons a b => cases a; rw [RepL.bls b]; rfl
theorem RepL.strs : ∀ {ns : List Str} {vs : List V}, RepL K G vs (ns.map D.str) → vs = ns.map V.str
  | [], _, h => by cases h; rfl
  | n :: ns, _, h => by
    cases h with
    | cons a b => cases a; rw [RepL.strs b]; rfl
end

/-- the slots -/
structure SlOk (K : PySem.W.Frag) (G : Hp) (σ : L2.St) (δ : Sl) : Prop where
  len : σ.length = δ.length
  at_ : ∀ (i : Nat) (d : D), δ[i]? = some (some d) → ∃ v, σ[i]? = some (some v) ∧ Rep K G v d
/-- the content of an own cell -/
inductive RepC (K : PySem.W.Frag) (G : Hp) : HO → Cnt → Prop
  | l {vs : List V} {ds : List D} : RepL K G vs ds → RepC K G (.lst vs) (.l ds)
  | k {kvs : List (Key × V)} {kds : List (Key × D)} : kvs.map (·.1) = kds.map (·.1) → RepL K G (kvs.map (·.2)) (kds.map (·.2)) → RepC K G (.dK kvs) (.k kds)
  | t {kvs : List (List Key × V)} {kds : List (List Key × D)} : kvs.map (·.1) = kds.map (·.1) → RepL K G (kvs.map (·.2)) (kds.map (·.2)) → RepC K G (.dT kvs) (.t kds)
  | o {a C dx : Addr} {vs : L2.St} {ds : Sl} : dx ≠ a → G dx = some (.xd []) → SlOk K G vs ds → RepC K G (SlO a C dx vs) (.o a C ds)
  | oi {C dx : Addr} : RepC K G (.ins C dx []) (.oi C dx)
  | ox {a : Addr} : RepC K G (.own a) (.ox a)
  | en {e it : Addr} : RepC K G (EnO e it) (.en e it)
  | ei {a it : Addr} {x : D} : Rep K G (.ref a) x → RepC K G (LiO (objA (kindA x) a) it) (.ei it x)
theorem SlOk.mono0 {K : PySem.W.Frag} {G G' : Hp} {σ : L2.St} {δ : Sl} (h : SlOk K G σ δ) (e : Ex G G') : SlOk K G' σ δ := ⟨h.len, fun i d q => let ⟨v, a, b⟩ := h.at_ i d q; ⟨v, a, b.mono e⟩⟩
theorem RepC.mono {K : PySem.W.Frag} {G G' : Hp} (e : Ex G G') {o : HO} {c : Cnt} : RepC K G o c → RepC K G' o c
  | .l r => .l (r.mono e)
  | .k h r => .k h (r.mono e)
  | .t h r => .t h (r.mono e)
  | .o n h r => .o n (e _ _ h) (r.mono0 e)
  | .oi => .oi
  | .ox => .ox
  | .en => .en
  | .ei r => .ei (r.mono e)
/-- the heap: what does not change, the own lists -/
structure Wd (K : PySem.W.Frag) (G H : Hp) (μ : Mu) : Prop where
  ex : Ex G H
  mu : ∀ p c, μ p = some c → G p = none ∧ ∃ o, H p = some o ∧ RepC K G o c
theorem Wd.muL {K : PySem.W.Frag} {G H : Hp} {μ : Mu} (w : Wd K G H μ) (p : Addr) (ds : List D) (e : μ p = some (.l ds)) : G p = none ∧ ∃ vs, H p = some (.lst vs) ∧ RepL K G vs ds := by
  obtain ⟨h1, o, h2, h3⟩ := w.mu p _ e
  cases h3 with
  | l r => exact ⟨h1, _, h2, r⟩
theorem Wd.muK {K : PySem.W.Frag} {G H : Hp} {μ : Mu} (w : Wd K G H μ) (p : Addr) (kds : List (Key × D)) (e : μ p = some (.k kds)) : G p = none ∧ ∃ kvs, H p = some (.dK kvs) ∧ kvs.map (·.1) = kds.map (·.1) ∧ RepL K G (kvs.map (·.2)) (kds.map (·.2)) := by
  obtain ⟨h1, o, h2, h3⟩ := w.mu p _ e
  cases h3 with
  | k h r => exact ⟨h1, _, h2, h, r⟩
theorem Wd.muT {K : PySem.W.Frag} {G H : Hp} {μ : Mu} (w : Wd K G H μ) (p : Addr) (kds : List (List Key × D)) (e : μ p = some (.t kds)) : G p = none ∧ ∃ kvs, H p = some (.dT kvs) ∧ kvs.map (·.1) = kds.map (·.1) ∧ RepL K G (kvs.map (·.2)) (kds.map (·.2)) := by
  obtain ⟨h1, o, h2, h3⟩ := w.mu p _ e
  cases h3 with
  | t h r => exact ⟨h1, _, h2, h, r⟩
/-- from one state to a later one -/
structure Go (μ : Mu) (G H : Hp) (μ' : Mu) (G' H' : Hp) : Prop where
  eg : Ex G G'
  kp : ∀ a o, H a = some o → μ a = none → H' a = some o
  dm : ∀ a, μ' a ≠ none → μ a ≠ none ∨ H a = none
  gf : ∀ a, G' a ≠ none → G a ≠ none ∨ μ a ≠ none ∨ H a = none ∨ ∃ xs, H a = some (.tup xs)
theorem Go.refl (μ : Mu) (G H : Hp) : Go μ G H μ G H := ⟨Ex.refl G, fun _ _ h _ => h, fun _ h => .inl h, fun _ h => .inl h⟩
theorem Go.none_mu {μ μ1 : Mu} {G G1 H H1 : Hp} (x : Go μ G H μ1 G1 H1) {a : Addr} {o : HO} (h : H a = some o) (hm : μ a = none) : μ1 a = none := by
  cases e : μ1 a with
  | none => rfl
  | some d =>
    rcases x.dm a (by rw [e]; simp) with z | z
    · exact absurd hm z
    · rw [h] at z; cases z
theorem Go.back {μ μ1 : Mu} {G G1 H H1 : Hp} (x : Go μ G H μ1 G1 H1) {a : Addr} (h : H1 a = none) : μ a ≠ none ∨ H a = none := by
  cases e : H a with
  | none => exact .inr rfl
  | some o =>
    by_cases hm : μ a = none
    · have := x.kp a o e hm
      rw [h] at this; cases this
    · exact .inl hm
theorem Go.trans {μ μ1 μ2 : Mu} {G G1 G2 H H1 H2 : Hp} (x : Go μ G H μ1 G1 H1) (y : Go μ1 G1 H1 μ2 G2 H2) : Go μ G H μ2 G2 H2 where
  eg := x.eg.trans y.eg
  kp := fun a o h hm => y.kp a o (x.kp a o h hm) (x.none_mu h hm)
  dm := fun a h => by
    rcases y.dm a h with z | z
    · exact x.dm a z
    · exact x.back z
  gf := fun a h => by
    rcases y.gf a h with z | z | z | ⟨xs, z⟩
    · exact x.gf a z
    · rcases x.dm a z with w | w
      · exact .inr (.inl w)
      · exact .inr (.inr (.inl w))
    · rcases x.back z with w | w
      · exact .inr (.inl w)
      · exact .inr (.inr (.inl w))
    · cases e : H a with
      | none => exact .inr (.inr (.inl rfl))
      | some o =>
        by_cases hm : μ a = none
        · have := x.kp a o e hm
          rw [z] at this
          cases this
          exact .inr (.inr (.inr ⟨xs, rfl⟩))
        · exact .inr (.inl hm)
section
variable {K : PySem.W.Frag} {G G' H H' : Hp} {μ μ' : Mu} {σ : L2.St} {δ : Sl}
theorem SlOk.mono (h : SlOk K G σ δ) (e : Ex G G') : SlOk K G' σ δ := ⟨h.len, fun i d q => let ⟨v, a, b⟩ := h.at_ i d q; ⟨v, a, b.mono e⟩⟩
theorem SlOk.set {v : V} {d : D} (h : SlOk K G σ δ) (r : Rep K G v d) (i : Nat) : SlOk K G (σ.set i (some v)) (δ.set i (some d)) := by
  refine ⟨by rw [List.length_set, List.length_set]; exact h.len, fun j e q => ?_⟩
  by_cases hj : i = j
  · subst hj
    by_cases hi : i < δ.length
    · rw [List.getElem?_set_self hi] at q
      cases q
      exact ⟨v, by rw [List.getElem?_set_self (by rw [h.len]; exact hi)], r⟩
    · rw [List.getElem?_eq_none (by simpa using hi)] at q
      cases q
  · rw [List.getElem?_set_ne hj] at q
    rw [List.getElem?_set_ne hj]
    exact h.at_ j e q
theorem SlOk.unset (h : SlOk K G σ δ) (i : Nat) (x : Option V) : SlOk K G (σ.set i x) (δ.set i none) := by
  refine ⟨by rw [List.length_set, List.length_set]; exact h.len, fun j e q => ?_⟩
  by_cases hj : i = j
  · subst hj
    by_cases hi : i < δ.length
    · rw [List.getElem?_set_self hi] at q
      cases q
    · rw [List.getElem?_eq_none (by simpa using hi)] at q
      cases q
  · rw [List.getElem?_set_ne hj] at q
    rw [List.getElem?_set_ne hj]
    exact h.at_ j e q
/-- a new object of what does not change -/
theorem Wd.new (w : Wd K G H μ) {p : Addr} {o : HO} (hp : H p = none) : Wd K (upd G p o) (upd H p o) μ := by
  have gp : G p = none := by
    cases e : G p with
    | none => rfl
    | some u => have := w.ex _ _ e; rw [hp] at this; cases this
  refine ⟨fun a u e => ?_, fun q ds e => ?_⟩
  · by_cases h : a = p
    · subst h; rw [upd_same] at e ⊢; exact e
    · rw [upd_ne h] at e ⊢; exact w.ex _ _ e
  · obtain ⟨h1, vs, h2, h3⟩ := w.mu q ds e
    have hq : q ≠ p := ne_of_none h2 hp
    exact ⟨by rw [upd_ne hq]; exact h1, vs, by rw [upd_ne hq]; exact h2, h3.mono (Ex.new gp)⟩
theorem Wd.gnone (w : Wd K G H μ) {p : Addr} (hp : H p = none) : G p = none := by
  cases e : G p with
  | none => rfl
  | some u => have := w.ex _ _ e; rw [hp] at this; cases this
theorem Wd.mnone (w : Wd K G H μ) {p : Addr} (hp : H p = none) : μ p = none := by
  cases e : μ p with
  | none => rfl
  | some u => obtain ⟨_, vs, h2, _⟩ := w.mu p u e; rw [hp] at h2; cases h2
theorem Go.new (w : Wd K G H μ) {p : Addr} {o : HO} (hp : H p = none) : Go μ G H μ (upd G p o) (upd H p o) := by
  refine ⟨Ex.new (w.gnone hp), fun a u h _ => ?_, fun _ h => .inl h, fun a h => ?_⟩
  · rw [upd_ne (ne_of_none h hp)]; exact h
  · by_cases e : a = p
    · subst e; exact .inr (.inr (.inl hp))
    · rw [upd_ne e] at h; exact .inl h
/-- a new own list -/
theorem Wd.newC (w : Wd K G H μ) {p : Addr} {o : HO} {c : Cnt} (hp : H p = none) (r : RepC K G o c) : Wd K G (upd H p o) (muSet μ p c) := by
  refine ⟨fun a u e => ?_, fun q es e => ?_⟩
  · have := w.ex _ _ e
    rw [upd_ne (ne_of_none this hp)]; exact this
  · by_cases h : q = p
    · subst h
      rw [muSet_same] at e
      cases e
      exact ⟨w.gnone hp, o, upd_same, r⟩
    · rw [muSet_ne h] at e
      obtain ⟨h1, ws, h2, h3⟩ := w.mu q es e
      exact ⟨h1, ws, by rw [upd_ne h]; exact h2, h3⟩
theorem Wd.newO (w : Wd K G H μ) {p : Addr} {vs : List V} {ds : List D} (hp : H p = none) (r : RepL K G vs ds) : Wd K G (upd H p (.lst vs)) (muSet μ p ds) := w.newC hp (.l r)
theorem Go.newC (w : Wd K G H μ) {p : Addr} {o : HO} {c : Cnt} (hp : H p = none) : Go μ G H (muSet μ p c) G (upd H p o) := by
  refine ⟨Ex.refl G, fun a u h _ => ?_, fun a h => ?_, fun _ h => .inl h⟩
  · rw [upd_ne (ne_of_none h hp)]; exact h
  · by_cases e : a = p
    · subst e; exact .inr hp
    · rw [muSet_ne e] at h; exact .inl h
theorem Go.newO (w : Wd K G H μ) {p : Addr} {vs : List V} {ds : List D} (hp : H p = none) : Go μ G H (muSet μ p ds) G (upd H p (.lst vs)) := Go.newC w hp
/-- an own cell changes -/
theorem Wd.wrC (w : Wd K G H μ) {p : Addr} {o : HO} {c es : Cnt} (hp : μ p = some es) (r : RepC K G o c) : Wd K G (upd H p o) (muSet μ p c) := by
  obtain ⟨gp, ws, hw, _⟩ := w.mu p es hp
  refine ⟨fun a u e => ?_, fun q es e => ?_⟩
  · have hne : a ≠ p := ne_of_none e gp
    rw [upd_ne hne]; exact w.ex _ _ e
  · by_cases h : q = p
    · subst h
      rw [muSet_same] at e
      cases e
      exact ⟨gp, o, upd_same, r⟩
    · rw [muSet_ne h] at e
      obtain ⟨h1, ws, h2, h3⟩ := w.mu q es e
      exact ⟨h1, ws, by rw [upd_ne h]; exact h2, h3⟩
theorem Wd.wr (w : Wd K G H μ) {p : Addr} {vs : List V} {ds : List D} {es : Cnt} (hp : μ p = some es) (r : RepL K G vs ds) : Wd K G (upd H p (.lst vs)) (muSet μ p ds) := w.wrC hp (.l r)
theorem Go.wrC {p : Addr} {o : HO} {c es : Cnt} (hp : μ p = some es) : Go μ G H (muSet μ p c) G (upd H p o) := by
  refine ⟨Ex.refl G, fun a u h hm => ?_, fun a h => ?_, fun _ h => .inl h⟩
  · have hne : a ≠ p := fun z => by subst z; rw [hp] at hm; cases hm
    rw [upd_ne hne]; exact h
  · by_cases e : a = p
    · subst e; exact .inl (by rw [hp]; simp)
    · rw [muSet_ne e] at h; exact .inl h
theorem Go.wr {p : Addr} {vs : List V} {ds : List D} {es : Cnt} (hp : μ p = some es) : Go μ G H (muSet μ p ds) G (upd H p (.lst vs)) := Go.wrC hp
/-- an own cell is let go of: it does not change any more -/
theorem Wd.frzC (w : Wd K G H μ) {p : Addr} {c : Cnt} (hp : μ p = some c) : ∃ o, RepC K G o c ∧ G p = none ∧ Wd K (upd G p o) H (muDel μ p) ∧ Go μ G H (muDel μ p) (upd G p o) H := by
  obtain ⟨gp, o, hv, r⟩ := w.mu p c hp
  refine ⟨o, r, gp, ⟨fun a u e => ?_, fun q es e => ?_⟩, Ex.new gp, fun _ _ h _ => h, fun a h => ?_, fun a h => ?_⟩
  · by_cases h : a = p
    · subst h; rw [upd_same] at e; cases e; exact hv
    · rw [upd_ne h] at e; exact w.ex _ _ e
  · by_cases h : q = p
    · subst h; rw [muDel_same] at e; cases e
    · rw [muDel_ne h] at e
      obtain ⟨h1, ws, h2, h3⟩ := w.mu q es e
      exact ⟨by rw [upd_ne h]; exact h1, ws, h2, h3.mono (Ex.new gp)⟩
  · by_cases e : a = p
    · subst e; rw [muDel_same] at h; exact absurd rfl h
    · rw [muDel_ne e] at h; exact .inl h
  · by_cases e : a = p
    · subst e; exact .inr (.inl (by rw [hp]; simp))
    · rw [upd_ne e] at h; exact .inl h
/-- what stands for an own cell that does not change any more -/
@[simp] def cntD : Cnt → D
  | .l ds => .lst ds
  | .k kvs => .dk (kvs.map (·.1)) (kvs.map (·.2))
  | .t kvs => .dt (kvs.map (·.1)) (kvs.map (·.2))
  | _ => .non
theorem zip_back {α β : Type} (kvs : List (α × β)) : (kvs.map (·.1)).zip (kvs.map (·.2)) = kvs := by
  induction kvs with
  | nil => rfl
  | cons a kvs ih => simp [ih]
theorem RepC.rep {o : HO} {c : Cnt} {p : Addr} (gp : G p = none) : RepC K G o c → c.plain = true → Rep K (upd G p o) (.ref p) (cntD c)
  | .l r, _ => .lst upd_same (r.mono (Ex.new gp))
  | .k (kvs := kvs) (kds := kds) h r, _ => by
    refine .dk (vs := kvs.map (·.2)) ?_ ?_ (r.mono (Ex.new gp))
    · show upd G p (.dK kvs) p = some (.dK ((kds.map (·.1)).zip (kvs.map (·.2))))
      rw [← h, zip_back, upd_same]
    · show (kds.map (·.1)).length = (kvs.map (·.2)).length
      rw [← h, List.length_map, List.length_map]
  | .t (kvs := kvs) (kds := kds) h r, _ => by
    refine .dt (vs := kvs.map (·.2)) ?_ ?_ (r.mono (Ex.new gp))
    · show upd G p (.dT kvs) p = some (.dT ((kds.map (·.1)).zip (kvs.map (·.2))))
      rw [← h, zip_back, upd_same]
    · show (kds.map (·.1)).length = (kvs.map (·.2)).length
      rw [← h, List.length_map, List.length_map]
theorem Wd.frz (w : Wd K G H μ) {p : Addr} {c : Cnt} (hp : μ p = some c) (hc : c.plain = true) : ∃ o, Wd K (upd G p o) H (muDel μ p) ∧ Rep K (upd G p o) (.ref p) (cntD c) ∧ Go μ G H (muDel μ p) (upd G p o) H := by
  obtain ⟨o, r, gp, a, b⟩ := w.frzC hp
  exact ⟨o, a, r.rep gp hc, b⟩
end

/-! ### readings over data -/
abbrev DK := D → Mu → Prop
abbrev RE := Sl → Mu → DK → Prop
abbrev RT := Sl → Mu → (Bool → Mu → Prop) → Prop
abbrev RA := Sl → Mu → (List D → Mu → Prop) → Prop
structure DEnds where
  nx : Sl → Mu → Prop
  rt : DK
  bk : Sl → Mu → Prop := fun _ _ => False
  ct : Sl → Mu → Prop := fun _ _ => False
abbrev RS := DEnds → Sl → Mu → Prop
/-- a target: the data to be stored -/
abbrev RG := D → Sl → Mu → (Sl → Mu → Prop) → Prop

section
variable (K : PySem.W.Frag)
def OkE (t : TE) (r : RE) : Prop := ∀ (σ : L2.St) (δ : Sl) (μ : Mu) (G H : Hp) (k : DK) (Q : VK), SlOk K G σ δ → Wd K G H μ → r δ μ k →
  (∀ v d μ' G' H', k d μ' → Wd K G' H' μ' → Go μ G H μ' G' H' → Rep K G' v d → Q v H') → t σ H Q
def OkT (t : TT) (r : RT) : Prop := ∀ (σ : L2.St) (δ : Sl) (μ : Mu) (G H : Hp) (k : Bool → Mu → Prop) (Q : Bool → Hp → Prop), SlOk K G σ δ → Wd K G H μ → r δ μ k →
  (∀ b μ' G' H', k b μ' → Wd K G' H' μ' → Go μ G H μ' G' H' → Q b H') → t σ H Q
def OkA (t : TA) (r : RA) : Prop := ∀ (σ : L2.St) (δ : Sl) (μ : Mu) (G H : Hp) (k : List D → Mu → Prop) (Q : List V → Hp → Prop), SlOk K G σ δ → Wd K G H μ → r δ μ k →
  (∀ vs ds μ' G' H', k ds μ' → Wd K G' H' μ' → Go μ G H μ' G' H' → RepL K G' vs ds → Q vs H') → t σ H Q
/-- what is wanted behind a statement -/
structure Back (μ : Mu) (G H : Hp) (DD : DEnds) (D : Ends) : Prop where
  nx : ∀ σ' δ' μ' G' H', DD.nx δ' μ' → SlOk K G' σ' δ' → Wd K G' H' μ' → Go μ G H μ' G' H' → D.nx σ' H'
  bk : ∀ σ' δ' μ' G' H', DD.bk δ' μ' → SlOk K G' σ' δ' → Wd K G' H' μ' → Go μ G H μ' G' H' → D.bk σ' H'
  ct : ∀ σ' δ' μ' G' H', DD.ct δ' μ' → SlOk K G' σ' δ' → Wd K G' H' μ' → Go μ G H μ' G' H' → D.ct σ' H'
  rt : ∀ v d μ' G' H', DD.rt d μ' → Wd K G' H' μ' → Go μ G H μ' G' H' → Rep K G' v d → D.rt v H'
def OkS (t : TS) (r : RS) : Prop := ∀ (σ : L2.St) (δ : Sl) (μ : Mu) (G H : Hp) (DD : DEnds) (D : Ends), SlOk K G σ δ → Wd K G H μ → r DD δ μ → Back K μ G H DD D → t D σ H
/-- js: the slots that are stored -/
def OkG (g : TG) (r : RG) (js : List Nat) : Prop := ∀ (v : V) (d : D) (σ : L2.St) (δ : Sl) (μ : Mu) (G H : Hp) (k : Sl → Mu → Prop) (Q : L2.St → Hp → Prop), SlOk K G σ δ → Wd K G H μ → Rep K G v d → r d δ μ k →
  (∀ σ' δ' μ' G' H', k δ' μ' → SlOk K G' σ' δ' → Wd K G' H' μ' → Go μ G H μ' G' H' → (σ'.length = σ.length ∧ ∀ i, i ∉ js → σ'[i]? = σ[i]?) → Q σ' H') → g v σ H Q
end
theorem Back.go {K : PySem.W.Frag} {μ μ1 : Mu} {G G1 H H1 : Hp} {DD : DEnds} {D : Ends} (b : Back K μ G H DD D) (g : Go μ G H μ1 G1 H1) : Back K μ1 G1 H1 DD D :=
  ⟨fun σ' δ' μ' G' H' h s w x => b.nx σ' δ' μ' G' H' h s w (g.trans x), fun σ' δ' μ' G' H' h s w x => b.bk σ' δ' μ' G' H' h s w (g.trans x),
   fun σ' δ' μ' G' H' h s w x => b.ct σ' δ' μ' G' H' h s w (g.trans x), fun v d μ' G' H' h w x r => b.rt v d μ' G' H' h w (g.trans x) r⟩

/-! ### the judgements: the rule of HandS and the reading over data -/
structure DE (X : Cx) (e : Expr) (t : TE) (r : RE) : Prop where
  p : PE X e t
  o : OkE X.K t r
structure DT (X : Cx) (e : Expr) (t : TT) (r : RT) : Prop where
  p : PT X e t
  o : OkT X.K t r
structure DW (X : Cx) (e : Expr) (t : TT) (r : RT) : Prop where
  p : PW X e t
  o : OkT X.K t r
structure DA (X : Cx) (es : List Expr) (t : TA) (r : RA) : Prop where
  p : PA X es t
  o : OkA X.K t r
structure DS (X : Cx) (st : Stmt) (t : TS) (r : RS) : Prop where
  p : PS X st t
  o : OkS X.K t r
structure DSs (X : Cx) (st : List Stmt) (t : TS) (r : RS) : Prop where
  p : PSs X st t
  o : OkS X.K t r
structure DG (X : Cx) (tg : Expr) (g : TG) (r : RG) (js : List Nat) : Prop where
  p : PG X tg g
  o : OkG X.K g r js
end DL


set_option Elab.async false
set_option linter.all false
set_option maxRecDepth 100000
set_option maxHeartbeats 4000000
/-! DLb: rules for expressions, tests, arguments over data. -/
namespace DL
open PySem PySem.Spec PyProof.Rows L2 SlX

/-- what is wanted behind a value -/
abbrev Then (K : PySem.W.Frag) (μ : Mu) (G H : Hp) (k : DK) (Q : VK) : Prop := ∀ v d μ' G' H', k d μ' → Wd K G' H' μ' → Go μ G H μ' G' H' → Rep K G' v d → Q v H'
abbrev F2 := D → D → Mu → DK → Prop
abbrev F1 := D → Mu → DK → Prop
abbrev FL := List D → Mu → DK → Prop
section
variable (K : PySem.W.Frag)
def OkOp (r : R2) (f : F2) : Prop := ∀ (x y : V) (a b : D) (μ : Mu) (G H : Hp) (k : DK) (Q : VK), Wd K G H μ → Rep K G x a → Rep K G y b → f a b μ k → Then K μ G H k Q → r x y H Q
def OkU (r : V → Hp → VK → Prop) (f : F1) : Prop := ∀ (x : V) (a : D) (μ : Mu) (G H : Hp) (k : DK) (Q : VK), Wd K G H μ → Rep K G x a → f a μ k → Then K μ G H k Q → r x H Q
def OkC (r : List V → Hp → VK → Prop) (f : FL) : Prop := ∀ (xs : List V) (as : List D) (μ : Mu) (G H : Hp) (k : DK) (Q : VK), Wd K G H μ → RepL K G xs as → f as μ k → Then K μ G H k Q → r xs H Q
/-- a method by values: the object, the arguments -/
def OkM (r : V → List V → Hp → VK → Prop) (f : D → List D → Mu → DK → Prop) : Prop :=
  ∀ (x : V) (xs : List V) (a : D) (as : List D) (μ : Mu) (G H : Hp) (k : DK) (Q : VK), Wd K G H μ → Rep K G x a → RepL K G xs as → f a as μ k → Then K μ G H k Q → r x xs H Q
end

/-! ### readings -/
@[simp] def rVar (i : Nat) : RE := fun δ μ k => match δ[i]? with | some (some d) => k d μ | _ => False
@[simp] def rC (d : D) : RE := fun _ μ k => k d μ
@[simp] def rOp (f : F2) (ra rb : RE) : RE := fun δ μ k => ra δ μ fun x μ1 => rb δ μ1 fun y μ2 => f x y μ2 k
@[simp] def rUn (f : F1) (ra : RE) : RE := fun δ μ k => ra δ μ fun x μ1 => f x μ1 k
@[simp] def rIf (rt : RT) (ra rb : RE) : RE := fun δ μ k => rt δ μ fun b μ1 => if b = true then ra δ μ1 k else rb δ μ1 k
@[simp] def asB (d : D) (k : Bool → Prop) : Prop := match d with | .bl b => k b | _ => False
@[simp] def rAndV (ra rb : RE) : RE := fun δ μ k => ra δ μ fun x μ1 => asB x fun c => if c = true then rb δ μ1 k else k (.bl false) μ1
@[simp] def rOrV (ra rb : RE) : RE := fun δ μ k => ra δ μ fun x μ1 => asB x fun c => if c = true then k (.bl true) μ1 else rb δ μ1 k
@[simp] def rNotV (ra : RE) : RE := fun δ μ k => ra δ μ fun x μ1 => asB x fun c => k (.bl (!c)) μ1
@[simp] def rB (ra : RE) : RT := fun δ μ k => ra δ μ fun x μ1 => asB x fun c => k c μ1
@[simp] def rAnd (ra rb : RT) : RT := fun δ μ k => ra δ μ fun c μ1 => if c = true then rb δ μ1 k else k false μ1
@[simp] def rOr (ra rb : RT) : RT := fun δ μ k => ra δ μ fun c μ1 => if c = true then k true μ1 else rb δ μ1 k
@[simp] def rNot (ra : RT) : RT := fun δ μ k => ra δ μ fun c μ1 => k (!c) μ1
@[simp] def rChain (f f' : F2) (ra rb rc : RE) : RE := fun δ μ k => ra δ μ fun x μ1 => rb δ μ1 fun y μ2 => f x y μ2 fun z μ3 => asB z fun c => if c = true then rc δ μ3 (fun w μ4 => f' y w μ4 k) else k (.bl false) μ3
@[simp] def rNil : RA := fun _ μ k => k [] μ
@[simp] def rCons (ra : RE) (rr : RA) : RA := fun δ μ k => ra δ μ fun x μ1 => rr δ μ1 fun xs μ2 => k (x :: xs) μ2
@[simp] def rTup (ra : RA) : RE := fun δ μ k => ra δ μ fun xs μ1 => xs.length ≤ 1000000 ∧ k (.tup xs) μ1
@[simp] def rLst (ra : RA) : RE := fun δ μ k => ra δ μ fun xs μ1 => xs.length ≤ 1000000 ∧ k (.lst xs) μ1
/-- a new list that will change -/
@[simp] def rLstO (ra : RA) : RE := fun δ μ k => ra δ μ fun xs μ1 => xs.length ≤ 1000000 ∧ ∀ p, μ1 p = none → k (.own p) (muSet μ1 p xs)
@[simp] def rCB (f : FL) (ra : RA) : RE := fun δ μ k => ra δ μ fun xs μ1 => f xs μ1 k
@[simp] def rBM (f : D → List D → Mu → DK → Prop) (ro : RE) (ra : RA) : RE := fun δ μ k => ro δ μ fun x μ1 => ra δ μ1 fun xs μ2 => f x xs μ2 k
def RO := Sl → Mu → (Option Int → Mu → Prop) → Prop
@[simp] def rNo : RO := fun _ μ k => k none μ
@[simp] def rPart (ra : RE) : RO := fun δ μ k => ra δ μ fun x μ1 => match x with | .int i => k (some i) μ1 | _ => False
@[simp] def rSlc (f : D → Option Int → Option Int → Mu → DK → Prop) (ra : RE) (rl rh : RO) : RE := fun δ μ k => ra δ μ fun x μ1 => rl δ μ1 fun l μ2 => rh δ μ2 fun u μ3 => f x l u μ3 k

section
variable {K : PySem.W.Frag} {ta tb tc : TE} {ra rb rc : RE} {t u : TT} {s s' : RT}
theorem okE_var (i : Nat) : OkE K (tVar i) (rVar i) := fun σ δ μ G H k Q S w q b => by
  unfold rVar at q
  split at q
  · rename_i d e
    obtain ⟨v, h1, h2⟩ := S.at_ i d e
    exact ⟨v, h1, b v d μ G H q w (Go.refl _ _ _) h2⟩
  · exact q.elim
theorem okE_C {v : V} {d : D} (h : ∀ G, Rep K G v d) : OkE K (tC v) (rC d) := fun σ δ μ G H k Q S w q b => b v d μ G H q w (Go.refl _ _ _) (h G)
theorem okE_op {r : R2} {f : F2} (h : OkOp K r f) (ha : OkE K ta ra) (hb : OkE K tb rb) : OkE K (tOp r ta tb) (rOp f ra rb) := fun σ δ μ G H k Q S w q b =>
  ha σ δ μ G H _ _ S w q fun x dx μ1 G1 H1 q1 w1 g1 r1 => hb σ δ μ1 G1 H1 _ _ (S.mono g1.eg) w1 q1 fun y dy μ2 G2 H2 q2 w2 g2 r2 =>
  h x y dx dy μ2 G2 H2 k Q w2 (r1.mono g2.eg) r2 q2 fun v d μ' G' H' qk w' g' r' => b v d μ' G' H' qk w' ((g1.trans g2).trans g') r'
theorem okE_un {r : V → Hp → VK → Prop} {f : F1} (h : OkU K r f) (ha : OkE K ta ra) : OkE K (tUn r ta) (rUn f ra) := fun σ δ μ G H k Q S w q b =>
  ha σ δ μ G H _ _ S w q fun x dx μ1 G1 H1 q1 w1 g1 r1 => h x dx μ1 G1 H1 k Q w1 r1 q1 fun v d μ' G' H' qk w' g' r' => b v d μ' G' H' qk w' (g1.trans g') r'
theorem okE_if (h : OkT K t s) (ha : OkE K ta ra) (hb : OkE K tb rb) : OkE K (tIf t ta tb) (rIf s ra rb) := fun σ δ μ G H k Q S w q b =>
  h σ δ μ G H _ _ S w q fun c μ1 G1 H1 q1 w1 g1 => by
    cases c with
    | true => exact ha σ δ μ1 G1 H1 k Q (S.mono g1.eg) w1 q1 fun v d μ' G' H' qk w' g' r' => b v d μ' G' H' qk w' (g1.trans g') r'
    | false => exact hb σ δ μ1 G1 H1 k Q (S.mono g1.eg) w1 q1 fun v d μ' G' H' qk w' g' r' => b v d μ' G' H' qk w' (g1.trans g') r'
theorem asB_out {G : Hp} {v : V} {d : D} {k : Bool → Prop} (r : Rep K G v d) (h : asB d k) : ∃ c, v = .bl c ∧ k c := by
  cases r with
  | bl c => exact ⟨c, rfl, h⟩
  | _ => exact h.elim
theorem okE_andV (ha : OkE K ta ra) (hb : OkE K tb rb) : OkE K (tAndV ta tb) (rAndV ra rb) := fun σ δ μ G H k Q S w q b =>
  ha σ δ μ G H _ _ S w q fun x dx μ1 G1 H1 q1 w1 g1 r1 => by
    obtain ⟨c, rfl, q2⟩ := asB_out r1 q1
    refine ⟨c, rfl, ?_⟩
    cases c with
    | true => exact hb σ δ μ1 G1 H1 k Q (S.mono g1.eg) w1 q2 fun v d μ' G' H' qk w' g' r' => b v d μ' G' H' qk w' (g1.trans g') r'
    | false => exact b _ _ μ1 G1 H1 q2 w1 g1 (.bl false)
theorem okE_orV (ha : OkE K ta ra) (hb : OkE K tb rb) : OkE K (tOrV ta tb) (rOrV ra rb) := fun σ δ μ G H k Q S w q b =>
  ha σ δ μ G H _ _ S w q fun x dx μ1 G1 H1 q1 w1 g1 r1 => by
    obtain ⟨c, rfl, q2⟩ := asB_out r1 q1
    refine ⟨c, rfl, ?_⟩
    cases c with
    | true => exact b _ _ μ1 G1 H1 q2 w1 g1 (.bl true)
    | false => exact hb σ δ μ1 G1 H1 k Q (S.mono g1.eg) w1 q2 fun v d μ' G' H' qk w' g' r' => b v d μ' G' H' qk w' (g1.trans g') r'
theorem okE_notV (ha : OkE K ta ra) : OkE K (tNotV ta) (rNotV ra) := fun σ δ μ G H k Q S w q b =>
  ha σ δ μ G H _ _ S w q fun x dx μ1 G1 H1 q1 w1 g1 r1 => by
    obtain ⟨c, rfl, q2⟩ := asB_out r1 q1
    exact ⟨c, rfl, b _ _ μ1 G1 H1 q2 w1 g1 (.bl _)⟩
theorem okT_B (ha : OkE K ta ra) : OkT K (tB ta) (rB ra) := fun σ δ μ G H k Q S w q b =>
  ha σ δ μ G H _ _ S w q fun x dx μ1 G1 H1 q1 w1 g1 r1 => by
    obtain ⟨c, rfl, q2⟩ := asB_out r1 q1
    exact ⟨c, rfl, b c μ1 G1 H1 q2 w1 g1⟩
theorem okT_test (ha : OkE K ta ra) : OkT K (tTest ta) (rB ra) := fun σ δ μ G H k Q S w q b =>
  ha σ δ μ G H _ _ S w q fun x dx μ1 G1 H1 q1 w1 g1 r1 => by
    obtain ⟨c, rfl, q2⟩ := asB_out r1 q1
    exact ⟨c, rfl, b c μ1 G1 H1 q2 w1 g1⟩
theorem okT_and (ha : OkT K t s) (hb : OkT K u s') : OkT K (tAnd t u) (rAnd s s') := fun σ δ μ G H k Q S w q b =>
  ha σ δ μ G H _ _ S w q fun c μ1 G1 H1 q1 w1 g1 => by
    cases c with
    | true => exact hb σ δ μ1 G1 H1 k Q (S.mono g1.eg) w1 q1 fun v μ' G' H' qk w' g' => b v μ' G' H' qk w' (g1.trans g')
    | false => exact b false μ1 G1 H1 q1 w1 g1
theorem okT_or (ha : OkT K t s) (hb : OkT K u s') : OkT K (tOr t u) (rOr s s') := fun σ δ μ G H k Q S w q b =>
  ha σ δ μ G H _ _ S w q fun c μ1 G1 H1 q1 w1 g1 => by
    cases c with
    | true => exact b true μ1 G1 H1 q1 w1 g1
    | false => exact hb σ δ μ1 G1 H1 k Q (S.mono g1.eg) w1 q1 fun v μ' G' H' qk w' g' => b v μ' G' H' qk w' (g1.trans g')
theorem okT_not (ha : OkT K t s) : OkT K (tNot t) (rNot s) := fun σ δ μ G H k Q S w q b =>
  ha σ δ μ G H _ _ S w q fun c μ1 G1 H1 q1 w1 g1 => b (!c) μ1 G1 H1 q1 w1 g1
theorem okE_chain {r r2 : R2} {f f2 : F2} (h : OkOp K r f) (h2 : OkOp K r2 f2) (ha : OkE K ta ra) (hb : OkE K tb rb) (hc : OkE K tc rc) : OkE K (tChain r r2 ta tb tc) (rChain f f2 ra rb rc) := by
  intro σ δ μ G H k Q S w q b
  refine ha σ δ μ G H _ _ S w q fun x dx μ1 G1 H1 q1 w1 g1 r1 => ?_
  refine hb σ δ μ1 G1 H1 _ _ (S.mono g1.eg) w1 q1 fun y dy μ2 G2 H2 q2 w2 g2 r2 => ?_
  refine h x y dx dy μ2 G2 H2 _ _ w2 (r1.mono g2.eg) r2 q2 fun z dz μ3 G3 H3 q3 w3 g3 r3 => ?_
  obtain ⟨c, rfl, q4⟩ := asB_out r3 q3
  refine ⟨c, rfl, ?_⟩
  cases c with
  | true =>
    refine hc σ δ μ3 G3 H3 _ _ (S.mono (g1.eg.trans (g2.eg.trans g3.eg))) w3 q4 fun z2 d2 μ4 G4 H4 q5 w4 g4 r4 => ?_
    exact h2 y z2 dy d2 μ4 G4 H4 k Q w4 (r2.mono (g3.eg.trans g4.eg)) r4 q5 fun v d μ' G' H' qk w' g' r' => b v d μ' G' H' qk w' ((g1.trans g2).trans ((g3.trans g4).trans g')) r'
  | false => exact b _ _ μ3 G3 H3 q4 w3 ((g1.trans g2).trans g3) (.bl false)
theorem okA_nil : OkA K tNil rNil := fun σ δ μ G H k Q S w q b => b [] [] μ G H q w (Go.refl _ _ _) .nil
theorem okA_cons {tr : TA} {rr : RA} (ha : OkE K ta ra) (hr : OkA K tr rr) : OkA K (tCons ta tr) (rCons ra rr) := fun σ δ μ G H k Q S w q b =>
  ha σ δ μ G H _ _ S w q fun x dx μ1 G1 H1 q1 w1 g1 r1 => hr σ δ μ1 G1 H1 _ _ (S.mono g1.eg) w1 q1 fun xs ds μ2 G2 H2 q2 w2 g2 r2 =>
  b (x :: xs) (dx :: ds) μ2 G2 H2 q2 w2 (g1.trans g2) (.cons (r1.mono g2.eg) r2)
theorem sz_of {n : Nat} (h : n ≤ 1000000) : n ≤ sizeLine := Nat.le_trans h (by decide)
theorem sz_lt {n : Nat} (h : n < 1000000) : n < sizeLine := Nat.lt_of_lt_of_le h (by decide)
theorem mkTup {μ : Mu} {G H : Hp} {k : DK} {Q : VK} {xs : List V} {ds : List D} (w : Wd K G H μ) (r : RepL K G xs ds) (q : k (.tup ds) μ) (b : Then K μ G H k Q) (p : Addr) (hp : H p = none) : Q (.ref p) (upd H p (.tup xs)) :=
  b _ _ μ (upd G p (.tup xs)) _ q (w.new hp) (Go.new w hp) (.tup upd_same (r.mono (Ex.new (w.gnone hp))))
theorem mkLst {μ : Mu} {G H : Hp} {k : DK} {Q : VK} {xs : List V} {ds : List D} (w : Wd K G H μ) (r : RepL K G xs ds) (q : k (.lst ds) μ) (b : Then K μ G H k Q) (p : Addr) (hp : H p = none) : Q (.ref p) (upd H p (.lst xs)) :=
  b _ _ μ (upd G p (.lst xs)) _ q (w.new hp) (Go.new w hp) (.lst upd_same (r.mono (Ex.new (w.gnone hp))))
theorem mkOwn {μ : Mu} {G H : Hp} {k : DK} {Q : VK} {xs : List V} {ds : List D} (w : Wd K G H μ) (r : RepL K G xs ds) (q : ∀ p, μ p = none → k (.own p) (muSet μ p ds)) (b : Then K μ G H k Q) (p : Addr) (hp : H p = none) : Q (.ref p) (upd H p (.lst xs)) :=
  b _ _ (muSet μ p ds) G _ (q p (w.mnone hp)) (w.newO hp r) (Go.newO w hp) (.own p)
theorem okE_tup {tt : TA} {rr : RA} (h : OkA K tt rr) : OkE K (tTup tt) (rTup rr) := fun σ δ μ G H k Q S w q b =>
  h σ δ μ G H _ _ S w q fun xs ds μ1 G1 H1 ⟨q0, q1⟩ w1 g1 r1 => ⟨sz_of (by rw [r1.length]; exact q0), fun p hp => mkTup w1 r1 q1 (fun v d μ' G' H' qk w' g' r' => b v d μ' G' H' qk w' (g1.trans g') r') p hp⟩
theorem okE_lst {tt : TA} {rr : RA} (h : OkA K tt rr) : OkE K (tLst tt) (rLst rr) := fun σ δ μ G H k Q S w q b =>
  h σ δ μ G H _ _ S w q fun xs ds μ1 G1 H1 ⟨q0, q1⟩ w1 g1 r1 => ⟨sz_of (by rw [r1.length]; exact q0), fun p hp => mkLst w1 r1 q1 (fun v d μ' G' H' qk w' g' r' => b v d μ' G' H' qk w' (g1.trans g') r') p hp⟩
theorem okE_lstO {tt : TA} {rr : RA} (h : OkA K tt rr) : OkE K (tLst tt) (rLstO rr) := fun σ δ μ G H k Q S w q b =>
  h σ δ μ G H _ _ S w q fun xs ds μ1 G1 H1 ⟨q0, q1⟩ w1 g1 r1 => ⟨sz_of (by rw [r1.length]; exact q0), fun p hp => mkOwn w1 r1 q1 (fun v d μ' G' H' qk w' g' r' => b v d μ' G' H' qk w' (g1.trans g') r') p hp⟩
theorem okE_CB {r : List V → Hp → VK → Prop} {f : FL} {tt : TA} {rr : RA} (hc : OkC K r f) (h : OkA K tt rr) : OkE K (tCB r tt) (rCB f rr) := fun σ δ μ G H k Q S w q b =>
  h σ δ μ G H _ _ S w q fun xs ds μ1 G1 H1 q1 w1 g1 r1 => hc xs ds μ1 G1 H1 k Q w1 r1 q1 fun v d μ' G' H' qk w' g' r' => b v d μ' G' H' qk w' (g1.trans g') r'
def OkO (K : PySem.W.Frag) (t : TO) (r : RO) : Prop := ∀ (σ : L2.St) (δ : Sl) (μ : Mu) (G H : Hp) (k : Option Int → Mu → Prop) (Q : Option Int → Hp → Prop), SlOk K G σ δ → Wd K G H μ → r δ μ k →
  (∀ o μ' G' H', k o μ' → Wd K G' H' μ' → Go μ G H μ' G' H' → Q o H') → t σ H Q
theorem okO_no : OkO K tNoPart rNo := fun σ δ μ G H k Q S w q b => b none μ G H q w (Go.refl _ _ _)
theorem okO_part (ha : OkE K ta ra) : OkO K (tPart ta) (rPart ra) := fun σ δ μ G H k Q S w q b =>
  ha σ δ μ G H _ _ S w q fun x dx μ1 G1 H1 q1 w1 g1 r1 => by
    cases r1 with
    | int i => exact ⟨i, rfl, b _ μ1 G1 H1 q1 w1 g1⟩
    | _ => exact q1.elim
def OkSl (K : PySem.W.Frag) (r : V → Option Int → Option Int → Hp → VK → Prop) (f : D → Option Int → Option Int → Mu → DK → Prop) : Prop :=
  ∀ (x : V) (a : D) (l u : Option Int) (μ : Mu) (G H : Hp) (k : DK) (Q : VK), Wd K G H μ → Rep K G x a → f a l u μ k → Then K μ G H k Q → r x l u H Q
theorem okE_slc {r : V → Option Int → Option Int → Hp → VK → Prop} {f : D → Option Int → Option Int → Mu → DK → Prop} {tl th : TO} {rl rh : RO} (h : OkSl K r f) (ha : OkE K ta ra) (hl : OkO K tl rl) (hh : OkO K th rh) : OkE K (L2.tSl r ta tl th) (rSlc f ra rl rh) := fun σ δ μ G H k Q S w q b =>
  ha σ δ μ G H _ _ S w q fun x dx μ1 G1 H1 q1 w1 g1 r1 => hl σ δ μ1 G1 H1 _ _ (S.mono g1.eg) w1 q1 fun l μ2 G2 H2 q2 w2 g2 =>
  hh σ δ μ2 G2 H2 _ _ (S.mono (g1.eg.trans g2.eg)) w2 q2 fun u μ3 G3 H3 q3 w3 g3 =>
  h x dx l u μ3 G3 H3 k Q w3 (r1.mono (g2.eg.trans g3.eg)) q3 fun v d μ' G' H' qk w' g' r' => b v d μ' G' H' qk w' ((g1.trans (g2.trans g3)).trans g') r'
end

/-! ### operators -/
section
variable {K : PySem.W.Frag}
/-- two ints to an int -/
@[simp] def oI (g : Int → Int → Int) : F2 := fun x y μ k => match x, y with | .int i, .int j => k (.int (g i j)) μ | _, _ => False
@[simp] def oIc (C : Int → Int → Prop) (g : Int → Int → Int) : F2 := fun x y μ k => match x, y with | .int i, .int j => C i j ∧ k (.int (g i j)) μ | _, _ => False
@[simp] def oB (g : Int → Int → Bool) : F2 := fun x y μ k => match x, y with | .int i, .int j => k (.bl (g i j)) μ | _, _ => False
theorem okI {g : Int → Int → Int} : OkOp K (rI0 fun i j => .int (g i j)) (oI g) := fun x y a b μ G H k Q w rx ry q t => by
  cases rx with
  | int i =>
    cases ry with
    | int j => exact ⟨i, j, rfl, rfl, t _ _ μ G H q w (Go.refl _ _ _) (.int _)⟩
    | _ => exact q.elim
  | _ => exact q.elim
theorem okIc {C : Int → Int → Prop} {g : Int → Int → Int} : OkOp K (rI C fun i j => .int (g i j)) (oIc C g) := fun x y a b μ G H k Q w rx ry q t => by
  cases rx with
  | int i =>
    cases ry with
    | int j => exact ⟨i, j, rfl, rfl, q.1, t _ _ μ G H q.2 w (Go.refl _ _ _) (.int _)⟩
    | _ => exact q.elim
  | _ => exact q.elim
theorem okB {g : Int → Int → Bool} : OkOp K (rI0 fun i j => .bl (g i j)) (oB g) := fun x y a b μ G H k Q w rx ry q t => by
  cases rx with
  | int i =>
    cases ry with
    | int j => exact ⟨i, j, rfl, rfl, t _ _ μ G H q w (Go.refl _ _ _) (.bl _)⟩
    | _ => exact q.elim
  | _ => exact q.elim
@[simp] def oNeg : F1 := fun x μ k => match x with | .int i => k (.int (-i)) μ | _ => False
theorem okNeg : OkU K (rU fun i => .int (-i)) oNeg := fun x a μ G H k Q w rx q t => by
  cases rx with
  | int i => exact ⟨i, rfl, t _ _ μ G H q w (Go.refl _ _ _) (.int _)⟩
  | _ => exact q.elim

/-- the own list at p -/
def lsAt (μ : Mu) (p : Addr) : Option (List D) := match μ p with
  | some (.l ds) => some ds
  | _ => none
@[simp] theorem lsAt_iff {μ : Mu} {p : Addr} {ds : List D} : lsAt μ p = some ds ↔ μ p = some (.l ds) := by
  unfold lsAt
  constructor
  · intro h
    split at h
    · rename_i e; cases h; exact e
    · cases h
  · intro h; rw [h]
@[simp] theorem lsAt_none {μ : Mu} {p : Addr} {ds : List D} : (some ds = lsAt μ p) ↔ μ p = some (.l ds) := by rw [eq_comm, lsAt_iff]
theorem lsAt_of {μ : Mu} {p : Addr} {ds : List D} (h : μ p = some (.l ds)) : lsAt μ p = some ds := lsAt_iff.mpr h
/-- a list that is read -/
@[simp] def asL (μ : Mu) : D → Option (List D)
  | .lst ds => some ds
  | .own p => lsAt μ p
  | _ => none
theorem asL_out {μ : Mu} {G H : Hp} {v : V} {d : D} {ds : List D} (w : Wd K G H μ) (r : Rep K G v d) (e : asL μ d = some ds) : ∃ a vs, v = .ref a ∧ H a = some (.lst vs) ∧ RepL K G vs ds := by
  cases r with
  | lst h q => cases e; exact ⟨_, _, rfl, w.ex _ _ h, q⟩
  | own p =>
    obtain ⟨_, vs, h, q⟩ := w.muL p ds (lsAt_iff.mp e)
    exact ⟨_, vs, rfl, h, q⟩
  | _ => cases e
/-- a list or a tuple that is read -/
@[simp] def asQ (μ : Mu) : D → Option (List D)
  | .lst ds => some ds
  | .own p => lsAt μ p
  | .tup ds => some ds
  | _ => none
theorem asQ_out {μ : Mu} {G H : Hp} {v : V} {d : D} {ds : List D} (w : Wd K G H μ) (r : Rep K G v d) (e : asQ μ d = some ds) : ∃ a vs, v = .ref a ∧ (SqL K H a vs ∨ SqT K H a vs) ∧ RepL K G vs ds := by
  cases r with
  | lst h q => cases e; exact ⟨_, _, rfl, .inl (SqL.of (w.ex _ _ h)), q⟩
  | own p =>
    obtain ⟨_, vs, h, q⟩ := w.muL p ds (lsAt_iff.mp e)
    exact ⟨_, vs, rfl, .inl (SqL.of h), q⟩
  | tup h q => cases e; exact ⟨_, _, rfl, .inr (SqT.of (w.ex _ _ h)), q⟩
  | _ => cases e
@[simp] def oCat : F2 := fun x y μ k => ∃ xs ys, asL μ x = some xs ∧ asL μ y = some ys ∧ xs.length + ys.length ≤ 1000000 ∧ k (.lst (xs ++ ys)) μ
theorem okCat : OkOp K rCat oCat := fun x y a b μ G H k Q w rx ry ⟨xs, ys, e1, e2, hl, q⟩ t => by
  obtain ⟨p, vs, rfl, h1, r1⟩ := asL_out w rx e1
  obtain ⟨p', vs', rfl, h2, r2⟩ := asL_out w ry e2
  exact ⟨p, p', vs, vs', rfl, rfl, h1, h2, sz_of (by rw [r1.length, r2.length]; exact hl), fun l hl => mkLst w (r1.append r2) q t l hl⟩
@[simp] def oCatO : F2 := fun x y μ k => ∃ xs ys, asL μ x = some xs ∧ asL μ y = some ys ∧ xs.length + ys.length ≤ 1000000 ∧ ∀ p, μ p = none → k (.own p) (muSet μ p (xs ++ ys))
theorem okCatO : OkOp K rCat oCatO := fun x y a b μ G H k Q w rx ry ⟨xs, ys, e1, e2, hl, q⟩ t => by
  obtain ⟨p, vs, rfl, h1, r1⟩ := asL_out w rx e1
  obtain ⟨p', vs', rfl, h2, r2⟩ := asL_out w ry e2
  exact ⟨p, p', vs, vs', rfl, rfl, h1, h2, sz_of (by rw [r1.length, r2.length]; exact hl), fun l hl => mkOwn w (r1.append r2) q t l hl⟩
/-- tuples -/
@[simp] def oCatT : F2 := fun x y μ k => match x, y with | .tup xs, .tup ys => xs.length + ys.length ≤ 1000000 ∧ k (.tup (xs ++ ys)) μ | _, _ => False
theorem okCatT : OkOp K (rCatA K) oCatT := fun x y a b μ G H k Q w rx ry q t => by
  cases rx with
  | tup h1 r1 =>
    cases ry with
    | tup h2 r2 =>
      obtain ⟨hl, q⟩ := q
      refine ⟨_, _, _, _, rfl, rfl, SqT.of (w.ex _ _ h1), SqT.of (w.ex _ _ h2), sz_of (by rw [r1.length, r2.length]; exact hl), fun z => ?_, fun z1 z2 => ?_, fun z1 z2 p hp => mkTup w (r1.append r2) q t p hp⟩
      · subst z
        cases r1
        exact t _ _ μ G H q w (Go.refl _ _ _) (.tup h2 r2)
      · subst z2
        cases r2
        rw [List.append_nil] at q
        exact t _ _ μ G H q w (Go.refl _ _ _) (.tup h1 r1)
    | _ => exact q.elim
  | _ => exact q.elim
@[simp] def oCatS : F2 := fun x y μ k => match x, y with | .str a, .str b => a.length + b.length ≤ 1000000 ∧ k (.str (a ++ b)) μ | _, _ => False
theorem okCatS : OkOp K (fun x y H Q => ∃ i j, x = .str i ∧ y = .str j ∧ i.length + j.length ≤ sizeLine ∧ Q (.str (i ++ j)) H) oCatS := fun x y a b μ G H k Q w rx ry q t => by
  cases rx with
  | str i =>
    cases ry with
    | str j => exact ⟨i, j, rfl, rfl, sz_of q.1, t _ _ μ G H q.2 w (Go.refl _ _ _) (.str _)⟩
    | _ => exact q.elim
  | _ => exact q.elim
theorem RepL.flat {G : Hp} {xs : List V} {ds : List D} (r : RepL K G xs ds) : ∀ n : Nat, RepL K G (List.replicate n xs).flatten (List.replicate n ds).flatten
  | 0 => .nil
  | n + 1 => by rw [List.replicate_succ, List.replicate_succ, List.flatten_cons, List.flatten_cons]; exact r.append (RepL.flat r n)
@[simp] def oRep : F2 := fun x y μ k => ∃ xs, asL μ x = some xs ∧ ∃ j, y = .int j ∧ xs.length ≤ 1000 ∧ j ≤ 1000 ∧ -1000 ≤ j ∧ k (.lst (List.replicate j.toNat xs).flatten) μ
theorem okRep : OkOp K rRep oRep := fun x y a b μ G H k Q w rx ry ⟨xs, e1, j, e2, hl, h1, h0, q⟩ t => by
  obtain ⟨p, vs, rfl, hp, r1⟩ := asL_out w rx e1
  subst e2
  cases ry
  refine ⟨p, j, vs, rfl, rfl, hp, by omega, by omega, ?_, fun l hl => mkLst w (r1.flat _) q t l hl⟩
  rw [r1.length]
  exact Nat.le_trans (Nat.mul_le_mul hl (show j.toNat ≤ 1000 by omega)) (by decide)

/-! ### equality -/
mutual
def toPy : D → Option PyData
  | .non => some .none
  | .bl b => some (.bool b)
  | .int i => some (.int i)
  | .str x => some (.str x)
  | .tup ds => match toPyL ds with | some xs => some (.tuple xs) | none => none
  | .lst ds => match toPyL ds with | some xs => some (.list xs) | none => none
  | .own _ => none
  | .obj _ _ => none
  | .scr _ => none
  | .dk _ _ => none
  | .dt _ _ => none
def toPyL : List D → Option (List PyData)
  | [] => some []
  | d :: ds => match toPy d, toPyL ds with
    | some x, some xs => some (x :: xs)
    | _, _ => none
end
mutual
theorem toPy_dp {G : Hp} : ∀ {d : D} {v : V} {x : PyData}, Rep K G v d → toPy d = some x → Dp K G v x
  | _, _, _, .non, e => by unfold toPy at e; cases e; exact .non
  | _, _, _, .bl b, e => by unfold toPy at e; cases e; exact .bl b
  | _, _, _, .int i, e => by unfold toPy at e; cases e; exact .int i
  | _, _, _, .str s, e => by unfold toPy at e; cases e; exact .str s
  | _, _, _, .tup h r, e => by
    unfold toPy at e
    split at e
    · rename_i xs q
      cases e
      exact .tup (SqT.of h) (toPyL_dp r q)
    · cases e
  | _, _, _, .lst h r, e => by
    unfold toPy at e
    split at e
    · rename_i xs q
      cases e
      exact .lst (SqL.of h) (toPyL_dp r q)
    · cases e
  | _, _, _, .own p, e => by unfold toPy at e; cases e
  | _, _, _, .obj h r, e => by unfold toPy at e; cases e
  | _, _, _, .scr h, e => by unfold toPy at e; cases e
  | _, _, _, .dk h l r, e => by unfold toPy at e; cases e
  | _, _, _, .dt h l r, e => by unfold toPy at e; cases e
theorem toPyL_dp {G : Hp} : ∀ {ds : List D} {vs : List V} {xs : List PyData}, RepL K G vs ds → toPyL ds = some xs → DpAll K G vs xs
  | _, _, _, .nil, e => by unfold toPyL at e; cases e; exact .nil
  | _, _, _, .cons h t, e => by
    unfold toPyL at e
    split at e
    · rename_i x xs q1 q2
      cases e
      exact .cons (toPy_dp h q1) (toPyL_dp t q2)
    · cases e
end
mutual
theorem dp_mono {H H' : Hp} (e : Ex H H') : ∀ {x : PyData} {v : V}, Dp K H v x → Dp K H' v x
  | _, _, .non => .non
  | _, _, .bl b => .bl b
  | _, _, .int i => .int i
  | _, _, .str s => .str s
  | _, _, .lst h r => .lst (e.l h) (dpAll_mono e r)
  | _, _, .tup h r => .tup (e.t h) (dpAll_mono e r)
theorem dpAll_mono {H H' : Hp} (e : Ex H H') : ∀ {xs : List PyData} {vs : List V}, DpAll K H vs xs → DpAll K H' vs xs
  | _, _, .nil => .nil
  | _, _, .cons h t => .cons (dp_mono e h) (dpAll_mono e t)
end
/-- data as it is compared: an own list by what it holds -/
def asPy (μ : Mu) (d : D) : Option PyData := match d with
  | .own p => match lsAt μ p with
    | some ds => match toPyL ds with | some xs => some (.list xs) | none => none
    | none => none
  | d => toPy d
theorem asPy_out {μ : Mu} {G H : Hp} {v : V} {d : D} {x : PyData} (w : Wd K G H μ) (r : Rep K G v d) (e : asPy μ d = some x) : Dp K H v x := by
  cases r with
  | own p =>
    unfold asPy at e
    simp only at e
    split at e
    · rename_i ds q
      split at e
      · rename_i xs q2
        cases e
        obtain ⟨_, vs, h, rr⟩ := w.muL p ds (lsAt_iff.mp q)
        exact .lst (SqL.of h) (dpAll_mono w.ex (toPyL_dp rr q2))
      · cases e
    · cases e
  | non => exact dp_mono w.ex (toPy_dp .non e)
  | bl b => exact dp_mono w.ex (toPy_dp (.bl b) e)
  | int b => exact dp_mono w.ex (toPy_dp (.int b) e)
  | str b => exact dp_mono w.ex (toPy_dp (.str b) e)
  | tup h r => exact dp_mono w.ex (toPy_dp (.tup h r) e)
  | lst h r => exact dp_mono w.ex (toPy_dp (.lst h r) e)
  | obj h r => exact dp_mono w.ex (toPy_dp (.obj h r) e)
  | scr h => exact dp_mono w.ex (toPy_dp (.scr h) e)
  | dk h l r => exact dp_mono w.ex (toPy_dp (.dk h l r) e)
  | dt h l r => exact dp_mono w.ex (toPy_dp (.dt h l r) e)
set_option checkBinderAnnotations false in
/-- the continuation stands where simp does not go -/
def hEq (x y : D) (μ : Mu) [k : DK] : Prop := ∃ a b, asPy μ x = some a ∧ asPy μ y = some b ∧ SeqAt.shaped a = true ∧ SeqAt.shaped b = true ∧ k (.bl (PyData.eqv a b)) μ
set_option checkBinderAnnotations false in
def hNe (x y : D) (μ : Mu) [k : DK] : Prop := ∃ a b, asPy μ x = some a ∧ asPy μ y = some b ∧ SeqAt.shaped a = true ∧ SeqAt.shaped b = true ∧ k (.bl (!PyData.eqv a b)) μ
@[simp] def oEq : F2 := fun x y μ k => @hEq x y μ k
@[simp] def oNe : F2 := fun x y μ k => @hNe x y μ k
theorem okEq : OkOp K (rEqD K) oEq := fun x y a b μ G H k Q w rx ry ⟨d, e, h1, h2, s1, s2, q⟩ t => ⟨d, e, asPy_out w rx h1, asPy_out w ry h2, s1, s2, t _ _ μ G H q w (Go.refl _ _ _) (.bl _)⟩
theorem okNe : OkOp K (rNeD K) oNe := fun x y a b μ G H k Q w rx ry ⟨d, e, h1, h2, s1, s2, q⟩ t => ⟨d, e, asPy_out w rx h1, asPy_out w ry h2, s1, s2, t _ _ μ G H q w (Go.refl _ _ _) (.bl _)⟩

/-! ### items, slices -/
/-- xs[i], t[i] -/
@[simp] def oIx : F2 := fun x y μ k => ∃ xs d, asQ μ x = some xs ∧ (∃ i, y = .int i ∧ atI xs i = some d) ∧ k d μ
theorem atI_rep {G : Hp} {vs : List V} {ds : List D} {i : Int} {d : D} (r : RepL K G vs ds) (e : atI ds i = some d) : ∃ v, atI vs i = some v ∧ Rep K G v d := by
  unfold atI at e ⊢
  rw [r.length]
  cases q : ixN ds.length i with
  | none => rw [q] at e; cases e
  | some j =>
    rw [q] at e
    exact r.getD' e
theorem okIx : OkOp K (rIx K) oIx := fun x y a b μ G H k Q w rx ry ⟨xs, d, e1, ⟨i, e2, e3⟩, q⟩ t => by
  subst e2
  cases ry
  obtain ⟨p, vs, rfl, hs, r⟩ := asQ_out w rx e1
  obtain ⟨v, h1, h2⟩ := atI_rep r e3
  rcases hs with hs | hs
  · exact .inl ⟨p, vs, i, v, rfl, rfl, hs, h1, t _ _ μ G H q w (Go.refl _ _ _) h2⟩
  · exact .inr (.inl ⟨p, vs, i, v, rfl, rfl, hs, h1, t _ _ μ G H q w (Go.refl _ _ _) h2⟩)
/-- the law's list -/
@[simp] def oIxS : F2 := fun x y μ k => match x, y with | .scr ns, .int i => ∃ n, atI ns i = some n ∧ k (.int n) μ | _, _ => False
theorem okIxS : OkOp K (rIxL K) oIxS := fun x y a b μ G H k Q w rx ry q t => by
  cases rx with
  | scr h =>
    cases ry with
    | int i =>
      obtain ⟨n, e, q⟩ := q
      refine ⟨_, _, i, .int n, rfl, rfl, w.ex.l h, ?_, t _ _ μ G H q w (Go.refl _ _ _) (.int n)⟩
      unfold atI at e ⊢
      rw [List.length_map]
      cases z : ixN _ i with
      | none => rw [z] at e; cases e
      | some j =>
        rw [z] at e
        show (List.map V.int _)[j]? = some (V.int n)
        have e2 : _ = some n := e
        simp only [Option.bind_some] at e2
        rw [List.getElem?_map, e2]
        rfl
    | _ => exact q.elim
  | _ => exact q.elim
def cutD (xs : List D) (lo hi : Option Int) : List D := (xs.drop (HT.sIx xs.length 0 lo)).take (HT.sIx xs.length xs.length hi - HT.sIx xs.length 0 lo)
theorem cut_rep {G : Hp} {vs : List V} {ds : List D} (r : RepL K G vs ds) (lo hi : Option Int) : RepL K G (cutV vs lo hi) (cutD ds lo hi) := by
  unfold cutV cutD
  rw [r.length]
  exact RepL.take _ (RepL.drop _ r)
@[simp] def oSlL : D → Option Int → Option Int → Mu → DK → Prop := fun x lo hi μ k => ∃ xs, asL μ x = some xs ∧ k (.lst (cutD xs lo hi)) μ
theorem okSlL : OkSl K (rSlL K) oSlL := fun x a lo hi μ G H k Q w rx ⟨xs, e, q⟩ t => by
  obtain ⟨p, vs, rfl, h, r⟩ := asL_out w rx e
  exact ⟨p, vs, rfl, SqL.of h, fun l hl => mkLst w (cut_rep r lo hi) q t l hl⟩
@[simp] def oSlT : D → Option Int → Option Int → Mu → DK → Prop := fun x lo hi μ k => match x with | .tup xs => k (.tup (cutD xs lo hi)) μ | _ => False
theorem okSlT : OkSl K (rSlA K) oSlT := fun x a lo hi μ G H k Q w rx q t => by
  cases rx with
  | @tup p0 vs0 ds0 h r =>
    have q : k (.tup (cutD ds0 lo hi)) μ := q
    refine ⟨_, _, rfl, SqT.of (w.ex _ _ h), fun z => ?_, fun z p hp => mkTup w (cut_rep r lo hi) q t p hp⟩
    have e : cutD ds0 lo hi = ds0 := by
      unfold cutD
      rw [← r.length, z.1, z.2, List.drop_zero, Nat.sub_zero, r.length, List.take_length]
    rw [e] at q
    exact t _ _ μ G H q w (Go.refl _ _ _) (.tup h r)
  | _ => exact q.elim
end
end DL


set_option Elab.async false
set_option linter.all false
set_option maxRecDepth 100000
set_option maxHeartbeats 4000000
/-! DLc: what is walked, comprehensions, statements over data. -/
namespace DL
open PySem PySem.Spec PyProof.Rows L2 SlX

/-- what is walked: n turns, at turn i the data at_ i, as long as ok stands -/
structure DIt where
  n : Nat
  at_ : Nat → Option D
  ok : Mu → Prop
abbrev RI := Sl → Mu → (DIt → Mu → Prop) → Prop
section
variable (K : PySem.W.Frag)
def ItOk (G : Hp) (J : It) (it : DIt) : Prop := ∀ (i : Nat) (μ : Mu) (G1 H1 : Hp), Ex G G1 → Wd K G1 H1 μ → it.ok μ →
  (it.n = i → J.stop i H1) ∧ (i < it.n → J.go i H1 ∧ ∀ x H2, J.yld i H1 x H2 → ∃ d G2, it.at_ i = some d ∧ Wd K G2 H2 μ ∧ Go μ G1 H1 μ G2 H2 ∧ Rep K G2 x d)
def OkI (wi : TI) (ri : RI) : Prop := ∀ (σ : L2.St) (δ : Sl) (μ : Mu) (G H : Hp) (k : DIt → Mu → Prop) (R : It → Hp → Prop), SlOk K G σ δ → Wd K G H μ → ri δ μ k →
  (∀ J it μ' G' H', k it μ' → Wd K G' H' μ' → Go μ G H μ' G' H' → ItOk K G' J it → R J H') → wi σ H R
end
structure DI (X : Cx) (tg e : Expr) (wi : TI) (ri : RI) : Prop where
  p : PI X tg e wi
  o : OkI X.K wi ri
section
variable {K : PySem.W.Frag}
/-- a sequence's walk -/
def itL (ds : List D) : DIt := ⟨ds.length, fun i => ds[i]?, fun _ => True⟩
def itO (p : Addr) (ds : List D) : DIt := ⟨ds.length, fun i => ds[i]?, fun μ => μ p = some (.l ds)⟩
@[simp] def itOf (μ : Mu) : D → Option DIt
  | .lst ds => some (itL ds)
  | .own p => (lsAt μ p).map (itO p)
  | _ => none
theorem itOk_list {G H : Hp} {μ : Mu} {v : V} {d : D} {it : DIt} (w : Wd K G H μ) (r : Rep K G v d) (e : itOf μ d = some it) : ∃ a, v = .ref a ∧ (∃ xs, SqL K H a xs) ∧ ItOk K G (Itl K a) it := by
  cases r with
  | @lst a vs ds h q =>
    cases e
    refine ⟨a, rfl, ⟨vs, SqL.of (w.ex _ _ h)⟩, fun i μ1 G1 H1 e1 w1 _ => ⟨fun hi => ⟨vs, SqL.of (w1.ex _ _ (e1 _ _ h)), by rw [q.length]; exact Nat.le_of_eq hi⟩, fun hi => ?_⟩⟩
    have hv : i < vs.length := by rw [q.length]; exact hi
    have hs : SqL K H1 a vs := SqL.of (w1.ex _ _ (e1 _ _ h))
    refine ⟨⟨vs, vs[i], hs, List.getElem?_eq_getElem hv⟩, fun x H2 ⟨hH, hx⟩ => ?_⟩
    subst hH
    obtain ⟨d, h1, h2⟩ := q.get (hx vs hs)
    exact ⟨d, G1, h1, w1, Go.refl _ _ _, h2.mono e1⟩
  | own p =>
    unfold itOf at e
    rw [Option.map_eq_some_iff] at e
    obtain ⟨ds, q, e⟩ := e
    · cases e
      obtain ⟨_, vs, h, _⟩ := w.muL p ds (lsAt_iff.mp q)
      refine ⟨p, rfl, ⟨vs, SqL.of h⟩, fun i μ1 G1 H1 e1 w1 ok => ?_⟩
      obtain ⟨_, vs1, h1, r1⟩ := w1.muL p ds ok
      have hs : SqL K H1 p vs1 := SqL.of h1
      refine ⟨fun hi => ⟨vs1, hs, by rw [r1.length]; exact Nat.le_of_eq hi⟩, fun hi => ?_⟩
      have hv : i < vs1.length := by rw [r1.length]; exact hi
      refine ⟨⟨vs1, vs1[i], hs, List.getElem?_eq_getElem hv⟩, fun x H2 ⟨hH, hx⟩ => ?_⟩
      subst hH
      obtain ⟨d, h2, h3⟩ := r1.get (hx vs1 hs)
      exact ⟨d, G1, h2, w1, Go.refl _ _ _, h3⟩
  | _ => cases e
@[simp] def rIL (ra : RE) : RI := fun δ μ k => ra δ μ fun d μ1 => ∃ it, itOf μ1 d = some it ∧ k it μ1
theorem okI_list {tl : TE} {ra : RE} (h : OkE K tl ra) : OkI K (iList K tl) (rIL ra) := fun σ δ μ G H k R S w q b =>
  h σ δ μ G H _ _ S w q fun v d μ1 G1 H1 ⟨it, e, q1⟩ w1 g1 r1 => by
    obtain ⟨a, rfl, hx, ok⟩ := itOk_list w1 r1 e
    exact ⟨a, rfl, hx, b _ it μ1 G1 H1 q1 w1 g1 ok⟩
theorem itOk_tup {G : Hp} {a : Addr} {vs : List V} {ds : List D} (h : G a = some (.tup vs)) (q : RepL K G vs ds) : ItOk K G (Itt K a) (itL ds) := fun i μ1 G1 H1 e1 w1 _ => by
  have hs : SqT K H1 a vs := SqT.of (w1.ex _ _ (e1 _ _ h))
  refine ⟨fun hi => ⟨vs, hs, by rw [q.length]; exact Nat.le_of_eq hi⟩, fun hi => ?_⟩
  have hv : i < vs.length := by rw [q.length]; exact hi
  refine ⟨⟨vs, vs[i], hs, List.getElem?_eq_getElem hv⟩, fun x H2 ⟨hH, hx⟩ => ?_⟩
  subst hH
  obtain ⟨d, h1, h2⟩ := q.get (hx vs hs)
  exact ⟨d, G1, h1, w1, Go.refl _ _ _, h2.mono e1⟩
@[simp] def rIT (ra : RE) : RI := fun δ μ k => ra δ μ fun d μ1 => match d with | .tup ds => k (itL ds) μ1 | _ => False
theorem okI_tup {tl : TE} {ra : RE} (h : OkE K tl ra) : OkI K (iTup K tl) (rIT ra) := fun σ δ μ G H k R S w q b =>
  h σ δ μ G H _ _ S w q fun v d μ1 G1 H1 q1 w1 g1 r1 => by
    cases r1 with
    | tup hs rr => exact ⟨_, rfl, ⟨_, SqT.of (w1.ex _ _ hs)⟩, b _ _ μ1 G1 H1 q1 w1 g1 (itOk_tup hs rr)⟩
    | _ => exact q1.elim
/-- range -/
def itR (lo : Int) (n : Nat) : DIt := ⟨n, fun i => some (.int (lo + i)), fun _ => True⟩
theorem itOk_range {G : Hp} {lo : Int} {n : Nat} : ItOk K G (Itr lo n) (itR lo n) := fun i μ1 G1 H1 e1 w1 _ =>
  ⟨fun hi => Nat.le_of_eq hi, fun hi => ⟨hi, fun x H2 ⟨hH, hx⟩ => by subst hH; subst hx; exact ⟨_, G1, rfl, w1, Go.refl _ _ _, .int _⟩⟩⟩
@[simp] def rIR1 (ra : RA) : RI := fun δ μ k => ra δ μ fun ds μ1 => match ds with | [.int j] => (-1000000 ≤ j ∧ j ≤ 1000000) ∧ k (itR 0 j.toNat) μ1 | _ => False
theorem okI_range1 {ta : TA} {ra : RA} (h : OkA K ta ra) : OkI K (iRng1 ta) (rIR1 ra) := fun σ δ μ G H k R S w q b =>
  h σ δ μ G H _ _ S w q fun vs ds μ1 G1 H1 q1 w1 g1 r1 => by
    split at q1
    · rename_i j
      cases r1 with
      | cons a t =>
        cases a; cases t
        exact ⟨j, rfl, by omega, by omega, b _ _ μ1 G1 H1 q1.2 w1 g1 itOk_range⟩
    · exact q1.elim
@[simp] def rIR2 (ra : RA) : RI := fun δ μ k => ra δ μ fun ds μ1 => match ds with | [.int i, .int j] => (-1000000 ≤ i ∧ i ≤ 1000000 ∧ -1000000 ≤ j ∧ j ≤ 1000000) ∧ k (itR i (j - i).toNat) μ1 | _ => False
theorem okI_range2 {ta : TA} {ra : RA} (h : OkA K ta ra) : OkI K (iRng2 ta) (rIR2 ra) := fun σ δ μ G H k R S w q b =>
  h σ δ μ G H _ _ S w q fun vs ds μ1 G1 H1 q1 w1 g1 r1 => by
    split at q1
    · rename_i i j
      cases r1 with
      | cons a t =>
        cases a
        cases t with
        | cons a t =>
          cases a; cases t
          exact ⟨i, j, rfl, ⟨by omega, by omega, by omega, by omega⟩, b _ _ μ1 G1 H1 q1.2 w1 g1 itOk_range⟩
    · exact q1.elim
def rIR3 (ra : RA) : RI := fun δ μ k => ra δ μ fun ds μ1 => match ds with | [.int i, .int j, .int c] => ∃ n, RgC i j c n ∧ k ⟨n, fun t => some (.int (i + (t : Nat) * c)), fun _ => True⟩ μ1 | _ => False
theorem okI_range3 {ta : TA} {ra : RA} (h : OkA K ta ra) : OkI K (iRng3 ta) (rIR3 ra) := fun σ δ μ G H k R S w q b =>
  h σ δ μ G H _ _ S w q fun vs ds μ1 G1 H1 q1 w1 g1 r1 => by
    split at q1
    · rename_i i j c
      cases r1 with
      | cons a t =>
        cases a
        cases t with
        | cons a t =>
          cases a
          cases t with
          | cons a t =>
            cases a; cases t
            obtain ⟨n, hn, q2⟩ := q1
            exact ⟨i, j, c, n, rfl, hn, b _ _ μ1 G1 H1 q2 w1 g1 fun i2 μ2 G2 H2 e1 w2 _ =>
              ⟨fun hi => Nat.le_of_eq hi, fun hi => ⟨hi, fun x H3 ⟨hH, hx⟩ => by subst hH; subst hx; exact ⟨_, G2, rfl, w2, Go.refl _ _ _, .int _⟩⟩⟩⟩
    · exact q1.elim
theorem OkI.or {wi wj : TI} {ri rj : RI} (h : OkI K wi ri) (h' : OkI K wj rj) : OkI K (fun σ H R => wi σ H R ∨ wj σ H R) (fun δ μ k => ri δ μ k ∨ rj δ μ k) := fun σ δ μ G H k R S w q b => by
  rcases q with q | q
  · exact .inl (h σ δ μ G H k R S w q b)
  · exact .inr (h' σ δ μ G H k R S w q b)
end
theorem pi_or {X : Cx} {tg e : Expr} {wi wj : TI} (h : PI X tg e wi) (h' : PI X tg e wj) : PI X tg e (fun σ H R => wi σ H R ∨ wj σ H R) := ⟨fun pins s σ H R I q => by
  rcases q with q | q
  · exact h.run pins s σ H R I q
  · exact h'.run pins s σ H R I q⟩

/-! ### zip of lists and tuples in any mix -/
section
variable {K : PySem.W.Frag}
/-- true: a list; false: a tuple -/
def SqA (c : Bool) (K : PySem.W.Frag) (H : Hp) (a : Addr) (xs : List V) : Prop := if c = true then SqL K H a xs else SqT K H a xs
def IterA (c : Bool) (h : Heap) (it a : Addr) (i : Nat) : Prop := if c = true then h.IsListIter it a i else h.IsTupleIter it a i
def IsA (c : Bool) (h : Heap) (a : Addr) (its : Array Value) : Prop := if c = true then h.IsList a its else h.IsTuple a its
theorem inv_sqA {X : Cx} {pins : List (Addr × Obj)} {σ : L2.St} {H : Hp} {s : Shared} {c : Bool} {a : Addr} {xs : List V} (I : Inv X pins σ H s) (h : SqA c X.K H a xs) : ∃ its : List Value, Vals xs its ∧ IsA c s.heap a its.toArray := by
  cases c with
  | true => obtain ⟨its, r, p, _⟩ := I.list h; exact ⟨its, r, p.isList⟩
  | false => obtain ⟨its, r, p, _⟩ := I.tuple h; exact ⟨its, r, p⟩
theorem inv_injA {X : Cx} {pins : List (Addr × Obj)} {σ : L2.St} {H : Hp} {s : Shared} {c : Bool} {a : Addr} {xs ys : List V} (I : Inv X pins σ H s) (h : SqA c X.K H a xs) (h' : SqA c X.K H a ys) : xs = ys := by
  cases c with
  | true => exact I.list_inj h h'
  | false => exact I.tuple_inj h h'
theorem isA_lt {c : Bool} {h : Heap} {a : Addr} {its : Array Value} (p : IsA c h a its) : a < h.objs.size := by
  cases c with
  | true => obtain ⟨o, e, _⟩ := p; exact Heap.lt_size e
  | false => obtain ⟨o, e, _⟩ := p; exact Heap.lt_size e
theorem iterA_at {c : Bool} {h h' : Heap} {it a : Addr} {i : Nat} (x : IterA c h it a i) (k : ∀ o, h.get? it = some o → h'.get? it = some o) : IterA c h' it a i := by
  cases c with
  | true => exact Heap.IsListIter.at x k
  | false => exact Heap.IsTupleIter.at x k
theorem iterA_obj {c : Bool} {h : Heap} {it a : Addr} {i : Nat} (x : IterA c h it a i) : ∃ o, h.get? it = some o ∧ ∀ v, o.data ≠ .cell v := by
  cases c with
  | true => obtain ⟨o, e, _, d⟩ := x; exact ⟨o, e, fun v q => by rw [d] at q; cases q⟩
  | false => obtain ⟨o, e, _, d⟩ := x; exact ⟨o, e, fun v q => by rw [d] at q; cases q⟩
theorem drawsA {prog : Program} {w : World} {A : Around} (hh : A.handled = none) (c : Bool) (it a : Addr) (hne : a ≠ it) (its : Array Value) :
    Draws prog w A it [it, a] its.size (fun i v => its[i]? = some v) (fun i h => IterA c h it a i ∧ IsA c h a its) := by
  cases c with
  | true => exact Draws.list hh it a hne its
  | false => exact Draws.tuple hh it a hne its
theorem beginsA (c : Bool) (a : Addr) (its : Array Value) : Begins (.ref a) (objA c a) (fun h => IsA c h a its) := by
  cases c with
  | true => exact begins_list a its
  | false => exact begins_tuple a its
theorem iterA_0 {c : Bool} {h : Heap} {it a : Addr} (e : h.get? it = some (objA c a)) : IterA c h it a 0 := by
  cases c with
  | true => exact ⟨_, e, rfl, rfl⟩
  | false => exact ⟨_, e, rfl, rfl⟩
/-- what zip over the sequences at a and b walks -/
def ItzM (c1 c2 : Bool) (K : PySem.W.Frag) (a b : Addr) : It where
  go := fun i H => ∃ xs ys x y, SqA c1 K H a xs ∧ SqA c2 K H b ys ∧ xs[i]? = some x ∧ ys[i]? = some y
  yld := fun i H v H' => ∃ T x y, v = V.ref T ∧ H T = none ∧ H' = upd H T (.tup [x, y]) ∧
    (∀ xs, SqA c1 K H a xs → xs[i]? = some x) ∧ (∀ ys, SqA c2 K H b ys → ys[i]? = some y)
  stop := fun i H => ∃ xs ys, SqA c1 K H a xs ∧ SqA c2 K H b ys ∧ i = min xs.length ys.length
theorem mem5 {c z TI TO i1 i2 : Addr} (h : c ∈ [z, TI, TO, i1, i2]) : c = z ∨ c = TI ∨ c = TO ∨ c = i1 ∨ c = i2 := by simpa using h
theorem turn_zipM {P : Program} {w : World} {elts : List Expr} {kk : Nat} {tpos : Pos} {c1 c2 : Bool} {a b z TI TO i1 i2 : Addr} (S : ZipSep2 z TI TO i1 i2 [i1, a] [i2, b]) (ha : a ≠ i1) (hb : b ≠ i2) :
    Turn P w K (.Tuple elts kk tpos) (ItzM c1 c2 K a b) [z, TI, TO, i1, i2] z
      (fun i h => IsZip h z TI TO .none ∧ IsTupOf2 h TI (.ref i1) (.ref i2) ∧ (∃ x y, IsTupOf2 h TO x y) ∧ IterA c1 h i1 a i ∧ IterA c2 h i2 b i) where
  mem := by simp
  obj := fun i h ⟨hz, hTI, ⟨x, y, hTO⟩, h1, h2⟩ c hc => by
    rcases mem5 hc with q | q | q | q | q
    · subst q; exact ⟨_, hz, fun v e => nomatch e⟩
    · subst q; exact ⟨_, hTI, fun v e => nomatch e⟩
    · subst q; exact ⟨_, hTO, fun v e => nomatch e⟩
    · subst q; exact iterA_obj h1
    · subst q; exact iterA_obj h2
  keep := fun i h h' ⟨hz, hTI, ⟨x, y, hTO⟩, h1, h2⟩ k =>
    ⟨k z (by simp) _ hz, k TI (by simp) _ hTI, ⟨x, y, k TO (by simp) _ hTO⟩, iterA_at h1 (k i1 (by simp)), iterA_at h2 (k i2 (by simp))⟩
  item := by
    intro X hP hw hK hc i pins s σ H E I hf ⟨hz, hTI, hTO, h1, h2⟩ hg
    subst hP hw hK
    obtain ⟨xs, ys, x, y, sx, sy, ex, ey⟩ := hg
    obtain ⟨its, rv, p1⟩ := inv_sqA I sx
    obtain ⟨jts, rw, p2⟩ := inv_sqA I sy
    obtain ⟨u, hu, ru⟩ := rv.get ex
    obtain ⟨u', hu', ru'⟩ := rw.get ey
    have hh : X.A.in1.handled = none := I.ok.hd hc
    have W := WalksT.zipD2 (prog := X.prog) (w := X.w) (A := X.A) S (drawsA hh c1 i1 a ha its.toArray) (drawsA hh c2 i2 b hb jts.toArray)
    have l1 : i < its.length := (List.getElem?_eq_some_iff.mp hu).1
    have l2 : i < jts.length := (List.getElem?_eq_some_iff.mp hu').1
    refine W.item i s _ _ (by simp; omega) ⟨hz, hTI, hTO, ⟨h1, p1⟩, ⟨h2, p2⟩⟩ fun T vals h' tk hv hT hIs mid hk => ?_
    obtain ⟨x1, x2, e1, e2, rfl⟩ := hv
    have e1 : x1 = u := by have e1 : its.toArray[i]? = some x1 := e1; rw [List.getElem?_toArray, hu] at e1; exact (Option.some.inj e1).symm
    have e2 : x2 = u' := by have e2 : jts.toArray[i]? = some x2 := e2; rw [List.getElem?_toArray, hu'] at e2; exact (Option.some.inj e2).symm
    subst e1 e2
    have apart := W.apart i T h' mid
    refine ⟨_, rfl, W.go elts kk tpos i T { s with heap := h', toks := tk } _ _ mid fun h'' st hk2 => ?_⟩
    obtain ⟨hz', hTI', hTO', ⟨h1', _⟩, ⟨h2', _⟩⟩ := st
    have hTn : H T = none := I.hok.fresh hT
    have tneq : ∀ c, c ∈ [z, TI, TO, i1, i2] → c < T := fun c hm => by
      have q : c < s.heap.objs.size := by
        rcases mem5 hm with q | q | q | q | q
        · subst q; exact Heap.lt_size hz
        · subst q; exact Heap.lt_size hTI
        · subst q; obtain ⟨_, _, e⟩ := hTO; exact Heap.lt_size e
        · subst q; obtain ⟨_, e, _⟩ := iterA_obj h1; exact Heap.lt_size e
        · subst q; obtain ⟨_, e, _⟩ := iterA_obj h2; exact Heap.lt_size e
      exact Nat.lt_of_lt_of_le q hT
    obtain ⟨oT, eT, cT, nT, dT⟩ := id hIs
    have new : ObjOk X.prog X.w (upd H T (.tup [x, y])) h'' T (.tup [x, y]) :=
      ⟨by show 2 ≤ sizeLine; decide, [x1, x2], .cons ru (.cons ru' .nil), ⟨oT, hk2 T oT apart eT, cT, nT, dT⟩⟩
    refine ⟨.ref T, _, I.turnedNew (t' := tk) (ch := [z, TI, TO, i1, i2]) (fun c o hb q => ?_) hf hT new, rfl, ⟨T, x, y, rfl, hTn, rfl, fun l hl => by rw [inv_injA I hl sx]; exact ex, fun l hl => by rw [inv_injA I hl sy]; exact ey⟩,
      ⟨hz', hTI', hTO', h1', h2'⟩, fun c hm => ?_⟩
    · have hb' : c ∉ [z, TO, i1, i2] := fun q' => hb (by
        have : c = z ∨ c = TO ∨ c = i1 ∨ c = i2 := by simpa using q'
        rcases this with r | r | r | r <;> simp [r])
      exact hk2 c o hb' (hk c o hb' q)
    · rw [upd_ne (Nat.ne_of_lt (tneq c hm))]
      exact (hf c hm).1
  done := by
    intro X hP hw hK hc i pins s σ H E I hf ⟨hz, hTI, hTO, h1, h2⟩ hg
    subst hP hw hK
    obtain ⟨xs, ys, sx, sy, hend⟩ := hg
    obtain ⟨its, rv, p1⟩ := inv_sqA I sx
    obtain ⟨jts, rw, p2⟩ := inv_sqA I sy
    have hh : X.A.in1.handled = none := I.ok.hd hc
    have l1 := rv.length
    have l2 := rw.length
    have W := WalksT.zipD2 (prog := X.prog) (w := X.w) (A := X.A) S (drawsA hh c1 i1 a ha its.toArray) (drawsA hh c2 i2 b hb jts.toArray)
    have ei : i = min its.toArray.size jts.toArray.size := by rw [hend, l1, l2]; simp
    rw [ei] at h1 h2
    refine W.done s _ _ ⟨hz, hTI, hTO, ⟨h1, p1⟩, ⟨h2, p2⟩⟩ fun h' tk hk => ⟨rfl, I.turnedL (t' := tk) (ch := [z, TI, TO, i1, i2]) (fun c o hb q => hk c o (fun q' => hb ?_) q) hf⟩
    have : c = z ∨ c = TO ∨ c = i1 ∨ c = i2 := by simpa using q'
    rcases this with r | r | r | r <;> simp [r]
  self := fun A i s Q E st h => wpAny_pyIter_zip st.1 h
end
end DL


set_option Elab.async false
set_option linter.all false
set_option maxRecDepth 100000
set_option maxHeartbeats 4000000
/-! DLd: zip's rule, targets, comprehensions, statements, loops over data. -/
namespace DL
open PySem PySem.Spec PyProof.Rows L2 SlX

section
variable {K : PySem.W.Frag}
theorem asQ_outA {μ : Mu} {G H : Hp} {v : V} {d : D} {ds : List D} (w : Wd K G H μ) (r : Rep K G v d) (e : asQ μ d = some ds) : ∃ a vs, v = .ref a ∧ SqA (kindA d) K H a vs ∧ RepL K G vs ds := by
  cases r with
  | lst h q => cases e; exact ⟨_, _, rfl, SqL.of (w.ex _ _ h), q⟩
  | own p =>
    obtain ⟨_, vs, h, q⟩ := w.muL p ds (lsAt_iff.mp e)
    exact ⟨_, vs, rfl, SqL.of h, q⟩
  | tup h q => cases e; exact ⟨_, _, rfl, SqT.of (w.ex _ _ h), q⟩
  | _ => cases e
def iZipM (K : PySem.W.Frag) (ta : TA) : TI := fun σ H R => ta σ H fun vs H1 => ∃ (c1 c2 : Bool) (a b : Addr) (xs ys : List V), vs = [V.ref a, V.ref b] ∧ SqA c1 K H1 a xs ∧ SqA c2 K H1 b ys ∧ R (ItzM c1 c2 K a b) H1
theorem pi_zipM {X : Cx} {e e2 : Expr} {ta : TA} {p pos tpos : Pos} {elts : List Expr} {kk : Nat} (hg : Gl X "zip") (hm : X.mg "zip" = none) (ha : PA X [e, e2] ta)
    (hs : starEach [e, e2] X.env = (false, eval e X.env) :: starEach [e2] X.env := by rfl) (hpl : (backTo pos (starEach [e2] X.env)).any (·.1) = false := by rfl) :
    PI X (.Tuple elts kk tpos) (.Call (.Name "zip" p) [e, e2] [] pos) (iZipM X.K ta) := ⟨fun pins s σ H R I h => by
  refine Call_ (ld_blt I hg hm PyProof.Rows.boot_zip (PyProof.Rows.callWith_type1 (thn (ha.run pos pins s σ H _ I h) fun us s1 ⟨vs, H1, I1, r1, q1⟩ => ?_) hs hpl))
  obtain ⟨c1, c2, a, b, xs, ys, rfl, sx, sy, q⟩ := q1
  obtain ⟨u1, u2, rfl, e1, e2⟩ := vals2 r1
  cases e1
  cases e2
  obtain ⟨its, rv, p1⟩ := inv_sqA I1 sx
  obtain ⟨jts, rw, p2⟩ := inv_sqA I1 sy
  have la := isA_lt p1
  have lb := isA_lt p2
  refine zip_begins2 (beginsA c1 a its.toArray) (beginsA c2 b jts.toArray) p1 p2 fun h' hz hTI hTO g1 g2 hsz hk => wpAny_pyIter_zip hz ?_
  have I2 : Inv X pins σ H1 { s1 with heap := h' } := I1.kept (t' := s1.toks) hk
  have sep := zip_sep2 (N := s1.heap.objs.size) (fp1 := [a]) (fp2 := [b]) (fun c hc => by rw [List.mem_singleton.mp hc]; exact la) (fun c hc => by rw [List.mem_singleton.mp hc]; exact lb)
  have na : a ≠ s1.heap.objs.size := Nat.ne_of_lt la
  have nb : b ≠ s1.heap.objs.size + 1 := Nat.ne_of_lt (Nat.lt_succ_of_lt lb)
  refine ⟨s1.heap.objs.size + 4, [s1.heap.objs.size + 4, s1.heap.objs.size + 2, s1.heap.objs.size + 3, s1.heap.objs.size, s1.heap.objs.size + 1], _, _, H1, rfl, I2, turn_zipM (c1 := c1) (c2 := c2) sep na nb,
    ⟨hz, hTI, ⟨_, _, hTO⟩, iterA_0 g1, iterA_0 g2⟩, fun c hc => ?_, q⟩
  have hle : s1.heap.objs.size ≤ c := by
    rcases mem5 hc with r | r | r | r | r
    · rw [r]; exact Nat.le_add_right _ _
    · rw [r]; exact Nat.le_add_right _ _
    · rw [r]; exact Nat.le_add_right _ _
    · rw [r]; exact Nat.le_refl _
    · rw [r]; exact Nat.le_add_right _ _
  exact I1.fpOk hle (I1.hok.fresh hle)⟩
@[simp] def pairD : Option D → Option D → Option D
  | some x, some y => some (.tup [x, y])
  | _, _ => none
def itZ (x y : D) (xs ys : List D) : DIt := ⟨min xs.length ys.length, fun i => pairD xs[i]? ys[i]?, fun μ => asQ μ x = some xs ∧ asQ μ y = some ys⟩
@[simp] def rIZ (ra : RA) : RI := fun δ μ k => ra δ μ fun ds μ1 => match ds with | [x, y] => ∃ xs ys, asQ μ1 x = some xs ∧ asQ μ1 y = some ys ∧ k (itZ x y xs ys) μ1 | _ => False
theorem itOk_zip {G : Hp} {va vb : Addr} {x y : D} {xs ys : List D} (r1 : Rep K G (.ref va) x) (r2 : Rep K G (.ref vb) y) : ItOk K G (ItzM (kindA x) (kindA y) K va vb) (itZ x y xs ys) := fun i μ G1 H1 e w ⟨o1, o2⟩ => by
  obtain ⟨a, vs, ea, sa, ra⟩ := asQ_outA w (r1.mono e) o1
  obtain ⟨b, ws, eb, sb, rb⟩ := asQ_outA w (r2.mono e) o2
  cases ea; cases eb
  refine ⟨fun hi => ⟨vs, ws, sa, sb, by rw [ra.length, rb.length]; exact hi.symm⟩, fun hi => ?_⟩
  have hi : i < min xs.length ys.length := hi
  have l1 : i < vs.length := by rw [ra.length]; omega
  have l2 : i < ws.length := by rw [rb.length]; omega
  refine ⟨⟨vs, ws, vs[i], ws[i], sa, sb, List.getElem?_eq_getElem l1, List.getElem?_eq_getElem l2⟩, fun v H2 ⟨T, u, u', hv, hT, hH, h1, h2⟩ => ?_⟩
  subst hv hH
  obtain ⟨d1, g1, q1⟩ := ra.get (h1 vs sa)
  obtain ⟨d2, g2, q2⟩ := rb.get (h2 ws sb)
  refine ⟨.tup [d1, d2], upd G1 T (.tup [u, u']), ?_, w.new hT, Go.new w hT, .tup upd_same (.cons (q1.mono (Ex.new (w.gnone hT))) (.cons (q2.mono (Ex.new (w.gnone hT))) .nil))⟩
  show pairD xs[i]? ys[i]? = _
  rw [g1, g2]
  rfl
theorem okI_zip {ta : TA} {ra : RA} (h : OkA K ta ra) : OkI K (iZipM K ta) (rIZ ra) := fun σ δ μ G H k R S w q b =>
  h σ δ μ G H _ _ S w q fun vs ds μ1 G1 H1 q1 w1 g1 r1 => by
    split at q1
    · rename_i x y
      obtain ⟨xs, ys, e1, e2, q2⟩ := q1
      cases r1 with
      | cons a t =>
        cases t with
        | cons a' t =>
          cases t
          obtain ⟨p, vs1, rfl, s1, _⟩ := asQ_outA w1 a e1
          obtain ⟨p', vs2, rfl, s2, _⟩ := asQ_outA w1 a' e2
          exact ⟨_, _, p, p', vs1, vs2, rfl, s1, s2, b _ _ μ1 G1 H1 q2 w1 g1 (itOk_zip a a')⟩
    · exact q1.elim

/-! ### targets -/
@[simp] def rgName (i : Nat) : RG := fun d δ μ k => k (δ.set i (some d)) μ
theorem okG_name (i : Nat) : OkG K (gName i) (rgName i) [i] := fun v d σ δ μ G H k Q S w r q b =>
  b _ _ μ G H q (S.set r i) w (Go.refl _ _ _) ⟨List.length_set, fun j hj => List.getElem?_set_ne (fun e => hj (by simp [e]))⟩
abbrev RGs := List D → Sl → Mu → (Sl → Mu → Prop) → Prop
def OkGs (K : PySem.W.Frag) (g : TGs) (r : RGs) (js : List Nat) : Prop := ∀ (vs : List V) (ds : List D) (σ : L2.St) (δ : Sl) (μ : Mu) (G H : Hp) (k : Sl → Mu → Prop) (Q : L2.St → Hp → Prop), SlOk K G σ δ → Wd K G H μ → RepL K G vs ds → r ds δ μ k →
  (∀ σ' δ' μ' G' H', k δ' μ' → SlOk K G' σ' δ' → Wd K G' H' μ' → Go μ G H μ' G' H' → (σ'.length = σ.length ∧ ∀ i, i ∉ js → σ'[i]? = σ[i]?) → Q σ' H') → g vs σ H Q
@[simp] def rgNil : RGs := fun ds δ μ k => match ds with | [] => k δ μ | _ => False
@[simp] def rgCons (r : RG) (rr : RGs) : RGs := fun ds δ μ k => match ds with | d :: ds => r d δ μ fun δ1 μ1 => rr ds δ1 μ1 k | [] => False
theorem okGs_nil : OkGs K gNil rgNil [] := fun vs ds σ δ μ G H k Q S w r q b => by
  cases r with
  | nil => exact ⟨rfl, b σ δ μ G H q S w (Go.refl _ _ _) ⟨rfl, fun _ _ => rfl⟩⟩
  | cons _ _ => exact q.elim
theorem okGs_cons {g : TG} {gs : TGs} {r : RG} {rr : RGs} {js is : List Nat} (h : OkG K g r js) (hs : OkGs K gs rr is) : OkGs K (gCons g gs) (rgCons r rr) (js ++ is) := fun vs ds σ δ μ G H k Q S w rl q b => by
  cases rl with
  | nil => exact q.elim
  | cons r1 r2 =>
    refine ⟨_, _, rfl, h _ _ σ δ μ G H _ _ S w r1 q fun σ1 δ1 μ1 G1 H1 q1 S1 w1 g1 l1 => hs _ _ σ1 δ1 μ1 G1 H1 k Q S1 w1 (r2.mono g1.eg) q1 fun σ2 δ2 μ2 G2 H2 q2 S2 w2 g2 l2 => b σ2 δ2 μ2 G2 H2 q2 S2 w2 (g1.trans g2) ⟨l2.1.trans l1.1, fun i hi => ?_⟩⟩
    rw [l2.2 i (fun z => hi (List.mem_append_right _ z)), l1.2 i (fun z => hi (List.mem_append_left _ z))]
@[simp] def rgTup (n : Nat) (r : RGs) : RG := fun d δ μ k => match d with | .tup ds => ds.length = n ∧ r ds δ μ k | _ => False
theorem okG_tup {n : Nat} {gs : TGs} {r : RGs} {js : List Nat} (h : OkGs K gs r js) : OkG K (gTup K n gs) (rgTup n r) js := fun v d σ δ μ G H k Q S w rp q b => by
  cases rp with
  | tup hs rl => exact ⟨_, _, rfl, SqT.of (w.ex _ _ hs), rl.length.trans q.1, h _ _ σ δ μ G H k Q S w rl q.2 b⟩
  | _ => exact q.elim
/-- xs[i] = v, xs a list that changes -/
@[simp] def rgSetL (ro ri : RE) : RG := fun d δ μ k => ro δ μ fun o μ1 => ri δ μ1 fun i μ2 => match o, i with
  | .own p, .int i => ∃ ds j, μ2 p = some (.l ds) ∧ ixN ds.length i = some j ∧ k δ (muSet μ2 p (ds.set j d))
  | _, _ => False
theorem okG_setL {to ti : TE} {ro ri : RE} (ho : OkE K to ro) (hi : OkE K ti ri) : OkG K (gSub to ti rSetL) (rgSetL ro ri) [] := fun v d σ δ μ G H k Q S w rp q b =>
  ho σ δ μ G H _ _ S w q fun x dx μ1 G1 H1 q1 w1 g1 r1 => hi σ δ μ1 G1 H1 _ _ (S.mono g1.eg) w1 q1 fun y dy μ2 G2 H2 q2 w2 g2 r2 => by
    have r1 := r1.mono g2.eg
    cases r1 with
    | own p =>
      cases r2 with
      | int i =>
        obtain ⟨ds, j, e1, e2, q3⟩ := q2
        obtain ⟨_, vs, h, rl⟩ := w2.muL p ds e1
        have rl2 := RepL.set (rp.mono (g1.eg.trans g2.eg)) j rl
        exact ⟨p, vs, i, j, rfl, rfl, h, by rw [rl.length]; exact e2, b σ δ _ G2 _ q3 (S.mono (g1.eg.trans g2.eg)) (w2.wr e1 rl2) ((g1.trans g2).trans (Go.wr e1)) ⟨rfl, fun _ _ => rfl⟩⟩
      | _ => exact q2.elim
    | _ => exact q2.elim

/-! ### comprehensions -/
@[simp] def wipeD (δ : Sl) : List Nat → Sl
  | [] => δ
  | v :: vs => (wipeD δ vs).set v none
theorem SlOk.wipe {G : Hp} {σ : L2.St} {δ : Sl} (h : SlOk K G σ δ) : ∀ vs : List Nat, SlOk K G (L2.wipe σ vs) (wipeD δ vs)
  | [] => h
  | v :: vs => (SlOk.wipe h vs).unset v none
theorem wipe_of {σ σ' : L2.St} {vs : List Nat} (hl : σ'.length = σ.length) (h : ∀ i, i ∉ vs → σ'[i]? = σ[i]?) : L2.wipe σ' vs = L2.wipe σ vs := by
  apply List.ext_getElem?
  intro i
  by_cases hi : i ∈ vs
  · have both : ∀ τ : L2.St, (L2.wipe τ vs)[i]? = if i < τ.length then some none else none := fun τ => by
      by_cases hl : i < τ.length
      · rw [if_pos hl]
        have hw : i < (L2.wipe τ vs).length := by rw [wipe_length]; exact hl
        cases e : (L2.wipe τ vs)[i]? with
        | none => rw [List.getElem?_eq_none_iff] at e; omega
        | some o =>
          cases o with
          | none => rfl
          | some x => exact absurd hi (wipe_some e).2
      · rw [if_neg hl, List.getElem?_eq_none_iff.mpr (by rw [wipe_length]; omega)]
    rw [both, both, hl]
  · rw [wipe_out hi, wipe_out hi]
    exact h i hi
theorem wipe_wipe (σ : L2.St) (vs : List Nat) : L2.wipe (L2.wipe σ vs) vs = L2.wipe σ vs := wipe_of (wipe_length σ vs) fun i hi => wipe_out hi
@[simp] def rYes : RT := fun _ μ k => k true μ
theorem okT_yes : OkT K tYes rYes := fun σ δ μ G H k Q S w q b => b true μ G H q w (Go.refl _ _ _)
set_option checkBinderAnnotations false in
def rLcW (it : DIt) (rg : RG) (rt : RT) (re : RE) (vs : List Nat) (δ : Sl) (μ1 : Mu) [fin : List D → Mu → Prop] : Prop :=
  it.n ≤ 1000000 ∧ ∃ Inv : Nat → List D → Mu → Prop, Inv 0 [] μ1 ∧ (∀ i acc μ, Inv i acc μ → it.ok μ) ∧
    (∀ i acc μ d, i < it.n → it.at_ i = some d → Inv i acc μ → rg d (wipeD δ vs) μ fun δ2 μ2 => rt δ2 μ2 fun b μ3 => if b = true then re δ2 μ3 fun y μ4 => Inv (i + 1) (acc ++ [y]) μ4 else Inv (i + 1) acc μ3) ∧
    (∀ acc μ, Inv it.n acc μ → fin acc μ)
@[simp] def rLc (ri : RI) (rg : RG) (rt : RT) (re : RE) (vs : List Nat) : RE := fun δ μ k => ri δ μ fun it μ1 => @rLcW it rg rt re vs δ μ1 fun acc μ' => k (.lst acc) μ'
@[simp] def rLcO (ri : RI) (rg : RG) (rt : RT) (re : RE) (vs : List Nat) : RE := fun δ μ k => ri δ μ fun it μ1 => @rLcW it rg rt re vs δ μ1 fun acc μ' => ∀ p, μ' p = none → k (.own p) (muSet μ' p acc)
theorem lc_run {J : It} {it : DIt} {g : TG} {rg : RG} {tt : TT} {rt : RT} {te : TE} {re : RE} {vs js : List Nat} {fin : List D → Mu → Prop} {σ : L2.St} {δ : Sl} {μ : Mu} {G H : Hp} {Dl : Addr} {Qd : Hp → Prop}
    (hg : OkG K g rg js) (ht : OkT K tt rt) (he : OkE K te re) (hj : js.all (fun i => decide (i ∈ vs)) = true) (S : SlOk K G σ δ) (w : Wd K G H μ) (io : ItOk K G J it) (hD : H Dl = none) (q : @rLcW it rg rt re vs δ μ fin)
    (b : ∀ acc μ' G' H' xs, fin acc μ' → Wd K G' H' μ' → Go μ G H μ' G' (fun a => if a = Dl then none else H' a) → H' Dl = some (.lst xs) → G' Dl = none → μ' Dl = none → RepL K G' xs acc → Qd H') :
    ∃ W : Nat → Nat → Hp → Prop, (∃ m, W 0 m (upd H Dl (.lst []))) ∧ ∀ i m H1, W i m H1 →
      (J.stop i H1 ∧ Qd H1) ∨ (J.go i H1 ∧ ∃ Nx : Hp → Prop, (∀ H', Nx H' → ∃ m', m' < m ∧ W (i + 1) m' H') ∧ ∀ x H', J.yld i H1 x H' → g x (L2.wipe σ vs) H' fun σ2 H2 => L2.wipe σ2 vs = L2.wipe σ vs ∧ tt σ2 H2 fun b H3 =>
        if b = true then te σ2 H3 fun y H4 => ∃ acc, H4 Dl = some (.lst acc) ∧ acc.length < sizeLine ∧ Nx (upd H4 Dl (.lst (acc ++ [y]))) else Nx H3) := by
  obtain ⟨hn, Inv, i0, iok, istep, iend⟩ := q
  have gD : G Dl = none := w.gnone hD
  have mD : μ Dl = none := w.mnone hD
  have wD : Wd K G (upd H Dl (.lst [])) μ := ⟨fun a o e => by rw [upd_ne (ne_of_none (w.ex _ _ e) hD)]; exact w.ex _ _ e, fun p ds e => by
    obtain ⟨a1, vs', a2, a3⟩ := w.mu p ds e
    exact ⟨a1, vs', by rw [upd_ne (ne_of_none a2 hD)]; exact a2, a3⟩⟩
  -- the state between two turns; Dl stands in the heap, out of G and μ
  refine ⟨fun i m H1 => m = it.n - i ∧ i ≤ it.n ∧ ∃ acc μ1 G1 xs, Inv i acc μ1 ∧ Wd K G1 H1 μ1 ∧ Go μ G (upd H Dl (.lst [])) μ1 G1 (fun a => if a = Dl then some (.lst []) else H1 a) ∧ H1 Dl = some (.lst xs) ∧ G1 Dl = none ∧ μ1 Dl = none ∧ RepL K G1 xs acc ∧ acc.length ≤ i,
    ⟨it.n, rfl, Nat.zero_le _, [], μ, G, [], i0, wD, ?_, upd_same, gD, mD, .nil, Nat.le_refl _⟩, ?_⟩
  · have e : (fun a => if a = Dl then some (HO.lst []) else upd H Dl (.lst []) a) = upd H Dl (.lst []) := by
      funext a
      by_cases h : a = Dl
      · simp only [h, if_true]; rw [upd_same]
      · simp only [h, if_false]
    rw [e]
    exact Go.refl _ _ _
  · rintro i m H1 ⟨hm, hi, acc, μ1, G1, xs, hI, w1, g1, hx, gx, mx, rl, la⟩
    have e1 : Ex G G1 := g1.eg
    obtain ⟨hstop, hgo⟩ := io i μ1 G1 H1 e1 w1 (iok i acc μ1 hI)
    by_cases hin : i = it.n
    · refine .inl ⟨hstop hin.symm, b acc μ1 G1 H1 xs (iend acc μ1 (hin ▸ hI)) w1 ⟨e1, fun a o e hm => ?_, fun a e => ?_, fun a e => ?_⟩ hx gx mx rl⟩
      · have hne : a ≠ Dl := ne_of_none e hD
        have := g1.kp a o (by rw [upd_ne hne]; exact e) hm
        simp only [hne, if_false] at this ⊢
        exact this
      · rcases g1.dm a e with z | z
        · exact .inl z
        · by_cases hne : a = Dl
          · subst hne; exact .inr hD
          · rw [upd_ne hne] at z; exact .inr z
      · rcases g1.gf a e with z | z | z | ⟨ts, z⟩
        · exact .inl z
        · exact .inr (.inl z)
        · by_cases hne : a = Dl
          · subst hne; exact .inr (.inr (.inl hD))
          · rw [upd_ne hne] at z; exact .inr (.inr (.inl z))
        · by_cases hne : a = Dl
          · subst hne; exact .inr (.inr (.inl hD))
          · rw [upd_ne hne] at z; exact .inr (.inr (.inr ⟨ts, z⟩))
    · have hlt : i < it.n := Nat.lt_of_le_of_ne hi hin
      obtain ⟨hgo, hy⟩ := hgo hlt
      refine .inr ⟨hgo, fun H' => ∃ acc' μ' G' xs', Inv (i + 1) acc' μ' ∧ Wd K G' H' μ' ∧ Go μ G (upd H Dl (.lst [])) μ' G' (fun a => if a = Dl then some (.lst []) else H' a) ∧ H' Dl = some (.lst xs') ∧ G' Dl = none ∧ μ' Dl = none ∧ RepL K G' xs' acc' ∧ acc'.length ≤ i + 1,
        fun H' hN => ⟨it.n - (i + 1), by omega, rfl, hlt, hN⟩, fun x H' hyl => ?_⟩
      obtain ⟨d, G2, ed, w2, g2, rd⟩ := hy x H' hyl
      have S1 : SlOk K G2 (L2.wipe σ vs) (wipeD δ vs) := (S.mono (e1.trans g2.eg)).wipe vs
      -- what stands of Dl through a step
      have keepD : ∀ {μa μb : Mu} {Ga Gb Ha Hb : Hp} {xs : List V}, Go μa Ga Ha μb Gb Hb → Ha Dl = some (.lst xs) → Ga Dl = none → μa Dl = none → Hb Dl = some (.lst xs) ∧ Gb Dl = none ∧ μb Dl = none := fun g h1 h2 h3 => by
        refine ⟨g.kp _ _ h1 h3, ?_, g.none_mu h1 h3⟩
        rename_i μa μb Ga Gb Ha Hb xs
        cases e : Gb Dl with
        | none => rfl
        | some o =>
          rcases g.gf Dl (by rw [e]; simp) with z | z | z | ⟨ts, z⟩
          · exact absurd h2 z
          · exact absurd h3 z
          · rw [h1] at z; cases z
          · rw [h1] at z; cases z
      have hide : ∀ {μa μb : Mu} {Ga Gb Ha Hb : Hp} {xs : List V}, Go μa Ga Ha μb Gb Hb → Ha Dl = some (.lst xs) → Go μa Ga (fun a => if a = Dl then some (.lst []) else Ha a) μb Gb (fun a => if a = Dl then some (.lst []) else Hb a) := fun g h1 => by
        refine ⟨g.eg, fun a o e hm => ?_, fun a e => ?_, fun a e => ?_⟩
        · by_cases hne : a = Dl
          · simp only [hne, if_true] at e ⊢; exact e
          · simp only [hne, if_false] at e ⊢; exact g.kp a o e hm
        · rcases g.dm a e with z | z
          · exact .inl z
          · by_cases hne : a = Dl
            · rw [hne, h1] at z; cases z
            · right; simp only [hne, if_false]; exact z
        · rcases g.gf a e with z | z | z | ⟨ts, z⟩
          · exact .inl z
          · exact .inr (.inl z)
          · by_cases hne : a = Dl
            · rw [hne, h1] at z; cases z
            · right; right; left; simp only [hne, if_false]; exact z
          · by_cases hne : a = Dl
            · rw [hne, h1] at z; cases z
            · right; right; right; refine ⟨ts, ?_⟩; simp only [hne, if_false]; exact z
      obtain ⟨hx2, gx2, mx2⟩ := keepD g2 hx gx mx
      have g12 := g1.trans (hide g2 hx)
      refine hg x d (L2.wipe σ vs) (wipeD δ vs) μ1 G2 H' _ _ S1 w2 rd (istep i acc μ1 d hlt ed hI) fun σ2 δ2 μ3 G3 H3 q3 S3 w3 g3 l3 => ⟨?_, ?_⟩
      · rw [← wipe_wipe σ vs]
        refine wipe_of l3.1 fun j hjv => l3.2 j fun z => hjv ?_
        have := List.all_eq_true.mp hj j z
        exact of_decide_eq_true this
      · obtain ⟨hx3, gx3, mx3⟩ := keepD g3 hx2 gx2 mx2
        refine ht σ2 δ2 μ3 G3 H3 _ _ S3 w3 q3 fun c μ4 G4 H4 q4 w4 g4 => ?_
        obtain ⟨hx4, gx4, mx4⟩ := keepD g4 hx3 gx3 mx3
        have g14 := (g12.trans (hide g3 hx2)).trans (hide g4 hx3)
        cases c with
        | true =>
          refine he σ2 δ2 μ4 G4 H4 _ _ (S3.mono g4.eg) w4 q4 fun v y μ5 G5 H5 q5 w5 g5 r5 => ?_
          obtain ⟨hx5, gx5, mx5⟩ := keepD g5 hx4 gx4 mx4
          have g15 := g14.trans (hide g5 hx4)
          refine ⟨xs, hx5, sz_lt (by rw [rl.length]; omega), acc ++ [y], μ5, G5, xs ++ [v], q5, ⟨fun a o e => ?_, fun p ds e => ?_⟩, ?_, upd_same, gx5, mx5, (rl.mono (g2.eg.trans (g3.eg.trans (g4.eg.trans g5.eg)))).append (.cons r5 .nil), by rw [List.length_append]; simp; omega⟩
          · have hne : a ≠ Dl := ne_of_none e gx5
            rw [upd_ne hne]; exact w5.ex _ _ e
          · obtain ⟨a1, vs', a2, a3⟩ := w5.mu p ds e
            have hne : p ≠ Dl := fun z => by subst z; rw [mx5] at e; cases e
            exact ⟨a1, vs', by rw [upd_ne hne]; exact a2, a3⟩
          · have e : (fun a => if a = Dl then some (HO.lst []) else upd H5 Dl (.lst (xs ++ [v])) a) = (fun a => if a = Dl then some (HO.lst []) else H5 a) := by
              funext a
              by_cases h : a = Dl
              · simp only [h, if_true]
              · simp only [h, if_false]; rw [upd_ne h]
            rw [e]
            exact g15
        | false =>
          exact ⟨acc, μ4, G4, xs, q4, w4, g14, hx4, gx4, mx4, rl.mono (g2.eg.trans (g3.eg.trans g4.eg)), by omega⟩
theorem okE_lc {wi : TI} {ri : RI} {g : TG} {rg : RG} {tt : TT} {rt : RT} {te : TE} {re : RE} {vs js : List Nat} (hi : OkI K wi ri) (hg : OkG K g rg js) (ht : OkT K tt rt) (he : OkE K te re) (hj : js.all (fun i => decide (i ∈ vs)) = true) :
    OkE K (tLc wi g tt te vs) (rLc ri rg rt re vs) := fun σ δ μ G H k Q S w q b =>
  hi σ δ μ G H _ _ S w q fun J it μ1 G1 H1 q1 w1 g1 io Dl hD => lc_run hg ht he hj (S.mono g1.eg) w1 io hD q1 fun acc μ' G' H' xs fn w' g' hx gx mx rl => by
    have hup : (fun a => if a = Dl then none else H' a) Dl = none := by simp
    refine b _ _ μ' (upd G' Dl (.lst xs)) H' fn ⟨fun a o e => ?_, fun p ds e => ?_⟩ ⟨g1.eg.trans (g'.eg.trans (Ex.new gx)), fun a o e hm => ?_, fun a e => ?_, fun a e => ?_⟩ (.lst upd_same (rl.mono (Ex.new gx)))
    · by_cases hne : a = Dl
      · subst hne; rw [upd_same] at e; rw [← e]; exact hx
      · rw [upd_ne hne] at e; exact w'.ex _ _ e
    · obtain ⟨a1, vs', a2, a3⟩ := w'.mu p ds e
      have hne : p ≠ Dl := fun z => by subst z; rw [mx] at e; cases e
      exact ⟨by rw [upd_ne hne]; exact a1, vs', a2, a3.mono (Ex.new gx)⟩
    · have e1 := (g1.trans g').kp a o e hm
      have hne : a ≠ Dl := fun z => by subst z; simp at e1
      simp only [hne, if_false] at e1
      exact e1
    · exact (g1.trans g').dm a e
    · by_cases hne : a = Dl
      · subst hne
        rcases g1.back hD with z | z
        · exact .inr (.inl z)
        · exact .inr (.inr (.inl z))
      · rw [upd_ne hne] at e; exact (g1.trans g').gf a e
theorem okE_lcO {wi : TI} {ri : RI} {g : TG} {rg : RG} {tt : TT} {rt : RT} {te : TE} {re : RE} {vs js : List Nat} (hi : OkI K wi ri) (hg : OkG K g rg js) (ht : OkT K tt rt) (he : OkE K te re) (hj : js.all (fun i => decide (i ∈ vs)) = true) :
    OkE K (tLc wi g tt te vs) (rLcO ri rg rt re vs) := fun σ δ μ G H k Q S w q b =>
  hi σ δ μ G H _ _ S w q fun J it μ1 G1 H1 q1 w1 g1 io Dl hD => lc_run hg ht he hj (S.mono g1.eg) w1 io hD q1 fun acc μ' G' H' xs fn w' g' hx gx mx rl => by
    refine b _ _ (muSet μ' Dl acc) G' H' (fn Dl mx) ⟨w'.ex, fun p ds e => ?_⟩ ⟨g1.eg.trans g'.eg, fun a o e hm => ?_, fun a e => ?_, fun a e => (g1.trans g').gf a e⟩ (.own Dl)
    · by_cases hne : p = Dl
      · subst hne; rw [muSet_same] at e; cases e; exact ⟨gx, .lst xs, hx, .l rl⟩
      · rw [muSet_ne hne] at e; exact w'.mu p ds e
    · have e1 := (g1.trans g').kp a o e hm
      have hne : a ≠ Dl := fun z => by subst z; simp at e1
      simp only [hne, if_false] at e1
      exact e1
    · by_cases hne : a = Dl
      · subst hne
        exact g1.back hD
      · rw [muSet_ne hne] at e; exact (g1.trans g').dm a e
end
end DL


set_option Elab.async false
set_option linter.all false
set_option maxRecDepth 100000
set_option maxHeartbeats 4000000
/-! DLe: comprehensions with two for, statements, loops over data. -/
namespace DL
open PySem PySem.Spec PyProof.Rows L2 SlX

section
variable {K : PySem.W.Frag}
/-- while a list is made at Dl, hidden from G and μ -/
def mask (Dl : Addr) (H : Hp) : Hp := fun a => if a = Dl then some (.lst []) else H a
theorem mask_same {Dl : Addr} {H : Hp} : mask Dl H Dl = some (.lst []) := by unfold mask; rw [if_pos rfl]
theorem mask_ne {Dl a : Addr} {H : Hp} (h : a ≠ Dl) : mask Dl H a = H a := by unfold mask; rw [if_neg h]
structure Hid (K : PySem.W.Frag) (μ : Mu) (G H : Hp) (Dl : Addr) (acc : List D) (xs : List V) (μ1 : Mu) (G1 H1 : Hp) : Prop where
  wd : Wd K G1 H1 μ1
  go : Go μ G (upd H Dl (.lst [])) μ1 G1 (mask Dl H1)
  hD : H1 Dl = some (.lst xs)
  gD : G1 Dl = none
  mD : μ1 Dl = none
  rl : RepL K G1 xs acc
theorem Hid.start {μ : Mu} {G H : Hp} {Dl : Addr} (w : Wd K G H μ) (hD : H Dl = none) : Hid K μ G H Dl [] [] μ G (upd H Dl (.lst [])) := by
  refine ⟨⟨fun a o e => by rw [upd_ne (ne_of_none (w.ex _ _ e) hD)]; exact w.ex _ _ e, fun p ds e => ?_⟩, ?_, upd_same, w.gnone hD, w.mnone hD, .nil⟩
  · obtain ⟨a1, vs', a2, a3⟩ := w.mu p ds e
    exact ⟨a1, vs', by rw [upd_ne (ne_of_none a2 hD)]; exact a2, a3⟩
  · have e : mask Dl (upd H Dl (.lst [])) = upd H Dl (.lst []) := by
      funext a
      by_cases h : a = Dl
      · rw [h, mask_same, upd_same]
      · rw [mask_ne h]
    rw [e]
    exact Go.refl _ _ _
theorem Hid.step {μ μ1 μ2 : Mu} {G H G1 H1 G2 H2 : Hp} {Dl : Addr} {acc : List D} {xs : List V} (h : Hid K μ G H Dl acc xs μ1 G1 H1) (w : Wd K G2 H2 μ2) (g : Go μ1 G1 H1 μ2 G2 H2) : Hid K μ G H Dl acc xs μ2 G2 H2 := by
  have hD2 := g.kp _ _ h.hD h.mD
  refine ⟨w, h.go.trans ⟨g.eg, fun a o e hm => ?_, fun a e => ?_, fun a e => ?_⟩, hD2, ?_, g.none_mu h.hD h.mD, h.rl.mono g.eg⟩
  · by_cases hne : a = Dl
    · rw [hne, mask_same] at e ⊢; exact e
    · rw [mask_ne hne] at e ⊢; exact g.kp a o e hm
  · rcases g.dm a e with z | z
    · exact .inl z
    · by_cases hne : a = Dl
      · rw [hne, h.hD] at z; cases z
      · right; rw [mask_ne hne]; exact z
  · rcases g.gf a e with z | z | z | ⟨ts, z⟩
    · exact .inl z
    · exact .inr (.inl z)
    · by_cases hne : a = Dl
      · rw [hne, h.hD] at z; cases z
      · right; right; left; rw [mask_ne hne]; exact z
    · by_cases hne : a = Dl
      · rw [hne, h.hD] at z; cases z
      · right; right; right; refine ⟨ts, ?_⟩; rw [mask_ne hne]; exact z
  · cases e : G2 Dl with
    | none => rfl
    | some o =>
      rcases g.gf Dl (by rw [e]; simp) with z | z | z | ⟨ts, z⟩
      · exact absurd h.gD z
      · exact absurd h.mD z
      · rw [h.hD] at z; cases z
      · rw [h.hD] at z; cases z
theorem Hid.push {μ μ1 : Mu} {G H G1 H1 : Hp} {Dl : Addr} {acc : List D} {xs : List V} {v : V} {y : D} (h : Hid K μ G H Dl acc xs μ1 G1 H1) (r : Rep K G1 v y) : Hid K μ G H Dl (acc ++ [y]) (xs ++ [v]) μ1 G1 (upd H1 Dl (.lst (xs ++ [v]))) := by
  refine ⟨⟨fun a o e => ?_, fun p ds e => ?_⟩, ?_, upd_same, h.gD, h.mD, h.rl.append (.cons r .nil)⟩
  · have hne : a ≠ Dl := ne_of_none e h.gD
    rw [upd_ne hne]; exact h.wd.ex _ _ e
  · obtain ⟨a1, vs', a2, a3⟩ := h.wd.mu p ds e
    have hne : p ≠ Dl := fun z => by rw [z, h.mD] at e; cases e
    exact ⟨a1, vs', by rw [upd_ne hne]; exact a2, a3⟩
  · have e : mask Dl (upd H1 Dl (.lst (xs ++ [v]))) = mask Dl H1 := by
      funext a
      by_cases hne : a = Dl
      · rw [hne, mask_same, mask_same]
      · rw [mask_ne hne, mask_ne hne, upd_ne hne]
    rw [e]
    exact h.go
/-- at the end the list is data -/
theorem Hid.done {μ μ1 : Mu} {G H G1 H1 : Hp} {Dl : Addr} {acc : List D} {xs : List V} (h : Hid K μ G H Dl acc xs μ1 G1 H1) (hD : H Dl = none) :
    Wd K (upd G1 Dl (.lst xs)) H1 μ1 ∧ Go μ G H μ1 (upd G1 Dl (.lst xs)) H1 ∧ Rep K (upd G1 Dl (.lst xs)) (.ref Dl) (.lst acc) := by
  refine ⟨⟨fun a o e => ?_, fun p ds e => ?_⟩, ⟨h.go.eg.trans (Ex.new h.gD), fun a o e hm => ?_, fun a e => ?_, fun a e => ?_⟩, .lst upd_same (h.rl.mono (Ex.new h.gD))⟩
  · by_cases hne : a = Dl
    · rw [hne, upd_same] at e; rw [hne, ← e]; exact h.hD
    · rw [upd_ne hne] at e; exact h.wd.ex _ _ e
  · obtain ⟨a1, vs', a2, a3⟩ := h.wd.mu p ds e
    have hne : p ≠ Dl := fun z => by rw [z, h.mD] at e; cases e
    exact ⟨by rw [upd_ne hne]; exact a1, vs', a2, a3.mono (Ex.new h.gD)⟩
  · have hne : a ≠ Dl := ne_of_none e hD
    have := h.go.kp a o (by rw [upd_ne hne]; exact e) hm
    rw [mask_ne hne] at this
    exact this
  · rcases h.go.dm a e with z | z
    · exact .inl z
    · by_cases hne : a = Dl
      · rw [hne]; exact .inr hD
      · rw [upd_ne hne] at z; exact .inr z
  · by_cases hne : a = Dl
    · rw [hne]; exact .inr (.inr (.inl hD))
    · rw [upd_ne hne] at e
      rcases h.go.gf a e with z | z | z | ⟨ts, z⟩
      · exact .inl z
      · exact .inr (.inl z)
      · rw [upd_ne hne] at z; exact .inr (.inr (.inl z))
      · rw [upd_ne hne] at z; exact .inr (.inr (.inr ⟨ts, z⟩))

set_option checkBinderAnnotations false in
def rInW (it1 : DIt) (rg1 : RG) (rt1 : RT) (re : RE) (vs1 : List Nat) (δ2 : Sl) (μ4 : Mu) (acc : List D) [fin : List D → Mu → Prop] : Prop := ∃ Inv1 : Nat → List D → Mu → Prop, Inv1 0 acc μ4 ∧ (∀ j acc μ, Inv1 j acc μ → it1.ok μ ∧ acc.length < 1000000) ∧
      (∀ j acc μ e, j < it1.n → it1.at_ j = some e → Inv1 j acc μ → rg1 e (wipeD δ2 vs1) μ fun δ5 μ5 => rt1 δ5 μ5 fun b μ6 => if b = true then re δ5 μ6 fun y μ7 => Inv1 (j + 1) (acc ++ [y]) μ7 else Inv1 (j + 1) acc μ6) ∧
      (∀ acc μ, Inv1 it1.n acc μ → fin acc μ)
set_option checkBinderAnnotations false in
def rLc2W (it : DIt) (rg : RG) (rt : RT) (ri1 : RI) (rg1 : RG) (rt1 : RT) (re : RE) (vs vs1 : List Nat) (δ : Sl) (μ1 : Mu) [fin : List D → Mu → Prop] : Prop := it.n ≤ 1000000 ∧ ∃ Inv : Nat → List D → Mu → Prop, Inv 0 [] μ1 ∧ (∀ i acc μ, Inv i acc μ → it.ok μ) ∧
  (∀ i acc μ d, i < it.n → it.at_ i = some d → Inv i acc μ → rg d (wipeD δ vs) μ fun δ2 μ2 => rt δ2 μ2 fun b μ3 => if b = true then
    ri1 δ2 μ3 fun it1 μ4 => @rInW it1 rg1 rt1 re vs1 δ2 μ4 acc fun acc μ => Inv (i + 1) acc μ
    else Inv (i + 1) acc μ3) ∧
  (∀ acc μ, Inv it.n acc μ → fin acc μ)
@[simp] def rLc2 (ri : RI) (rg : RG) (rt : RT) (ri1 : RI) (rg1 : RG) (rt1 : RT) (re : RE) (vs vs1 : List Nat) : RE := fun δ μ k => ri δ μ fun it μ1 => @rLc2W it rg rt ri1 rg1 rt1 re vs vs1 δ μ1 fun acc μ' => k (.lst acc) μ'
theorem okE_lc2 {wi wi1 : TI} {ri ri1 : RI} {g g1 : TG} {rg rg1 : RG} {tt tt1 : TT} {rt rt1 : RT} {te : TE} {re : RE} {vs vs1 js js1 : List Nat} (hi : OkI K wi ri) (hg : OkG K g rg js) (ht : OkT K tt rt) (hi1 : OkI K wi1 ri1) (hg1 : OkG K g1 rg1 js1) (ht1 : OkT K tt1 rt1) (he : OkE K te re)
    (hj : js.all (fun i => decide (i ∈ vs)) = true) (hj1 : js1.all (fun i => decide (i ∈ vs1)) = true) : OkE K (tLc2 wi g tt wi1 g1 tt1 te vs vs1) (rLc2 ri rg rt ri1 rg1 rt1 re vs vs1) := fun σ δ μ G H k Q S w q b =>
  hi σ δ μ G H _ _ S w q fun J it μ1 G1 H1 ⟨hn, Iv, i0, iok, istep, iend⟩ w1 gg1 io Dl hD => by
    have S1 := S.mono gg1.eg
    refine ⟨fun i m H2 => m = it.n - i ∧ i ≤ it.n ∧ ∃ acc xs μ2 G2, Iv i acc μ2 ∧ Hid K μ1 G1 H1 Dl acc xs μ2 G2 H2, ⟨it.n, rfl, Nat.zero_le _, [], [], μ1, G1, i0, Hid.start w1 hD⟩, ?_⟩
    rintro i m H2 ⟨hm, hi, acc, xs, μ2, G2, hI, hh⟩
    obtain ⟨hstop, hgo⟩ := io i μ2 G2 H2 hh.go.eg hh.wd (iok i acc μ2 hI)
    by_cases hin : i = it.n
    · obtain ⟨a1, a2, a3⟩ := hh.done hD
      exact .inl ⟨hstop hin.symm, b _ _ μ2 _ H2 (iend acc μ2 (hin ▸ hI)) a1 (gg1.trans a2) a3⟩
    · have hlt : i < it.n := Nat.lt_of_le_of_ne hi hin
      obtain ⟨hgo, hy⟩ := hgo hlt
      refine .inr ⟨hgo, fun H' => ∃ acc' xs' μ' G', Iv (i + 1) acc' μ' ∧ Hid K μ1 G1 H1 Dl acc' xs' μ' G' H', fun H' hN => ⟨it.n - (i + 1), by omega, rfl, hlt, hN⟩, fun x H' hyl => ?_⟩
      obtain ⟨d, G3, ed, w3, g3, rd⟩ := hy x H' hyl
      have h3 := hh.step w3 g3
      refine hg x d (L2.wipe σ vs) (wipeD δ vs) μ2 G3 H' _ _ ((S1.mono h3.go.eg).wipe vs) w3 rd (istep i acc μ2 d hlt ed hI) fun σ2 δ2 μ4 G4 H4 q4 S4 w4 g4 l4 => ⟨?_, ?_⟩
      · rw [← wipe_wipe σ vs]
        exact wipe_of l4.1 fun j hjv => l4.2 j fun z => hjv (of_decide_eq_true (List.all_eq_true.mp hj j z))
      · have h4 := h3.step w4 g4
        refine ht σ2 δ2 μ4 G4 H4 _ _ S4 w4 q4 fun c μ5 G5 H5 q5 w5 g5 => ?_
        have h5 := h4.step w5 g5
        cases c with
        | false => exact ⟨acc, xs, μ5, G5, q5, h5⟩
        | true =>
          refine hi1 σ2 δ2 μ5 G5 H5 _ _ (S4.mono g5.eg) w5 q5 fun J1 it1 μ6 G6 H6 ⟨Inv1, j0, jok, jstep, jend⟩ w6 g6 io1 => ?_
          have S6 := S4.mono (g5.eg.trans g6.eg)
          have h6 := h5.step w6 g6
          refine ⟨fun j m H7 => m = it1.n - j ∧ j ≤ it1.n ∧ ∃ acc xs μ7 G7, Inv1 j acc μ7 ∧ Ex G6 G7 ∧ Hid K μ1 G1 H1 Dl acc xs μ7 G7 H7, ⟨it1.n, rfl, Nat.zero_le _, acc, xs, μ6, G6, j0, Ex.refl _, h6⟩, ?_⟩
          rintro j m1 H7 ⟨hm1, hjn, acc7, xs7, μ7, G7, hI1, ex7, h7⟩
          obtain ⟨hok1, hlen⟩ := jok j acc7 μ7 hI1
          obtain ⟨hstop1, hgo1⟩ := io1 j μ7 G7 H7 ex7 h7.wd hok1
          by_cases hjin : j = it1.n
          · exact .inl ⟨hstop1 hjin.symm, acc7, xs7, μ7, G7, jend acc7 μ7 (hjin ▸ hI1), h7⟩
          · have hlt1 : j < it1.n := Nat.lt_of_le_of_ne hjn hjin
            obtain ⟨hgo1, hy1⟩ := hgo1 hlt1
            refine .inr ⟨hgo1, fun H' => ∃ acc' xs' μ' G', Inv1 (j + 1) acc' μ' ∧ Ex G6 G' ∧ Hid K μ1 G1 H1 Dl acc' xs' μ' G' H', fun H' hN => ⟨it1.n - (j + 1), by omega, rfl, hlt1, hN⟩, fun x1 H8 hyl1 => ?_⟩
            obtain ⟨e1, G8, ee1, w8, g8, re1⟩ := hy1 x1 H8 hyl1
            have h8 := h7.step w8 g8
            refine hg1 x1 e1 (L2.wipe σ2 vs1) (wipeD δ2 vs1) μ7 G8 H8 _ _ ((S6.mono (ex7.trans g8.eg)).wipe vs1) w8 re1 (jstep j acc7 μ7 e1 hlt1 ee1 hI1) fun σ3 δ3 μ9 G9 H9 q9 S9 w9 g9 l9 => ⟨?_, ?_⟩
            · rw [← wipe_wipe σ2 vs1]
              exact wipe_of l9.1 fun j hjv => l9.2 j fun z => hjv (of_decide_eq_true (List.all_eq_true.mp hj1 j z))
            · have h9 := h8.step w9 g9
              refine ht1 σ3 δ3 μ9 G9 H9 _ _ S9 w9 q9 fun c μ10 G10 H10 q10 w10 g10 => ?_
              have h10 := h9.step w10 g10
              have ex10 := ex7.trans (g8.eg.trans (g9.eg.trans g10.eg))
              cases c with
              | false => exact ⟨acc7, xs7, μ10, G10, q10, ex10, h10⟩
              | true =>
                refine he σ3 δ3 μ10 G10 H10 _ _ (S9.mono g10.eg) w10 q10 fun v y μ11 G11 H11 q11 w11 g11 r11 => ?_
                have h11 := h10.step w11 g11
                exact ⟨xs7, h11.hD, sz_lt (by rw [h11.rl.length]; exact hlen), acc7 ++ [y], xs7 ++ [v], μ11, G11, q11, ex10.trans g11.eg, h11.push r11⟩
end

/-! ### statements -/
@[simp] def rNext : RS := fun DD δ μ => DD.nx δ μ
@[simp] def rSeq (r s : RS) : RS := fun DD δ μ => r { DD with nx := s DD } δ μ
@[simp] def rDrop (re : RE) : RS := fun DD δ μ => re δ μ fun _ μ1 => DD.nx δ μ1
@[simp] def frzD (μ : Mu) (d : D) : D := match d with
  | .own p => match μ p with | some c => cntD c | none => .own p
  | d => d
@[simp] def frzM (μ : Mu) (d : D) : Mu := match d with
  | .own p => muDel μ p
  | _ => μ
@[simp] def rRet (re : RE) : RS := fun DD δ μ => re δ μ DD.rt
/-- a list of one's own is handed out as data -/
@[simp] def plainAt (μ : Mu) (d : D) : Prop := match d with
  | .own p => match μ p with | some c => c.plain = true | none => True
  | _ => True
@[simp] def rRetF (re : RE) : RS := fun DD δ μ => re δ μ fun d μ1 => plainAt μ1 d ∧ DD.rt (frzD μ1 d) (frzM μ1 d)
@[simp] def rRetN : RS := fun DD _ μ => DD.rt .non μ
@[simp] def rIfS (rt : RT) (r s : RS) : RS := fun DD δ μ => rt δ μ fun b μ1 => if b = true then r DD δ μ1 else s DD δ μ1
@[simp] def rNever : RS := fun _ _ _ => False
@[simp] def rAsg (re : RE) (rg : RG) : RS := fun DD δ μ => re δ μ fun d μ1 => rg d δ μ1 DD.nx
@[simp] def rPar (i j : Nat) (ra : RA) : RS := fun DD δ μ => ra δ μ fun ds μ1 => match ds with | [a, b] => DD.nx ((δ.set i (some a)).set j (some b)) μ1 | _ => False
@[simp] def rAug (i : Nat) (re : RE) (f : Int → Int → Int) : RS := fun DD δ μ => match δ[i]? with
  | some (some (.int a)) => re δ μ fun y μ1 => match y with | .int b => DD.nx (δ.set i (some (.int (f a b)))) μ1 | _ => False
  | _ => False
@[simp] def rBreak : RS := fun DD δ μ => DD.bk δ μ
@[simp] def rCont : RS := fun DD δ μ => DD.ct δ μ
def rForW (it : DIt) (rg : RG) (rb : RS) (DD : DEnds) (δ : Sl) (μ1 : Mu) : Prop := ∃ Inv : Nat → Sl → Mu → Prop, Inv 0 δ μ1 ∧ (∀ i δ μ, Inv i δ μ → it.ok μ) ∧
  (∀ i δ μ d, i < it.n → it.at_ i = some d → Inv i δ μ → rg d δ μ fun δ2 μ2 => rb { nx := Inv (i + 1), ct := Inv (i + 1), bk := DD.nx, rt := DD.rt } δ2 μ2) ∧ (∀ δ μ, Inv it.n δ μ → DD.nx δ μ)
def rFor (ri : RI) (rg : RG) (rb : RS) : RS := fun DD δ μ => ri δ μ fun it μ1 => rForW it rg rb DD δ μ1
def rWhile (rc : RT) (rb : RS) : RS := fun DD δ μ => ∃ Inv : Nat → Sl → Mu → Prop, (∃ m, Inv m δ μ) ∧ ∀ m δ μ, Inv m δ μ → rc δ μ fun b μ1 => if b = true then
  rb { nx := fun δ μ => ∃ m', m' < m ∧ Inv m' δ μ, ct := fun δ μ => ∃ m', m' < m ∧ Inv m' δ μ, bk := DD.nx, rt := DD.rt } δ μ1 else DD.nx δ μ1
/-- a word of the proof: the list in slot i does not change any more -/
@[simp] def rFrz (i : Nat) (r : RS) : RS := fun DD δ μ => match δ[i]? with
  | some (some (.own p)) => match μ p with | some c => c.plain = true ∧ r DD (δ.set i (some (cntD c))) (muDel μ p) | none => False
  | _ => False
section
variable {K : PySem.W.Frag} {t u : TS} {r s : RS} {te : TE} {re : RE} {tt : TT} {rt : RT}
theorem okS_next : OkS K tNext rNext := fun σ δ μ G H DD D S w q b => b.nx σ δ μ G H q S w (Go.refl _ _ _)
theorem okS_seq (h : OkS K t r) (h' : OkS K u s) : OkS K (tSeq t u) (rSeq r s) := fun σ δ μ G H DD D S w q b =>
  h σ δ μ G H _ _ S w q ⟨fun σ1 δ1 μ1 G1 H1 q1 S1 w1 g1 => h' σ1 δ1 μ1 G1 H1 DD D S1 w1 q1 (b.go g1), b.bk, b.ct, b.rt⟩
theorem okS_drop (h : OkE K te re) : OkS K (tDrop te) (rDrop re) := fun σ δ μ G H DD D S w q b =>
  h σ δ μ G H _ _ S w q fun v d μ1 G1 H1 q1 w1 g1 r1 => b.nx σ δ μ1 G1 H1 q1 (S.mono g1.eg) w1 g1
theorem okS_ret (h : OkE K te re) : OkS K (tRet te) (rRet re) := fun σ δ μ G H DD D S w q b => h σ δ μ G H _ _ S w q fun v d μ1 G1 H1 q1 w1 g1 r1 => b.rt v d μ1 G1 H1 q1 w1 g1 r1
theorem okS_retF (h : OkE K te re) : OkS K (tRet te) (rRetF re) := fun σ δ μ G H DD D S w q b => h σ δ μ G H _ _ S w q fun v d μ1 G1 H1 ⟨qp, q1⟩ w1 g1 r1 => by
  cases r1 with
  | own p =>
    cases e : μ1 p with
    | none =>
      have e1 : frzD μ1 (.own p) = .own p := by simp only [frzD, e]
      have e2 : frzM μ1 (.own p) = μ1 := by
        funext q; show (if q = p then none else μ1 q) = μ1 q
        by_cases hq : q = p
        · rw [if_pos hq, hq, e]
        · rw [if_neg hq]
      rw [e1, e2] at q1
      exact b.rt _ _ μ1 G1 H1 q1 w1 g1 (.own p)
    | some ds =>
      obtain ⟨vs, a1, a2, a3⟩ := w1.frz e (by simpa [plainAt, e] using qp)
      have e1 : frzD μ1 (.own p) = cntD ds := by simp only [frzD, e]
      rw [e1] at q1
      exact b.rt _ _ _ _ H1 q1 a1 (g1.trans a3) a2
  | non => exact b.rt _ _ μ1 G1 H1 q1 w1 g1 .non
  | bl c => exact b.rt _ _ μ1 G1 H1 q1 w1 g1 (.bl c)
  | int c => exact b.rt _ _ μ1 G1 H1 q1 w1 g1 (.int c)
  | str c => exact b.rt _ _ μ1 G1 H1 q1 w1 g1 (.str c)
  | dk h l c => exact b.rt _ _ μ1 G1 H1 q1 w1 g1 (.dk h l c)
  | dt h l c => exact b.rt _ _ μ1 G1 H1 q1 w1 g1 (.dt h l c)
  | tup h c => exact b.rt _ _ μ1 G1 H1 q1 w1 g1 (.tup h c)
  | lst h c => exact b.rt _ _ μ1 G1 H1 q1 w1 g1 (.lst h c)
  | obj h c => exact b.rt _ _ μ1 G1 H1 q1 w1 g1 (.obj h c)
  | scr h => exact b.rt _ _ μ1 G1 H1 q1 w1 g1 (.scr h)
theorem okS_retN : OkS K tRetN rRetN := fun σ δ μ G H DD D S w q b => b.rt _ _ μ G H q w (Go.refl _ _ _) .non
theorem okS_if (h : OkT K tt rt) (h1 : OkS K t r) (h2 : OkS K u s) : OkS K (tIfS tt t u) (rIfS rt r s) := fun σ δ μ G H DD D S w q b => h σ δ μ G H _ _ S w q fun c μ1 G1 H1 q1 w1 g1 => by
  cases c with
  | true => exact h1 σ δ μ1 G1 H1 DD D (S.mono g1.eg) w1 q1 (b.go g1)
  | false => exact h2 σ δ μ1 G1 H1 DD D (S.mono g1.eg) w1 q1 (b.go g1)
theorem okS_never : OkS K tNever rNever := fun σ δ μ G H DD D S w q b => q
theorem okS_asg {g : TG} {rg : RG} {js : List Nat} (h : OkE K te re) (hg : OkG K g rg js) : OkS K (tAsg te g) (rAsg re rg) := fun σ δ μ G H DD D S w q b => h σ δ μ G H _ _ S w q fun v d μ1 G1 H1 q1 w1 g1 r1 =>
  hg v d σ δ μ1 G1 H1 _ _ (S.mono g1.eg) w1 r1 q1 fun σ2 δ2 μ2 G2 H2 q2 S2 w2 g2 _ => b.nx σ2 δ2 μ2 G2 H2 q2 S2 w2 (g1.trans g2)
theorem okS_par {i j : Nat} {ta : TA} {ra : RA} (h : OkA K ta ra) : OkS K (tPar i j ta) (rPar i j ra) := fun σ δ μ G H DD D S w q b => h σ δ μ G H _ _ S w q fun vs ds μ1 G1 H1 q1 w1 g1 r1 => by
  split at q1
  · rename_i x y
    cases r1 with
    | cons a rr =>
      cases rr with
      | cons a' rr =>
        cases rr
        exact ⟨_, _, rfl, b.nx _ _ μ1 G1 H1 q1 (((S.mono g1.eg).set a i).set a' j) w1 g1⟩
  · exact q1.elim
theorem okS_aug {i : Nat} {f : Int → Int → Int} (h : OkE K te re) : OkS K (tAug i te (ipI f)) (rAug i re f) := fun σ δ μ G H DD D S w q b => by
  unfold rAug at q
  split at q
  · rename_i a e
    obtain ⟨v, h1, h2⟩ := S.at_ i _ e
    cases h2
    refine ⟨_, h1, h σ δ μ G H _ _ S w q fun v d μ1 G1 H1 q1 w1 g1 r1 => ?_⟩
    cases r1 with
    | int c => exact ⟨_, c, rfl, rfl, b.nx _ _ μ1 G1 H1 q1 ((S.mono g1.eg).set (.int _) i) w1 g1⟩
    | _ => exact q1.elim
  · exact q.elim
theorem okS_break : OkS K tBreak rBreak := fun σ δ μ G H DD D S w q b => b.bk σ δ μ G H q S w (Go.refl _ _ _)
theorem okS_cont : OkS K tCont rCont := fun σ δ μ G H DD D S w q b => b.ct σ δ μ G H q S w (Go.refl _ _ _)
theorem okS_for {wi : TI} {ri : RI} {g : TG} {rg : RG} {js : List Nat} (hi : OkI K wi ri) (hg : OkG K g rg js) (hb : OkS K t r) : OkS K (tFor wi g t) (rFor ri rg r) := fun σ δ μ G H DD D S w q b =>
  hi σ δ μ G H _ _ S w q fun J it μ1 G1 H1 ⟨Iv, i0, iok, istep, iend⟩ w1 g1 io => by
    refine ⟨fun i m σ2 H2 => m = it.n - i ∧ i ≤ it.n ∧ ∃ δ2 μ2 G2, Iv i δ2 μ2 ∧ SlOk K G2 σ2 δ2 ∧ Wd K G2 H2 μ2 ∧ Go μ1 G1 H1 μ2 G2 H2, ⟨it.n, rfl, Nat.zero_le _, δ, μ1, G1, i0, S.mono g1.eg, w1, Go.refl _ _ _⟩, ?_⟩
    rintro i m σ2 H2 ⟨hm, hi, δ2, μ2, G2, hI, S2, w2, g2⟩
    obtain ⟨hstop, hgo⟩ := io i μ2 G2 H2 g2.eg w2 (iok i δ2 μ2 hI)
    by_cases hin : i = it.n
    · exact .inl ⟨hstop hin.symm, b.nx σ2 δ2 μ2 G2 H2 (iend δ2 μ2 (hin ▸ hI)) S2 w2 (g1.trans g2)⟩
    · have hlt : i < it.n := Nat.lt_of_le_of_ne hi hin
      obtain ⟨hgo, hy⟩ := hgo hlt
      refine .inr ⟨hgo, fun σ3 H3 => ∃ δ3 μ3 G3, Iv (i + 1) δ3 μ3 ∧ SlOk K G3 σ3 δ3 ∧ Wd K G3 H3 μ3 ∧ Go μ1 G1 H1 μ3 G3 H3, fun σ3 H3 hN => ⟨it.n - (i + 1), by omega, rfl, hlt, hN⟩, fun x H3 hyl => ?_⟩
      obtain ⟨d, G3, ed, w3, g3, rd⟩ := hy x H3 hyl
      refine hg x d σ2 δ2 μ2 G3 H3 _ _ (S2.mono g3.eg) w3 rd (istep i δ2 μ2 d hlt ed hI) fun σ4 δ4 μ4 G4 H4 q4 S4 w4 g4 _ => ?_
      have g14 := (g2.trans g3).trans g4
      exact hb σ4 δ4 μ4 G4 H4 _ _ S4 w4 q4 ⟨fun σ5 δ5 μ5 G5 H5 q5 S5 w5 g5 => ⟨δ5, μ5, G5, q5, S5, w5, g14.trans g5⟩, fun σ5 δ5 μ5 G5 H5 q5 S5 w5 g5 => b.nx σ5 δ5 μ5 G5 H5 q5 S5 w5 ((g1.trans g14).trans g5),
        fun σ5 δ5 μ5 G5 H5 q5 S5 w5 g5 => ⟨δ5, μ5, G5, q5, S5, w5, g14.trans g5⟩, fun v d μ5 G5 H5 q5 w5 g5 r5 => b.rt v d μ5 G5 H5 q5 w5 ((g1.trans g14).trans g5) r5⟩
theorem okS_while (hc : OkT K tt rt) (hb : OkS K t r) : OkS K (tWhile tt t) (rWhile rt r) := fun σ δ μ G H DD D S w ⟨Iv, ⟨m0, i0⟩, istep⟩ b => by
  refine ⟨fun m σ2 H2 => ∃ δ2 μ2 G2, Iv m δ2 μ2 ∧ SlOk K G2 σ2 δ2 ∧ Wd K G2 H2 μ2 ∧ Go μ G H μ2 G2 H2, ⟨m0, δ, μ, G, i0, S, w, Go.refl _ _ _⟩, ?_⟩
  rintro m σ2 H2 ⟨δ2, μ2, G2, hI, S2, w2, g2⟩
  refine hc σ2 δ2 μ2 G2 H2 _ _ S2 w2 (istep m δ2 μ2 hI) fun c μ3 G3 H3 q3 w3 g3 => ?_
  cases c with
  | false => exact b.nx σ2 δ2 μ3 G3 H3 q3 (S2.mono g3.eg) w3 (g2.trans g3)
  | true =>
    refine ⟨fun σ4 H4 => ∃ m', m' < m ∧ ∃ δ4 μ4 G4, Iv m' δ4 μ4 ∧ SlOk K G4 σ4 δ4 ∧ Wd K G4 H4 μ4 ∧ Go μ G H μ4 G4 H4, fun σ4 H4 h => h, ?_⟩
    exact hb σ2 δ2 μ3 G3 H3 _ _ (S2.mono g3.eg) w3 q3 ⟨fun σ5 δ5 μ5 G5 H5 ⟨m', hm, q5⟩ S5 w5 g5 => ⟨m', hm, δ5, μ5, G5, q5, S5, w5, (g2.trans g3).trans g5⟩, fun σ5 δ5 μ5 G5 H5 q5 S5 w5 g5 => b.nx σ5 δ5 μ5 G5 H5 q5 S5 w5 ((g2.trans g3).trans g5),
      fun σ5 δ5 μ5 G5 H5 ⟨m', hm, q5⟩ S5 w5 g5 => ⟨m', hm, δ5, μ5, G5, q5, S5, w5, (g2.trans g3).trans g5⟩, fun v d μ5 G5 H5 q5 w5 g5 r5 => b.rt v d μ5 G5 H5 q5 w5 ((g2.trans g3).trans g5) r5⟩
theorem okS_frz {i : Nat} (h : OkS K t r) : OkS K t (rFrz i r) := fun σ δ μ G H DD D S w q b => by
  unfold rFrz at q
  split at q
  · rename_i p e
    split at q
    · rename_i ds e2
      obtain ⟨v, h1, h2⟩ := S.at_ i _ e
      cases h2
      obtain ⟨qp, q⟩ := q
      obtain ⟨vs, a1, a2, a3⟩ := w.frz e2 qp
      have hs : σ.set i (some (.ref p)) = σ := by
        apply List.ext_getElem?
        intro j
        by_cases hj : i = j
        · subst hj
          rw [List.getElem?_set_self (List.getElem?_eq_some_iff.mp h1).1, h1]
        · rw [List.getElem?_set_ne hj]
      have S2 := (S.mono a3.eg).set a2 i
      rw [hs] at S2
      exact h σ _ _ _ H DD D S2 a1 q (b.go a3)
    · exact q.elim
  · exact q.elim
end
end DL


set_option Elab.async false
set_option linter.all false
set_option maxRecDepth 100000
set_option maxHeartbeats 4000000
/-! DLf: builtins, functions over data. -/
namespace DL
open PySem PySem.Spec PyProof.Rows L2 SlX

section
variable {K : PySem.W.Frag}
theorem OkOp.or {r r' : R2} {f f' : F2} (h : OkOp K r f) (h' : OkOp K r' f') : OkOp K (fun x y H Q => r x y H Q ∨ r' x y H Q) (fun x y μ k => f x y μ k ∨ f' x y μ k) := fun x y a b μ G H k Q w rx ry q t => by
  rcases q with q | q
  · exact .inl (h x y a b μ G H k Q w rx ry q t)
  · exact .inr (h' x y a b μ G H k Q w rx ry q t)
theorem one_arg {G : Hp} {xs : List V} {d : D} (r : RepL K G xs [d]) : ∃ v, xs = [v] ∧ Rep K G v d := by
  cases r with
  | cons a t => cases t; exact ⟨_, rfl, a⟩
theorem two_args {G : Hp} {xs : List V} {d e : D} (r : RepL K G xs [d, e]) : ∃ v u, xs = [v, u] ∧ Rep K G v d ∧ Rep K G u e := by
  cases r with
  | cons a t =>
    obtain ⟨u, rfl, b⟩ := one_arg t
    exact ⟨_, _, rfl, a, b⟩

/-- len -/
@[simp] def lenD (μ : Mu) : D → Option Nat
  | .lst ds => some ds.length
  | .own p => (lsAt μ p).map List.length
  | .tup ds => some ds.length
  | .str x => if x.length ≤ 1000000 then some x.length else none
  | .scr ns => some ns.length
  | _ => none
@[simp] def oLen : FL := fun xs μ k => match xs with | [x] => ∃ n, lenD μ x = some n ∧ k (.int (n : Int)) μ | _ => False
theorem okLen : OkC K (fun xs H Q => ∃ x n, xs = [x] ∧ LenV K x H n ∧ Q (.int (n : Nat)) H) oLen := fun xs as μ G H k Q w r q t => by
  unfold oLen at q
  split at q
  · rename_i x
    obtain ⟨n, e, q⟩ := q
    obtain ⟨v, rfl, rx⟩ := one_arg r
    refine ⟨v, n, rfl, ?_, t _ _ μ G H q w (Go.refl _ _ _) (.int _)⟩
    cases rx with
    | lst h rl => cases e; exact .inl ⟨_, SqL.of (w.ex _ _ h), rl.length.symm⟩
    | own p =>
      cases e2 : lsAt μ p with
      | none => simp only [lenD, e2] at e; cases e
      | some ds =>
        simp only [lenD, e2] at e
        cases e
        obtain ⟨_, vs, h, rl⟩ := w.muL p ds (lsAt_iff.mp e2)
        exact .inl ⟨vs, SqL.of h, rl.length.symm⟩
    | tup h rl => cases e; exact .inr ⟨_, SqT.of (w.ex _ _ h), rl.length.symm⟩
    | str x =>
      simp only [lenD] at e
      split at e
      · rename_i hl
        cases e
        exact ⟨sz_of hl, rfl⟩
      · cases e
    | scr h => cases e; exact .inl ⟨_, w.ex.l h, (List.length_map _).symm⟩
    | _ => cases e
  · exact q.elim
@[simp] def oAbs : FL := fun xs μ k => match xs with | [.int i] => k (.int (if i < 0 then -i else i)) μ | _ => False
theorem okAbs : OkC K (fun xs H Q => ∃ i, xs = [.int i] ∧ Q (.int (if i < 0 then -i else i)) H) oAbs := fun xs as μ G H k Q w r q t => by
  unfold oAbs at q
  split at q
  · obtain ⟨v, rfl, rx⟩ := one_arg r
    cases rx
    exact ⟨_, rfl, t _ _ μ G H q w (Go.refl _ _ _) (.int _)⟩
  · exact q.elim
@[simp] def o2I (g : Int → Int → Int) : FL := fun xs μ k => match xs with | [.int i, .int j] => k (.int (g i j)) μ | _ => False
theorem ok2I {g : Int → Int → Int} : OkC K (fun xs H Q => ∃ i j, xs = [.int i, .int j] ∧ Q (.int (g i j)) H) (o2I g) := fun xs as μ G H k Q w r q t => by
  unfold o2I at q
  split at q
  · obtain ⟨v, u, rfl, rx, ry⟩ := two_args r
    cases rx; cases ry
    exact ⟨_, _, rfl, t _ _ μ G H q w (Go.refl _ _ _) (.int _)⟩
  · exact q.elim
@[simp] def oInt : FL := fun xs μ k => match xs with | [.int i] => k (.int i) μ | [.bl b] => k (.int (if b then 1 else 0)) μ | _ => False
theorem okInt : OkC K (fun xs H Q => (∃ i, xs = [.int i] ∧ Q (.int i) H) ∨ ∃ k, xs = [.bl k] ∧ Q (.int (if k then 1 else 0)) H) oInt := fun xs as μ G H k Q w r q t => by
  unfold oInt at q
  split at q
  · obtain ⟨v, rfl, rx⟩ := one_arg r
    cases rx
    exact .inl ⟨_, rfl, t _ _ μ G H q w (Go.refl _ _ _) (.int _)⟩
  · obtain ⟨v, rfl, rx⟩ := one_arg r
    cases rx
    exact .inr ⟨_, rfl, t _ _ μ G H q w (Go.refl _ _ _) (.int _)⟩
  · exact q.elim
@[simp] def oStrI : FL := fun xs μ k => match xs with | [.int i] => i.natAbs.log2 < 1920 ∧ k (.str (toString i)) μ | _ => False
theorem okStrI : OkC K (fun xs H Q => ∃ i : Int, xs = [.int i] ∧ i.natAbs.log2 < 1920 ∧ Q (.str (toString i)) H) oStrI := fun xs as μ G H k Q w r q t => by
  unfold oStrI at q
  split at q
  · obtain ⟨v, rfl, rx⟩ := one_arg r
    cases rx
    exact ⟨_, rfl, q.1, t _ _ μ G H q.2 w (Go.refl _ _ _) (.str _)⟩
  · exact q.elim
/-- what the data is as a row of ints, of bools -/
def asI (μ : Mu) (d : D) (ns : List Int) : Prop := asL μ d = some (ns.map D.int)
theorem asI_out {μ : Mu} {G H : Hp} {v : V} {d : D} {ns : List Int} (w : Wd K G H μ) (r : Rep K G v d) (e : asL μ d = some (ns.map D.int)) : ∃ a, v = .ref a ∧ H a = some (.lst (ns.map V.int)) := by
  obtain ⟨a, vs, rfl, h, rl⟩ := asL_out w r e
  rw [rl.ints] at h
  exact ⟨a, rfl, h⟩
set_option checkBinderAnnotations false in
def hSum (xs : List D) (μ : Mu) [k : DK] : Prop := match xs with | [x] => ∃ ns : List Int, asL μ x = some (ns.map D.int) ∧ k (.int ns.sum) μ | _ => False
@[simp] def oSum : FL := fun xs μ k => @hSum xs μ k
theorem okSum : OkC K (rSum K) oSum := fun xs as μ G H k Q w r q t => by
  unfold oSum hSum at q
  split at q
  · obtain ⟨ns, e, q⟩ := q
    obtain ⟨v, rfl, rx⟩ := one_arg r
    obtain ⟨a, rfl, h⟩ := asI_out w rx e
    exact ⟨a, ns, rfl, SqL.of h, t _ _ μ G H q w (Go.refl _ _ _) (.int _)⟩
  · exact q.elim
theorem asB_list {μ : Mu} {G H : Hp} {v : V} {d : D} {ns : List Bool} (w : Wd K G H μ) (r : Rep K G v d) (e : asL μ d = some (ns.map D.bl)) : ∃ a, v = .ref a ∧ H a = some (.lst (ns.map V.bl)) := by
  obtain ⟨a, vs, rfl, h, rl⟩ := asL_out w r e
  rw [rl.bls] at h
  exact ⟨a, rfl, h⟩
set_option checkBinderAnnotations false in
def hAll (xs : List D) (μ : Mu) [k : DK] : Prop := match xs with | [x] => ∃ bs : List Bool, asL μ x = some (bs.map D.bl) ∧ k (.bl (bs.all id)) μ | _ => False
@[simp] def oAll : FL := fun xs μ k => @hAll xs μ k
theorem okAll : OkC K (rAll K) oAll := fun xs as μ G H k Q w r q t => by
  unfold oAll hAll at q
  split at q
  · obtain ⟨ns, e, q⟩ := q
    obtain ⟨v, rfl, rx⟩ := one_arg r
    obtain ⟨a, rfl, h⟩ := asB_list w rx e
    exact ⟨a, ns, rfl, SqL.of h, t _ _ μ G H q w (Go.refl _ _ _) (.bl _)⟩
  · exact q.elim
set_option checkBinderAnnotations false in
def hAny (xs : List D) (μ : Mu) [k : DK] : Prop := match xs with | [x] => ∃ bs : List Bool, asL μ x = some (bs.map D.bl) ∧ k (.bl (bs.any id)) μ | _ => False
@[simp] def oAny : FL := fun xs μ k => @hAny xs μ k
theorem okAny : OkC K (rAny K) oAny := fun xs as μ G H k Q w r q t => by
  unfold oAny hAny at q
  split at q
  · obtain ⟨ns, e, q⟩ := q
    obtain ⟨v, rfl, rx⟩ := one_arg r
    obtain ⟨a, rfl, h⟩ := asB_list w rx e
    exact ⟨a, ns, rfl, SqL.of h, t _ _ μ G H q w (Go.refl _ _ _) (.bl _)⟩
  · exact q.elim
/-- list(x) -/
@[simp] def oList : FL := fun xs μ k => match xs with | [x] => ∃ ds, asQ μ x = some ds ∧ k (.lst ds) μ | _ => False
@[simp] def oListO : FL := fun xs μ k => match xs with | [x] => ∃ ds, asQ μ x = some ds ∧ ∀ p, μ p = none → k (.own p) (muSet μ p ds) | _ => False
theorem okList : OkC K (fun xs H Q => ∃ p ys, xs = [.ref p] ∧ (SqL K H p ys ∨ SqT K H p ys) ∧ ∀ l, H l = none → Q (.ref l) (upd H l (.lst ys))) oList := fun xs as μ G H k Q w r q t => by
  unfold oList at q
  split at q
  · obtain ⟨ds, e, q⟩ := q
    obtain ⟨v, rfl, rx⟩ := one_arg r
    obtain ⟨a, vs, rfl, h, rl⟩ := asQ_out w rx e
    exact ⟨a, vs, rfl, h, fun l hl => mkLst w rl q t l hl⟩
  · exact q.elim
theorem okListO : OkC K (fun xs H Q => ∃ p ys, xs = [.ref p] ∧ (SqL K H p ys ∨ SqT K H p ys) ∧ ∀ l, H l = none → Q (.ref l) (upd H l (.lst ys))) oListO := fun xs as μ G H k Q w r q t => by
  unfold oListO at q
  split at q
  · obtain ⟨ds, e, q⟩ := q
    obtain ⟨v, rfl, rx⟩ := one_arg r
    obtain ⟨a, vs, rfl, h, rl⟩ := asQ_out w rx e
    exact ⟨a, vs, rfl, h, fun l hl => mkOwn w rl q t l hl⟩
  · exact q.elim
/-- tuple(x) -/
@[simp] def oTuple : FL := fun xs μ k => match xs with | [x] => ∃ ds, asQ μ x = some ds ∧ k (.tup ds) μ | _ => False
theorem okTuple : OkC K (fun xs H Q => ∃ p ys, xs = [.ref p] ∧ ((SqL K H p ys ∧ ∀ l, H l = none → Q (.ref l) (upd H l (.tup ys))) ∨ (SqT K H p ys ∧ Q (.ref p) H))) oTuple := fun xs as μ G H k Q w r q t => by
  unfold oTuple at q
  split at q
  · obtain ⟨ds, e, q⟩ := q
    obtain ⟨v, rfl, rx⟩ := one_arg r
    cases rx with
    | lst h rl => cases e; exact ⟨_, _, rfl, .inl ⟨SqL.of (w.ex _ _ h), fun l hl => mkTup w rl q t l hl⟩⟩
    | own p =>
      obtain ⟨_, vs, h, rl⟩ := w.muL p ds (lsAt_iff.mp e)
      exact ⟨_, _, rfl, .inl ⟨SqL.of h, fun l hl => mkTup w rl q t l hl⟩⟩
    | tup h rl => cases e; exact ⟨_, _, rfl, .inr ⟨SqT.of (w.ex _ _ h), t _ _ μ G H q w (Go.refl _ _ _) (.tup h rl)⟩⟩
    | _ => cases e
  · exact q.elim
/-- isinstance(x, T), T a built-in class; the class's value itself is not read as data -/
@[simp] def tyN (μ : Mu) : D → Option String
  | .non => some "NoneType"
  | .bl _ => some "bool"
  | .int _ => some "int"
  | .str _ => some "str"
  | .tup _ => some "tuple"
  | .lst _ => some "list"
  | .own p => if (lsAt μ p).isSome then some "list" else none
  | _ => none
theorem tyN_out {μ : Mu} {G H : Hp} {v : V} {d : D} {T : String} (w : Wd K G H μ) (r : Rep K G v d) (e : tyN μ d = some T) : TyX K H v (.type T) := by
  cases r with
  | non => cases e; exact .base .non
  | bl b => cases e; exact .base (.bl b)
  | int b => cases e; exact .base (.int b)
  | str b => cases e; exact .base (.str b)
  | tup h rl =>
    cases e
    rcases (SqT.of (K := K) (w.ex _ _ h)) with (h | ⟨o, h⟩) | ⟨o, its, n, h, hc, _⟩
    · exact .base (.tup h)
    · exact .fTuple h
    · exact .kTuple h hc
  | lst h rl => cases e; exact .base (.lst (w.ex _ _ h))
  | own p =>
    cases e2 : lsAt μ p with
    | none => simp [tyN, e2] at e
    | some ds =>
      have e3 : T = "list" := by simp [tyN, e2] at e; exact e.symm
      subst e3
      obtain ⟨_, vs, h, _⟩ := w.muL p ds (lsAt_iff.mp e2)
      exact .base (.lst h)
  | _ => cases e
@[simp] def rIsiB (T : String) (re : RE) : RE := fun δ μ k => re δ μ fun x μ1 => ∃ a b, tyN μ1 x = some a ∧ kitB a T = some b ∧ k (.bl b) μ1
theorem okE_isi {T : String} {te : TE} {re : RE} (h : OkE K te re) : OkE K (tCB (rIsi K) (tCons te (tCons (tC (.ty T)) tNil))) (rIsiB T re) := fun σ δ μ G H k Q S w q b =>
  h σ δ μ G H _ _ S w q fun v d μ1 G1 H1 ⟨a, c, e1, e2, q1⟩ w1 g1 r1 => ⟨v, .ty T, .type a, .type T, c, rfl, .ty T, tyN_out w1 r1 e1, kit_ty e2, b _ _ μ1 G1 H1 q1 w1 g1 (.bl c)⟩
end

/-! ### methods of a list that changes -/
section
variable {K : PySem.W.Frag}
@[simp] def rApp (ro re : RE) : RE := fun δ μ k => ro δ μ fun o μ1 => match o with
  | .own p => (∃ ds, μ1 p = some (.l ds)) ∧ re δ μ1 fun d μ2 => ∃ ds, μ2 p = some (.l ds) ∧ ds.length < 1000000 ∧ k .non (muSet μ2 p (ds ++ [d]))
  | _ => False
theorem own_ty {μ : Mu} {G H : Hp} {p : Addr} (w : Wd K G H μ) (h : ∃ ds, μ p = some (.l ds)) : tyV K "list" (.ref p) H := by
  obtain ⟨ds, e2⟩ := h
  obtain ⟨_, vs, h, _⟩ := w.muL p ds e2
  exact .inl ⟨rfl, vs, SqL.of h⟩
theorem okE_app {to te : TE} {ro re : RE} (ho : OkE K to ro) (he : OkE K te re) : OkE K (tBM K "list" rAppend to (tCons te tNil)) (rApp ro re) := fun σ δ μ G H k Q S w q b =>
  ho σ δ μ G H _ _ S w q fun x o μ1 G1 H1 q1 w1 g1 r1 => by
    cases r1 with
    | own p =>
      obtain ⟨hp, q1⟩ := q1
      refine ⟨own_ty w1 hp, he σ δ μ1 G1 H1 _ _ (S.mono g1.eg) w1 q1 fun v d μ2 G2 H2 ⟨ds, e, hl, q2⟩ w2 g2 r2 => ?_⟩
      obtain ⟨_, vs, h, rl⟩ := w2.muL p ds e
      have rl2 : RepL K G2 (vs ++ [v]) (ds ++ [d]) := rl.append (.cons r2 .nil)
      exact ⟨p, vs, v, rfl, rfl, h, sz_lt (by rw [rl.length]; exact hl), b _ _ _ G2 _ q2 (w2.wr e rl2) ((g1.trans g2).trans (Go.wr e)) .non⟩
    | _ => exact q1.elim
/-- xs.extend(ys), ys another list -/
@[simp] def rExt (ro re : RE) : RE := fun δ μ k => ro δ μ fun o μ1 => match o with
  | .own p => (∃ ds, μ1 p = some (.l ds)) ∧ re δ μ1 fun d μ2 => ∃ ds es, μ2 p = some (.l ds) ∧ asL μ2 d = some es ∧ ds.length + es.length ≤ 1000000 ∧ k .non (muSet μ2 p (ds ++ es))
  | _ => False
theorem okE_ext {to te : TE} {ro re : RE} (ho : OkE K to ro) (he : OkE K te re) : OkE K (tBM K "list" rExtend to (tCons te tNil)) (rExt ro re) := fun σ δ μ G H k Q S w q b =>
  ho σ δ μ G H _ _ S w q fun x o μ1 G1 H1 q1 w1 g1 r1 => by
    cases r1 with
    | own p =>
      obtain ⟨hp, q1⟩ := q1
      refine ⟨own_ty w1 hp, he σ δ μ1 G1 H1 _ _ (S.mono g1.eg) w1 q1 fun v d μ2 G2 H2 ⟨ds, es, e, e2, hl, q2⟩ w2 g2 r2 => ?_⟩
      obtain ⟨_, vs, h, rl⟩ := w2.muL p ds e
      obtain ⟨a, ws, rfl, h2, rl2⟩ := asL_out w2 r2 e2
      exact ⟨p, a, vs, ws, rfl, rfl, h, h2, sz_of (by rw [rl.length, rl2.length]; exact hl), b _ _ _ G2 _ q2 (w2.wr e (rl.append rl2)) ((g1.trans g2).trans (Go.wr e)) .non⟩
    | _ => exact q1.elim
end

/-! ### functions -/
abbrev DSp := List D → Mu → DK → Prop
def spOf (K : PySem.W.Frag) (dsp : DSp) : Sp := fun vs H Q _ => ∃ ds μ G k, Wd K G H μ ∧ RepL K G vs ds ∧ dsp ds μ k ∧ Then K μ G H k Q
set_option checkBinderAnnotations false in
def dCall (dsp : DSp) (ds : List D) (μ : Mu) [k : DK] : Prop := dsp ds μ k
@[simp] def rCall (dsp : DSp) (ra : RA) : RE := fun δ μ k => ra δ μ fun ds μ1 => @dCall dsp ds μ1 k
@[simp] def startD (N : List Str) (ds : List D) : Sl := ds.map some ++ List.replicate (N.length - ds.length) none
section
variable {K : PySem.W.Frag}
theorem okE_call {dsp : DSp} {E : XK} {t : TA} {r : RA} (h : OkA K t r) : OkE K (tCall (spOf K dsp) [] E t) (rCall dsp r) := fun σ δ μ G H k Q S w q b =>
  h σ δ μ G H _ _ S w q fun vs ds μ1 G1 H1 q1 w1 g1 r1 => by
    show spOf K dsp (vs ++ []) H1 Q E
    rw [List.append_nil]
    exact ⟨ds, μ1, G1, k, w1, r1, q1, fun v d μ' G' H' qk w' g' r' => b v d μ' G' H' qk w' (g1.trans g') r'⟩
theorem RepL.somes {G : Hp} : ∀ {vs : List V} {ds : List D} {i : Nat} {d : D}, RepL K G vs ds → (ds.map some)[i]? = some (some d) → ∃ v, (vs.map some)[i]? = some (some v) ∧ Rep K G v d := fun {vs ds i d} r e => by
  rw [List.getElem?_map] at e
  cases q : ds[i]? with
  | none => rw [q] at e; cases e
  | some d' =>
    rw [q] at e
    cases e
    obtain ⟨v, h1, h2⟩ := r.getD' q
    exact ⟨v, by rw [List.getElem?_map, h1]; rfl, h2⟩
theorem start_ok {G : Hp} {vs : List V} {ds : List D} {N : List Str} (r : RepL K G vs ds) : SlOk K G (L2.start N vs) (startD N ds) := by
  unfold L2.start startD
  rw [r.length]
  refine ⟨by simp [r.length], fun i d e => ?_⟩
  by_cases hi : i < ds.length
  · rw [List.getElem?_append_left (by simpa using hi)] at e
    obtain ⟨v, h1, h2⟩ := RepL.somes r e
    exact ⟨v, by rw [List.getElem?_append_left (by rw [List.length_map, r.length]; exact hi)]; exact h1, h2⟩
  · rw [List.getElem?_append_right (by simpa using hi), List.getElem?_replicate] at e
    split at e <;> cases e
/-- a def as its callers want it -/
structure FnD (P : Program) (w : World) (K : PySem.W.Frag) (mg : Str → Option Value) (base : Heap) (x : Str) (k : Nat) (dsp : DSp) : Prop where
  ex : ∃ (f : Addr) (fd : FuncData) (ps : List Str), FnOk P w K mg base CX0 k f fd ps (spOf K dsp) ∧ mg x = some (.ref f) ∧ PySem.W.keepIn K (.ref f) = true ∧ Binds K fd ps []
/-- the rule for a def -/
theorem fn_mk {P : Program} {w : World} {mg : Str → Option Value} {base : Heap} {x qual : Str} {st : Stmt} {f : Addr} {fd : FuncData} {N ps : List Str} {k : Nat} {dsp : DSp} {t : TS} {r : RS} (F : Fun K x qual st f fd) (S : FnScope N ps (defScope st))
    (len : ∀ ds μ k, dsp ds μ k → ds.length = ps.length)
    (body : ∀ (cdv : Value) (A : Around) (outer : List Env) (s : Shared) (H : Hp) (E : XK), Room k (A.deeper (envOfC qual (defScope st) s.heap.objs.size f cdv)) → DSs (cxOf CX0 P w K mg base N qual (defScope st) f cdv A outer s H E).nox (defBody st) t r)
    (vc : ∀ ds μ k, dsp ds μ k → r { nx := fun _ μ' => k .non μ', rt := k } (startD N ds) μ) : FnOk P w K mg base CX0 (k + 1) f fd ps (spOf K dsp) := by
  refine F.ok S (fun vs H Q E h => ?_) (fun cdv A outer s H vs Q E hr h => ?_)
  · obtain ⟨ds, μ, G, k, _, rl, hd, _⟩ := h
    rw [rl.length]
    exact len ds μ k hd
  · obtain ⟨ds, μ, G, k', wd, rl, hd, th⟩ := h
    have B := body cdv A outer s H E hr
    refine ⟨t, B.p, B.o (L2.start N vs) (startD N ds) μ G H _ _ (start_ok rl) wd (vc ds μ k' hd) ⟨fun σ' δ' μ' G' H' h S' w' g' => th _ _ μ' G' H' h w' g' .non, fun _ _ _ _ _ h => h.elim, fun _ _ _ _ _ h => h.elim, fun v d μ' G' H' h w' g' r' => th v d μ' G' H' h w' g' r'⟩⟩
/-- less is known of the own lists -/
def Sub (μ' μ : Mu) : Prop := ∀ p ds, μ' p = some ds → μ p = some ds
theorem Wd.sub {G H : Hp} {μ μ' : Mu} (w : Wd K G H μ) (s : Sub μ' μ) : Wd K G H μ' := ⟨w.ex, fun p ds e => w.mu p ds (s p ds e)⟩
theorem Go.sub {μ0 μ μ' : Mu} {G0 H0 G H : Hp} (g : Go μ0 G0 H0 μ G H) (s : Sub μ' μ) : Go μ0 G0 H0 μ' G H := ⟨g.eg, g.kp, fun a h => g.dm a (fun z => h (by
  cases e : μ' a with
  | none => rfl
  | some d => rw [s a d e] at z; cases z)), g.gf⟩
/-- the rule for a def; own lists may be left behind -/
theorem fn_mkW {P : Program} {w : World} {mg : Str → Option Value} {base : Heap} {x qual : Str} {st : Stmt} {f : Addr} {fd : FuncData} {N ps : List Str} {k : Nat} {dsp : DSp} {t : TS} {r : RS} (F : Fun K x qual st f fd) (S : FnScope N ps (defScope st))
    (len : ∀ ds μ k, dsp ds μ k → ds.length = ps.length)
    (body : ∀ (cdv : Value) (A : Around) (outer : List Env) (s : Shared) (H : Hp) (E : XK), Room k (A.deeper (envOfC qual (defScope st) s.heap.objs.size f cdv)) → DSs (cxOf CX0 P w K mg base N qual (defScope st) f cdv A outer s H E).nox (defBody st) t r)
    (vc : ∀ ds μ k, dsp ds μ k → r { nx := fun _ μ' => ∃ μ'', Sub μ'' μ' ∧ k .non μ'', rt := fun d μ' => ∃ μ'', Sub μ'' μ' ∧ k d μ'' } (startD N ds) μ) : FnOk P w K mg base CX0 (k + 1) f fd ps (spOf K dsp) := by
  refine F.ok S (fun vs H Q E h => ?_) (fun cdv A outer s H vs Q E hr h => ?_)
  · obtain ⟨ds, μ, G, k, _, rl, hd, _⟩ := h
    rw [rl.length]
    exact len ds μ k hd
  · obtain ⟨ds, μ, G, k', wd, rl, hd, th⟩ := h
    have B := body cdv A outer s H E hr
    refine ⟨t, B.p, B.o (L2.start N vs) (startD N ds) μ G H _ _ (start_ok rl) wd (vc ds μ k' hd) ⟨fun σ' δ' μ' G' H' ⟨μ'', hs, h⟩ S' w' g' => th _ _ μ'' G' H' h (w'.sub hs) (g'.sub hs) .non, fun _ _ _ _ _ h => h.elim, fun _ _ _ _ _ h => h.elim, fun v d μ' G' H' ⟨μ'', hs, h⟩ w' g' r' => th v d μ'' G' H' h (w'.sub hs) (g'.sub hs) r'⟩⟩
end
end DL


set_option Elab.async false
set_option linter.all false
set_option maxRecDepth 100000
set_option maxHeartbeats 4000000
/-! DLg: calls of defs as a rule, bodies, instances with slots, texts. -/
namespace DL
open PySem PySem.Spec PyProof.Rows L2 SlX

/-- a def's body: what is to be shown of it, once -/
def Body (P : Program) (w : World) (K : PySem.W.Frag) (mg : Str → Option Value) (base : Heap) (k : Nat) (qual : Str) (st : Stmt) (N : List Str) (r : RS) : Prop :=
  ∀ f : Addr, ∃ t : TS, ∀ (cdv : Value) (A : Around) (outer : List Env) (s : Shared) (H : Hp) (E : XK), Room k (A.deeper (envOfC qual (defScope st) s.heap.objs.size f cdv)) → DSs (cxOf CX0 P w K mg base N qual (defScope st) f cdv A outer s H E).nox (defBody st) t r
section
variable {P : Program} {w : World} {K : PySem.W.Frag} {mg : Str → Option Value} {base : Heap}
theorem fn_body {x qual : Str} {st : Stmt} {f : Addr} {fd : FuncData} {N ps : List Str} {k : Nat} {dsp : DSp} {r : RS} (B : Body P w K mg base k qual st N r) (F : Fun K x qual st f fd) (S : FnScope N ps (defScope st))
    (len : ∀ ds μ k, dsp ds μ k → ds.length = ps.length)
    (vc : ∀ ds μ k, dsp ds μ k → r { nx := fun _ μ' => k .non μ', rt := k } (startD N ds) μ) : FnOk P w K mg base CX0 (k + 1) f fd ps (spOf K dsp) := by
  obtain ⟨t, h⟩ := B f
  exact fn_mk F S len h vc
/-- where a def of the module stands -/
structure At (K : PySem.W.Frag) (mg : Str → Option Value) (x : Str) (st : Stmt) : Prop where
  ex : ∃ (f : Addr) (fd : FuncData), Fun K x x st f fd ∧ mg x = some (.ref f) ∧ PySem.W.keepIn K (.ref f) = true
/-- a def of the module, for its callers; hb: as in Fun.binds -/
theorem fnD_of {x : Str} {st : Stmt} {N ps : List Str} {k : Nat} {dsp : DSp} {r : RS} (a : At K mg x st) (B : Body P w K mg base k x st N r) (S : FnScope N ps (defScope st))
    (hb : ∀ (kV doc pm : Value) (an : Option Addr) (cdv ct : Value) (us : List Value), us.length = ps.length → bindArgs (PySem.W.fnOf x x (defArgs st) (defBody st) (defScope st) .none kV doc pm an cdv ct) ⟨us, []⟩ = pure (ps.zip us))
    (len : ∀ ds μ k, dsp ds μ k → ds.length = ps.length)
    (vc : ∀ ds μ k, dsp ds μ k → r { nx := fun _ μ' => k .non μ', rt := k } (startD N ds) μ) : FnD P w K mg base x (k + 1) dsp := by
  obtain ⟨f, fd, F, hm, hk⟩ := a.ex
  exact ⟨f, fd, ps, fn_body B F S len vc, hm, hk, F.binds hb⟩
theorem fnD_ofW {x : Str} {st : Stmt} {N ps : List Str} {k : Nat} {dsp : DSp} {r : RS} (a : At K mg x st) (B : Body P w K mg base k x st N r) (S : FnScope N ps (defScope st))
    (hb : ∀ (kV doc pm : Value) (an : Option Addr) (cdv ct : Value) (us : List Value), us.length = ps.length → bindArgs (PySem.W.fnOf x x (defArgs st) (defBody st) (defScope st) .none kV doc pm an cdv ct) ⟨us, []⟩ = pure (ps.zip us))
    (len : ∀ ds μ k, dsp ds μ k → ds.length = ps.length)
    (vc : ∀ ds μ k, dsp ds μ k → r { nx := fun _ μ' => ∃ μ'', Sub μ'' μ' ∧ k .non μ'', rt := fun d μ' => ∃ μ'', Sub μ'' μ' ∧ k d μ'' } (startD N ds) μ) : FnD P w K mg base x (k + 1) dsp := by
  obtain ⟨f, fd, F, hm, hk⟩ := a.ex
  obtain ⟨t, h⟩ := B f
  exact ⟨f, fd, ps, fn_mkW F S len h vc, hm, hk, F.binds hb⟩
end
theorem pe_callD {X : Cx} {x : Str} {k j : Nat} {dsp : DSp} {e : Expr} {es : List Expr} {p pos : Pos} {t : TA} (F : FnD X.prog X.w X.K X.mg X.base x k dsp) (hr : Room k X.A) (hg : Gl X x) (ha : PA X (e :: es) t)
    (hdb : (x == ("__debug__" : Str)) = false := by decide) (he : starEach (e :: es) X.env = (false, eval e X.env) :: starEach es X.env := by rfl) (hpl : (backTo pos (starEach es X.env)).any (·.1) = false := by rfl) :
    PE X (.Call (.Name x p) (e :: es) [] pos) (tCall (spOf X.K dsp) [] E0 t) := by
  obtain ⟨f, fd, ps, G, hm, hk, hb⟩ := F.ex
  exact pe_call G hr hg hm hk hb .nil pass0 ha hdb he hpl

/-! ### great powers, a tuple times a number -/
def CPowW (i j : Int) : Prop := 0 ≤ j ∧ j ≤ 100 ∧ i.natAbs < 2 ^ 1000
section
variable {K : PySem.W.Frag}
/-- e.f, a slot -/
@[simp] def rFld (C : Addr) (i : Nat) (ra : RE) : RE := fun δ μ k => ra δ μ fun x μ1 => match x with | .obj C' ds => C' = C ∧ ∃ d, ds[i]? = some d ∧ k d μ1 | _ => False
theorem okE_fld {C p : Addr} {f : Str} {i : Nat} {te : TE} {ra : RE} (c : SCls K C) (s1 : Slot1 K C f p i) (h : OkE K te ra) : OkE K (SlX.tSl K te f) (rFld C i ra) := fun σ δ μ G H k Q S w q b =>
  h σ δ μ G H _ _ S w q fun v d μ1 G1 H1 q1 w1 g1 r1 => by
    cases r1 with
    | @obj a C' dx vs ds hs rl =>
      obtain ⟨rfl, d, e, q2⟩ := q1
      obtain ⟨u, h1, h2⟩ := rl.getD' e
      exact ⟨a, C', dx, p, _, i, u, rfl, w1.ex.slt hs, c, s1, by rw [List.getElem?_map, h1]; rfl, b u d μ1 G1 H1 q2 w1 g1 h2⟩
    | _ => exact q1.elim
/-- e.f, a property; o.m() -/
@[simp] def rGet (C : Addr) (dsp : DSp) (ra : RE) : RE := fun δ μ k => ra δ μ fun x μ1 => match x with | .obj C' _ => C' = C ∧ @dCall dsp [x] μ1 k | _ => False
theorem okE_prop {C : Addr} {dsp : DSp} {E : XK} {te : TE} {ra : RE} (h : OkE K te ra) : OkE K (tPropSl C (spOf K dsp) E te) (rGet C dsp ra) := fun σ δ μ G H k Q S w q b =>
  h σ δ μ G H _ _ S w q fun v d μ1 G1 H1 q1 w1 g1 r1 => by
    cases r1 with
    | @obj a C' dx vs ds hs rl =>
      obtain ⟨rfl, q2⟩ := q1
      exact ⟨a, dx, _, rfl, w1.ex.slt hs, _, μ1, G1, k, w1, .cons (.obj hs rl) .nil, q2, fun v d μ' G' H' qk w' g' r' => b v d μ' G' H' qk w' (g1.trans g') r'⟩
    | _ => exact q1.elim
theorem okE_meth0 {C : Addr} {dsp : DSp} {E : XK} {te : TE} {ra : RE} (h : OkE K te ra) : OkE K (tMethSl C (spOf K dsp) E te tNil) (rGet C dsp ra) := fun σ δ μ G H k Q S w q b =>
  h σ δ μ G H _ _ S w q fun v d μ1 G1 H1 q1 w1 g1 r1 => by
    cases r1 with
    | @obj a C' dx vs ds hs rl =>
      obtain ⟨rfl, q2⟩ := q1
      exact ⟨a, dx, _, rfl, w1.ex.slt hs, _, μ1, G1, k, w1, .cons (.obj hs rl) .nil, q2, fun v d μ' G' H' qk w' g' r' => b v d μ' G' H' qk w' (g1.trans g') r'⟩
    | _ => exact q1.elim
end
/-- where a property of the class at C stands, and its getter's promise -/
structure PropD (P : Program) (w : World) (K : PySem.W.Frag) (mg : Str → Option Value) (base : Heap) (C : Addr) (f : Str) (n : Nat) (dsp : DSp) : Prop where
  ex : ∃ p g : Addr, PySem.W.findIn K (.ref C) f = some (some (.ref p)) ∧ PySem.W.specialIn K (.ref p) "__get__" = some (some (.builtin "property.__get__")) ∧ PySem.W.takesIn K (.ref p) = some true ∧
    (∃ rest, PySem.W.recIn K p "property" = some (.ref g :: rest)) ∧ FnR P w K mg base CX0 n g (spOf K dsp)
theorem pe_propD {X : Cx} {C : Addr} {f : Str} {n : Nat} {dsp : DSp} {e : Expr} {te : TE} {pos : Pos} (c : SCls X.K C) (F : PropD X.prog X.w X.K X.mg X.base C f n dsp) (hr : Room (n + 1) X.A) (he : PE X e te) (hb : attributeBase e f X.env (eval e X.env) = eval e X.env := by rfl) :
    PE X (.Attribute e f pos) (tPropSl C (spOf X.K dsp) E0 te) := by
  obtain ⟨p, g, h1, h2, h3, h4, F⟩ := F.ex
  exact pe_propSl he c h1 h2 h3 h4 F hr (fun _ _ _ _ h => h.elim) hb
structure MethD (P : Program) (w : World) (K : PySem.W.Frag) (mg : Str → Option Value) (base : Heap) (C : Addr) (m : Str) (n : Nat) (dsp : DSp) : Prop where
  ex : ∃ g : Addr, Meth K C m g ∧ FnR P w K mg base CX0 n g (spOf K dsp)
theorem FnOk.pos {P : Program} {w : World} {K : PySem.W.Frag} {mg : Str → Option Value} {base : Heap} {k : Nat} {f : Addr} {fd : FuncData} {ps : List Str} {dsp : DSp} (F : FnOk P w K mg base CX0 k f fd ps (spOf K dsp)) (hb : Binds K fd ps []) : FnR P w K mg base CX0 k f (spOf K dsp) :=
  (F.raw hb .nil).imp fun vs H Q E h => by
    show spOf K dsp (vs ++ []) H Q E
    rw [List.append_nil]
    exact h

/-! ### texts -/
section
variable {K : PySem.W.Frag}
/-- {e} in an f-string -/
@[simp] def rFmt (ra : RE) : RE := fun δ μ k => ra δ μ fun x μ1 => match x with
  | .str y => y.length ≤ 1000000 ∧ k (.str y) μ1
  | .int i => i.natAbs.log2 < 1920 ∧ k (.str (toString i)) μ1
  | _ => False
theorem okE_fmt {te : TE} {ra : RE} (h : OkE K te ra) : OkE K (tFmt te) (rFmt ra) := fun σ δ μ G H k Q S w q b =>
  h σ δ μ G H _ _ S w q fun v d μ1 G1 H1 q1 w1 g1 r1 => by
    cases r1 with
    | str y => exact .inl ⟨y, rfl, sz_of q1.1, b _ _ μ1 G1 H1 q1.2 w1 g1 (.str _)⟩
    | int i => exact .inr ⟨i, rfl, q1.1, b _ _ μ1 G1 H1 q1.2 w1 g1 (.str _)⟩
    | _ => exact q1.elim
@[simp] def rJs : List RE → Str → Sl → Mu → (Str → Mu → Prop) → Prop
  | [], acc, _, μ, k => k acc μ
  | r :: rs, acc, δ, μ, k => r δ μ fun x μ1 => match x with
    | .str y => (acc ++ y).length ≤ 1000000 ∧ rJs rs (acc ++ y) δ μ1 k
    | _ => False
def OkJ (K : PySem.W.Frag) (ts : List TE) (rs : List RE) : Prop := ∀ (acc : Str) (σ : L2.St) (δ : Sl) (μ : Mu) (G H : Hp) (k : Str → Mu → Prop) (Q : Str → Hp → Prop), SlOk K G σ δ → Wd K G H μ → rJs rs acc δ μ k →
  (∀ x μ' G' H', k x μ' → Wd K G' H' μ' → Go μ G H μ' G' H' → Q x H') → tJs ts acc σ H Q
theorem okJ_nil : OkJ K [] [] := fun acc σ δ μ G H k Q S w q b => b acc μ G H q w (Go.refl _ _ _)
theorem okJ_cons {t : TE} {r : RE} {ts : List TE} {rs : List RE} (h : OkE K t r) (hs : OkJ K ts rs) : OkJ K (t :: ts) (r :: rs) := fun acc σ δ μ G H k Q S w q b =>
  h σ δ μ G H _ _ S w q fun v d μ1 G1 H1 q1 w1 g1 r1 => by
    cases r1 with
    | str y => exact ⟨y, rfl, sz_of q1.1, hs _ σ δ μ1 G1 H1 k Q (S.mono g1.eg) w1 q1.2 fun x μ' G' H' qk w' g' => b x μ' G' H' qk w' (g1.trans g')⟩
    | _ => exact q1.elim
@[simp] def rJoined (rs : List RE) : RE := fun δ μ k => rJs rs Str.empty δ μ fun x μ1 => k (.str x) μ1
theorem okE_joined {ts : List TE} {rs : List RE} (h : OkJ K ts rs) : OkE K (fun σ H Q => tJs ts Str.empty σ H fun out H1 => Q (.str out) H1) (rJoined rs) := fun σ δ μ G H k Q S w q b =>
  h _ σ δ μ G H _ _ S w q fun x μ' G' H' qk w' g' => b _ _ μ' G' H' qk w' g' (.str x)
/-- sep.join(xs), xs a list or a tuple of texts -/
@[simp] def rJoin (ro ra : RE) : RE := fun δ μ k => ro δ μ fun o μ1 => match o with
  | .str a => ra δ μ1 fun x μ2 => ∃ ys : List Str, asQ μ2 x = some (ys.map D.str) ∧ (ys.map (·.length)).sum + ys.length * a.length ≤ 16777216 ∧ k (.str (Txt.join a ys)) μ2
  | _ => False
end
end DL


set_option Elab.async false
set_option linter.all false
set_option maxRecDepth 100000
set_option maxHeartbeats 4000000
/-! DLh: great powers, tuple times int, join. -/
namespace DL
open PySem PySem.Spec PyProof.Rows L2 SlX

/-- t * 1 is t itself -/
theorem tup_mul_one (l : Addr) (items : Array Value) (n : Nat) (dd : Option Addr) (sl : Array (Option Value)) (u : Tok) :
    Meets (Builtin.«tuple.__mul__» ⟨[.ref l, .int 1 u], []⟩) (fun _ R s => s.heap.get? l = some { cls := .type "tuple", dict := dd, data := .seq items n, slots := sl } ∧ R (.ok (.ret (.ref l))) s) :=
  .of_wp fun prog w A R s h => by
    obtain ⟨hp, g, d, tk, os⟩ := s
    obtain ⟨hl, h⟩ := h
    have f1 := AutoSeq1.idx_int
    have c0 : (decide ((1 : Int) < -(2 ^ 63)) || decide ((1 : Int) ≥ 2 ^ 63)) = false := by decide
    have c1 : (items.isEmpty || (1 : Int) == 1) = true := by simp
    wp_walk using wpAny_loadPart' hl
    repeat (first
      | (refine wpAny_ite_false (decide_eq_false (by rw [c0]; exact Bool.false_ne_true)) ?_; wp_walk using wpAny_loadPart' hl)
      | (refine wpAny_ite_true (decide_eq_true (by rw [c1])) ?_; wp_walk using wpAny_loadPart' hl))
    exact ⟨_, rfl, h⟩
section
variable {X : Cx}
/-- a tuple times an int from 1 on -/
def rRepA (K : PySem.W.Frag) : R2 := fun x y H Q => ∃ l k xs, x = .ref l ∧ y = .int k ∧ SqT K H l xs ∧ xs ≠ [] ∧ 1 ≤ k ∧ k ≤ 1000 ∧ xs.length ≤ 1000 ∧ (k = 1 → Q (.ref l) H) ∧ (k ≠ 1 → ∀ p, H p = none → Q (.ref p) (upd H p (.tup (List.replicate k.toNat xs).flatten)))
theorem op_repTA : OpR X (binaryOp .Mult) (rRepA X.K) := by
  intro pins s σ H x y v u Q I rx ry h
  obtain ⟨l, k, xs, hx, hy, hT, hne, h1, h2, hz, q1, q2⟩ := h
  by_cases hk : k = 1
  · have q := q1 hk
    subst hx hy hk
    cases rx
    obtain ⟨t, rfl⟩ := ry
    obtain ⟨its, r, ⟨⟨cls, dd, data, sl⟩, ho, hc, n, hd⟩, hs⟩ := I.tuple hT
    simp only at hc hd
    subst hc hd
    exact wpAny_binaryOp_repeat_ref (T := "tuple") (U := "int") (by decide) ⟨_, ho, rfl⟩ (fun s' => typeIs_int s' 1 t) noFill_tuple_mul F.fills_int_mul F.slot_int_rmul repeat_tuple F.slot_int_index.lookup
      (call_meets F.slot_int_rmul (typeIs_int s 1 t) F.entry_int_rmul (F.args_int_rmul_2 _ _) (int_rmul_tuple 1 t l its.toArray n dd sl)
        ⟨ho, rfl, ⟨_, ho, rfl⟩, call_meets F.slot_tuple_mul ⟨_, ho, rfl⟩ F.entry_tuple_mul (F.args_tuple_mul_2 _ _) (tup_mul_one l its.toArray n dd sl t) ⟨ho, .ref l, H, I, rfl, q⟩⟩)
  · exact op_repT pins s σ H x y v u Q I rx ry ⟨l, k, xs, hx, hy, hT, hne, by omega, h2, hz, q2 hk⟩
/-- ints of up to a thousand bits to powers of at most a hundred -/
theorem op_powW : OpR X (binaryOp .Pow) (rI CPowW fun i j => .int (i ^ j.toNat)) := by
  intro pins s σ H x y v u Q I rx ry h
  obtain ⟨i, j, rfl, rfl, ⟨h0, h1, hb⟩, q⟩ := h
  obtain ⟨t, rfl⟩ := rx
  obtain ⟨t', rfl⟩ := ry
  have b1 : Builtin.Int.intBits i ≤ i.natAbs.log2 + 1 := by
    unfold Builtin.Int.intBits
    split <;> omega
  have b2 := PySem.Flt.log2_lt_of (by decide : 0 < 1000) hb
  refine pow_int h0 ?_ ⟨.int _, H, I.tok _, ⟨_, rfl⟩, q⟩
  have : (Builtin.Int.intBits i : Int) ≤ 1000 := by omega
  calc (Builtin.Int.intBits i : Int) * j ≤ 1000 * j := Int.mul_le_mul_of_nonneg_right this h0
    _ ≤ 2 ^ 27 := by omega
end
section
variable {K : PySem.W.Frag}
@[simp] def oRepT : F2 := fun x y μ k => match x, y with | .tup xs, .int j => xs ≠ [] ∧ 1 ≤ j ∧ j ≤ 1000 ∧ xs.length ≤ 1000 ∧ k (.tup (List.replicate j.toNat xs).flatten) μ | _, _ => False
theorem okRepT : OkOp K (rRepA K) oRepT := fun x y a b μ G H k Q w rx ry q t => by
  cases rx with
  | @tup l vs ds h r =>
    cases ry with
    | int j =>
      obtain ⟨h0, h1, h2, h3, q⟩ := q
      refine ⟨l, j, vs, rfl, rfl, SqT.of (w.ex _ _ h), fun z => h0 ?_, h1, h2, by rw [r.length]; exact h3, fun z => ?_, fun z p hp => mkTup w (r.flat _) q t p hp⟩
      · have := r.length
        rw [z] at this
        exact List.eq_nil_of_length_eq_zero this.symm
      · subst z
        have e : (List.replicate (1 : Int).toNat ds).flatten = ds := by simp
        rw [e] at q
        exact t _ _ μ G H q w (Go.refl _ _ _) (.tup h r)
    | _ => exact q.elim
  | _ => exact q.elim
theorem okE_join {to ta : TE} {ro ra : RE} (ho : OkE K to ro) (ha : OkE K ta ra) : OkE K (tM1 (fun x xs H Q => ∃ a p, ∃ ys : List Str, x = .str a ∧ xs = [.ref p] ∧ (SqL K H p (ys.map V.str) ∨ SqT K H p (ys.map V.str)) ∧
      (ys.map (·.length)).sum + ys.length * a.length ≤ 16777216 ∧ Q (.str (Txt.join a ys)) H) to ta) (rJoin ro ra) := fun σ δ μ G H k Q S w q b =>
  ho σ δ μ G H _ _ S w q fun v o μ1 G1 H1 q1 w1 g1 r1 => by
    cases r1 with
    | str a =>
      refine ⟨⟨a, rfl⟩, ha σ δ μ1 G1 H1 _ _ (S.mono g1.eg) w1 q1 fun x d μ2 G2 H2 ⟨ys, e, hl, q2⟩ w2 g2 r2 => ?_⟩
      obtain ⟨p, vs, rfl, hp, rl⟩ := asQ_out w2 r2 e
      rw [rl.strs] at hp
      exact ⟨a, p, ys, rfl, rfl, hp, hl, b _ _ μ2 G2 H2 q2 w2 (g1.trans g2) (.str _)⟩
    | _ => exact q1.elim
end
end DL


set_option Elab.async false
set_option linter.all false
set_option maxRecDepth 100000
set_option maxHeartbeats 4000000
/-! DLr: the rules of HandS with the written part K said outright (so that readings do not hang on the frame). -/
namespace DL
open PySem PySem.Spec PyProof.Rows L2 SlX
section
variable (K : PySem.W.Frag) {X : Cx}
theorem kc_isi (hK : X.K = K := by rfl) : CallR X (.builtin "isinstance") (rIsi K) := by subst hK; exact call_isi
theorem kc_len (hK : X.K = K := by rfl) : CallR X (.builtin "len") (fun xs H Q => ∃ x n, xs = [x] ∧ LenV K x H n ∧ Q (.int (n : Nat)) H) := by subst hK; exact call_len
theorem kc_sum (hc : X.calm = true := by rfl) (hK : X.K = K := by rfl) : CallR X (.builtin "sum") (rSum K) := by subst hK; exact cr_sum hc
theorem kc_all (hc : X.calm = true := by rfl) (hK : X.K = K := by rfl) : CallR X (.builtin "all") (rAll K) := by subst hK; exact cr_all hc
theorem kc_any (hc : X.calm = true := by rfl) (hK : X.K = K := by rfl) : CallR X (.builtin "any") (rAny K) := by subst hK; exact cr_any hc
theorem kc_list (hK : X.K = K := by rfl) : CallR X (.type "list") (fun xs H Q => ∃ p ys, xs = [V.ref p] ∧ (SqL K H p ys ∨ SqT K H p ys) ∧ ∀ l, H l = none → Q (.ref l) (upd H l (.lst ys))) := by subst hK; exact call_list_of
theorem kc_tuple (hK : X.K = K := by rfl) : CallR X (.type "tuple") (fun xs H Q => ∃ p ys, xs = [V.ref p] ∧ ((SqL K H p ys ∧ ∀ l, H l = none → Q (.ref l) (upd H l (.tup ys))) ∨ (SqT K H p ys ∧ Q (.ref p) H))) := by subst hK; exact call_tuple_of
theorem ko_eqD (hu : X.A.units + 64 < cLine) (hK : X.K = K := by rfl) : OpR X (compareOp .Eq) (rEqD K) := by subst hK; exact op_eqD hu
theorem ko_neD (hu : X.A.units + 64 < cLine) (hK : X.K = K := by rfl) : OpR X (compareOp .NotEq) (rNeD K) := by subst hK; exact op_neD hu
theorem ko_catA (hK : X.K = K := by rfl) : OpR X (binaryOp .Add) (rCatA K) := by subst hK; exact op_catA
theorem ko_repTA (hK : X.K = K := by rfl) : OpR X (binaryOp .Mult) (rRepA K) := by subst hK; exact op_repTA
theorem kx_seq (hK : X.K = K := by rfl) : IxR X (rIx K) := by subst hK; exact ix_seq
theorem kx_list (hK : X.K = K := by rfl) : IxR X (rIxL K) := by subst hK; exact ix_list
theorem ks_list (hK : X.K = K := by rfl) : SlR X (rSlL K) := by subst hK; exact sl_list
theorem ks_tupA (hK : X.K = K := by rfl) : SlR X (rSlA K) := by subst hK; exact sl_tupA
theorem ki_list {tg l : Expr} {tl : TE} (hl : PE X l tl) (hK : X.K = K := by rfl) : PI X tg l (iList K tl) := by subst hK; exact pi_list hl
theorem ki_tup {tg l : Expr} {tl : TE} (hl : PE X l tl) (hK : X.K = K := by rfl) : PI X tg l (iTup K tl) := by subst hK; exact pi_tup hl
theorem ki_zip {e e2 : Expr} {ta : TA} {p pos tpos : Pos} {elts : List Expr} {kk : Nat} (hg : Gl X "zip") (hm : X.mg "zip" = none) (ha : PA X [e, e2] ta) (hK : X.K = K := by rfl)
    (hs : starEach [e, e2] X.env = (false, eval e X.env) :: starEach [e2] X.env := by rfl) (hpl : (backTo pos (starEach [e2] X.env)).any (·.1) = false := by rfl) :
    PI X (.Tuple elts kk tpos) (.Call (.Name "zip" p) [e, e2] [] pos) (iZipM K ta) := by subst hK; exact pi_zipM hg hm ha hs hpl
theorem kg_tup {es : List Expr} {k : Nat} {pos : Pos} {t : TGs} {n : Nat} (h : PGs X es t) (hc : X.calm = true := by rfl) (hK : X.K = K := by rfl)
    (hn : (assignEach es X.env).length = n := by rfl) (hst : (assignEach es X.env).findIdx? (·.1) = none := by rfl) : PG X (.Tuple es k pos) (gTup K n t) := by subst hK; exact pg_tup hc h hn hst
theorem ke_app {o e : Expr} {apos cpos : Pos} {to : TE} {t : TA} (ho : PE X o to) (ha : PA X [e] t) (hK : X.K = K := by rfl)
    (hbase : attributeBase o "append" X.env (eval o X.env) = eval o X.env := by rfl)
    (hfew : ((backTo cpos (starEach [e] X.env)).all (fun x => !x.1) && (backToKw cpos (keywordEach [] X.env)).all (fun x => x.1.isSome) && decide ([e].length + ([] : List Keyword).length + (if ([] : List Keyword).isEmpty then 0 else 1) < 30)) = true := by rfl)
    (hline : (apos.endLine == cpos.line) = true := by rfl) (hs : starEach [e] X.env = (false, eval e X.env) :: starEach [] X.env := by rfl) (hplain : (backTo cpos (starEach [] X.env)).any (·.1) = false := by rfl) :
    PE X (.Call (.Attribute o "append" apos) [e] [] cpos) (tBM K "list" rAppend to t) := by
  subst hK; exact pe_bm PySem.F.plainAttrs_list PySem.F.slot_list_append PySem.F.type_list_append mt_append ho ha hbase hfew hline hs hplain
theorem ke_ext {o e : Expr} {apos cpos : Pos} {to : TE} {t : TA} (ho : PE X o to) (ha : PA X [e] t) (hK : X.K = K := by rfl)
    (hbase : attributeBase o "extend" X.env (eval o X.env) = eval o X.env := by rfl)
    (hfew : ((backTo cpos (starEach [e] X.env)).all (fun x => !x.1) && (backToKw cpos (keywordEach [] X.env)).all (fun x => x.1.isSome) && decide ([e].length + ([] : List Keyword).length + (if ([] : List Keyword).isEmpty then 0 else 1) < 30)) = true := by rfl)
    (hline : (apos.endLine == cpos.line) = true := by rfl) (hs : starEach [e] X.env = (false, eval e X.env) :: starEach [] X.env := by rfl) (hplain : (backTo cpos (starEach [] X.env)).any (·.1) = false := by rfl) :
    PE X (.Call (.Attribute o "extend" apos) [e] [] cpos) (tBM K "list" rExtend to t) := by
  subst hK; exact pe_bm PySem.F.plainAttrs_list PySem.F.slot_list_extend PySem.F.type_list_extend mt_extend ho ha hbase hfew hline hs hplain
theorem ke_call {x : Str} {k : Nat} {dsp : DSp} {e : Expr} {es : List Expr} {p pos : Pos} {t : TA} {P : Program} {w : World} {mg : Str → Option Value} {base : Heap} (F : FnD P w K mg base x k dsp) {j : Nat} (hr : Room j X.A) (ha : PA X (e :: es) t)
    (hj : k ≤ j := by first | decide | omega) (hg : Gl X x := by rfl) (hP : X.prog = P := by rfl) (hw : X.w = w := by rfl) (hK : X.K = K := by rfl) (hm : X.mg = mg := by rfl) (hb : X.base = base := by rfl)
    (hdb : (x == ("__debug__" : Str)) = false := by decide) (he : starEach (e :: es) X.env = (false, eval e X.env) :: starEach es X.env := by rfl) (hpl : (backTo pos (starEach es X.env)).any (·.1) = false := by rfl) :
    PE X (.Call (.Name x p) (e :: es) [] pos) (tCall (spOf K dsp) [] E0 t) := by
  subst hP hw hK hm hb
  exact pe_callD (j := 0) F (hr.mono hj) hg ha hdb he hpl
theorem ke_globI {x : Str} {i : Int} {pos : Pos} {mg : Str → Option Value} (h : ∃ t, mg x = some (.int i t)) (hm : X.mg = mg := by rfl) (hg : Gl X x := by rfl) (hd : (x == ("__debug__" : Str)) = false := by decide) : PE X (.Name x pos) (tC (.int i)) := by
  subst hm
  obtain ⟨t, h⟩ := h
  exact pe_glob hg h ⟨_, rfl⟩ hd
theorem ke_sl {e : Expr} {f : Str} {pos : Pos} {ta : TE} (he : PE X e ta) (hK : X.K = K := by rfl) (hb : attributeBase e f X.env (eval e X.env) = eval e X.env := by rfl) : PE X (.Attribute e f pos) (SlX.tSl K ta f) := by subst hK; exact pe_sl he hb
theorem ke_prop {C : Addr} {f : Str} {n j : Nat} {dsp : DSp} {e : Expr} {te : TE} {pos : Pos} {P : Program} {w : World} {mg : Str → Option Value} {base : Heap} (c : SCls K C) (F : PropD P w K mg base C f n dsp) (hr : Room j X.A) (he : PE X e te)
    (hj : n + 1 ≤ j := by decide) (hP : X.prog = P := by rfl) (hw : X.w = w := by rfl) (hK : X.K = K := by rfl) (hm : X.mg = mg := by rfl) (hb : X.base = base := by rfl) (hbb : attributeBase e f X.env (eval e X.env) = eval e X.env := by rfl) :
    PE X (.Attribute e f pos) (tPropSl C (spOf K dsp) E0 te) := by
  subst hP hw hK hm hb
  exact pe_propD c F (hr.mono hj) he hbb
theorem ke_join {o e : Expr} {to te : TE} {apos pos : Pos} (ho : PE X o to) (he : PE X e te) (hK : X.K = K := by rfl) (hs : starEach [e] X.env = [(false, eval e X.env)] := by rfl) (hbase : attributeBase o "join" X.env (eval o X.env) = eval o X.env := by rfl) (hline : (apos.endLine == pos.line) = true := by rfl) :
    PE X (.Call (.Attribute o "join" apos) [e] [] pos) (tM1 (fun x xs H Q => ∃ a p, ∃ ys : List Str, x = .str a ∧ xs = [.ref p] ∧ (SqL K H p (ys.map V.str) ∨ SqT K H p (ys.map V.str)) ∧ (ys.map (·.length)).sum + ys.length * a.length ≤ 16777216 ∧ Q (.str (Txt.join a ys)) H) to te) := by
  subst hK; exact pe_join ho he hs hbase hline
end
/-- a built-in by its name -/
theorem kb_call {X : Cx} {x : Str} {id : String} {r : List V → Hp → VK → Prop} {e : Expr} {es : List Expr} {t : TA} {p pos : Pos} {mg : Str → Option Value} (hc : CallR X (.builtin id) r) (hm : mg x = none) (ha : PA X (e :: es) t) (hg : Gl X x := by rfl) (hmg : X.mg = mg := by rfl) (hv : bootBuiltins x = some (.builtin id) := by decide +kernel)
    (hn : x ≠ "__name__" := by decide) (hdb : (x == ("__debug__" : Str)) = false := by decide) (he : starEach (e :: es) X.env = (false, eval e X.env) :: starEach es X.env := by rfl) (hpl : (backTo pos (starEach es X.env)).any (·.1) = false := by rfl) : PE X (.Call (.Name x p) (e :: es) [] pos) (tCB r t) := by
  subst hmg; exact pe_callB hc hg hm hv ha hn hdb he hpl
theorem kt_call {X : Cx} {x : Str} {T : String} {r : List V → Hp → VK → Prop} {e : Expr} {es : List Expr} {t : TA} {p pos : Pos} {mg : Str → Option Value} (hc : CallR X (.type T) r) (hm : mg x = none) (ha : PA X (e :: es) t) (hg : Gl X x := by rfl) (hmg : X.mg = mg := by rfl) (hv : bootBuiltins x = some (.type T) := by decide +kernel)
    (hn : x ≠ "__name__" := by decide) (hdb : (x == ("__debug__" : Str)) = false := by decide) (he : starEach (e :: es) X.env = (false, eval e X.env) :: starEach es X.env := by rfl) (hpl : (backTo pos (starEach es X.env)).any (·.1) = false := by rfl) : PE X (.Call (.Name x p) (e :: es) [] pos) (tCB r t) := by
  subst hmg; exact pe_callTy hc hg hm hv ha hn hdb he hpl
theorem kb_ty {X : Cx} {x : Str} {T : String} {pos : Pos} {mg : Str → Option Value} (hm : mg x = none) (hg : Gl X x := by rfl) (hmg : X.mg = mg := by rfl) (hv : bootBuiltins x = some (.type T) := by decide +kernel) (hn : x ≠ "__name__" := by decide) (hdb : (x == ("__debug__" : Str)) = false := by decide) : PE X (.Name x pos) (tC (.ty T)) := by
  subst hmg; exact pe_bltn hg hm hv rfl hn hdb
theorem kr_range1 {X : Cx} {tg a : Expr} {ta : TA} {p pos : Pos} {mg : Str → Option Value} (hm : mg "range" = none) (ha : PA X [a] ta) (hg : Gl X "range" := by rfl) (hmg : X.mg = mg := by rfl) (hs : starEach [a] X.env = [(false, eval a X.env)] := by rfl) : PI X tg (.Call (.Name "range" p) [a] [] pos) (iRng1 ta) := by
  subst hmg; exact pi_range1 hg hm ha hs
theorem kr_range2 {X : Cx} {tg a b : Expr} {ta : TA} {p pos : Pos} {mg : Str → Option Value} (hm : mg "range" = none) (ha : PA X [a, b] ta) (hg : Gl X "range" := by rfl) (hmg : X.mg = mg := by rfl) (hs : starEach [a, b] X.env = [(false, eval a X.env), (false, eval b X.env)] := by rfl) (hs2 : starEach [b] X.env = [(false, eval b X.env)] := by rfl) : PI X tg (.Call (.Name "range" p) [a, b] [] pos) (iRng2 ta) := by
  subst hmg; exact pi_range2 hg hm ha hs hs2
end DL


set_option Elab.async false
set_option linter.all false
set_option maxRecDepth 100000
set_option maxHeartbeats 4000000
/-! DLv: plain laws for what is to be shown of readings. -/
namespace DL
open PySem PySem.Spec PyProof.Rows L2 SlX

/-- the walk yields just these data -/
structure Src (it : DIt) (μ : Mu) (ds : List D) : Prop where
  len : it.n = ds.length
  at_ : ∀ i d, i < it.n → it.at_ i = some d → ds[i]? = some d
  ok : it.ok μ
theorem Src.l {μ : Mu} (ds : List D) : Src (itL ds) μ ds := ⟨rfl, fun _ _ _ h => h, trivial⟩
theorem Src.o {μ : Mu} {p : Addr} {ds : List D} (h : μ p = some (.l ds)) : Src (itO p ds) μ ds := ⟨rfl, fun _ _ _ h => h, h⟩
theorem Src.r {μ : Mu} (lo : Int) (n : Nat) : Src (itR lo n) μ ((List.range n).map fun i => .int (lo + (i : Nat))) := by
  refine ⟨by simp [itR], fun i d hi h => ?_, trivial⟩
  have hi : i < n := hi
  have h : some (D.int (lo + (i : Nat))) = some d := h
  rw [List.getElem?_map, List.getElem?_range hi]
  exact h
theorem Src.z {μ : Mu} {x y : D} {xs ys : List D} (h1 : asQ μ x = some xs) (h2 : asQ μ y = some ys) : Src (itZ x y xs ys) μ ((xs.zip ys).map fun q => .tup [q.1, q.2]) := by
  refine ⟨by simp [itZ], fun i d hi h => ?_, h1, h2⟩
  have hi : i < min xs.length ys.length := hi
  have hx : i < xs.length := by omega
  have hy : i < ys.length := by omega
  have h : pairD xs[i]? ys[i]? = some d := h
  have hz : i < (xs.zip ys).length := by rw [List.length_zip]; exact hi
  rw [List.getElem?_eq_getElem hx, List.getElem?_eq_getElem hy] at h
  rw [List.getElem?_map, List.getElem?_eq_getElem hz, List.getElem_zip]
  exact h
theorem Src.get {it : DIt} {μ : Mu} {α : Type} {e : α → D} {xs : List α} (s : Src it μ (xs.map e)) {i : Nat} {d : D} (hi : i < it.n) (h : it.at_ i = some d) : ∃ x, xs[i]? = some x ∧ d = e x := by
  have := s.at_ i d hi h
  rw [List.getElem?_map] at this
  cases q : xs[i]? with
  | none => rw [q] at this; cases this
  | some x => rw [q] at this; cases this; exact ⟨x, rfl, rfl⟩
theorem take_succ_of {α : Type} {xs : List α} {i : Nat} {x : α} (h : xs[i]? = some x) : xs.take (i + 1) = xs.take i ++ [x] := by
  have hi : i < xs.length := by
    by_cases hi : i < xs.length
    · exact hi
    · rw [List.getElem?_eq_none (by omega)] at h; cases h
  rw [List.getElem?_eq_getElem hi] at h
  cases h
  simp
/-- each element alone, nothing changes: kept by p, made by g -/
theorem lcW_filt {it : DIt} {rg : RG} {rt : RT} {re : RE} {vs : List Nat} {δ : Sl} {μ : Mu} {fin : List D → Mu → Prop} {α : Type} (xs : List α) (e g : α → D) (p : α → Bool) (s : Src it μ (xs.map e)) (hn : xs.length ≤ 1000000)
    (step : ∀ x ∈ xs, ∀ (kt : DK) (kf : Mu → Prop), (p x = true → kt (g x) μ) → (p x = false → kf μ) → rg (e x) (wipeD δ vs) μ fun δ2 μ2 => rt δ2 μ2 fun b μ3 => if b = true then re δ2 μ3 kt else kf μ3)
    (h : fin ((xs.filter p).map g) μ) : @rLcW it rg rt re vs δ μ fin := by
  refine ⟨by rw [s.len, List.length_map]; exact hn, fun i acc μ' => μ' = μ ∧ acc = ((xs.take i).filter p).map g, ⟨rfl, by simp⟩, fun i acc μ' q => q.1 ▸ s.ok, fun i acc μ' d hi hd q => ?_, fun acc μ' q => ?_⟩
  · obtain ⟨rfl, rfl⟩ := q
    obtain ⟨x, hx, rfl⟩ := s.get hi hd
    refine step x (List.mem_of_getElem? hx) _ _ (fun hp => ⟨rfl, ?_⟩) (fun hp => ⟨rfl, ?_⟩)
    · rw [take_succ_of hx, List.filter_append, List.map_append]; simp [hp]
    · rw [take_succ_of hx, List.filter_append, List.map_append]; simp [hp]
  · obtain ⟨rfl, rfl⟩ := q
    rw [s.len, List.length_map, List.take_length]
    exact h
theorem lcW_map {it : DIt} {rg : RG} {rt : RT} {re : RE} {vs : List Nat} {δ : Sl} {μ : Mu} {fin : List D → Mu → Prop} {α : Type} (xs : List α) (e g : α → D) (s : Src it μ (xs.map e)) (hn : xs.length ≤ 1000000)
    (step : ∀ x ∈ xs, ∀ (kt : DK) (kf : Mu → Prop), kt (g x) μ → rg (e x) (wipeD δ vs) μ fun δ2 μ2 => rt δ2 μ2 fun b μ3 => if b = true then re δ2 μ3 kt else kf μ3)
    (h : fin (xs.map g) μ) : @rLcW it rg rt re vs δ μ fin :=
  lcW_filt xs e g (fun _ => true) s hn (fun x hx kt kf h1 _ => step x hx kt kf (h1 rfl)) (by rw [List.filter_eq_self.mpr (fun _ _ => rfl)]; exact h)
/-- a walk that changes something: Inv by the turn -/
theorem lcW_inv {it : DIt} {rg : RG} {rt : RT} {re : RE} {vs : List Nat} {δ : Sl} {μ : Mu} {fin : List D → Mu → Prop} {α : Type} (xs : List α) (e : α → D) (s : Src it μ (xs.map e)) (hn : xs.length ≤ 1000000)
    (Inv : Nat → List D → Mu → Prop) (h0 : Inv 0 [] μ) (hok : ∀ i acc μ', Inv i acc μ' → it.ok μ')
    (step : ∀ i x acc μ', xs[i]? = some x → Inv i acc μ' → rg (e x) (wipeD δ vs) μ' fun δ2 μ2 => rt δ2 μ2 fun b μ3 => if b = true then re δ2 μ3 fun y μ4 => Inv (i + 1) (acc ++ [y]) μ4 else Inv (i + 1) acc μ3)
    (h : ∀ acc μ', Inv xs.length acc μ' → fin acc μ') : @rLcW it rg rt re vs δ μ fin := by
  have hl : it.n = xs.length := by rw [s.len, List.length_map]
  refine ⟨by rw [hl]; exact hn, Inv, h0, hok, fun i acc μ' d hi hd q => ?_, fun acc μ' q => h acc μ' (hl ▸ q)⟩
  obtain ⟨x, hx, rfl⟩ := s.get hi hd
  exact step i x acc μ' hx q
/-- the inner walk of two -/
theorem inW_map {it : DIt} {rg : RG} {rt : RT} {re : RE} {vs : List Nat} {δ : Sl} {μ : Mu} {acc0 : List D} {fin : List D → Mu → Prop} {α : Type} (xs : List α) (e g : α → D) (s : Src it μ (xs.map e)) (hn : acc0.length + xs.length < 1000000)
    (step : ∀ x ∈ xs, ∀ (kt : DK) (kf : Mu → Prop), kt (g x) μ → rg (e x) (wipeD δ vs) μ fun δ2 μ2 => rt δ2 μ2 fun b μ3 => if b = true then re δ2 μ3 kt else kf μ3)
    (h : fin (acc0 ++ xs.map g) μ) : @rInW it rg rt re vs δ μ acc0 fin := by
  refine ⟨fun i acc μ' => μ' = μ ∧ acc = acc0 ++ (xs.take i).map g, ⟨rfl, by simp⟩, fun i acc μ' q => ⟨q.1 ▸ s.ok, ?_⟩, fun i acc μ' d hi hd q => ?_, fun acc μ' q => ?_⟩
  · rw [q.2, List.length_append, List.length_map, List.length_take]
    omega
  · obtain ⟨rfl, rfl⟩ := q
    obtain ⟨x, hx, rfl⟩ := s.get hi hd
    refine step x (List.mem_of_getElem? hx) _ _ ⟨rfl, ?_⟩
    rw [take_succ_of hx, List.map_append]; simp
  · obtain ⟨rfl, rfl⟩ := q
    rw [s.len, List.length_map, List.take_length]
    exact h
theorem lc2_map {it : DIt} {rg : RG} {rt : RT} {ri1 : RI} {rg1 : RG} {rt1 : RT} {re : RE} {vs vs1 : List Nat} {δ : Sl} {μ : Mu} {fin : List D → Mu → Prop} {α : Type} (xs : List α) (e : α → D) (g : α → List D) (s : Src it μ (xs.map e)) (hn : xs.length ≤ 1000000)
    (step : ∀ x ∈ xs, ∀ (acc : List D) (kt : List D → Mu → Prop) (kf : Mu → Prop), (∃ i, acc = (xs.take i).flatMap g ∧ xs[i]? = some x) → kt (acc ++ g x) μ → rg (e x) (wipeD δ vs) μ fun δ2 μ2 => rt δ2 μ2 fun b μ3 => if b = true then ri1 δ2 μ3 fun it1 μ4 => @rInW it1 rg1 rt1 re vs1 δ2 μ4 acc kt else kf μ3)
    (h : fin (xs.flatMap g) μ) : @rLc2W it rg rt ri1 rg1 rt1 re vs vs1 δ μ fin := by
  refine ⟨by rw [s.len, List.length_map]; exact hn, fun i acc μ' => μ' = μ ∧ acc = (xs.take i).flatMap g, ⟨rfl, by simp⟩, fun i acc μ' q => q.1 ▸ s.ok, fun i acc μ' d hi hd q => ?_, fun acc μ' q => ?_⟩
  · obtain ⟨rfl, rfl⟩ := q
    obtain ⟨x, hx, rfl⟩ := s.get hi hd
    refine step x (List.mem_of_getElem? hx) _ _ _ ⟨i, rfl, hx⟩ ⟨rfl, ?_⟩
    rw [take_succ_of hx, List.flatMap_append]; simp
  · obtain ⟨rfl, rfl⟩ := q
    rw [s.len, List.length_map, List.take_length]
    exact h
/-- a for statement over known data -/
theorem for_inv {ri : RI} {rg : RG} {rb : RS} {DD : DEnds} {δ : Sl} {μ : Mu} {α : Type} (xs : List α) (e : α → D) (Inv : Nat → Sl → Mu → Prop)
    (s : ∀ k : DIt → Mu → Prop, (∀ it μ1, Src it μ1 (xs.map e) → Inv 0 δ μ1 → (∀ i δ μ, Inv i δ μ → it.ok μ) → k it μ1) → ri δ μ k)
    (step : ∀ i x δ μ, xs[i]? = some x → Inv i δ μ → rg (e x) δ μ fun δ2 μ2 => rb { nx := Inv (i + 1), ct := Inv (i + 1), bk := DD.nx, rt := DD.rt } δ2 μ2)
    (h : ∀ δ μ, Inv xs.length δ μ → DD.nx δ μ) : rFor ri rg rb DD δ μ := by
  refine s _ fun it μ1 sr h0 hok => ⟨Inv, h0, hok, fun i δ μ d hi hd q => ?_, fun δ μ q => h δ μ ?_⟩
  · obtain ⟨x, hx, rfl⟩ := sr.get hi hd
    exact step i x δ μ hx q
  · have hl : it.n = xs.length := by rw [sr.len, List.length_map]
    exact hl ▸ q
theorem forW_inv {rg : RG} {rb : RS} {DD : DEnds} {δ : Sl} {μ1 : Mu} {it : DIt} {α : Type} (xs : List α) (e : α → D) (sr : Src it μ1 (xs.map e)) (Inv : Nat → Sl → Mu → Prop) (h0 : Inv 0 δ μ1) (hok : ∀ i δ μ, Inv i δ μ → it.ok μ)
    (step : ∀ i x δ μ, xs[i]? = some x → Inv i δ μ → rg (e x) δ μ fun δ2 μ2 => rb { nx := Inv (i + 1), ct := Inv (i + 1), bk := DD.nx, rt := DD.rt } δ2 μ2)
    (h : ∀ δ μ, Inv xs.length δ μ → DD.nx δ μ) : rForW it rg rb DD δ μ1 := by
  refine ⟨Inv, h0, hok, fun i δ μ d hi hd q => ?_, fun δ μ q => h δ μ ?_⟩
  · obtain ⟨x, hx, rfl⟩ := sr.get hi hd
    exact step i x δ μ hx q
  · have hl : it.n = xs.length := by rw [sr.len, List.length_map]
    exact hl ▸ q
/-! ### equality of data -/
structure Cm {α : Type} [DecidableEq α] (e : α → D) (q : α → PyData) (n : Nat) : Prop where
  py : ∀ x, toPy (e x) = some (q x)
  own : ∀ x p, e x ≠ .own p
  eqv : ∀ x y, PyData.eqv (q x) (q y) = decide (x = y)
  lay : ∀ x, (q x).canLay0 = true
  dep : ∀ x, (q x).depth ≤ n
section
variable {α : Type} [DecidableEq α] {e : α → D} {q : α → PyData} {n : Nat}
theorem Cm.int : Cm D.int PyData.int 0 := ⟨fun _ => rfl, fun _ _ h => (by cases h), fun x y => by simp only [PyData.eqv]; rfl, fun _ => rfl, fun _ => Nat.le_refl _⟩
theorem Cm.bl : Cm D.bl PyData.bool 0 := ⟨fun _ => rfl, fun _ _ h => (by cases h), fun x y => by cases x <;> cases y <;> rfl, fun _ => rfl, fun _ => Nat.le_refl _⟩
theorem Cm.pyL (c : Cm e q n) : ∀ xs : List α, toPyL (xs.map e) = some (xs.map q)
  | [] => rfl
  | x :: xs => by
    simp only [List.map_cons]
    unfold toPyL
    rw [c.py x, Cm.pyL c xs]
theorem Cm.eqvAll (c : Cm e q n) : ∀ xs ys : List α, PyData.eqvAll (xs.map q) (ys.map q) = decide (xs = ys)
  | [], [] => rfl
  | [], y :: ys => by simp [PyData.eqvAll]
  | x :: xs, [] => by simp [PyData.eqvAll]
  | x :: xs, y :: ys => by
    simp only [List.map_cons, PyData.eqvAll]
    rw [c.eqv, Cm.eqvAll c xs ys, Bool.eq_iff_iff]
    simp
theorem Cm.layAll (c : Cm e q n) : ∀ xs : List α, PyData.canLayAll0 (xs.map q) = true
  | [] => rfl
  | x :: xs => by simp only [List.map_cons, PyData.canLayAll0, c.lay x, Cm.layAll c xs]; rfl
theorem Cm.depAll (c : Cm e q n) : ∀ xs : List α, PyData.depthAll (xs.map q) ≤ n
  | [] => by simp [PyData.depthAll]
  | x :: xs => by
    have h1 := c.dep x
    have h2 := Cm.depAll c xs
    simp only [List.map_cons, PyData.depthAll]
    omega
theorem Cm.tup (c : Cm e q n) : Cm (fun xs : List α => D.tup (xs.map e)) (fun xs => PyData.tuple (xs.map q)) (n + 1) :=
  ⟨fun xs => by unfold toPy; rw [c.pyL], fun _ _ h => (by cases h), fun xs ys => by simp only [PyData.eqv]; exact c.eqvAll xs ys, fun xs => by simp only [PyData.canLay0]; exact c.layAll xs, fun xs => by simp only [PyData.depth]; have := c.depAll xs; omega⟩
theorem Cm.lst (c : Cm e q n) : Cm (fun xs : List α => D.lst (xs.map e)) (fun xs => PyData.list (xs.map q)) (n + 1) :=
  ⟨fun xs => by unfold toPy; rw [c.pyL], fun _ _ h => (by cases h), fun xs ys => by simp only [PyData.eqv]; exact c.eqvAll xs ys, fun xs => by simp only [PyData.canLay0]; exact c.layAll xs, fun xs => by simp only [PyData.depth]; have := c.depAll xs; omega⟩
/-- the data d is what x stands for, an own list too -/
theorem Cm.as (c : Cm e q n) (μ : Mu) (x : α) : asPy μ (e x) = some (q x) := by
  unfold asPy
  split
  · rename_i p h; exact absurd h (c.own x p)
  · exact c.py x
theorem Cm.asO (c : Cm e q n) {μ : Mu} {p : Addr} {xs : List α} (h : μ p = some (.l (xs.map e))) : asPy μ (.own p) = some (.list (xs.map q)) := by
  unfold asPy
  simp only [lsAt_of h, c.pyL]
theorem Cm.sh (c : Cm e q n) (x : α) (hn : n ≤ 64) : SeqAt.shaped (q x) = true := by
  unfold SeqAt.shaped
  rw [c.lay x]
  have := c.dep x
  simp; omega
theorem Cm.toEq (c : Cm e q n) {a b : D} {x y : α} {μ : Mu} {k : DK} (h1 : asPy μ a = some (q x)) (h2 : asPy μ b = some (q y)) (hn : n ≤ 64) (h : k (.bl (decide (x = y))) μ) : oEq a b μ k :=
  ⟨_, _, h1, h2, c.sh x hn, c.sh y hn, by rw [c.eqv]; exact h⟩
theorem Cm.toNe (c : Cm e q n) {a b : D} {x y : α} {μ : Mu} {k : DK} (h1 : asPy μ a = some (q x)) (h2 : asPy μ b = some (q y)) (hn : n ≤ 64) (h : k (.bl (!decide (x = y))) μ) : oNe a b μ k :=
  ⟨_, _, h1, h2, c.sh x hn, c.sh y hn, by rw [c.eqv]; exact h⟩
end
/-- tuples of unlike things -/
structure CmL {α : Type} [DecidableEq α] (e : α → List D) (q : α → List PyData) (n : Nat) : Prop where
  py : ∀ x, toPyL (e x) = some (q x)
  eqv : ∀ x y, PyData.eqvAll (q x) (q y) = decide (x = y)
  lay : ∀ x, PyData.canLayAll0 (q x) = true
  dep : ∀ x, PyData.depthAll (q x) ≤ n
theorem CmL.nil : CmL (fun _ : Unit => []) (fun _ => []) 0 := ⟨fun _ => rfl, fun _ _ => rfl, fun _ => rfl, fun _ => by simp [PyData.depthAll]⟩
theorem CmL.cons {α β : Type} [DecidableEq α] [DecidableEq β] {e : α → D} {q : α → PyData} {e2 : β → List D} {q2 : β → List PyData} {n m : Nat} (c : Cm e q n) (d : CmL e2 q2 m) : CmL (fun t : α × β => e t.1 :: e2 t.2) (fun t => q t.1 :: q2 t.2) (max n m) := by
  refine ⟨fun x => ?_, fun x y => ?_, fun x => ?_, fun x => ?_⟩
  · unfold toPyL; rw [c.py, d.py]
  · simp only [PyData.eqvAll]; rw [c.eqv, d.eqv, Bool.eq_iff_iff]; simp [Prod.ext_iff]
  · simp only [PyData.canLayAll0, c.lay, d.lay]; rfl
  · simp only [PyData.depthAll]; have := c.dep x.1; have := d.dep x.2; omega
theorem CmL.tup {α : Type} [DecidableEq α] {e : α → List D} {q : α → List PyData} {n : Nat} (c : CmL e q n) : Cm (fun x => D.tup (e x)) (fun x => PyData.tuple (q x)) (n + 1) :=
  ⟨fun xs => by unfold toPy; rw [c.py], fun _ _ h => (by cases h), fun xs ys => by simp only [PyData.eqv]; exact c.eqv xs ys, fun xs => by simp only [PyData.canLay0]; exact c.lay xs, fun xs => by simp only [PyData.depth]; have := c.dep xs; omega⟩
theorem CmL.lst {α : Type} [DecidableEq α] {e : α → List D} {q : α → List PyData} {n : Nat} (c : CmL e q n) : Cm (fun x => D.lst (e x)) (fun x => PyData.list (q x)) (n + 1) :=
  ⟨fun xs => by unfold toPy; rw [c.py], fun _ _ h => (by cases h), fun xs ys => by simp only [PyData.eqv]; exact c.eqv xs ys, fun xs => by simp only [PyData.canLay0]; exact c.lay xs, fun xs => by simp only [PyData.depth]; have := c.dep xs; omega⟩
theorem py_int {i : Int} {μ : Mu} : asPy μ (.int i) = some (.int i) := Cm.int.as μ i
@[simp] theorem oEq_int {i j : Int} {μ : Mu} {k : DK} : @hEq (.int i) (.int j) μ k ↔ k (.bl (decide (i = j))) μ := by
  refine ⟨fun ⟨a, b, h1, h2, _, _, q⟩ => ?_, fun h => Cm.int.toEq (Cm.int.as μ i) (Cm.int.as μ j) (by decide) h⟩
  rw [py_int] at h1 h2; cases h1; cases h2
  rw [Cm.int.eqv] at q; exact q
@[simp] theorem oNe_int {i j : Int} {μ : Mu} {k : DK} : @hNe (.int i) (.int j) μ k ↔ k (.bl (!decide (i = j))) μ := by
  refine ⟨fun ⟨a, b, h1, h2, _, _, q⟩ => ?_, fun h => Cm.int.toNe (Cm.int.as μ i) (Cm.int.as μ j) (by decide) h⟩
  rw [py_int] at h1 h2; cases h1; cases h2
  rw [Cm.int.eqv] at q; exact q
theorem all_of {α : Type} {f : α → Bool} {xs : List α} {d : D} {μ : Mu} {k : DK} (hd : asL μ d = some (xs.map fun x => .bl (f x))) (h : k (.bl (xs.all f)) μ) : oAll [d] μ k := by
  refine ⟨xs.map f, by rw [hd, List.map_map]; rfl, ?_⟩
  have : (xs.map f).all id = xs.all f := by rw [List.all_map]; rfl
  rw [this]; exact h
theorem any_of {α : Type} {f : α → Bool} {xs : List α} {d : D} {μ : Mu} {k : DK} (hd : asL μ d = some (xs.map fun x => .bl (f x))) (h : k (.bl (xs.any f)) μ) : oAny [d] μ k := by
  refine ⟨xs.map f, by rw [hd, List.map_map]; rfl, ?_⟩
  have : (xs.map f).any id = xs.any f := by rw [List.any_map]; rfl
  rw [this]; exact h
theorem sum_of {α : Type} {f : α → Int} {xs : List α} {d : D} {μ : Mu} {k : DK} (hd : asL μ d = some (xs.map fun x => .int (f x))) (h : k (.int (xs.map f).sum) μ) : oSum [d] μ k :=
  ⟨xs.map f, by rw [hd, List.map_map]; rfl, h⟩
@[simp] theorem kitB_int : kitB "int" "int" = some true := by decide +kernel
@[simp] theorem kitB_intb : kitB "int" "bool" = some false := by decide +kernel
@[simp] theorem kitB_tup : kitB "tuple" "tuple" = some true := by decide +kernel
theorem py_str {x : Str} {μ : Mu} : asPy μ (.str x) = some (.str x) := rfl
theorem oNe_str {x y : Str} {μ : Mu} {k : DK} (hx : PyData.strOk x = true) (hy : PyData.strOk y = true) (h : k (.bl (!decide (x = y))) μ) : oNe (.str x) (.str y) μ k :=
  ⟨_, _, py_str, py_str, by simp [SeqAt.shaped, PyData.canLay0, hx, PyData.depth], by simp [SeqAt.shaped, PyData.canLay0, hy, PyData.depth], by
    have e : PyData.eqv (.str x) (.str y) = decide (x = y) := by simp only [PyData.eqv]; rw [Bool.eq_iff_iff]; simp
    rw [e]; exact h⟩
theorem oEq_str {x y : Str} {μ : Mu} {k : DK} (hx : PyData.strOk x = true) (hy : PyData.strOk y = true) (h : k (.bl (decide (x = y))) μ) : oEq (.str x) (.str y) μ k :=
  ⟨_, _, py_str, py_str, by simp [SeqAt.shaped, PyData.canLay0, hx, PyData.depth], by simp [SeqAt.shaped, PyData.canLay0, hy, PyData.depth], by
    have e : PyData.eqv (.str x) (.str y) = decide (x = y) := by simp only [PyData.eqv]; rw [Bool.eq_iff_iff]; simp
    rw [e]; exact h⟩
theorem Sub.refl (μ : Mu) : Sub μ μ := fun _ _ h => h
theorem Sub.set {μ : Mu} {p : Addr} {ds : Cnt} (h : μ p = none) : Sub μ (muSet μ p ds) := fun q es e => by
  rw [muSet_ne (fun z => by subst z; rw [h] at e; cases e)]; exact e
theorem Sub.trans {a b c : Mu} (h : Sub a b) (h' : Sub b c) : Sub a c := fun p ds e => h' p ds (h p ds e)
theorem Sub.up {μ μ' : Mu} {p : Addr} {ds : Cnt} (h : Sub μ μ') (hp : μ' p = none) : Sub μ (muSet μ' p ds) := Sub.trans h (Sub.set hp)
theorem Sub.upd {μ μ' : Mu} {p : Addr} {ds : Cnt} (h : Sub μ μ') (hp : μ p = none) : Sub μ (muSet μ' p ds) := fun q es e => by
  rw [muSet_ne (fun z => by subst z; rw [hp] at e; cases e)]; exact h q es e
theorem Sub.non {μ μ' : Mu} {p : Addr} (h : Sub μ μ') (hp : μ' p = none) : μ p = none := by
  cases e : μ p with
  | none => rfl
  | some d => rw [h p d e] at hp; cases hp
theorem Sub.del {μ μ' : Mu} {p : Addr} (h : Sub μ μ') (hp : μ p = none) : Sub μ (muDel μ' p) := fun q es e => by
  rw [muDel_ne (fun z => by subst z; rw [hp] at e; cases e)]; exact h q es e
theorem Sub.setBoth {μ μ' : Mu} {p : Addr} {a b : Cnt} (h : Sub (muSet μ p a) μ') : Sub (muSet μ p b) (muSet μ' p b) := fun q es e => by
  by_cases hq : q = p
  · subst hq; rw [muSet_same] at e ⊢; exact e
  · rw [muSet_ne hq] at e ⊢; exact h q es (by rw [muSet_ne hq]; exact e)
theorem Sub.at_ {μ μ' : Mu} {p : Addr} {a : Cnt} (h : Sub (muSet μ p a) μ') : μ' p = some a := h p a muSet_same
/-- one statement at a time: what follows stands under a name -/
theorem seq_gen {r s : RS} {DD : DEnds} {δ : Sl} {μ : Mu} (h : ∀ NX : Sl → Mu → Prop, NX = s DD → r { DD with nx := NX } δ μ) : rSeq r s DD δ μ := h _ rfl
end DL


set_option Elab.async false
set_option linter.all false
set_option maxRecDepth 100000
set_option maxHeartbeats 4000000
/-! DLo: own ==, != with any right side, str(x) of an instance with __str__, a slot as a target. -/
namespace DL
open PySem PySem.Spec PyProof.Rows L2 SlX
open Builtin Builtin.Str
section
variable {prog : Program} {w : World} {A : Around} {E : Value → Shared → Prop} {s : Shared} {K : PySem.W.Frag} {x C f : Addr} {ox : Obj} {od : Option Obj} {b tb : Value}
theorem ne_slot : Slot "object" "__ne__" "object.__ne__" := Slot.of (T := "object") (name := "__ne__") (owner := "object") (n := "__ne__") (by rw [typeLookup_type, builtinLookup_eq_fast]; kernel_rfl) (by decide +kernel) (by decide +kernel) (by decide +kernel)
    (.inl (by decide +kernel)) (by rw [isSubtype_type]; kernel_rfl)
theorem ne_entry (X : K.In s.heap) (I : PySem.W.InstAt s.heap x ox C od) (he : PySem.W.findIn K (.ref C) "__eq__" = some (some (.ref f))) (hf : PySem.W.isFn K (.ref f) = true) (hu : A.units < cLine) {Q : Fin → Shared → Prop}
    (h : wpAny (model prog w) A (call (.ref f) [.ref x, b]) (fun v s' => ∃ c, v = .bool c ∧ Q (.done (.ret (.bool (!c)))) s') E s) : wpAny (model prog w) A (Builtin.«object.__ne__» ⟨[.ref x, b], []⟩) Q E s := by
  unfold Builtin.«object.__ne__»
  repeat (first
    | with_reducible refine wpAny_cRoomFor hu ?_
    | (refine wpAny_bind (m := callSpecialIfBound? (.ref x) (Str.ofString "__eq__") [b])
        (PySem.W.ifBound_K X I he hf (wpAny_mono h (fun r s' hr => by
          obtain ⟨c, rfl, hq⟩ := hr
          repeat (first | exact hq | exact wpAny_pure hq | exact wpAny_truthy_bool hq | (refine wpAny_bind (m := truthy (.bool _)) (wpAny_truthy_bool ?_)) | wp_step)) fun _ _ e => e)))
    | wp_step)
theorem ifBound_ne {M : Model} {args : List Value} {Q : Option Value → Shared → Prop} (X : K.In s.heap) (I : PySem.W.InstAt s.heap x ox C od) (hs : PySem.W.findIn K (.ref C) "__ne__" = some (some (.builtin "object.__ne__")))
    (h : wpAny M A (call (.builtin "object.__ne__") (.ref x :: args)) (fun v => Q (some v)) E s) : wpAny M A (callSpecialIfBound? (.ref x) "__ne__" args) Q E s := by
  simp only [callSpecialIfBound?, bindSpecialIfBound?]
  refine wpAny_holding (wpAny_bind (wpAny_bind (wpAny_bind (I.type.here ((PySem.W.looks_findIn X hs).here ?_)))))
  simp only [ne_slot.bind]
  refine wpAny_bind (wpAny_askSetting (wpAny_ite ?_))
  have fin : wpAny M A (call (.builtin "object.__ne__") ([.ref x] ++ args) >>= fun v => pure (some v)) Q E s := wpAny_bind (wpAny_mono h (fun v s' h' => wpAny_pure h') fun _ _ h' => h')
  split
  · exact wpAny_bind (wpAny_pure (wpAny_pure fin))
  · exact wpAny_tryCatch (wpAny_bind (wpAny_pure (wpAny_pure fin)))
theorem ne_K {Q : Value → Shared → Prop} (hu : A.units + 1 < cLine) (X : K.In s.heap) (I : PySem.W.InstAt s.heap x ox C od) (hb : PySem.W.Looks (model prog w) s.heap (typeOf b) tb) (hn : PySem.W.notFirst K C tb = true)
    (hs : PySem.W.findIn K (.ref C) "__ne__" = some (some (.builtin "object.__ne__"))) (he : PySem.W.findIn K (.ref C) "__eq__" = some (some (.ref f))) (hf : PySem.W.isFn K (.ref f) = true) (ho : PySem.W.mroIn K C (.type "object") = some true)
    (h : wpAny (model prog w) A.in1 (call (.ref f) [.ref x, b]) (fun v s' => ∃ c, v = .bool c ∧ Q (.bool (!c)) s') E s) : wpAny (model prog w) A (richCompare .NotEq (.ref x) b) Q E s := by
  have one : wpAny (model prog w) A (tryCompare (.ref x) "__ne__" b) (fun r s' => ∃ v, r = some v ∧ Q v s') E s := by
    unfold tryCompare
    refine wpAny_bind (ifBound_ne X I hs (wpAny_call (codeAny_call_builtin ne_slot.plain F.cmpEntry_ne (PySem.W.check_slot F.cmpKind_ne F.cmpSplit_ne (I.type.andThen (PySem.W.looks_mroIn X ho)) (F.cmpArgs_ne _ _)
      (ne_entry (A := A.in1) X I he hf hu (wpAny_mono h (fun v s' hv => ?_) fun _ _ e => e))))))
    obtain ⟨c, rfl, hq⟩ := hv
    first | exact ⟨c, rfl, wpAny_pure ⟨_, rfl, hq⟩⟩ | exact ⟨c, rfl, wpAny_pure (wpAny_pure ⟨_, rfl, hq⟩)⟩
  unfold richCompare
  simp only [oneThing_ref]
  refine wpAny_holding (wpAny_bind (wpAny_cRoomFor (Nat.lt_of_succ_lt hu) ?_))
  rw [cmpInfo_NotEq]
  dsimp only
  refine wpAny_bind (I.type.here (wpAny_bind (hb.here ?_)))
  split
  · rename_i q
    have e : PySem.W.subIn K tb (.ref C) = some false := by
      rcases Bool.or_eq_true_iff.mp hn with e | e
      · rw [beq_iff_eq.mp e] at q; simp at q
      · exact beq_iff_eq.mp e
    refine wpAny_bind ((PySem.W.looks_subIn X e).here ?_)
    simp only [Bool.false_eq_true, if_false]
    refine wpAny_bind (wpAny_mono one (fun r s' z => ?_) fun _ _ e => e)
    obtain ⟨v, rfl, hq⟩ := z
    exact wpAny_pure hq
  · refine wpAny_bind (wpAny_pure ?_)
    simp only [Bool.false_eq_true, if_false]
    refine wpAny_bind (wpAny_mono one (fun r s' z => ?_) fun _ _ e => e)
    obtain ⟨v, rfl, hq⟩ := z
    exact wpAny_pure hq
/-- str(x) of an instance with a __str__ that hands out a str -/
theorem str_own {Q : Value → Shared → Prop} (X : K.In s.heap) (I : PySem.W.InstAt s.heap x ox C od) (hs : PySem.W.findIn K (.ref C) "__str__" = some (some (.ref f))) (hf : PySem.W.isFn K (.ref f) = true) (hu : A.in1.in1.units < cLine)
    (h : wpAny (model prog w) A.in1.in1 (call (.ref f) [.ref x]) (fun r s₁ => ∃ y u, r = Value.str y u ∧ Q r s₁) E s) : wpAny (model prog w) A (call (.type "str") [.ref x]) Q E s := by
  refine callType_codes (T := "str") (Bi := Builtin.«object.__init__») (Q₁ := fun r s₁ => ∃ y u, r = Value.str y u ∧ Q r s₁) PySem.F.called_str (PySem.F.typeCall_str_1 _) PySem.F.entry_object_init ?_ ?_
  · refine codeAny_of_tree ?_
    show wpAny _ A.in1.in1 (do checkBuiltinCall "str.__new__" ⟨[.type "str", .ref x], []⟩; again (.builtin "str.__new__" ⟨[.type "str", .ref x], []⟩)) _ _ s
    refine wpAny_bind (wpAny_of_eq (PySem.F.newCall_str_1 _) (wpAny_pure ⟨plainId_quiet (by decide +kernel) _, codeAny_builtin PySem.F.entry_str_new ?_⟩))
    rw [Around.under_plainId (by decide +kernel) _]
    rw [str_new_tree]
    refine wpAny_bind (wpAny_pure ?_)
    refine wpAny_bind (wpAny_of_eq isSubtype_str_str ?_)
    refine wpAny_bind ?_
    unfold Builtin.Str.strOf
    rw [show isExactStr (.ref x) = false from rfl]
    simp only [Bool.false_eq_true, if_false]
    refine wpAny_bind (wpAny_cRoomFor hu ?_)
    refine wpAny_bind (m := callSpecial? (.ref x) (Str.ofString "__str__")) (PySem.W.special_fn X I hs (beq_iff_eq.mp hf) (wpAny_mono h (fun r s' hr => ?_) fun _ _ y => y))
    obtain ⟨y, u, rfl, hq⟩ := hr
    exact wpAny_bind (wpAny_pure (wpAny_pure (wpAny_pure ⟨y, u, rfl, hq⟩)))
  · rintro obj s₁ ⟨y, u, rfl, hq⟩
    exact ⟨typeIs_str _ _ _, PySem.F.args_object_init_2 _ _, object_init_meets PySem.F.called_str.init.lookup PySem.F.called_str.made (by decide) prog w A.in1 _ s₁ ⟨typeIs_str _ _ _, rfl, hq⟩⟩
end
end DL


set_option Elab.async false
set_option linter.all false
set_option maxRecDepth 100000
set_option maxHeartbeats 4000000
/-! DLp: own classes with slots over data: made, compared, asked, told. -/
namespace DL
open PySem PySem.Spec PyProof.Rows L2 SlX

/-- any value's class, an instance with slots too -/
def TyA (K : PySem.W.Frag) (H : Hp) (y : V) (t : Value) : Prop := TyX K H y t ∨ ∃ b C' dy ws, y = .ref b ∧ Slt H b C' dy ws ∧ t = .ref C'
/-- what of the text a class with its own == must have -/
structure Cmp (K : PySem.W.Frag) (C : Addr) : Prop where
  cls : SCls K C
  isi : SIsi K C
  nNon : PySem.W.notFirst K C (.type "NoneType") = true
  nInt : PySem.W.notFirst K C (.type "int") = true
  nTup : PySem.W.notFirst K C (.type "tuple") = true
  kNon : PySem.W.kitOne K (.type "NoneType") (.ref C) = some false
  kInt : PySem.W.kitOne K (.type "int") (.ref C) = some false
  kTup : PySem.W.kitOne K (.type "tuple") (.ref C) = some false
  kOwn : PySem.W.kitOne K (.ref C) (.ref C) = some true
  ne : PySem.W.findIn K (.ref C) "__ne__" = some (some (.builtin "object.__ne__"))
/-- a special def of the class, and its promise -/
structure SpD (P : Program) (w : World) (K : PySem.W.Frag) (mg : Str → Option Value) (base : Heap) (C : Addr) (m : Str) (n : Nat) (dsp : DSp) : Prop where
  ex : ∃ g : Addr, PySem.W.findIn K (.ref C) m = some (some (.ref g)) ∧ PySem.W.isFn K (.ref g) = true ∧ FnR P w K mg base CX0 n g (spOf K dsp)
/-- a class that may be made by its name; sp: its __init__ -/
structure MakD (P : Program) (w : World) (K : PySem.W.Frag) (mg : Str → Option Value) (base : Heap) (k : Nat) (x : Str) (C : Addr) (sp : Sp) : Prop where
  ex : ∃ (f : Addr) (fd : FuncData) (ps : List Str), Mk K C f ∧ FnOk P w K mg base CX0 k f fd ps sp ∧ mg x = some (.ref C) ∧ Binds K fd ps []
def rEqA (K : PySem.W.Frag) (C : Addr) (sp : Sp) : R2 := fun x y H Q => ∃ a dx vs t, x = .ref a ∧ Slt H a C dx vs ∧ TyA K H y t ∧ PySem.W.notFirst K C t = true ∧ sp [x, y] H Q E0
def rNeA (K : PySem.W.Frag) (C : Addr) (sp : Sp) : R2 := fun x y H Q => ∃ a dx vs t, x = .ref a ∧ Slt H a C dx vs ∧ TyA K H y t ∧ PySem.W.notFirst K C t = true ∧ sp [x, y] H (fun z H' => ∃ c, z = .bl c ∧ Q (.bl (!c)) H') E0
section
variable {X : Cx} {C g : Addr} {n : Nat} {sp : Sp}
theorem looks_A {pins : List (Addr × Obj)} {σ : L2.St} {H : Hp} {s : Shared} {y : V} {u t : Value} (I : Inv X pins σ H s) (ry : RelV y u) (h : TyA X.K H y t) : PySem.W.Looks (model X.prog X.w) s.heap (typeOf u) t := by
  rcases h with h | ⟨b, C', dy, ws, rfl, hs, rfl⟩
  · obtain ⟨P, kx, hp, _⟩ := kit_of I ry h
    exact kx.ty _ _ I.kIn hp
  · cases (show u = Value.ref b from ry)
    obtain ⟨sl', od', _, J', _⟩ := slt_inst I hs
    exact J'.type
theorem op_eqA (hs : PySem.W.findIn X.K (.ref C) "__eq__" = some (some (.ref g))) (hf : PySem.W.isFn X.K (.ref g) = true) (F : FnR X.prog X.w X.K X.mg X.base CX0 n g sp) (hr : Room n X.A) : OpR X (compareOp .Eq) (rEqA X.K C sp) := by
  intro pins s σ H x y v u Q I rx ry h
  obtain ⟨a, dx, vs, t, rfl, ha, ht, hn, q⟩ := h
  cases (show v = Value.ref a from rx)
  obtain ⟨sl, od, _, J, _⟩ := slt_inst I ha
  obtain ⟨m, hF⟩ := I.fr
  show wpAny _ _ (richCompare .Eq _ _) _ _ _
  refine PySem.W.cmp_K (op := .Eq) (tb := t) hr.units0 hF I.ok.mod.kin J (looks_A I ry ht) hn hs hf ?_
  refine wpAny_mono (wpAny_call (run_fnR (us := [.ref a, u]) (vs := [.ref a, y]) F hr pass0 I (.cons rfl (.cons ry .nil)) q)) (fun w s' z => ?_) fun _ _ x => x
  obtain ⟨z', H', I', rz, qz⟩ := z
  exact cmpback rz ⟨z', H', I', rz, qz⟩
theorem op_neA (hs : PySem.W.findIn X.K (.ref C) "__eq__" = some (some (.ref g))) (hf : PySem.W.isFn X.K (.ref g) = true) (hne : PySem.W.findIn X.K (.ref C) "__ne__" = some (some (.builtin "object.__ne__"))) (ho : PySem.W.mroIn X.K C (.type "object") = some true)
    (F : FnR X.prog X.w X.K X.mg X.base CX0 n g sp) (hr : Room (n + 1) X.A) : OpR X (compareOp .NotEq) (rNeA X.K C sp) := by
  intro pins s σ H x y v u Q I rx ry h
  obtain ⟨a, dx, vs, t, rfl, ha, ht, hn, q⟩ := h
  cases (show v = Value.ref a from rx)
  obtain ⟨sl, od, _, J, _⟩ := slt_inst I ha
  show wpAny _ _ (richCompare .NotEq _ _) _ _ _
  refine ne_K (tb := t) (by have := hr.units; omega) I.kIn J (looks_A I ry ht) hn hne hs hf ho ?_
  refine wpAny_mono (wpAny_call (run_at (us := [.ref a, u]) (ws := [.ref a, y]) F hr.in1 I.env0.in1 pass0 I (.cons rfl (.cons ry .nil)) q)) (fun w s' z => ?_) fun _ _ x => x
  obtain ⟨z', H', I', rz, c, rfl, qz⟩ := z
  cases (show w = Value.bool c from rz)
  exact ⟨c, rfl, .bl (!c), H', I', rfl, qz⟩
def rStrA (C : Addr) (sp : Sp) : List V → Hp → VK → Prop := fun xs H Q => ∃ a dx vs, xs = [V.ref a] ∧ Slt H a C dx vs ∧ sp [.ref a] H (fun z H' => ∃ y, z = .str y ∧ Q z H') E0
theorem call_strA (hs : PySem.W.findIn X.K (.ref C) "__str__" = some (some (.ref g))) (hf : PySem.W.isFn X.K (.ref g) = true) (F : FnR X.prog X.w X.K X.mg X.base CX0 n g sp) (hr : Room (n + 2) X.A) : CallR X (.type "str") (rStrA C sp) := by
  intro pins s σ H xs us Q I r h
  obtain ⟨a, dx, vs, rfl, hsl, q⟩ := h
  obtain ⟨u, rfl, ru⟩ := r.one
  cases (show u = Value.ref a from ru)
  obtain ⟨sl, od, _, J, _⟩ := slt_inst I hsl
  have hr2 : Room n X.A.in1.in1 := (show Room (n + 1) X.A.in1 from Room.in1 hr).in1
  refine str_own I.kIn J hs hf hr2.units0 (wpAny_mono (wpAny_call (run_at (us := [.ref a]) (ws := [.ref a]) F hr2 I.env0.in1.in1 pass0 I (.cons rfl .nil) q)) (fun w s' z => ?_) fun _ _ x => x)
  obtain ⟨z', H', I', rz, y, ey, qz⟩ := z
  subst ey
  obtain ⟨t, e⟩ := (show ∃ t, w = Value.str y t from rz)
  cases e
  exact ⟨y, t, rfl, .str y, H', I', ⟨t, rfl⟩, qz⟩
theorem cr_or {f : Value} {r r' : List V → Hp → VK → Prop} (h : CallR X f r) (h' : CallR X f r') : CallR X f (fun xs H Q => r xs H Q ∨ r' xs H Q) := fun pins s σ H xs us Q I rr q => by
  rcases q with q | q
  · exact h pins s σ H xs us Q I rr q
  · exact h' pins s σ H xs us Q I rr q
/-- o.f = .. among other targets, a slot -/
def gSlA (K : PySem.W.Frag) (to : TE) (f : Str) : TG := fun v σ H Q => to σ H fun x H1 => ∃ a C dx p vs i, x = .ref a ∧ Slt H1 a C dx vs ∧ SCls K C ∧ Slot1 K C f p i ∧ Q σ (slH H1 a C dx (putS i v vs))
theorem pg_slA {o : Expr} {f : Str} {pos : Pos} {to : TE} (ho : PE X o to) : PG X (.Attribute o f pos) (gSlA X.K to f) := by
  refine ⟨fun pins s σ H v u Q I r h => ?_⟩
  rw [assign_Attribute]
  refine wpAny_bind (wpAny_holding (thn (ho.run pins s σ H _ I h) fun ov s1 ⟨x, H1, I1, r1, q1⟩ => ?_))
  obtain ⟨a, C, dx, p, vs, i, ex, hsl, c, t, q2⟩ := q1
  subst ex
  obtain rfl : ov = Value.ref a := r1
  refine wpAny_bind (wpAny_standAt (wpAny_bind (wpAny_holding (setslot_ok I1 hsl c t r fun s3 I3 => ?_))))
  exact wpAny_release ⟨σ, _, I3, q2⟩
end

/-! ### readings over data -/
section
variable {K : PySem.W.Frag} {C : Addr}
/-- what == may meet on its right side -/
def okR (C : Addr) : D → Prop
  | .obj C' _ => C' = C
  | .non => True
  | .int _ => True
  | .tup _ => True
  | _ => False
def isObj : D → Bool
  | .obj _ _ => true
  | _ => false
@[simp] theorem okR_obj {C' : Addr} {ds : List D} : okR C (.obj C' ds) ↔ C' = C := Iff.rfl
@[simp] theorem okR_non : okR C .non := trivial
@[simp] theorem okR_int {i : Int} : okR C (.int i) := trivial
@[simp] theorem okR_tup {ds : List D} : okR C (.tup ds) := trivial
@[simp] theorem isObj_obj {ds : List D} : isObj (.obj C ds) = true := rfl
theorem okR_out {μ : Mu} {G H : Hp} {y : V} {d : D} (c : Cmp K C) (w : Wd K G H μ) (r : Rep K G y d) (h : okR C d) : ∃ t, TyA K H y t ∧ PySem.W.notFirst K C t = true := by
  cases r with
  | non => exact ⟨_, .inl (tyN_out w .non rfl), c.nNon⟩
  | int i => exact ⟨_, .inl (tyN_out w (.int i) rfl), c.nInt⟩
  | tup h1 h2 => exact ⟨_, .inl (tyN_out w (.tup h1 h2) rfl), c.nTup⟩
  | obj h1 h2 =>
    have h : _ = C := h
    subst h
    exact ⟨_, .inr ⟨_, _, _, _, rfl, w.ex.slt h1, rfl⟩, by unfold PySem.W.notFirst; simp⟩
  | _ => exact h.elim
@[simp] def oEqC (C : Addr) (dsp : DSp) : F2 := fun x y μ k => (match x with | .obj C' _ => C' = C | _ => False) ∧ okR C y ∧ @dCall dsp [x, y] μ k
@[simp] def oNeC (C : Addr) (dsp : DSp) : F2 := fun x y μ k => (match x with | .obj C' _ => C' = C | _ => False) ∧ okR C y ∧ @dCall dsp [x, y] μ fun d μ' => asB d fun c => k (.bl (!c)) μ'
theorem okEqC {dsp : DSp} (c : Cmp K C) : OkOp K (rEqA K C (spOf K dsp)) (oEqC C dsp) := fun x y a b μ G H k Q w rx ry ⟨hx, hy, q⟩ th => by
  obtain ⟨t, ht, hn⟩ := okR_out c w ry hy
  cases rx with
  | obj h1 h2 =>
    have hx : _ = C := hx
    subst hx
    exact ⟨_, _, _, t, rfl, w.ex.slt h1, ht, hn, _, μ, G, k, w, .cons (.obj h1 h2) (.cons ry .nil), q, th⟩
  | _ => exact hx.elim
theorem okNeC {dsp : DSp} (c : Cmp K C) : OkOp K (rNeA K C (spOf K dsp)) (oNeC C dsp) := fun x y a b μ G H k Q w rx ry ⟨hx, hy, q⟩ th => by
  obtain ⟨t, ht, hn⟩ := okR_out c w ry hy
  cases rx with
  | obj h1 h2 =>
    have hx : _ = C := hx
    subst hx
    refine ⟨_, _, _, t, rfl, w.ex.slt h1, ht, hn, _, μ, G, _, w, .cons (.obj h1 h2) (.cons ry .nil), q, fun v d μ' G' H' qk w' g' r' => ?_⟩
    obtain ⟨c, rfl, qk⟩ := asB_out r' qk
    exact ⟨c, rfl, th _ _ μ' G' H' qk w' g' (.bl _)⟩
  | _ => exact hx.elim
/-- isinstance(x, C) -/
@[simp] def rIsiC (C : Addr) (re : RE) : RE := fun δ μ k => re δ μ fun x μ1 => okR C x ∧ k (.bl (isObj x)) μ1
theorem okE_isiC {te : TE} {re : RE} (c : Cmp K C) (h : OkE K te re) : OkE K (tCB (fun xs H Q => rIsi K xs H Q ∨ rIsiSl K (.ref C) xs H Q) (tCons te (tCons (tC (.ref C)) tNil))) (rIsiC C re) := fun σ δ μ G H k Q S w q b =>
  h σ δ μ G H _ _ S w q fun v d μ1 G1 H1 ⟨hd, q1⟩ w1 g1 r1 => by
    cases r1 with
    | non => exact .inl ⟨_, _, _, _, false, rfl, .own C, tyN_out w1 .non rfl, c.kNon, b _ _ μ1 G1 H1 q1 w1 g1 (.bl _)⟩
    | int i => exact .inl ⟨_, _, _, _, false, rfl, .own C, tyN_out w1 (.int i) rfl, c.kInt, b _ _ μ1 G1 H1 q1 w1 g1 (.bl _)⟩
    | tup h1 h2 => exact .inl ⟨_, _, _, _, false, rfl, .own C, tyN_out w1 (.tup h1 h2) rfl, c.kTup, b _ _ μ1 G1 H1 q1 w1 g1 (.bl _)⟩
    | obj h1 h2 =>
      have hd : _ = C := hd
      subst hd
      exact .inr ⟨_, _, _, _, _, true, rfl, rfl, fun w r => r, w1.ex.slt h1, c.cls, c.isi, c.kOwn, b _ _ μ1 G1 H1 q1 w1 g1 (.bl _)⟩
    | _ => exact hd.elim
/-- str(x) -/
@[simp] def rStrC (C : Addr) (dsp : DSp) (ra : RE) : RE := fun δ μ k => ra δ μ fun x μ1 => (match x with | .obj C' _ => C' = C | _ => False) ∧ @dCall dsp [x] μ1 fun d μ' => (match d with | .str _ => True | _ => False) ∧ k d μ'
theorem okE_strC {dsp : DSp} {te : TE} {ra : RE} (h : OkE K te ra) : OkE K (tCB (rStrA C (spOf K dsp)) (tCons te tNil)) (rStrC C dsp ra) := fun σ δ μ G H k Q S w q b =>
  h σ δ μ G H _ _ S w q fun v d μ1 G1 H1 ⟨hx, q1⟩ w1 g1 r1 => by
    cases r1 with
    | obj h1 h2 =>
      have hx : _ = C := hx
      subst hx
      refine ⟨_, _, _, rfl, w1.ex.slt h1, _, μ1, G1, _, w1, .cons (.obj h1 h2) .nil, q1, fun v d μ' G' H' ⟨hs, qk⟩ w' g' r' => ?_⟩
      cases r' with
      | str y => exact ⟨y, rfl, b _ _ μ' G' H' qk w' (g1.trans g') (.str y)⟩
      | _ => exact hs.elim
    | _ => exact hx.elim
/-! C(..): inm tells which arguments are let, and the slots -/
def spMk (K : PySem.W.Frag) (C : Addr) (inm : List D → List D → Prop) : Sp := fun vs H Q _ => ∃ (a dx : Addr) (ws : List V) (ds fs : List D) (μ : Mu) (G H1 : Hp) (k : DK), vs = .ref a :: ws ∧ H1 a = none ∧ H1 dx = none ∧ dx ≠ a ∧ H = upd (upd H1 dx (.own a)) a (.ins C dx []) ∧ Wd K G H1 μ ∧ RepL K G ws ds ∧ inm ds fs ∧
  k (.obj C fs) μ ∧ (∀ μ' G' H', k (.obj C fs) μ' → Wd K G' H' μ' → Go μ G H1 μ' G' H' → Rep K G' (.ref a) (.obj C fs) → Q .non H')
@[simp] def rMk (C : Addr) (inm : List D → List D → Prop) (ra : RA) : RE := fun δ μ k => ra δ μ fun ds μ1 => ∃ fs, inm ds fs ∧ k (.obj C fs) μ1
theorem okE_mk {inm : List D → List D → Prop} {t : TA} {ra : RA} (h : OkA K t ra) : OkE K (tMake C (spMk K C inm) [] E0 t) (rMk C inm ra) := fun σ δ μ G H k Q S w q b =>
  h σ δ μ G H _ _ S w q fun vs ds μ1 G1 H1 ⟨fs, hi, q1⟩ w1 g1 r1 x dx hx hd hne => by
    show spMk K C inm (.ref x :: (vs ++ [])) _ _ _
    rw [List.append_nil]
    exact ⟨x, dx, vs, ds, fs, μ1, G1, H1, k, rfl, hx, hd, hne, rfl, w1, r1, hi, q1, fun μ' G' H' qk w' g' r' => ⟨rfl, b _ _ μ' G' H' qk w' (g1.trans g') r'⟩⟩
/-- the heap in which __init__ begins -/
theorem wd_made {μ : Mu} {G H1 : Hp} {a dx : Addr} (w : Wd K G H1 μ) (ha : H1 a = none) (hd : H1 dx = none) : Wd K G (upd (upd H1 dx (.own a)) a (.ins C dx [])) μ := by
  refine ⟨fun b o e => ?_, fun p ds e => ?_⟩
  · have := w.ex _ _ e
    rw [upd_ne (ne_of_none this ha), upd_ne (ne_of_none this hd)]; exact this
  · obtain ⟨h1, vs, h2, h3⟩ := w.mu p ds e
    exact ⟨h1, vs, by rw [upd_ne (ne_of_none h2 ha), upd_ne (ne_of_none h2 hd)]; exact h2, h3⟩
/-- .. and at its end: H2 is the heap ahead of the stores -/
theorem mk_done {μ : Mu} {G H1 G2 H2 : Hp} {a dx : Addr} {vs : List V} {fs : List D} (w : Wd K G H1 μ) (ha : H1 a = none) (hd : H1 dx = none) (hne : dx ≠ a)
    (w2 : Wd K G2 H2 μ) (g2 : Go μ G (upd (upd H1 dx (.own a)) a (.ins C dx [])) μ G2 H2) (r : RepL K G2 vs fs) :
    ∃ G3, Wd K G3 (slH H2 a C dx (vs.map some)) μ ∧ Go μ G H1 μ G3 (slH H2 a C dx (vs.map some)) ∧ Rep K G3 (.ref a) (.obj C fs) := by
  have ma : μ a = none := w.mnone ha
  have md : μ dx = none := w.mnone hd
  have ia : (upd (upd H1 dx (.own a)) a (.ins C dx [])) a = some (.ins C dx []) := upd_same
  have id : (upd (upd H1 dx (.own a)) a (.ins C dx [])) dx = some (.own a) := by rw [upd_ne hne, upd_same]
  have fresh : ∀ {c : Addr} {u : HO}, (upd (upd H1 dx (.own a)) a (.ins C dx [])) c = some u → (∀ ts, u ≠ .tup ts) → G c = none → μ c = none → G2 c = none := fun {c u} h1 hu h2 h3 => by
    cases e : G2 c with
    | none => rfl
    | some o =>
      rcases g2.gf c (by rw [e]; simp) with z | z | z | ⟨ts, z⟩
      · exact absurd h2 z
      · exact absurd h3 z
      · rw [h1] at z; cases z
      · rw [h1] at z; exact absurd (Option.some.inj z) (hu ts)
  have ga : G2 a = none := fresh ia (fun _ z => nomatch z) (w.gnone ha) ma
  have gd : G2 dx = none := fresh id (fun _ z => nomatch z) (w.gnone hd) md
  have ex3 : Ex G2 (upd (upd G2 dx (.xd [])) a (SlO a C dx (vs.map some))) := fun b o e => by
    rw [upd_ne (ne_of_none e ga), upd_ne (ne_of_none e gd)]; exact e
  refine ⟨upd (upd G2 dx (.xd [])) a (SlO a C dx (vs.map some)), ⟨fun b o e => ?_, fun p ds e => ?_⟩, ⟨g2.eg.trans ex3, fun b o e hm => ?_, fun b e => ?_, fun b e => ?_⟩, .obj (.inr ⟨upd_same, by rw [upd_ne hne, upd_same]⟩) (r.mono ex3)⟩
  · unfold slH
    by_cases h1 : b = a
    · subst h1; rw [upd_same] at e ⊢; exact e
    · rw [upd_ne h1] at e ⊢
      by_cases h2 : b = dx
      · subst h2; rw [upd_same] at e ⊢; exact e
      · rw [upd_ne h2] at e ⊢; exact w2.ex _ _ e
  · obtain ⟨h1, xs, h2, h3⟩ := w2.mu p ds e
    have n1 : p ≠ a := fun z => by subst z; rw [ma] at e; cases e
    have n2 : p ≠ dx := fun z => by subst z; rw [md] at e; cases e
    exact ⟨by rw [upd_ne n1, upd_ne n2]; exact h1, xs, by rw [slH_ne n1 n2]; exact h2, h3.mono ex3⟩
  · have n1 : b ≠ a := ne_of_none e ha
    have n2 : b ≠ dx := ne_of_none e hd
    rw [slH_ne n1 n2]
    exact g2.kp b o (by rw [upd_ne n1, upd_ne n2]; exact e) hm
  · exact .inl e
  · by_cases h1 : b = a
    · subst h1; exact .inr (.inr (.inl ha))
    · by_cases h2 : b = dx
      · subst h2; exact .inr (.inr (.inl hd))
      · rw [upd_ne h1, upd_ne h2] at e
        rcases g2.gf b e with z | z | z | ⟨ts, z⟩
        · exact .inl z
        · exact .inr (.inl z)
        · rw [upd_ne h1, upd_ne h2] at z; exact .inr (.inr (.inl z))
        · rw [upd_ne h1, upd_ne h2] at z; exact .inr (.inr (.inr ⟨ts, z⟩))
end
/-! ### the rules with K said outright -/
section
variable {X : Cx} {K : PySem.W.Frag} {P : Program} {w : World} {mg : Str → Option Value} {base : Heap} {C : Addr}
theorem ko_eqC {n j : Nat} {dsp : DSp} (F : SpD P w K mg base C "__eq__" n dsp) (hr : Room j X.A) (hj : n ≤ j := by decide) (hP : X.prog = P := by rfl) (hw : X.w = w := by rfl) (hK : X.K = K := by rfl) (hm : X.mg = mg := by rfl) (hb : X.base = base := by rfl) : OpR X (compareOp .Eq) (rEqA K C (spOf K dsp)) := by
  subst hP hw hK hm hb
  obtain ⟨g, h1, h2, F⟩ := F.ex
  exact op_eqA h1 h2 F (hr.mono hj)
theorem ko_neC {n j : Nat} {dsp : DSp} (c : Cmp K C) (F : SpD P w K mg base C "__eq__" n dsp) (hr : Room j X.A) (hj : n + 1 ≤ j := by decide) (hP : X.prog = P := by rfl) (hw : X.w = w := by rfl) (hK : X.K = K := by rfl) (hm : X.mg = mg := by rfl) (hb : X.base = base := by rfl) : OpR X (compareOp .NotEq) (rNeA K C (spOf K dsp)) := by
  subst hP hw hK hm hb
  obtain ⟨g, h1, h2, F⟩ := F.ex
  exact op_neA h1 h2 c.ne c.isi.cm F (hr.mono hj)
theorem ke_strC {n j : Nat} {dsp : DSp} {e : Expr} {te : TE} {p pos : Pos} (F : SpD P w K mg base C "__str__" n dsp) (hr : Room j X.A) (hmS : mg "str" = none) (he : PE X e te) (hj : n + 2 ≤ j := by decide) (hg : Gl X "str" := by rfl) (hP : X.prog = P := by rfl) (hw : X.w = w := by rfl) (hK : X.K = K := by rfl) (hm : X.mg = mg := by rfl) (hb : X.base = base := by rfl)
    (hs : starEach [e] X.env = (false, eval e X.env) :: starEach [] X.env := by rfl) (hpl : (backTo pos (starEach [] X.env)).any (·.1) = false := by rfl) : PE X (.Call (.Name "str" p) [e] [] pos) (tCB (rStrA C (spOf K dsp)) (tCons te tNil)) := by
  subst hP hw hK hm hb
  obtain ⟨g, h1, h2, F⟩ := F.ex
  exact kt_call (call_strA h1 h2 F (hr.mono hj)) hmS (pa_cons he pa_nil hs) hg rfl (by decide +kernel) (by decide) (by decide) hs hpl
theorem ke_isiC {x : Str} {e : Expr} {te : TE} {p q pos : Pos} (hmI : mg "isinstance" = none) (hmC : mg x = some (.ref C)) (he : PE X e te) (hg : Gl X "isinstance" := by rfl) (hgx : Gl X x := by rfl) (hK : X.K = K := by rfl) (hm : X.mg = mg := by rfl) (hd : (x == ("__debug__" : Str)) = false := by decide)
    (hs : starEach [e, .Name x q] X.env = (false, eval e X.env) :: starEach [.Name x q] X.env := by rfl) (hs2 : starEach [.Name x q] X.env = (false, eval (.Name x q) X.env) :: starEach [] X.env := by rfl) (hpl : (backTo pos (starEach [.Name x q] X.env)).any (·.1) = false := by rfl) :
    PE X (.Call (.Name "isinstance" p) [e, .Name x q] [] pos) (tCB (fun xs H Q => rIsi K xs H Q ∨ rIsiSl K (.ref C) xs H Q) (tCons te (tCons (tC (.ref C)) tNil))) := by
  subst hK hm
  exact kb_call (cr_or call_isi (call_isiSl (.ref C))) hmI (pa_cons he (pa_cons (pe_glob hgx hmC rfl hd) pa_nil hs2) hs) hg rfl (by decide +kernel) (by decide) (by decide) hs hpl
theorem ke_mk {x : Str} {k j : Nat} {inm : List D → List D → Prop} {e : Expr} {es : List Expr} {p pos : Pos} {t : TA} (c : MakD P w K mg base k x C (spMk K C inm)) (hr : Room j X.A) (ha : PA X (e :: es) t) (hk : k + 1 ≤ j := by decide) (hg : Gl X x := by rfl) (hP : X.prog = P := by rfl) (hw : X.w = w := by rfl) (hK : X.K = K := by rfl) (hm : X.mg = mg := by rfl) (hb : X.base = base := by rfl)
    (hdb : (x == ("__debug__" : Str)) = false := by decide) (he : starEach (e :: es) X.env = (false, eval e X.env) :: starEach es X.env := by rfl) (hpl : (backTo pos (starEach es X.env)).any (·.1) = false := by rfl) : PE X (.Call (.Name x p) (e :: es) [] pos) (tMake C (spMk K C inm) [] E0 t) := by
  subst hP hw hK hm hb
  obtain ⟨f, fd, ps, M, F, h1, h2⟩ := c.ex
  exact pe_make M F (hr.mono hk) hg h1 h2 .nil pass0 ha hdb he hpl
theorem ke_meth0 {m : Str} {n j : Nat} {dsp : DSp} {o : Expr} {ta : TE} {apos pos : Pos} {pl : Sem Bool} (c : SCls K C) (F : MethD P w K mg base C m n dsp) (hr : Room j X.A) (he : PE X o ta) (hj : n ≤ j := by decide) (hP : X.prog = P := by rfl) (hw : X.w = w := by rfl) (hK : X.K = K := by rfl) (hm : X.mg = mg := by rfl) (hb : X.base = base := by rfl)
    (ht : eval (.Call (.Attribute o m apos) [] [] pos) X.env = (do
      let ov ← eval o X.env
      standAt apos.atName
      let (f, first) ← holding [ov] (getMethod ov m pl)
      callWith pos f first (backTo pos (starEach [] X.env)) (backToKw pos (keywordEach [] X.env))) := by rfl) :
    PE X (.Call (.Attribute o m apos) [] [] pos) (tMethSl C (spOf K dsp) E0 ta tNil) := by
  subst hP hw hK hm hb
  obtain ⟨g, h1, F⟩ := F.ex
  exact pe_methSl0 he c h1 F (hr.mono hj) pass0 ht
theorem kg_slA {o : Expr} {f : Str} {pos : Pos} {to : TE} (ho : PE X o to) (hK : X.K = K := by rfl) : PG X (.Attribute o f pos) (gSlA K to f) := by subst hK; exact pg_slA ho
end
/-! ### the defs of a class -/
def BindsF (x qual : Str) (st : Stmt) (ps : List Str) : Prop := ∀ (kV doc pm : Value) (an : Option Addr) (cdv ct : Value) (us : List Value), us.length = ps.length → bindArgs (PySem.W.fnOf x qual (defArgs st) (defBody st) (defScope st) .none kV doc pm an cdv ct) ⟨us, []⟩ = pure (ps.zip us)
/-- where a property's getter stands -/
structure AtP (K : PySem.W.Frag) (C : Addr) (f qual : Str) (st : Stmt) : Prop where
  ex : ∃ (p g : Addr) (fd : FuncData), PySem.W.findIn K (.ref C) f = some (some (.ref p)) ∧ PySem.W.specialIn K (.ref p) "__get__" = some (some (.builtin "property.__get__")) ∧ PySem.W.takesIn K (.ref p) = some true ∧
    (∃ rest, PySem.W.recIn K p "property" = some (.ref g :: rest)) ∧ Fun K f qual st g fd
/-- where a def of the class stands -/
structure AtM (K : PySem.W.Frag) (C : Addr) (f qual : Str) (st : Stmt) : Prop where
  ex : ∃ (g : Addr) (fd : FuncData), Meth K C f g ∧ Fun K f qual st g fd
section
variable {P : Program} {w : World} {K : PySem.W.Frag} {mg : Str → Option Value} {base : Heap} {C : Addr} {x qual : Str} {st : Stmt} {N ps : List Str} {k : Nat} {dsp : DSp} {r : RS}
theorem propD_of (a : AtP K C x qual st) (B : Body P w K mg base k qual st N r) (S : FnScope N ps (defScope st)) (hb : BindsF x qual st ps) (len : ∀ ds μ k, dsp ds μ k → ds.length = ps.length)
    (vc : ∀ ds μ k, dsp ds μ k → r { nx := fun _ μ' => k .non μ', rt := k } (startD N ds) μ) : PropD P w K mg base C x (k + 1) dsp := by
  obtain ⟨p, g, fd, h1, h2, h3, h4, F⟩ := a.ex
  exact ⟨p, g, h1, h2, h3, h4, FnOk.pos (fn_body B F S len vc) (F.binds hb)⟩
theorem methD_of (a : AtM K C x qual st) (B : Body P w K mg base k qual st N r) (S : FnScope N ps (defScope st)) (hb : BindsF x qual st ps) (len : ∀ ds μ k, dsp ds μ k → ds.length = ps.length)
    (vc : ∀ ds μ k, dsp ds μ k → r { nx := fun _ μ' => k .non μ', rt := k } (startD N ds) μ) : MethD P w K mg base C x (k + 1) dsp := by
  obtain ⟨g, fd, h1, F⟩ := a.ex
  exact ⟨g, h1, FnOk.pos (fn_body B F S len vc) (F.binds hb)⟩
theorem spD_of (a : AtM K C x qual st) (B : Body P w K mg base k qual st N r) (S : FnScope N ps (defScope st)) (hb : BindsF x qual st ps) (len : ∀ ds μ k, dsp ds μ k → ds.length = ps.length)
    (vc : ∀ ds μ k, dsp ds μ k → r { nx := fun _ μ' => k .non μ', rt := k } (startD N ds) μ) : SpD P w K mg base C x (k + 1) dsp := by
  obtain ⟨g, fd, h1, F⟩ := a.ex
  exact ⟨g, h1.at_, h1.fn, FnOk.pos (fn_body B F S len vc) (F.binds hb)⟩
end
end DL


set_option Elab.async false
set_option linter.all false
set_option maxRecDepth 100000
set_option maxHeartbeats 4000000
/-! DLt: texts. -/
namespace DL
open PySem PySem.Spec PyProof.Rows L2 SlX TL
theorem len_tl (x : Str) : x.length = (tl x).length := by
  show x.cps.size = x.cps.toList.length
  simp
theorem ok_tl (x : Str) : PyData.strOk x = true ↔ ∀ c ∈ tl x, c < 0x110000 := by
  unfold PyData.strOk
  rw [Array.all_eq_true']
  simp [tl]
theorem joinL_mem {S : List Nat} {c : Nat} : ∀ {ps : List (List Nat)}, c ∈ joinL S ps → c ∈ S ∨ ∃ p ∈ ps, c ∈ p
  | [], h => by simp [joinL] at h
  | [p], h => .inr ⟨p, by simp, h⟩
  | p :: q :: r, h => by
    simp only [joinL, List.mem_append] at h
    rcases h with h | h | h
    · exact .inr ⟨p, by simp, h⟩
    · exact .inl h
    · rcases joinL_mem h with z | ⟨p', h1, h2⟩
      · exact .inl z
      · exact .inr ⟨p', List.mem_cons_of_mem _ h1, h2⟩
theorem joinL_len {S : List Nat} {b : Nat} : ∀ {ps : List (List Nat)}, (∀ p ∈ ps, p.length ≤ b) → (joinL S ps).length ≤ ps.length * (b + S.length)
  | [], _ => by simp [joinL]
  | [p], h => by have := h p (by simp); simp [joinL]; omega
  | p :: q :: r, h => by
    have h1 := h p (by simp)
    have h2 := joinL_len (S := S) (ps := q :: r) (b := b) (fun z hz => h z (List.mem_cons_of_mem _ hz))
    have e : (p :: q :: r).length * (b + S.length) = (b + S.length) + (q :: r).length * (b + S.length) := by
      simp only [List.length_cons]
      rw [Nat.add_mul (r.length + 1) 1, Nat.one_mul, Nat.add_comm]
    rw [e]
    simp only [joinL, List.length_append]
    omega
theorem joinL_nil {S : List Nat} : ∀ {ps : List (List Nat)}, (∀ p ∈ ps, p ≠ []) → joinL S ps = [] → ps = []
  | [], _, _ => rfl
  | [p], h, e => absurd e (h p (by simp))
  | p :: q :: r, h, e => by
    simp only [joinL] at e
    exact absurd (List.append_eq_nil_iff.mp e).1 (h p (by simp))
theorem tl_joinT (y : Str) (ys : List Str) : tl (Txt.join y ys) = joinL (tl y) (ys.map tl) := by rw [join_eq, tl_join]
theorem len_app (x y : Str) : (x ++ y).length = x.length + y.length := by rw [len_tl, len_tl x, len_tl y, tl_append, List.length_append]
end DL


set_option Elab.async false
set_option linter.all false
set_option maxRecDepth 100000
set_option maxHeartbeats 4000000
/-! DLs: starred items of displays. -/
namespace DL
open PySem PySem.Spec PyProof.Rows L2 SlX StX
section
variable {K : PySem.W.Frag}
@[simp] def rStar (re : RE) (rr : RA) : RA := fun δ μ k => re δ μ fun x μ1 => ∃ ds, asQ μ1 x = some ds ∧ rr δ μ1 fun es μ2 => k (ds ++ es) μ2
theorem okA_star {te : TE} {re : RE} {tr : TA} {rr : RA} (he : OkE K te re) (hr : OkA K tr rr) : OkA K (tStar K te tr) (rStar re rr) := fun σ δ μ G H k Q S w q b =>
  he σ δ μ G H _ _ S w q fun x dx μ1 G1 H1 ⟨ds, e, q1⟩ w1 g1 r1 => by
    obtain ⟨a, vs, rfl, hs, rl⟩ := asQ_out w1 r1 e
    exact ⟨a, vs, rfl, hs.symm, hr σ δ μ1 G1 H1 _ _ (S.mono g1.eg) w1 q1 fun ys es μ2 G2 H2 q2 w2 g2 r2 => b (vs ++ ys) (ds ++ es) μ2 G2 H2 q2 w2 (g1.trans g2) ((rl.mono g2.eg).append r2)⟩
theorem ka_star (K : PySem.W.Frag) {X : Cx} {e : Expr} {es : List Expr} {te : TE} {t : TA} {p : Pos} (he : PE X e te) (hr : PA X es t) (hK : X.K = K := by rfl) (hs : starEach (.Starred e p :: es) X.env = (true, eval e X.env) :: starEach es X.env := by rfl) : PA X (.Starred e p :: es) (tStar K te t) := by
  subst hK; exact pa_star he hr hs
end
end DL


set_option Elab.async false
set_option linter.all false
set_option maxRecDepth 100000
set_option maxHeartbeats 4000000
/-! DLn: enumerate over a list or a tuple. -/
namespace DL
open PySem PySem.Spec PyProof.Rows L2 SlX
open Sem (wp)
set_option maxHeartbeats 8000000 in
theorem meets_enumerate_new1 {v : Value} {o : Obj} {H : Heap → Prop} (B : Begins v o H) :
    Meets (Builtin.«enumerate.__new__» ⟨[.type "enumerate", v], []⟩) (fun _ R s => H s.heap ∧
      R (.ok (.ret (.ref (s.heap.push o).objs.size))) { s with heap := (s.heap.push o).push { cls := .type "enumerate", data := .fields #[.none, .bool false, .ref s.heap.objs.size, rawInt 0, .none, .none] } }) :=
  .of_wp fun prog w A R s h => by
    obtain ⟨hp, g, d, tk, os⟩ := s; obtain ⟨h1, h⟩ := h
    have hsub := sub_enumerate
    have q1 : ∀ {A' : Around} {E : Value → Shared → Prop} {Q : Value → Shared → Prop}, Q (.ref hp.objs.size) ⟨hp.push o, g, d, tk, os⟩ → wpAny (model prog w) A' (pyIter v) Q E ⟨hp, g, d, tk, os⟩ :=
      fun q => B.iter prog w _ _ ⟨hp, g, d, tk, os⟩ _ h1 q
    wp_walk using q1
    refine wpAny_stack_any fun st => wpAny_pure ?_
    split
    · rename_i c _ _ _ _ _
      cases (c == Value.type "enumerate")
      · wp_walk using q1
        exact ⟨_, rfl, h⟩
      · wp_walk using q1
        exact ⟨_, rfl, h⟩
    · wp_walk using q1
      exact ⟨_, rfl, h⟩
theorem enum_begins1 {prog : Program} {w : World} {A : Around} {E : Value → Shared → Prop} {s : Shared} {v : Value} {o : Obj} {H : Heap → Prop} {Q : Value → Shared → Prop} (B : Begins v o H) (h1 : H s.heap)
    (h : ∀ h', IsEnum h' (s.heap.objs.size + 1) s.heap.objs.size 0 .none → h'.get? s.heap.objs.size = some o → h'.objs.size = s.heap.objs.size + 2 →
      (∀ b o, s.heap.get? b = some o → h'.get? b = some o) → Q (.ref (s.heap.objs.size + 1)) { s with heap := h' }) :
    wpAny (model prog w) A (call (.type "enumerate") [v]) Q E s := by
  refine callType_new F.called_enumerate (by decide) (F.typeCall_enumerate_1 _) (F.newCall_enumerate_1 _) (fun obj => F.args_object_init_2 obj _) F.entry_enumerate_new
    (meets_enumerate_new1 B) ⟨h1, ?_⟩
  have hz : (s.heap.push o).objs.size = s.heap.objs.size + 1 := Heap.size_push ..
  show _ ∧ _
  rw [hz]
  have he : IsEnum ((s.heap.push o).push { cls := .type "enumerate", data := .fields #[.none, .bool false, .ref s.heap.objs.size, rawInt 0, .none, .none] }) (s.heap.objs.size + 1) s.heap.objs.size 0 .none := by
    have := Heap.get?_push_size (s.heap.push o) (o := { cls := .type "enumerate", data := .fields #[.none, .bool false, .ref s.heap.objs.size, rawInt 0, .none, .none] }) rfl
    rw [hz] at this; exact this
  refine ⟨⟨_, he, rfl⟩, h _ he (Heap.get?_push_of_some _ (Heap.get?_push_size _ B.free)) (by rw [Heap.size_push, hz]) fun b o x => Heap.get?_push_of_some _ (Heap.get?_push_of_some _ x)⟩
/-- what enumerate over the sequence at a walks -/
def IteM (c : Bool) (K : PySem.W.Frag) (a : Addr) : It where
  go := fun i H => ∃ xs x, SqA c K H a xs ∧ xs[i]? = some x
  yld := fun i H v H' => ∃ T x, v = V.ref T ∧ H T = none ∧ H' = upd H T (.tup [.int (i : Nat), x]) ∧ ∀ xs, SqA c K H a xs → xs[i]? = some x
  stop := fun i H => ∃ xs, SqA c K H a xs ∧ i = xs.length
theorem turn_enumM {P : Program} {w : World} {K : PySem.W.Frag} {elts : List Expr} {kk : Nat} {tpos : Pos} {c : Bool} {a e it : Addr} (ha : a ≠ it) (hei : e ≠ it) (hea : e ≠ a) :
    Turn P w K (.Tuple elts kk tpos) (IteM c K a) [e, it] e
      (fun i h => (∃ old, IsEnum h e it (0 + (i : Int)) old) ∧ IterA c h it a i) where
  mem := by simp
  obj := fun i h ⟨⟨old, he⟩, h1⟩ c hc => by
    have q : c = e ∨ c = it := by simpa using hc
    rcases q with q | q
    · subst q; exact ⟨_, he, fun v e => nomatch e⟩
    · subst q; exact iterA_obj h1
  keep := fun i h h' ⟨⟨old, he⟩, h1⟩ k => ⟨⟨old, k e (by simp) _ he⟩, iterA_at h1 (k it (by simp))⟩
  item := by
    intro X hP hw hK hc i pins s σ H E I hf ⟨⟨old, he⟩, h1⟩ hg
    subst hP hw hK
    obtain ⟨xs, x, sx, ex⟩ := hg
    obtain ⟨its, rv, p1⟩ := inv_sqA I sx
    obtain ⟨u, hu, ru⟩ := rv.get ex
    have hh : X.A.in1.handled = none := I.ok.hd hc
    have W := WalksT.enumFrom (prog := X.prog) (w := X.w) (A := X.A) 0 (drawsA hh c it a ha its.toArray) e hei (by simp [hei, hea]) (by simp)
    have l1 : i < its.length := (List.getElem?_eq_some_iff.mp hu).1
    refine W.item i s _ _ (by simp; omega) ⟨⟨old, he⟩, ⟨h1, p1⟩⟩ fun T vals h' tk hv hT hIs mid hk => ?_
    obtain ⟨t, x1, e1, rfl⟩ := hv
    have e1 : x1 = u := by have e1 : its.toArray[i]? = some x1 := e1; rw [List.getElem?_toArray, hu] at e1; exact (Option.some.inj e1).symm
    subst e1
    have apart := W.apart i T h' mid
    refine ⟨_, rfl, W.go elts kk tpos i T { s with heap := h', toks := tk } _ _ mid fun h'' st hk2 => ?_⟩
    obtain ⟨⟨old', he'⟩, ⟨h1', _⟩⟩ := st
    have hTn : H T = none := I.hok.fresh hT
    have tneq : ∀ c, c ∈ [e, it] → c < T := fun c hm => by
      have q : c < s.heap.objs.size := by
        have q : c = e ∨ c = it := by simpa using hm
        rcases q with q | q
        · subst q; exact Heap.lt_size he
        · subst q; obtain ⟨_, e, _⟩ := iterA_obj h1; exact Heap.lt_size e
      exact Nat.lt_of_lt_of_le q hT
    obtain ⟨oT, eT, cT, nT, dT⟩ := id hIs
    have new : ObjOk X.prog X.w (upd H T (.tup [.int (i : Nat), x])) h'' T (.tup [.int (i : Nat), x]) :=
      ⟨by show 2 ≤ sizeLine; decide, [.int (0 + (i : Int)) t, x1], .cons ⟨t, by rw [Int.zero_add]⟩ (.cons ru .nil), ⟨oT, hk2 T oT apart eT, cT, nT, dT⟩⟩
    refine ⟨.ref T, _, I.turnedNew (t' := tk) (ch := [e, it]) (fun c o hb q => hk2 c o hb (hk c o hb q)) hf hT new, rfl, ⟨T, x, rfl, hTn, rfl, fun l hl => by rw [inv_injA I hl sx]; exact ex⟩,
      ⟨⟨old', he'⟩, h1'⟩, fun c hm => ?_⟩
    rw [upd_ne (Nat.ne_of_lt (tneq c hm))]
    exact (hf c hm).1
  done := by
    intro X hP hw hK hc i pins s σ H E I hf ⟨⟨old, he⟩, h1⟩ hg
    subst hP hw hK
    obtain ⟨xs, sx, hend⟩ := hg
    obtain ⟨its, rv, p1⟩ := inv_sqA I sx
    have hh : X.A.in1.handled = none := I.ok.hd hc
    have l1 := rv.length
    have W := WalksT.enumFrom (prog := X.prog) (w := X.w) (A := X.A) 0 (drawsA hh c it a ha its.toArray) e hei (by simp [hei, hea]) (by simp)
    have ei : i = its.toArray.size := by rw [hend, l1]; simp
    rw [ei] at h1 he
    exact W.done s _ _ ⟨⟨old, he⟩, ⟨h1, p1⟩⟩ fun h' tk hk => ⟨rfl, I.turnedL (t' := tk) (ch := [e, it]) (fun c o hb q => hk c o hb q) hf⟩
  self := fun A i s Q E st h => let ⟨⟨_, he⟩, _⟩ := st; wpAny_pyIter_enum he h
section
variable {K : PySem.W.Frag}
def iEnumM (K : PySem.W.Frag) (ta : TA) : TI := fun σ H R => ta σ H fun vs H1 => ∃ (c : Bool) (a : Addr) (xs : List V), vs = [V.ref a] ∧ SqA c K H1 a xs ∧ R (IteM c K a) H1
theorem pi_enumM {X : Cx} {e : Expr} {ta : TA} {p pos tpos : Pos} {elts : List Expr} {kk : Nat} (hg : Gl X "enumerate") (hm : X.mg "enumerate" = none) (ha : PA X [e] ta)
    (hs : starEach [e] X.env = [(false, eval e X.env)] := by rfl) :
    PI X (.Tuple elts kk tpos) (.Call (.Name "enumerate" p) [e] [] pos) (iEnumM X.K ta) := ⟨fun pins s σ H R I h => by
  refine Call_ (ld_blt I hg hm boot_enumerate (PyProof.Rows.callWith_type1 (thn (ha.run pos pins s σ H _ I h) fun us s1 ⟨vs, H1, I1, r1, q1⟩ => ?_) hs rfl))
  obtain ⟨c, a, xs, rfl, sx, q⟩ := q1
  cases r1 with
  | cons r rr =>
    cases rr
    cases r
    obtain ⟨its, rv, p1⟩ := inv_sqA I1 sx
    have la := isA_lt p1
    refine enum_begins1 (beginsA c a its.toArray) p1 fun h' he hit hsz hk => wpAny_pyIter_enum he ?_
    have I2 : Inv X pins σ H1 { s1 with heap := h' } := I1.kept (t' := s1.toks) hk
    have na : a ≠ s1.heap.objs.size := Nat.ne_of_lt la
    refine ⟨s1.heap.objs.size + 1, [s1.heap.objs.size + 1, s1.heap.objs.size], _, _, H1, rfl, I2, turn_enumM (c := c) na (Nat.succ_ne_self _) (Nat.ne_of_gt (Nat.lt_succ_of_lt la)), ⟨⟨.none, he⟩, iterA_0 hit⟩, fun b hb => ?_, q⟩
    have e' : b = s1.heap.objs.size + 1 ∨ b = s1.heap.objs.size := by simpa using hb
    have hle : s1.heap.objs.size ≤ b := by
      rcases e' with z | z
      · rw [z]; exact Nat.le_add_right _ _
      · rw [z]; exact Nat.le_refl _
    exact I1.fpOk hle (I1.hok.fresh hle)⟩
theorem ki_enum (K : PySem.W.Frag) {X : Cx} {e : Expr} {ta : TA} {p pos tpos : Pos} {elts : List Expr} {kk : Nat} (hg : Gl X "enumerate") (hm : X.mg "enumerate" = none) (ha : PA X [e] ta) (hK : X.K = K := by rfl)
    (hs : starEach [e] X.env = [(false, eval e X.env)] := by rfl) :
    PI X (.Tuple elts kk tpos) (.Call (.Name "enumerate" p) [e] [] pos) (iEnumM K ta) := by subst hK; exact pi_enumM hg hm ha hs
@[simp] def numD : Nat → Option D → Option D
  | i, some x => some (.tup [.int (i : Nat), x])
  | _, _ => none
def itE (x : D) (xs : List D) : DIt := ⟨xs.length, fun i => numD i xs[i]?, fun μ => asQ μ x = some xs⟩
@[simp] def rIE (ra : RA) : RI := fun δ μ k => ra δ μ fun ds μ1 => match ds with | [x] => ∃ xs, asQ μ1 x = some xs ∧ k (itE x xs) μ1 | _ => False
theorem itOk_enum {G : Hp} {va : Addr} {x : D} {xs : List D} (r1 : Rep K G (.ref va) x) : ItOk K G (IteM (kindA x) K va) (itE x xs) := fun i μ G1 H1 e w o1 => by
  obtain ⟨a, vs, ea, sa, ra⟩ := asQ_outA w (r1.mono e) o1
  cases ea
  refine ⟨fun hi => ⟨vs, sa, by rw [ra.length]; exact hi.symm⟩, fun hi => ?_⟩
  have hi : i < xs.length := hi
  have l1 : i < vs.length := by rw [ra.length]; omega
  refine ⟨⟨vs, vs[i], sa, List.getElem?_eq_getElem l1⟩, fun v H2 ⟨T, u, hv, hT, hH, h1⟩ => ?_⟩
  subst hv hH
  obtain ⟨d1, g1, q1⟩ := ra.get (h1 vs sa)
  refine ⟨.tup [.int (i : Nat), d1], upd G1 T (.tup [.int (i : Nat), u]), ?_, w.new hT, Go.new w hT, .tup upd_same (.cons (.int _) (.cons (q1.mono (Ex.new (w.gnone hT))) .nil))⟩
  show numD i xs[i]? = _
  rw [g1]
  rfl
theorem okI_enum {ta : TA} {ra : RA} (h : OkA K ta ra) : OkI K (iEnumM K ta) (rIE ra) := fun σ δ μ G H k R S w q b =>
  h σ δ μ G H _ _ S w q fun vs ds μ1 G1 H1 q1 w1 g1 r1 => by
    split at q1
    · rename_i x
      obtain ⟨xs, e1, q2⟩ := q1
      cases r1 with
      | cons a t =>
        cases t
        obtain ⟨p, vs1, rfl, s1, _⟩ := asQ_outA w1 a e1
        exact ⟨_, p, vs1, rfl, s1, b _ _ μ1 G1 H1 q2 w1 g1 (itOk_enum a)⟩
    · exact q1.elim
theorem Src.e {μ : Mu} {x : D} {xs : List D} (h1 : asQ μ x = some xs) : Src (itE x xs) μ (xs.zipIdx.map fun q => .tup [.int (q.2 : Nat), q.1]) := by
  refine ⟨by simp [itE], fun i d hi h => ?_, h1⟩
  have hi : i < xs.length := hi
  have h : numD i xs[i]? = some d := h
  rw [List.getElem?_eq_getElem hi] at h
  rw [List.getElem?_map, List.getElem?_zipIdx, List.getElem?_eq_getElem hi]
  simpa using h
end
end DL


set_option Elab.async false
set_option linter.all false
set_option maxRecDepth 100000
set_option maxHeartbeats 4000000
/-! DLk: dicts whose keys are ints and texts. -/
namespace DL
open PySem PySem.Spec PyProof.Rows L2 SlX
/-! ### tables over data -/
section
variable {κ α : Type} [DecidableEq κ]
def getG (kvs : List (κ × α)) (k : κ) : Option α := (kvs.find? fun kv => decide (kv.1 = k)).map (·.2)
def putG (kvs : List (κ × α)) (k : κ) (v : α) : List (κ × α) :=
  if (kvs.any fun kv => decide (kv.1 = k)) = true then kvs.map (fun kv => if kv.1 = k then (kv.1, v) else kv) else kvs ++ [(k, v)]
def mergeG (kvs more : List (κ × α)) : List (κ × α) := more.foldl (fun acc kv => putG acc kv.1 kv.2) kvs
theorem putG_len (kvs : List (κ × α)) (k : κ) (v : α) : (putG kvs k v).length ≤ kvs.length + 1 := by
  unfold putG; split <;> simp
theorem mergeG_len (more : List (κ × α)) : ∀ kvs : List (κ × α), (mergeG kvs more).length ≤ kvs.length + more.length := by
  induction more with
  | nil => intro kvs; simp [mergeG]
  | cons m more ih =>
    intro kvs
    have h1 := ih (putG kvs m.1 m.2)
    have h2 := putG_len kvs m.1 m.2
    have e : mergeG kvs (m :: more) = mergeG (putG kvs m.1 m.2) more := rfl
    rw [e, List.length_cons]; omega
end
theorem putV_eq {κ : Type} [DecidableEq κ] (kvs : List (κ × V)) (k : κ) (v : V) : putK kvs k v = putG kvs k v := rfl
theorem getV_eq {κ : Type} [DecidableEq κ] (kvs : List (κ × V)) (k : κ) : valV kvs k = getG kvs k := rfl
/-- a table of values, a table of data -/
structure RepT {κ : Type} (K : PySem.W.Frag) (G : Hp) (kvs : List (κ × V)) (kds : List (κ × D)) : Prop where
  ks : kvs.map (·.1) = kds.map (·.1)
  vs : RepL K G (kvs.map (·.2)) (kds.map (·.2))
section
variable {κ : Type} [DecidableEq κ] {K : PySem.W.Frag} {G G' : Hp}
theorem RepT.nil : RepT K G ([] : List (κ × V)) [] := ⟨rfl, .nil⟩
theorem RepT.cons {k : κ} {v : V} {d : D} {kvs : List (κ × V)} {kds : List (κ × D)} (r : Rep K G v d) (t : RepT K G kvs kds) : RepT K G ((k, v) :: kvs) ((k, d) :: kds) := ⟨by simp [t.ks], .cons r t.vs⟩
theorem RepT.rec' {P : List (κ × V) → List (κ × D) → Prop} (h0 : P [] []) (h1 : ∀ k v d kvs kds, Rep K G v d → RepT K G kvs kds → P kvs kds → P ((k, v) :: kvs) ((k, d) :: kds)) : ∀ {kvs : List (κ × V)} {kds : List (κ × D)}, RepT K G kvs kds → P kvs kds
  | [], [], _ => h0
  | [], _ :: _, r => by have := r.ks; simp at this
  | _ :: _, [], r => by have := r.ks; simp at this
  | (k, v) :: kvs, (k', d) :: kds, r => by
    obtain ⟨e1, e2⟩ : k = k' ∧ kvs.map (·.1) = kds.map (·.1) := by simpa using r.ks
    subst e1
    have := r.vs
    cases this with
    | cons a b => exact h1 k v d kvs kds a ⟨e2, b⟩ (RepT.rec' h0 h1 ⟨e2, b⟩)
theorem RepT.mono {kvs : List (κ × V)} {kds : List (κ × D)} (e : Ex G G') (r : RepT K G kvs kds) : RepT K G' kvs kds := ⟨r.ks, r.vs.mono e⟩
theorem RepT.length {kvs : List (κ × V)} {kds : List (κ × D)} (r : RepT K G kvs kds) : kvs.length = kds.length := by
  have := congrArg List.length r.ks
  simpa using this
theorem RepT.get {kvs : List (κ × V)} {kds : List (κ × D)} (r : RepT K G kvs kds) (k : κ) : (getG kvs k = none ∧ getG kds k = none) ∨ ∃ v d, getG kvs k = some v ∧ getG kds k = some d ∧ Rep K G v d := by
  refine RepT.rec' (P := fun kvs kds => (getG kvs k = none ∧ getG kds k = none) ∨ ∃ v d, getG kvs k = some v ∧ getG kds k = some d ∧ Rep K G v d) (.inl ⟨rfl, rfl⟩) (fun k' v d kvs kds a _ ih => ?_) r
  by_cases h : k' = k
  · right; exact ⟨v, d, by simp [getG, h], by simp [getG, h], a⟩
  · have e1 : ∀ {α : Type} (x : α) (l : List (κ × α)), getG ((k', x) :: l) k = getG l k := fun x l => by simp [getG, h]
    rw [e1, e1]; exact ih
theorem RepT.any {kvs : List (κ × V)} {kds : List (κ × D)} (r : RepT K G kvs kds) (k : κ) : (kvs.any fun kv => decide (kv.1 = k)) = (kds.any fun kv => decide (kv.1 = k)) := by
  have e : ∀ {α : Type} (l : List (κ × α)), (l.any fun kv => decide (kv.1 = k)) = ((l.map (·.1)).any fun x => decide (x = k)) := fun l => by rw [List.any_map]; rfl
  rw [e, e, r.ks]
theorem RepT.append {kvs kws : List (κ × V)} {kds kes : List (κ × D)} (r : RepT K G kvs kds) (s : RepT K G kws kes) : RepT K G (kvs ++ kws) (kds ++ kes) := ⟨by simp [r.ks, s.ks], by simpa using r.vs.append s.vs⟩
theorem RepT.put {kvs : List (κ × V)} {kds : List (κ × D)} (r : RepT K G kvs kds) (k : κ) {v : V} {d : D} (q : Rep K G v d) : RepT K G (putG kvs k v) (putG kds k d) := by
  unfold putG
  rw [r.any k]
  split
  · refine RepT.rec' (P := fun kvs kds => RepT K G (kvs.map fun kv => if kv.1 = k then (kv.1, v) else kv) (kds.map fun kv => if kv.1 = k then (kv.1, d) else kv)) .nil (fun k' v' d' kvs kds a _ ih => ?_) r
    by_cases h : k' = k
    · subst h; simpa using RepT.cons (k := k') q ih
    · simpa [h] using RepT.cons (k := k') a ih
  · exact r.append (.cons q .nil)
theorem RepT.merge {more : List (κ × V)} {mds : List (κ × D)} (s : RepT K G more mds) : ∀ {kvs : List (κ × V)} {kds : List (κ × D)}, RepT K G kvs kds → RepT K G (mergeG kvs more) (mergeG kds mds) :=
  RepT.rec' (P := fun more mds => ∀ {kvs : List (κ × V)} {kds : List (κ × D)}, RepT K G kvs kds → RepT K G (mergeG kvs more) (mergeG kds mds)) (fun r => r) (fun k v d more mds a _ ih => fun {kvs kds} r => by
    show RepT K G (mergeG (putG kvs k v) more) (mergeG (putG kds k d) mds)
    exact ih (r.put k a)) s
theorem RepT.back {kvs : List (κ × V)} {ks : List κ} {ds : List D} (h : kvs.map (·.1) = ks) (r : RepL K G (kvs.map (·.2)) ds) : RepT K G kvs (ks.zip ds) := by
  have hl : ks.length = ds.length := by have := r.length; rw [List.length_map] at this; rw [← h, List.length_map, this]
  refine ⟨?_, ?_⟩
  · rw [h, List.map_fst_zip (by omega)]
  · rw [List.map_snd_zip (by omega)]; exact r
end
@[simp] def keyD : D → Option Key
  | .int i => some (.inl i)
  | .str x => some (.inr x)
  | _ => none
theorem keyD_out {K : PySem.W.Frag} {G : Hp} {v : V} {d : D} {k : Key} (r : Rep K G v d) (e : keyD d = some k) : v = kV k := by
  cases r with
  | int i => cases e; rfl
  | str x => cases e; rfl
  | _ => cases e
/-- the own table at p -/
def kvAt (μ : Mu) (p : Addr) : Option (List (Key × D)) := match μ p with
  | some (.k kvs) => some kvs
  | _ => none
@[simp] theorem kvAt_iff {μ : Mu} {p : Addr} {kvs : List (Key × D)} : kvAt μ p = some kvs ↔ μ p = some (.k kvs) := by
  unfold kvAt
  constructor
  · intro h
    split at h
    · rename_i e; cases h; exact e
    · cases h
  · intro h; rw [h]
/-- a dict that is read -/
@[simp] def asK (μ : Mu) : D → Option (List (Key × D))
  | .dk ks ds => some (ks.zip ds)
  | .own p => kvAt μ p
  | _ => none
theorem asK_out {K : PySem.W.Frag} {μ : Mu} {G H : Hp} {v : V} {d : D} {kds : List (Key × D)} (w : Wd K G H μ) (r : Rep K G v d) (e : asK μ d = some kds) : ∃ a kvs, v = .ref a ∧ H a = some (.dK kvs) ∧ RepT K G kvs kds := by
  cases r with
  | @dk a ks vs ds h hl q =>
    cases e
    refine ⟨_, _, rfl, w.ex _ _ h, RepT.back ?_ ?_⟩
    · rw [List.map_fst_zip (by omega)]
    · rw [List.map_snd_zip (by omega)]; exact q
  | own p =>
    obtain ⟨_, kvs, h, e1, q⟩ := w.muK p _ (kvAt_iff.mp e)
    exact ⟨_, _, rfl, h, e1, q⟩
  | _ => cases e
section
variable {K : PySem.W.Frag}
/-- y in d -/
@[simp] def rDIn (ri ro : RE) : RE := fun δ μ k => ri δ μ fun y μ1 => ro δ μ1 fun d μ2 => ∃ kvs kk, asK μ2 d = some kvs ∧ keyD y = some kk ∧ k (.bl (getG kvs kk).isSome) μ2
@[simp] def rDNotIn (ri ro : RE) : RE := fun δ μ k => ri δ μ fun y μ1 => ro δ μ1 fun d μ2 => ∃ kvs kk, asK μ2 d = some kvs ∧ keyD y = some kk ∧ k (.bl (!(getG kvs kk).isSome)) μ2
theorem isSome_get {G : Hp} {kvs : List (Key × V)} {kds : List (Key × D)} (r : RepT K G kvs kds) (k : Key) : (valV kvs k).isSome = (getG kds k).isSome := by
  rw [getV_eq]
  rcases r.get k with ⟨a, b⟩ | ⟨v, d, a, b, _⟩ <;> rw [a, b] <;> rfl
theorem okE_din {ti to : TE} {ri ro : RE} (hi : OkE K ti ri) (ho : OkE K to ro) : OkE K (tDIn ti to) (rDIn ri ro) := fun σ δ μ G H k Q S w q b =>
  hi σ δ μ G H _ _ S w q fun y dy μ1 G1 H1 q1 w1 g1 r1 => ho σ δ μ1 G1 H1 _ _ (S.mono g1.eg) w1 q1 fun x dx μ2 G2 H2 ⟨kvs, kk, e, ek, q2⟩ w2 g2 r2 => by
    obtain ⟨a, vs, rfl, h, rt⟩ := asK_out w2 r2 e
    obtain rfl := keyD_out (r1.mono g2.eg) ek
    exact ⟨a, _, rfl, DGet.k h, by rw [isSome_get rt]; exact b _ _ μ2 G2 H2 q2 w2 (g1.trans g2) (.bl _)⟩
theorem okE_dnotin {ti to : TE} {ri ro : RE} (hi : OkE K ti ri) (ho : OkE K to ro) : OkE K (tDNotIn ti to) (rDNotIn ri ro) := fun σ δ μ G H k Q S w q b =>
  hi σ δ μ G H _ _ S w q fun y dy μ1 G1 H1 q1 w1 g1 r1 => ho σ δ μ1 G1 H1 _ _ (S.mono g1.eg) w1 q1 fun x dx μ2 G2 H2 ⟨kvs, kk, e, ek, q2⟩ w2 g2 r2 => by
    obtain ⟨a, vs, rfl, h, rt⟩ := asK_out w2 r2 e
    obtain rfl := keyD_out (r1.mono g2.eg) ek
    exact ⟨a, _, rfl, DGet.k h, by rw [isSome_get rt]; exact b _ _ μ2 G2 H2 q2 w2 (g1.trans g2) (.bl _)⟩
/-- d[y] -/
@[simp] def rDGet (ro ri : RE) : RE := fun δ μ k => ro δ μ fun d μ1 => ri δ μ1 fun y μ2 => ∃ kvs kk x, asK μ2 d = some kvs ∧ keyD y = some kk ∧ getG kvs kk = some x ∧ k x μ2
theorem okE_dget {ti to : TE} {ri ro : RE} (ho : OkE K to ro) (hi : OkE K ti ri) : OkE K (tDGet to ti) (rDGet ro ri) := fun σ δ μ G H k Q S w q b =>
  ho σ δ μ G H _ _ S w q fun x dx μ1 G1 H1 q1 w1 g1 r1 => hi σ δ μ1 G1 H1 _ _ (S.mono g1.eg) w1 q1 fun y dy μ2 G2 H2 ⟨kvs, kk, z, e, ek, eg, q2⟩ w2 g2 r2 => by
    obtain ⟨a, vs, rfl, h, rt⟩ := asK_out w2 (r1.mono g2.eg) e
    obtain rfl := keyD_out r2 ek
    rcases rt.get kk with ⟨_, b1⟩ | ⟨v, d, a1, b1, rv⟩
    · rw [b1] at eg; cases eg
    · rw [b1] at eg; cases eg
      refine ⟨a, v, rfl, ?_, b _ _ μ2 G2 H2 q2 w2 (g1.trans g2) rv⟩
      have := DGet.k (k := kk) h
      rw [getV_eq, a1] at this
      exact this
/-! ### comprehensions -/
set_option checkBinderAnnotations false in
def rDcW (it : DIt) (rg : RG) (rt : RT) (rk rv : RE) (vs : List Nat) (δ : Sl) (μ1 : Mu) [fin : List (Key × D) → Mu → Prop] : Prop :=
  it.n ≤ 1000000 ∧ ∃ Inv : Nat → List (Key × D) → Mu → Prop, Inv 0 [] μ1 ∧ (∀ i acc μ, Inv i acc μ → it.ok μ) ∧
    (∀ i acc μ d, i < it.n → it.at_ i = some d → Inv i acc μ → rg d (wipeD δ vs) μ fun δ2 μ2 => rt δ2 μ2 fun b μ3 => if b = true then rk δ2 μ3 fun y μ4 => rv δ2 μ4 fun z μ5 => ∃ k, keyD y = some k ∧ Inv (i + 1) (putG acc k z) μ5 else Inv (i + 1) acc μ3) ∧
    (∀ acc μ, Inv it.n acc μ → fin acc μ)
@[simp] def rDc (ri : RI) (rg : RG) (rt : RT) (rk rv : RE) (vs : List Nat) : RE := fun δ μ k => ri δ μ fun it μ1 => @rDcW it rg rt rk rv vs δ μ1 fun acc μ' => k (.dk (acc.map (·.1)) (acc.map (·.2))) μ'
@[simp] def rDcO (ri : RI) (rg : RG) (rt : RT) (rk rv : RE) (vs : List Nat) : RE := fun δ μ k => ri δ μ fun it μ1 => @rDcW it rg rt rk rv vs δ μ1 fun acc μ' => ∀ p, μ' p = none → k (.own p) (muSet μ' p (.k acc))
theorem dc_run {J : It} {it : DIt} {g : TG} {rg : RG} {tt : TT} {rt : RT} {tk tv : TE} {rk rv : RE} {vs js : List Nat} {fin : List (Key × D) → Mu → Prop} {σ : L2.St} {δ : Sl} {μ : Mu} {G H : Hp} {Dl : Addr} {Qd : Hp → Prop}
    (hg : OkG K g rg js) (ht : OkT K tt rt) (hk : OkE K tk rk) (he : OkE K tv rv) (hj : js.all (fun i => decide (i ∈ vs)) = true) (S : SlOk K G σ δ) (w : Wd K G H μ) (io : ItOk K G J it) (hD : H Dl = none) (q : @rDcW it rg rt rk rv vs δ μ fin)
    (b : ∀ acc μ' G' H' xs, fin acc μ' → Wd K G' H' μ' → Go μ G H μ' G' (fun a => if a = Dl then none else H' a) → H' Dl = some (.dK xs) → G' Dl = none → μ' Dl = none → RepT K G' xs acc → Qd H') :
    ∃ W : Nat → Nat → Hp → Prop, (∃ m, W 0 m (upd H Dl (.dK []))) ∧ ∀ i m H1, W i m H1 →
      (J.stop i H1 ∧ Qd H1) ∨ (J.go i H1 ∧ ∃ Nx : Hp → Prop, (∀ H', Nx H' → ∃ m', m' < m ∧ W (i + 1) m' H') ∧ ∀ x H', J.yld i H1 x H' → g x (L2.wipe σ vs) H' fun σ2 H2 => L2.wipe σ2 vs = L2.wipe σ vs ∧ tt σ2 H2 fun b H3 =>
        if b = true then tk σ2 H3 fun y H4 => tv σ2 H4 fun z H5 => ∃ kvs k, y = kV k ∧ H5 Dl = some (.dK kvs) ∧ kvs.length < sizeLine ∧ Nx (upd H5 Dl (.dK (putK kvs k z))) else Nx H3) := by
  obtain ⟨hn, Inv, i0, iok, istep, iend⟩ := q
  have gD : G Dl = none := w.gnone hD
  have mD : μ Dl = none := w.mnone hD
  have wD : Wd K G (upd H Dl (.dK [])) μ := ⟨fun a o e => by rw [upd_ne (ne_of_none (w.ex _ _ e) hD)]; exact w.ex _ _ e, fun p ds e => by
    obtain ⟨a1, vs', a2, a3⟩ := w.mu p ds e
    exact ⟨a1, vs', by rw [upd_ne (ne_of_none a2 hD)]; exact a2, a3⟩⟩
  refine ⟨fun i m H1 => m = it.n - i ∧ i ≤ it.n ∧ ∃ acc μ1 G1 xs, Inv i acc μ1 ∧ Wd K G1 H1 μ1 ∧ Go μ G (upd H Dl (.dK [])) μ1 G1 (fun a => if a = Dl then some (.dK []) else H1 a) ∧ H1 Dl = some (.dK xs) ∧ G1 Dl = none ∧ μ1 Dl = none ∧ RepT K G1 xs acc ∧ acc.length ≤ i,
    ⟨it.n, rfl, Nat.zero_le _, [], μ, G, [], i0, wD, ?_, upd_same, gD, mD, .nil, Nat.le_refl _⟩, ?_⟩
  · have e : (fun a => if a = Dl then some (HO.dK []) else upd H Dl (.dK []) a) = upd H Dl (.dK []) := by
      funext a
      by_cases h : a = Dl
      · simp only [h, if_true]; rw [upd_same]
      · simp only [h, if_false]
    rw [e]
    exact Go.refl _ _ _
  · rintro i m H1 ⟨hm, hi, acc, μ1, G1, xs, hI, w1, g1, hx, gx, mx, rl, la⟩
    have e1 : Ex G G1 := g1.eg
    obtain ⟨hstop, hgo⟩ := io i μ1 G1 H1 e1 w1 (iok i acc μ1 hI)
    by_cases hin : i = it.n
    · refine .inl ⟨hstop hin.symm, b acc μ1 G1 H1 xs (iend acc μ1 (hin ▸ hI)) w1 ⟨e1, fun a o e hm => ?_, fun a e => ?_, fun a e => ?_⟩ hx gx mx rl⟩
      · have hne : a ≠ Dl := ne_of_none e hD
        have := g1.kp a o (by rw [upd_ne hne]; exact e) hm
        simp only [hne, if_false] at this ⊢
        exact this
      · rcases g1.dm a e with z | z
        · exact .inl z
        · by_cases hne : a = Dl
          · subst hne; exact .inr hD
          · rw [upd_ne hne] at z; exact .inr z
      · rcases g1.gf a e with z | z | z | ⟨ts, z⟩
        · exact .inl z
        · exact .inr (.inl z)
        · by_cases hne : a = Dl
          · subst hne; exact .inr (.inr (.inl hD))
          · rw [upd_ne hne] at z; exact .inr (.inr (.inl z))
        · by_cases hne : a = Dl
          · subst hne; exact .inr (.inr (.inl hD))
          · rw [upd_ne hne] at z; exact .inr (.inr (.inr ⟨ts, z⟩))
    · have hlt : i < it.n := Nat.lt_of_le_of_ne hi hin
      obtain ⟨hgo, hy⟩ := hgo hlt
      refine .inr ⟨hgo, fun H' => ∃ acc' μ' G' xs', Inv (i + 1) acc' μ' ∧ Wd K G' H' μ' ∧ Go μ G (upd H Dl (.dK [])) μ' G' (fun a => if a = Dl then some (.dK []) else H' a) ∧ H' Dl = some (.dK xs') ∧ G' Dl = none ∧ μ' Dl = none ∧ RepT K G' xs' acc' ∧ acc'.length ≤ i + 1,
        fun H' hN => ⟨it.n - (i + 1), by omega, rfl, hlt, hN⟩, fun x H' hyl => ?_⟩
      obtain ⟨d, G2, ed, w2, g2, rd⟩ := hy x H' hyl
      have S1 : SlOk K G2 (L2.wipe σ vs) (wipeD δ vs) := (S.mono (e1.trans g2.eg)).wipe vs
      have keepD : ∀ {μa μb : Mu} {Ga Gb Ha Hb : Hp} {xs : List (Key × V)}, Go μa Ga Ha μb Gb Hb → Ha Dl = some (.dK xs) → Ga Dl = none → μa Dl = none → Hb Dl = some (.dK xs) ∧ Gb Dl = none ∧ μb Dl = none := fun g h1 h2 h3 => by
        refine ⟨g.kp _ _ h1 h3, ?_, g.none_mu h1 h3⟩
        rename_i μa μb Ga Gb Ha Hb xs
        cases e : Gb Dl with
        | none => rfl
        | some o =>
          rcases g.gf Dl (by rw [e]; simp) with z | z | z | ⟨ts, z⟩
          · exact absurd h2 z
          · exact absurd h3 z
          · rw [h1] at z; cases z
          · rw [h1] at z; cases z
      have hide : ∀ {μa μb : Mu} {Ga Gb Ha Hb : Hp} {xs : List (Key × V)}, Go μa Ga Ha μb Gb Hb → Ha Dl = some (.dK xs) → Go μa Ga (fun a => if a = Dl then some (.dK []) else Ha a) μb Gb (fun a => if a = Dl then some (.dK []) else Hb a) := fun g h1 => by
        refine ⟨g.eg, fun a o e hm => ?_, fun a e => ?_, fun a e => ?_⟩
        · by_cases hne : a = Dl
          · simp only [hne, if_true] at e ⊢; exact e
          · simp only [hne, if_false] at e ⊢; exact g.kp a o e hm
        · rcases g.dm a e with z | z
          · exact .inl z
          · by_cases hne : a = Dl
            · rw [hne, h1] at z; cases z
            · right; simp only [hne, if_false]; exact z
        · rcases g.gf a e with z | z | z | ⟨ts, z⟩
          · exact .inl z
          · exact .inr (.inl z)
          · by_cases hne : a = Dl
            · rw [hne, h1] at z; cases z
            · right; right; left; simp only [hne, if_false]; exact z
          · by_cases hne : a = Dl
            · rw [hne, h1] at z; cases z
            · right; right; right; refine ⟨ts, ?_⟩; simp only [hne, if_false]; exact z
      obtain ⟨hx2, gx2, mx2⟩ := keepD g2 hx gx mx
      have g12 := g1.trans (hide g2 hx)
      refine hg x d (L2.wipe σ vs) (wipeD δ vs) μ1 G2 H' _ _ S1 w2 rd (istep i acc μ1 d hlt ed hI) fun σ2 δ2 μ3 G3 H3 q3 S3 w3 g3 l3 => ⟨?_, ?_⟩
      · rw [← wipe_wipe σ vs]
        refine wipe_of l3.1 fun j hjv => l3.2 j fun z => hjv ?_
        have := List.all_eq_true.mp hj j z
        exact of_decide_eq_true this
      · obtain ⟨hx3, gx3, mx3⟩ := keepD g3 hx2 gx2 mx2
        refine ht σ2 δ2 μ3 G3 H3 _ _ S3 w3 q3 fun c μ4 G4 H4 q4 w4 g4 => ?_
        obtain ⟨hx4, gx4, mx4⟩ := keepD g4 hx3 gx3 mx3
        have g14 := (g12.trans (hide g3 hx2)).trans (hide g4 hx3)
        cases c with
        | true =>
          refine hk σ2 δ2 μ4 G4 H4 _ _ (S3.mono g4.eg) w4 q4 fun vk dk μ5 G5 H5 q5 w5 g5 r5 => ?_
          obtain ⟨hx5, gx5, mx5⟩ := keepD g5 hx4 gx4 mx4
          have g15 := g14.trans (hide g5 hx4)
          refine he σ2 δ2 μ5 G5 H5 _ _ ((S3.mono g4.eg).mono g5.eg) w5 q5 fun v y μ6 G6 H6 ⟨kk, ekk, q6⟩ w6 g6 r6 => ?_
          obtain ⟨hx6, gx6, mx6⟩ := keepD g6 hx5 gx5 mx5
          have g16 := g15.trans (hide g6 hx5)
          have rl6 := rl.mono (g2.eg.trans (g3.eg.trans (g4.eg.trans (g5.eg.trans g6.eg))))
          refine ⟨xs, kk, keyD_out r5 ekk, hx6, sz_lt (by rw [rl.length]; omega), putG acc kk y, μ6, G6, putK xs kk v, q6, ⟨fun a o e => ?_, fun p ds e => ?_⟩, ?_, upd_same, gx6, mx6, rl6.put kk r6, by have := putG_len acc kk y; omega⟩
          · have hne : a ≠ Dl := ne_of_none e gx6
            rw [upd_ne hne]; exact w6.ex _ _ e
          · obtain ⟨a1, vs', a2, a3⟩ := w6.mu p ds e
            have hne : p ≠ Dl := fun z => by subst z; rw [mx6] at e; cases e
            exact ⟨a1, vs', by rw [upd_ne hne]; exact a2, a3⟩
          · have e : (fun a => if a = Dl then some (HO.dK []) else upd H6 Dl (.dK (putK xs kk v)) a) = (fun a => if a = Dl then some (HO.dK []) else H6 a) := by
              funext a
              by_cases h : a = Dl
              · simp only [h, if_true]
              · simp only [h, if_false]; rw [upd_ne h]
            rw [e]
            exact g16
        | false =>
          exact ⟨acc, μ4, G4, xs, q4, w4, g14, hx4, gx4, mx4, rl.mono (g2.eg.trans (g3.eg.trans g4.eg)), by omega⟩
theorem okE_dc {wi : TI} {ri : RI} {g : TG} {rg : RG} {tt : TT} {rt : RT} {tk tv : TE} {rk rv : RE} {vs js : List Nat} (hi : OkI K wi ri) (hg : OkG K g rg js) (ht : OkT K tt rt) (hk : OkE K tk rk) (he : OkE K tv rv) (hj : js.all (fun i => decide (i ∈ vs)) = true) :
    OkE K (tDc wi g tt tk tv vs) (rDc ri rg rt rk rv vs) := fun σ δ μ G H k Q S w q b =>
  hi σ δ μ G H _ _ S w q fun J it μ1 G1 H1 q1 w1 g1 io Dl hD => dc_run hg ht hk he hj (S.mono g1.eg) w1 io hD q1 fun acc μ' G' H' xs fn w' g' hx gx mx rl => by
    have rp : Rep K (upd G' Dl (.dK xs)) (.ref Dl) (.dk (acc.map (·.1)) (acc.map (·.2))) := RepC.rep (c := .k acc) gx (.k rl.ks rl.vs) rfl
    refine b _ _ μ' (upd G' Dl (.dK xs)) H' fn ⟨fun a o e => ?_, fun p ds e => ?_⟩ ⟨g1.eg.trans (g'.eg.trans (Ex.new gx)), fun a o e hm => ?_, fun a e => ?_, fun a e => ?_⟩ rp
    · by_cases hne : a = Dl
      · subst hne; rw [upd_same] at e; rw [← e]; exact hx
      · rw [upd_ne hne] at e; exact w'.ex _ _ e
    · obtain ⟨a1, vs', a2, a3⟩ := w'.mu p ds e
      have hne : p ≠ Dl := fun z => by subst z; rw [mx] at e; cases e
      exact ⟨by rw [upd_ne hne]; exact a1, vs', a2, a3.mono (Ex.new gx)⟩
    · have e1 := (g1.trans g').kp a o e hm
      have hne : a ≠ Dl := fun z => by subst z; simp at e1
      simp only [hne, if_false] at e1
      exact e1
    · exact (g1.trans g').dm a e
    · by_cases hne : a = Dl
      · subst hne
        rcases g1.back hD with z | z
        · exact .inr (.inl z)
        · exact .inr (.inr (.inl z))
      · rw [upd_ne hne] at e; exact (g1.trans g').gf a e
theorem okE_dcO {wi : TI} {ri : RI} {g : TG} {rg : RG} {tt : TT} {rt : RT} {tk tv : TE} {rk rv : RE} {vs js : List Nat} (hi : OkI K wi ri) (hg : OkG K g rg js) (ht : OkT K tt rt) (hk : OkE K tk rk) (he : OkE K tv rv) (hj : js.all (fun i => decide (i ∈ vs)) = true) :
    OkE K (tDc wi g tt tk tv vs) (rDcO ri rg rt rk rv vs) := fun σ δ μ G H k Q S w q b =>
  hi σ δ μ G H _ _ S w q fun J it μ1 G1 H1 q1 w1 g1 io Dl hD => dc_run hg ht hk he hj (S.mono g1.eg) w1 io hD q1 fun acc μ' G' H' xs fn w' g' hx gx mx rl => by
    refine b _ _ (muSet μ' Dl (.k acc)) G' H' (fn Dl mx) ⟨w'.ex, fun p ds e => ?_⟩ ⟨g1.eg.trans g'.eg, fun a o e hm => ?_, fun a e => ?_, fun a e => (g1.trans g').gf a e⟩ (.own Dl)
    · by_cases hne : p = Dl
      · subst hne; rw [muSet_same] at e; cases e; exact ⟨gx, .dK xs, hx, .k rl.ks rl.vs⟩
      · rw [muSet_ne hne] at e; exact w'.mu p ds e
    · have e1 := (g1.trans g').kp a o e hm
      have hne : a ≠ Dl := fun z => by subst z; simp at e1
      simp only [hne, if_false] at e1
      exact e1
    · by_cases hne : a = Dl
      · subst hne
        exact g1.back hD
      · rw [muSet_ne hne] at e; exact (g1.trans g').dm a e
end
end DL


set_option Elab.async false
set_option linter.all false
set_option maxRecDepth 100000
set_option maxHeartbeats 4000000
/-! DLq: dicts: a name for a comprehension, update, sorted; ranges with a step; laws for comprehensions of dicts. -/
namespace DL
open PySem PySem.Spec PyProof.Rows L2 SlX
section
variable {X : Cx}
theorem swd_true {kx vx : Expr} {gs : List Comprehension} {scope : Scope} {pos py : Pos} {y : Str} {l : Nat} {env : Env} (hk : env.scope.kind = .function) (hy : env.scope.names.lookup y = some .local) (hl : (py.line == pos.line) = true)
    (ha : (scope.names.any fun (n, k) => n == y && (k == .local || k == .cell)) = false) : swapsWith (.DictComp kx vx gs scope pos) (some (.Name y py)) l env = pure true := by
  have ky : env.kindOf y = some .local := hy
  have hb : env.blockKind = .function := by unfold Env.blockKind; rw [hk]; rfl
  unfold swapsWith
  simp only [hb, ky, ha, Expr.pos, hl]
  rfl
theorem ps_setDc {i : Nat} {y : Str} {py : Pos} {kx vx tg iter : Expr} {ifs : List Expr} {scope : Scope} {own : List (Str × Nat)} {pos spos : Pos} {wi : TI} {g : TG} {tt : TT} {tk tv : TE} (hc : X.calm = true) (hN : X.N.Nodup) (hy : X.N[i]? = some y) (hyl : X.env.scope.names.lookup y = some .local)
    (hsw : swapsWith (.DictComp kx vx [⟨tg, iter, ifs, 0⟩] scope pos) (some (.Name y py)) spos.line X.env = pure true) (hi : PI X tg iter wi) (ok : BlkOk X.N X.env.scope scope own)
    (hg : ∀ (s : Shared) (H : Hp) (C : Addr) (cl : List (Str × Addr)) (fp : List Addr), PG (X.blk s H scope (compEnvC scope cl C X.env) fp) tg g) (ht : ∀ (s : Shared) (H : Hp) (C : Addr) (cl : List (Str × Addr)) (fp : List Addr), PTs (X.blk s H scope (compEnvC scope cl C X.env) fp) ifs tt)
    (hk : ∀ (s : Shared) (H : Hp) (C : Addr) (cl : List (Str × Addr)) (fp : List Addr), PE (X.blk s H scope (compEnvC scope cl C X.env) fp) kx tk)
    (he : ∀ (s : Shared) (H : Hp) (C : Addr) (cl : List (Str × Addr)) (fp : List Addr), PE (X.blk s H scope (compEnvC scope cl C X.env) fp) vx tv) (hs : ∀ x, foldedSetIterable iter X.env x = pure x := by intro _; rfl) :
    PS X (.Assign [.Name y py] (.DictComp kx vx [⟨tg, iter, ifs, 0⟩] scope pos) spos) (tAsg (tDc wi g tt tk tv (own.map (·.2))) (gName i)) := by
  refine ⟨fun pins s σ H D I h => ?_⟩
  rw [exec_Assign_Name_used _ _ _ _ hsw]
  refine wpAny_bind (wpAny_standAt (wpAny_bind ?_))
  have h : tDc wi g tt tk tv (own.map (·.2)) σ H (fun x H1 => gName i x σ H1 D.nx) := h
  refine wpAny_bind (thn (dc_core (Qf := fun _ s' => SP X pins D .next s') hc hN I hi ok hg ht hk he hs h fun L C s' m H' I' q hn f => ?_) fun _ s' hq => wpAny_pure (wpAny_pure hq))
  show wpAny _ _ (assign (.Name y py) X.env (.ref L)) _ _ _
  refine wpAny_assign_Name (store_ok2 (v := V.ref L) I' hN hy (.inl hyl) rfl (fun s2 I2 ⟨a, sb, ha⟩ => ?_) (.inr hyl))
  obtain ⟨f0, f1, f2, f3, f4, f5⟩ := f
  have haC : C ≠ a := by
    rcases ha with z | z
    · rw [z]; exact f1
    · exact fun e => f4 y a z e.symm
  refine ⟨m, hn.sameBut sb haC, fun h3 sb3 => ?_⟩
  exact ⟨_, H', I2.turned (t' := s2.toks) (fun b o hb e => (sb3.2 b hb).trans e) f0 f1 f3 f4 f5, q⟩
end
/-! ### d.update(e), e another dict -/
theorem KV.merge {κ : Type} [DecidableEq κ] {more : List (κ × V)} {ws : List (κ × Value)} (s : KV more ws) : ∀ {kvs : List (κ × V)} {vs : List (κ × Value)}, KV kvs vs → KV (mergeG kvs more) (merged vs ws) := by
  unfold KV at s
  induction s with
  | nil => intro kvs vs r; exact r
  | @cons p q ps qs h t ih =>
    intro kvs vs r
    have r1 := L2.KV.put r p.1 h.2
    rw [putV_eq] at r1
    show KV (mergeG (putG kvs p.1 p.2) ps) (merged (stored vs q.1 q.2) qs)
    rw [← h.1]
    exact ih r1
def rUpdK : V → List V → Hp → VK → Prop := fun x xs H Q => ∃ (a b : Addr) (kvs more : List (Key × V)), x = .ref a ∧ xs = [.ref b] ∧ a ≠ b ∧ H a = some (.dK kvs) ∧ H b = some (.dK more) ∧ kvs.length + more.length ≤ sizeLine ∧ Q .non (upd H a (.dK (mergeG kvs more)))
theorem mt_updK {X : Cx} : MtR X "dict.update" rUpdK := by
  intro pins s σ H x xs v us Q I rx rxs h
  obtain ⟨a, b, kvs, more, rfl, rfl, hne, ha, hb, hz, q⟩ := h
  cases rx
  obtain ⟨u1, rfl, r1⟩ := vals1 rxs
  cases r1
  obtain ⟨z, hd, vs, rel, dd⟩ := dk_of I.hok ha
  obtain ⟨z2, hd2, ws, rel2, dd2⟩ := dk_of I.hok hb
  have l1 : vs.length = kvs.length := by have := congrArg List.length rel.keys; simpa using this.symm
  have l2 : ws.length = more.length := by have := congrArg List.length rel2.keys; simpa using this.symm
  refine call_meetsIn PySem.F.slot_dict_update dd.typeIs PySem.F.entry_dict_update (PySem.F.args_dict_update_2 _ _) (meets_dict_update (mixKind X.prog X.w) a b hne hd2) ⟨vs, ws, dd, dd2, by omega, fun h' dd' _ hs => ?_⟩
  have he : ∃ q, h'.get? a = some q := let ⟨q, _, _, hq, _⟩ := dd'; ⟨q, hq⟩
  have hl : (mergeG kvs more).length ≤ sizeLine := by have := mergeG_len more kvs; omega
  exact ⟨.non, _, d_write I (by rw [ha]; exact True.intro) hs he (dk_new hl hd (KV.merge rel2 rel) dd'), rfl, q⟩
section
variable (K : PySem.W.Frag) {X : Cx}
theorem ke_updK {o e : Expr} {apos cpos : Pos} {to : TE} {t : TA} (ho : PE X o to) (ha : PA X [e] t) (hK : X.K = K := by rfl)
    (hbase : attributeBase o "update" X.env (eval o X.env) = eval o X.env := by rfl)
    (hfew : ((backTo cpos (starEach [e] X.env)).all (fun x => !x.1) && (backToKw cpos (keywordEach [] X.env)).all (fun x => x.1.isSome) && decide ([e].length + ([] : List Keyword).length + (if ([] : List Keyword).isEmpty then 0 else 1) < 30)) = true := by rfl)
    (hline : (apos.endLine == cpos.line) = true := by rfl) (hs : starEach [e] X.env = (false, eval e X.env) :: starEach [] X.env := by rfl) (hplain : (backTo cpos (starEach [] X.env)).any (·.1) = false := by rfl) :
    PE X (.Call (.Attribute o "update" apos) [e] [] cpos) (tBM K "dict" rUpdK to t) := by
  subst hK; exact pe_bm PySem.F.plainAttrs_dict PySem.F.slot_dict_update PySem.F.type_dict_update mt_updK ho ha hbase hfew hline hs hplain
theorem kc_sortedK (hc : X.calm = true := by rfl) (hK : X.K = K := by rfl) : CallR X (.builtin "sorted") (fun xs H Q => ∃ (a : Addr) (kvs : List (Key × V)) (ks : List Int), xs = [.ref a] ∧ L2.Rd H a (.dK kvs) ∧ kvs.map (·.1) = ks.map Sum.inl ∧ ks.length < 64 ∧
    ∀ (ys : List Int) (p : Addr), ys.Perm ks → ys.Pairwise (· ≤ ·) → H p = none → Q (.ref p) (upd H p (.lst (ys.map V.int)))) := call_sortedDI hc
theorem kc_sorted (hK : X.K = K := by rfl) : CallR X (.builtin "sorted") (rSorted K) := by subst hK; exact cr_sorted
end
theorem kr_range3 {X : Cx} {tg a b c : Expr} {ta : TA} {p pos : Pos} {mg : Str → Option Value} (hm : mg "range" = none) (ha : PA X [a, b, c] ta) (hg : Gl X "range" := by rfl) (hmg : X.mg = mg := by rfl) (hs : starEach [a, b, c] X.env = (false, eval a X.env) :: starEach [b, c] X.env := by rfl) (hpl : (backTo pos (starEach [b, c] X.env)).any (·.1) = false := by rfl) : PI X tg (.Call (.Name "range" p) [a, b, c] [] pos) (iRng3 ta) := by
  subst hmg; exact pi_range3 hg hm ha hs hpl
section
variable {K : PySem.W.Frag}
/-- d.update(e), e a dict that does not change -/
@[simp] def rUpd (ro re : RE) : RE := fun δ μ k => ro δ μ fun o μ1 => match o with
  | .own p => (∃ kvs, μ1 p = some (.k kvs)) ∧ re δ μ1 fun d μ2 => match d with
    | .dk ks ds => ∃ kvs, μ2 p = some (.k kvs) ∧ kvs.length + ks.length ≤ 1000000 ∧ k .non (muSet μ2 p (.k (mergeG kvs (ks.zip ds))))
    | _ => False
  | _ => False
theorem own_tyK {μ : Mu} {G H : Hp} {p : Addr} (w : Wd K G H μ) (h : ∃ kvs, μ p = some (.k kvs)) : tyV K "dict" (.ref p) H := by
  obtain ⟨kvs, e2⟩ := h
  obtain ⟨_, vs, h, _⟩ := w.muK p kvs e2
  exact .inr (.inr (.inl ⟨rfl, .inl ⟨_, h⟩⟩))
theorem okE_upd {to te : TE} {ro re : RE} (ho : OkE K to ro) (he : OkE K te re) : OkE K (tBM K "dict" rUpdK to (tCons te tNil)) (rUpd ro re) := fun σ δ μ G H k Q S w q b =>
  ho σ δ μ G H _ _ S w q fun x o μ1 G1 H1 q1 w1 g1 r1 => by
    cases r1 with
    | own p =>
      obtain ⟨hp, q1⟩ := q1
      refine ⟨own_tyK w1 hp, he σ δ μ1 G1 H1 _ _ (S.mono g1.eg) w1 q1 fun v d μ2 G2 H2 q2 w2 g2 r2 => ?_⟩
      cases r2 with
      | @dk a ks vs ds h hl rd =>
        obtain ⟨kvs, e, hz, q3⟩ := q2
        obtain ⟨gp, ws, hw, e1, rw⟩ := w2.muK p kvs e
        have rt : RepT K G2 ws kvs := ⟨e1, rw⟩
        have rm : RepT K G2 (ks.zip vs) (ks.zip ds) := RepT.back (by rw [List.map_fst_zip (by omega)]) (by rw [List.map_snd_zip (by omega)]; exact rd)
        have hne : p ≠ a := fun z => by subst z; rw [gp] at h; cases h
        have rr := rm.merge rt
        refine ⟨p, a, ws, ks.zip vs, rfl, rfl, hne, hw, w2.ex _ _ h, sz_of (by rw [rt.length, List.length_zip]; omega), b _ _ _ G2 _ q3 (w2.wrC (o := .dK (mergeG ws (ks.zip vs))) e (.k rr.ks rr.vs)) ((g1.trans g2).trans (Go.wrC e)) .non⟩
      | _ => exact q2.elim
    | _ => exact q1.elim
-- sorted(d), its keys ints
set_option checkBinderAnnotations false in
def hSortK (xs : List D) (μ : Mu) [k : DK] : Prop := match xs with | [x] => ∃ (kvs : List (Key × D)) (ks : List Int), asK μ x = some kvs ∧ kvs.map (·.1) = ks.map Sum.inl ∧ ks.length < 64 ∧ ∀ ys : List Int, ys.Perm ks → ys.Pairwise (· ≤ ·) → k (.lst (ys.map D.int)) μ | _ => False
@[simp] def oSortK : FL := fun xs μ k => @hSortK xs μ k
theorem okSortK : OkC K (fun xs H Q => ∃ (a : Addr) (kvs : List (Key × V)) (ks : List Int), xs = [.ref a] ∧ L2.Rd H a (.dK kvs) ∧ kvs.map (·.1) = ks.map Sum.inl ∧ ks.length < 64 ∧
    ∀ (ys : List Int) (p : Addr), ys.Perm ks → ys.Pairwise (· ≤ ·) → H p = none → Q (.ref p) (upd H p (.lst (ys.map V.int)))) oSortK := fun xs as μ G H k Q w r q t => by
  unfold oSortK hSortK at q
  split at q
  · obtain ⟨kvs, ks, e, e1, hl, q⟩ := q
    obtain ⟨v, rfl, rx⟩ := one_arg r
    obtain ⟨a, vs, rfl, h, rt⟩ := asK_out w rx e
    exact ⟨a, vs, ks, rfl, .inl h, rt.ks.trans e1, hl, fun ys p h1 h2 hp => mkLst w (RepL.of_ints ys) (q ys h1 h2) t p hp⟩
  · exact q.elim
-- sorted(xs), whole numbers
set_option checkBinderAnnotations false in
def hSortI (xs : List D) (μ : Mu) [k : DK] : Prop := match xs with | [x] => ∃ ks : List Int, asL μ x = some (ks.map D.int) ∧ ks.length < 64 ∧ ∀ ys : List Int, ys.Perm ks → ys.Pairwise (· ≤ ·) → k (.lst (ys.map D.int)) μ | _ => False
@[simp] def oSortI : FL := fun xs μ k => @hSortI xs μ k
theorem okSortI : OkC K (rSorted K) oSortI := fun xs as μ G H k Q w r q t => by
  unfold oSortI hSortI at q
  split at q
  · obtain ⟨ks, e, hl, q⟩ := q
    obtain ⟨v, rfl, rx⟩ := one_arg r
    obtain ⟨a, rfl, h⟩ := asI_out w rx e
    exact ⟨a, ks, rfl, SqL.of h, hl, fun ys p h1 h2 hp => mkLst w (RepL.of_ints ys) (q ys h1 h2) t p hp⟩
  · exact q.elim
end
theorem units1 {a : Nat} (h : a + 64 < cLine) : a + 1 < cLine := by omega
/-! ### laws -/
/-- each element alone, nothing changes: kept by p, with the key kk, the value g -/
theorem dcW_inv {it : DIt} {rg : RG} {rt : RT} {rk rv : RE} {vs : List Nat} {δ : Sl} {μ : Mu} {fin : List (Key × D) → Mu → Prop} {α : Type} (xs : List α) (e : α → D) (s : Src it μ (xs.map e)) (hn : xs.length ≤ 1000000)
    (Inv : Nat → List (Key × D) → Mu → Prop) (h0 : Inv 0 [] μ) (hok : ∀ i acc μ', Inv i acc μ' → it.ok μ')
    (step : ∀ i x acc μ', xs[i]? = some x → Inv i acc μ' → rg (e x) (wipeD δ vs) μ' fun δ2 μ2 => rt δ2 μ2 fun b μ3 => if b = true then rk δ2 μ3 fun y μ4 => rv δ2 μ4 fun z μ5 => ∃ k, keyD y = some k ∧ Inv (i + 1) (putG acc k z) μ5 else Inv (i + 1) acc μ3)
    (h : ∀ acc μ', Inv xs.length acc μ' → fin acc μ') : @rDcW it rg rt rk rv vs δ μ fin := by
  have hl : it.n = xs.length := by rw [s.len, List.length_map]
  refine ⟨by rw [hl]; exact hn, Inv, h0, hok, fun i acc μ' d hi hd q => ?_, fun acc μ' q => h acc μ' (hl ▸ q)⟩
  obtain ⟨x, hx, rfl⟩ := s.get hi hd
  exact step i x acc μ' hx q
theorem dcW_filt {it : DIt} {rg : RG} {rt : RT} {rk rv : RE} {vs : List Nat} {δ : Sl} {μ : Mu} {fin : List (Key × D) → Mu → Prop} {α : Type} (xs : List α) (e : α → D) (kk : α → Key) (g : α → D) (p : α → Bool) (s : Src it μ (xs.map e)) (hn : xs.length ≤ 1000000)
    (step : ∀ x ∈ xs, ∀ (kt : Key → DK) (kf : Mu → Prop), (p x = true → kt (kk x) (g x) μ) → (p x = false → kf μ) → rg (e x) (wipeD δ vs) μ fun δ2 μ2 => rt δ2 μ2 fun b μ3 => if b = true then rk δ2 μ3 fun y μ4 => rv δ2 μ4 fun z μ5 => ∃ k, keyD y = some k ∧ kt k z μ5 else kf μ3)
    (h : fin ((xs.filter p).foldl (fun acc x => putG acc (kk x) (g x)) []) μ) : @rDcW it rg rt rk rv vs δ μ fin := by
  refine dcW_inv xs e s hn (fun i acc μ' => μ' = μ ∧ acc = ((xs.take i).filter p).foldl (fun acc x => putG acc (kk x) (g x)) []) ⟨rfl, by simp⟩ (fun i acc μ' q => q.1 ▸ s.ok) (fun i x acc μ' hx q => ?_) (fun acc μ' q => ?_)
  · obtain ⟨rfl, rfl⟩ := q
    refine step x (List.mem_of_getElem? hx) (fun k z μ5 => μ5 = μ' ∧ putG _ k z = _) _ (fun hp => ⟨rfl, ?_⟩) (fun hp => ⟨rfl, ?_⟩)
    · rw [take_succ_of hx, List.filter_append, List.foldl_append]; simp [hp]
    · rw [take_succ_of hx, List.filter_append, List.foldl_append]; simp [hp]
  · obtain ⟨rfl, rfl⟩ := q
    rw [List.take_length]
    exact h
/-- new keys only: the entries one by one -/
theorem putG_new {κ α : Type} [DecidableEq κ] {kvs : List (κ × α)} {k : κ} (v : α) (h : ∀ kv ∈ kvs, kv.1 ≠ k) : putG kvs k v = kvs ++ [(k, v)] := by
  unfold putG
  rw [if_neg]
  rw [List.any_eq_true]
  rintro ⟨kv, hkv, e⟩
  exact h kv hkv (of_decide_eq_true e)
theorem fold_new {κ α β : Type} [DecidableEq κ] {kk : β → κ} {g : β → α} : ∀ {xs : List β} {kvs : List (κ × α)}, (xs.map kk).Nodup → (∀ x ∈ xs, ∀ kv ∈ kvs, kv.1 ≠ kk x) → xs.foldl (fun acc x => putG acc (kk x) (g x)) kvs = kvs ++ xs.map fun x => (kk x, g x)
  | [], kvs, _, _ => by simp
  | x :: xs, kvs, hn, hd => by
    rw [List.foldl_cons, putG_new _ (hd x (by simp))]
    have hn' := List.nodup_cons.mp (by simpa using hn : (kk x :: xs.map kk).Nodup)
    rw [fold_new (kvs := kvs ++ [(kk x, g x)]) hn'.2 (fun y hy kv hkv => ?_)]
    · simp
    · rcases List.mem_append.mp hkv with hkv | hkv
      · exact hd y (List.mem_cons_of_mem _ hy) kv hkv
      · rw [List.mem_singleton] at hkv
        subst hkv
        intro e
        exact hn'.1 (by rw [show kk x = kk y from e]; exact List.mem_map_of_mem hy)
section
variable {κ α : Type} [DecidableEq κ]
theorem getG_some {kvs : List (κ × α)} {k : κ} : (getG kvs k).isSome = true ↔ k ∈ kvs.map (·.1) := by
  unfold getG
  rw [Option.isSome_map, List.find?_isSome]
  simp
theorem putG_keys {kvs : List (κ × α)} {k : κ} {v : α} {x : κ} : x ∈ (putG kvs k v).map (·.1) ↔ x ∈ kvs.map (·.1) ∨ x = k := by
  unfold putG
  split
  · rename_i h
    have e : (kvs.map fun kv => if kv.1 = k then (kv.1, v) else kv).map (·.1) = kvs.map (·.1) := by
      rw [List.map_map]
      refine List.map_congr_left fun kv _ => ?_
      simp only [Function.comp_def]
      split <;> rfl
    rw [e]
    constructor
    · exact .inl
    · rintro (q | rfl)
      · exact q
      · obtain ⟨kv, h1, h2⟩ := List.any_eq_true.mp h
        exact List.mem_map.mpr ⟨kv, h1, of_decide_eq_true h2⟩
  · simp
theorem putG_nodup {kvs : List (κ × α)} {k : κ} {v : α} (h : (kvs.map (·.1)).Nodup) : ((putG kvs k v).map (·.1)).Nodup := by
  unfold putG
  split
  · have e : (kvs.map fun kv => if kv.1 = k then (kv.1, v) else kv).map (·.1) = kvs.map (·.1) := by
      rw [List.map_map]
      refine List.map_congr_left fun kv _ => ?_
      simp only [Function.comp_def]
      split <;> rfl
    rw [e]; exact h
  · rename_i hn
    rw [List.map_append, List.nodup_append]
    refine ⟨h, by simp, fun a ha b hb => ?_⟩
    have hb : b = k := by simpa using hb
    subst hb
    rintro rfl
    obtain ⟨kv, h1, h2⟩ := List.mem_map.mp ha
    exact hn (List.any_eq_true.mpr ⟨kv, h1, decide_eq_true h2⟩)
theorem mergeG_keys {more : List (κ × α)} : ∀ {kvs : List (κ × α)} {x : κ}, x ∈ (mergeG kvs more).map (·.1) ↔ x ∈ kvs.map (·.1) ∨ x ∈ more.map (·.1) := by
  induction more with
  | nil => intro kvs x; simp [mergeG]
  | cons m more ih =>
    intro kvs x
    have e : mergeG kvs (m :: more) = mergeG (putG kvs m.1 m.2) more := rfl
    rw [e, ih, putG_keys, List.map_cons, List.mem_cons]
    constructor
    · rintro ((a | b) | c)
      · exact .inl a
      · exact .inr (.inl b)
      · exact .inr (.inr c)
    · rintro (a | b | c)
      · exact .inl (.inl a)
      · exact .inl (.inr b)
      · exact .inr c
theorem mergeG_nodup {more : List (κ × α)} : ∀ {kvs : List (κ × α)}, (kvs.map (·.1)).Nodup → ((mergeG kvs more).map (·.1)).Nodup := by
  induction more with
  | nil => intro kvs h; exact h
  | cons m more ih => intro kvs h; exact ih (putG_nodup h)
theorem fold_merge {β : Type} {kk : β → κ} {g : β → α} : ∀ {xs : List β} {kvs : List (κ × α)}, xs.foldl (fun acc x => putG acc (kk x) (g x)) kvs = mergeG kvs (xs.map fun x => (kk x, g x))
  | [], _ => rfl
  | x :: xs, kvs => by
    rw [List.foldl_cons, fold_merge (xs := xs)]; rfl
end
theorem cast_sorted {ks : List Nat} {ys : List Int} (hk : ks.Pairwise (· < ·)) (hp : ys.Perm (ks.map fun a : Nat => (a : Int))) (hs : ys.Pairwise (· ≤ ·)) : ys = ks.map fun a : Nat => (a : Int) := by
  refine List.Perm.eq_of_pairwise (le := fun a b : Int => a ≤ b) (fun a b _ _ h1 h2 => by omega) hs ?_ hp
  rw [List.pairwise_map]
  exact hk.imp (fun h => by omega)
theorem lt_nodup {ks : List Nat} (hk : ks.Pairwise (· < ·)) : ks.Nodup := hk.imp (fun h => by omega)
/-- sorted(d), its keys just these numbers -/
theorem sorted_of {kvs : List (Key × D)} {kept : List Nat} (hn : (kvs.map (·.1)).Nodup) (hk : kept.Pairwise (· < ·)) (hm : ∀ x : Key, x ∈ kvs.map (·.1) ↔ ∃ a : Nat, x = .inl (a : Int) ∧ a ∈ kept) :
    ∃ ks : List Int, kvs.map (·.1) = ks.map Sum.inl ∧ ks.length = kept.length ∧ ∀ ys : List Int, ys.Perm ks → ys.Pairwise (· ≤ ·) → ys = kept.map fun a : Nat => (a : Int) := by
  obtain ⟨toI, htoI⟩ : ∃ toI : Key → Int, ∀ i, toI (.inl i) = i := ⟨fun k => match k with | .inl i => i | .inr _ => 0, fun _ => rfl⟩
  have h1 : kvs.map (·.1) = ((kvs.map (·.1)).map toI).map Sum.inl := by
    rw [List.map_map]
    conv => lhs; rw [← List.map_id (kvs.map (·.1))]
    refine List.map_congr_left fun x hx => ?_
    obtain ⟨a, rfl, _⟩ := (hm x).mp hx
    simp [htoI]
  have hp : (kvs.map (·.1)).Perm (kept.map fun a : Nat => (.inl (a : Int) : Key)) := by
    refine (List.perm_ext_iff_of_nodup hn ?_).mpr fun x => ?_
    · rw [List.nodup_iff_pairwise_ne, List.pairwise_map]
      exact hk.imp (fun {a b} h z => by have : (a : Int) = b := Sum.inl.inj z; omega)
    · rw [hm]
      constructor
      · rintro ⟨a, rfl, ha⟩; exact List.mem_map.mpr ⟨a, ha, rfl⟩
      · intro h; obtain ⟨a, ha, rfl⟩ := List.mem_map.mp h; exact ⟨a, rfl, ha⟩
  have hp2 : ((kvs.map (·.1)).map toI).Perm (kept.map fun a : Nat => (a : Int)) := by
    have := hp.map toI
    rw [List.map_map (l := kept)] at this
    refine this.trans ?_
    rw [show (toI ∘ fun a : Nat => (Sum.inl (a : Int) : Key)) = fun a : Nat => (a : Int) from by funext a; simp [htoI]]
  exact ⟨(kvs.map (·.1)).map toI, h1, by rw [hp2.length_eq, List.length_map], fun ys h2 h3 => cast_sorted hk (h2.trans hp2) h3⟩
/-- sorted(xs), just these numbers -/
theorem sorted_nats {S kept : List Nat} (hn : S.Nodup) (hk : kept.Pairwise (· < ·)) (hm : ∀ a, a ∈ S ↔ a ∈ kept) {ys : List Int} (hp : ys.Perm (S.map fun a : Nat => (a : Int))) (hs : ys.Pairwise (· ≤ ·)) : ys = kept.map fun a : Nat => (a : Int) :=
  cast_sorted hk (hp.trans (((List.perm_ext_iff_of_nodup hn (lt_nodup hk)).mpr hm).map _)) hs
/-- a walk with a step -/
theorem Src.c {μ : Mu} (lo c : Int) (n : Nat) : Src ⟨n, fun t => some (.int (lo + (t : Nat) * c)), fun _ => True⟩ μ ((List.range n).map fun i : Nat => .int (lo + (i : Nat) * c)) := by
  refine ⟨by simp, fun i d hi h => ?_, trivial⟩
  have hi : i < n := hi
  rw [List.getElem?_map, List.getElem?_range hi]
  exact h
end DL


set_option Elab.async false
set_option linter.all false
set_option maxRecDepth 100000
set_option maxHeartbeats 4000000
/-! DZ: zip of any number of lists, at the library's level. -/
namespace DL
open PySem PySem.Spec PyProof.Rows L2 SlX StX
theorem typeCall_zip (as : List Value) : checkTypeCall "zip" ⟨as, []⟩ = pure () := by kernel_rfl
theorem newCall_zip : ∀ (as : List Value), checkBuiltinCall "zip.__new__" ⟨.type "zip" :: as, []⟩ = pure ()
  | [] => by kernel_rfl
  | a :: as => by kernel_rfl
theorem args_object_init (as : List Value) (obj : Value) : argsOk "object.__init__" ⟨obj :: as, []⟩ := by
  unfold argsOk; rw [signature?_of (id := "object.__init__") (n := ['_', '_', 't', 'i', 'n', 'i', '_', '_']) (o := ['t', 'c', 'e', 'j', 'b', 'o']) (by kernel_rfl) PySem.F.owner_object]; kernel_rfl
def lstIt (l : Addr) : Obj := { cls := .type "list_iterator", data := .fields #[.ref l, .int 0 0] }
def refsN (N : Nat) : Nat → List Value
  | 0 => []
  | n + 1 => refsN N n ++ [.ref (N + n)]
theorem refsN_length (N : Nat) : ∀ n, (refsN N n).length = n
  | 0 => rfl
  | n + 1 => by rw [refsN, List.length_append, refsN_length N n]; rfl
theorem refsN_get (N : Nat) : ∀ n j, j < n → (refsN N n)[j]? = some (.ref (N + j))
  | 0, j, h => absurd h (Nat.not_lt_zero j)
  | n + 1, j, h => by
    rw [refsN]
    by_cases e : j < n
    · rw [List.getElem?_append_left (by rw [refsN_length]; exact e)]; exact refsN_get N n j e
    · have : j = n := by omega
      subst this
      rw [List.getElem?_append_right (by rw [refsN_length]; exact Nat.le_refl _), refsN_length, Nat.sub_self]; rfl
def pushIts (h : Heap) : List Addr → Heap
  | [] => h
  | l :: ls => pushIts (h.push (lstIt l)) ls
theorem pushIts_size : ∀ (ls : List Addr) (h : Heap), (pushIts h ls).objs.size = h.objs.size + ls.length
  | [], h => rfl
  | l :: ls, h => by rw [pushIts, pushIts_size, Heap.size_push, List.length_cons]; omega
theorem pushIts_keep : ∀ (ls : List Addr) (h : Heap) (c : Addr) (o : Obj), h.get? c = some o → (pushIts h ls).get? c = some o
  | [], h, c, o, e => e
  | l :: ls, h, c, o, e => pushIts_keep ls _ c o (Heap.get?_push_of_some _ e)
theorem pushIts_get : ∀ (ls : List Addr) (h : Heap) (j : Nat) (l : Addr), ls[j]? = some l → (pushIts h ls).get? (h.objs.size + j) = some (lstIt l)
  | [], h, j, l, e => by simp at e
  | l' :: ls, h, 0, l, e => by
    simp at e; subst e
    exact pushIts_keep ls _ _ _ (Heap.get?_push_size _ rfl)
  | l' :: ls, h, j + 1, l, e => by
    have := pushIts_get ls (h.push (lstIt l')) j l (by simpa using e)
    rw [Heap.size_push] at this
    rw [pushIts, show h.objs.size + (j + 1) = h.objs.size + 1 + j by omega]
    exact this
theorem pushIts_app : ∀ (ls ls' : List Addr) (h : Heap), pushIts h (ls ++ ls') = pushIts (pushIts h ls) ls'
  | [], ls', h => rfl
  | l :: ls, ls', h => by rw [List.cons_append, pushIts, pushIts, pushIts_app]
section
variable {prog : Program} {w : World} {A : Around} {E : Value → Shared → Prop} {s : Shared}
theorem iterAll_lists {ls : List Addr} {Q : List Value → Shared → Prop} (hl : ∀ l ∈ ls, ∃ its, s.heap.IsList l its) (h : Q (refsN s.heap.objs.size ls.length) { s with heap := pushIts s.heap ls }) :
    wpAny (model prog w) A (Builtin.SmallTypes.iterAll (ls.map Value.ref)) Q E s := by
  unfold Builtin.SmallTypes.iterAll
  refine wpAny_bind (wpAny_forIn_list _ (fun rest b s' => ∃ dn rs, ls = dn ++ rs ∧ rest = rs.map Value.ref ∧ b = (refsN s.heap.objs.size dn.length).toArray ∧ s' = { s with heap := pushIts s.heap dn }) _ ?_ ?_ _ _ ?_)
  · rintro x rest b s' ⟨dn, rs, e1, e2, e3, e4⟩
    cases rs with
    | nil => cases e2
    | cons r rs =>
      cases e2
      subst e3 e4
      obtain ⟨its, hi⟩ := hl r (by rw [e1]; simp)
      refine wpAny_bind (wpAny_holding ?_)
      have hi2 : (pushIts s.heap dn).IsList r its := hi.at fun o e => pushIts_keep _ _ _ _ e
      refine PySem.wpAny_pyIter_list (s := { s with heap := pushIts s.heap dn }) hi2 (wpAny_pure ?_)
      refine ⟨dn ++ [r], rs, by rw [e1, List.append_assoc]; rfl, rfl, ?_, ?_⟩
      · rw [List.length_append]
        show _ = (refsN s.heap.objs.size (dn.length + 1)).toArray
        rw [refsN]
        show ((refsN s.heap.objs.size dn.length).toArray).push (Value.ref (pushIts s.heap dn).objs.size) = _
        rw [pushIts_size]; simp
      · rw [pushIts_app]; rfl
  · rintro b s' ⟨dn, rs, e1, e2, e3, e4⟩
    cases rs with
    | cons r rs => cases e2
    | nil =>
      rw [List.append_nil] at e1
      subst e1 e3 e4
      exact wpAny_pure (by simpa using h)
  · exact ⟨[], ls, rfl, rfl, rfl, rfl⟩
abbrev tupO (as : List Value) : Obj := { cls := .type "tuple", data := .seq as.toArray }
abbrev zipO (f0 : Value) (fl : Bool) (TI TO : Addr) : Obj := { cls := .type "zip", dict := none, data := .fields #[f0, .bool fl, .bool false, .ref TI, .ref TO], slots := #[] }
abbrev hNT (h : Heap) (ls : List Addr) : Heap := (pushIts h ls).push (tupO (refsN h.objs.size ls.length))
abbrev hNO (h : Heap) (ls : List Addr) : Heap := (hNT h ls).push (tupO ((refsN h.objs.size ls.length).map fun _ => .none))
abbrev hNZ (h : Heap) (ls : List Addr) : Heap := (hNO h ls).push (zipO .none false (pushIts h ls).objs.size (hNT h ls).objs.size)
theorem meets_zip_newN (ls : List Addr) (hsz : ls.length ≤ sizeLine) :
    Meets (Builtin.«zip.__new__» ⟨.type "zip" :: ls.map Value.ref, []⟩) (fun _ R s => (∀ l ∈ ls, ∃ its, s.heap.IsList l its) ∧
      R (.ok (.ret (.ref (hNO s.heap ls).objs.size))) { s with heap := hNZ s.heap ls }) :=
  .of_wp fun prog w A R s h => by
    obtain ⟨hp, g, d, tk, os⟩ := s; obtain ⟨hl, h⟩ := h
    have hsub := PySem.sub_zip
    have q : ∀ {A' : Around} {E : Value → Shared → Prop} {Q : List Value → Shared → Prop}, Q (refsN hp.objs.size ls.length) ⟨pushIts hp ls, g, d, tk, os⟩ → wpAny (model prog w) A' (Builtin.SmallTypes.iterAll (ls.map Value.ref)) Q E ⟨hp, g, d, tk, os⟩ :=
      fun q => iterAll_lists (s := ⟨hp, g, d, tk, os⟩) hl q
    have l1 : (refsN hp.objs.size ls.length).length ≤ sizeLine := by rw [refsN_length]; exact hsz
    have l2 : ((refsN hp.objs.size ls.length).map fun _ => Value.none).length ≤ sizeLine := by rw [List.length_map]; exact l1
    wp_walk using q, wpAny_newTuple (items := refsN hp.objs.size ls.length) (hsz := l1), wpAny_newTuple (items := (refsN hp.objs.size ls.length).map fun _ => Value.none) (hsz := l2)
    exact ⟨_, rfl, h⟩
theorem called_zipN {ls : List Addr} {Q : Value → Shared → Prop} (hsz : ls.length ≤ sizeLine) (hl : ∀ l ∈ ls, ∃ its, s.heap.IsList l its)
    (h : ∀ h', h'.get? (s.heap.objs.size + ls.length + 2) = some (zipO .none false (s.heap.objs.size + ls.length) (s.heap.objs.size + ls.length + 1)) → h'.get? (s.heap.objs.size + ls.length) = some (tupO (refsN s.heap.objs.size ls.length)) →
      (∃ os : List Value, os.length = ls.length ∧ h'.get? (s.heap.objs.size + ls.length + 1) = some (tupO os)) → (∀ j l, ls[j]? = some l → h'.IsListIter (s.heap.objs.size + j) l 0) →
      (∀ c o, s.heap.get? c = some o → h'.get? c = some o) → Q (.ref (s.heap.objs.size + ls.length + 2)) { s with heap := h' }) :
    wpAny (model prog w) A (call (.type "zip") (ls.map Value.ref)) Q E s := by
  refine callType_new PySem.F.called_zip (by decide) (typeCall_zip _) (newCall_zip _) (fun obj => args_object_init _ obj) PySem.F.entry_zip_new (meets_zip_newN ls hsz) ⟨hl, ?_⟩
  have z1 : (pushIts s.heap ls).objs.size = s.heap.objs.size + ls.length := pushIts_size ls s.heap
  have z2 : (hNT s.heap ls).objs.size = s.heap.objs.size + ls.length + 1 := by rw [Heap.size_push, z1]
  have z3 : (hNO s.heap ls).objs.size = s.heap.objs.size + ls.length + 2 := by rw [Heap.size_push, z2]
  have gZ : (hNZ s.heap ls).get? (hNO s.heap ls).objs.size = some (zipO .none false (pushIts s.heap ls).objs.size (hNT s.heap ls).objs.size) := Heap.get?_push_size _ rfl
  have gO : (hNZ s.heap ls).get? (hNT s.heap ls).objs.size = some (tupO ((refsN s.heap.objs.size ls.length).map fun _ => .none)) := Heap.get?_push_of_some _ (Heap.get?_push_size _ rfl)
  have gT : (hNZ s.heap ls).get? (pushIts s.heap ls).objs.size = some (tupO (refsN s.heap.objs.size ls.length)) := Heap.get?_push_of_some _ (Heap.get?_push_of_some _ (Heap.get?_push_size _ rfl))
  have gk : ∀ c o, (pushIts s.heap ls).get? c = some o → (hNZ s.heap ls).get? c = some o := fun c o e => Heap.get?_push_of_some _ (Heap.get?_push_of_some _ (Heap.get?_push_of_some _ e))
  rw [z3, z1, z2] at gZ
  rw [z2] at gO
  rw [z1] at gT
  show _ ∧ _
  rw [z3]
  refine ⟨⟨_, gZ, rfl⟩, h _ gZ gT ⟨_, ?_, gO⟩ (fun j l e => ⟨lstIt l, gk _ _ (pushIts_get ls s.heap j l e), rfl, rfl⟩) fun c o e => gk _ _ (pushIts_keep ls _ _ _ e)⟩
  rw [List.length_map, refsN_length]
theorem addr_ne {a b : Nat} (h : a < b ∨ b < a) : a ≠ b := fun e => by subst e; rcases h with h | h <;> exact absurd h (Nat.lt_irrefl _)
theorem wpAny_ifAlive {M : Model} {a : Addr} {Q : Option Obj → Shared → Prop} (h : Q (s.heap.get? a) s) : wpAny M A (loadIfAlive a) Q E s := fun _ _ _ => h
/-- whether the tuple given out before is let go of -/
theorem owned_free {z TI TO : Addr} {f0 : Value} {fl : Bool} {Q : Bool → Shared → Prop} (hz : s.heap.get? z = some (zipO f0 fl TI TO)) (hf : f0 = .none ∨ ∃ T : Addr, f0 = rawInt T)
    (h : ∀ b fl' h', h'.get? z = some (zipO f0 fl' TI TO) → Heap.SameBut z s.heap h' → Q b { s with heap := h' }) : wpAny (model prog w) A (Builtin.SmallTypes.ownedTupleIsFree (.ref z)) Q E s := by
  unfold Builtin.SmallTypes.ownedTupleIsFree
  refine wpAny_bind (wpAny_field hz rfl (x := f0) rfl ?_)
  rcases hf with rfl | ⟨T, rfl⟩
  · exact wpAny_pure (h true fl s.heap hz (Heap.SameBut.refl _ _))
  · show wpAny _ _ (loadIfAlive ((T : Int).toNat) >>= _) _ _ _
    rw [Int.toNat_natCast]
    refine wpAny_bind (wpAny_ifAlive ?_)
    cases s.heap.get? T with
    | none =>
      simp only [Option.isNone_none, if_true]
      exact wpAny_pure (h true fl s.heap hz (Heap.SameBut.refl _ _))
    | some o =>
      simp only [Option.isNone_some, Bool.false_eq_true, if_false]
      refine wpAny_bind (wpAny_field hz rfl (x := .bool fl) rfl ?_)
      cases fl with
      | true =>
        rw [if_neg (show ¬ ((Value.bool true != Value.bool true) = true) from Bool.false_ne_true)]
        exact wpAny_pure (h false true s.heap hz (Heap.SameBut.refl _ _))
      | false =>
        rw [if_pos (show (Value.bool false != Value.bool true) = true from rfl)]
        exact wpAny_bind (wpAny_setField_rec hz (by simp) fun h₁ hz₁ hs₁ => wpAny_pure (h false true h₁ hz₁ hs₁))
/-- the iterators from the k-th on stand at i, those ahead at i + 1 -/
structure ZAt (h0 h : Heap) (N : Nat) (ls : List Addr) (i k : Nat) : Prop where
  sz : h.objs.size = h0.objs.size
  dn : ∀ j l, j < k → ls[j]? = some l → h.IsListIter (N + j) l (i + 1)
  td : ∀ j l, k ≤ j → ls[j]? = some l → h.IsListIter (N + j) l i
  kp : ∀ c o, c < N ∨ N + ls.length + 2 < c → h0.get? c = some o → h.get? c = some o
  ti : h.get? (N + ls.length) = some (tupO (refsN N ls.length))
theorem ZAt.one {h0 h h' : Heap} {N i k : Nat} {ls : List Addr} {l : Addr} (a : ZAt h0 h N ls i k) (hk : ls[k]? = some l) (it : h'.IsListIter (N + k) l (i + 1)) (sb : Heap.SameBut (N + k) h h') : ZAt h0 h' N ls i (k + 1) := by
  have kl : k < ls.length := by
    rcases Nat.lt_or_ge k ls.length with q | q
    · exact q
    · rw [List.getElem?_eq_none q] at hk; cases hk
  refine ⟨sb.1.trans a.sz, fun j l' hj hl => ?_, fun j l' hj hl => ?_, fun c o hc e => ?_, ?_⟩
  · by_cases e : j = k
    · subst e; rw [hk] at hl; cases hl; exact it
    · exact (a.dn j l' (by omega) hl).at fun o q => sb.extBut _ _ (addr_ne (by omega)) q
  · exact (a.td j l' (by omega) hl).at fun o q => sb.extBut _ _ (addr_ne (by omega)) q
  · exact sb.extBut _ _ (addr_ne (by omega)) (a.kp c o hc e)
  · exact sb.extBut _ _ (addr_ne (by omega)) a.ti
theorem ZAt.oth {h0 h h' : Heap} {N i k z : Nat} {ls : List Addr} (a : ZAt h0 h N ls i k) (hz : z = N + ls.length + 1 ∨ z = N + ls.length + 2) (sb : Heap.SameBut z h h') : ZAt h0 h' N ls i k := by
  refine ⟨sb.1.trans a.sz, fun j l' hj hl => ?_, fun j l' hj hl => ?_, fun c o hc e => ?_, ?_⟩
  · have : j < ls.length := by
      rcases Nat.lt_or_ge j ls.length with q | q
      · exact q
      · rw [List.getElem?_eq_none q] at hl; cases hl
    exact (a.dn j l' hj hl).at fun o q => sb.extBut _ _ (addr_ne (by omega)) q
  · have : j < ls.length := by
      rcases Nat.lt_or_ge j ls.length with q | q
      · exact q
      · rw [List.getElem?_eq_none q] at hl; cases hl
    exact (a.td j l' hj hl).at fun o q => sb.extBut _ _ (addr_ne (by omega)) q
  · exact sb.extBut _ _ (addr_ne (by omega)) (a.kp c o hc e)
  · exact sb.extBut _ _ (addr_ne (by omega)) a.ti
theorem zipIdx_drop {l : List Value} {k : Nat} {x : Value × Nat} {rest : List (Value × Nat)} (e : x :: rest = l.zipIdx.drop k) : k < l.length ∧ l[k]? = some x.1 ∧ x.2 = k ∧ rest = l.zipIdx.drop (k + 1) := by
  have hk : k < l.length := by
    rcases Nat.lt_or_ge k l.length with q | q
    · exact q
    · rw [List.drop_of_length_le (by rw [List.length_zipIdx]; exact q)] at e; cases e
  have hk' : k < l.zipIdx.length := by rw [List.length_zipIdx]; exact hk
  rw [List.drop_eq_getElem_cons hk'] at e
  injection e with e1 e2
  refine ⟨hk, ?_, ?_, e2⟩
  · rw [e1, List.getElem_zipIdx, List.getElem?_eq_getElem hk]
  · rw [e1, List.getElem_zipIdx]; simp
theorem set_ok {os ys : List Value} {k : Nat} {y : Value} (h : ∀ j, j < k → os[j]? = ys[j]?) (hk : k < os.length) (hy : ys[k]? = some y) : ∀ j, j < k + 1 → (os.set k y)[j]? = ys[j]? := fun j hj => by
  by_cases e : k = j
  · subst e; rw [List.getElem?_set_self hk, hy]
  · rw [List.getElem?_set_ne e]; exact h j (by omega)
theorem all_ok {os ys : List Value} (hl : os.length = ys.length) (h : ∀ j, j < ys.length → os[j]? = ys[j]?) : os = ys := by
  refine List.ext_getElem? fun j => ?_
  rcases Nat.lt_or_ge j ys.length with q | q
  · exact h j q
  · rw [List.getElem?_eq_none q, List.getElem?_eq_none (by rw [hl]; exact q)]
theorem zipN_item {N i : Nat} {f0 : Value} {fl : Bool} {ls : List Addr} {ys : List Value} {Q : Value → Shared → Prop} (hsz : ls.length ≤ sizeLine) (hne : ls ≠ []) (hlt : ∀ l ∈ ls, l < N)
    (hz : s.heap.get? (N + ls.length + 2) = some (zipO f0 fl (N + ls.length) (N + ls.length + 1))) (hf : f0 = .none ∨ ∃ T : Addr, f0 = rawInt T)
    (hTO : ∃ os : List Value, os.length = ls.length ∧ s.heap.get? (N + ls.length + 1) = some (tupO os)) (za : ZAt s.heap s.heap N ls i 0)
    (hy : ys.length = ls.length) (hL : ∀ (j : Nat) (l : Addr), ls[j]? = some l → ∃ its, s.heap.IsList l its ∧ ∃ y, its[i]? = some y ∧ ys[j]? = some y)
    (hQ : ∀ h' f0' fl', h'.get? (N + ls.length + 2) = some (zipO f0' fl' (N + ls.length) (N + ls.length + 1)) → (f0' = .none ∨ ∃ T : Addr, f0' = rawInt T) →
      (∃ os : List Value, os.length = ls.length ∧ h'.get? (N + ls.length + 1) = some (tupO os)) → ZAt h' h' N ls (i + 1) 0 →
      h'.get? s.heap.objs.size = some (tupO ys) → h'.objs.size = s.heap.objs.size + 1 → (∀ c o, c < N ∨ N + ls.length + 2 < c → s.heap.get? c = some o → h'.get? c = some o) → Q (.ref s.heap.objs.size) { s with heap := h' }) :
    wpAny (model prog w) A (Builtin.«zip.__next__» ⟨[.ref (N + ls.length + 2)], []⟩) (fun fin s' => ∃ v, fin = .done (.ret v) ∧ Q v s') E s := by
  have hfz := hz
  show wpAny _ _ (field (.ref _) 2 >>= _) _ _ _
  refine wpAny_bind (wpAny_field hz rfl (x := .bool false) rfl ?_)
  show wpAny _ _ (field (.ref _) 3 >>= _) _ _ _
  refine wpAny_bind (wpAny_field hz rfl (x := .ref (N + ls.length)) rfl ?_)
  refine wpAny_bind (wpAny_seqItems za.ti rfl ?_)
  have em : ((refsN N ls.length).toArray).isEmpty = false := by
    cases ls with
    | nil => exact absurd rfl hne
    | cons l ls => simp [refsN]
  simp only [em, Bool.false_eq_true, if_false]
  show wpAny _ _ (Builtin.SmallTypes.ownedTupleIsFree (.ref _) >>= _) _ _ _
  refine wpAny_bind (owned_free hz hf fun b fl' h₁ hz₁ hs₁ => ?_)
  have za1 := za.oth (.inr rfl) hs₁
  cases b with
  | true =>
    simp only [if_true]
    refine wpAny_bind (wpAny_rule ?_)
    refine wpAny_bind (wpAny_field hz₁ rfl (x := .ref (N + ls.length + 1)) rfl ?_)
    refine wpAny_bind (wpAny_setField_rec hz₁ (by simp) fun h₂ hz₂ hs₂ => ?_)
    replace hz₂ : h₂.get? (N + ls.length + 2) = some (zipO .ellipsis fl' (N + ls.length) (N + ls.length + 1)) := hz₂
    obtain ⟨os0, ho0, hg0⟩ := hTO
    have hg2 : h₂.get? (N + ls.length + 1) = some (tupO os0) := hs₂.extBut _ _ (addr_ne (by omega)) (hs₁.extBut _ _ (addr_ne (by omega)) hg0)
    have za2 := za1.oth (.inr rfl) hs₂
    refine wpAny_bind (wpAny_forIn_list _ (fun rest b s' => b = (none, ()) ∧ ∃ k h os, rest = (refsN N ls.length).zipIdx.drop k ∧ k ≤ ls.length ∧ s' = { s with heap := h } ∧ ZAt s.heap h N ls i k ∧
      h.get? (N + ls.length + 2) = some (zipO .ellipsis fl' (N + ls.length) (N + ls.length + 1)) ∧ os.length = ls.length ∧ h.get? (N + ls.length + 1) = some (tupO os) ∧ ∀ j, j < k → os[j]? = ys[j]?) _ ?_ ?_ _ _
      ⟨rfl, 0, h₂, os0, rfl, Nat.zero_le _, rfl, za2, hz₂, ho0, hg2, fun j hj => absurd hj (Nat.not_lt_zero j)⟩)
    · rintro x rest b s' ⟨rfl, k, h, os, e1, e2, rfl, z1, z2, z3, z4, z5⟩
      obtain ⟨k1, k2, k3, k4⟩ := zipIdx_drop e1
      rw [refsN_length] at k1
      rw [refsN_get _ _ _ k1] at k2
      obtain ⟨xv, xk⟩ := x
      have k3 : k = xk := k3.symm
      subst k3
      have k2 : some (Value.ref (N + k)) = some xv := k2
      cases k2
      obtain ⟨l, hl⟩ : ∃ l, ls[k]? = some l := ⟨ls[k], List.getElem?_eq_getElem k1⟩
      obtain ⟨its, hit, y, hy1, hy2⟩ := hL k l hl
      have hln : l < N := hlt l (List.mem_of_getElem? hl)
      refine wpAny_bind (wpAny_onRaise ?_)
      show wpAny _ _ (Builtin.SmallTypes.nextOf (.ref (N + k)) >>= _) _ _ _
      refine wpAny_bind (wpAny_nextOf_list_item (s := { s with heap := h }) (z1.td k l (Nat.le_refl _) hl) (hit.at fun o q => z1.kp _ _ (.inl hln) q) hy1 fun h₄ hi₄ hs₄ => wpAny_pure ?_)
      have z4' : h₄.get? (N + ls.length + 1) = some (tupO os) := hs₄.extBut _ _ (addr_ne (by omega)) z4
      have z2' : h₄.get? (N + ls.length + 2) = some (zipO .ellipsis fl' (N + ls.length) (N + ls.length + 1)) := hs₄.extBut _ _ (addr_ne (by omega)) z2
      refine wpAny_bind (wpAny_seqItems z4' rfl ?_)
      refine wpAny_bind (wpAny_updateSeq z4' rfl ?_)
      refine wpAny_bind (wpAny_letGo (wpAny_pure ?_))
      have sb5 : Heap.SameBut (N + ls.length + 1) h₄ (h₄.update (N + ls.length + 1) (Obj.mapSeq (·.setIfInBounds k y))) := Heap.SameBut.update ..
      refine ⟨rfl, k + 1, _, os.set k y, k4, k1, rfl, (z1.one hl hi₄ hs₄).oth (.inl rfl) sb5, ?_, by rw [List.length_set]; exact z3, ?_, set_ok z5 (by rw [z3]; exact k1) hy2⟩
      · exact sb5.extBut _ _ (addr_ne (by omega)) z2'
      · rw [Heap.get?_update_self _ z4' rfl]
        simp [Obj.mapSeq]
    · rintro b s' ⟨rfl, k, h, os, e1, e2, rfl, z1, z2, z3, z4, z5⟩
      have hk : k = ls.length := by
        have := congrArg List.length e1
        rw [List.length_drop, List.length_zipIdx, refsN_length] at this
        simp at this
        omega
      subst hk
      have eo : os = ys := all_ok (by rw [z3, hy]) fun j hj => z5 j (by rw [← hy]; exact hj)
      subst eo
      refine wpAny_bind (wpAny_seqItems z4 rfl ?_)
      refine wpAny_bind (wpAny_newTuple (items := os.toArray.toList) ?_ (by simpa [z3] using hsz))
      have hsz5 : h.objs.size = s.heap.objs.size := z1.sz
      show wpAny _ _ (Builtin.SmallTypes.ownedTupleHandOut (.ref _) (.ref h.objs.size) >>= _) _ _ _
      refine wpAny_bind ?_
      unfold Builtin.SmallTypes.ownedTupleHandOut
      have p2 : (h.push { cls := .type "tuple", data := .seq os.toArray.toList.toArray }).get? (N + ls.length + 2) = some (zipO .ellipsis fl' (N + ls.length) (N + ls.length + 1)) := Heap.get?_push_of_some _ z2
      refine wpAny_bind (wpAny_setField_rec p2 (by simp) fun h₇ hz₇ hs₇ => ?_)
      replace hz₇ : h₇.get? (N + ls.length + 2) = some (zipO (rawInt h.objs.size) fl' (N + ls.length) (N + ls.length + 1)) := hz₇
      refine wpAny_setField_rec hz₇ (by simp) fun h₈ hz₈ hs₈ => ?_
      replace hz₈ : h₈.get? (N + ls.length + 2) = some (zipO (rawInt h.objs.size) false (N + ls.length) (N + ls.length + 1)) := hz₈
      have hzl : N + ls.length + 2 < h.objs.size := Heap.lt_size z2
      have up : ∀ c o, c ≠ N + ls.length + 2 → h.get? c = some o → h₈.get? c = some o := fun c o c1 e => hs₈.extBut _ _ c1 (hs₇.extBut _ _ c1 (Heap.get?_push_of_some _ e))
      have hT₈ : h₈.get? h.objs.size = some (tupO os) := by
        have := hs₈.extBut _ _ (addr_ne (.inr hzl)) (hs₇.extBut _ _ (addr_ne (.inr hzl)) (Heap.get?_push_size (h := h) (o := { cls := .type "tuple", data := .seq os.toArray.toList.toArray }) rfl))
        simpa using this
      have hz8 : h₈.objs.size = h.objs.size + 1 := by rw [hs₈.1, hs₇.1, Heap.size_push]
      rw [hsz5] at hz₈ hT₈ hz8 hzl
      refine wpAny_pure ⟨_, rfl, ?_⟩
      show Q (.ref h.objs.size) _
      rw [hsz5]
      refine hQ h₈ _ _ hz₈ (.inr ⟨_, rfl⟩) ⟨os, z3, up _ _ (addr_ne (by omega)) z4⟩ ⟨rfl, fun j l hj => absurd hj (Nat.not_lt_zero j), fun j l _ hl => ?_, fun c o hc e => e, up _ _ (addr_ne (by omega)) z1.ti⟩ hT₈ hz8 fun c o hc e => up _ _ (addr_ne (by omega)) (z1.kp c o hc e)
      have hj : j < ls.length := by
        rcases Nat.lt_or_ge j ls.length with q | q
        · exact q
        · rw [List.getElem?_eq_none q] at hl; cases hl
      exact (z1.dn j l hj hl).at fun o q => up _ _ (addr_ne (by omega)) q
  | false =>
    simp only [Bool.false_eq_true, if_false]
    refine wpAny_bind ?_
    rw [← Array.forIn_toList]
    refine wpAny_forIn_list _ (fun rest b s' => ∃ k h, rest = (refsN N ls.length).drop k ∧ k ≤ ls.length ∧ s' = { s with heap := h } ∧ ZAt s.heap h N ls i k ∧
      h.get? (N + ls.length + 2) = some (zipO f0 fl' (N + ls.length) (N + ls.length + 1)) ∧ (∃ os : List Value, os.length = ls.length ∧ h.get? (N + ls.length + 1) = some (tupO os)) ∧ b = (none, (ys.take k).toArray)) _ ?_ ?_ _ _ ?_
    · rintro x rest b s' ⟨k, h, e1, e2, rfl, z1, z2, ⟨os, z3, z4⟩, rfl⟩
      have k1 : k < ls.length := by
        rcases Nat.lt_or_ge k ls.length with q | q
        · exact q
        · rw [List.drop_of_length_le (by rw [refsN_length]; exact q)] at e1; cases e1
      have k1' : k < (refsN N ls.length).length := by rw [refsN_length]; exact k1
      rw [List.drop_eq_getElem_cons k1'] at e1
      injection e1 with e3 e4
      have e5 : x = .ref (N + k) := by
        have := refsN_get N ls.length k k1
        rw [List.getElem?_eq_getElem k1'] at this
        rw [e3]; injection this
      subst e5
      obtain ⟨l, hl⟩ : ∃ l, ls[k]? = some l := ⟨ls[k], List.getElem?_eq_getElem k1⟩
      obtain ⟨its, hit, y, hy1, hy2⟩ := hL k l hl
      have hln : l < N := hlt l (List.mem_of_getElem? hl)
      refine wpAny_bind (wpAny_holding ?_)
      show wpAny _ _ (Builtin.SmallTypes.nextOf (.ref (N + k)) >>= _) _ _ _
      refine wpAny_bind (wpAny_nextOf_list_item (s := { s with heap := h }) (z1.td k l (Nat.le_refl _) hl) (hit.at fun o q => z1.kp _ _ (.inl hln) q) hy1 fun h₄ hi₄ hs₄ => wpAny_pure ?_)
      refine wpAny_pure ⟨k + 1, h₄, e4, k1, rfl, z1.one hl hi₄ hs₄, hs₄.extBut _ _ (addr_ne (by omega)) z2, ⟨os, z3, hs₄.extBut _ _ (addr_ne (by omega)) z4⟩, ?_⟩
      have : ys.take (k + 1) = ys.take k ++ [y] := by rw [List.take_succ, hy2]; rfl
      rw [this]
      simp
    · rintro b s' ⟨k, h, e1, e2, rfl, z1, z2, ⟨os, z3, z4⟩, rfl⟩
      have hk : k = ls.length := by
        have := congrArg List.length e1
        rw [List.length_drop, refsN_length] at this
        simp at this
        omega
      subst hk
      have et : ys.take ls.length = ys := by rw [← hy, List.take_length]
      rw [et]
      refine wpAny_bind (wpAny_newTuple (items := ys.toArray.toList) ?_ (by simpa [hy] using hsz))
      have hsz5 : h.objs.size = s.heap.objs.size := z1.sz
      have hzl : N + ls.length + 2 < h.objs.size := Heap.lt_size z2
      refine wpAny_pure ⟨_, rfl, ?_⟩
      show Q (.ref h.objs.size) _
      have hT₈ : (h.push { cls := .type "tuple", data := .seq ys.toArray.toList.toArray }).get? h.objs.size = some (tupO ys) := by
        have := (Heap.get?_push_size (h := h) (o := { cls := .type "tuple", data := .seq ys.toArray.toList.toArray }) rfl)
        simpa using this
      have hz8 : (h.push { cls := .type "tuple", data := .seq ys.toArray.toList.toArray }).objs.size = h.objs.size + 1 := Heap.size_push ..
      rw [hsz5] at hT₈ hz8 ⊢
      refine hQ _ _ _ (Heap.get?_push_of_some _ z2) hf ⟨os, z3, Heap.get?_push_of_some _ z4⟩ ⟨rfl, fun j l hj => absurd hj (Nat.not_lt_zero j), fun j l _ hl => ?_, fun c o hc e => e, Heap.get?_push_of_some _ z1.ti⟩ hT₈ hz8 fun c o hc e => Heap.get?_push_of_some _ (z1.kp c o hc e)
      have hj : j < ls.length := by
        rcases Nat.lt_or_ge j ls.length with q | q
        · exact q
        · rw [List.getElem?_eq_none q] at hl; cases hl
      exact (z1.dn j l hj hl).at fun o q => Heap.get?_push_of_some _ q
    · obtain ⟨os0, ho0, hg0⟩ := hTO
      exact ⟨0, h₁, by simp, Nat.zero_le _, rfl, za1, hz₁, ⟨os0, ho0, hs₁.extBut _ _ (addr_ne (by omega)) hg0⟩, by simp⟩
/-- the first list is at its end -/
theorem zipN_end {N i : Nat} {f0 : Value} {fl : Bool} {ls : List Addr} {l : Addr} {its : Array Value} {Q : Fin → Shared → Prop} (hh : A.handled = none) (hl0 : ls[0]? = some l) (hlt : l < N)
    (hz : s.heap.get? (N + ls.length + 2) = some (zipO f0 fl (N + ls.length) (N + ls.length + 1))) (hf : f0 = .none ∨ ∃ T : Addr, f0 = rawInt T)
    (hTO : ∃ os : List Value, os.length = ls.length ∧ s.heap.get? (N + ls.length + 1) = some (tupO os)) (za : ZAt s.heap s.heap N ls i 0) (hL : s.heap.IsList l its) (hx : its[i]? = none)
    (hE : ∀ h' e, (∀ c o, c < N ∨ N + ls.length + 2 < c → s.heap.get? c = some o → h'.get? c = some o) → (∃ o, h'.get? e = some o ∧ o.cls = .type "StopIteration") → E (.ref e) { s with heap := h' }) :
    wpAny (model prog w) A (Builtin.«zip.__next__» ⟨[.ref (N + ls.length + 2)], []⟩) Q E s := by
  have hfz := hz
  have hne : ls ≠ [] := fun e => by subst e; cases hl0
  show wpAny _ _ (field (.ref _) 2 >>= _) _ _ _
  refine wpAny_bind (wpAny_field hz rfl (x := .bool false) rfl ?_)
  show wpAny _ _ (field (.ref _) 3 >>= _) _ _ _
  refine wpAny_bind (wpAny_field hz rfl (x := .ref (N + ls.length)) rfl ?_)
  refine wpAny_bind (wpAny_seqItems za.ti rfl ?_)
  have n1 : 0 < ls.length := List.length_pos_iff.mpr hne
  have em : ((refsN N ls.length).toArray).isEmpty = false := by
    cases ls with
    | nil => exact absurd rfl hne
    | cons l ls => simp [refsN]
  obtain ⟨rr, hr⟩ : ∃ rr, refsN N ls.length = .ref N :: rr := by
    have := refsN_get N ls.length 0 n1
    cases e : refsN N ls.length with
    | nil => rw [e] at this; cases this
    | cons a rr => rw [e] at this; cases this; exact ⟨rr, rfl⟩
  simp only [em, Bool.false_eq_true, if_false]
  show wpAny _ _ (Builtin.SmallTypes.ownedTupleIsFree (.ref _) >>= _) _ _ _
  refine wpAny_bind (owned_free hz hf fun b fl' h₁ hz₁ hs₁ => ?_)
  have za1 := za.oth (.inr rfl) hs₁
  cases b with
  | true =>
    simp only [if_true]
    refine wpAny_bind (wpAny_rule ?_)
    refine wpAny_bind (wpAny_field hz₁ rfl (x := .ref (N + ls.length + 1)) rfl ?_)
    refine wpAny_bind (wpAny_setField_rec hz₁ (by simp) fun h₂ hz₂ hs₂ => ?_)
    replace hz₂ : h₂.get? (N + ls.length + 2) = some (zipO .ellipsis fl' (N + ls.length) (N + ls.length + 1)) := hz₂
    have za2 := za1.oth (.inr rfl) hs₂
    rw [hr]
    simp only [List.zipIdx_cons, List.forIn_cons]
    refine wpAny_bind (wpAny_bind (wpAny_bind (wpAny_onRaise ?_)))
    show wpAny _ _ (Builtin.SmallTypes.nextOf (.ref N) >>= _) _ _ _
    refine wpAny_bind (wpAny_nextOf_list_end (s := { s with heap := h₂ }) hh (za2.td 0 l (Nat.le_refl _) hl0) (hL.at fun o q => za2.kp _ _ (.inl hlt) q) hx fun h₃ e hs₃ he => ?_)
    obtain ⟨oe, hoe, hce⟩ := he
    have hz₃ : h₃.get? (N + ls.length + 2) = some (zipO .ellipsis fl' (N + ls.length) (N + ls.length + 1)) := hs₃ _ _ (addr_ne (by omega)) hz₂
    have hez : e ≠ N + ls.length + 2 := fun x => by subst x; rw [hz₃] at hoe; cases hoe; simp at hce
    refine wpAny_setField_rec hz₃ (by simp) fun h₄ _ hs₄ => hE h₄ e (fun c o hc x => hs₄.extBut _ _ (addr_ne (by omega)) (hs₃ _ _ (addr_ne (by omega)) (za2.kp c o hc x))) ⟨oe, hs₄.extBut _ _ hez hoe, hce⟩
  | false =>
    simp only [Bool.false_eq_true, if_false]
    refine wpAny_bind ?_
    rw [← Array.forIn_toList]
    rw [show (refsN N ls.length).toArray.toList = .ref N :: rr by rw [hr]]
    simp only [List.forIn_cons]
    refine wpAny_bind (wpAny_bind (wpAny_holding ?_))
    show wpAny _ _ (Builtin.SmallTypes.nextOf (.ref N) >>= _) _ _ _
    refine wpAny_bind (wpAny_nextOf_list_end (s := { s with heap := h₁ }) hh (za1.td 0 l (Nat.le_refl _) hl0) (hL.at fun o q => za1.kp _ _ (.inl hlt) q) hx fun h₂ e hs₂ he => ?_)
    exact hE h₂ e (fun c o hc x => hs₂ _ _ (addr_ne (by omega)) (za1.kp c o hc x)) he
theorem nextN_item {N i : Nat} {f0 : Value} {fl : Bool} {ls : List Addr} {ys : List Value} {Q : Option Value → Shared → Prop} (hsz : ls.length ≤ sizeLine) (hne : ls ≠ []) (hlt : ∀ l ∈ ls, l < N)
    (hz : s.heap.get? (N + ls.length + 2) = some (zipO f0 fl (N + ls.length) (N + ls.length + 1))) (hf : f0 = .none ∨ ∃ T : Addr, f0 = rawInt T)
    (hTO : ∃ os : List Value, os.length = ls.length ∧ s.heap.get? (N + ls.length + 1) = some (tupO os)) (za : ZAt s.heap s.heap N ls i 0)
    (hy : ys.length = ls.length) (hL : ∀ (j : Nat) (l : Addr), ls[j]? = some l → ∃ its, s.heap.IsList l its ∧ ∃ y, its[i]? = some y ∧ ys[j]? = some y)
    (hQ : ∀ h' f0' fl', h'.get? (N + ls.length + 2) = some (zipO f0' fl' (N + ls.length) (N + ls.length + 1)) → (f0' = .none ∨ ∃ T : Addr, f0' = rawInt T) →
      (∃ os : List Value, os.length = ls.length ∧ h'.get? (N + ls.length + 1) = some (tupO os)) → ZAt h' h' N ls (i + 1) 0 →
      h'.get? s.heap.objs.size = some (tupO ys) → h'.objs.size = s.heap.objs.size + 1 → (∀ c o, c < N ∨ N + ls.length + 2 < c → s.heap.get? c = some o → h'.get? c = some o) → Q (some (.ref s.heap.objs.size)) { s with heap := h' }) :
    wpAny (model prog w) A (pyNext (.ref (N + ls.length + 2))) Q E s := by
  have hTy : s.TypeIs (.ref (N + ls.length + 2)) "zip" := ⟨_, hz, rfl⟩
  unfold pyNext
  exact wpAny_bind (wpAny_attempt (wpAny_callSpecial?_slot (name := Str.ofString "__next__") hTy PySem.F.slot_zip_next
    (wpAny_call_entry PySem.F.slot_zip_next hTy PySem.F.entry_zip_next
      (zipN_item hsz hne hlt hz hf hTO za hy hL fun h' f0' fl' a1 a2 a3 a4 a5 a6 a7 => wpAny_pure (hQ h' f0' fl' a1 a2 a3 a4 a5 a6 a7)) (PySem.F.args_zip_next_1 _))))
theorem nextN_end {N i : Nat} {f0 : Value} {fl : Bool} {ls : List Addr} {l : Addr} {its : Array Value} {Q : Option Value → Shared → Prop} (hh : A.handled = none) (hl0 : ls[0]? = some l) (hlt : l < N)
    (hz : s.heap.get? (N + ls.length + 2) = some (zipO f0 fl (N + ls.length) (N + ls.length + 1))) (hf : f0 = .none ∨ ∃ T : Addr, f0 = rawInt T)
    (hTO : ∃ os : List Value, os.length = ls.length ∧ s.heap.get? (N + ls.length + 1) = some (tupO os)) (za : ZAt s.heap s.heap N ls i 0) (hL : s.heap.IsList l its) (hx : its[i]? = none)
    (hQ : ∀ h', (∀ c o, c < N ∨ N + ls.length + 2 < c → s.heap.get? c = some o → h'.get? c = some o) → Q none { s with heap := h' }) : wpAny (model prog w) A (pyNext (.ref (N + ls.length + 2))) Q E s := by
  have hTy : s.TypeIs (.ref (N + ls.length + 2)) "zip" := ⟨_, hz, rfl⟩
  unfold pyNext
  refine wpAny_bind (wpAny_attempt (wpAny_callSpecial?_slot (name := Str.ofString "__next__") hTy PySem.F.slot_zip_next
    (wpAny_call_entry PySem.F.slot_zip_next hTy PySem.F.entry_zip_next (zipN_end hh hl0 hlt hz hf hTO za hL hx fun h' e hk he => ?_) (PySem.F.args_zip_next_1 _))))
  obtain ⟨o, ho, hc⟩ := he
  refine wpAny_bind (wpAny_isInstance (T := "StopIteration") (b := true) ⟨o, ho, hc⟩ isSubtype_stop ?_)
  exact wpAny_pure (hQ _ hk)
end
end DL


set_option Elab.async false
set_option linter.all false
set_option maxRecDepth 100000
set_option maxHeartbeats 4000000
/-! DZb: zip(*rows) walked by one name. -/
namespace DL
open PySem PySem.Spec PyProof.Rows L2 SlX StX
def fpZ (N n : Nat) : List Addr := (List.range (n + 3)).map fun j => N + j
theorem fpZ_mem {N n : Nat} {b : Addr} : b ∈ fpZ N n ↔ ∃ j, j < n + 3 ∧ b = N + j := by
  unfold fpZ
  rw [List.mem_map]
  constructor
  · rintro ⟨j, h1, h2⟩; exact ⟨j, List.mem_range.mp h1, h2.symm⟩
  · rintro ⟨j, h1, h2⟩; exact ⟨j, List.mem_range.mpr h1, h2.symm⟩
theorem fpZ_not {N n : Nat} {c : Addr} (h : c ∉ fpZ N n) : (c : Nat) < N ∨ N + n + 2 < c := by
  rcases Nat.lt_or_ge c N with q | q
  · exact .inl q
  · rcases Nat.lt_or_ge (N + n + 2) c with z | z
    · exact .inr z
    · exact absurd (fpZ_mem.mpr ⟨c - N, by omega, show (c : Nat) = N + (c - N) from (Nat.add_sub_cancel' q).symm⟩) h
/-- what zip(*rows) walks, the rows at ls -/
def ItzN (K : PySem.W.Frag) (ls : List Addr) : It where
  go := fun i H => ∀ l ∈ ls, ∃ xs x, SqL K H l xs ∧ xs[i]? = some x
  yld := fun i H v H' => ∃ T ys, v = V.ref T ∧ H T = none ∧ H' = upd H T (.tup ys) ∧ ys.length = ls.length ∧ ∀ (j : Nat) (a : Addr) (xs : List V), ls[j]? = some a → SqL K H a xs → xs[i]? = ys[j]?
  stop := fun i H => ∃ a xs, ls[0]? = some a ∧ SqL K H a xs ∧ xs.length ≤ i
theorem pickN {X : Cx} {pins : List (Addr × Obj)} {σ : L2.St} {H : Hp} {s : Shared} {i : Nat} (I : Inv X pins σ H s) : ∀ ls : List Addr, (∀ l ∈ ls, ∃ xs x, SqL X.K H l xs ∧ xs[i]? = some x) →
    ∃ (ys : List V) (us : List Value), Vals ys us ∧ ys.length = ls.length ∧ (∀ (j : Nat) (a : Addr), ls[j]? = some a → ∃ xs, SqL X.K H a xs ∧ xs[i]? = ys[j]?) ∧
      ∀ (j : Nat) (a : Addr), ls[j]? = some a → ∃ its, s.heap.IsList a its ∧ ∃ u, its[i]? = some u ∧ us[j]? = some u
  | [], _ => ⟨[], [], .nil, rfl, fun j a e => by simp at e, fun j a e => by simp at e⟩
  | l :: ls, h => by
    obtain ⟨ys, us, r, e, h1, h2⟩ := pickN I ls fun l' hl => h l' (List.mem_cons_of_mem _ hl)
    obtain ⟨xs, x, hs, hx⟩ := h l List.mem_cons_self
    obtain ⟨its, rv, p, _⟩ := I.list hs
    obtain ⟨u, hu, ru⟩ := rv.get hx
    refine ⟨x :: ys, u :: us, .cons ru r, by rw [List.length_cons, List.length_cons, e], fun j a hj => ?_, fun j a hj => ?_⟩
    · cases j with
      | zero => simp at hj; subst hj; exact ⟨xs, hs, hx⟩
      | succ j => exact h1 j a (by simpa using hj)
    · cases j with
      | zero => simp at hj; subst hj; exact ⟨its.toArray, p.isList, u, by simpa using hu, rfl⟩
      | succ j => exact h2 j a (by simpa using hj)
theorem turn_zipN {P : Program} {w : World} {K : PySem.W.Frag} {x : Str} {tpos : Pos} {ls : List Addr} {N : Nat} (hsz : ls.length ≤ sizeLine) (hne : ls ≠ []) (hlt : ∀ l ∈ ls, l < N) :
    Turn P w K (.Name x tpos) (ItzN K ls) (fpZ N ls.length) (N + ls.length + 2)
      (fun i h => (∃ f0 fl, h.get? (N + ls.length + 2) = some (zipO f0 fl (N + ls.length) (N + ls.length + 1)) ∧ (f0 = .none ∨ ∃ T : Addr, f0 = rawInt T)) ∧
        (∃ os : List Value, os.length = ls.length ∧ h.get? (N + ls.length + 1) = some (tupO os)) ∧ ZAt h h N ls i 0) where
  mem := fpZ_mem.mpr ⟨ls.length + 2, by omega, rfl⟩
  obj := fun i h ⟨⟨f0, fl, hz, _⟩, ⟨os, _, ho⟩, za⟩ c hc => by
    obtain ⟨j, hj, rfl⟩ := fpZ_mem.mp hc
    rcases Nat.lt_or_ge j ls.length with q | q
    · obtain ⟨o, e, _, d⟩ := za.td j _ (Nat.zero_le _) (List.getElem?_eq_getElem q)
      exact ⟨o, e, fun v q => by rw [d] at q; cases q⟩
    · rcases (show j = ls.length ∨ j = ls.length + 1 ∨ j = ls.length + 2 by omega) with e | e | e
      · rw [e]; exact ⟨_, za.ti, fun v q => nomatch q⟩
      · rw [e]; exact ⟨_, ho, fun v q => nomatch q⟩
      · rw [e]; exact ⟨_, hz, fun v q => nomatch q⟩
  keep := fun i h h' ⟨⟨f0, fl, hz, hf⟩, ⟨os, e, ho⟩, za⟩ k => by
    refine ⟨⟨f0, fl, k _ (fpZ_mem.mpr ⟨ls.length + 2, by omega, rfl⟩) _ hz, hf⟩, ⟨os, e, k _ (fpZ_mem.mpr ⟨ls.length + 1, by omega, rfl⟩) _ ho⟩, ⟨rfl, fun j l hj => absurd hj (Nat.not_lt_zero j), fun j l _ hl => ?_, fun c o hc e => e, k _ (fpZ_mem.mpr ⟨ls.length, by omega, rfl⟩) _ za.ti⟩⟩
    have hj : j < ls.length := by
      rcases Nat.lt_or_ge j ls.length with q | q
      · exact q
      · rw [List.getElem?_eq_none q] at hl; cases hl
    exact (za.td j l (Nat.zero_le _) hl).at fun o q => k _ (fpZ_mem.mpr ⟨j, by omega, rfl⟩) o q
  item := by
    intro X hP hw hK hc i pins s σ H E I hf ⟨⟨f0, fl, hz, hf0⟩, hTO, za⟩ hg
    subst hP hw hK
    obtain ⟨ys, us, rv, ey, h1, h2⟩ := pickN I ls hg
    have hzl : N + ls.length + 2 < s.heap.objs.size := Heap.lt_size hz
    refine nextN_item (ys := us) hsz hne hlt hz hf0 hTO za (by rw [← ey]; exact rv.length.symm) h2 fun h' f0' fl' a1 a2 a3 a4 a5 a6 a7 => ?_
    refine ⟨_, rfl, ?_⟩
    show wpAny _ _ (pure ()) _ _ _
    refine wpAny_pure ?_
    have new : ObjOk X.prog X.w (upd H s.heap.objs.size (.tup ys)) h' s.heap.objs.size (.tup ys) :=
      ⟨by rw [ey]; exact hsz, us, rv, ⟨_, a5, rfl, _, rfl⟩⟩
    have I1 : Inv X pins σ (upd H s.heap.objs.size (.tup ys)) { s with heap := h' } :=
      I.turnedNew (t' := s.toks) (ch := fpZ N ls.length) (fun c o hb q => a7 c o (fpZ_not hb) q) hf (Nat.le_refl _) new
    refine ⟨.ref s.heap.objs.size, _, I1, rfl, ⟨_, ys, rfl, I.hok.fresh (Nat.le_refl _), rfl, ey, fun j a xs hj hs => ?_⟩, ⟨⟨f0', fl', a1, a2⟩, a3, a4⟩, fun c hm => ?_⟩
    · obtain ⟨xs', hs', e⟩ := h1 j a hj
      rw [I.list_inj hs hs']; exact e
    · obtain ⟨j, hj, rfl⟩ := fpZ_mem.mp hm
      rw [upd_ne (addr_ne (by omega))]
      exact (hf _ hm).1
  done := by
    intro X hP hw hK hc i pins s σ H E I hf ⟨⟨f0, fl, hz, hf0⟩, hTO, za⟩ hg
    subst hP hw hK
    obtain ⟨a, xs, e0, hs, hl⟩ := hg
    obtain ⟨its, rv, p, _⟩ := I.list hs
    have l1 := rv.length
    exact nextN_end (I.ok.hd hc) e0 (hlt a (List.mem_of_getElem? e0)) hz hf0 hTO za p.isList (by simp; omega) fun h' hk => ⟨rfl, I.turnedL (t' := s.toks) (ch := fpZ N ls.length) (fun c o hb q => hk c o (fpZ_not hb) q) hf⟩
  self := fun A i s Q E st h => by
    obtain ⟨⟨f0, fl, hz, _⟩, _⟩ := st
    have hT : s.TypeIs (.ref (N + ls.length + 2)) "zip" := ⟨_, hz, rfl⟩
    refine wpAny_pyIter_slot hT PySem.F.slot_zip_iter (wpAny_call_entry PySem.F.slot_zip_iter hT PySem.F.entry_zip_iter ?_ (PySem.F.args_zip_iter_1 _))
    show wpAny _ _ (ret (.ref _)) _ _ s
    exact wpAny_pure ⟨_, rfl, "zip", _, hT, PySem.F.slot_zip_next.lookup, h⟩
section
variable {M : Model} {A : Around} {E : Value → Shared → Prop} {s : Shared} {env : Env} {pos p : Pos} {Q : Value → Shared → Prop} {e : Expr}
theorem callWith_typeS {T : String} (h : wpAny M A (eval e env) (fun v s₁ => PySem.W.StarOf M A E v (fun vs s₂ => wpAny M A (call (.type T) vs) Q E s₂) s₁) E s)
    (he : starEach [.Starred e p] env = [(true, eval e env)] := by rfl) :
    wpAny M A (callWith pos (.type T) [] (backTo pos (starEach [.Starred e p] env)) []) Q E s := by
  rw [he]
  exact PySem.W.ks_call (P := fun _ => True) rfl (fun h _ => ⟨.machine, .inr (.inl rfl), PySem.W.Looks.now⟩) (PySem.W.ks_lone (wpAny_mono h (fun v s₁ h₁ => by
    unfold PySem.W.StarOf at h₁ ⊢
    exact wpAny_mono h₁ (fun b s₂ ⟨h2, h3⟩ => ⟨h2, wpAny_mono h3 (fun vs s₃ h4 => ⟨trivial, h4⟩) fun _ _ x => x⟩) fun _ _ x => x) fun _ _ x => x))
end
def iZipN (K : PySem.W.Frag) (te : TE) : TI := fun σ H R => te σ H fun y H1 => ∃ (a : Addr) (ls : List Addr), y = V.ref a ∧ (SqT K H1 a (ls.map V.ref) ∨ SqL K H1 a (ls.map V.ref)) ∧ ls.length ≤ 1000000 ∧ ls ≠ [] ∧ (∀ l ∈ ls, ∃ xs, SqL K H1 l xs) ∧ R (ItzN K ls) H1
theorem vals_refs : ∀ {ls : List Addr} {us : List Value}, Vals (ls.map V.ref) us → us = ls.map Value.ref
  | [], _, .nil => rfl
  | l :: ls, _, .cons r t => by rw [show _ = Value.ref l from r, vals_refs t]; rfl
theorem pi_zipN {X : Cx} {e : Expr} {te : TE} {x : Str} {p sp_ pos tpos : Pos} (hg : Gl X "zip") (hm : X.mg "zip" = none) (he : PE X e te)
    (hs : starEach [.Starred e sp_] X.env = [(true, eval e X.env)] := by rfl) :
    PI X (.Name x tpos) (.Call (.Name "zip" p) [.Starred e sp_] [] pos) (iZipN X.K te) := ⟨fun pins s σ H R I h => by
  refine Call_ (ld_blt I hg hm PyProof.Rows.boot_zip (callWith_typeS (thn (he.run pins s σ H _ I h) fun v s1 ⟨y, H1, I1, ry, a, ls, ey, ha, hl, hne, hr, q⟩ => ?_) hs))
  subst ey
  obtain rfl : v = Value.ref a := ry
  refine star_any I1 ha fun us s2 I2 rv => ?_
  rw [vals_refs rv]
  have hl' : ∀ l ∈ ls, ∃ its, s2.heap.IsList l its := fun l hl => by
    obtain ⟨xs, hs⟩ := hr l hl
    obtain ⟨its, _, p, _⟩ := I2.list hs
    exact ⟨_, p.isList⟩
  have hlt : ∀ l ∈ ls, l < s2.heap.objs.size := fun l hl => by
    obtain ⟨xs, hs⟩ := hr l hl
    obtain ⟨its, _, p, _⟩ := I2.list hs
    exact p.lt
  refine called_zipN (sz_of hl) hl' fun h' a1 a2 a3 a4 a5 => ?_
  have I3 : Inv X pins σ H1 { s2 with heap := h' } := I2.kept (t' := s2.toks) a5
  have T := turn_zipN (P := X.prog) (w := X.w) (K := X.K) (x := x) (tpos := tpos) (N := s2.heap.objs.size) (sz_of hl) hne hlt
  refine T.self X.A 0 { s2 with heap := h' } _ _ ⟨⟨_, _, a1, .inl rfl⟩, a3, ⟨rfl, fun j l hj => absurd hj (Nat.not_lt_zero j), fun j l _ hl => a4 j l hl, fun c o hc e => e, a2⟩⟩ ?_
  exact ⟨_, _, _, _, H1, rfl, I3, T, ⟨⟨_, _, a1, .inl rfl⟩, a3, ⟨rfl, fun j l hj => absurd hj (Nat.not_lt_zero j), fun j l _ hl => a4 j l hl, fun c o hc e => e, a2⟩⟩, fun b hb => by
    obtain ⟨j, _, rfl⟩ := fpZ_mem.mp hb
    exact I2.fpOk (Nat.le_add_right _ _) (I2.hok.fresh (Nat.le_add_right _ _)), q⟩⟩
theorem ki_zipN (K : PySem.W.Frag) {X : Cx} {e : Expr} {te : TE} {x : Str} {p sp_ pos tpos : Pos} (hg : Gl X "zip") (hm : X.mg "zip" = none) (he : PE X e te) (hK : X.K = K := by rfl)
    (hs : starEach [.Starred e sp_] X.env = [(true, eval e X.env)] := by rfl) :
    PI X (.Name x tpos) (.Call (.Name "zip" p) [.Starred e sp_] [] pos) (iZipN K te) := by subst hK; exact pi_zipN hg hm he hs
/-! ### over data -/
section
variable {K : PySem.W.Frag}
theorem RepL.of_get {G : Hp} : ∀ {vs : List V} {ds : List D}, vs.length = ds.length → (∀ (j : Nat) (v : V) (d : D), vs[j]? = some v → ds[j]? = some d → Rep K G v d) → RepL K G vs ds
  | [], [], _, _ => .nil
  | v :: vs, d :: ds, e, h => .cons (h 0 v d rfl rfl) (RepL.of_get (by simpa using e) fun j v d h1 h2 => h (j + 1) v d (by simpa using h1) (by simpa using h2))
  | [], _ :: _, e, _ => by simp at e
  | _ :: _, [], e, _ => by simp at e
def colD (rows : List (List D)) (i : Nat) : D := .tup (rows.map fun r => r.getD i .non)
def itZN (ds : List D) (rows : List (List D)) (m : Nat) : DIt := ⟨m, fun i => some (colD rows i), fun μ => ds.map (asL μ) = rows.map some⟩
@[simp] def rIZN (re : RE) : RI := fun δ μ k => re δ μ fun x μ1 => ∃ (ds : List D) (rows : List (List D)) (m : Nat), asQ μ1 x = some ds ∧ ds.map (asL μ1) = rows.map some ∧ ds ≠ [] ∧ ds.length ≤ 1000000 ∧ (∀ r ∈ rows, r.length = m) ∧ k (itZN ds rows m) μ1
theorem asL_get {μ : Mu} {ds : List D} {rows : List (List D)} (o : ds.map (asL μ) = rows.map some) {j : Nat} {d : D} (h : ds[j]? = some d) : ∃ r, rows[j]? = some r ∧ asL μ d = some r := by
  have e := congrArg (fun l => l[j]?) o
  simp only [List.getElem?_map, h, Option.map_some] at e
  cases q : rows[j]? with
  | none => rw [q] at e; simp at e
  | some r => rw [q] at e; simp at e; exact ⟨r, rfl, e⟩
theorem refs_of {μ : Mu} {G H : Hp} (w : Wd K G H μ) : ∀ {vs : List V} {ds : List D} {rows : List (List D)}, RepL K G vs ds → ds.map (asL μ) = rows.map some → ∃ ls : List Addr, vs = ls.map V.ref
  | _, _, _, .nil, _ => ⟨[], rfl⟩
  | _, _, [], .cons r t, o => by simp at o
  | _, _, row :: rows, .cons r t, o => by
    rw [List.map_cons, List.map_cons] at o
    injection o with o1 o2
    obtain ⟨a, _, e, _, _⟩ := asL_out w r o1
    obtain ⟨ls, e2⟩ := refs_of w t (rows := rows) o2
    exact ⟨a :: ls, by rw [e, e2]; rfl⟩
theorem itOk_zipN {G : Hp} {ls : List Addr} {ds : List D} {rows : List (List D)} {m : Nat} (rl : RepL K G (ls.map V.ref) ds) (hne : ds ≠ []) (hm : ∀ r ∈ rows, r.length = m) : ItOk K G (ItzN K ls) (itZN ds rows m) := fun i μ G1 H1 e w o => by
  have o : ds.map (asL μ) = rows.map some := o
  have rl := rl.mono e
  have len : ls.length = ds.length := by have := rl.length; rwa [List.length_map] at this
  have lr : ds.length = rows.length := by have := congrArg List.length o; rwa [List.length_map, List.length_map] at this
  have each : ∀ (j : Nat) (a : Addr), ls[j]? = some a → ∃ vs r, SqL K H1 a vs ∧ rows[j]? = some r ∧ RepL K G1 vs r ∧ r.length = m := fun j a hj => by
    obtain ⟨d, hd, rd⟩ := rl.get (i := j) (v := V.ref a) (by rw [List.getElem?_map, hj]; rfl)
    obtain ⟨r, hr, ed⟩ := asL_get o hd
    obtain ⟨a', vs, ea, hv, rv⟩ := asL_out w rd ed
    cases ea
    exact ⟨vs, r, SqL.of hv, hr, rv, hm r (List.mem_of_getElem? hr)⟩
  refine ⟨fun hi => ?_, fun hi => ?_⟩
  · have hi : m = i := hi
    have : 0 < ls.length := by rw [len]; exact List.length_pos_iff.mpr hne
    obtain ⟨vs, r, h1, _, h3, h4⟩ := each 0 _ (List.getElem?_eq_getElem this)
    exact ⟨_, vs, List.getElem?_eq_getElem this, h1, by rw [h3.length, h4, hi]; exact Nat.le_refl _⟩
  · have hi : i < m := hi
    refine ⟨fun l hl => ?_, fun v H2 ⟨T, ys, hv, hT, hH, h1, h2⟩ => ?_⟩
    · obtain ⟨j, hj⟩ := List.getElem?_of_mem hl
      obtain ⟨vs, r, h1, _, h3, h4⟩ := each j l hj
      have : i < vs.length := by rw [h3.length, h4]; exact hi
      exact ⟨vs, _, h1, List.getElem?_eq_getElem this⟩
    · subst hv hH
      refine ⟨colD rows i, upd G1 T (.tup ys), rfl, w.new hT, Go.new w hT, .tup upd_same (RepL.of_get (by rw [List.length_map, h1, len, lr]) fun j y d e1 e2 => ?_)⟩
      have hj : j < ls.length := by rw [← h1]; exact (List.getElem?_eq_some_iff.mp e1).1
      obtain ⟨vs, r, q1, q2, q3, q4⟩ := each j _ (List.getElem?_eq_getElem hj)
      have q5 := h2 j _ vs (List.getElem?_eq_getElem hj) q1
      rw [e1] at q5
      obtain ⟨d', z1, z2⟩ := q3.get q5
      rw [List.getElem?_map, q2] at e2
      simp [List.getD, z1] at e2
      subst e2
      exact z2.mono (Ex.new (w.gnone hT))
theorem okI_zipN {te : TE} {re : RE} (h : OkE K te re) : OkI K (iZipN K te) (rIZN re) := fun σ δ μ G H k R S w q b =>
  h σ δ μ G H _ _ S w q fun v x μ1 G1 H1 ⟨ds, rows, m, e1, o, hne, hl, hm, q2⟩ w1 g1 r1 => by
    obtain ⟨a, vs, rfl, hs, rl⟩ := asQ_out w1 r1 e1
    obtain ⟨ls, rfl⟩ := refs_of w1 rl o
    have len : ls.length = ds.length := by have := rl.length; rwa [List.length_map] at this
    refine ⟨a, ls, rfl, hs.symm, by rw [len]; exact hl, fun z => ?_, fun l hl => ?_, b _ _ μ1 G1 H1 q2 w1 g1 (itOk_zipN rl hne hm)⟩
    · subst z; exact hne (List.length_eq_zero_iff.mp len.symm)
    · obtain ⟨j, hj⟩ := List.getElem?_of_mem hl
      obtain ⟨d, hd, rd⟩ := rl.get (i := j) (v := V.ref l) (by rw [List.getElem?_map, hj]; rfl)
      obtain ⟨r, hr, ed⟩ := asL_get o hd
      obtain ⟨a', vs, ea, hv, rv⟩ := asL_out w1 rd ed
      cases ea
      exact ⟨vs, SqL.of hv⟩
theorem Src.zn {μ : Mu} {ds : List D} {rows : List (List D)} {m : Nat} (h : ds.map (asL μ) = rows.map some) : Src (itZN ds rows m) μ ((List.range m).map (colD rows)) := by
  refine ⟨by simp [itZN], fun i d hi e => ?_, h⟩
  have hi : i < m := hi
  have e : some (colD rows i) = some d := e
  rw [List.getElem?_map, List.getElem?_range hi]
  exact e
end
end DL


set_option Elab.async false
set_option linter.all false
set_option maxRecDepth 100000
set_option maxHeartbeats 4000000
/-! DLw: own instances that change: made, their slots read and stored, their methods. -/
namespace DL
open PySem PySem.Spec PyProof.Rows L2 SlX StX
def putD (i : Nat) (d : D) (ds : Sl) : Sl := (ds ++ List.replicate (i + 1 - ds.length) none).set i (some d)
section
variable {K : PySem.W.Frag}
theorem SlOk.put {G : Hp} {vs : L2.St} {ds : Sl} {v : V} {d : D} (S : SlOk K G vs ds) (r : Rep K G v d) (i : Nat) : SlOk K G (putS i v vs) (putD i d ds) := by
  have S2 : SlOk K G (vs ++ List.replicate (i + 1 - vs.length) none) (ds ++ List.replicate (i + 1 - ds.length) none) := by
    refine ⟨by rw [List.length_append, List.length_append, List.length_replicate, List.length_replicate, S.len], fun j e h => ?_⟩
    rcases Nat.lt_or_ge j ds.length with q | q
    · rw [List.getElem?_append_left q] at h
      obtain ⟨u, h1, h2⟩ := S.at_ j e h
      exact ⟨u, by rw [List.getElem?_append_left (by rw [S.len]; exact q)]; exact h1, h2⟩
    · rw [List.getElem?_append_right q, List.getElem?_replicate] at h
      split at h <;> cases h
  exact S2.set r i
theorem slH_set {H : Hp} {a C dx : Addr} {vs : L2.St} (h : H dx = some (.xd [])) : slH H a C dx vs = upd H a (SlO a C dx vs) := by
  have e : upd H dx (.xd []) = H := by
    funext b
    by_cases q : b = dx
    · rw [q, upd_same, h]
    · rw [upd_ne q]
  unfold slH
  rw [e]
/-- an own instance, as it stands -/
theorem own_slt {G H : Hp} {μ : Mu} {p a C : Addr} {ds : Sl} (w : Wd K G H μ) (e : μ p = some (.o a C ds)) (ha : a = p) : ∃ dx vs, Slt H p C dx vs ∧ dx ≠ p ∧ G dx = some (.xd []) ∧ H p = some (SlO p C dx vs) ∧ SlOk K G vs ds := by
  obtain ⟨h1, o, h2, h3⟩ := w.mu p _ e
  cases h3 with
  | o n h r => subst ha; exact ⟨_, _, .inr ⟨h2, w.ex _ _ h⟩, n, h, h2, r⟩
theorem own_new {G H : Hp} {μ : Mu} {p C dx : Addr} (w : Wd K G H μ) (e : μ p = some (.oi C dx)) : Slt H p C dx [] := by
  obtain ⟨h1, o, h2, h3⟩ := w.mu p _ e
  cases h3 with
  | oi => exact .inl ⟨h2, rfl⟩
/-- e.f, a slot of an own instance -/
@[simp] def rSlo (C : Addr) (i : Nat) (ra : RE) : RE := fun δ μ k => ra δ μ fun x μ1 => match x with
  | .own p => match μ1 p with
    | some (.o a C' fs) => a = p ∧ C' = C ∧ match fs[i]? with | some (some d) => k d μ1 | _ => False
    | _ => False
  | _ => False
theorem okE_slo {C p : Addr} {f : Str} {i : Nat} {te : TE} {ra : RE} (c : SCls K C) (s1 : Slot1 K C f p i) (h : OkE K te ra) : OkE K (SlX.tSl K te f) (rSlo C i ra) := fun σ δ μ G H k Q S w q b =>
  h σ δ μ G H _ _ S w q fun v d μ1 G1 H1 q1 w1 g1 r1 => by
    cases r1 with
    | own x =>
      simp only at q1
      split at q1
      · rename_i a C' fs e
        obtain ⟨ha, rfl, q1⟩ := q1
        split at q1
        · rename_i d e2
          obtain ⟨dx, vs, hs, _, _, _, S1⟩ := own_slt w1 e ha
          obtain ⟨u, h1, h2⟩ := S1.at_ i d e2
          exact ⟨x, C', dx, p, vs, i, u, rfl, hs, c, s1, h1, b u d μ1 G1 H1 q1 w1 g1 h2⟩
        · exact q1.elim
      · exact q1.elim
    | _ => exact q1.elim
/-- e.f = .. among other targets -/
@[simp] def rgSlo (C : Addr) (i : Nat) (re : RE) : RG := fun d δ μ k => re δ μ fun x μ1 => match x with
  | .own p => match μ1 p with
    | some (.o a C' fs) => a = p ∧ C' = C ∧ k δ (muSet μ1 p (.o p C (putD i d fs)))
    | some (.oi C' dx) => C' = C ∧ μ1 dx = some (.ox p) ∧ k δ (muDel (muSet μ1 p (.o p C (putD i d []))) dx)
    | _ => False
  | _ => False
theorem wd_first {G H : Hp} {μ : Mu} {p C dx : Addr} {vs : L2.St} {ds : Sl} (w : Wd K G H μ) (e : μ p = some (.oi C dx)) (e2 : μ dx = some (.ox p)) (S : SlOk K G vs ds) :
    Wd K (upd G dx (.xd [])) (slH H p C dx vs) (muDel (muSet μ p (.o p C ds)) dx) ∧ Go μ G H (muDel (muSet μ p (.o p C ds)) dx) (upd G dx (.xd [])) (slH H p C dx vs) := by
  have hne : dx ≠ p := fun z => by subst z; rw [e] at e2; cases e2
  have gp := (w.mu p _ e).1
  have gd := (w.mu dx _ e2).1
  refine ⟨⟨fun b o h => ?_, fun q c h => ?_⟩, Ex.new gd, fun b o h hm => ?_, fun b h => ?_, fun b h => ?_⟩
  · by_cases q : b = dx
    · subst q; rw [upd_same] at h; rw [slH, upd_ne hne, upd_same]; exact h
    · rw [upd_ne q] at h
      have : b ≠ p := fun z => by subst z; rw [gp] at h; cases h
      rw [slH_ne this q]; exact w.ex _ _ h
  · by_cases q1 : q = dx
    · subst q1; rw [muDel_same] at h; cases h
    · rw [muDel_ne q1] at h
      by_cases q2 : q = p
      · subst q2
        rw [muSet_same] at h
        cases h
        exact ⟨by rw [upd_ne q1]; exact gp, _, by rw [slH, upd_same], .o hne upd_same (S.mono0 (Ex.new gd))⟩
      · rw [muSet_ne q2] at h
        obtain ⟨h1, o, h2, h3⟩ := w.mu q c h
        exact ⟨by rw [upd_ne q1]; exact h1, o, by rw [slH_ne q2 q1]; exact h2, h3.mono (Ex.new gd)⟩
  · have n1 : b ≠ p := fun z => by subst z; rw [e] at hm; cases hm
    have n2 : b ≠ dx := fun z => by subst z; rw [e2] at hm; cases hm
    rw [slH_ne n1 n2]; exact h
  · by_cases q1 : b = dx
    · subst q1; rw [muDel_same] at h; exact absurd rfl h
    · rw [muDel_ne q1] at h
      by_cases q2 : b = p
      · subst q2; exact .inl (by rw [e]; simp)
      · rw [muSet_ne q2] at h; exact .inl h
  · by_cases q1 : b = dx
    · subst q1; exact .inr (.inl (by rw [e2]; simp))
    · rw [upd_ne q1] at h; exact .inl h
theorem okG_slo {C p : Addr} {f : Str} {i : Nat} {te : TE} {re : RE} (c : SCls K C) (s1 : Slot1 K C f p i) (h : OkE K te re) : OkG K (gSlA K te f) (rgSlo C i re) [] := fun v d σ δ μ G H k Q S w r q b =>
  h σ δ μ G H _ _ S w q fun u x μ1 G1 H1 q1 w1 g1 r1 => by
    cases r1 with
    | own y =>
      simp only at q1
      split at q1
      · rename_i a C' fs e
        obtain ⟨ha, rfl, q1⟩ := q1
        obtain ⟨dx, vs, hs, hne, hg, hp, S1⟩ := own_slt w1 e ha
        have S2 := S1.put (r.mono g1.eg) i
        refine ⟨y, C', dx, p, vs, i, rfl, hs, c, s1, ?_⟩
        rw [slH_set (w1.ex _ _ hg)]
        exact b σ δ _ G1 _ q1 (S.mono g1.eg) (w1.wrC e (.o hne hg S2)) (g1.trans (Go.wrC e)) ⟨rfl, fun _ _ => rfl⟩
      · rename_i C' dx e
        obtain ⟨rfl, e2, q1⟩ := q1
        have S2 : SlOk K G1 (putS i v []) (putD i d []) := SlOk.put ⟨rfl, fun j d h => by simp at h⟩ (r.mono g1.eg) i
        obtain ⟨w2, g2⟩ := wd_first w1 e e2 S2
        exact ⟨y, C', dx, p, [], i, rfl, own_new w1 e, c, s1, b σ δ _ _ _ q1 (S.mono (g1.eg.trans g2.eg)) w2 (g1.trans g2) ⟨rfl, fun _ _ => rfl⟩⟩
      · exact q1.elim
    | _ => exact q1.elim
/-- o.m(..), a method of an own instance -/
@[simp] def isOwn (C : Addr) (μ : Mu) (x : D) : Prop := match x with
  | .own p => match μ p with
    | some (.o a C' _) => a = p ∧ C' = C
    | some (.oi C' _) => C' = C
    | _ => False
  | _ => False
@[simp] def rMth (C : Addr) (dsp : DSp) (ra : RE) (rr : RA) : RE := fun δ μ k => ra δ μ fun x μ1 => isOwn C μ1 x ∧ rr δ μ1 fun ds μ2 => @dCall dsp (x :: ds) μ2 k
theorem isOwn_out {C : Addr} {G H : Hp} {μ : Mu} {v : V} {x : D} (w : Wd K G H μ) (r : Rep K G v x) (h : isOwn C μ x) : ∃ a dx vs, v = .ref a ∧ Slt H a C dx vs := by
  cases r with
  | own p =>
    unfold isOwn at h
    simp only at h
    split at h
    · rename_i a C' fs e
      obtain ⟨ha, rfl⟩ := h
      obtain ⟨dx, vs, hs, _⟩ := own_slt w e ha
      exact ⟨p, dx, vs, rfl, hs⟩
    · rename_i C' dx e
      subst h
      exact ⟨p, dx, [], rfl, own_new w e⟩
    · exact h.elim
  | _ => exact h.elim
theorem okE_mth {C : Addr} {dsp : DSp} {E : XK} {te : TE} {ra : RE} {tr : TA} {rr : RA} (h : OkE K te ra) (hr : OkA K tr rr) : OkE K (tMethSl C (spOf K dsp) E te tr) (rMth C dsp ra rr) := fun σ δ μ G H k Q S w q b =>
  h σ δ μ G H _ _ S w q fun v x μ1 G1 H1 ⟨q0, q1⟩ w1 g1 r1 => by
    obtain ⟨a, dx, vs, rfl, hs⟩ := isOwn_out w1 r1 q0
    exact ⟨a, dx, vs, rfl, hs, hr σ δ μ1 G1 H1 _ _ (S.mono g1.eg) w1 q1 fun us ds μ2 G2 H2 q2 w2 g2 r2 => ⟨x :: ds, μ2, G2, k, w2, .cons (r1.mono g2.eg) r2, q2, fun v d μ' G' H' qk w' g' r' => b v d μ' G' H' qk w' ((g1.trans g2).trans g') r'⟩⟩
theorem ke_meth (K : PySem.W.Frag) {X : Cx} {P : Program} {w : World} {mg : Str → Option Value} {base : Heap} {C : Addr} {m : Str} {n j : Nat} {dsp : DSp} {o e : Expr} {es : List Expr} {ta : TE} {t : TA} {apos pos : Pos} {pl : Sem Bool} (c : SCls K C) (F : MethD P w K mg base C m n dsp) (hr : Room j X.A) (he : PE X o ta) (ha : PA X (e :: es) t)
    (hj : n ≤ j := by decide) (hP : X.prog = P := by rfl) (hw : X.w = w := by rfl) (hK : X.K = K := by rfl) (hm : X.mg = mg := by rfl) (hb : X.base = base := by rfl)
    (hst : starEach (e :: es) X.env = (false, eval e X.env) :: starEach es X.env := by rfl) (hpl : (backTo pos (starEach es X.env)).any (·.1) = false := by rfl)
    (ht : eval (.Call (.Attribute o m apos) (e :: es) [] pos) X.env = (do
      let ov ← eval o X.env
      standAt apos.atName
      let (f, first) ← holding [ov] (getMethod ov m pl)
      callWith pos f first (backTo pos (starEach (e :: es) X.env)) (backToKw pos (keywordEach [] X.env))) := by rfl) :
    PE X (.Call (.Attribute o m apos) (e :: es) [] pos) (tMethSl C (spOf K dsp) E0 ta t) := by
  subst hP hw hK hm hb
  obtain ⟨g, h1, F⟩ := F.ex
  exact pe_methSl he c h1 F (hr.mono hj) pass0 ha hst hpl ht
/-! C(..): an own instance -/
@[simp] def rMkO (C : Addr) (dsp : DSp) (ra : RA) : RE := fun δ μ k => ra δ μ fun ds μ1 => ∀ p dx, μ1 p = none → μ1 dx = none → dx ≠ p → @dCall dsp (.own p :: ds) (muSet (muSet μ1 dx (.ox p)) p (.oi C dx)) fun z μ2 => z = .non ∧ k (.own p) μ2
theorem okE_mkO {C : Addr} {dsp : DSp} {t : TA} {ra : RA} (h : OkA K t ra) : OkE K (tMake C (spOf K dsp) [] E0 t) (rMkO C dsp ra) := fun σ δ μ G H k Q S w q b =>
  h σ δ μ G H _ _ S w q fun vs ds μ1 G1 H1 q1 w1 g1 r1 x dx hx hd hne => by
    show spOf K dsp (.ref x :: (vs ++ [])) _ _ _
    rw [List.append_nil]
    have w2 := w1.newC (o := .own x) (c := .ox x) hd .ox
    have g2 := Go.newC (o := .own x) (c := .ox x) w1 hd
    have hx2 : (upd H1 dx (.own x)) x = none := by rw [upd_ne (Ne.symm hne)]; exact hx
    have w3 := w2.newC (o := .ins C dx []) (c := .oi C dx) hx2 .oi
    have g3 := Go.newC (o := .ins C dx []) (c := .oi C dx) w2 hx2
    refine ⟨.own x :: ds, _, G1, _, w3, .cons (.own x) r1, q1 x dx (w1.mnone hx) (w1.mnone hd) hne, fun v d μ' G' H' ⟨hz, qk⟩ w' g' r' => ?_⟩
    subst hz
    cases r'
    exact ⟨rfl, b _ _ μ' G' H' qk w' (g1.trans ((g2.trans g3).trans g')) (.own x)⟩
theorem ke_mkO {X : Cx} {P : Program} {w : World} {mg : Str → Option Value} {base : Heap} {C : Addr} {x : Str} {k j : Nat} {dsp : DSp} {e : Expr} {es : List Expr} {p pos : Pos} {t : TA} (c : MakD P w K mg base k x C (spOf K dsp)) (hr : Room j X.A) (ha : PA X (e :: es) t) (hk : k + 1 ≤ j := by decide) (hg : Gl X x := by rfl) (hP : X.prog = P := by rfl) (hw : X.w = w := by rfl) (hK : X.K = K := by rfl) (hm : X.mg = mg := by rfl) (hb : X.base = base := by rfl)
    (hdb : (x == ("__debug__" : Str)) = false := by decide) (he : starEach (e :: es) X.env = (false, eval e X.env) :: starEach es X.env := by rfl) (hpl : (backTo pos (starEach es X.env)).any (·.1) = false := by rfl) : PE X (.Call (.Name x p) (e :: es) [] pos) (tMake C (spOf K dsp) [] E0 t) := by
  subst hP hw hK hm hb
  obtain ⟨f, fd, ps, M, F, h1, h2⟩ := c.ex
  exact pe_make M F (hr.mono hk) hg h1 h2 .nil pass0 ha hdb he hpl
/-- a class whose __init__ is one of the text's defs -/
theorem makD_of {P : Program} {w : World} {mg : Str → Option Value} {base : Heap} {C f : Addr} {fd : FuncData} {x qual : Str} {st : Stmt} {N ps : List Str} {k : Nat} {dsp : DSp} {r : RS} (M : Mk K C f) (F : Fun K "__init__" qual st f fd) (hm : mg x = some (.ref C)) (hb : BindsF "__init__" qual st ps)
    (B : Body P w K mg base k qual st N r) (S : FnScope N ps (defScope st)) (len : ∀ ds μ k, dsp ds μ k → ds.length = ps.length)
    (vc : ∀ ds μ k, dsp ds μ k → r { nx := fun _ μ' => k .non μ', rt := k } (startD N ds) μ) : MakD P w K mg base (k + 1) x C (spOf K dsp) :=
  ⟨f, fd, ps, M, fn_body B F S len vc, hm, F.binds hb⟩
end
end DL


set_option Elab.async false
set_option linter.all false
set_option maxRecDepth 100000
set_option maxHeartbeats 4000000
/-! DLx: x = enumerate(e), walked later by its name. -/
namespace DL
open PySem PySem.Spec PyProof.Rows L2 SlX StX ItX
section
variable {K : PySem.W.Frag}
def rEnN (K : PySem.W.Frag) (n : Nat) : List V → Hp → VK → Prop := fun xs H Q => ∃ (c : Bool) (a : Addr) (zs : List V), xs = [.ref a] ∧ SqA c K H a zs ∧ ∀ e it, H e = none → H it = none → e ≠ it → n ≤ e → n ≤ it → Q (.ref e) (upd (upd H it (LiO (objA c a) it)) e (EnO e it))
theorem call_enN {X : Cx} : CallR X (.type "enumerate") (rEnN X.K X.s_0.heap.objs.size) := by
  intro pins s σ H xs us Q I r h
  obtain ⟨c, a, zs, rfl, sx, q⟩ := h
  obtain ⟨u, rfl, ru⟩ := vals1 r
  cases ru
  obtain ⟨its, rv, p1⟩ := inv_sqA I sx
  refine enum_begins1 (beginsA c a its.toArray) p1 fun h' he hit hsz hk => ?_
  have n1 : H s.heap.objs.size = none := I.hok.fresh (Nat.le_refl _)
  have n2 : H (s.heap.objs.size + 1) = none := I.hok.fresh (Nat.le_succ _)
  have ne : s.heap.objs.size + 1 ≠ s.heap.objs.size := Nat.succ_ne_self _
  have st : ∀ b u, H b = some u → upd (upd H s.heap.objs.size (LiO (objA c a) s.heap.objs.size)) (s.heap.objs.size + 1) (EnO (s.heap.objs.size + 1) s.heap.objs.size) b = some u := fun b u e => by
    rw [upd_ne (ne_of_none e n2), upd_ne (ne_of_none e n1)]; exact e
  have un : Un X.fs [] H (upd (upd H s.heap.objs.size (LiO (objA c a) s.heap.objs.size)) (s.heap.objs.size + 1) (EnO (s.heap.objs.size + 1) s.heap.objs.size)) s.heap h' :=
    ⟨fun b u q _ _ _ => hk b u q, fun b u q _ _ _ => ⟨u.slots, hk b u q⟩, fun b u q n _ => by
      have z : (b : Nat) < s.heap.objs.size := Heap.lt_size q
      rw [upd_ne (addr_ne (.inl (Nat.lt_succ_of_lt z))), upd_ne (addr_ne (.inl z))]; exact n, fun b u q _ => ⟨u, hk b u q⟩, fun b xs q => st _ _ q, fun b u xs q => st _ _ q, fun b ps q => ⟨#[], by rw [st _ _ q]; simp⟩⟩
  have hok : HOk X.prog X.w (upd (upd H s.heap.objs.size (LiO (objA c a) s.heap.objs.size)) (s.heap.objs.size + 1) (EnO (s.heap.objs.size + 1) s.heap.objs.size)) h' := fun b u e => by
    by_cases h1 : b = s.heap.objs.size + 1
    · subst h1
      rw [upd_same] at e
      cases e
      exact ⟨he, ⟨_, he⟩, fun h1 h2 q k => k _ q⟩
    · rw [upd_ne h1] at e
      by_cases h2 : b = s.heap.objs.size
      · subst h2
        rw [upd_same] at e
        cases e
        exact ⟨hit, ⟨_, hit⟩, fun h1 h2 q k => k _ q⟩
      · rw [upd_ne h2] at e
        exact (I.hok b u e).stay (fun c v _ q => hk c v q) (fun c q => st _ _ q) fun c xs q => st _ _ q
  exact ⟨.ref (s.heap.objs.size + 1), _, I.un (t' := s.toks) un hok, rfl, q _ _ n2 n1 ne (Nat.le_succ_of_le I.sz) I.sz⟩
/-- x = enumerate(e) and what comes behind it -/
def tEnum (K : PySem.W.Frag) (j : Nat) (ta : TA) (u : Addr → Addr → TS) : TS := fun D σ H => ta σ H fun vs H1 => ∃ (c : Bool) (a : Addr) (zs : List V), vs = [.ref a] ∧ SqA c K H1 a zs ∧
  ∀ e it, H1 e = none → H1 it = none → e ≠ it → u e it D (σ.set j (some (.ref e))) (upd (upd H1 it (LiO (objA c a) it)) e (EnO e it))
theorem pss_enum {X : Cx} {j : Nat} {x : Str} {a : Expr} {ta : TA} {u : Addr → Addr → TS} {rest : List Stmt} {p pos pos' apos : Pos} (K : PySem.W.Frag) (hg : Gl X "enumerate" := by rfl) (hm : X.mg "enumerate" = none) (hN : X.N.Nodup) (hi : X.N[j]? = some x) (hx : Loc X.env.scope x) (ha : PA X [a] ta)
    (h : ∀ e it, X.s_0.heap.objs.size ≤ e → X.s_0.heap.objs.size ≤ it → PSs X rest (u e it)) (hK : X.K = K := by rfl)
    (he : starEach [a] X.env = (false, eval a X.env) :: starEach [] X.env := by rfl)
    (hs : swapsWith (.Call (.Name "enumerate" p) [a] [] apos) (some (.Name x pos')) pos.line X.env = pure false := by rfl) (hf : X.fn x = true ∨ X.env.scope.names.lookup x = some .local := by first | exact .inl rfl | exact .inr rfl | assumption) :
    PSs X (.Assign [.Name x pos'] (.Call (.Name "enumerate" p) [a] [] apos) pos :: rest) (tEnum K j ta u) := by
  subst hK
  refine ⟨fun pins s σ H D I q => ?_⟩
  refine wpAny_execs_cons ?_
  refine wpAny_Assign_Name ?_ hs
  refine wpAny_Call_Name_kw (ld_blt (u := .type "enumerate") I hg hm (by decide +kernel) ?_ (by decide) (by decide))
  refine PyProof.Rows.callWith_type1 (thn (ha.run apos pins s σ H _ I q) fun us s1 ⟨vs, H1, I1, r1, c, a', zs, ev, sx, q1⟩ => ?_) he rfl
  refine call_enN (X := X) pins s1 σ H1 vs us (fun v H2 => ∃ e it, v = .ref e ∧ X.s_0.heap.objs.size ≤ e ∧ X.s_0.heap.objs.size ≤ it ∧ u e it D (σ.set j (some (.ref e))) H2) I1 r1 ⟨c, a', zs, ev, sx, fun e it h1 h2 h3 h4 h5 => ⟨e, it, rfl, h4, h5, q1 e it h1 h2 h3⟩⟩ |> fun z => thn z fun v s2 ⟨y, H2, I2, r2, e, it, ey, h4, h5, q2⟩ => ?_
  subst ey
  exact store_ok I2 hN hi hx r2 (fun s3 I3 => (h e it h4 h5).run pins s3 _ H2 D I3 q2) hf
def iEnv (K : PySem.W.Frag) (e it : Addr) (j : Nat) : TI := fun σ H R => ∃ (c : Bool) (a : Addr) (zs : List V), σ[j]? = some (some (.ref e)) ∧ H e = some (EnO e it) ∧ H it = some (LiO (objA c a) it) ∧ e ≠ it ∧ SqA c K H a zs ∧ R (IteM c K a) (dropH (dropH H e) it)
theorem isA_cls {c : Bool} {h : Heap} {a : Addr} {its : Array Value} (x : IsA c h a its) : ∃ o, h.get? a = some o ∧ (o.cls = .type "list" ∨ o.cls = .type "tuple") := by
  cases c with
  | true => obtain ⟨o, e, h1, _⟩ := x; exact ⟨o, e, .inl h1⟩
  | false => obtain ⟨o, e, h1, _⟩ := x; exact ⟨o, e, .inr h1⟩
theorem objA_cls (c : Bool) (a : Addr) : (objA c a).cls ≠ .type "list" ∧ (objA c a).cls ≠ .type "tuple" := by
  cases c <;> exact ⟨fun h => by simp [objA] at h, fun h => by simp [objA] at h⟩
theorem pi_env {X : Cx} {e it : Addr} {j : Nat} {x : Str} {p tpos : Pos} {elts : List Expr} {kk : Nat} (h1 : X.s_0.heap.objs.size ≤ e) (h2 : X.s_0.heap.objs.size ≤ it) (hN : X.N[j]? = some x) (hv : Vis X.env.scope x) (hd : (x == ("__debug__" : Str)) = false := by decide) (hcd : (x == ("__classdict__" : Str)) = false := by decide) :
    PI X (.Tuple elts kk tpos) (.Name x p) (iEnv X.K e it j) := by
  refine ⟨fun pins s σ H R I h => ?_⟩
  obtain ⟨c, a, zs, hs, he, hi, hne, hq, q⟩ := h
  refine thn ((pe_var (pos := p) (i := j) hN hv hd hcd).run pins s σ H (fun v H1 => v = .ref e ∧ H1 = H) I ⟨.ref e, hs, rfl, rfl⟩) fun u s1 ⟨v, H1, I1, r1, ev, eH⟩ => ?_
  subst ev
  rw [eH] at I1
  cases r1
  have eE : IsEnum s1.heap e it 0 .none := (I1.hok e _ he).1
  have eI : s1.heap.get? it = some (objA c a) := (I1.hok it _ hi).1
  obtain ⟨its, rv, p1⟩ := inv_sqA I1 hq
  obtain ⟨oa, ea, ca⟩ := isA_cls p1
  have n1 : a ≠ it := fun z => by
    subst z
    rw [eI] at ea
    cases ea
    rcases ca with ca | ca
    · exact (objA_cls c a).1 ca
    · exact (objA_cls c a).2 ca
  have n2 : e ≠ a := fun z => by
    subst z
    rw [show s1.heap.get? e = _ from eE] at ea
    cases ea
    rcases ca with ca | ca <;> simp at ca
  have st : (∃ old, IsEnum s1.heap e it (0 + ((0 : Nat) : Int)) old) ∧ IterA c s1.heap it a 0 := ⟨⟨.none, eE⟩, iterA_0 eI⟩
  have T := turn_enumM (P := X.prog) (w := X.w) (K := X.K) (elts := elts) (kk := kk) (tpos := tpos) (c := c) n1 hne n2
  have he' := he
  unfold EnO at he'
  have I2 := inv_drop I1 he'
  have hi2 : dropH H e it = some (LiO (objA c a) it) := by rw [dropH_ne (Ne.symm hne)]; exact hi
  have hi' := hi2
  unfold LiO at hi'
  refine T.self X.A 0 s1 _ _ st ?_
  refine ⟨e, [e, it], _, _, dropH (dropH H e) it, rfl, inv_drop I2 hi', T, st, fun b hb => ?_, q⟩
  have z : b = e ∨ b = it := by simpa using hb
  rcases z with z | z
  · subst z
    have f := inv_fp I1 he h1
    exact ⟨by rw [dropH_ne hne]; exact f.1, f.2⟩
  · subst z
    exact inv_fp I2 hi2 h2
theorem ki_env (K : PySem.W.Frag) {X : Cx} {e it : Addr} {j : Nat} {x : Str} {p tpos : Pos} {elts : List Expr} {kk : Nat} (h1 : X.s_0.heap.objs.size ≤ e) (h2 : X.s_0.heap.objs.size ≤ it) (hN : X.N[j]? = some x) (hv : Vis X.env.scope x) (hK : X.K = K := by rfl) (hd : (x == ("__debug__" : Str)) = false := by decide) (hcd : (x == ("__classdict__" : Str)) = false := by decide) :
    PI X (.Tuple elts kk tpos) (.Name x p) (iEnv K e it j) := by subst hK; exact pi_env h1 h2 hN hv hd hcd
theorem wd_drop {G H : Hp} {μ : Mu} {a : Addr} {c : Cnt} (w : Wd K G H μ) (h : μ a = some c) : Wd K G (dropH H a) (muDel μ a) ∧ Go μ G H (muDel μ a) G (dropH H a) := by
  have ga := (w.mu a c h).1
  refine ⟨⟨fun b o e => ?_, fun q c' e => ?_⟩, Ex.refl G, fun b o e hm => ?_, fun b e => ?_, fun b e => .inl e⟩
  · rw [dropH_ne (fun z => by subst z; rw [ga] at e; cases e)]; exact w.ex _ _ e
  · by_cases z : q = a
    · subst z; rw [muDel_same] at e; cases e
    · rw [muDel_ne z] at e
      obtain ⟨h1, o, h2, h3⟩ := w.mu q c' e
      exact ⟨h1, o, by rw [dropH_ne z]; exact h2, h3⟩
  · rw [dropH_ne (fun z => by subst z; rw [h] at hm; cases hm)]; exact e
  · by_cases z : b = a
    · subst z; rw [muDel_same] at e; exact absurd rfl e
    · rw [muDel_ne z] at e; exact .inl e
@[simp] def rIEnv (e it : Addr) (j : Nat) : RI := fun δ μ k => δ[j]? = some (some (.own e)) ∧ μ e = some (.en e it) ∧ e ≠ it ∧ ∃ x xs, μ it = some (.ei it x) ∧ asQ μ x = some xs ∧ k (itE x xs) (muDel (muDel μ e) it)
theorem okI_env {e it : Addr} {j : Nat} : OkI K (iEnv K e it j) (rIEnv e it j) := fun σ δ μ G H k R S w ⟨h1, h2, h3, x, xs, h4, h5, q⟩ b => by
  obtain ⟨v, e1, r1⟩ := S.at_ j _ h1
  cases r1
  obtain ⟨g1, o1, o2, o3⟩ := w.mu e _ h2
  obtain ⟨g2, p1, p2, p3⟩ := w.mu it _ h4
  cases o3
  cases p3 with
  | ei rx =>
    obtain ⟨a, vs, ea, sa, ra⟩ := asQ_outA w rx h5
    cases ea
    obtain ⟨w1, z1⟩ := wd_drop w h2
    have h4' : muDel μ e it = some (.ei it x) := by rw [muDel_ne (Ne.symm h3)]; exact h4
    obtain ⟨w2, z2⟩ := wd_drop w1 h4'
    exact ⟨_, _, vs, e1, o2, p2, h3, sa, b _ _ _ G _ q w2 (z1.trans z2) (itOk_enum rx)⟩
@[simp] def rEnum (j : Nat) (ra : RA) (r : Addr → Addr → RS) : RS := fun DD δ μ => ra δ μ fun ds μ1 => match ds with
  | [x] => ∃ xs, asQ μ1 x = some xs ∧ ∀ e it, μ1 e = none → μ1 it = none → e ≠ it → r e it DD (δ.set j (some (.own e))) (muSet (muSet μ1 it (.ei it x)) e (.en e it))
  | _ => False
theorem okS_enum {j : Nat} {ta : TA} {ra : RA} {u : Addr → Addr → TS} {r : Addr → Addr → RS} (h : OkA K ta ra) (h2 : ∀ e it, OkS K (u e it) (r e it)) : OkS K (tEnum K j ta u) (rEnum j ra r) := fun σ δ μ G H DD D S w q b =>
  h σ δ μ G H _ _ S w q fun vs ds μ1 G1 H1 q1 w1 g1 r1 => by
    split at q1
    · rename_i x
      obtain ⟨xs, e1, q2⟩ := q1
      cases r1 with
      | cons rx t =>
        cases t
        obtain ⟨a, vs, rfl, sa, _⟩ := asQ_outA w1 rx e1
        refine ⟨_, a, vs, rfl, sa, fun e it hE hI hne => ?_⟩
        have w2 := w1.newC (o := LiO (objA (kindA x) a) it) (c := .ei it x) hI (.ei rx)
        have g2 := Go.newC (o := LiO (objA (kindA x) a) it) (c := .ei it x) w1 hI
        have hE2 : (upd H1 it (LiO (objA (kindA x) a) it)) e = none := by rw [upd_ne hne]; exact hE
        have w3 := w2.newC (o := EnO e it) (c := .en e it) hE2 .en
        have g3 := Go.newC (o := EnO e it) (c := .en e it) w2 hE2
        exact h2 e it _ _ _ G1 _ DD D ((S.mono g1.eg).set (.own e) j) w3 (q2 e it (w1.mnone hE) (w1.mnone hI) hne) (b.go (g1.trans (g2.trans g3)))
    · exact q1.elim
end
end DL


set_option Elab.async false
set_option linter.all false
set_option maxRecDepth 100000
set_option maxHeartbeats 4000000
/-! DLy: tuples of ints compared, summed up, their least; dicts with tuple keys. -/
namespace DL
open PySem PySem.Spec PyProof.Rows L2 SlX StX
open PySem.W (AlikeAll AllAlike alike min_tuple_data max_tuple_data minD maxD minD_ints maxD_ints)
section
variable {X : Cx}
theorem reads_ints {h : Heap} : ∀ {ns : List Int} {us : List Value}, Vals (ns.map V.int) us → ReadsAll h us (ns.map .int) []
  | [], _, .nil => .nil
  | n :: ns, _, .cons r t => by
    obtain ⟨t', rfl⟩ := (show ∃ t, _ = Value.int n t from r)
    exact .cons (as := []) (.int n t') (reads_ints t)
theorem depthAll_ints : ∀ xs : List Int, PyData.depthAll (xs.map .int) = 0
  | [] => by simp [PyData.depthAll]
  | x :: xs => by
    show PyData.depthAll (.int x :: xs.map .int) = 0
    rw [PyData.depthAll, depthAll_ints xs]
    simp [PyData.depth]
theorem foldl_min_mem (n : Int) : ∀ ns : List Int, ns.foldl min n ∈ n :: ns ∧ ∀ y ∈ n :: ns, ns.foldl min n ≤ y
  | [] => by simp
  | m :: ns => by
    obtain ⟨h1, h2⟩ := foldl_min_mem (min n m) ns
    refine ⟨?_, fun y hy => ?_⟩
    · rcases List.mem_cons.mp h1 with e | e
      · rw [List.foldl_cons, e]
        by_cases z : n ≤ m
        · rw [Int.min_eq_left z]; simp
        · rw [Int.min_eq_right (by omega)]; simp
      · exact List.mem_cons_of_mem _ (List.mem_cons_of_mem _ e)
    · have h0 := h2 (min n m) List.mem_cons_self
      rw [List.foldl_cons]
      rcases List.mem_cons.mp hy with e | e
      · subst e; omega
      · rcases List.mem_cons.mp e with e | e
        · subst e; omega
        · exact h2 y (List.mem_cons_of_mem _ e)
def rMinT (K : PySem.W.Frag) : List V → Hp → VK → Prop := fun vs H Q => ∃ (a : Addr) (ns : List Int), vs = [V.ref a] ∧ SqT K H a (ns.map V.int) ∧ 0 < ns.length ∧ ∀ m, m ∈ ns → (∀ y, y ∈ ns → m ≤ y) → Q (.int m) H
theorem alike_ints' (xs : List Int) : AlikeAll (xs.map PyData.int) := ⟨fun d hd d' hd' => by
  obtain ⟨n, _, rfl⟩ := List.mem_map.mp hd
  obtain ⟨m, _, rfl⟩ := List.mem_map.mp hd'
  simp [alike], fun d hd => by
  obtain ⟨n, _, rfl⟩ := List.mem_map.mp hd
  exact fun z => nomatch z⟩
theorem cr_minT (hc : X.calm = true) (hu : X.A.units + 1 < cLine) : CallR X (.builtin "min") (rMinT X.K) := by
  intro pins s σ H vs us Q I r h
  obtain ⟨a, ns, rfl, hs, hne, q⟩ := h
  obtain ⟨its, rv, hl, _⟩ := I.tuple hs
  rw [Vals.ref1 r]
  cases ns with
  | nil => simp at hne
  | cons n ns =>
    refine min_tuple_data (x := .int n) (xs := ns.map .int) (as := []) (I.ok.hd hc) hl (by simpa using reads_ints (h := s.heap) rv) (alike_ints' (n :: ns)) (by
      show X.A.units + 1 + PyData.depthAll ((n :: ns).map .int) < cLine
      rw [depthAll_ints]; exact hu) fun i v h' tk bs _ hr hk => ?_
    rw [minD_ints] at hr
    cases hr with
    | int i t =>
      obtain ⟨h1, h2⟩ := foldl_min_mem n ns
      exact ⟨.int _, H, I.kept (t' := tk) hk, ⟨t, rfl⟩, q _ h1 h2⟩
def rSumT (K : PySem.W.Frag) : List V → Hp → VK → Prop := fun vs H Q => ∃ (a : Addr) (ns : List Int), vs = [V.ref a] ∧ SqT K H a (ns.map V.int) ∧ Q (.int ns.sum) H
theorem cr_sumT (hc : X.calm = true) : CallR X (.builtin "sum") (rSumT X.K) := by
  intro pins s σ H vs us Q I r h
  obtain ⟨a, ns, rfl, hs, q⟩ := h
  obtain ⟨its, rv, hl, _⟩ := I.tuple hs
  rw [Vals.ref1 r]
  have hi : IntsAre its ns := rv.ints
  obtain ⟨xs, e⟩ := hi.allInts.items
  have hn : numsOf (intItems xs).toList = ns := by rw [← e]; exact hi.numsOf
  rw [nums_intItems] at hn
  rw [e] at hl
  refine PySem.W.ktm_sumG (I.ok.hd hc) hl fun h' tk t' hk => ⟨.int ns.sum, H, I.kept (t' := tk) hk, ⟨t', ?_⟩, q⟩
  rw [preSum_eq, List.take_of_length_le (by simp), hn]
end
section
variable (K : PySem.W.Frag) {X : Cx}
theorem kc_minT (hu : X.A.units + 1 < cLine) (hc : X.calm = true := by rfl) (hK : X.K = K := by rfl) : CallR X (.builtin "min") (rMinT K) := by subst hK; exact cr_minT hc hu
theorem kc_minL (hc : X.calm = true := by rfl) (hK : X.K = K := by rfl) : CallR X (.builtin "min") (rMin K) := by subst hK; exact cr_min hc
theorem kc_maxL (hc : X.calm = true := by rfl) (hK : X.K = K := by rfl) : CallR X (.builtin "max") (rMax K) := by subst hK; exact cr_max hc
theorem kc_sumT (hc : X.calm = true := by rfl) (hK : X.K = K := by rfl) : CallR X (.builtin "sum") (rSumT K) := by subst hK; exact cr_sumT hc
theorem ko_ltT (hu : X.A.units < cLine) (hK : X.K = K := by rfl) : OpR X (compareOp .Lt) (rLtT K) := by subst hK; exact op_ltT hu
end
/-! ### over data -/
section
variable {K : PySem.W.Frag}
@[simp] def oMinT : FL := fun ds μ k => ∃ ns : List Int, ds = [.tup (ns.map D.int)] ∧ 0 < ns.length ∧ ∀ m, m ∈ ns → (∀ y, y ∈ ns → m ≤ y) → k (.int m) μ
theorem okMinT : OkC K (rMinT K) oMinT := fun xs as μ G H k Q w r q t => by
  obtain ⟨ns, rfl, h0, q⟩ := q
  cases r with
  | cons r rr =>
    cases rr
    cases r with
    | tup h rl =>
      have := rl.ints
      subst this
      exact ⟨_, ns, rfl, SqT.of (w.ex _ _ h), h0, fun m h1 h2 => t _ _ μ G H (q m h1 h2) w (Go.refl _ _ _) (.int m)⟩
@[simp] def oSumT : FL := fun ds μ k => ∃ ns : List Int, ds = [.tup (ns.map D.int)] ∧ k (.int ns.sum) μ
theorem okSumT : OkC K (rSumT K) oSumT := fun xs as μ G H k Q w r q t => by
  obtain ⟨ns, rfl, q⟩ := q
  cases r with
  | cons r rr =>
    cases rr
    cases r with
    | tup h rl =>
      have := rl.ints
      subst this
      exact ⟨_, ns, rfl, SqT.of (w.ex _ _ h), t _ _ μ G H q w (Go.refl _ _ _) (.int _)⟩
theorem intsL {μ : Mu} {G H : Hp} {v : V} {d : D} {ns : List Int} (w : Wd K G H μ) (r : Rep K G v d) (e : asL μ d = some (ns.map D.int)) : ∃ a, v = .ref a ∧ SqL K H a (ns.map V.int) := by
  obtain ⟨a, vs, rfl, h, rl⟩ := asL_out w r e
  have := rl.ints
  subst this
  exact ⟨a, rfl, SqL.of h⟩
@[simp] def oMinL : FL := fun ds μ k => ∃ (x : D) (ns : List Int), ds = [x] ∧ asL μ x = some (ns.map D.int) ∧ 0 < ns.length ∧ ∀ m, m ∈ ns → (∀ y, y ∈ ns → m ≤ y) → k (.int m) μ
theorem okMinL : OkC K (rMin K) oMinL := fun xs as μ G H k Q w r q t => by
  obtain ⟨x, ns, rfl, e, h0, q⟩ := q
  cases r with
  | cons r rr =>
    cases rr
    obtain ⟨a, rfl, hs⟩ := intsL w r e
    exact ⟨a, ns, rfl, hs, h0, fun m h1 h2 => t _ _ μ G H (q m h1 h2) w (Go.refl _ _ _) (.int m)⟩
@[simp] def oMaxL : FL := fun ds μ k => ∃ (x : D) (ns : List Int), ds = [x] ∧ asL μ x = some (ns.map D.int) ∧ 0 < ns.length ∧ ∀ m, m ∈ ns → (∀ y, y ∈ ns → y ≤ m) → k (.int m) μ
theorem okMaxL : OkC K (rMax K) oMaxL := fun xs as μ G H k Q w r q t => by
  obtain ⟨x, ns, rfl, e, h0, q⟩ := q
  cases r with
  | cons r rr =>
    cases rr
    obtain ⟨a, rfl, hs⟩ := intsL w r e
    exact ⟨a, ns, rfl, hs, h0, fun m h1 h2 => t _ _ μ G H (q m h1 h2) w (Go.refl _ _ _) (.int m)⟩
@[simp] def oLtT : F2 := fun x y μ k => ∃ ns ms : List Int, x = .tup (ns.map D.int) ∧ y = .tup (ms.map D.int) ∧ k (.bl (HT.lexLt ns ms)) μ
theorem okLtT : OkOp K (rLtT K) oLtT := fun x y a b μ G H k Q w rx ry q t => by
  obtain ⟨ns, ms, rfl, rfl, q⟩ := q
  cases rx with
  | tup h1 r1 =>
    cases ry with
    | tup h2 r2 =>
      have := r1.ints
      subst this
      have := r2.ints
      subst this
      exact ⟨_, _, ns, ms, rfl, rfl, SqT.of (w.ex _ _ h1), SqT.of (w.ex _ _ h2), t _ _ μ G H q w (Go.refl _ _ _) (.bl _)⟩
/-! dicts with tuple keys -/
def keyT : List D → Option (List Key)
  | [] => some []
  | d :: ds => match keyD d, keyT ds with
    | some k, some ks => some (k :: ks)
    | _, _ => none
theorem keyT_out {G : Hp} : ∀ {ds : List D} {vs : List V} {ks : List Key}, RepL K G vs ds → keyT ds = some ks → vs = ks.map kV
  | _, _, _, .nil, e => by unfold keyT at e; cases e; rfl
  | _, _, _, .cons h t, e => by
    unfold keyT at e
    split at e
    · rename_i k ks q1 q2
      cases e
      rw [keyD_out h q1, keyT_out t q2]; rfl
    · cases e
@[simp] theorem keyT_ints (ns : List Int) : keyT (ns.map D.int) = some (ns.map Sum.inl) := by
  induction ns with
  | nil => rfl
  | cons n ns ih => simp [keyT, ih]
/-- {}, its keys tuples -/
@[simp] def rDNewT : RE := fun _ μ k => ∀ p, μ p = none → k (.own p) (muSet μ p (.t []))
theorem okE_dnewT : OkE K tDNewT rDNewT := fun σ δ μ G H k Q S w q b p hp => b _ _ _ G _ (q p (w.mnone hp)) (w.newC hp (.t (kvs := []) (kds := []) rfl .nil)) (Go.newC w hp) (.own p)
/-- d[t] = v -/
@[simp] def rDPutT (rd ry rv : RE) : RS := fun DD δ μ => rv δ μ fun v μ1 => rd δ μ1 fun o μ2 => ry δ μ2 fun y μ3 => match o, y with
  | .own p, .tup ds => ∃ kds key, μ3 p = some (.t kds) ∧ keyT ds = some key ∧ kds.length < 1000000 ∧ DD.nx δ (muSet μ3 p (.t (putG kds key v)))
  | _, _ => False
theorem okS_dputT {td ty tv : TE} {rd ry rv : RE} (hd : OkE K td rd) (hy : OkE K ty ry) (hv : OkE K tv rv) : OkS K (sDPut td ty tv) (rDPutT rd ry rv) := fun σ δ μ G H DD D S w q b =>
  hv σ δ μ G H _ _ S w q fun v dv μ1 G1 H1 q1 w1 g1 r1 => hd σ δ μ1 G1 H1 _ _ (S.mono g1.eg) w1 q1 fun o dO μ2 G2 H2 q2 w2 g2 r2 =>
  hy σ δ μ2 G2 H2 _ _ (S.mono (g1.eg.trans g2.eg)) w2 q2 fun y dy μ3 G3 H3 q3 w3 g3 r3 => by
    split at q3
    · rename_i p ds
      obtain ⟨kds, key, e1, e2, h3, q3⟩ := q3
      cases r2
      cases r3 with
      | tup ht rl =>
        obtain ⟨_, kvs, hp, ek, rv2⟩ := w3.muT p kds e1
        have := keyT_out rl e2
        subst this
        have hl : kvs.length = kds.length := by have := congrArg List.length ek; simpa using this
        have rt : RepT K G3 kvs kds := ⟨ek, rv2⟩
        have r4 := rt.put key (r1.mono (g2.eg.trans g3.eg))
        refine ⟨p, _, rfl, DPut.t hp (w3.ex _ _ ht) (sz_lt (by rw [hl]; exact h3)), ?_⟩
        rw [putV_eq]
        exact b.nx _ _ _ G3 _ q3 (S.mono (g1.eg.trans (g2.eg.trans g3.eg))) (w3.wrC e1 (.t r4.ks r4.vs)) ((g1.trans (g2.trans g3)).trans (Go.wrC e1))
    · exact q3.elim
end
theorem ks_dput {X : Cx} {o i value : Expr} {td ty tv : TE} {pos pos' : Pos} (hu : X.A.units + 1 < cLine) (ho : PE X o td) (hi : PE X i ty) (hv : PE X value tv) (hs : swapsWith value (some (.Subscript o i pos')) pos.line X.env = pure false := by rfl) :
    PS X (.Assign [.Subscript o i pos'] value pos) (sDPut td ty tv) := ps_dput hu ho hi hv hs
end DL


set_option Elab.async false
set_option linter.all false
set_option maxRecDepth 100000
set_option maxHeartbeats 4000000
/-! DLz: sorted(d), d a dict whose keys are tuples of ints. -/
namespace DL
open PySem PySem.Spec PyProof.Rows L2 SlX StX
open PySem.W (AllAlike Sortable EachIs dataLe sortVals dataKind SortsAt sortVals_data sortVals_length list_sort_vals sortingHeap alike)
def encT (n : List Int) : PyData := .tuple (n.map .int)
def leT : List Int → List Int → Bool := dataLe false encT
def rSortDT : List V → Hp → VK → Prop := fun xs H Q => ∃ (a : Addr) (kvs : List (List Key × V)) (ns : List (List Int)), xs = [.ref a] ∧ L2.Rd H a (.dT kvs) ∧ kvs.map (·.1) = ns.map (List.map Sum.inl) ∧ (∀ n ∈ ns, n ≠ []) ∧ ns.length ≤ 1000000 ∧
  ∀ (cs : List Addr) (p : Addr), H p = none → cs.length = ns.length → (∀ (j : Nat) (n : List Int), (ns.mergeSort leT)[j]? = some n → ∃ c, cs[j]? = some c ∧ H c = some (.tup (n.map V.int))) → Q (.ref p) (upd H p (.lst (cs.map V.ref)))
def RvT (H : Hp) (v : Value) (n : List Int) : Prop := ∃ a, v = .ref a ∧ H a = some (.tup (n.map V.int))
theorem reads_tup {P : Program} {w : World} {H : Hp} {h : Heap} {v : Value} {n : List Int} (ok : HOk P w H h) (r : RvT H v n) : ∃ as, Reads h v (encT n) as := by
  obtain ⟨a, rfl, e⟩ := r
  obtain ⟨_, its, rv, o, ho, hc, c, hd⟩ := ok a _ e
  exact ⟨[], .tuple ho hc hd (by simpa using reads_ints (h := h) rv)⟩
theorem each_get {α β : Type} {R : α → β → Prop} : ∀ {as : List α} {bs : List β}, EachIs R as bs → as.length = bs.length ∧ ∀ (j : Nat) (b : β), bs[j]? = some b → ∃ a, as[j]? = some a ∧ R a b
  | _, _, .nil => ⟨rfl, fun j b h => by simp at h⟩
  | _, _, .cons h t => by
    obtain ⟨h1, h2⟩ := each_get t
    refine ⟨by rw [List.length_cons, List.length_cons, h1], fun j b e => ?_⟩
    cases j with
    | zero => simp at e; subst e; exact ⟨_, rfl, h⟩
    | succ j => exact h2 j b (by simpa using e)
theorem each_of {α β : Type} {R : α → β → Prop} : ∀ {as : List α} {bs : List β}, as.length = bs.length → (∀ (j : Nat) (a : α) (b : β), as[j]? = some a → bs[j]? = some b → R a b) → EachIs R as bs
  | [], [], _, _ => .nil
  | a :: as, b :: bs, e, h => .cons (h 0 a b rfl rfl) (each_of (by simpa using e) fun j x y h1 h2 => h (j + 1) x y (by simpa using h1) (by simpa using h2))
  | [], _ :: _, e, _ => by simp at e
  | _ :: _, [], e, _ => by simp at e
theorem call_sortedDT {X : Cx} (hc : X.calm = true) (hu : X.A.units + 8 < cLine) : CallR X (.builtin "sorted") rSortDT := by
  intro pins s σ H xs us Q I r h
  obtain ⟨d, kvs, ns, rfl, hd, hk, hn, hz, q⟩ := h
  obtain ⟨u, rfl, rx⟩ := r.one
  cases rx
  obtain ⟨z, hs, ks, pr, o, es, ep, ho, hx, hdt, he, hnd⟩ := (show ObjOk X.prog X.w H s.heap d (.dT kvs) from hd.ok I.hok)
  have l1 : es.size = ks.length := size_of_entries he
  have l2 : kvs.length = ks.length := Paired.length pr
  have l3 : kvs.length = ns.length := by have := congrArg List.length hk; simpa using this
  refine Calls.call_function_entry PyProof.Rows.kind_sorted PyProof.Rows.plain_sorted PyProof.Rows.entry_sorted (PyProof.Rows.args_sorted1 _) ?_
  unfold Builtin.«sorted»
  refine wpAny_bind (m := checkCount "sorted" 1 1 _) (wpAny_pure ?_)
  refine wpAny_bind (PySem.W.kdu_collect (A := X.A.in1) (kdl_raw hs hx hdt) (I.ok.hd hc) ho (by omega) fun h' tk acc kp it => ?_)
  have ea : acc.toList = ks.map fun x => Value.ref x.2.1 := by
    have hl : acc.toList.length = ks.length := by rw [Array.length_toList, it.1]; exact l1
    apply List.ext_getElem?
    intro j
    rw [List.getElem?_map]
    cases hj : acc.toList[j]? with
    | none =>
      have h1 := List.getElem?_eq_none_iff.mp hj
      rw [List.getElem?_eq_none (by omega)]
      all_goals rfl
    | some v =>
      obtain ⟨en, hen, hv⟩ := it.2 j v (by rw [← Array.getElem?_toList]; exact hj)
      have qe := entry_at he j
      rw [hen] at qe
      cases hb : ks[j]? with
      | none =>
        rw [hb] at qe
        exact nomatch (show some en = none from qe)
      | some b =>
        rw [hb] at qe
        have e2 : en = entryOfKey (tupleKind (mixKind X.prog X.w)) b := Option.some.inj qe
        rw [hv, e2]
        all_goals rfl
  have hR : EachIs (RvT H) acc.toList ns := by
    refine each_of (by rw [ea, List.length_map]; omega) fun j v n hv hn => ?_
    rw [ea, List.getElem?_map] at hv
    cases hb : ks[j]? with
    | none => rw [hb] at hv; simp at hv
    | some b =>
      rw [hb] at hv
      simp at hv
      subst hv
      obtain ⟨p, hp, hp1, hp2, hp3⟩ : ∃ p, kvs[j]? = some p ∧ p.1 = b.1 ∧ H b.2.1 = some (.tup (p.1.map kV)) ∧ RelV p.2 b.2.2 := by
        have : ∀ {kvs : List (List Key × V)} {ks : List (List Key × Addr × Value)}, Paired (fun (p : List Key × V) (q : List Key × Addr × Value) => p.1 = q.1 ∧ H q.2.1 = some (.tup (p.1.map kV)) ∧ RelV p.2 q.2.2) kvs ks → ∀ {j : Nat} {b}, ks[j]? = some b → ∃ p, kvs[j]? = some p ∧ p.1 = b.1 ∧ H b.2.1 = some (.tup (p.1.map kV)) ∧ RelV p.2 b.2.2 := by
          intro kvs ks pr
          induction pr with
          | nil => intro j b e; simp at e
          | cons h t ih =>
            intro j b e
            cases j with
            | zero => simp at e; subst e; exact ⟨_, rfl, h.1, h.2.1, h.2.2⟩
            | succ j => exact ih (by simpa using e)
        exact this pr hb
      have e3 : p.1 = n.map Sum.inl := by
        have := congrArg (fun l => l[j]?) hk
        simp only [List.getElem?_map, hp, hn, Option.map_some] at this
        exact Option.some.inj this
      refine ⟨b.2.1, rfl, ?_⟩
      rw [hp2, e3, List.map_map]
      rfl
  have I1 : Inv X pins σ H { s with heap := h', toks := tk } := I.kept kp
  have hal : acc.toList.length = ns.length := (each_get hR).1
  refine wpAny_bind (wpAny_newList ?_ (by rw [hal]; exact sz_of hz))
  have hoL : (h'.push (seqObj "list" acc.toList.toArray 0)).get? h'.objs.size = some (seqObj "list" acc.toList.toArray 0) := Heap.get?_push_size _ rfl
  have kp2 : ∀ b u, h'.get? b = some u → (sortingHeap (h'.push (seqObj "list" acc.toList.toArray 0)) h'.objs.size acc.toList).get? b = some u := fun b u e =>
    PySem.W.sortingHeap_old (Nat.ne_of_lt (Heap.lt_size e)) (Heap.get?_push_of_some _ e)
  have er : EachIs (fun v b => ∃ as, Reads (sortingHeap (h'.push (seqObj "list" acc.toList.toArray 0)) h'.objs.size acc.toList) v (encT b) as) acc.toList ns :=
    hR.mono fun v n rt => let ⟨as, z⟩ := reads_tup I1.hok rt; ⟨as, PyProof.Rows.Reads.keeps kp2 z⟩
  have aal : AllAlike (ns.map encT) := AllAlike.of fun b b' => by
    show alike (.tuple (b.map .int)) (.tuple (b'.map .int)) = true
    simp [alike, PySem.W.alike_ints]
  have srt : Sortable (ns.map encT) := .inl fun d hd => by
    obtain ⟨n, hm, rfl⟩ := List.mem_map.mp hd
    cases n with
    | nil => exact absurd rfl (hn [] hm)
    | cons x n => exact ⟨.int x, n.map .int, rfl⟩
  show wpAny _ _ _ _ _ { s with heap := h'.push (seqObj "list" acc.toList.toArray 0), toks := tk }
  refine wpAny_bind (wpAny_holding (wpAny_call_entry PyProof.Rows.slot_list_sort ⟨_, hoL, rfl⟩ PyProof.Rows.entry_list_sort
    (list_sort_vals (κ := dataKind (sortingHeap (h'.push (seqObj "list" acc.toList.toArray 0)) h'.objs.size acc.toList) (ns.map encT)) (s := { s with heap := h'.push (seqObj "list" acc.toList.toArray 0), toks := tk }) hoL
      (SortsAt.data (PySem.W.each_map (R := fun v d => ∃ as, Reads (sortingHeap (h'.push (seqObj "list" acc.toList.toArray 0)) h'.objs.size acc.toList) v d as) encT er) aal srt (fun d hd => ?_)) (by rw [hal]; exact sz_of hz) ⟨_, rfl, ?_⟩) (PyProof.Rows.args_list_sort _)))
  · obtain ⟨n, hm, rfl⟩ := List.mem_map.mp hd
    have : (encT n).depth ≤ 1 := by
      show PyData.depth (.tuple (n.map .int)) ≤ 1
      simp [PyData.depth, depthAll_ints]
    show X.A.units + 1 + 1 + (encT n).depth < cLine
    omega
  · have ho2 := sortVals_data false hR er aal
    obtain ⟨e', he'⟩ := PyProof.Rows.sortedHeap_at (vs := acc.toList) (out := (sortVals (dataKind (sortingHeap (h'.push (seqObj "list" acc.toList.toArray 0)) h'.objs.size acc.toList) (ns.map encT)) false acc.toList acc.toList).toArray) hoL
    generalize hout : sortVals (dataKind (sortingHeap (h'.push (seqObj "list" acc.toList.toArray 0)) h'.objs.size acc.toList) (ns.map encT)) false acc.toList acc.toList = out at ho2 he'
    obtain ⟨g1, g2⟩ := each_get ho2
    have g3 : out.length = ns.length := by rw [g1, (List.mergeSort_perm _ _).length_eq]
    obtain ⟨cs, hcs⟩ : ∃ cs : List Addr, out = cs.map Value.ref := by
      have : ∀ {out : List Value} {ms : List (List Int)}, EachIs (RvT H) out ms → ∃ cs : List Addr, out = cs.map Value.ref := by
        intro out ms e
        induction e with
        | nil => exact ⟨[], rfl⟩
        | cons h t ih =>
          obtain ⟨a, rfl, _⟩ := h
          obtain ⟨cs, rfl⟩ := ih
          exact ⟨a :: cs, rfl⟩
      exact this ho2
    have hlen : cs.length = ns.length := by rw [← g3, hcs, List.length_map]
    refine wpAny_pure ⟨_, rfl, .ref h'.objs.size, upd H h'.objs.size (.lst (cs.map V.ref)), I1.laid (t' := tk) (fun b u e => ?_) (Nat.le_refl _)
      (show ObjOk X.prog X.w _ _ _ (.lst (cs.map V.ref)) from ⟨by rw [List.length_map, hlen]; exact sz_of hz, out, e', by rw [hcs]; exact L2.vals_refs cs, he'⟩), rfl, q cs _ (I1.hok.fresh (Nat.le_refl _)) hlen fun j n e => ?_⟩
    · have hb : b < h'.objs.size := Heap.lt_size e
      rw [PyProof.Rows.sortedHeap_old (Nat.ne_of_lt hb) (by rw [size_push']; exact Nat.lt_succ_of_lt hb)]
      exact Heap.get?_push_of_some _ e
    · obtain ⟨v, hv, a, rfl, ha⟩ := g2 j n e
      rw [hcs, List.getElem?_map] at hv
      cases qc : cs[j]? with
      | none => rw [qc] at hv; simp at hv
      | some c => rw [qc] at hv; simp at hv; subst hv; exact ⟨c, rfl, ha⟩
theorem leT_eq : leT = fun p q => decide (p ≤ q) := by
  funext p q
  show (!PySem.W.dataLt (.tuple (q.map .int)) (.tuple (p.map .int))) = _
  rw [PySem.W.dataLt_tuple]
  show (!PySem.W.rowLt (q.map .int) (p.map .int)) = _
  rw [PySem.W.dataLt_ints]
  by_cases h : q < p
  · have h' : ¬ p ≤ q := fun r => List.not_lt.mpr r h
    simp [h, h']
  · have h' : p ≤ q := List.not_lt.mp h
    simp [h, h']
theorem lexLt_eq : ∀ x y : List Int, HT.lexLt x y = decide (x < y)
  | [], [] => by simp [HT.lexLt]
  | [], _ :: _ => by simp [HT.lexLt]
  | _ :: _, [] => by simp [HT.lexLt]
  | x :: xs, y :: ys => by
    rw [HT.lexLt_cons, lexLt_eq xs ys]
    by_cases h : x = y
    · subst h; simp [List.cons_lt_cons_iff]
    · simp [h, List.cons_lt_cons_iff]
theorem sortT_perm (ns : List (List Int)) : (ns.mergeSort leT).Perm ns := List.mergeSort_perm _ _
theorem sortT_le (ns : List (List Int)) : (ns.mergeSort leT).Pairwise (fun p q => p ≤ q) := by
  have h := List.pairwise_mergeSort (le := leT) (fun a b c h1 h2 => by
    rw [leT_eq] at h1 h2 ⊢
    exact decide_eq_true (List.le_trans (of_decide_eq_true h1) (of_decide_eq_true h2))) (fun a b => by
    rw [leT_eq]
    rcases List.le_total a b with z | z
    · simp [z]
    · simp [z]) ns
  exact h.imp fun {a b} e => by rw [leT_eq] at e; exact of_decide_eq_true e
theorem sortT_lt {ns : List (List Int)} (nd : ns.Nodup) : (ns.mergeSort leT).Pairwise (fun p q => p < q) := by
  have h1 := sortT_le ns
  have h2 : (ns.mergeSort leT).Nodup := (sortT_perm ns).nodup_iff.mpr nd
  exact (h1.and h2).imp fun {a b} ⟨x, y⟩ => by
    rcases Classical.em (a < b) with z | z
    · exact z
    · exact absurd (List.le_antisymm x (List.not_lt.mp z)) y
/-! ### over data -/
section
variable {K : PySem.W.Frag}
theorem tup_own {G H : Hp} {μ : Mu} {a : Addr} {vs : List V} (w : Wd K G H μ) (h : H a = some (.tup vs)) : μ a = none := by
  cases e : μ a with
  | none => rfl
  | some c =>
    obtain ⟨_, o, h2, h3⟩ := w.mu a c e
    rw [h] at h2
    cases h2
    cases h3
/-- a tuple that stands is data -/
theorem wd_tup {G H : Hp} {μ : Mu} {a : Addr} {vs : List V} {ds : List D} (w : Wd K G H μ) (h : H a = some (.tup vs)) (r : RepL K G vs ds) : ∃ G', Wd K G' H μ ∧ Go μ G H μ G' H ∧ Rep K G' (.ref a) (.tup ds) := by
  cases e : G a with
  | some o =>
    have := w.ex _ _ e
    rw [h] at this
    cases this
    exact ⟨G, w, Go.refl _ _ _, .tup e r⟩
  | none =>
    have hm := tup_own w h
    refine ⟨upd G a (.tup vs), ⟨fun b o q => ?_, fun q c hq => ?_⟩, ⟨Ex.new e, fun _ _ h _ => h, fun _ h => .inl h, fun b hb => ?_⟩, .tup upd_same (r.mono (Ex.new e))⟩
    · by_cases z : b = a
      · subst z; rw [upd_same] at q; cases q; exact h
      · rw [upd_ne z] at q; exact w.ex _ _ q
    · obtain ⟨h1, o, h2, h3⟩ := w.mu q c hq
      have z : q ≠ a := fun z => by subst z; rw [hm] at hq; cases hq
      exact ⟨by rw [upd_ne z]; exact h1, o, h2, h3.mono (Ex.new e)⟩
    · by_cases z : b = a
      · subst z; exact .inr (.inr (.inr ⟨vs, h⟩))
      · rw [upd_ne z] at hb; exact .inl hb
abbrev rowI (n : List Int) : D := .tup (n.map D.int)
theorem wd_tups {H : Hp} {μ : Mu} : ∀ {cs : List Addr} {ys : List (List Int)} {G : Hp}, Wd K G H μ → cs.length = ys.length → (∀ (j : Nat) (n : List Int), ys[j]? = some n → ∃ c, cs[j]? = some c ∧ H c = some (.tup (n.map V.int))) →
    ∃ G', Wd K G' H μ ∧ Go μ G H μ G' H ∧ RepL K G' (cs.map V.ref) (ys.map rowI)
  | [], [], G, w, _, _ => ⟨G, w, Go.refl _ _ _, .nil⟩
  | c :: cs, y :: ys, G, w, e, h => by
    obtain ⟨c', hc, ht⟩ := h 0 y rfl
    cases hc
    obtain ⟨G1, w1, g1, r1⟩ := wd_tup w ht (RepL.of_ints y)
    obtain ⟨G2, w2, g2, r2⟩ := wd_tups (cs := cs) (ys := ys) w1 (by simpa using e) fun j n hn => h (j + 1) n (by simpa using hn)
    exact ⟨G2, w2, g1.trans g2, .cons (r1.mono g2.eg) r2⟩
  | [], _ :: _, _, _, e, _ => by simp at e
  | _ :: _, [], _, _, e, _ => by simp at e
/-- a dict with tuple keys that is read -/
def tAt (μ : Mu) (p : Addr) : Option (List (List Key × D)) := match μ p with
  | some (.t kvs) => some kvs
  | _ => none
@[simp] theorem tAt_iff {μ : Mu} {p : Addr} {kvs : List (List Key × D)} : tAt μ p = some kvs ↔ μ p = some (.t kvs) := by
  unfold tAt
  constructor
  · intro h
    split at h
    · rename_i e; cases h; exact e
    · cases h
  · intro h; rw [h]
@[simp] def asT (μ : Mu) : D → Option (List (List Key × D))
  | .dt ks ds => some (ks.zip ds)
  | .own p => tAt μ p
  | _ => none
theorem asT_out {μ : Mu} {G H : Hp} {v : V} {d : D} {kds : List (List Key × D)} (w : Wd K G H μ) (r : Rep K G v d) (e : asT μ d = some kds) : ∃ a kvs, v = .ref a ∧ H a = some (.dT kvs) ∧ RepT K G kvs kds := by
  cases r with
  | @dt a ks vs ds h hl q =>
    cases e
    refine ⟨_, _, rfl, w.ex _ _ h, RepT.back ?_ ?_⟩
    · rw [List.map_fst_zip (by omega)]
    · rw [List.map_snd_zip (by omega)]; exact q
  | own p =>
    obtain ⟨_, kvs, h, e1, q⟩ := w.muT p _ (tAt_iff.mp e)
    exact ⟨_, _, rfl, h, e1, q⟩
  | _ => cases e
@[simp] def oSortT : FL := fun ds μ k => ∃ (x : D) (kds : List (List Key × D)) (ns : List (List Int)), ds = [x] ∧ asT μ x = some kds ∧ kds.map (·.1) = ns.map (List.map Sum.inl) ∧ (∀ n ∈ ns, n ≠ []) ∧ ns.length ≤ 1000000 ∧ k (.lst ((ns.mergeSort leT).map rowI)) μ
theorem okSortT : OkC K rSortDT oSortT := fun xs as μ G H k Q w r q t => by
  obtain ⟨x, kds, ns, rfl, e, hk, hn, hz, q⟩ := q
  cases r with
  | cons r rr =>
    cases rr
    obtain ⟨a, kvs, rfl, ha, rt⟩ := asT_out w r e
    refine ⟨a, kvs, ns, rfl, .inl ha, by rw [rt.ks]; exact hk, hn, hz, fun cs p hp hl hc => ?_⟩
    obtain ⟨G', w', g', r'⟩ := wd_tups (cs := cs) (ys := ns.mergeSort leT) w (by rw [hl, (sortT_perm ns).length_eq]) hc
    exact mkLst w' r' q (fun v d μ2 G2 H2 qk w2 g2 r2 => t v d μ2 G2 H2 qk w2 (g'.trans g2) r2) p hp
theorem kc_sortDT {X : Cx} (hu : X.A.units + 8 < cLine) (hc : X.calm = true := by rfl) : CallR X (.builtin "sorted") rSortDT := call_sortedDT hc hu
end
theorem units0 {a : Nat} (h : a + 64 < cLine) : a < cLine := by omega
theorem units8 {a : Nat} (h : a + 64 < cLine) : a + 8 < cLine := by omega
theorem ke_globS {X : Cx} {x y : Str} {pos : Pos} {mg : Str → Option Value} (h : ∃ t, mg x = some (.str y t)) (hm : X.mg = mg := by rfl) (hg : Gl X x := by rfl) (hd : (x == ("__debug__" : Str)) = false := by decide) : PE X (.Name x pos) (tC (.str y)) := by
  subst hm
  obtain ⟨t, h⟩ := h
  exact pe_glob hg h ⟨_, rfl⟩ hd
section
variable {K : PySem.W.Frag} {C : Addr}
theorem slo {f : Str} {i : Nat} {te : TE} {ra : RE} (c : SCls K C) (s : ∃ p, Slot1 K C f p i) (h : OkE K te ra) : OkE K (SlX.tSl K te f) (rSlo C i ra) := by
  obtain ⟨p, s⟩ := s
  exact okE_slo c s h
theorem gslo {f : Str} {i : Nat} {te : TE} {re : RE} (c : SCls K C) (s : ∃ p, Slot1 K C f p i) (h : OkE K te re) : OkG K (gSlA K te f) (rgSlo C i re) [] := by
  obtain ⟨p, s⟩ := s
  exact okG_slo c s h
end
def isNon : D → Bool
  | .non => true
  | _ => false
@[simp] def oIsN : F2 := fun x y μ k => y = .non ∧ k (.bl (isNon x)) μ
@[simp] def oNotN : F2 := fun x y μ k => y = .non ∧ k (.bl (!isNon x)) μ
section
variable {K : PySem.W.Frag}
theorem isNon_rep {G : Hp} {v : V} {d : D} (r : Rep K G v d) : decide (v = .non) = isNon d := by
  cases r <;> simp [isNon]
theorem okIsN : OkOp K (fun x y H Q => y = .non ∧ Q (.bl (decide (x = .non))) H) oIsN := fun x y a b μ G H k Q w rx ry ⟨e, q⟩ t => by
  subst e
  cases ry
  exact ⟨rfl, by rw [isNon_rep rx]; exact t _ _ μ G H q w (Go.refl _ _ _) (.bl _)⟩
theorem okNotN : OkOp K (fun x y H Q => y = .non ∧ Q (.bl (!decide (x = .non))) H) oNotN := fun x y a b μ G H k Q w rx ry ⟨e, q⟩ t => by
  subst e
  cases ry
  exact ⟨rfl, by rw [isNon_rep rx]; exact t _ _ μ G H q w (Go.refl _ _ _) (.bl _)⟩
end
section
variable {K : PySem.W.Frag}
/-- xs * n, a list that will change -/
@[simp] def oRepO : F2 := fun x y μ k => ∃ xs, asL μ x = some xs ∧ ∃ j, y = .int j ∧ xs.length ≤ 1000 ∧ j ≤ 1000 ∧ -1000 ≤ j ∧ ∀ p, μ p = none → k (.own p) (muSet μ p (.l (List.replicate j.toNat xs).flatten))
theorem okRepO : OkOp K rRep oRepO := fun x y a b μ G H k Q w rx ry ⟨xs, e1, j, e2, hl, h1, h0, q⟩ t => by
  obtain ⟨p, vs, rfl, hp, r1⟩ := asL_out w rx e1
  subst e2
  cases ry
  refine ⟨p, j, vs, rfl, rfl, hp, by omega, by omega, ?_, fun l hl => mkOwn w (r1.flat _) q t l hl⟩
  rw [r1.length]
  exact Nat.le_trans (Nat.mul_le_mul hl (show j.toNat ≤ 1000 by omega)) (by decide)
end
end DL


set_option Elab.async false
set_option linter.all false
set_option maxRecDepth 100000
set_option maxHeartbeats 4000000
/-! DU: a tuple read backwards, t[::-1]. -/
namespace DL
open PySem PySem.Spec PyProof.Rows L2 SlX StX
/-- the slice's object asks all, from the end on -/
theorem back_applied {prog : Program} {w : World} {A : Around} {E : Value → Shared → Prop} {s : Shared} {sl : Addr} {vk : Value} {n : Nat} {Q : Int × Int × Nat → Shared → Prop} (hs : s.heap.IsSliceOf sl .none .none vk) (pk : IsPart vk (some (-1)))
    (h : Q ((n : Int) - 1, -1, n) s) : wpAny (model prog w) A (Builtin.Slice.sliceApplied (.ref sl) (pure (n : Int))) Q E s := by
  obtain ⟨os, ho, _, hd⟩ := id hs
  unfold Builtin.Slice.sliceApplied Builtin.Slice.sliceFields
  refine wpAny_bind (wpAny_bind ?_)
  refine wpAny_field ho hd (x := .none) rfl (wpAny_bind ?_)
  refine wpAny_field ho hd (x := .none) rfl (wpAny_bind ?_)
  refine wpAny_field ho hd (x := vk) rfl (wpAny_bind (wpAny_pure (wpAny_pure ?_)))
  refine wpAny_bind (HT.slicePart_ pk ?_)
  show wpAny _ _ (if ((-1 : Int) == 0) = true then _ else _) _ _ s
  rw [if_neg (by decide)]
  refine wpAny_bind (HT.slicePart_ .none (wpAny_bind (HT.slicePart_ .none (wpAny_bind (wpAny_pure ?_)))))
  have e : Builtin.Slice.slicePlaces ((n : Int) - 1) (-1) (-1) = n := by
    unfold Builtin.Slice.slicePlaces
    rw [if_neg (by decide)]
    split
    · have : ((n : Int) - 1 - -1 - 1) / (- -1) + 1 = n := by
        rw [show (- -1 : Int) = 1 by rfl, Int.ediv_one]; omega
      rw [this]; rfl
    · have : n = 0 := by omega
      subst this; rfl
  show wpAny _ _ (pure ((n : Int) - 1, (-1 : Int), Builtin.Slice.slicePlaces ((n : Int) - 1) (-1) (-1))) _ _ s
  rw [e]
  exact wpAny_pure h
theorem back_items (xs : Array Value) : ((List.range xs.size).filterMap fun (k : Nat) => xs[((xs.size : Int) - 1 + (k : Int) * -1).toNat]?) = xs.toList.reverse := by
  apply List.ext_getElem?
  intro j
  have e : (List.range xs.size).filterMap (fun (k : Nat) => xs[((xs.size : Int) - 1 + (k : Int) * -1).toNat]?) = (List.range xs.size).map fun k => xs.getD (xs.size - 1 - k) default := by
    have hg : ∀ k ∈ List.range xs.size, xs[((xs.size : Int) - 1 + (k : Int) * -1).toNat]? = some (xs.getD (xs.size - 1 - k) default) := fun k hk => by
      have hk := List.mem_range.mp hk
      have e1 : ((xs.size : Int) - 1 + (k : Int) * -1).toNat = xs.size - 1 - k := by omega
      have h1 : xs.size - 1 - k < xs.size := by omega
      rw [e1]
      simp [Array.getD, h1]
    generalize List.range xs.size = l at hg
    induction l with
    | nil => rfl
    | cons k l ih =>
      rw [List.filterMap_cons, hg k (by simp), List.map_cons, ih fun j hj => hg j (List.mem_cons_of_mem _ hj)]
  rw [e]
  by_cases hj : j < xs.size
  · have h1 : xs.size - 1 - j < xs.size := by omega
    rw [List.getElem?_map, List.getElem?_range hj, List.getElem?_reverse (by simpa using hj)]
    simp [Array.getD, h1]
  · rw [List.getElem?_eq_none (by simpa using hj), List.getElem?_eq_none (by simpa using hj)]
theorem back_tuple {prog : Program} {w : World} {A : Around} {E : Value → Shared → Prop} {s : Shared} {t sl : Addr} {items : Array Value} {vk : Value} {Q : Value → Shared → Prop} (ht : PyProof.Rows.IsTup s.heap t items) (hs : s.heap.IsSliceOf sl .none .none vk) (pk : IsPart vk (some (-1)))
    (h : Q (.ref s.heap.objs.size) { s with heap := s.heap.push { cls := .type "tuple", data := .seq items.toList.reverse.toArray } }) (hz : items.size ≤ sizeLine) : wpAny (model prog w) A (getItem (.ref t) (.ref sl)) Q E s := by
  have ok : sizeOk (.seq items.toList.reverse.toArray) := by
    show items.toList.reverse.toArray.size ≤ sizeLine
    simpa using hz
  obtain ⟨os, ho, hc, _⟩ := id hs
  have tySl : s.TypeIs (.ref sl) "slice" := ⟨os, ho, hc⟩
  unfold getItem
  try with_reducible refine wpAny_holding ?_
  first | refine wpAny_bind (wpAny_pure ?_) | skip
  refine wpAny_bind (wpAny_sequenceKey ht.typeIs (by decide) ?_)
  refine wpAny_bind (wpAny_callSpecial?_slot (name := Str.ofString "__getitem__") ht.typeIs PyProof.Rows.slot_tuple_getitem ?_)
  refine wpAny_call_entry PyProof.Rows.slot_tuple_getitem ht.typeIs entry_tuple_getitem ?_ (args_tuple_getitem _ _)
  show wpAny _ _ (Builtin.Tuple.tupleItemsOf (.ref t) >>= _) _ _ s
  refine wpAny_bind (PyProof.Rows.tupleItemsOf_ ht (wpAny_bind (wpAny_typeOf tySl ?_)))
  rw [if_pos (by decide)]
  refine wpAny_bind (back_applied hs pk ?_)
  show wpAny _ _ (if (((items.size : Int) - 1 == 0 && (-1 : Int) == 1 && items.size == items.size) = true) then _ else _) _ _ s
  rw [if_neg (by simp), back_items]
  first
    | exact wpAny_bind (m := Builtin.Tuple.tupleExact _) (wpAny_newObj_type (wpAny_pure ⟨_, rfl, wpAny_pure h⟩) ok)
    | exact wpAny_bind (m := Builtin.Tuple.tupleExact _) (wpAny_newObj_type (wpAny_bind (wpAny_pure (wpAny_pure ⟨_, rfl, wpAny_pure h⟩))) ok)
    | exact wpAny_bind (wpAny_bind (m := Builtin.Tuple.tupleExact _) (wpAny_newObj_type (wpAny_pure (wpAny_pure ⟨_, rfl, wpAny_pure h⟩)) ok))
    | exact wpAny_bind (wpAny_bind (m := Builtin.Tuple.tupleExact _) (wpAny_newObj_type (wpAny_pure ⟨_, rfl, wpAny_pure h⟩) ok))
theorem vals_reverse {xs : List V} {us : List Value} (r : Vals xs us) : Vals xs.reverse us.reverse := by
  induction r with
  | nil => exact .nil
  | cons h t ih =>
    rw [List.reverse_cons, List.reverse_cons]
    exact Vals.append ih (.cons h .nil)
def tBackT (K : PySem.W.Frag) (te : TE) (ts : TO) : TE := fun σ H Q => te σ H fun x H1 => ts σ H1 fun l H2 => l = some (-1) ∧ ∃ (a : Addr) (xs : List V), x = .ref a ∧ SqT K H2 a xs ∧ ∀ p, H2 p = none → Q (.ref p) (upd H2 p (.tup xs.reverse))
theorem pe_backT {X : Cx} {e st : Expr} {te : TE} {ts : TO} {pos p2 : Pos} (he : PE X e te) (hs : PO X (some st) ts) : PE X (.Subscript e (.Slice none none (some st) p2) pos) (tBackT X.K te ts) := by
  refine ⟨fun pins s σ H Q I h => ?_⟩
  refine subD_of PyProof.Rows.slot_tuple_getitem.lookup (fun _ _ => rfl) (thn (he.run pins s σ H _ I h) fun v t1 ⟨x, H1, J1, rx, q1⟩ => wpAny_Slice ?_)
  rw [evalPart_none]
  refine wpAny_pure (wpAny_pure (thn (hs.run pins t1 σ H1 _ J1 q1) fun vk t2 ⟨l, H2, J2, pk, el, a, xs, ex, sx, q2⟩ => ?_))
  subst el ex
  cases rx
  have J3 : Inv X pins σ H2 { t2 with heap := t2.heap.push { cls := .type "slice", data := .fields #[.none, .none, vk] } } := J2.kept (t' := t2.toks) fun b ob z => Heap.get?_push_of_some _ z
  obtain ⟨its, rv, ht, hz⟩ := J3.tuple sx
  have lz : its.toArray.size ≤ sizeLine := by rw [List.size_toArray, ← rv.length]; exact hz
  refine ⟨ht.typeIs, back_tuple ht (Heap.IsSliceOf.new ..) pk ?_ lz⟩
  refine ⟨.ref _, _, J3.laid (t' := t2.toks) (o := .tup xs.reverse) (fun b ob z => Heap.get?_push_of_some _ z) (Nat.le_refl _) ?_, rfl, q2 _ (J3.hok.fresh (Nat.le_refl _))⟩
  exact ⟨by rw [List.length_reverse]; exact hz, _, vals_reverse rv, PyProof.Rows.IsTup.new _ _⟩
theorem ke_backT (K : PySem.W.Frag) {X : Cx} {e st : Expr} {te : TE} {ts : TO} {pos p2 : Pos} (he : PE X e te) (hs : PO X (some st) ts) (hK : X.K = K := by rfl) : PE X (.Subscript e (.Slice none none (some st) p2) pos) (tBackT K te ts) := by subst hK; exact pe_backT he hs
section
variable {K : PySem.W.Frag}
/-- t[::-1] -/
@[simp] def rBackT (re : RE) (ro : RO) : RE := fun δ μ k => re δ μ fun x μ1 => ro δ μ1 fun l μ2 => l = some (-1) ∧ match x with | .tup ds => k (.tup ds.reverse) μ2 | _ => False
theorem RepL.reverse {G : Hp} : ∀ {ds : List D} {vs : List V}, RepL K G vs ds → RepL K G vs.reverse ds.reverse
  | _, _, .nil => .nil
  | _, _, .cons h t => by
    rw [List.reverse_cons, List.reverse_cons]
    exact (RepL.reverse t).append (.cons h .nil)
theorem okE_backT {te : TE} {ts : TO} {re : RE} {ro : RO} (he : OkE K te re) (ho : OkO K ts ro) : OkE K (tBackT K te ts) (rBackT re ro) := fun σ δ μ G H k Q S w q b =>
  he σ δ μ G H _ _ S w q fun x d μ1 G1 H1 q1 w1 g1 r1 => ho σ δ μ1 G1 H1 _ _ (S.mono g1.eg) w1 q1 fun l μ2 G2 H2 ⟨el, q2⟩ w2 g2 => by
    cases r1 with
    | tup h r =>
      exact ⟨el, _, _, rfl, SqT.of (w2.ex _ _ (g2.eg _ _ h)), mkTup w2 (r.mono g2.eg).reverse q2 (fun v d' μ3 G3 H3 qk w3 g3 r3 => b v d' μ3 G3 H3 qk w3 ((g1.trans g2).trans g3) r3)⟩
    | _ => exact q2.elim
end
/-- a def that keeps nothing: a promise that nobody can ask -/
theorem fnD_never {P : Program} {w : World} {K : PySem.W.Frag} {mg : Str → Option Value} {base : Heap} {x : Str} {st : Stmt} {ps : List Str} {k : Nat} (a : At K mg x st)
    (hb : ∀ (kV doc pm : Value) (an : Option Addr) (cdv ct : Value) (us : List Value), us.length = ps.length → bindArgs (PySem.W.fnOf x x (defArgs st) (defBody st) (defScope st) .none kV doc pm an cdv ct) ⟨us, []⟩ = pure (ps.zip us)) : FnD P w K mg base x k (fun _ _ _ => False) := by
  obtain ⟨f, fd, F, hm, hk⟩ := a.ex
  exact ⟨f, fd, ps, ⟨fun vs H Q E h => let ⟨_, _, _, _, _, _, z, _⟩ := h; z.elim, fun A outer s H args us vs Q E _ _ _ _ h => let ⟨_, _, _, _, _, _, z, _⟩ := h; z.elim⟩, hm, hk, F.binds hb⟩
end DL


set_option Elab.async false
set_option linter.all false
set_option maxRecDepth 100000
set_option maxHeartbeats 4000000
namespace Sx
/-! sums -/
def sumN : Nat → (Nat → Int) → Int
  | 0, _ => 0
  | n + 1, f => sumN n f + f n
theorem sumN_congr : ∀ {n : Nat} {f g : Nat → Int}, (∀ i, i < n → f i = g i) → sumN n f = sumN n g
  | 0, _, _, _ => rfl
  | n + 1, f, g, h => by simp only [sumN]; rw [sumN_congr (fun i hi => h i (by omega)), h n (by omega)]
theorem sumN_add : ∀ (n : Nat) (f g : Nat → Int), sumN n (fun i => f i + g i) = sumN n f + sumN n g
  | 0, _, _ => rfl
  | n + 1, f, g => by simp only [sumN]; rw [sumN_add n f g]; omega
theorem sumN_mul : ∀ (n : Nat) (a : Int) (f : Nat → Int), sumN n (fun i => a * f i) = a * sumN n f
  | 0, a, _ => by simp [sumN]
  | n + 1, a, f => by simp only [sumN]; rw [sumN_mul n a f, Int.mul_add]
theorem sumN_zero : ∀ (n : Nat), sumN n (fun _ => 0) = 0
  | 0 => rfl
  | n + 1 => by simp only [sumN]; rw [sumN_zero n]; rfl
theorem sumN_eq_zero {n : Nat} {f : Nat → Int} (h : ∀ i, i < n → f i = 0) : sumN n f = 0 := by rw [sumN_congr h, sumN_zero]
/-- just one place -/
theorem sumN_one : ∀ {n k : Nat} {f : Nat → Int}, k < n → (∀ i, i < n → i ≠ k → f i = 0) → sumN n f = f k
  | 0, _, _, h, _ => by omega
  | n + 1, k, f, h, hz => by
    simp only [sumN]
    by_cases hk : k = n
    · subst hk
      rw [sumN_eq_zero (fun i hi => hz i (by omega) (by omega))]; omega
    · rw [sumN_one (k := k) (by omega) (fun i hi hn => hz i (by omega) hn), hz n (by omega) (by omega)]; omega
/-- just two places -/
theorem sumN_two : ∀ {n k l : Nat} {f : Nat → Int}, k < l → l < n → (∀ i, i < n → i ≠ k → i ≠ l → f i = 0) → sumN n f = f k + f l
  | 0, _, _, _, _, h, _ => by omega
  | n + 1, k, l, f, hkl, h, hz => by
    simp only [sumN]
    by_cases hk : l = n
    · subst hk
      rw [sumN_one (k := k) (by omega) (fun i hi hn => hz i (by omega) hn (by omega))]
    · rw [sumN_two (k := k) (l := l) hkl (by omega) (fun i hi hn hm => hz i (by omega) hn hm), hz n (by omega) (by omega) (by omega)]; omega
theorem sumN_nonneg : ∀ {n : Nat} {f : Nat → Int}, (∀ i, i < n → 0 ≤ f i) → 0 ≤ sumN n f
  | 0, _, _ => by simp [sumN]
  | n + 1, f, h => by simp only [sumN]; have := sumN_nonneg (n := n) (f := f) (fun i hi => h i (by omega)); have := h n (by omega); omega
theorem sumN_zero_all : ∀ {n : Nat} {f : Nat → Int}, (∀ i, i < n → 0 ≤ f i) → sumN n f ≤ 0 → ∀ i, i < n → f i = 0
  | 0, _, _, _ => fun i hi => by omega
  | n + 1, f, h, hs => fun i hi => by
    simp only [sumN] at hs
    have h1 := sumN_nonneg (n := n) (f := f) (fun i hi => h i (by omega))
    have h2 := h n (by omega)
    by_cases hin : i = n
    · subst hin; omega
    · exact sumN_zero_all (n := n) (fun i hi => h i (by omega)) (by omega) i (by omega)
theorem sumN_pos : ∀ {n : Nat} {f : Nat → Int}, 0 < sumN n f → ∃ i, i < n ∧ 0 < f i
  | 0, _, h => by simp [sumN] at h
  | n + 1, f, h => by
    simp only [sumN] at h
    by_cases hn : 0 < f n
    · exact ⟨n, by omega, hn⟩
    · obtain ⟨i, hi, hf⟩ := sumN_pos (n := n) (f := f) (by omega)
      exact ⟨i, by omega, hf⟩
theorem sumN_neg {n : Nat} {f : Nat → Int} (h : sumN n f < 0) : ∃ i, i < n ∧ f i < 0 := by
  have e : sumN n (fun i => -1 * f i) = -1 * sumN n f := sumN_mul n (-1) f
  obtain ⟨i, hi, hf⟩ := sumN_pos (n := n) (f := fun i => -1 * f i) (by omega)
  exact ⟨i, hi, by omega⟩
theorem sumN_swap : ∀ (n m : Nat) (f : Nat → Nat → Int), sumN n (fun i => sumN m fun j => f i j) = sumN m (fun j => sumN n fun i => f i j)
  | 0, m, f => by simp only [sumN]; rw [sumN_zero]
  | n + 1, m, f => by
    simp only [sumN]
    rw [sumN_swap n m f, ← sumN_add]
/-! determinants: c j the column j, a vector -/
abbrev Vec := Nat → Int
def skip (j j' : Nat) : Nat := if j' < j then j' else j' + 1
def minor (c : Nat → Vec) (j : Nat) : Nat → Vec := fun j' i => c (skip j j') (i + 1)
def sgn (j : Nat) : Int := if j % 2 = 0 then 1 else -1
def det : Nat → (Nat → Vec) → Int
  | 0, _ => 1
  | m + 1, c => sumN (m + 1) fun j => sgn j * c j 0 * det m (minor c j)
def upd (c : Nat → Vec) (k : Nat) (v : Vec) : Nat → Vec := fun j => if j = k then v else c j
theorem upd_same {c : Nat → Vec} {k : Nat} {v : Vec} : upd c k v k = v := by simp [upd]
theorem upd_ne {c : Nat → Vec} {k j : Nat} {v : Vec} (h : j ≠ k) : upd c k v j = c j := by simp [upd, h]
theorem upd_self {c : Nat → Vec} {k : Nat} : upd c k (c k) = c := by
  funext j; by_cases h : j = k
  · subst h; simp [upd]
  · simp [upd, h]
theorem upd_upd {c : Nat → Vec} {k : Nat} {v w : Vec} : upd (upd c k v) k w = upd c k w := by
  funext j; by_cases h : j = k <;> simp [upd, h]
theorem upd_comm {c : Nat → Vec} {k l : Nat} {v w : Vec} (h : k ≠ l) : upd (upd c k v) l w = upd (upd c l w) k v := by
  funext j
  by_cases h1 : j = k
  · by_cases h2 : j = l
    · exact absurd (h1.symm.trans h2) h
    · simp [upd, h1, h]
  · by_cases h2 : j = l
    · simp [upd, h2, Ne.symm h]
    · simp [upd, h1, h2]
theorem det_congr : ∀ {m : Nat} {c c' : Nat → Vec}, (∀ j i, j < m → i < m → c j i = c' j i) → det m c = det m c'
  | 0, _, _, _ => rfl
  | m + 1, c, c', h => by
    simp only [det]
    refine sumN_congr fun j hj => ?_
    rw [h j 0 hj (by omega), det_congr (m := m) (c := minor c j) (c' := minor c' j) (fun j' i hj' hi => ?_)]
    unfold minor
    refine h _ _ ?_ (by omega)
    unfold skip; split <;> omega
theorem skip_ne {j j' : Nat} : skip j j' ≠ j := by unfold skip; split <;> omega
theorem minor_upd_same {c : Nat → Vec} {k : Nat} {v : Vec} : minor (upd c k v) k = minor c k := by
  funext j' i; unfold minor; rw [upd_ne skip_ne]
/-- the place of column k without column j -/
def back (j k : Nat) : Nat := if k < j then k else k - 1
theorem skip_eq {j j' k : Nat} (h : k ≠ j) : skip j j' = k ↔ j' = back j k := by
  unfold skip back; split <;> split <;> omega
theorem minor_upd_ne {c : Nat → Vec} {j k : Nat} {v : Vec} (h : k ≠ j) : minor (upd c k v) j = upd (minor c j) (back j k) (fun i => v (i + 1)) := by
  funext j' i
  unfold minor upd
  by_cases hk : skip j j' = k
  · rw [if_pos hk, if_pos ((skip_eq h).mp hk)]
  · rw [if_neg hk, if_neg (fun z => hk ((skip_eq h).mpr z))]
theorem det_add : ∀ {m : Nat} {c : Nat → Vec} {k : Nat} {v w : Vec}, k < m → det m (upd c k fun i => v i + w i) = det m (upd c k v) + det m (upd c k w)
  | 0, _, _, _, _, h => by omega
  | m + 1, c, k, v, w, h => by
    simp only [det]
    rw [← sumN_add]
    refine sumN_congr fun j hj => ?_
    by_cases hjk : j = k
    · subst hjk
      rw [minor_upd_same, minor_upd_same, minor_upd_same, upd_same, upd_same, upd_same]
      simp only [Int.mul_add, Int.add_mul]
    · have hb : back j k < m := by unfold back; split <;> omega
      rw [minor_upd_ne (Ne.symm hjk), minor_upd_ne (Ne.symm hjk), minor_upd_ne (Ne.symm hjk), upd_ne hjk, upd_ne hjk, upd_ne hjk]
      rw [det_add (m := m) (c := minor c j) (k := back j k) (v := fun i => v (i + 1)) (w := fun i => w (i + 1)) hb, Int.mul_add]
theorem det_mul : ∀ {m : Nat} {c : Nat → Vec} {k : Nat} {v : Vec} {a : Int}, k < m → det m (upd c k fun i => a * v i) = a * det m (upd c k v)
  | 0, _, _, _, _, h => by omega
  | m + 1, c, k, v, a, h => by
    simp only [det]
    rw [← sumN_mul]
    refine sumN_congr fun j hj => ?_
    by_cases hjk : j = k
    · subst hjk
      rw [minor_upd_same, minor_upd_same, upd_same, upd_same]
      rw [← Int.mul_assoc, ← Int.mul_assoc, ← Int.mul_assoc, Int.mul_comm a, Int.mul_right_comm (sgn j)]
    · have hb : back j k < m := by unfold back; split <;> omega
      rw [minor_upd_ne (Ne.symm hjk), minor_upd_ne (Ne.symm hjk), upd_ne hjk, upd_ne hjk]
      rw [det_mul (m := m) (c := minor c j) (k := back j k) (v := fun i => v (i + 1)) (a := a) hb]
      rw [Int.mul_left_comm]
theorem det_sum {m : Nat} {c : Nat → Vec} {k : Nat} (hk : k < m) : ∀ (n : Nat) (x : Nat → Int) (b : Nat → Vec), det m (upd c k fun i => sumN n fun l => x l * b l i) = sumN n fun l => x l * det m (upd c k (b l))
  | 0, x, b => by
    have := det_mul (m := m) (c := c) (k := k) (v := fun _ => 0) (a := 0) hk
    simp only [sumN]
    simpa using this
  | n + 1, x, b => by
    simp only [sumN]
    rw [det_add hk, det_sum hk n x b, det_mul hk]
theorem det_adj : ∀ {m : Nat} {c : Nat → Vec} {k : Nat}, k + 1 < m → (∀ i, i < m → c k i = c (k + 1) i) → det m c = 0
  | 0, _, _, h, _ => by omega
  | m + 1, c, k, h, he => by
    simp only [det]
    rw [sumN_two (k := k) (l := k + 1) (by omega) h (fun j hj h1 h2 => ?_)]
    · have e : det m (minor c k) = det m (minor c (k + 1)) := by
        refine det_congr fun j' i hj' hi => ?_
        unfold minor skip
        by_cases q : j' = k
        · subst q
          rw [if_neg (by omega), if_pos (by omega)]
          exact (he (i + 1) (by omega)).symm
        · by_cases q2 : j' < k
          · rw [if_pos q2, if_pos (by omega)]
          · rw [if_neg q2, if_neg (by omega)]
      have s : sgn (k + 1) = -sgn k := by unfold sgn; split <;> split <;> omega
      rw [e, s, he 0 (by omega)]
      simp only [Int.neg_mul]
      omega
    · have hz : det m (minor c j) = 0 := by
        by_cases q : j < k
        · refine det_adj (m := m) (k := k - 1) (by omega) fun i hi => ?_
          unfold minor skip
          rw [if_neg (by omega), if_neg (by omega)]
          rw [show k - 1 + 1 = k by omega]
          exact he (i + 1) (by omega)
        · refine det_adj (m := m) (k := k) (by omega) fun i hi => ?_
          unfold minor skip
          rw [if_pos (by omega), if_pos (by omega)]
          exact he (i + 1) (by omega)
      rw [hz, Int.mul_zero]
/-- two neighbours exchanged -/
theorem det_swap {m : Nat} {c : Nat → Vec} {k : Nat} (h : k + 1 < m) : det m (upd (upd c k (c (k + 1))) (k + 1) (c k)) = -det m c := by
  have h0 : det m (upd (upd c k fun i => c k i + c (k + 1) i) (k + 1) fun i => c k i + c (k + 1) i) = 0 :=
    det_adj (k := k) h fun i _ => by rw [upd_ne (by omega), upd_same, upd_same]
  rw [det_add h] at h0
  rw [upd_comm (by omega), upd_comm (c := c) (k := k) (l := k + 1) (by omega)] at h0
  rw [det_add (by omega), det_add (by omega)] at h0
  have z1 : det m (upd (upd c (k + 1) (c k)) k (c k)) = 0 := det_adj (k := k) h fun i _ => by rw [upd_same, upd_ne (by omega), upd_same]
  have z2 : det m (upd (upd c (k + 1) (c (k + 1))) k (c (k + 1))) = 0 := det_adj (k := k) h fun i _ => by rw [upd_same, upd_ne (by omega), upd_same]
  have e : upd (upd c (k + 1) (c (k + 1))) k (c k) = c := by rw [upd_self, upd_self]
  rw [z1, z2, e, upd_comm (by omega)] at h0
  omega
/-- two equal columns -/
theorem det_alt {m : Nat} : ∀ (d : Nat) {c : Nat → Vec} {k : Nat}, k + d + 1 < m → (∀ i, i < m → c k i = c (k + d + 1) i) → det m c = 0
  | 0, c, k, h, he => det_adj (k := k) h he
  | d + 1, c, k, h, he => by
    have hs := det_swap (m := m) (c := c) (k := k) (by omega)
    have hz := det_alt (m := m) d (c := upd (upd c k (c (k + 1))) (k + 1) (c k)) (k := k + 1) (by omega) fun i hi => by
      have e1 : k + 1 + d + 1 ≠ k := by omega
      have e2 : k + 1 + d + 1 ≠ k + 1 := by omega
      rw [upd_same, upd_ne e2, upd_ne e1, show k + 1 + d + 1 = k + (d + 1) + 1 by omega]
      exact he i hi
    rw [hz] at hs
    omega
theorem det_two {m : Nat} {c : Nat → Vec} {k l : Nat} (hk : k < m) (hl : l < m) (hne : k ≠ l) (he : ∀ i, i < m → c k i = c l i) : det m c = 0 := by
  rcases Nat.lt_or_gt_of_ne hne with h | h
  · exact det_alt (l - k - 1) (k := k) (by omega) fun i hi => by rw [show k + (l - k - 1) + 1 = l by omega]; exact he i hi
  · exact det_alt (k - l - 1) (k := l) (by omega) fun i hi => by rw [show l + (k - l - 1) + 1 = k by omega]; exact (he i hi).symm
/-- any two exchanged -/
theorem det_swap2 {m : Nat} {c : Nat → Vec} {k l : Nat} (hk : k < m) (hl : l < m) (hne : k ≠ l) : det m (upd (upd c k (c l)) l (c k)) = -det m c := by
  have h0 : det m (upd (upd c k fun i => c k i + c l i) l fun i => c k i + c l i) = 0 :=
    det_two hk hl hne fun i _ => by rw [upd_ne hne, upd_same, upd_same]
  rw [det_add hl] at h0
  rw [upd_comm hne, upd_comm (c := c) (k := k) (l := l) hne] at h0
  rw [det_add hk, det_add hk] at h0
  have z1 : det m (upd (upd c l (c k)) k (c k)) = 0 := det_two hk hl hne fun i _ => by rw [upd_same, upd_ne (Ne.symm hne), upd_same]
  have z2 : det m (upd (upd c l (c l)) k (c l)) = 0 := det_two hk hl hne fun i _ => by rw [upd_same, upd_ne (Ne.symm hne), upd_same]
  have e : upd (upd c l (c l)) k (c k) = c := by rw [upd_self, upd_self]
  rw [z1, z2, e, upd_comm (Ne.symm hne)] at h0
  omega
/-- one column replaced by a sum of all -/
theorem cramer1 {m : Nat} {b : Nat → Vec} {k : Nat} {x : Nat → Int} {X : Vec} (hk : k < m) (hX : ∀ i, i < m → X i = sumN m fun l => x l * b l i) : det m (upd b k X) = x k * det m b := by
  have e : det m (upd b k X) = det m (upd b k fun i => sumN m fun l => x l * b l i) := det_congr fun j i hj hi => by
    by_cases q : j = k
    · subst q; rw [upd_same, upd_same]; exact hX i hi
    · rw [upd_ne q, upd_ne q]
  rw [e, det_sum hk, sumN_one (k := k) hk (fun l hl hne => ?_), upd_self]
  rw [det_two (c := upd b k (b l)) hk hl (Ne.symm hne) (fun i _ => by rw [upd_same, upd_ne hne]), Int.mul_zero]
/-- two columns replaced -/
theorem cramer2 {m : Nat} {b : Nat → Vec} {k r : Nat} {x y : Nat → Int} {X Y : Vec} (hk : k < m) (hr : r < m) (hne : k ≠ r) (hX : ∀ i, i < m → X i = sumN m fun l => x l * b l i) (hY : ∀ i, i < m → Y i = sumN m fun l => y l * b l i) :
    det m (upd (upd b k X) r Y) = (x k * y r - x r * y k) * det m b := by
  have e : det m (upd (upd b k X) r Y) = det m (upd (upd b k X) r fun i => sumN m fun l => y l * b l i) := det_congr fun j i hj hi => by
    by_cases q : j = r
    · subst q; rw [upd_same, upd_same]; exact hY i hi
    · rw [upd_ne q, upd_ne q]
  rw [e, det_sum hr]
  have hr1 : det m (upd (upd b k X) r (b r)) = x k * det m b := by
    rw [upd_comm hne, upd_self]; exact cramer1 hk hX
  have hk1 : det m (upd (upd b k X) r (b k)) = -(x r * det m b) := by
    -- exchange k and r, then one column
    have hs := det_swap2 (m := m) (c := upd (upd b k X) r (b k)) (k := k) (l := r) hk hr hne
    rw [upd_ne hne, upd_same, upd_same] at hs
    have e2 : upd (upd (upd (upd b k X) r (b k)) k (b k)) r X = upd b r X := by
      rw [upd_comm (c := upd b k X) (k := r) (l := k) (Ne.symm hne), upd_upd, upd_upd, upd_self]
    rw [e2, cramer1 hr hX] at hs
    omega
  have main : sumN m (fun l => y l * det m (upd (upd b k X) r (b l))) = y k * det m (upd (upd b k X) r (b k)) + y r * det m (upd (upd b k X) r (b r)) := by
    have hz : ∀ l, l < m → l ≠ k → l ≠ r → y l * det m (upd (upd b k X) r (b l)) = 0 := fun l hl h1 h2 => by
      rw [det_two (c := upd (upd b k X) r (b l)) hr hl (Ne.symm h2) (fun i _ => by rw [upd_same, upd_ne h2, upd_ne h1]), Int.mul_zero]
    rcases Nat.lt_or_gt_of_ne hne with h | h
    · exact sumN_two h hr hz
    · rw [sumN_two h hk (fun l hl h1 h2 => hz l hl h2 h1)]; omega
  rw [main, hr1, hk1]
  simp only [Int.sub_mul, Int.mul_neg, Int.mul_assoc]
  rw [Int.mul_left_comm (y k), Int.mul_left_comm (y r)]
  omega
/-- of the units -/
theorem det_unit : ∀ (m : Nat), det m (fun j i => if i = j then 1 else 0) = 1
  | 0 => rfl
  | m + 1 => by
    simp only [det]
    rw [sumN_one (k := 0) (by omega) (fun j hj hne => by rw [if_neg (fun z => hne z.symm)]; simp)]
    have e : det m (minor (fun j i => if i = j then 1 else 0) 0) = det m (fun j i => if i = j then 1 else 0) := det_congr fun j i _ _ => by
      unfold minor skip
      simp
    rw [e, det_unit m]
    rfl
/-! tableaux: columns A j (j < many: the real ones; many + i: the unit i; many + m: the goal), m rows, held k the column of row k -/
section
variable (m many : Nat) (A : Nat → Vec)
def bas (h : Nat → Nat) : Nat → Vec := fun k => A (h k)
def dd (h : Nat → Nat) : Int := det m (bas A h)
def tt (h : Nat → Nat) (k j : Nat) : Int := det m (upd (bas A h) k (A j))
def cost (h : Nat → Nat) (j : Nat) : Int := sumN m fun k => if many ≤ h k then tt m A h k j else 0
def hset (h : Nat → Nat) (r c : Nat) : Nat → Nat := fun k => if k = r then c else h k
structure Good (h : Nat → Nat) : Prop where
  pos : 0 < dd m A h
  rel : ∀ j, j ≤ many + m → ∀ i, i < m → dd m A h * A j i = sumN m fun k => tt m A h k j * A (h k) i
  lt : ∀ k, k < m → h k < many + m
  feas : ∀ k, k < m → 0 ≤ tt m A h k (many + m)
def Units : Prop := ∀ i, i < m → ∀ i', i' < m → A (many + i) i' = if i' = i then 1 else 0
end
section
variable {m many : Nat} {A : Nat → Vec} {h : Nat → Nat}
theorem bas_set {r c : Nat} : bas A (hset h r c) = upd (bas A h) r (A c) := by
  funext k; unfold bas hset upd; split <;> rfl
theorem dd_set {r c : Nat} : dd m A (hset h r c) = tt m A h r c := by unfold dd tt; rw [bas_set]
theorem cancel {d a b : Int} (hd : 0 < d) (e : d * a = d * b) : a = b := Int.eq_of_mul_eq_mul_left (by omega) e
/-- of the held columns -/
theorem tt_held {k l : Nat} (hk : k < m) (hl : l < m) : tt m A h k (h l) = if k = l then dd m A h else 0 := by
  unfold tt
  split
  · rename_i e; subst e
    have : upd (bas A h) k (A (h k)) = bas A h := upd_self (c := bas A h)
    rw [this]; rfl
  · rename_i e
    exact det_two (k := k) (l := l) hk hl e fun i _ => by rw [upd_same, upd_ne (Ne.symm e)]; rfl
theorem held_inj (g : 0 < dd m A h) {k l : Nat} (hk : k < m) (hl : l < m) (e : h k = h l) : k = l := by
  by_cases q : k = l
  · exact q
  · exfalso
    have : dd m A h = 0 := det_two (k := k) (l := l) hk hl q fun i _ => by unfold bas; rw [e]
    omega
/-- the numbers over two pivots -/
theorem tt_two (g : Good m many A h) {k r j c : Nat} (hk : k < m) (hr : r < m) (hne : k ≠ r) (hj : j ≤ many + m) (hc : c ≤ many + m) :
    dd m A h * tt m A (hset h r c) k j = tt m A h k j * tt m A h r c - tt m A h k c * tt m A h r j := by
  have e1 := cramer2 (b := bas A h) (k := k) (r := r) (x := fun l => tt m A h l j) (y := fun l => tt m A h l c) (X := fun i => dd m A h * A j i) (Y := fun i => dd m A h * A c i) hk hr hne (g.rel j hj) (g.rel c hc)
  rw [det_mul hr, upd_comm hne, det_mul hk, upd_comm (Ne.symm hne)] at e1
  have e2 : tt m A (hset h r c) k j = det m (upd (upd (bas A h) k (A j)) r (A c)) := by
    unfold tt; rw [bas_set, upd_comm (Ne.symm hne)]
  rw [e2]
  refine cancel g.pos ?_
  show dd m A h * (dd m A h * _) = dd m A h * (_ - _)
  rw [e1]
  rw [Int.mul_comm (dd m A h)]
  rw [Int.mul_comm (tt m A h k c) (tt m A h r j)]
  rfl
theorem tt_row {r j c : Nat} : tt m A (hset h r c) r j = tt m A h r j := by unfold tt; rw [bas_set, upd_upd]
/-- exact division -/
theorem tt_step (g : Good m many A h) {k r j c : Nat} (hk : k < m) (hr : r < m) (hj : j ≤ many + m) (hc : c ≤ many + m) :
    (if k = r then tt m A h r j else (tt m A h k j * tt m A h r c - tt m A h k c * tt m A h r j) / dd m A h) = tt m A (hset h r c) k j := by
  split
  · rename_i e; subst e; exact tt_row.symm
  · rename_i e
    rw [← tt_two g hk hr e hj hc, Int.mul_ediv_cancel_left _ (by have := g.pos; omega)]
theorem cost_two (g : Good m many A h) {r j c : Nat} (hr : r < m) (hj : j ≤ many + m) (hc : c < many) :
    dd m A h * cost m many A (hset h r c) j = cost m many A h j * tt m A h r c - cost m many A h c * tt m A h r j := by
  unfold cost
  rw [← sumN_mul]
  have e : sumN m (fun k => if many ≤ h k then tt m A h k j else 0) * tt m A h r c - sumN m (fun k => if many ≤ h k then tt m A h k c else 0) * tt m A h r j =
      sumN m fun k => (tt m A h r c * (if many ≤ h k then tt m A h k j else 0)) + (-(tt m A h r j) * (if many ≤ h k then tt m A h k c else 0)) := by
    rw [sumN_add, sumN_mul, sumN_mul]
    rw [Int.mul_comm (sumN m _) (tt m A h r c), Int.mul_comm (sumN m _) (tt m A h r j), Int.neg_mul]
    omega
  rw [e]
  refine sumN_congr fun k hk => ?_
  by_cases hkr : k = r
  · subst hkr
    have e1 : hset h k c k = c := by simp [hset]
    rw [e1, if_neg (by omega), Int.mul_zero]
    by_cases ha : many ≤ h k
    · rw [if_pos ha, if_pos ha, Int.neg_mul, Int.mul_comm (tt m A h k j)]; omega
    · rw [if_neg ha, if_neg ha]; simp
  · have e1 : hset h r c k = h k := by simp [hset, hkr]
    rw [e1]
    by_cases ha : many ≤ h k
    · rw [if_pos ha, if_pos ha, if_pos ha, tt_two g hk hr hkr hj (by omega), Int.neg_mul, Int.mul_comm (tt m A h k j), Int.mul_comm (tt m A h k c)]; omega
    · rw [if_neg ha, if_neg ha, if_neg ha]; simp
theorem cost_step (g : Good m many A h) {r j c : Nat} (hr : r < m) (hj : j ≤ many + m) (hc : c < many) :
    (cost m many A h j * tt m A h r c - cost m many A h c * tt m A h r j) / dd m A h = cost m many A (hset h r c) j := by
  rw [← cost_two g hr hj hc, Int.mul_ediv_cancel_left _ (by have := g.pos; omega)]
/-- what the row r must tell -/
def Ratio (m many : Nat) (A : Nat → Vec) (h : Nat → Nat) (r c : Nat) : Prop := ∀ k, k < m → 0 < tt m A h k c → tt m A h r (many + m) * tt m A h k c ≤ tt m A h k (many + m) * tt m A h r c
theorem good_step (g : Good m many A h) {r c : Nat} (hr : r < m) (hc : c < many) (hp : 0 < tt m A h r c) (hq : Ratio m many A h r c) : Good m many A (hset h r c) := by
  have hd := g.pos
  refine ⟨by rw [dd_set]; exact hp, fun j hj i hi => ?_, fun k hk => ?_, fun k hk => ?_⟩
  · rw [dd_set]
    refine cancel hd ?_
    have e1 : dd m A h * sumN m (fun k => tt m A (hset h r c) k j * A (hset h r c k) i) = sumN m fun k => (tt m A h r c * (tt m A h k j * A (h k) i)) + (-(tt m A h r j) * (tt m A h k c * A (h k) i)) + (if k = r then dd m A h * tt m A h r j * A c i else 0) := by
      rw [← sumN_mul]
      refine sumN_congr fun k hk => ?_
      by_cases hkr : k = r
      · subst hkr
        have e2 : hset h k c k = c := by simp [hset]
        rw [e2, tt_row, if_pos rfl, ← Int.mul_assoc, Int.neg_mul]
        have : tt m A h k c * (tt m A h k j * A (h k) i) = tt m A h k j * (tt m A h k c * A (h k) i) := by rw [Int.mul_left_comm]
        omega
      · have e2 : hset h r c k = h k := by simp [hset, hkr]
        rw [e2, if_neg hkr, ← Int.mul_assoc, tt_two g hk hr hkr hj (by omega), Int.sub_mul, Int.neg_mul]
        have a1 : tt m A h k j * tt m A h r c * A (h k) i = tt m A h r c * (tt m A h k j * A (h k) i) := by rw [Int.mul_comm (tt m A h k j), Int.mul_assoc]
        have a2 : tt m A h k c * tt m A h r j * A (h k) i = tt m A h r j * (tt m A h k c * A (h k) i) := by rw [Int.mul_comm (tt m A h k c), Int.mul_assoc]
        omega
    rw [e1, sumN_add, sumN_add, sumN_mul, sumN_mul, ← g.rel j hj i hi, ← g.rel c (by omega) i hi]
    rw [sumN_one (k := r) hr (fun k hk hne => if_neg hne), if_pos rfl]
    have a1 : dd m A h * (tt m A h r c * A j i) = tt m A h r c * (dd m A h * A j i) := by rw [Int.mul_left_comm]
    have a2 : -(tt m A h r j) * (dd m A h * A c i) = -(dd m A h * tt m A h r j * A c i) := by rw [Int.neg_mul, Int.mul_left_comm, Int.mul_assoc]
    omega
  · unfold hset; split
    · omega
    · exact g.lt k hk
  · by_cases hkr : k = r
    · subst hkr; rw [tt_row]; exact g.feas k hk
    · have e := tt_two g hk hr hkr (Nat.le_refl _) (j := many + m) (c := c) (by omega)
      have f1 := g.feas k hk
      have f2 := g.feas r hr
      have key : 0 ≤ tt m A h k (many + m) * tt m A h r c - tt m A h k c * tt m A h r (many + m) := by
        by_cases q : 0 < tt m A h k c
        · have := hq k hk q
          rw [Int.mul_comm (tt m A h k c)]; omega
        · have a1 : 0 ≤ tt m A h k (many + m) * tt m A h r c := Int.mul_nonneg f1 (by omega)
          have a2 : tt m A h k c * tt m A h r (many + m) ≤ 0 := Int.mul_nonpos_of_nonpos_of_nonneg (by omega) f2
          omega
      rw [← e] at key
      by_cases q : 0 ≤ tt m A (hset h r c) k (many + m)
      · exact q
      · have := Int.mul_neg_of_pos_of_neg hd (by omega : tt m A (hset h r c) k (many + m) < 0)
        omega
/-- what the costs of the units tell -/
theorem tt_units (u : Units m many A) {k j : Nat} (hk : k < m) : tt m A h k j = sumN m fun i => A j i * tt m A h k (many + i) := by
  unfold tt
  rw [← det_sum hk m (fun i => A j i) (fun i => A (many + i))]
  refine det_congr fun j' i hj' hi => ?_
  by_cases q : j' = k
  · subst q
    rw [upd_same, upd_same, sumN_one (k := i) hi (fun l hl hne => by rw [u l hl i hi, if_neg (Ne.symm hne), Int.mul_zero]), u i hi i hi, if_pos rfl, Int.mul_one]
  · rw [upd_ne q, upd_ne q]
theorem cost_units (u : Units m many A) (j : Nat) : cost m many A h j = sumN m fun i => A j i * cost m many A h (many + i) := by
  unfold cost
  have e : sumN m (fun i => A j i * sumN m fun k => if many ≤ h k then tt m A h k (many + i) else 0) = sumN m fun k => sumN m fun i => if many ≤ h k then A j i * tt m A h k (many + i) else 0 := by
    rw [sumN_swap]
    refine sumN_congr fun i hi => ?_
    rw [← sumN_mul]
    refine sumN_congr fun k hk => ?_
    split
    · rfl
    · rw [Int.mul_zero]
  rw [e]
  refine sumN_congr fun k hk => ?_
  by_cases q : many ≤ h k
  · simp only [if_pos q]; exact tt_units u hk
  · simp only [if_neg q]; rw [sumN_zero]
/-- the costs of held columns -/
theorem cost_held {l : Nat} (hl : l < m) : cost m many A h (h l) = if many ≤ h l then dd m A h else 0 := by
  unfold cost
  rw [sumN_one (k := l) hl (fun k hk hne => by rw [tt_held hk hl, if_neg hne]; simp), tt_held hl hl, if_pos rfl]
/-- the goal is made -/
theorem made (g : Good m many A h) (hc : cost m many A h (many + m) ≤ 0) (i : Nat) (hi : i < m) : dd m A h * A (many + m) i = sumN m fun k => if h k < many then tt m A h k (many + m) * A (h k) i else 0 := by
  rw [g.rel (many + m) (Nat.le_refl _) i hi]
  refine sumN_congr fun k hk => ?_
  by_cases q : h k < many
  · rw [if_pos q]
  · rw [if_neg q]
    have hz := sumN_zero_all (n := m) (f := fun k => if many ≤ h k then tt m A h k (many + m) else 0) (fun k hk => by
      show 0 ≤ if many ≤ h k then tt m A h k (many + m) else 0
      split
      · exact g.feas k hk
      · omega) hc k hk
    have hz : (if many ≤ h k then tt m A h k (many + m) else 0) = 0 := hz
    rw [if_pos (by omega)] at hz
    rw [hz, Int.zero_mul]
/-- a row for a column -/
theorem row_for {c : Nat} (hc : 0 < cost m many A h c) : ∃ k, k < m ∧ 0 < tt m A h k c := by
  obtain ⟨k, hk, q⟩ := sumN_pos hc
  refine ⟨k, hk, ?_⟩
  have q : 0 < if many ≤ h k then tt m A h k c else 0 := q
  split at q
  · exact q
  · omega
/-! ### no tableau comes again -/
structure Walk (m many : Nat) (A : Nat → Vec) (N : Nat) (h : Nat → Nat → Nat) (c r : Nat → Nat) : Prop where
  good : ∀ n, n ≤ N → Good m many A (h n)
  step : ∀ n, n < N → h (n + 1) = hset (h n) (r n) (c n)
  cl : ∀ n, n < N → c n < many
  rl : ∀ n, n < N → r n < m
  cp : ∀ n, n < N → 0 < cost m many A (h n) (c n)
  cf : ∀ n, n < N → ∀ j, j < c n → cost m many A (h n) j ≤ 0
  rp : ∀ n, n < N → 0 < tt m A (h n) (r n) (c n)
  rq : ∀ n, n < N → Ratio m many A (h n) (r n) (c n)
  rf : ∀ n, n < N → ∀ k, k < m → 0 < tt m A (h n) k (c n) → tt m A (h n) (r n) (many + m) * tt m A (h n) k (c n) = tt m A (h n) k (many + m) * tt m A (h n) (r n) (c n) → h n (r n) ≤ h n k
theorem bas_congr {h' : Nat → Nat} (e : ∀ k, k < m → h k = h' k) : dd m A h = dd m A h' ∧ (∀ k j, k < m → tt m A h k j = tt m A h' k j) ∧ ∀ j, cost m many A h j = cost m many A h' j := by
  have t : ∀ k j, k < m → tt m A h k j = tt m A h' k j := fun k j hk => det_congr fun j' i hj' hi => by
    by_cases q : j' = k
    · subst q; rw [upd_same, upd_same]
    · rw [upd_ne q, upd_ne q]; unfold bas; rw [e j' hj']
  refine ⟨det_congr fun j' i hj' hi => by unfold bas; rw [e j' hj'], t, fun j => sumN_congr fun k hk => by rw [e k hk, t k j hk]⟩
section
variable {N : Nat} {hh : Nat → Nat → Nat} {cc rr : Nat → Nat} (W : Walk m many A N hh cc rr) {a b : Nat} (hab : a < b) (hbN : b ≤ N) (hsame : ∀ k, k < m → hh a k = hh b k)
/-- q is held -/
def In (m : Nat) (h : Nat → Nat) (q : Nat) : Prop := ∃ k, k < m ∧ h k = q
include W
theorem w_not_in {n : Nat} (hn : n < N) : ¬ In m (hh n) (cc n) := by
  rintro ⟨l, hl, e⟩
  have h1 := cost_held (m := m) (many := many) (A := A) (h := hh n) hl
  rw [e] at h1
  have := W.cl n hn
  rw [if_neg (by omega)] at h1
  have := W.cp n hn
  omega
/-- held on until it leaves -/
theorem w_stay {q : Nat} {n n' : Nat} (hnn : n ≤ n') (hn' : n' ≤ N) (hnl : ∀ i, n ≤ i → i < n' → hh i (rr i) ≠ q) (hin : In m (hh n) q) : In m (hh n') q := by
  obtain ⟨d, rfl⟩ : ∃ d, n' = n + d := ⟨n' - n, by omega⟩
  induction d with
  | zero => exact hin
  | succ d ih =>
    obtain ⟨k, hk, e⟩ := ih (by omega) (by omega) (fun i h1 h2 => hnl i h1 (by omega))
    refine ⟨k, hk, ?_⟩
    rw [show n + (d + 1) = n + d + 1 by omega, W.step (n + d) (by omega)]
    unfold hset
    rw [if_neg (fun z => hnl (n + d) (by omega) (by omega) (by rw [← z]; exact e))]
    exact e
/-- out until it enters -/
theorem w_out {q : Nat} {n n' : Nat} (hnn : n ≤ n') (hn' : n' ≤ N) (hne : ∀ i, n ≤ i → i < n' → cc i ≠ q) (hout : ¬ In m (hh n) q) : ¬ In m (hh n') q := by
  obtain ⟨d, rfl⟩ : ∃ d, n' = n + d := ⟨n' - n, by omega⟩
  induction d with
  | zero => exact hout
  | succ d ih =>
    have ih := ih (by omega) (by omega) (fun i h1 h2 => hne i h1 (by omega))
    rintro ⟨k, hk, e⟩
    rw [show n + (d + 1) = n + d + 1 by omega, W.step (n + d) (by omega)] at e
    unfold hset at e
    split at e
    · exact hne (n + d) (by omega) (by omega) e
    · exact ih ⟨k, hk, e⟩
/-- what leaves is out just behind -/
theorem w_left {n : Nat} (hn : n < N) : ¬ In m (hh (n + 1)) (hh n (rr n)) := by
  rintro ⟨k, hk, e⟩
  rw [W.step n hn] at e
  unfold hset at e
  split at e
  · exact w_not_in W hn ⟨rr n, W.rl n hn, e.symm⟩
  · rename_i q
    exact q (held_inj (W.good n (by omega)).pos hk (W.rl n hn) e)
theorem w_one {i : Nat} (hi : i < N) : dd m A (hh i) * cost m many A (hh (i + 1)) (many + m) = cost m many A (hh i) (many + m) * dd m A (hh (i + 1)) - cost m many A (hh i) (cc i) * tt m A (hh i) (rr i) (many + m) := by
  have := cost_two (W.good i (by omega)) (r := rr i) (j := many + m) (c := cc i) (W.rl i hi) (Nat.le_refl _) (W.cl i hi)
  rw [W.step i hi, dd_set]; exact this
theorem w_gain {i : Nat} (hi : i < N) : 0 ≤ cost m many A (hh i) (cc i) * tt m A (hh i) (rr i) (many + m) := Int.mul_nonneg (by have := W.cp i hi; omega) ((W.good i (by omega)).feas _ (W.rl i hi))
/-- along the walk the goal's cost over the bottom does not rise -/
theorem w_mono {n : Nat} : ∀ d, n + d ≤ N → dd m A (hh n) * cost m many A (hh (n + d)) (many + m) ≤ cost m many A (hh n) (many + m) * dd m A (hh (n + d)) := by
  intro d
  induction d with
  | zero => intro _; rw [Nat.add_zero, Int.mul_comm]; exact Int.le_refl _
  | succ d ih =>
    intro hd
    have ih := ih (by omega)
    have o := w_one W (i := n + d) (by omega)
    have gg := w_gain W (i := n + d) (by omega)
    have p1 := (W.good (n + d) (by omega)).pos
    have p2 := (W.good (n + d + 1) (by omega)).pos
    have p3 := (W.good n (by omega)).pos
    have e1 : dd m A (hh (n + d)) * cost m many A (hh (n + d + 1)) (many + m) ≤ cost m many A (hh (n + d)) (many + m) * dd m A (hh (n + d + 1)) := by omega
    have e2 : dd m A (hh n) * (dd m A (hh (n + d)) * cost m many A (hh (n + d + 1)) (many + m)) ≤ dd m A (hh n) * (cost m many A (hh (n + d)) (many + m) * dd m A (hh (n + d + 1))) := Int.mul_le_mul_of_nonneg_left e1 (by omega)
    have e3 : (dd m A (hh n) * cost m many A (hh (n + d)) (many + m)) * dd m A (hh (n + d + 1)) ≤ (cost m many A (hh n) (many + m) * dd m A (hh (n + d))) * dd m A (hh (n + d + 1)) := Int.mul_le_mul_of_nonneg_right ih (by omega)
    rw [← Int.mul_assoc] at e2
    have e4 : dd m A (hh n) * (cost m many A (hh (n + d)) (many + m) * dd m A (hh (n + d + 1))) = (dd m A (hh n) * cost m many A (hh (n + d)) (many + m)) * dd m A (hh (n + d + 1)) := by rw [Int.mul_assoc]
    rw [e4] at e2
    have e5 := Int.le_trans e2 e3
    have e6 : dd m A (hh n) * dd m A (hh (n + d)) * cost m many A (hh (n + d + 1)) (many + m) = dd m A (hh (n + d)) * (dd m A (hh n) * cost m many A (hh (n + d + 1)) (many + m)) := by rw [Int.mul_comm (dd m A (hh n)), Int.mul_assoc]
    have e7 : cost m many A (hh n) (many + m) * dd m A (hh (n + d)) * dd m A (hh (n + d + 1)) = dd m A (hh (n + d)) * (cost m many A (hh n) (many + m) * dd m A (hh (n + d + 1))) := by rw [Int.mul_comm (cost m many A (hh n) (many + m)), Int.mul_assoc]
    rw [e6, e7] at e5
    exact Int.le_of_mul_le_mul_left e5 p1
include hab hbN hsame
theorem w_in_ab {q : Nat} : In m (hh a) q ↔ In m (hh b) q := ⟨fun ⟨k, hk, e⟩ => ⟨k, hk, by rw [← hsame k hk]; exact e⟩, fun ⟨k, hk, e⟩ => ⟨k, hk, by rw [hsame k hk]; exact e⟩⟩
/-- in somewhere, never leaving: in everywhere -/
theorem w_all {q n n' : Nat} (hn : a ≤ n) (hnb : n ≤ b) (hn' : a ≤ n') (hnb' : n' ≤ b) (hnl : ∀ i, a ≤ i → i < b → hh i (rr i) ≠ q) (hin : In m (hh n) q) : In m (hh n') q := by
  have h1 := w_stay W hnb hbN (fun i h1 h2 => hnl i (by omega) h2) hin
  have h2 := (w_in_ab W hab hbN hsame).mpr h1
  exact w_stay W hn' (by omega) (fun i h1 h2 => hnl i h1 (by omega)) h2
/-- what is in somewhere and out elsewhere leaves -/
theorem w_leaves {q n n' : Nat} (hn : a ≤ n) (hnb : n ≤ b) (hn' : a ≤ n') (hnb' : n' ≤ b) (hin : In m (hh n) q) (hout : ¬ In m (hh n') q) : ∃ i, a ≤ i ∧ i < b ∧ hh i (rr i) = q := by
  by_cases z : ∃ i, a ≤ i ∧ i < b ∧ hh i (rr i) = q
  · exact z
  · exact absurd (w_all W hab hbN hsame hn hnb hn' hnb' (fun i h1 h2 e => z ⟨i, h1, h2, e⟩) hin) hout
/-- what leaves enters -/
theorem w_enters {n : Nat} (hn : a ≤ n) (hnb : n < b) : ∃ i, a ≤ i ∧ i < b ∧ cc i = hh n (rr n) := by
  by_cases z : ∃ i, a ≤ i ∧ i < b ∧ cc i = hh n (rr n)
  · exact z
  · exfalso
    have h1 := w_out W (q := hh n (rr n)) (n := n + 1) (n' := b) (by omega) hbN (fun i h1 h2 e => z ⟨i, by omega, h2, e⟩) (w_left W (by omega))
    have h2 : ¬ In m (hh a) (hh n (rr n)) := fun q => h1 ((w_in_ab W hab hbN hsame).mp q)
    exact w_out W hn (by omega) (fun i h1 h2 e => z ⟨i, h1, by omega, e⟩) h2 ⟨rr n, W.rl n (by omega), rfl⟩
/-- what leaves is no unit -/
theorem w_real {n : Nat} (hn : a ≤ n) (hnb : n < b) : hh n (rr n) < many := by
  obtain ⟨i, h1, h2, e⟩ := w_enters W hab hbN hsame hn hnb
  rw [← e]; exact W.cl i (by omega)
/-- nothing is gained between -/
theorem w_flat {n : Nat} (hn : a ≤ n) (hnb : n < b) : tt m A (hh n) (rr n) (many + m) = 0 := by
  obtain ⟨e1, _, e2⟩ := bas_congr (m := m) (many := many) (A := A) hsame
  have m1 := w_mono W (n := a) (n - a) (by omega)
  rw [show a + (n - a) = n by omega] at m1
  have m2 := w_mono W (n := n + 1) (b - (n + 1)) (by omega)
  rw [show n + 1 + (b - (n + 1)) = b by omega, ← e1, ← e2] at m2
  have o := w_one W (i := n) (by omega)
  have gg := w_gain W (i := n) (by omega)
  have pa := (W.good a (by omega)).pos
  have pn := (W.good n (by omega)).pos
  have pn1 := (W.good (n + 1) (by omega)).pos
  generalize dd m A (hh a) = da at *
  generalize dd m A (hh n) = dn at *
  generalize dd m A (hh (n + 1)) = dn1 at *
  generalize cost m many A (hh a) (many + m) = wa at *
  generalize cost m many A (hh n) (many + m) = wn at *
  generalize cost m many A (hh (n + 1)) (many + m) = wn1 at *
  have cp := W.cp n (by omega)
  generalize cost m many A (hh n) (cc n) = cn at *
  have tf := (W.good n (by omega)).feas _ (W.rl n (by omega))
  generalize tt m A (hh n) (rr n) (many + m) = tg at *
  -- gain * da ≤ 0
  have k1 : dn * (dn1 * wa) ≤ dn * (wn1 * da) := Int.mul_le_mul_of_nonneg_left m2 (by omega)
  have k2 : dn * (wn1 * da) = (wn * dn1 - cn * tg) * da := by rw [← Int.mul_assoc, o]
  have k3 : (da * wn) * dn1 ≤ (wa * dn) * dn1 := Int.mul_le_mul_of_nonneg_right m1 (by omega)
  have k4 : (wn * dn1 - cn * tg) * da = (da * wn) * dn1 - cn * tg * da := by
    rw [Int.sub_mul, Int.mul_comm da wn, Int.mul_right_comm wn da dn1]
  have k5 : (wa * dn) * dn1 = dn * (dn1 * wa) := by rw [Int.mul_comm wa dn, Int.mul_assoc, Int.mul_comm wa dn1]
  have k6 : cn * tg * da ≤ 0 := by omega
  by_cases q : tg = 0
  · exact q
  · have : 0 < cn * tg := Int.mul_pos cp (by omega)
    have := Int.mul_pos this pa
    omega
/-- what leaves has no share of the goal throughout -/
theorem w_zero {n1 : Nat} (h1 : a ≤ n1) (h1b : n1 < b) {n : Nat} (hn : a ≤ n) (hnb : n ≤ b) : ∀ k, k < m → hh n k = hh n1 (rr n1) → tt m A (hh n) k (many + m) = 0 := by
  have fwd : ∀ {i j : Nat}, a ≤ i → i ≤ j → j ≤ b → (∀ k, k < m → hh i k = hh n1 (rr n1) → tt m A (hh i) k (many + m) = 0) → ∀ k, k < m → hh j k = hh n1 (rr n1) → tt m A (hh j) k (many + m) = 0 := by
    intro i j hi hij hjb hz
    obtain ⟨d, rfl⟩ : ∃ d, j = i + d := ⟨j - i, by omega⟩
    induction d with
    | zero => exact hz
    | succ d ih =>
      have ih := ih (by omega) (by omega)
      intro k hk e
      have hidN : i + d < N := by omega
      rw [show i + (d + 1) = i + d + 1 by omega, W.step (i + d) hidN] at e ⊢
      by_cases q : k = rr (i + d)
      · rw [q, tt_row]; exact w_flat W hab hbN hsame (by omega) (by omega)
      · have e2 : hh (i + d) k = hh n1 (rr n1) := by unfold hset at e; rwa [if_neg q] at e
        have z1 := ih k hk e2
        have z2 := w_flat W hab hbN hsame (n := i + d) (by omega) (by omega)
        have t2 := tt_two (W.good (i + d) (by omega)) (k := k) (r := rr (i + d)) (j := many + m) (c := cc (i + d)) hk (W.rl _ hidN) q (Nat.le_refl _) (by have := W.cl _ hidN; omega)
        rw [z1, z2, Int.zero_mul, Int.mul_zero, Int.sub_zero] at t2
        have := (W.good (i + d) (by omega)).pos
        rcases Int.mul_eq_zero.mp t2 with z | z
        · omega
        · exact z
  have at1 : ∀ k, k < m → hh n1 k = hh n1 (rr n1) → tt m A (hh n1) k (many + m) = 0 := fun k hk e => by
    have := held_inj (W.good n1 (by omega)).pos hk (W.rl n1 (by omega)) e
    rw [this]; exact w_flat W hab hbN hsame h1 h1b
  have atb := fwd h1 (by omega) (Nat.le_refl b) at1
  have ata : ∀ k, k < m → hh a k = hh n1 (rr n1) → tt m A (hh a) k (many + m) = 0 := fun k hk e => by
    obtain ⟨_, et, _⟩ := bas_congr (m := m) (many := many) (A := A) hsame
    rw [et k _ hk]
    exact atb k hk (by rw [← hsame k hk]; exact e)
  exact fwd (Nat.le_refl a) hn hnb ata
/-- the greatest that leaves -/
theorem w_most : ∃ n1, a ≤ n1 ∧ n1 < b ∧ ∀ i, a ≤ i → i < b → hh i (rr i) ≤ hh n1 (rr n1) := by
  have main : ∀ d, a + d < b → ∃ n1, a ≤ n1 ∧ n1 ≤ a + d ∧ ∀ i, a ≤ i → i ≤ a + d → hh i (rr i) ≤ hh n1 (rr n1) := by
    intro d
    induction d with
    | zero => intro _; exact ⟨a, Nat.le_refl _, Nat.le_refl _, fun i h1 h2 => by rw [show i = a by omega]; exact Nat.le_refl _⟩
    | succ d ih =>
      intro hd
      obtain ⟨n1, h1, h2, h3⟩ := ih (by omega)
      by_cases q : hh n1 (rr n1) ≤ hh (a + d + 1) (rr (a + d + 1))
      · refine ⟨a + d + 1, by omega, by omega, fun i hi1 hi2 => ?_⟩
        by_cases z : i ≤ a + d
        · exact Nat.le_trans (h3 i hi1 z) q
        · rw [show i = a + d + 1 by omega]; exact Nat.le_refl _
      · refine ⟨n1, h1, by omega, fun i hi1 hi2 => ?_⟩
        by_cases z : i ≤ a + d
        · exact h3 i hi1 z
        · rw [show i = a + d + 1 by omega]; omega
  obtain ⟨n1, h1, h2, h3⟩ := main (b - a - 1) (by omega)
  exact ⟨n1, h1, by omega, fun i hi1 hi2 => h3 i hi1 (by omega)⟩
theorem bland (u : Units m many A) : False := by
  obtain ⟨n1, h1, h1b, hmost⟩ := w_most W hab hbN hsame
  obtain ⟨n2, h2, h2b, ht⟩ := w_enters W hab hbN hsame h1 h1b
  have g1 := W.good n1 (by omega)
  have g2 := W.good n2 (by omega)
  have p1 := g1.pos
  have p2 := g2.pos
  have r1 := W.rl n1 (by omega)
  have s1 := W.cl n1 (by omega)
  have hreal := w_real W hab hbN hsame h1 h1b
  -- what enters at n1 leaves somewhere, so it is less than the greatest
  have hsin : In m (hh (n1 + 1)) (cc n1) := ⟨rr n1, r1, by rw [W.step n1 (by omega)]; simp [hset]⟩
  have hsout : ¬ In m (hh n1) (cc n1) := w_not_in W (by omega)
  obtain ⟨i3, h3, h3b, e3⟩ := w_leaves W hab hbN hsame (n := n1 + 1) (n' := n1) (by omega) (by omega) h1 (by omega) hsin hsout
  have hslt : cc n1 < hh n1 (rr n1) := by
    have := hmost i3 h3 h3b
    rw [e3] at this
    have : cc n1 ≠ hh n1 (rr n1) := fun z => hsout ⟨rr n1, r1, z.symm⟩
    omega
  have c2s : cost m many A (hh n2) (cc n1) ≤ 0 := W.cf n2 (by omega) (cc n1) (by rw [ht]; exact hslt)
  have c1s := W.cp n1 (by omega)
  -- the sum over the rows at n1 of what n2 tells
  let z2 : Nat → Int := fun q => cost m many A (hh n2) q - if many ≤ q then dd m A (hh n2) else 0
  have lin : dd m A (hh n1) * cost m many A (hh n2) (cc n1) = sumN m fun k => tt m A (hh n1) k (cc n1) * cost m many A (hh n2) (hh n1 k) := by
    rw [cost_units u, ← sumN_mul]
    have e : sumN m (fun k => tt m A (hh n1) k (cc n1) * cost m many A (hh n2) (hh n1 k)) = sumN m fun k => sumN m fun i => tt m A (hh n1) k (cc n1) * (A (hh n1 k) i * cost m many A (hh n2) (many + i)) :=
      sumN_congr fun k hk => by rw [cost_units u (hh n1 k), sumN_mul]
    rw [e, sumN_swap]
    refine sumN_congr fun i hi => ?_
    have rel := g1.rel (cc n1) (by omega) i hi
    rw [← Int.mul_assoc, rel]
    have : (fun k => tt m A (hh n1) k (cc n1) * (A (hh n1 k) i * cost m many A (hh n2) (many + i))) = fun k => cost m many A (hh n2) (many + i) * (tt m A (hh n1) k (cc n1) * A (hh n1 k) i) := by
      funext k; rw [← Int.mul_assoc, Int.mul_comm]
    rw [this, sumN_mul, Int.mul_comm]
  have tot : sumN m (fun k => tt m A (hh n1) k (cc n1) * z2 (hh n1 k)) = dd m A (hh n1) * cost m many A (hh n2) (cc n1) - dd m A (hh n2) * cost m many A (hh n1) (cc n1) := by
    rw [lin]
    unfold cost
    rw [← sumN_mul m (dd m A (hh n2))]
    have e : sumN m (fun k => tt m A (hh n1) k (cc n1) * z2 (hh n1 k)) = sumN m fun k => (tt m A (hh n1) k (cc n1) * cost m many A (hh n2) (hh n1 k)) + (-1) * (dd m A (hh n2) * if many ≤ hh n1 k then tt m A (hh n1) k (cc n1) else 0) := by
      refine sumN_congr fun k hk => ?_
      show tt m A (hh n1) k (cc n1) * (cost m many A (hh n2) (hh n1 k) - if many ≤ hh n1 k then dd m A (hh n2) else 0) = _
      rw [Int.mul_sub]
      split
      · rw [Int.mul_comm (dd m A (hh n2))]; omega
      · simp
    rw [e, sumN_add, sumN_mul]
    unfold cost
    omega
  have neg : sumN m (fun k => tt m A (hh n1) k (cc n1) * z2 (hh n1 k)) < 0 := by
    rw [tot]
    have a1 : dd m A (hh n1) * cost m many A (hh n2) (cc n1) ≤ 0 := Int.mul_nonpos_of_nonneg_of_nonpos (by omega) c2s
    have a2 := Int.mul_pos p2 c1s
    omega
  obtain ⟨k, hk, hneg⟩ := sumN_neg neg
  have hneg : tt m A (hh n1) k (cc n1) * z2 (hh n1 k) < 0 := hneg
  -- the column of this row is not held at n2
  have hout : ¬ In m (hh n2) (hh n1 k) := by
    rintro ⟨l, hl, e⟩
    have := cost_held (m := m) (many := many) (A := A) (h := hh n2) hl
    have z : z2 (hh n1 k) = 0 := by
      show cost m many A (hh n2) (hh n1 k) - (if many ≤ hh n1 k then dd m A (hh n2) else 0) = 0
      rw [← e, this]; omega
    rw [z, Int.mul_zero] at hneg
    omega
  obtain ⟨i4, h4, h4b, e4⟩ := w_leaves W hab hbN hsame (n := n1) (n' := n2) h1 (by omega) h2 (by omega) ⟨k, hk, rfl⟩ hout
  have hle : hh n1 k ≤ hh n1 (rr n1) := by rw [← e4]; exact hmost i4 h4 h4b
  have hzk : z2 (hh n1 k) = cost m many A (hh n2) (hh n1 k) := by
    show cost m many A (hh n2) (hh n1 k) - (if many ≤ hh n1 k then dd m A (hh n2) else 0) = _
    rw [if_neg (by omega)]; omega
  rw [hzk] at hneg
  by_cases q : hh n1 k = hh n1 (rr n1)
  · have := held_inj p1 hk r1 q
    subst this
    have a1 := W.rp n1 (by omega)
    have a2 := W.cp n2 (by omega)
    rw [ht] at a2
    have := Int.mul_pos a1 a2
    omega
  · have c2 : cost m many A (hh n2) (hh n1 k) ≤ 0 := W.cf n2 (by omega) (hh n1 k) (by rw [ht]; omega)
    have tpos : 0 < tt m A (hh n1) k (cc n1) := by
      by_cases z : 0 < tt m A (hh n1) k (cc n1)
      · exact z
      · have := Int.mul_nonneg_of_nonpos_of_nonpos (by omega : tt m A (hh n1) k (cc n1) ≤ 0) c2
        omega
    have z1 := w_flat W hab hbN hsame h1 h1b
    have z2' := w_zero W hab hbN hsame h4 h4b h1 (by omega) k hk e4.symm
    have := W.rf n1 (by omega) k hk tpos (by rw [z1, z2', Int.zero_mul, Int.zero_mul])
    omega
end
end
/-! ### how long a walk is -/
def code (B : Nat) : Nat → (Nat → Nat) → Nat
  | 0, _ => 0
  | m + 1, h => code B m h + h m * B ^ m
theorem code_lt {B : Nat} : ∀ {m : Nat} {h : Nat → Nat}, (∀ k, k < m → h k < B) → code B m h < B ^ m
  | 0, _, _ => by simp [code]
  | m + 1, h, hl => by
    have ih := code_lt (m := m) (h := h) (fun k hk => hl k (by omega))
    have h1 := hl m (by omega)
    simp only [code, Nat.pow_succ]
    have h2 : h m * B ^ m + B ^ m ≤ B * B ^ m := by
      rw [← Nat.succ_mul]; exact Nat.mul_le_mul_right _ h1
    rw [Nat.mul_comm (B ^ m)]
    omega
theorem code_inj {B : Nat} : ∀ {m : Nat} {h h' : Nat → Nat}, (∀ k, k < m → h k < B) → (∀ k, k < m → h' k < B) → code B m h = code B m h' → ∀ k, k < m → h k = h' k
  | 0, _, _, _, _, _ => fun k hk => by omega
  | m + 1, h, h', hl, hl', e => by
    have c1 := code_lt (m := m) (h := h) (fun k hk => hl k (by omega))
    have c2 := code_lt (m := m) (h := h') (fun k hk => hl' k (by omega))
    simp only [code] at e
    have hB : 0 < B ^ m := by omega
    have e1 : h m = h' m := by
      have a1 : (code B m h + h m * B ^ m) / B ^ m = h m := by
        rw [Nat.add_mul_div_right _ _ hB, Nat.div_eq_of_lt c1]; omega
      have a2 : (code B m h' + h' m * B ^ m) / B ^ m = h' m := by
        rw [Nat.add_mul_div_right _ _ hB, Nat.div_eq_of_lt c2]; omega
      rw [← a1, ← a2, e]
    rw [e1] at e
    intro k hk
    by_cases q : k = m
    · subst q; exact e1
    · exact code_inj (m := m) (fun k hk => hl k (by omega)) (fun k hk => hl' k (by omega)) (by omega) k (by omega)
theorem walk_short {m many : Nat} {A : Nat → Vec} {N : Nat} {hh : Nat → Nat → Nat} {cc rr : Nat → Nat} (W : Walk m many A N hh cc rr) (u : Units m many A) : N < (many + m) ^ m := by
  have hn : ((List.range (N + 1)).map fun n => code (many + m) m (hh n)).Nodup := by
    rw [List.nodup_iff_pairwise_ne, List.pairwise_map]
    refine List.pairwise_lt_range.imp_of_mem ?_
    intro a b ha hb hab e
    have ha : a < N + 1 := List.mem_range.mp ha
    have hb : b < N + 1 := List.mem_range.mp hb
    exact bland W hab (by omega) (code_inj (fun k hk => (W.good a (by omega)).lt k hk) (fun k hk => (W.good b (by omega)).lt k hk) e) u
  have hs : ((List.range (N + 1)).map fun n => code (many + m) m (hh n)) ⊆ List.range ((many + m) ^ m) := by
    intro x hx
    obtain ⟨n, hn, rfl⟩ := List.mem_map.mp hx
    have hn : n < N + 1 := List.mem_range.mp hn
    exact List.mem_range.mpr (code_lt fun k hk => (W.good n (by omega)).lt k hk)
  have := hn.length_le_of_subset hs
  simp at this
  omega
/-! ### the first tableau -/
theorem units_bas {m many : Nat} {A : Nat → Vec} (u : Units m many A) : dd m A (fun k => many + k) = 1 := by
  rw [← det_unit m]
  exact det_congr fun j i hj hi => by unfold bas; exact u j hj i hi
theorem units_tt {m many : Nat} {A : Nat → Vec} (u : Units m many A) {k j : Nat} (hk : k < m) : tt m A (fun k => many + k) k j = A j k := by
  have e := cramer1 (b := bas A (fun k => many + k)) (k := k) (x := fun l => A j l) (X := A j) hk (fun i hi => by
    rw [sumN_one (k := i) hi (fun l hl hne => by show A j l * A (many + l) i = 0; rw [u l hl i hi, if_neg (Ne.symm hne), Int.mul_zero])]
    show A j i = A j i * A (many + i) i
    rw [u i hi i hi, if_pos rfl, Int.mul_one])
  have := units_bas u
  unfold dd at this
  rw [this, Int.mul_one] at e
  exact e
theorem good_init {m many : Nat} {A : Nat → Vec} (u : Units m many A) (hg : ∀ k, k < m → 0 ≤ A (many + m) k) : Good m many A (fun k => many + k) := by
  refine ⟨by rw [units_bas u]; decide, fun j hj i hi => ?_, fun k hk => by omega, fun k hk => by rw [units_tt u hk]; exact hg k hk⟩
  rw [units_bas u, Int.one_mul, sumN_one (k := i) hi (fun l hl hne => by rw [u l hl i hi, if_neg (Ne.symm hne), Int.mul_zero]), units_tt u hi, u i hi i hi, if_pos rfl, Int.mul_one]
theorem cost_init {m many : Nat} {A : Nat → Vec} (u : Units m many A) (j : Nat) : cost m many A (fun k => many + k) j = sumN m fun k => A j k := by
  refine sumN_congr fun k hk => ?_
  show (if many ≤ many + k then tt m A (fun k => many + k) k j else 0) = _
  rw [if_pos (by omega), units_tt u hk]
/-! ### sizes -/
def bnd (M : Nat) : Nat → Nat
  | 0 => 1
  | m + 1 => (m + 1) * M * bnd M m
theorem sumN_abs {M : Nat} : ∀ {n : Nat} {f : Nat → Int}, (∀ i, i < n → (f i).natAbs ≤ M) → (sumN n f).natAbs ≤ n * M
  | 0, _, _ => by simp [sumN]
  | n + 1, f, h => by
    have ih := sumN_abs (n := n) (f := f) (fun i hi => h i (by omega))
    have h1 := h n (by omega)
    simp only [sumN, Nat.succ_mul]
    have := Int.natAbs_add_le (sumN n f) (f n)
    omega
theorem det_abs {M : Nat} : ∀ {m : Nat} {c : Nat → Vec}, (∀ j i, j < m → i < m → (c j i).natAbs ≤ M) → (det m c).natAbs ≤ bnd M m
  | 0, _, _ => by simp [det, bnd]
  | m + 1, c, h => by
    simp only [det, bnd]
    rw [Nat.mul_assoc]
    refine sumN_abs fun j hj => ?_
    rw [Int.natAbs_mul, Int.natAbs_mul]
    have h1 : (sgn j).natAbs = 1 := by unfold sgn; split <;> rfl
    have h2 := h j 0 hj (by omega)
    have h3 := det_abs (m := m) (c := minor c j) (fun j' i hj' hi => h _ _ (by unfold skip; split <;> omega) (by omega))
    rw [h1, Nat.one_mul]
    exact Nat.mul_le_mul h2 h3
theorem tt_abs {M m many : Nat} {A : Nat → Vec} {h : Nat → Nat} (g : Good m many A h) (hM : ∀ j i, j ≤ many + m → i < m → (A j i).natAbs ≤ M) {k j : Nat} (hj : j ≤ many + m) : (tt m A h k j).natAbs ≤ bnd M m :=
  det_abs fun j' i hj' hi => by
    by_cases q : j' = k
    · subst q; rw [upd_same]; exact hM j i hj hi
    · rw [upd_ne q]; exact hM _ i (by have := g.lt j' hj'; omega) hi
theorem dd_abs {M m many : Nat} {A : Nat → Vec} {h : Nat → Nat} (g : Good m many A h) (hM : ∀ j i, j ≤ many + m → i < m → (A j i).natAbs ≤ M) : (dd m A h).natAbs ≤ bnd M m :=
  det_abs fun j' i hj' hi => hM _ i (by have := g.lt j' hj'; omega) hi
theorem cost_abs {M m many : Nat} {A : Nat → Vec} {h : Nat → Nat} (g : Good m many A h) (hM : ∀ j i, j ≤ many + m → i < m → (A j i).natAbs ≤ M) {j : Nat} (hj : j ≤ many + m) : (cost m many A h j).natAbs ≤ m * bnd M m :=
  sumN_abs fun k hk => by
    split
    · exact tt_abs g hM hj
    · simp
/-- a walk one step longer -/
theorem walk_more {m many : Nat} {A : Nat → Vec} {N : Nat} {hh : Nat → Nat → Nat} {cc rr : Nat → Nat} (W : Walk m many A N hh cc rr) {c r : Nat} (hc : c < many) (hr : r < m) (hcp : 0 < cost m many A (hh N) c) (hcf : ∀ j, j < c → cost m many A (hh N) j ≤ 0)
    (hrp : 0 < tt m A (hh N) r c) (hrq : Ratio m many A (hh N) r c) (hrf : ∀ k, k < m → 0 < tt m A (hh N) k c → tt m A (hh N) r (many + m) * tt m A (hh N) k c = tt m A (hh N) k (many + m) * tt m A (hh N) r c → hh N r ≤ hh N k) :
    ∃ hh' cc' rr', Walk m many A (N + 1) hh' cc' rr' ∧ hh' (N + 1) = hset (hh N) r c := by
  refine ⟨fun n => if n = N + 1 then hset (hh N) r c else hh n, fun n => if n = N then c else cc n, fun n => if n = N then r else rr n, ⟨fun n hn => ?_, fun n hn => ?_, fun n hn => ?_, fun n hn => ?_, fun n hn => ?_, fun n hn => ?_, fun n hn => ?_, fun n hn => ?_, fun n hn => ?_⟩, by simp⟩
  · by_cases q : n = N + 1
    · rw [if_pos q]; exact good_step (W.good N (Nat.le_refl _)) hr hc hrp hrq
    · rw [if_neg q]; exact W.good n (by omega)
  all_goals
    have q0 : n ≠ N + 1 := by omega
    by_cases q : n = N
  · subst q; simp
  · rw [if_neg (by omega), if_neg q0, if_neg q, if_neg q]; exact W.step n (by omega)
  · rw [if_pos q]; exact hc
  · rw [if_neg q]; exact W.cl n (by omega)
  · rw [if_pos q]; exact hr
  · rw [if_neg q]; exact W.rl n (by omega)
  · rw [if_neg q0, if_pos q, q]; exact hcp
  · rw [if_neg q0, if_neg q]; exact W.cp n (by omega)
  · rw [if_neg q0, if_pos q, q]; exact hcf
  · rw [if_neg q0, if_neg q]; exact W.cf n (by omega)
  · rw [if_neg q0, if_pos q, if_pos q, q]; exact hrp
  · rw [if_neg q0, if_neg q, if_neg q]; exact W.rp n (by omega)
  · rw [if_neg q0, if_pos q, if_pos q, q]; exact hrq
  · rw [if_neg q0, if_neg q, if_neg q]; exact W.rq n (by omega)
  · rw [if_neg q0, if_pos q, if_pos q, q]; exact hrf
  · rw [if_neg q0, if_neg q, if_neg q]; exact W.rf n (by omega)
theorem walk_none {m many : Nat} {A : Nat → Vec} {h : Nat → Nat} (g : Good m many A h) : Walk m many A 0 (fun _ => h) (fun _ => 0) (fun _ => 0) :=
  ⟨fun _ _ => g, fun n hn => by omega, fun n hn => by omega, fun n hn => by omega, fun n hn => by omega, fun n hn => by omega, fun n hn => by omega, fun n hn => by omega, fun n hn => by omega⟩
end Sx


set_option Elab.async false
set_option linter.all false
set_option maxRecDepth 100000
set_option maxHeartbeats 4000000
namespace K05
open PySem PySem.Spec PyProof.Rows L2 SlX DL
def topS (i : Nat) : Stmt := PySem.Challenge.pw_rampworks_k05_whole_papers_of_corners_ju.main.body.getD i (.Pass ⟨0, 0, 0, 0⟩)
def inClass (s : Stmt) (j : Nat) : Stmt := match s with
  | .ClassDef (body := b) .. => b.getD j (.Pass ⟨0, 0, 0, 0⟩)
  | _ => .Pass ⟨0, 0, 0, 0⟩
def sixty : Int := 1000000000000000000000000000000000000000000000000000000000000
/-- what the module's names hold -/
structure Txt (K : PySem.W.Frag) (mg : Str → Option Value) (C : Addr) : Prop where
  b_isinstance : mg "isinstance" = none
  b_int : mg "int" = none
  b_bool : mg "bool" = none
  b_str : mg "str" = none
  b_tuple : mg "tuple" = none
  b_len : mg "len" = none
  b_all : mg "all" = none
  b_any : mg "any" = none
  b_sum : mg "sum" = none
  b_zip : mg "zip" = none
  b_range : mg "range" = none
  b_max : mg "max" = none
  b_min : mg "min" = none
  b_abs : mg "abs" = none
  b_enumerate : mg "enumerate" = none
  b_sorted : mg "sorted" = none
  b_list : mg "list" = none
  c_SIXTY : ∃ t, mg "SIXTY" = some (.int sixty t)
  c_MOST_POINTS : ∃ t, mg "MOST_POINTS" = some (.int 400 t)
  c_MOST_LENGTH : ∃ t, mg "MOST_LENGTH" = some (.int 8 t)
  c_PAIR : ∃ t, mg "PAIR" = some (.int 2 t)
  c_TRIPLE : ∃ t, mg "TRIPLE" = some (.int 3 t)
  c_INSIDE : ∃ t, mg "INSIDE" = some (.str "inside" t)
  c_BEYOND : ∃ t, mg "BEYOND" = some (.str "beyond" t)
  c_CORNER : ∃ t, mg "CORNER" = some (.str "corner" t)
  c_WEIGHTS : ∃ t, mg "WEIGHTS" = some (.str "weights" t)
  mgC : mg "Tableau" = some (.ref C)
  cls : SCls K C
  sx_own_bottom : ∃ p, Slot1 K C "own_bottom" p 0
  sx_own_costs : ∃ p, Slot1 K C "own_costs" p 1
  sx_own_held : ∃ p, Slot1 K C "own_held" p 2
  sx_own_many : ∃ p, Slot1 K C "own_many" p 3
  sx_own_rows : ∃ p, Slot1 K C "own_rows" p 4
/-! the promises of the tableau -/
abbrev intsD (ns : List Int) : List D := ns.map D.int
abbrev rowD (ns : List Int) : D := .tup (intsD ns)
abbrev lowD (ns : List Int) : D := .lst (intsD ns)
open Sx (Vec dd tt cost hset Good Units Ratio bnd)
def costs (m many : Nat) (A : Nat → Vec) (h : Nat → Nat) : List Int := (List.range (many + m + 1)).map (cost m many A h)
def rowOf (m many : Nat) (A : Nat → Vec) (h : Nat → Nat) (k : Nat) : List Int := (List.range (many + m + 1)).map (tt m A h k)
def rowsOf (m many : Nat) (A : Nat → Vec) (h : Nat → Nat) : List (List Int) := (List.range m).map (rowOf m many A h)
def helds (m : Nat) (h : Nat → Nat) : List Int := (List.range m).map fun k => ((h k : Nat) : Int)
/-- the tableau at p, the held ones at q -/
structure Tb (C p q : Addr) (μ : Mu) (m many : Nat) (A : Nat → Vec) (h : Nat → Nat) : Prop where
  ne : q ≠ p
  ex : ∃ rd, μ p = some (.o p C [some (.int (dd m A h)), some (lowD (costs m many A h)), some (.own q), some (.int (many : Nat)), some rd]) ∧ asL μ rd = some ((rowsOf m many A h).map lowD) ∧ rd ≠ .own p ∧ rd ≠ .own q
  held : μ q = some (.l (intsD (helds m h)))
/-- sizes -/
structure Fits (m many : Nat) (A : Nat → Vec) : Prop where
  ex : ∃ M, (∀ j i, j ≤ many + m → i < m → (A j i).natAbs ≤ M) ∧ (m + 1) * bnd M m < 2 ^ 1400
  few : many + m ≤ 900000
def optD : Option Nat → D
  | none => .non
  | some i => .int (i : Nat)
/-- a number of the sums that come -/
def Sz (x : Int) : Prop := x.natAbs < 2 ^ 1400
theorem tt_sz {m many : Nat} {A : Nat → Vec} {h : Nat → Nat} (g : Good m many A h) (f : Fits m many A) {k j : Nat} (hj : j ≤ many + m) : Sz (tt m A h k j) := by
  obtain ⟨M, h1, h2⟩ := f.ex
  exact Nat.lt_of_le_of_lt (Nat.le_trans (Sx.tt_abs g h1 hj) (Nat.le_mul_of_pos_left _ (Nat.succ_pos _))) h2
theorem dd_sz {m many : Nat} {A : Nat → Vec} {h : Nat → Nat} (g : Good m many A h) (f : Fits m many A) : Sz (dd m A h) := by
  obtain ⟨M, h1, h2⟩ := f.ex
  exact Nat.lt_of_le_of_lt (Nat.le_trans (Sx.dd_abs g h1) (Nat.le_mul_of_pos_left _ (Nat.succ_pos _))) h2
theorem cost_sz {m many : Nat} {A : Nat → Vec} {h : Nat → Nat} (g : Good m many A h) (f : Fits m many A) {j : Nat} (hj : j ≤ many + m) : Sz (cost m many A h j) := by
  obtain ⟨M, h1, h2⟩ := f.ex
  exact Nat.lt_of_le_of_lt (Nat.le_trans (Sx.cost_abs g h1 hj) (Nat.mul_le_mul_right _ (Nat.le_succ m))) h2
theorem sz_mul {x y : Int} (hx : Sz x) (hy : Sz y) : CMulW x y := by
  have h1 := PySem.Flt.log2_lt_of (by decide) hx
  have h2 := PySem.Flt.log2_lt_of (by decide) hy
  unfold CMulW
  omega
/-! items -/
theorem at_map {n : Nat} (f : Nat → Int) {j : Nat} (hj : j < n) : atI (intsD ((List.range n).map f)) ((j : Nat) : Int) = some (.int (f j)) := by
  have hl : (intsD ((List.range n).map f)).length = n := by simp
  unfold atI ixN
  rw [hl]
  rw [if_pos (by omega), if_pos (by omega)]
  simp [hj]
theorem asQ_of {μ : Mu} {d : D} {ds : List D} (h : asL μ d = some ds) : asQ μ d = some ds := by
  cases d <;> first | exact h | cases h
theorem asQ_lst {μ : Mu} {ds : List D} : asQ μ (.lst ds) = some ds := rfl
theorem asQ_tup {μ : Mu} {ds : List D} : asQ μ (.tup ds) = some ds := rfl
theorem asL_lst {μ : Mu} {ds : List D} : asL μ (.lst ds) = some ds := rfl
theorem asQ_own {μ : Mu} {p : Addr} {ds : List D} (h : μ p = some (.l ds)) : asQ μ (.own p) = some ds := lsAt_of h
theorem asL_own {μ : Mu} {p : Addr} {ds : List D} (h : μ p = some (.l ds)) : asL μ (.own p) = some ds := lsAt_of h
def d_Tableau_column (C : Addr) : DSp := fun ds μ k => ∃ p q m many A h, ds = [.own p] ∧ Tb C p q μ m many A h ∧ Fits m many A ∧
  ∀ o : Option Nat, (o = none → ∀ j, j < many → cost m many A h j ≤ 0) → (∀ c, o = some c → c < many ∧ 0 < cost m many A h c ∧ ∀ j, j < c → cost m many A h j ≤ 0) → k (optD o) μ
def d_Tableau_is_ahead (C : Addr) : DSp := fun ds μ k => ∃ p q m many A h one other col, ds = [.own p, .int (one : Nat), .int (other : Nat), .int (col : Nat)] ∧ Tb C p q μ m many A h ∧ Good m many A h ∧ Fits m many A ∧ one < m ∧ other < m ∧ col < many ∧
  k (.bl (decide (tt m A h one (many + m) * tt m A h other col < tt m A h other (many + m) * tt m A h one col) || (decide (tt m A h one (many + m) * tt m A h other col = tt m A h other (many + m) * tt m A h one col) && decide (h one < h other)))) μ
def d_Tableau_row (C : Addr) : DSp := fun ds μ k => ∃ p q m many A h col, ds = [.own p, .int (col : Nat)] ∧ Tb C p q μ m many A h ∧ Good m many A h ∧ Fits m many A ∧ col < many ∧ (∃ k, k < m ∧ 0 < tt m A h k col) ∧
  ∀ r : Nat, r < m → 0 < tt m A h r col → Ratio m many A h r col → (∀ k, k < m → 0 < tt m A h k col → tt m A h r (many + m) * tt m A h k col = tt m A h k (many + m) * tt m A h r col → h r ≤ h k) → k (.int (r : Nat)) μ
def d_Tableau_turned (C : Addr) : DSp := fun ds μ k => ∃ p fs b x y xs ys f v, ds = [.own p, x, y, .int f, .int v] ∧ μ p = some (.o p C (some (.int b) :: fs)) ∧ 0 < b ∧ Sz b ∧ asL μ x = some (intsD xs) ∧ asL μ y = some (intsD ys) ∧ xs.length ≤ 1000000 ∧ ys.length ≤ 1000000 ∧ Sz f ∧ Sz v ∧ (∀ a ∈ xs, Sz a) ∧ (∀ a ∈ ys, Sz a) ∧
  k (lowD ((xs.zip ys).map fun q => (q.1 * v - f * q.2) / b)) μ
/-- all but p and q is as it was -/
def Same (p q : Addr) (μ μ' : Mu) : Prop := ∀ a, a ≠ p → a ≠ q → μ' a = μ a
def d_Tableau_pivot (C : Addr) : DSp := fun ds μ k => ∃ p q m many A h r c, ds = [.own p, .int (r : Nat), .int (c : Nat)] ∧ Tb C p q μ m many A h ∧ Good m many A h ∧ Fits m many A ∧ r < m ∧ c < many ∧ 0 < tt m A h r c ∧
  ∀ μ', Tb C p q μ' m many A (hset h r c) → Same p q μ μ' → k .non μ'
def d_Tableau_work (C : Addr) : DSp := fun ds μ k => ∃ p q m many A h, ds = [.own p] ∧ Tb C p q μ m many A h ∧ Good m many A h ∧ Units m many A ∧ Fits m many A ∧
  ∀ μ' h', Tb C p q μ' m many A h' → Good m many A h' → (∀ j, j < many → cost m many A h' j ≤ 0) → Same p q μ μ' → k .non μ'
/-- the columns of a tableau: the given ones, the units, the goal -/
def colsOf (cols : List (List Int)) (goal : List Int) : Nat → Vec := fun j i => if j < cols.length then (cols.getD j []).getD i 0 else if j < cols.length + goal.length then (if i = j - cols.length then 1 else 0) else goal.getD i 0
def d_Tableau___init__ (C : Addr) : DSp := fun ds μ k => ∃ p dx cols goal, ds = [.own p, .lst (cols.map rowD), lowD goal] ∧ μ p = some (.oi C dx) ∧ μ dx = some (.ox p) ∧ (∀ c ∈ cols, c.length = goal.length) ∧ 0 < goal.length ∧ (∀ x ∈ goal, 0 ≤ x) ∧ Fits goal.length cols.length (colsOf cols goal) ∧
  ∀ μ' q, Tb C p q μ' goal.length cols.length (colsOf cols goal) (fun k => cols.length + k) → (μ q = none ∨ q = dx) → (∀ a, μ a ≠ none → a ≠ p → a ≠ dx → μ' a = μ a) → k .non μ'
section
variable {P : Program} {w : World} {K : PySem.W.Frag} {mg : Str → Option Value} {base : Heap} {C : Addr}
abbrev s_Tableau_column : Stmt := inClass (topS 17) 2
abbrev N_Tableau_column : List Str := ["self", "found", "at"]
theorem sc_Tableau_column : FnScope N_Tableau_column ["self"] (defScope s_Tableau_column) := ⟨rfl, rfl, rfl, by decide +kernel, rfl, by decide +kernel, by decide +kernel⟩
def r_Tableau_column (C : Addr) : RS :=
  (rSeq (rAsg (rLc (rIR1 (rCons (rSlo C 3 (rVar 0)) rNil)) (rgName 2) (rB (rOp (oB (fun i j => decide (j < i))) (rOp oIx (rSlo C 1 (rVar 0)) (rVar 2)) (rC (.int 0)))) (rVar 2) [2]) (rgName 1))
  (rRet (rIf (rB (rOp oNe (rVar 1) (rLst rNil))) (rOp oIx (rVar 1) (rC (.int 0))) (rC .non))))
theorem b_Tableau_column (T : Txt K mg C) : Body P w K mg base 5 "Tableau.column" s_Tableau_column N_Tableau_column (r_Tableau_column C) := by
  refine fun f => ⟨_, fun cdv A outer s H E hr => ⟨(pss_cons (ps_setLc (i := 1) (own := [("at", 2)]) rfl sc_Tableau_column.nd rfl rfl (sw_true rfl rfl rfl (by decide +kernel)) (kr_range1 T.b_range (pa_cons (ke_sl K (pv 0)) pa_nil)) (blkOk_by (own := [("at", 2)]) (N := N_Tableau_column) (sc := defScope s_Tableau_column) (by decide +kernel)) (fun _ _ _ _ _ => (pg_name (i := 2) sc_Tableau_column.nd rfl (by first | exact Or.inl rfl | exact Or.inr rfl))) (fun _ _ _ _ _ => (pts_one (pt_cmpR op_gt (pe_ix (kx_seq K) (ke_sl K (pv 0)) (pv 2) (fun _ _ => rfl)) pe_int (nomark _)))) (fun _ _ _ _ _ => (pv 2)))
      (pss_one (ps_ret (pe_ifExp (pt_cmpR (ko_neD K hr.units) (pv 1) (pe_lst pa_nil) (nomark _)) (pe_ix (kx_seq K) (pv 1) pe_int (fun _ _ => rfl)) pe_non)))),
    (okS_seq (okS_asg (okE_lc (okI_range1 (okA_cons (slo T.cls T.sx_own_many (okE_var 0)) okA_nil)) (okG_name 2) (okT_test (okE_op okB (okE_op okIx (slo T.cls T.sx_own_costs (okE_var 0)) (okE_var 2)) (okE_C fun _ => .int _))) (okE_var 2) (by decide)) (okG_name 1))
      (okS_ret (okE_if (okT_test (okE_op okNe (okE_var 1) (okE_lst okA_nil))) (okE_op okIx (okE_var 1) (okE_C fun _ => .int _)) (okE_C fun _ => .non))))⟩⟩

abbrev s_Tableau_is_ahead : Stmt := inClass (topS 17) 4
abbrev N_Tableau_is_ahead : List Str := ["self", "one", "other", "column", "here", "there", "left", "right"]
theorem sc_Tableau_is_ahead : FnScope N_Tableau_is_ahead ["self", "one", "other", "column"] (defScope s_Tableau_is_ahead) := ⟨rfl, rfl, rfl, by decide +kernel, rfl, by decide +kernel, by decide +kernel⟩
def r_Tableau_is_ahead (C : Addr) : RS :=
  (rSeq (rPar 4 5 (rCons (rOp oIx (rSlo C 4 (rVar 0)) (rVar 1)) (rCons (rOp oIx (rSlo C 4 (rVar 0)) (rVar 2)) rNil)))
  (rSeq (rPar 6 7 (rCons (rOp (oIc CMulW fun i j => i * j) (rOp oIx (rVar 4) (rUn oNeg (rC (.int 1)))) (rOp oIx (rVar 5) (rVar 3))) (rCons (rOp (oIc CMulW fun i j => i * j) (rOp oIx (rVar 5) (rUn oNeg (rC (.int 1)))) (rOp oIx (rVar 4) (rVar 3))) rNil)))
  (rRet (rOrV (rOp (oB (fun i j => decide (i < j))) (rVar 6) (rVar 7)) (rAndV (rOp oEq (rVar 6) (rVar 7)) (rOp (oB (fun i j => decide (i < j))) (rOp oIx (rSlo C 2 (rVar 0)) (rVar 1)) (rOp oIx (rSlo C 2 (rVar 0)) (rVar 2))))))))
theorem b_Tableau_is_ahead (T : Txt K mg C) : Body P w K mg base 6 "Tableau.is_ahead" s_Tableau_is_ahead N_Tableau_is_ahead (r_Tableau_is_ahead C) := by
  refine fun f => ⟨_, fun cdv A outer s H E hr => ⟨(pss_cons (ps_par (i := 4) (j := 5) rfl sc_Tableau_is_ahead.nd rfl rfl (by decide) rfl rfl (pa_cons (pe_ix (kx_seq K) (ke_sl K (pv 0)) (pv 1) (fun _ _ => rfl)) (pa_cons (pe_ix (kx_seq K) (ke_sl K (pv 0)) (pv 2) (fun _ _ => rfl)) pa_nil)) rfl)
      (pss_cons (ps_par (i := 6) (j := 7) rfl sc_Tableau_is_ahead.nd rfl rfl (by decide) rfl rfl (pa_cons (pe_op op_mulW (pe_ix (kx_seq K) (pv 4) (pe_un un_neg pe_int) (fun _ _ => rfl)) (pe_ix (kx_seq K) (pv 5) (pv 3) (fun _ _ => rfl))) (pa_cons (pe_op op_mulW (pe_ix (kx_seq K) (pv 5) (pe_un un_neg pe_int) (fun _ _ => rfl)) (pe_ix (kx_seq K) (pv 4) (pv 3) (fun _ _ => rfl))) pa_nil)) rfl)
      (pss_one (ps_ret (pe_or (pe_cmpR op_lt (pv 6) (pv 7) (nomark _)) (pe_one (pe_and (pe_cmpR (ko_eqD K hr.units) (pv 6) (pv 7) (nomark _)) (pe_one (pe_cmpR op_lt (pe_ix (kx_seq K) (ke_sl K (pv 0)) (pv 1) (fun _ _ => rfl)) (pe_ix (kx_seq K) (ke_sl K (pv 0)) (pv 2) (fun _ _ => rfl)) (nomark _)))))))))),
    (okS_seq (okS_par (okA_cons (okE_op okIx (slo T.cls T.sx_own_rows (okE_var 0)) (okE_var 1)) (okA_cons (okE_op okIx (slo T.cls T.sx_own_rows (okE_var 0)) (okE_var 2)) okA_nil)))
      (okS_seq (okS_par (okA_cons (okE_op okIc (okE_op okIx (okE_var 4) (okE_un okNeg (okE_C fun _ => .int _))) (okE_op okIx (okE_var 5) (okE_var 3))) (okA_cons (okE_op okIc (okE_op okIx (okE_var 5) (okE_un okNeg (okE_C fun _ => .int _))) (okE_op okIx (okE_var 4) (okE_var 3))) okA_nil)))
      (okS_ret (okE_orV (okE_op okB (okE_var 6) (okE_var 7)) (okE_andV (okE_op okEq (okE_var 6) (okE_var 7)) (okE_op okB (okE_op okIx (slo T.cls T.sx_own_held (okE_var 0)) (okE_var 1)) (okE_op okIx (slo T.cls T.sx_own_held (okE_var 0)) (okE_var 2))))))))⟩⟩

abbrev s_Tableau_row : Stmt := inClass (topS 17) 3
abbrev N_Tableau_row : List Str := ["self", "column", "found", "at", "row"]
theorem sc_Tableau_row : FnScope N_Tableau_row ["self", "column"] (defScope s_Tableau_row) := ⟨rfl, rfl, rfl, by decide +kernel, rfl, by decide +kernel, by decide +kernel⟩
def r_Tableau_row (C : Addr) : RS :=
  (rSeq (rAsg (rC .non) (rgName 2))
  (rSeq (rFor (rIE (rCons (rSlo C 4 (rVar 0)) rNil)) (rgTup 2 (rgCons (rgName 3) (rgCons (rgName 4) rgNil))) (rIfS (rAnd (rB (rOp (oB (fun i j => decide (j < i))) (rOp oIx (rVar 4) (rVar 1)) (rC (.int 0)))) (rOr (rB (rOp oIsN (rVar 2) (rC .non))) (rB (rMth C (d_Tableau_is_ahead C) (rVar 0) (rCons (rVar 3) (rCons (rVar 2) (rCons (rVar 1) rNil))))))) (rAsg (rVar 3) (rgName 2)) rNext))
  (rRet (rVar 2))))
theorem b_Tableau_row (P_is_ahead : MethD P w K mg base C "is_ahead" 7 (d_Tableau_is_ahead C)) (T : Txt K mg C) : Body P w K mg base 7 "Tableau.row" s_Tableau_row N_Tableau_row (r_Tableau_row C) := by
  refine fun f => ⟨_, fun cdv A outer s H E hr => ⟨(pss_cons (ps_set (i := 2) sc_Tableau_row.nd rfl (Or.inl rfl) pe_non)
      (pss_cons (ps_for PassesOwn.never rfl (ki_enum K (by rfl) T.b_enumerate (pa_cons (ke_sl K (pv 0)) pa_nil)) (kg_tup K (pgs_cons (pg_name (i := 3) sc_Tableau_row.nd rfl (Or.inl rfl)) (pgs_cons (pg_name (i := 4) sc_Tableau_row.nd rfl (Or.inl rfl)) pgs_nil))) (pss_one (ps_if (PW.pt (pw_and (pt_cmpR op_gt (pe_ix (kx_seq K) (pv 4) (pv 1) (fun _ _ => rfl)) pe_int (nomark _)) (pw_and1 (PW.pt (pw_or (pt_cmpR op_isN (pv 2) pe_non (nomark _)) (pw_or1 (pt_val (ke_meth K T.cls P_is_ahead hr (pv 0) (pa_cons (pv 3) (pa_cons (pv 2) (pa_cons (pv 1) pa_nil))))))))))) (pss_one (ps_set (i := 2) sc_Tableau_row.nd rfl (Or.inl rfl) (pv 3))) pss_nil)))
      (pss_one (ps_ret (pv 2))))),
    (okS_seq (okS_asg (okE_C fun _ => .non) (okG_name 2))
      (okS_seq (okS_for (okI_enum (okA_cons (slo T.cls T.sx_own_rows (okE_var 0)) okA_nil)) (okG_tup (okGs_cons (okG_name 3) (okGs_cons (okG_name 4) okGs_nil))) (okS_if (okT_and (okT_test (okE_op okB (okE_op okIx (okE_var 4) (okE_var 1)) (okE_C fun _ => .int _))) (okT_or (okT_test (okE_op okIsN (okE_var 2) (okE_C fun _ => .non))) (okT_B (okE_mth (okE_var 0) (okA_cons (okE_var 3) (okA_cons (okE_var 2) (okA_cons (okE_var 1) okA_nil))))))) (okS_asg (okE_var 3) (okG_name 2)) okS_next))
      (okS_ret (okE_var 2))))⟩⟩

abbrev s_Tableau_turned : Stmt := inClass (topS 17) 6
abbrev N_Tableau_turned : List Str := ["self", "row", "told", "factor", "pivot", "one", "other"]
theorem sc_Tableau_turned : FnScope N_Tableau_turned ["self", "row", "told", "factor", "pivot"] (defScope s_Tableau_turned) := ⟨rfl, rfl, rfl, by decide +kernel, rfl, by decide +kernel, by decide +kernel⟩
def r_Tableau_turned (C : Addr) : RS :=
  (rRet (rLc (rIZ (rCons (rVar 1) (rCons (rVar 2) rNil))) (rgTup 2 (rgCons (rgName 5) (rgCons (rgName 6) rgNil))) rYes (rOp (oIc CDivW fun i j => i / j) (rOp (oI fun i j => i - j) (rOp (oIc CMulW fun i j => i * j) (rVar 5) (rVar 4)) (rOp (oIc CMulW fun i j => i * j) (rVar 3) (rVar 6))) (rSlo C 0 (rVar 0))) [5, 6]))
theorem b_Tableau_turned (T : Txt K mg C) : Body P w K mg base 8 "Tableau.turned" s_Tableau_turned N_Tableau_turned (r_Tableau_turned C) := by
  refine fun f => ⟨_, fun cdv A outer s H E hr => ⟨(pss_one (ps_ret (pe_lc (own := [("one", 5), ("other", 6)]) rfl sc_Tableau_turned.nd (ki_zip K (by rfl) T.b_zip (pa_cons (pv 1) (pa_cons (pv 2) pa_nil))) (blkOk_by (own := [("one", 5), ("other", 6)]) (N := N_Tableau_turned) (sc := defScope s_Tableau_turned) (by decide +kernel)) (fun _ _ _ _ _ => (kg_tup K (pgs_cons (pg_name (i := 5) sc_Tableau_turned.nd rfl (by first | exact Or.inl rfl | exact Or.inr rfl)) (pgs_cons (pg_name (i := 6) sc_Tableau_turned.nd rfl (by first | exact Or.inl rfl | exact Or.inr rfl)) pgs_nil)))) (fun _ _ _ _ _ => pts_nil) (fun _ _ _ _ _ => (pe_op op_fdivW (pe_op op_sub (pe_op op_mulW (pv 5) (pv 4)) (pe_op op_mulW (pv 3) (pv 6))) (ke_sl K (pv 0))))))),
    (okS_ret (okE_lc (okI_zip (okA_cons (okE_var 1) (okA_cons (okE_var 2) okA_nil))) (okG_tup (okGs_cons (okG_name 5) (okGs_cons (okG_name 6) okGs_nil))) okT_yes (okE_op okIc (okE_op okI (okE_op okIc (okE_var 5) (okE_var 4)) (okE_op okIc (okE_var 3) (okE_var 6))) (slo T.cls T.sx_own_bottom (okE_var 0))) (by decide)))⟩⟩

abbrev s_Tableau_pivot : Stmt := inClass (topS 17) 5
abbrev N_Tableau_pivot : List Str := ["self", "at", "column", "some", "rows", "told", "pivot", "one", "row"]
theorem sc_Tableau_pivot : FnScope N_Tableau_pivot ["self", "at", "column"] (defScope s_Tableau_pivot) := ⟨rfl, rfl, rfl, by decide +kernel, rfl, by decide +kernel, by decide +kernel⟩
def r_Tableau_pivot (C : Addr) : RS :=
  (rSeq (rAsg (rTup (rCons (rOp oIx (rSlo C 4 (rVar 0)) (rVar 1)) (rCons (rOp oIx (rOp oIx (rSlo C 4 (rVar 0)) (rVar 1)) (rVar 2)) rNil))) (rgTup 2 (rgCons (rgName 5) (rgCons (rgName 6) rgNil))))
  (rEnum 3 (rCons (rSlo C 4 (rVar 0)) rNil) (fun e_some it_some =>
  (rSeq (rAsg (rLc (rIEnv e_some it_some 3) (rgTup 2 (rgCons (rgName 7) (rgCons (rgName 8) rgNil))) rYes (rIf (rB (rOp oEq (rVar 7) (rVar 1))) (rVar 8) (rMth C (d_Tableau_turned C) (rVar 0) (rCons (rVar 8) (rCons (rVar 5) (rCons (rOp oIx (rVar 8) (rVar 2)) (rCons (rVar 6) rNil)))))) [7, 8]) (rgName 4))
  (rSeq (rAsg (rVar 4) (rgSlo C 4 (rVar 0)))
  (rSeq (rAsg (rMth C (d_Tableau_turned C) (rVar 0) (rCons (rSlo C 1 (rVar 0)) (rCons (rVar 5) (rCons (rOp oIx (rSlo C 1 (rVar 0)) (rVar 2)) (rCons (rVar 6) rNil))))) (rgSlo C 1 (rVar 0)))
  (rAsg (rTup (rCons (rVar 6) (rCons (rVar 2) rNil))) (rgTup 2 (rgCons (rgSlo C 0 (rVar 0)) (rgCons (rgSetL (rSlo C 2 (rVar 0)) (rVar 1)) rgNil))))))))))
theorem b_Tableau_pivot (P_turned : MethD P w K mg base C "turned" 9 (d_Tableau_turned C)) (T : Txt K mg C) : Body P w K mg base 9 "Tableau.pivot" s_Tableau_pivot N_Tableau_pivot (r_Tableau_pivot C) := by
  refine fun f => ⟨_, fun cdv A outer s H E hr => ⟨(pss_cons (ps_asg (pe_tup (pa_cons (pe_ix (kx_seq K) (ke_sl K (pv 0)) (pv 1) (fun _ _ => rfl)) (pa_cons (pe_ix (kx_seq K) (pe_ix (kx_seq K) (ke_sl K (pv 0)) (pv 1) (fun _ _ => rfl)) (pv 2) (fun _ _ => rfl)) pa_nil))) (kg_tup K (pgs_cons (pg_name (i := 5) sc_Tableau_pivot.nd rfl (Or.inr rfl)) (pgs_cons (pg_name (i := 6) sc_Tableau_pivot.nd rfl (Or.inr rfl)) pgs_nil))))
      (pss_enum (K := K) (j := 3) (hm := T.b_enumerate) (hN := sc_Tableau_pivot.nd) (hi := rfl) (hx := (Or.inl rfl)) (ha := (pa_cons (ke_sl K (pv 0)) pa_nil)) (h := fun e_some it_some he_some hi_some =>
      (pss_cons (ps_setLc (i := 4) (own := [("one", 7), ("row", 8)]) rfl sc_Tableau_pivot.nd rfl rfl (sw_true rfl rfl rfl (by decide +kernel)) (ki_env K (e := e_some) (it := it_some) (j := 3) he_some hi_some rfl (Or.inl rfl)) (blkOk_by (own := [("one", 7), ("row", 8)]) (N := N_Tableau_pivot) (sc := defScope s_Tableau_pivot) (by decide +kernel)) (fun _ _ _ _ _ => (kg_tup K (pgs_cons (pg_name (i := 7) sc_Tableau_pivot.nd rfl (by first | exact Or.inl rfl | exact Or.inr rfl)) (pgs_cons (pg_name (i := 8) sc_Tableau_pivot.nd rfl (by first | exact Or.inl rfl | exact Or.inr rfl)) pgs_nil)))) (fun _ _ _ _ _ => pts_nil) (fun _ _ _ _ _ => (pe_ifExp (pt_cmpR (ko_eqD K hr.units) (pv 7) (pv 1) (nomark _)) (pv 8) (ke_meth K T.cls P_turned hr (pv 0) (pa_cons (pv 8) (pa_cons (pv 5) (pa_cons (pe_ix (kx_seq K) (pv 8) (pv 2) (fun _ _ => rfl)) (pa_cons (pv 6) pa_nil))))))))
      (pss_cons (ps_asg (pv 4) (kg_slA (K := K) (pv 0)))
      (pss_cons (ps_asg (ke_meth K T.cls P_turned hr (pv 0) (pa_cons (ke_sl K (pv 0)) (pa_cons (pv 5) (pa_cons (pe_ix (kx_seq K) (ke_sl K (pv 0)) (pv 2) (fun _ _ => rfl)) (pa_cons (pv 6) pa_nil))))) (kg_slA (K := K) (pv 0)))
      (pss_one (ps_asg (pe_tup (pa_cons (pv 6) (pa_cons (pv 2) pa_nil))) (kg_tup K (pgs_cons (kg_slA (K := K) (pv 0)) (pgs_cons (pg_sub (ke_sl K (pv 0)) (pv 1) set_list) pgs_nil))))))))))),
    (okS_seq (okS_asg (okE_tup (okA_cons (okE_op okIx (slo T.cls T.sx_own_rows (okE_var 0)) (okE_var 1)) (okA_cons (okE_op okIx (okE_op okIx (slo T.cls T.sx_own_rows (okE_var 0)) (okE_var 1)) (okE_var 2)) okA_nil))) (okG_tup (okGs_cons (okG_name 5) (okGs_cons (okG_name 6) okGs_nil))))
      (okS_enum (okA_cons (slo T.cls T.sx_own_rows (okE_var 0)) okA_nil) (fun e_some it_some =>
      (okS_seq (okS_asg (okE_lc (okI_env (e := e_some) (it := it_some) (j := 3)) (okG_tup (okGs_cons (okG_name 7) (okGs_cons (okG_name 8) okGs_nil))) okT_yes (okE_if (okT_test (okE_op okEq (okE_var 7) (okE_var 1))) (okE_var 8) (okE_mth (okE_var 0) (okA_cons (okE_var 8) (okA_cons (okE_var 5) (okA_cons (okE_op okIx (okE_var 8) (okE_var 2)) (okA_cons (okE_var 6) okA_nil)))))) (by decide)) (okG_name 4))
      (okS_seq (okS_asg (okE_var 4) (gslo T.cls T.sx_own_rows (okE_var 0)))
      (okS_seq (okS_asg (okE_mth (okE_var 0) (okA_cons (slo T.cls T.sx_own_costs (okE_var 0)) (okA_cons (okE_var 5) (okA_cons (okE_op okIx (slo T.cls T.sx_own_costs (okE_var 0)) (okE_var 2)) (okA_cons (okE_var 6) okA_nil))))) (gslo T.cls T.sx_own_costs (okE_var 0)))
      (okS_asg (okE_tup (okA_cons (okE_var 6) (okA_cons (okE_var 2) okA_nil))) (okG_tup (okGs_cons (gslo T.cls T.sx_own_bottom (okE_var 0)) (okGs_cons (okG_setL (slo T.cls T.sx_own_held (okE_var 0)) (okE_var 1)) okGs_nil))))))))))⟩⟩

abbrev s_Tableau_work : Stmt := inClass (topS 17) 7
abbrev N_Tableau_work : List Str := ["self", "column"]
theorem sc_Tableau_work : FnScope N_Tableau_work ["self"] (defScope s_Tableau_work) := ⟨rfl, rfl, rfl, by decide +kernel, rfl, by decide +kernel, by decide +kernel⟩
def r_Tableau_work (C : Addr) : RS :=
  (rSeq (rAsg (rMth C (d_Tableau_column C) (rVar 0) rNil) (rgName 1))
  (rWhile (rB (rOp oNotN (rVar 1) (rC .non))) (rSeq (rDrop (rMth C (d_Tableau_pivot C) (rVar 0) (rCons (rMth C (d_Tableau_row C) (rVar 0) (rCons (rVar 1) rNil)) (rCons (rVar 1) rNil))))
  (rAsg (rMth C (d_Tableau_column C) (rVar 0) rNil) (rgName 1)))))
theorem b_Tableau_work (P_column : MethD P w K mg base C "column" 6 (d_Tableau_column C)) (P_row : MethD P w K mg base C "row" 8 (d_Tableau_row C)) (P_pivot : MethD P w K mg base C "pivot" 10 (d_Tableau_pivot C)) (T : Txt K mg C) : Body P w K mg base 10 "Tableau.work" s_Tableau_work N_Tableau_work (r_Tableau_work C) := by
  refine fun f => ⟨_, fun cdv A outer s H E hr => ⟨(pss_cons (ps_set (i := 1) sc_Tableau_work.nd rfl (Or.inl rfl) (ke_meth0 T.cls P_column hr (pv 0)))
      (pss_one (ps_while PassesOwn.never (pt_cmpR op_notN (pv 1) pe_non (nomark _)) (pss_cons (ps_expr (ke_meth K T.cls P_pivot hr (pv 0) (pa_cons (ke_meth K T.cls P_row hr (pv 0) (pa_cons (pv 1) pa_nil)) (pa_cons (pv 1) pa_nil))))
      (pss_one (ps_set (i := 1) sc_Tableau_work.nd rfl (Or.inl rfl) (ke_meth0 T.cls P_column hr (pv 0)))))))),
    (okS_seq (okS_asg (okE_mth (okE_var 0) okA_nil) (okG_name 1))
      (okS_while (okT_test (okE_op okNotN (okE_var 1) (okE_C fun _ => .non))) (okS_seq (okS_drop (okE_mth (okE_var 0) (okA_cons (okE_mth (okE_var 0) (okA_cons (okE_var 1) okA_nil)) (okA_cons (okE_var 1) okA_nil))))
      (okS_asg (okE_mth (okE_var 0) okA_nil) (okG_name 1)))))⟩⟩

abbrev s_Tableau___init__ : Stmt := inClass (topS 17) 1
abbrev N_Tableau___init__ : List Str := ["self", "columns", "goal", "at", "aim", "units", "told", "one", "column"]
theorem sc_Tableau___init__ : FnScope N_Tableau___init__ ["self", "columns", "goal"] (defScope s_Tableau___init__) := ⟨rfl, rfl, rfl, by decide +kernel, rfl, by decide +kernel, by decide +kernel⟩
def r_Tableau___init__ (C : Addr) : RS :=
  (rSeq (rAsg (rTup (rCons (rCB oLen (rCons (rVar 1) rNil)) (rCons (rC (.int 1)) (rCons (rLstO rNil) rNil)))) (rgTup 3 (rgCons (rgSlo C 3 (rVar 0)) (rgCons (rgSlo C 0 (rVar 0)) (rgCons (rgSlo C 4 (rVar 0)) rgNil)))))
  (rSeq (rFor (rIE (rCons (rVar 2) rNil)) (rgTup 2 (rgCons (rgName 3) (rgCons (rgName 4) rgNil))) (rSeq (rAsg (rLc (rIR1 (rCons (rCB oLen (rCons (rVar 2) rNil)) rNil)) (rgName 7) rYes (rCB oInt (rCons (rOp oEq (rVar 7) (rVar 3)) rNil)) [7]) (rgName 5))
  (rDrop (rApp (rSlo C 4 (rVar 0)) (rLst (rStar (rLc (rIL (rVar 1)) (rgName 8) rYes (rOp oIx (rVar 8) (rVar 3)) [8]) (rStar (rVar 5) (rCons (rVar 4) rNil))))))))
  (rSeq (rAsg (rLcO (rIR1 (rCons (rCB oLen (rCons (rVar 2) rNil)) rNil)) (rgName 3) rYes (rOp (oI fun i j => i + j) (rSlo C 3 (rVar 0)) (rVar 3)) [3]) (rgSlo C 2 (rVar 0)))
  (rAsg (rLc (rIZN (rSlo C 4 (rVar 0))) (rgName 6) rYes (rCB oSumT (rCons (rVar 6) rNil)) [6]) (rgSlo C 1 (rVar 0))))))
theorem b_Tableau___init__ (T : Txt K mg C) : Body P w K mg base 11 "Tableau.__init__" s_Tableau___init__ N_Tableau___init__ (r_Tableau___init__ C) := by
  refine fun f => ⟨_, fun cdv A outer s H E hr => ⟨(pss_cons (ps_asg (pe_tup (pa_cons (kb_call (kc_len K) T.b_len (pa_cons (pv 1) pa_nil)) (pa_cons pe_int (pa_cons (pe_lst pa_nil) pa_nil)))) (kg_tup K (pgs_cons (kg_slA (K := K) (pv 0)) (pgs_cons (kg_slA (K := K) (pv 0)) (pgs_cons (kg_slA (K := K) (pv 0)) pgs_nil)))))
      (pss_cons (ps_for PassesOwn.never rfl (ki_enum K (by rfl) T.b_enumerate (pa_cons (pv 2) pa_nil)) (kg_tup K (pgs_cons (pg_name (i := 3) sc_Tableau___init__.nd rfl (Or.inr rfl)) (pgs_cons (pg_name (i := 4) sc_Tableau___init__.nd rfl (Or.inl rfl)) pgs_nil))) (pss_cons (ps_setLc (i := 5) (own := [("one", 7)]) rfl sc_Tableau___init__.nd rfl rfl (sw_true rfl rfl rfl (by decide +kernel)) (kr_range1 T.b_range (pa_cons (kb_call (kc_len K) T.b_len (pa_cons (pv 2) pa_nil)) pa_nil)) (blkOk_by (own := [("one", 7)]) (N := N_Tableau___init__) (sc := defScope s_Tableau___init__) (by decide +kernel)) (fun _ _ _ _ _ => (pg_name (i := 7) sc_Tableau___init__.nd rfl (by first | exact Or.inl rfl | exact Or.inr rfl))) (fun _ _ _ _ _ => pts_nil) (fun _ _ _ _ _ => (kt_call call_int1 T.b_int (pa_cons (pe_cmpR (ko_eqD K hr.units) (pv 7) (pv 3) (nomark _)) pa_nil))))
      (pss_one (ps_expr (ke_app K (ke_sl K (pv 0)) (pa_cons (pe_lst (ka_star K (pe_lc (own := [("column", 8)]) rfl sc_Tableau___init__.nd (ki_list K (pv 1)) (blkOk_by (own := [("column", 8)]) (N := N_Tableau___init__) (sc := defScope s_Tableau___init__) (by decide +kernel)) (fun _ _ _ _ _ => (pg_name (i := 8) sc_Tableau___init__.nd rfl (by first | exact Or.inl rfl | exact Or.inr rfl))) (fun _ _ _ _ _ => pts_nil) (fun _ _ _ _ _ => (pe_ix (kx_seq K) (pv 8) (pv 3) (fun _ _ => rfl)))) (ka_star K (pv 5) (pa_cons (pv 4) pa_nil)))) pa_nil))))))
      (pss_cons (ps_asg (pe_lc (own := [("at", 3)]) rfl sc_Tableau___init__.nd (kr_range1 T.b_range (pa_cons (kb_call (kc_len K) T.b_len (pa_cons (pv 2) pa_nil)) pa_nil)) (blkOk_by (own := [("at", 3)]) (N := N_Tableau___init__) (sc := defScope s_Tableau___init__) (by decide +kernel)) (fun _ _ _ _ _ => (pg_name (i := 3) sc_Tableau___init__.nd rfl (by first | exact Or.inl rfl | exact Or.inr rfl))) (fun _ _ _ _ _ => pts_nil) (fun _ _ _ _ _ => (pe_op op_add (ke_sl K (pv 0)) (pv 3)))) (kg_slA (K := K) (pv 0)))
      (pss_one (ps_asg (pe_lc (own := [("told", 6)]) rfl sc_Tableau___init__.nd (ki_zipN K (by rfl) T.b_zip (ke_sl K (pv 0))) (blkOk_by (own := [("told", 6)]) (N := N_Tableau___init__) (sc := defScope s_Tableau___init__) (by decide +kernel)) (fun _ _ _ _ _ => (pg_name (i := 6) sc_Tableau___init__.nd rfl (by first | exact Or.inl rfl | exact Or.inr rfl))) (fun _ _ _ _ _ => pts_nil) (fun _ _ _ _ _ => (kb_call (kc_sumT K) T.b_sum (pa_cons (pv 6) pa_nil)))) (kg_slA (K := K) (pv 0))))))),
    (okS_seq (okS_asg (okE_tup (okA_cons (okE_CB okLen (okA_cons (okE_var 1) okA_nil)) (okA_cons (okE_C fun _ => .int _) (okA_cons (okE_lstO okA_nil) okA_nil)))) (okG_tup (okGs_cons (gslo T.cls T.sx_own_many (okE_var 0)) (okGs_cons (gslo T.cls T.sx_own_bottom (okE_var 0)) (okGs_cons (gslo T.cls T.sx_own_rows (okE_var 0)) okGs_nil)))))
      (okS_seq (okS_for (okI_enum (okA_cons (okE_var 2) okA_nil)) (okG_tup (okGs_cons (okG_name 3) (okGs_cons (okG_name 4) okGs_nil))) (okS_seq (okS_asg (okE_lc (okI_range1 (okA_cons (okE_CB okLen (okA_cons (okE_var 2) okA_nil)) okA_nil)) (okG_name 7) okT_yes (okE_CB okInt (okA_cons (okE_op okEq (okE_var 7) (okE_var 3)) okA_nil)) (by decide)) (okG_name 5))
      (okS_drop (okE_app (slo T.cls T.sx_own_rows (okE_var 0)) (okE_lst (okA_star (okE_lc (okI_list (okE_var 1)) (okG_name 8) okT_yes (okE_op okIx (okE_var 8) (okE_var 3)) (by decide)) (okA_star (okE_var 5) (okA_cons (okE_var 4) okA_nil))))))))
      (okS_seq (okS_asg (okE_lcO (okI_range1 (okA_cons (okE_CB okLen (okA_cons (okE_var 2) okA_nil)) okA_nil)) (okG_name 3) okT_yes (okE_op okI (slo T.cls T.sx_own_many (okE_var 0)) (okE_var 3)) (by decide)) (gslo T.cls T.sx_own_held (okE_var 0)))
      (okS_asg (okE_lc (okI_zipN (slo T.cls T.sx_own_rows (okE_var 0))) (okG_name 6) okT_yes (okE_CB okSumT (okA_cons (okE_var 6) okA_nil)) (by decide)) (gslo T.cls T.sx_own_costs (okE_var 0))))))⟩⟩

abbrev s_made_or_form : Stmt := topS 18
abbrev N_made_or_form : List Str := ["columns", "goal", "signs", "told", "numbers", "held", "row", "aim", "column", "sign", "one"]
theorem sc_made_or_form : FnScope N_made_or_form ["columns", "goal"] (defScope s_made_or_form) := ⟨rfl, rfl, rfl, by decide +kernel, rfl, by decide +kernel, by decide +kernel⟩
def r_made_or_form (C : Addr) : RS :=
  (rSeq (rAsg (rLc (rIT (rVar 1)) (rgName 7) rYes (rIf (rB (rOp (oB (fun i j => decide (i < j))) (rVar 7) (rC (.int 0)))) (rUn oNeg (rC (.int 1))) (rC (.int 1))) [7]) (rgName 2))
  (rSeq (rAsg (rMkO C (d_Tableau___init__ C) (rCons (rLc (rIL (rVar 0)) (rgName 8) rYes (rCB oTuple (rCons (rLc (rIZ (rCons (rVar 2) (rCons (rVar 8) rNil))) (rgTup 2 (rgCons (rgName 9) (rgCons (rgName 10) rgNil))) rYes (rOp (oIc CMulW fun i j => i * j) (rVar 9) (rVar 10)) [9, 10]) rNil)) [8]) (rCons (rLc (rIZ (rCons (rVar 2) (rCons (rVar 1) rNil))) (rgTup 2 (rgCons (rgName 9) (rgCons (rgName 7) rgNil))) rYes (rOp (oIc CMulW fun i j => i * j) (rVar 9) (rVar 7)) [9, 7]) rNil))) (rgName 3))
  (rSeq (rDrop (rMth C (d_Tableau_work C) (rVar 3) rNil))
  (rSeq (rIfS (rB (rOp (oB (fun i j => decide (j < i))) (rOp oIx (rSlo C 1 (rVar 3)) (rUn oNeg (rC (.int 1)))) (rC (.int 0)))) (rRet (rTup (rCons (rC .non) (rCons (rCB oTuple (rCons (rLc (rIZ (rCons (rVar 2) (rCons (rSlc oSlL (rSlo C 1 (rVar 3)) (rPart (rSlo C 3 (rVar 3))) (rPart (rUn oNeg (rC (.int 1))))) rNil))) (rgTup 2 (rgCons (rgName 9) (rgCons (rgName 10) rgNil))) rYes (rOp (oIc CMulW fun i j => i * j) (rVar 9) (rVar 10)) [9, 10]) rNil)) rNil)))) rNext)
  (rSeq (rAsg (rOp oRepO (rLst (rCons (rC (.int 0)) rNil)) (rCB oLen (rCons (rVar 0) rNil))) (rgName 4))
  (rSeq (rFor (rIZ (rCons (rSlo C 2 (rVar 3)) (rCons (rSlo C 4 (rVar 3)) rNil))) (rgTup 2 (rgCons (rgName 5) (rgCons (rgName 6) rgNil))) (rIfS (rB (rOp (oB (fun i j => decide (i < j))) (rVar 5) (rCB oLen (rCons (rVar 0) rNil)))) (rAsg (rOp oIx (rVar 6) (rUn oNeg (rC (.int 1)))) (rgSetL (rVar 4) (rVar 5))) rNext))
  (rRet (rTup (rCons (rCB oTuple (rCons (rVar 4) rNil)) (rCons (rSlo C 0 (rVar 3)) rNil))))))))))
theorem b_made_or_form (M_Tableau : MakD P w K mg base 12 "Tableau" C (spOf K (d_Tableau___init__ C))) (P_work : MethD P w K mg base C "work" 11 (d_Tableau_work C)) (T : Txt K mg C) : Body P w K mg base 13 "made_or_form" s_made_or_form N_made_or_form (r_made_or_form C) := by
  refine fun f => ⟨_, fun cdv A outer s H E hr => ⟨(pss_cons (ps_set (i := 2) sc_made_or_form.nd rfl (Or.inr rfl) (pe_lc (own := [("aim", 7)]) rfl sc_made_or_form.nd (ki_tup K (pv 1)) (blkOk_by (own := [("aim", 7)]) (N := N_made_or_form) (sc := defScope s_made_or_form) (by decide +kernel)) (fun _ _ _ _ _ => (pg_name (i := 7) sc_made_or_form.nd rfl (by first | exact Or.inl rfl | exact Or.inr rfl))) (fun _ _ _ _ _ => pts_nil) (fun _ _ _ _ _ => (pe_ifExp (pt_cmpR op_lt (pv 7) pe_int (nomark _)) (pe_un un_neg pe_int) pe_int))))
      (pss_cons (ps_set (i := 3) sc_made_or_form.nd rfl (Or.inl rfl) (ke_mkO M_Tableau hr (pa_cons (pe_lc (own := [("column", 8)]) rfl sc_made_or_form.nd (ki_list K (pv 0)) (blkOk_by (own := [("column", 8)]) (N := N_made_or_form) (sc := defScope s_made_or_form) (by decide +kernel)) (fun _ _ _ _ _ => (pg_name (i := 8) sc_made_or_form.nd rfl (by first | exact Or.inl rfl | exact Or.inr rfl))) (fun _ _ _ _ _ => pts_nil) (fun _ _ _ _ _ => (kt_call (kc_tuple K) T.b_tuple (pa_cons (pe_lc (own := [("sign", 9), ("one", 10)]) rfl sc_made_or_form.nd (ki_zip K (by rfl) T.b_zip (pa_cons (pv 2) (pa_cons (pv 8) pa_nil))) (by refine blkOk_by (own := [("sign", 9), ("one", 10)]) (N := N_made_or_form) ?_; kernel_rfl) (fun _ _ _ _ _ => (kg_tup K (pgs_cons (pg_name (i := 9) sc_made_or_form.nd rfl (by first | exact Or.inl rfl | exact Or.inr rfl)) (pgs_cons (pg_name (i := 10) sc_made_or_form.nd rfl (by first | exact Or.inl rfl | exact Or.inr rfl)) pgs_nil)))) (fun _ _ _ _ _ => pts_nil) (fun _ _ _ _ _ => (pe_op op_mulW (pv 9) (pv 10)))) pa_nil)))) (pa_cons (pe_lc (own := [("sign", 9), ("aim", 7)]) rfl sc_made_or_form.nd (ki_zip K (by rfl) T.b_zip (pa_cons (pv 2) (pa_cons (pv 1) pa_nil))) (blkOk_by (own := [("sign", 9), ("aim", 7)]) (N := N_made_or_form) (sc := defScope s_made_or_form) (by decide +kernel)) (fun _ _ _ _ _ => (kg_tup K (pgs_cons (pg_name (i := 9) sc_made_or_form.nd rfl (by first | exact Or.inl rfl | exact Or.inr rfl)) (pgs_cons (pg_name (i := 7) sc_made_or_form.nd rfl (by first | exact Or.inl rfl | exact Or.inr rfl)) pgs_nil)))) (fun _ _ _ _ _ => pts_nil) (fun _ _ _ _ _ => (pe_op op_mulW (pv 9) (pv 7)))) pa_nil))))
      (pss_cons (ps_expr (ke_meth0 T.cls P_work hr (pv 3)))
      (pss_cons (ps_if (pt_cmpR op_gt (pe_ix (kx_seq K) (ke_sl K (pv 3)) (pe_un un_neg pe_int) (fun _ _ => rfl)) pe_int (nomark _)) (pss_one (ps_ret (pe_tup (pa_cons pe_non (pa_cons (kt_call (kc_tuple K) T.b_tuple (pa_cons (pe_lc (own := [("sign", 9), ("one", 10)]) rfl sc_made_or_form.nd (ki_zip K (by rfl) T.b_zip (pa_cons (pv 2) (pa_cons (pe_slice (ks_list K) (ke_sl K (pv 3)) (po_some (ke_sl K (pv 3))) (po_some (pe_un un_neg pe_int))) pa_nil))) (blkOk_by (own := [("sign", 9), ("one", 10)]) (N := N_made_or_form) (sc := defScope s_made_or_form) (by decide +kernel)) (fun _ _ _ _ _ => (kg_tup K (pgs_cons (pg_name (i := 9) sc_made_or_form.nd rfl (by first | exact Or.inl rfl | exact Or.inr rfl)) (pgs_cons (pg_name (i := 10) sc_made_or_form.nd rfl (by first | exact Or.inl rfl | exact Or.inr rfl)) pgs_nil)))) (fun _ _ _ _ _ => pts_nil) (fun _ _ _ _ _ => (pe_op op_mulW (pv 9) (pv 10)))) pa_nil)) pa_nil))))) pss_nil)
      (pss_cons (ps_set (i := 4) sc_made_or_form.nd rfl (Or.inl rfl) (pe_op op_rep (pe_lst (pa_cons pe_int pa_nil)) (kb_call (kc_len K) T.b_len (pa_cons (pv 0) pa_nil))))
      (pss_cons (ps_for PassesOwn.never rfl (ki_zip K (by rfl) T.b_zip (pa_cons (ke_sl K (pv 3)) (pa_cons (ke_sl K (pv 3)) pa_nil))) (kg_tup K (pgs_cons (pg_name (i := 5) sc_made_or_form.nd rfl (Or.inl rfl)) (pgs_cons (pg_name (i := 6) sc_made_or_form.nd rfl (Or.inl rfl)) pgs_nil))) (pss_one (ps_if (pt_cmpR op_lt (pv 5) (kb_call (kc_len K) T.b_len (pa_cons (pv 0) pa_nil)) (nomark _)) (pss_one (ps_asg (pe_ix (kx_seq K) (pv 6) (pe_un un_neg pe_int) (fun _ _ => rfl)) (pg_sub (pv 4) (pv 5) set_list))) pss_nil)))
      (pss_one (ps_ret (pe_tup (pa_cons (kt_call (kc_tuple K) T.b_tuple (pa_cons (pv 4) pa_nil)) (pa_cons (ke_sl K (pv 3)) pa_nil))))))))))),
    (okS_seq (okS_asg (okE_lc (okI_tup (okE_var 1)) (okG_name 7) okT_yes (okE_if (okT_test (okE_op okB (okE_var 7) (okE_C fun _ => .int _))) (okE_un okNeg (okE_C fun _ => .int _)) (okE_C fun _ => .int _)) (by decide)) (okG_name 2))
      (okS_seq (okS_asg (okE_mkO (okA_cons (okE_lc (okI_list (okE_var 0)) (okG_name 8) okT_yes (okE_CB okTuple (okA_cons (okE_lc (okI_zip (okA_cons (okE_var 2) (okA_cons (okE_var 8) okA_nil))) (okG_tup (okGs_cons (okG_name 9) (okGs_cons (okG_name 10) okGs_nil))) okT_yes (okE_op okIc (okE_var 9) (okE_var 10)) (by decide)) okA_nil)) (by decide)) (okA_cons (okE_lc (okI_zip (okA_cons (okE_var 2) (okA_cons (okE_var 1) okA_nil))) (okG_tup (okGs_cons (okG_name 9) (okGs_cons (okG_name 7) okGs_nil))) okT_yes (okE_op okIc (okE_var 9) (okE_var 7)) (by decide)) okA_nil))) (okG_name 3))
      (okS_seq (okS_drop (okE_mth (okE_var 3) okA_nil))
      (okS_seq (okS_if (okT_test (okE_op okB (okE_op okIx (slo T.cls T.sx_own_costs (okE_var 3)) (okE_un okNeg (okE_C fun _ => .int _))) (okE_C fun _ => .int _))) (okS_ret (okE_tup (okA_cons (okE_C fun _ => .non) (okA_cons (okE_CB okTuple (okA_cons (okE_lc (okI_zip (okA_cons (okE_var 2) (okA_cons (okE_slc okSlL (slo T.cls T.sx_own_costs (okE_var 3)) (okO_part (slo T.cls T.sx_own_many (okE_var 3))) (okO_part (okE_un okNeg (okE_C fun _ => .int _)))) okA_nil))) (okG_tup (okGs_cons (okG_name 9) (okGs_cons (okG_name 10) okGs_nil))) okT_yes (okE_op okIc (okE_var 9) (okE_var 10)) (by decide)) okA_nil)) okA_nil)))) okS_next)
      (okS_seq (okS_asg (okE_op okRepO (okE_lst (okA_cons (okE_C fun _ => .int _) okA_nil)) (okE_CB okLen (okA_cons (okE_var 0) okA_nil))) (okG_name 4))
      (okS_seq (okS_for (okI_zip (okA_cons (slo T.cls T.sx_own_held (okE_var 3)) (okA_cons (slo T.cls T.sx_own_rows (okE_var 3)) okA_nil))) (okG_tup (okGs_cons (okG_name 5) (okGs_cons (okG_name 6) okGs_nil))) (okS_if (okT_test (okE_op okB (okE_var 5) (okE_CB okLen (okA_cons (okE_var 0) okA_nil)))) (okS_asg (okE_op okIx (okE_var 6) (okE_un okNeg (okE_C fun _ => .int _))) (okG_setL (okE_var 4) (okE_var 5))) okS_next))
      (okS_ret (okE_tup (okA_cons (okE_CB okTuple (okA_cons (okE_var 4) okA_nil)) (okA_cons (slo T.cls T.sx_own_bottom (okE_var 3)) okA_nil))))))))))⟩⟩



theorem ok_column (a : AtM K C "column" "Tableau.column" s_Tableau_column) (T : Txt K mg C) : MethD P w K mg base C "column" 6 (d_Tableau_column C) := by
  refine methD_of a (b_Tableau_column T) sc_Tableau_column (fun _ _ _ _ _ _ us hl => match us, hl with | [_], _ => rfl) ?_ ?_
  · rintro ds μ k ⟨_, _, _, _, _, _, rfl, _⟩; rfl
  · rintro ds μ k ⟨p, q, m, many, A, h, rfl, tb, ft, hk⟩
    obtain ⟨rd, e1, e2, _, _⟩ := tb.ex
    have hf := ft.few
    simp [r_Tableau_column, e1]
    refine ⟨by omega, ?_⟩
    refine lcW_filt (List.range many) (fun i => .int (0 + ((i : Nat) : Int))) (fun i => .int ((i : Nat) : Int)) (fun i => decide (0 < cost m many A h i)) (Src.r 0 many) (by rw [List.length_range]; omega) (fun x hx kt kf h1 h2 => ?_) ?_
    · have hx := List.mem_range.mp hx
      have e := at_map (n := many + m + 1) (cost m many A h) (j := x) (by omega)
      simp [-asQ, -asL, -List.map_map, -Int.natCast_add, asQ_lst, e1, wipeD, costs, e]
      split
      · rename_i z; exact h1 (decide_eq_true z)
      · rename_i z; exact h2 (decide_eq_false z)
    · refine Cm.int.lst.toNe (x := ((List.range many).filter fun i => decide (0 < cost m many A h i)).map fun i : Nat => (i : Int)) (y := []) (by rw [← Cm.int.lst.as μ, List.map_map]; rfl) (Cm.int.lst.as _ []) (by decide) ?_
      cases q : (List.range many).filter (fun i => decide (0 < cost m many A h i)) with
      | nil =>
        simp
        refine hk none (fun _ j hj => ?_) (fun c e => nomatch e)
        have := List.filter_eq_nil_iff.mp q j (List.mem_range.mpr hj)
        simpa using this
      | cons c rest =>
        have hs : (c :: rest).Pairwise (fun a b => a < b) := q ▸ List.Pairwise.filter _ (List.pairwise_lt_range)
        have hc : c ∈ (List.range many).filter (fun i => decide (0 < cost m many A h i)) := by rw [q]; simp
        obtain ⟨c1, c2⟩ := List.mem_filter.mp hc
        simp [atI, ixN]
        refine hk (some c) (fun e => nomatch e) (fun c' e => ?_)
        cases e
        refine ⟨List.mem_range.mp c1, of_decide_eq_true c2, fun j hj => ?_⟩
        rcases Int.lt_or_le 0 (cost m many A h j) with z | z
        · have hm : j ∈ (List.range many).filter (fun i => decide (0 < cost m many A h i)) := List.mem_filter.mpr ⟨List.mem_range.mpr (by have := List.mem_range.mp c1; omega), decide_eq_true z⟩
          rw [q] at hm
          rcases List.mem_cons.mp hm with e | e
          · omega
          · have := (List.pairwise_cons.mp hs).1 j e; omega
        · exact z
theorem at_rows {m many : Nat} {A : Nat → Vec} {h : Nat → Nat} {i : Nat} (hi : i < m) : atI ((rowsOf m many A h).map lowD) ((i : Nat) : Int) = some (lowD (rowOf m many A h i)) := by
  have hl : ((rowsOf m many A h).map lowD).length = m := by simp [rowsOf]
  unfold atI ixN
  rw [hl, if_pos (by omega), if_pos (by omega)]
  simp [rowsOf, hi]
theorem at_last {m many : Nat} {A : Nat → Vec} {h : Nat → Nat} {i : Nat} : atI (intsD (rowOf m many A h i)) (-1) = some (.int (tt m A h i (many + m))) := by
  have hl : (intsD (rowOf m many A h i)).length = many + m + 1 := by simp [rowOf]
  unfold atI ixN
  rw [hl, if_neg (by omega), if_pos (by omega)]
  have : ((-1 : Int) + ((many + m + 1 : Nat) : Int)).toNat = many + m := by omega
  rw [this]
  simp [rowOf]
theorem at_row {m many : Nat} {A : Nat → Vec} {h : Nat → Nat} {i j : Nat} (hj : j < many + m + 1) : atI (intsD (rowOf m many A h i)) ((j : Nat) : Int) = some (.int (tt m A h i j)) := at_map _ hj
theorem ok_is_ahead (a : AtM K C "is_ahead" "Tableau.is_ahead" s_Tableau_is_ahead) (T : Txt K mg C) : MethD P w K mg base C "is_ahead" 7 (d_Tableau_is_ahead C) := by
  refine methD_of a (b_Tableau_is_ahead T) sc_Tableau_is_ahead (fun _ _ _ _ _ _ us hl => match us, hl with | [_, _, _, _], _ => rfl) ?_ ?_
  · rintro ds μ k ⟨_, _, _, _, _, _, _, _, _, rfl, _⟩; rfl
  · rintro ds μ k ⟨p, q, m, many, A, h, one, other, col, rfl, tb, g, ft, h1, h2, h3, hk⟩
    obtain ⟨rd, e1, e2, _, _⟩ := tb.ex
    have e3 := asQ_of e2
    have s1 := tt_sz g ft (k := one) (j := many + m) (Nat.le_refl _)
    have s2 := tt_sz g ft (k := other) (j := many + m) (Nat.le_refl _)
    have s3 := tt_sz g ft (k := one) (j := col) (by omega)
    have s4 := tt_sz g ft (k := other) (j := col) (by omega)
    have a1 := at_map (n := m) (fun k => ((h k : Nat) : Int)) h1
    have a2 := at_map (n := m) (fun k => ((h k : Nat) : Int)) h2
    simp [-asQ, -asL, -List.map_map, asQ_lst, asQ_own tb.held, r_Tableau_is_ahead, e1, e3, at_rows h1, at_rows h2, at_last, at_row (show col < many + m + 1 by omega), sz_mul s1 s4, sz_mul s2 s3, tb.held, helds, a1, a2]
    split
    · rename_i z; simpa [z] using hk
    · rename_i z
      split
      · rename_i z2; simpa [z, z2] using hk
      · rename_i z2; simpa [z, z2] using hk
theorem ok_turned (a : AtM K C "turned" "Tableau.turned" s_Tableau_turned) (T : Txt K mg C) : MethD P w K mg base C "turned" 9 (d_Tableau_turned C) := by
  refine methD_of a (b_Tableau_turned T) sc_Tableau_turned (fun _ _ _ _ _ _ us hl => match us, hl with | [_, _, _, _, _], _ => rfl) ?_ ?_
  · rintro ds μ k ⟨_, _, _, _, _, _, _, _, _, rfl, _⟩; rfl
  · rintro ds μ k ⟨p, fs, b, x, y, xs, ys, f, v, rfl, e1, hd, sd, ex, ey, hx, hy, sf, sv, sx, sy, hk⟩
    simp [-asQ, -asL, -List.map_map, r_Tableau_turned, e1, asQ_of ex, asQ_of ey]
    refine lcW_map (xs.zip ys) (fun q => .tup [.int q.1, .int q.2]) (fun q => .int ((q.1 * v - f * q.2) / b)) ?_ (by rw [List.length_zip]; omega) (fun z hz kt kf h1 => ?_) ?_
    · have := Src.z (μ := μ) (asQ_of ex) (asQ_of ey)
      have e : ((intsD xs).zip (intsD ys)).map (fun q => D.tup [q.1, q.2]) = (xs.zip ys).map fun q => D.tup [.int q.1, .int q.2] := by
        rw [List.zip_map, List.map_map]; rfl
      rw [e] at this
      exact this
    · obtain ⟨z1, z2⟩ := z
      have m1 := List.of_mem_zip hz
      have c1 := sz_mul (sx z1 m1.1) sv
      have c2 := sz_mul sf (sy z2 m1.2)
      have c3 : CDivW (z1 * v - f * z2) (b) := ⟨hd, Nat.lt_of_lt_of_le (PySem.Flt.log2_lt_of (by decide) sd) (by decide)⟩
      simp [wipeD, e1, c1, c2, c3]
      exact h1
    · rw [show lowD ((xs.zip ys).map fun q => (q.1 * v - f * q.2) / b) = .lst ((xs.zip ys).map fun q => D.int ((q.1 * v - f * q.2) / b)) by simp [lowD, intsD]] at hk
      exact hk
/-! ### the row that bars a column first -/
theorem zipIdx_range {α : Type} (g : Nat → α) (m : Nat) : ((List.range m).map g).zipIdx = (List.range m).map fun i => (g i, i) := by
  apply List.ext_getElem
  · simp
  · intro i h1 h2
    simp
theorem rows_idx {m many : Nat} {A : Nat → Vec} {h : Nat → Nat} : (((rowsOf m many A h).map lowD).zipIdx.map fun q => D.tup [.int ((q.2 : Nat) : Int), q.1]) = (List.range m).map fun i => D.tup [.int ((i : Nat) : Int), lowD (rowOf m many A h i)] := by
  rw [show (rowsOf m many A h).map lowD = (List.range m).map fun i => lowD (rowOf m many A h i) by simp [rowsOf], zipIdx_range, List.map_map]
  rfl
/-- row r is not behind row k -/
def Best (m many : Nat) (A : Nat → Vec) (h : Nat → Nat) (c r k : Nat) : Prop := tt m A h r (many + m) * tt m A h k c ≤ tt m A h k (many + m) * tt m A h r c ∧ (tt m A h r (many + m) * tt m A h k c = tt m A h k (many + m) * tt m A h r c → h r ≤ h k)
theorem best_trans {a b a' b' a'' b'' : Int} {x y z : Nat} (hb : 0 < b) (hb' : 0 < b') (hb'' : 0 < b'') (h1 : a * b' < a' * b ∨ (a * b' = a' * b ∧ x < y)) (h2 : a' * b'' ≤ a'' * b' ∧ (a' * b'' = a'' * b' → y ≤ z)) : a * b'' ≤ a'' * b ∧ (a * b'' = a'' * b → x ≤ z) := by
  have e1 : a * b' ≤ a' * b := by rcases h1 with h | h; exact Int.le_of_lt h; exact Int.le_of_eq h.1
  have q1 : (a * b') * b'' ≤ (a' * b) * b'' := Int.mul_le_mul_of_nonneg_right e1 (Int.le_of_lt hb'')
  have q2 : (a' * b'') * b ≤ (a'' * b') * b := Int.mul_le_mul_of_nonneg_right h2.1 (Int.le_of_lt hb)
  have r1 : (a * b') * b'' = (a * b'') * b' := Int.mul_right_comm _ _ _
  have r2 : (a' * b) * b'' = (a' * b'') * b := Int.mul_right_comm _ _ _
  have r3 : (a'' * b') * b = (a'' * b) * b' := Int.mul_right_comm _ _ _
  rw [r1, r2] at q1
  rw [r3] at q2
  refine ⟨Int.le_of_mul_le_mul_right (Int.le_trans q1 q2) hb', fun e => ?_⟩
  rw [e] at q1
  have q3 : (a' * b'') * b = (a'' * b) * b' := Int.le_antisymm q2 q1
  have q4 : (a * b') * b'' = (a' * b) * b'' := by rw [r1, r2, q3, e]
  have q5 : a * b' = a' * b := Int.eq_of_mul_eq_mul_right (Int.ne_of_gt hb'') q4
  have q6 : a' * b'' = a'' * b' := by
    have : (a' * b'') * b = (a'' * b') * b := by rw [q3, r3]
    exact Int.eq_of_mul_eq_mul_right (Int.ne_of_gt hb) this
  rcases h1 with h | h
  · omega
  · have := h2.2 q6; omega
/-- what is found among the first i rows -/
structure FoundR (m many : Nat) (A : Nat → Vec) (h : Nat → Nat) (c : Nat) (i : Nat) (f : Option Nat) : Prop where
  no : f = none → ∀ k, k < i → tt m A h k c ≤ 0
  yes : ∀ r, f = some r → r < i ∧ 0 < tt m A h r c ∧ ∀ k, k < i → 0 < tt m A h k c → Best m many A h c r k
theorem ok_row (a : AtM K C "row" "Tableau.row" s_Tableau_row) (P_is_ahead : MethD P w K mg base C "is_ahead" 7 (d_Tableau_is_ahead C)) (T : Txt K mg C) : MethD P w K mg base C "row" 8 (d_Tableau_row C) := by
  refine methD_of a (b_Tableau_row P_is_ahead T) sc_Tableau_row (fun _ _ _ _ _ _ us hl => match us, hl with | [_, _], _ => rfl) ?_ ?_
  · rintro ds μ k ⟨_, _, _, _, _, _, _, rfl, _⟩; rfl
  · rintro ds μ k ⟨p, q, m, many, A, h, c, rfl, tb, g, ft, hc, hex, hk⟩
    obtain ⟨rd, e1, e2, _, _⟩ := tb.ex
    have e3 := asQ_of e2
    simp [r_Tableau_row]
    refine for_inv (List.range m) (fun i => .tup [.int ((i : Nat) : Int), lowD (rowOf m many A h i)]) (fun i δ μ' => μ' = μ ∧ ∃ f x y, δ = [some (.own p), some (.int (c : Nat)), some (optD f), x, y] ∧ FoundR m many A h c i f) (fun k' hk' => ?_) (fun i x δ μ' hx hI => ?_) (fun δ μ' hI => ?_)
    · simp [-asQ, -asL, -List.map_map, e1, e3]
      refine hk' _ _ ?_ ⟨rfl, none, none, none, rfl, ⟨fun _ k hk => by omega, fun r e => nomatch e⟩⟩ (fun i δ μ' hI => hI.1 ▸ e3)
      have := Src.e (μ := μ) e3
      rw [rows_idx] at this
      exact this
    · obtain ⟨rfl, f, x', y', rfl, hf⟩ := hI
      have hi : i < m ∧ x = i := by
        have := List.getElem?_eq_some_iff.mp hx
        obtain ⟨z1, z2⟩ := this
        simp at z1 z2
        exact ⟨z1, z2.symm⟩
      obtain ⟨hi, rfl⟩ := hi
      have ec := at_row (m := m) (many := many) (A := A) (h := h) (i := x) (j := c) (by omega)
      simp [-asQ, -asL, -List.map_map, asQ_lst, ec, e1]
      have keep : (tt m A h x c ≤ 0) → FoundR m many A h c (x + 1) f := fun hz => ⟨fun e k hk => by
        by_cases e2 : k = x
        · subst e2; exact hz
        · exact hf.no e k (by omega), fun r e => by
        obtain ⟨h1, h2, h3⟩ := hf.yes r e
        refine ⟨by omega, h2, fun k hk hp => ?_⟩
        by_cases e2 : k = x
        · subst e2; omega
        · exact h3 k (by omega) hp⟩
      split
      · rename_i hp
        cases f with
        | none =>
          refine ⟨some x, rfl, ⟨(fun e => nomatch e), fun r e => ?_⟩⟩
          cases e
          refine ⟨by omega, hp, fun k hk hpk => ?_⟩
          by_cases e2 : k = x
          · subst e2; exact ⟨Int.le_refl _, fun _ => Nat.le_refl _⟩
          · have := hf.no rfl k (by omega); omega
        | some r =>
          obtain ⟨h1, h2, h3⟩ := hf.yes r rfl
          simp [optD, DL.isNon]
          refine ⟨p, q, m, many, A, h, x, r, c, rfl, tb, g, ft, hi, by omega, hc, ?_⟩
          generalize hb : (decide (tt m A h x (many + m) * tt m A h r c < tt m A h r (many + m) * tt m A h x c) || (decide (tt m A h x (many + m) * tt m A h r c = tt m A h r (many + m) * tt m A h x c) && decide (h x < h r))) = b
          cases b with
          | true =>
            have hb2 : tt m A h x (many + m) * tt m A h r c < tt m A h r (many + m) * tt m A h x c ∨ (tt m A h x (many + m) * tt m A h r c = tt m A h r (many + m) * tt m A h x c ∧ h x < h r) := by simpa using hb
            simp
            refine ⟨some x, rfl, ⟨(fun e => nomatch e), fun r' e => ?_⟩⟩
            cases e
            refine ⟨by omega, hp, fun k hk hpk => ?_⟩
            by_cases e2 : k = x
            · subst e2; exact ⟨Int.le_refl _, fun _ => Nat.le_refl _⟩
            · exact best_trans hp h2 hpk hb2 (h3 k (by omega) hpk)
          | false =>
            have hb2 : ¬ (tt m A h x (many + m) * tt m A h r c < tt m A h r (many + m) * tt m A h x c ∨ (tt m A h x (many + m) * tt m A h r c = tt m A h r (many + m) * tt m A h x c ∧ h x < h r)) := by
              intro z
              have : (decide (tt m A h x (many + m) * tt m A h r c < tt m A h r (many + m) * tt m A h x c) || (decide (tt m A h x (many + m) * tt m A h r c = tt m A h r (many + m) * tt m A h x c) && decide (h x < h r))) = true := by simpa using z
              rw [hb] at this; cases this
            simp
            refine ⟨some r, rfl, ⟨(fun e => nomatch e), fun r' e => ?_⟩⟩
            cases e
            refine ⟨by omega, h2, fun k hk hpk => ?_⟩
            by_cases e2 : k = x
            · subst e2
              refine ⟨Int.not_lt.mp fun z => hb2 (.inl z), fun e => ?_⟩
              rcases Nat.lt_or_ge (h k) (h r) with z | z
              · exact absurd (.inr ⟨e.symm, z⟩) hb2
              · exact z
            · exact h3 k (by omega) hpk
      · rename_i hp
        exact ⟨f, rfl, keep (by omega)⟩
    · obtain ⟨rfl, f, x', y', rfl, hf⟩ := hI
      rw [List.length_range] at hf
      cases f with
      | none =>
        obtain ⟨k', h1, h2⟩ := hex
        have := hf.no rfl k' h1
        omega
      | some r =>
        obtain ⟨h1, h2, h3⟩ := hf.yes r rfl
        simp [optD]
        exact hk r h1 h2 (fun k' hk' hp => (h3 k' hk' hp).1) (fun k' hk' hp he => (h3 k' hk' hp).2 he)
end
end K05


set_option Elab.async false
set_option linter.all false
set_option maxRecDepth 100000
set_option maxHeartbeats 4000000
namespace K05
open PySem PySem.Spec PyProof.Rows L2 SlX DL
open Sx (Vec dd tt cost hset Good Units Ratio bnd)
theorem mu_back {μ : Mu} {e it : Addr} {x y : Cnt} (he : μ e = none) (hi : μ it = none) (hne : e ≠ it) : muDel (muDel (muSet (muSet μ it x) e y) e) it = μ := by
  funext a
  by_cases h1 : a = it
  · subst h1; rw [muDel_same, hi]
  · rw [muDel_ne h1]
    by_cases h2 : a = e
    · subst h2; rw [muDel_same, he]
    · rw [muDel_ne h2, muSet_ne h2, muSet_ne h1]
theorem row_turn {m many : Nat} {A : Nat → Vec} {h : Nat → Nat} (g : Good m many A h) {k r c : Nat} (hk : k < m) (hr : r < m) (hc : c < many) (hne : k ≠ r) :
    ((rowOf m many A h k).zip (rowOf m many A h r)).map (fun q => (q.1 * tt m A h r c - tt m A h k c * q.2) / dd m A h) = rowOf m many A (hset h r c) k := by
  apply List.ext_getElem
  · simp [rowOf]
  · intro j h1 h2
    have hj : j < many + m + 1 := by simpa [rowOf] using h2
    have := Sx.tt_step g hk hr (j := j) (c := c) (by omega) (by omega)
    rw [if_neg hne] at this
    simp [rowOf, this]
theorem row_same {m many : Nat} {A : Nat → Vec} {h : Nat → Nat} {r c : Nat} : rowOf m many A (hset h r c) r = rowOf m many A h r := by
  simp [rowOf, Sx.tt_row]
theorem cost_turn {m many : Nat} {A : Nat → Vec} {h : Nat → Nat} (g : Good m many A h) {r c : Nat} (hr : r < m) (hc : c < many) :
    ((costs m many A h).zip (rowOf m many A h r)).map (fun q => (q.1 * tt m A h r c - cost m many A h c * q.2) / dd m A h) = costs m many A (hset h r c) := by
  apply List.ext_getElem
  · simp [rowOf, costs]
  · intro j h1 h2
    have hj : j < many + m + 1 := by simpa [costs] using h2
    have := Sx.cost_step g hr (j := j) (c := c) (by omega) hc
    simp [rowOf, costs, this]
theorem held_turn {m : Nat} {h : Nat → Nat} {r c : Nat} (hr : r < m) : (intsD (helds m h)).set r (.int ((c : Nat) : Int)) = intsD (helds m (hset h r c)) := by
  apply List.ext_getElem
  · simp [helds]
  · intro j h1 h2
    have hj : j < m := by simpa [helds] using h2
    rw [List.getElem_set]
    by_cases e : r = j
    · subst e; simp [helds, hset]
    · rw [if_neg e]
      have : hset h r c j = h j := by simp [hset]; intro z; exact absurd z.symm e
      simp [helds, this]
section
variable {P : Program} {w : World} {K : PySem.W.Frag} {mg : Str → Option Value} {base : Heap} {C : Addr}
theorem ok_pivot (a : AtM K C "pivot" "Tableau.pivot" s_Tableau_pivot) (P_turned : MethD P w K mg base C "turned" 9 (d_Tableau_turned C)) (T : Txt K mg C) : MethD P w K mg base C "pivot" 10 (d_Tableau_pivot C) := by
  refine methD_of a (b_Tableau_pivot P_turned T) sc_Tableau_pivot (fun _ _ _ _ _ _ us hl => match us, hl with | [_, _, _], _ => rfl) ?_ ?_
  · rintro ds μ k ⟨_, _, _, _, _, _, _, _, rfl, _⟩; rfl
  · rintro ds μ k ⟨p, q, m, many, A, h, r, c, rfl, tb, g, ft, hr, hc, hp, hk⟩
    obtain ⟨rd, e1, e2, n1, n2⟩ := tb.ex
    have e3 := asQ_of e2
    have hf := ft.few
    have er := at_rows (many := many) (A := A) (h := h) hr
    have ec := at_row (m := m) (many := many) (A := A) (h := h) (i := r) (j := c) (by omega)
    have eco : atI (intsD (costs m many A h)) ((c : Nat) : Int) = some (.int (cost m many A h c)) := at_map (n := many + m + 1) (cost m many A h) (by omega)
    have sd := dd_sz g ft
    have rsz : ∀ k, ∀ x ∈ rowOf m many A h k, Sz x := fun k x hx => by
      obtain ⟨j, hj, rfl⟩ := List.mem_map.mp hx
      exact tt_sz g ft (by have := List.mem_range.mp hj; omega)
    have csz : ∀ x ∈ costs m many A h, Sz x := fun x hx => by
      obtain ⟨j, hj, rfl⟩ := List.mem_map.mp hx
      exact cost_sz g ft (by have := List.mem_range.mp hj; omega)
    have rl : ∀ k, (rowOf m many A h k).length ≤ 1000000 := fun k => by simp [rowOf]; omega
    have cl : (costs m many A h).length ≤ 1000000 := by simp [costs]; omega
    simp [-asQ, -asL, -List.map_map, r_Tableau_pivot, e1, e3, er, asQ_lst, ec]
    intro e it he hi hne
    have pe : p ≠ e := fun z => by subst z; rw [e1] at he; cases he
    have pi : p ≠ it := fun z => by subst z; rw [e1] at hi; cases hi
    have e3' : asQ (muSet (muSet μ it (.ei it rd)) e (.en e it)) rd = some ((rowsOf m many A h).map lowD) := by
      cases rd with
      | own z =>
        have hz : μ z = some (.l ((rowsOf m many A h).map lowD)) := lsAt_iff.mp e2
        refine asQ_own ?_
        rw [muSet_ne (fun w => by subst w; rw [hz] at he; cases he), muSet_ne (fun w => by subst w; rw [hz] at hi; cases hi)]
        exact hz
      | _ => exact e3
    refine ⟨muSet_same, hne, rd, by rw [muSet_ne (Ne.symm hne)]; exact muSet_same, _, e3', ?_⟩
    rw [mu_back he hi hne]
    refine lcW_map (List.range m) (fun i => .tup [.int ((i : Nat) : Int), lowD (rowOf m many A h i)]) (fun i => lowD (rowOf m many A (hset h r c) i)) (by rw [← rows_idx]; exact Src.e e3) (by rw [List.length_range]; omega) (fun i hi kt kf h1 => ?_) ?_
    · have hi := List.mem_range.mp hi
      have eci := at_row (m := m) (many := many) (A := A) (h := h) (i := i) (j := c) (by omega)
      simp [-asQ, -asL, -List.map_map, wipeD, asQ_lst, e1, eci]
      by_cases z : i = r
      · subst z
        simp
        rw [row_same] at h1
        simpa using h1
      · rw [if_neg (by omega)]
        refine ⟨p, _, _, _, _, rowOf m many A h i, rowOf m many A h r, _, _, rfl, e1, g.pos, sd, rfl, rfl, rl i, rl r, tt_sz g ft (by omega), tt_sz g ft (by omega), rsz i, rsz r, ?_⟩
        rw [row_turn g hi hr hc z]
        exact h1
    · simp [-asQ, -asL, -List.map_map, e1, muSet_same, putD, asQ_lst, eco]
      refine ⟨p, _, _, _, _, costs m many A h, rowOf m many A h r, _, _, rfl, muSet_same, g.pos, sd, rfl, rfl, cl, rl r, cost_sz g ft (by omega), tt_sz g ft (by omega), csz, rsz r, ?_⟩
      rw [cost_turn g hr hc]
      simp [-asQ, -asL, -List.map_map, muSet_same, muSet_set, putD, tb.held, muSet_ne tb.ne]
      have hl : (helds m h).length = m := by simp [helds]
      refine ⟨r, ?_, hk _ ⟨tb.ne, ⟨.lst ((List.range m).map fun i => lowD (rowOf m many A (hset h r c) i)), ?_, ?_, (fun z => nomatch z), (fun z => nomatch z)⟩, ?_⟩ fun b h1 h2 => ?_⟩
      · unfold ixN; rw [hl, if_pos (by omega), if_pos (by omega)]; simp
      · rw [muSet_ne (Ne.symm tb.ne), muSet_same, Sx.dd_set]
      · simp [rowsOf]
      · rw [muSet_same, held_turn hr]
      · rw [muSet_ne h2, muSet_ne h1]
/-- what the column asked for may be -/
def ColIs (m many : Nat) (A : Nat → Vec) (h : Nat → Nat) (o : Option Nat) : Prop := (o = none → ∀ j, j < many → cost m many A h j ≤ 0) ∧ ∀ c, o = some c → c < many ∧ 0 < cost m many A h c ∧ ∀ j, j < c → cost m many A h j ≤ 0
theorem ok_work (a : AtM K C "work" "Tableau.work" s_Tableau_work) (P_column : MethD P w K mg base C "column" 6 (d_Tableau_column C)) (P_row : MethD P w K mg base C "row" 8 (d_Tableau_row C)) (P_pivot : MethD P w K mg base C "pivot" 10 (d_Tableau_pivot C)) (T : Txt K mg C) : MethD P w K mg base C "work" 11 (d_Tableau_work C) := by
  refine methD_of a (b_Tableau_work P_column P_row P_pivot T) sc_Tableau_work (fun _ _ _ _ _ _ us hl => match us, hl with | [_], _ => rfl) ?_ ?_
  · rintro ds μ k ⟨_, _, _, _, _, _, rfl, _⟩; rfl
  · rintro ds μ k ⟨p, q, m, many, A, h, rfl, tb, g, un, ft, hk⟩
    obtain ⟨rd, e1, _, _, _⟩ := tb.ex
    simp [r_Tableau_work, e1]
    refine ⟨p, q, m, many, A, h, rfl, tb, ft, fun o ho1 ho2 => ?_⟩
    simp
    obtain ⟨Inv, hInv⟩ : ∃ Inv : Nat → Sl → Mu → Prop, Inv = fun n δ μ' => ∃ (N : Nat) (hh : Nat → Nat → Nat) (cc rr : Nat → Nat) (o : Option Nat), Sx.Walk m many A N hh cc rr ∧ Tb C p q μ' m many A (hh N) ∧ Same p q μ μ' ∧ δ = [some (.own p), some (optD o)] ∧ ColIs m many A (hh N) o ∧ n + N = (many + m) ^ m := ⟨_, rfl⟩
    refine ⟨Inv, ⟨(many + m) ^ m, ?_⟩, fun n δ μ' hI => ?_⟩
    · rw [hInv]
      exact ⟨0, _, _, _, o, Sx.walk_none g, tb, fun _ _ _ => rfl, rfl, ⟨ho1, ho2⟩, rfl⟩
    rw [hInv] at hI
    obtain ⟨N, hh, cc, rr, o, W, tb', sm, rfl, hcol, hn⟩ := hI
    obtain ⟨rd', e1', _, _, _⟩ := tb'.ex
    have gN := W.good N (Nat.le_refl _)
    cases o with
    | none =>
      simp [optD, DL.isNon]
      exact hk μ' (hh N) tb' gN (hcol.1 rfl) sm
    | some c =>
      obtain ⟨c1, c2, c3⟩ := hcol.2 c rfl
      simp [optD, DL.isNon, e1']
      refine ⟨p, q, m, many, A, hh N, c, rfl, tb', gN, ft, c1, Sx.row_for c2, fun r r1 r2 r3 r4 => ?_⟩
      refine ⟨p, q, m, many, A, hh N, r, c, rfl, tb', gN, ft, r1, c1, r2, fun μ2 tb2 sm2 => ?_⟩
      obtain ⟨hh', cc', rr', W', eh⟩ := Sx.walk_more W c1 r1 c2 c3 r2 r3 r4
      obtain ⟨rd2, e2', _, _, _⟩ := tb2.ex
      simp [e2']
      refine ⟨p, q, m, many, A, hset (hh N) r c, rfl, tb2, ft, fun o2 p1 p2 => ?_⟩
      simp
      have sh := Sx.walk_short W' un
      refine ⟨n - 1, by omega, ?_⟩
      rw [hInv]
      exact ⟨N + 1, hh', cc', rr', o2, W', by rw [eh]; exact tb2, fun b b1 b2 => (sm2 b b1 b2).trans (sm b b1 b2), rfl, by rw [eh]; exact ⟨p1, p2⟩, by omega⟩
end
end K05


set_option Elab.async false
set_option linter.all false
set_option maxRecDepth 100000
set_option maxHeartbeats 4000000
namespace K05
open PySem PySem.Spec PyProof.Rows L2 SlX DL
open Sx (Vec dd tt cost hset Good Units Ratio bnd sumN)
/-! the first tableau -/
theorem cols_units (cols : List (List Int)) (goal : List Int) : Units goal.length cols.length (colsOf cols goal) := fun i hi i' hi' => by
  unfold colsOf
  rw [if_neg (by omega), if_pos (by omega), show cols.length + i - cols.length = i by omega]
def firstRow (cols : List (List Int)) (goal : List Int) (i : Nat) : List Int := cols.map (fun c => c.getD i 0) ++ ((List.range goal.length).map fun o => if o = i then 1 else 0) ++ [goal.getD i 0]
theorem row_init (cols : List (List Int)) (goal : List Int) {i : Nat} (hi : i < goal.length) : rowOf goal.length cols.length (colsOf cols goal) (fun k => cols.length + k) i = firstRow cols goal i := by
  unfold firstRow
  apply List.ext_getElem
  · simp [rowOf]; omega
  · intro j h1 h2
    have hj : j < cols.length + goal.length + 1 := by simpa [rowOf] using h1
    rw [show (rowOf goal.length cols.length (colsOf cols goal) (fun k => cols.length + k) i)[j] = tt goal.length (colsOf cols goal) (fun k => cols.length + k) i j by simp [rowOf]]
    rw [Sx.units_tt (cols_units cols goal) hi]
    unfold colsOf
    by_cases h3 : j < cols.length
    · rw [if_pos h3, List.getElem_append_left (by simp; omega), List.getElem_append_left (by simp; omega)]
      simp [List.getElem?_eq_getElem h3]
    · rw [if_neg h3]
      by_cases h4 : j < cols.length + goal.length
      · rw [if_pos h4, List.getElem_append_left (by simp; omega), List.getElem_append_right (by simp; omega)]
        simp
        by_cases h5 : i = j - cols.length
        · rw [if_pos h5, if_pos h5.symm]
        · rw [if_neg h5, if_neg (fun z => h5 z.symm)]
      · rw [if_neg h4, List.getElem_append_right (by simp; omega)]
        simp
theorem sumN_list (f : Nat → Int) : ∀ n : Nat, sumN n f = ((List.range n).map f).sum
  | 0 => rfl
  | n + 1 => by
    rw [List.range_succ, List.map_append, List.sum_append, ← sumN_list f n]
    simp [sumN]
theorem costs_init (cols : List (List Int)) (goal : List Int) : costs goal.length cols.length (colsOf cols goal) (fun k => cols.length + k) = (List.range (cols.length + goal.length + 1)).map fun j => ((List.range goal.length).map fun i => (firstRow cols goal i).getD j 0).sum := by
  unfold costs
  refine List.map_congr_left fun j hj => ?_
  have hj := List.mem_range.mp hj
  rw [Sx.cost_init (cols_units cols goal), sumN_list]
  congr 1
  refine List.map_congr_left fun i hi => ?_
  have hi := List.mem_range.mp hi
  rw [← row_init cols goal hi, ← Sx.units_tt (cols_units cols goal) hi]
  simp [rowOf, hj]
theorem helds_init (n m : Nat) : helds m (fun k => n + k) = (List.range m).map fun (i : Nat) => (n : Int) + (i : Int) := by
  unfold helds
  refine List.map_congr_left fun i _ => by simp
section
variable {P : Program} {w : World} {K : PySem.W.Frag} {mg : Str → Option Value} {base : Heap} {C : Addr}
theorem ok_init {f : Addr} {fd : FuncData} (M : Mk K C f) (Fu : Fun K "__init__" "Tableau.__init__" s_Tableau___init__ f fd) (T : Txt K mg C) : MakD P w K mg base 12 "Tableau" C (spOf K (d_Tableau___init__ C)) := by
  refine makD_of M Fu T.mgC (fun _ _ _ _ _ _ us hl => match us, hl with | [_, _, _], _ => rfl) (b_Tableau___init__ T) sc_Tableau___init__ ?_ ?_
  · rintro ds μ k ⟨_, _, _, _, rfl, _⟩; rfl
  · rintro ds μ k ⟨p, dx, cols, goal, rfl, e1, e2, hc, hg0, hg, ft, hk⟩
    have few := ft.few
    have hne : dx ≠ p := fun z => by subst z; rw [e1] at e2; cases e2
    simp [-asQ, -asL, -List.map_map, r_Tableau___init__, asQ_lst]
    intro r hr
    have pr : p ≠ r := fun z => by subst z; rw [e1] at hr; cases hr
    have dr : dx ≠ r := fun z => by subst z; rw [e2] at hr; cases hr
    simp only [muSet_ne pr, muSet_ne dr, e1, e2, muSet_same, muDel_ne (Ne.symm hne), putD, true_and, muSet_set]
    generalize hμ : muSet (muDel _ dx) p _ = μ1
    have m1 : μ1 p = some (.o p C [some (.int 1), none, none, some (.int (cols.length : Nat)), some (.own r)]) := by rw [← hμ, muSet_same]; rfl
    have m2 : μ1 r = some (.l []) := by rw [← hμ, muSet_ne (Ne.symm pr), muDel_ne (Ne.symm dr), muSet_ne (Ne.symm pr), muSet_same]
    have m3 : ∀ a, a ≠ p → a ≠ dx → a ≠ r → μ1 a = μ a := fun a h1 h2 h3 => by rw [← hμ, muSet_ne h1, muDel_ne h2, muSet_ne h1, muSet_ne h3]
    clear hμ
    obtain ⟨rowsTo, hrt⟩ : ∃ f : Nat → Mu, f = fun i => muSet μ1 r (.l ((List.range i).map fun i => lowD (firstRow cols goal i))) := ⟨_, rfl⟩
    have q1 : ∀ i, rowsTo i p = μ1 p := fun i => by rw [hrt]; exact muSet_ne pr
    have q2 : ∀ i, rowsTo i r = some (.l ((List.range i).map fun i => lowD (firstRow cols goal i))) := fun i => by rw [hrt]; exact muSet_same
    have q0 : rowsTo 0 = μ1 := by
      rw [hrt]
      funext a
      by_cases z : a = r
      · subst z; show muSet μ1 a (.l []) a = _; rw [muSet_same, m2]
      · exact muSet_ne z
    have gi : ∀ i, i < goal.length → goal[i]? = some (goal.getD i 0) := fun i hi => by simp [List.getElem?_eq_getElem hi]
    refine for_inv (List.range goal.length) (fun i => .tup [.int ((i : Nat) : Int), .int (goal.getD i 0)]) (fun i δ μ' => μ' = rowsTo i ∧ ∃ x y z, δ = [some (.own p), some (.lst (cols.map rowD)), some (lowD goal), x, y, z, none, none, none]) (fun k' hk' => ?_) (fun i x δ μ' hx hI => ?_) (fun δ μ' hI => ?_)
    · simp [-asQ, -asL, -List.map_map, asQ_lst]
      refine hk' _ _ ?_ ⟨q0.symm, none, none, none, rfl⟩ (fun i δ μ' hI => rfl)
      have := Src.e (μ := μ1) (x := lowD goal) (xs := intsD goal) rfl
      have e : ((intsD goal).zipIdx.map fun q => D.tup [.int ((q.2 : Nat) : Int), q.1]) = (List.range goal.length).map fun i => D.tup [.int ((i : Nat) : Int), .int (goal.getD i 0)] := by
        apply List.ext_getElem
        · simp
        · intro j h1 h2
          have hj : j < goal.length := by simpa using h2
          simp [List.getElem?_eq_getElem hj]
      rw [e] at this
      exact this
    · obtain ⟨rfl, x', y', z', rfl⟩ := hI
      have hi : i < goal.length ∧ x = i := by
        obtain ⟨z1, z2⟩ := List.getElem?_eq_some_iff.mp hx
        simp at z1 z2
        exact ⟨z1, z2.symm⟩
      obtain ⟨hi, rfl⟩ := hi
      simp [-asQ, -asL, -List.map_map, asQ_lst, asL_lst]
      refine ⟨by omega, ?_⟩
      refine lcW_map (List.range goal.length) (fun o => .int (0 + ((o : Nat) : Int))) (fun o => .int (if o = x then 1 else 0)) (Src.r 0 goal.length) (by rw [List.length_range]; omega) (fun o ho kt kf h1 => ?_) ?_
      · simp [-asQ, -asL, -List.map_map, wipeD]
        have e : (if ((o : Nat) : Int) = ((x : Nat) : Int) then (1 : Int) else 0) = if o = x then 1 else 0 := by
          by_cases z : o = x
          · subst z; simp
          · rw [if_neg z, if_neg (by omega)]
        rw [e]
        exact h1
      · simp [-asQ, -asL, -List.map_map, asQ_lst, asL_lst, q1, m1]
        refine ⟨⟨_, q2 x⟩, ?_⟩
        refine lcW_map cols rowD (fun c => .int (c.getD x 0)) (.l _) (by omega) (fun c hcm kt kf h1 => ?_) ?_
        · have hx2 : x < c.length := by rw [hc c hcm]; exact hi
          have ea : atI (intsD c) ((x : Nat) : Int) = some (.int (c.getD x 0)) := by
            unfold atI ixN
            rw [show (intsD c).length = c.length by simp, if_pos (by omega), if_pos (by omega)]
            simp [List.getElem?_eq_getElem hx2]
          simp [-asQ, -asL, -List.map_map, wipeD, asQ_tup, ea]
          have : (c[x]?.getD 0) = c.getD x 0 := by simp
          first | exact h1 | (rw [this]; exact h1)
        · simp [-asQ, -asL, -List.map_map, asQ_lst, asL_lst, q1, m1, q2 x]
          refine ⟨by omega, by omega, ?_⟩
          rw [hrt]
          show muSet (muSet μ1 r _) r _ = muSet μ1 r _
          rw [muSet_set]
          congr 2
          rw [List.range_succ, List.map_append]
          simp [firstRow, lowD, intsD]
          rfl
    · obtain ⟨rfl, x', y', z', rfl⟩ := hI
      rw [List.length_range]
      have rm := q2 goal.length
      generalize hμ2 : rowsTo goal.length = μ2 at rm
      have m1' : μ2 p = some (.o p C [some (.int 1), none, none, some (.int (cols.length : Nat)), some (.own r)]) := by rw [← hμ2, q1, m1]
      have m3' : ∀ a, a ≠ p → a ≠ dx → a ≠ r → μ2 a = μ a := fun a h1 h2 h3 => by rw [← hμ2, hrt]; show muSet μ1 r _ a = _; rw [muSet_ne h3]; exact m3 a h1 h2 h3
      simp [-asQ, -asL, -List.map_map, asQ_lst, asL_lst]
      refine ⟨by omega, ?_⟩
      refine lcW_map (List.range goal.length) (fun o => .int (0 + ((o : Nat) : Int))) (fun (o : Nat) => .int ((cols.length : Int) + (o : Int))) (Src.r 0 goal.length) (by rw [List.length_range]; omega) (fun o ho kt kf h1 => ?_) ?_
      · simp [-asQ, -asL, -List.map_map, wipeD, m1']
        exact h1
      · intro q hq
        have pq : p ≠ q := fun z => by subst z; rw [m1'] at hq; cases hq
        have rq : r ≠ q := fun z => by subst z; rw [rm] at hq; cases hq
        simp [-asQ, -asL, -List.map_map, muSet_ne pq, m1', muSet_same, putD]
        have hl : ∀ i, (firstRow cols goal i).length = cols.length + goal.length + 1 := fun i => by simp [firstRow]; omega
        have rm3 : (muSet (muSet μ2 q (Cnt.l (List.map (fun o : Nat => D.int ((cols.length : Int) + (o : Int))) (List.range goal.length)))) p (Cnt.o p C [some (D.int 1), none, some (D.own q), some (D.int (cols.length : Int)), some (D.own r)])) r = some (.l ((List.range goal.length).map fun i => lowD (firstRow cols goal i))) := by
          rw [muSet_ne (Ne.symm pr), muSet_ne rq]; exact rm
        refine ⟨_, asQ_own rm3, (List.range goal.length).map fun i => intsD (firstRow cols goal i), ?_, ?_, ?_, cols.length + goal.length + 1, ?_, ?_⟩
        · rw [List.map_map, List.map_map]; rfl
        · intro z
          have : goal.length = 0 := by
            have z2 := congrArg List.length z
            rw [List.length_map, List.length_range] at z2
            exact z2
          omega
        · simp; omega
        · intro l hlm
          obtain ⟨i, _, rfl⟩ := List.mem_map.mp hlm
          simp [hl]
        · refine lcW_map (List.range (cols.length + goal.length + 1)) (colD ((List.range goal.length).map fun i => intsD (firstRow cols goal i))) (fun j => .int ((List.range goal.length).map fun i => (firstRow cols goal i).getD j 0).sum) (Src.zn (by rw [List.map_map, List.map_map]; rfl)) (by rw [List.length_range]; omega) (fun j hj kt kf h1 => ?_) ?_
          · have hj := List.mem_range.mp hj
            have e : colD ((List.range goal.length).map fun i => intsD (firstRow cols goal i)) j = .tup (intsD ((List.range goal.length).map fun i => (firstRow cols goal i).getD j 0)) := by
              unfold colD
              rw [List.map_map]
              congr 1
              show _ = List.map _ (List.map _ _)
              rw [List.map_map]
              refine List.map_congr_left fun i hi => ?_
              have : j < (firstRow cols goal i).length := by rw [hl]; exact hj
              simp [List.getElem?_eq_getElem this]
            rw [e]
            simp [-asQ, -asL, -List.map_map, wipeD]
            refine ⟨_, rfl, ?_⟩
            exact h1
          · simp [-asQ, -asL, -List.map_map, muSet_same, muSet_set, putD]
            refine hk _ q ⟨Ne.symm pq, ⟨.own r, ?_, ?_, (fun z => by cases z; exact pr rfl), (fun z => by cases z; exact rq rfl)⟩, ?_⟩ ?_ fun b hb h1 h2 => ?_
            · rw [muSet_same, Sx.units_bas (cols_units cols goal), costs_init]
              simp [lowD, intsD]
            · refine (asL_own (ds := (List.range goal.length).map fun i => lowD (firstRow cols goal i)) (by rw [muSet_ne (Ne.symm pr), muSet_ne rq]; exact rm)).trans ?_
              congr 1
              rw [rowsOf, List.map_map]
              refine List.map_congr_left fun i hi => ?_
              show _ = lowD (rowOf _ _ _ _ i)
              rw [row_init cols goal (List.mem_range.mp hi)]
            · rw [muSet_ne (Ne.symm pq), muSet_same, helds_init, intsD, List.map_map]
              rfl
            · by_cases z : q = dx
              · exact .inr z
              · exact .inl ((m3' q (Ne.symm pq) z (Ne.symm rq)).symm.trans hq)
            · have b1 : b ≠ q := fun z => by
                subst z
                by_cases z2 : b = r
                · exact rq z2.symm
                · rw [m3' b h1 h2 z2] at hq; exact hb hq
              have b2 : b ≠ r := fun z => by subst z; exact hb hr
              rw [muSet_ne h1, muSet_ne b1]
              exact m3' b h1 h2 b2
end
end K05


set_option Elab.async false
set_option linter.all false
set_option maxRecDepth 100000
set_option maxHeartbeats 4000000
namespace K05
open PySem PySem.Spec PyProof.Rows L2 SlX DL
open Sx (Vec dd tt cost hset Good Units Ratio bnd sumN)
/-! what the last tableau tells -/
section
variable {m many : Nat} {A : Nat → Vec} {h : Nat → Nat}
/-- the number of column j after k rows -/
def numK (m many : Nat) (A : Nat → Vec) (h : Nat → Nat) (k j : Nat) : Int := sumN k fun l => if h l = j then tt m A h l (many + m) else 0
theorem num_zero (g : Good m many A h) {k : Nat} (hk : k < m) : numK m many A h k (h k) = 0 := Sx.sumN_eq_zero fun l hl => by
  rw [if_neg]
  intro e
  have := Sx.held_inj g.pos (k := l) (l := k) (by omega) hk e
  omega
theorem num_succ (k j : Nat) : numK m many A h (k + 1) j = numK m many A h k j + if h k = j then tt m A h k (many + m) else 0 := rfl
theorem num_set (g : Good m many A h) {k : Nat} (hk : k < m) (j : Nat) : numK m many A h (k + 1) j = if j = h k then tt m A h k (many + m) else numK m many A h k j := by
  rw [num_succ]
  by_cases e : j = h k
  · subst e; rw [if_pos rfl, if_pos rfl, num_zero g hk]; omega
  · rw [if_neg e, if_neg (fun z => e z.symm)]; omega
theorem num_nonneg (g : Good m many A h) (j : Nat) : 0 ≤ numK m many A h m j := Sx.sumN_nonneg fun l hl => by
  split
  · exact g.feas l hl
  · omega
theorem num_made (g : Good m many A h) (hc : cost m many A h (many + m) ≤ 0) {i : Nat} (hi : i < m) : (sumN many fun j => numK m many A h m j * A j i) = dd m A h * A (many + m) i := by
  rw [Sx.made g hc i hi]
  have e : (fun j => numK m many A h m j * A j i) = fun j => sumN m fun l => if h l = j then tt m A h l (many + m) * A j i else 0 := by
    funext j
    unfold numK
    rw [Int.mul_comm, ← Sx.sumN_mul]
    refine Sx.sumN_congr fun l _ => ?_
    by_cases z : h l = j
    · rw [if_pos z, if_pos z, Int.mul_comm]
    · rw [if_neg z, if_neg z, Int.mul_zero]
  rw [e, Sx.sumN_swap]
  refine Sx.sumN_congr fun l hl => ?_
  by_cases z : h l < many
  · rw [if_pos z, Sx.sumN_one z (fun j hj hne => by rw [if_neg (fun q => hne q.symm)]), if_pos rfl]
  · rw [if_neg z]
    exact Sx.sumN_eq_zero fun j hj => by rw [if_neg]; omega
end
/-! signs -/
def sgnOf (x : Int) : Int := if x < 0 then -1 else 1
theorem sgn_sq (x : Int) : sgnOf x * sgnOf x = 1 := by unfold sgnOf; split <;> rfl
theorem sgn_mul_nonneg (x : Int) : 0 ≤ sgnOf x * x := by unfold sgnOf; split <;> omega
theorem sgn_abs (s x : Int) : (sgnOf s * x).natAbs = x.natAbs := by unfold sgnOf; split <;> omega
def turnBy (goal c : List Int) : List Int := (goal.zip c).map fun q => sgnOf q.1 * q.2
def dotL (xs ys : List Int) : Int := (List.zipWith (fun a b => a * b) xs ys).sum
theorem turn_len {goal c : List Int} (h : c.length = goal.length) : (turnBy goal c).length = goal.length := by simp [turnBy, h]
theorem turn_get {goal c : List Int} (h : c.length = goal.length) {i : Nat} (hi : i < goal.length) : (turnBy goal c).getD i 0 = sgnOf (goal.getD i 0) * c.getD i 0 := by
  have hi2 : i < c.length := by omega
  have hz : i < (goal.zip c).length := by rw [List.length_zip]; omega
  simp [turnBy, List.getElem?_eq_getElem hi, List.getElem?_eq_getElem hi2, List.getElem?_eq_getElem hz, List.getElem_zip]
theorem dot_sum : ∀ {xs ys : List Int}, xs.length = ys.length → dotL xs ys = sumN xs.length fun i => xs.getD i 0 * ys.getD i 0 := by
  intro xs ys e
  have h1 : dotL xs ys = ((List.range xs.length).map fun i => xs.getD i 0 * ys.getD i 0).sum := by
    unfold dotL
    congr 1
    apply List.ext_getElem
    · simp [e]
    · intro i h1 h2
      have hi : i < xs.length := by simpa using h2
      have hi2 : i < ys.length := by omega
      simp [List.getElem?_eq_getElem hi, List.getElem?_eq_getElem hi2]
  rw [h1, sumN_list]
/-! the two answers -/
section
variable {cols : List (List Int)} {goal : List Int} {h : Nat → Nat}
abbrev turned (goal : List Int) (cols : List (List Int)) : List (List Int) := cols.map (turnBy goal)
/-- the form that bars the goal -/
def formOf (cols : List (List Int)) (goal : List Int) (h : Nat → Nat) : List Int := (List.range goal.length).map fun i => sgnOf (goal.getD i 0) * cost goal.length cols.length (colsOf (turned goal cols) (turnBy goal goal)) h (cols.length + i)
theorem col_at {j i : Nat} (hj : j < cols.length) (hc : ∀ c ∈ cols, c.length = goal.length) (hi : i < goal.length) : colsOf (turned goal cols) (turnBy goal goal) j i = sgnOf (goal.getD i 0) * (cols.getD j []).getD i 0 := by
  unfold colsOf
  rw [if_pos (by simpa using hj)]
  have hm := hc cols[j] (List.getElem_mem hj)
  rw [show (turned goal cols).getD j [] = turnBy goal cols[j] by simp [List.getElem?_eq_getElem hj], turn_get hm hi]
  simp [List.getElem?_eq_getElem hj]
theorem goal_at {i : Nat} (hi : i < goal.length) : colsOf (turned goal cols) (turnBy goal goal) (cols.length + goal.length) i = sgnOf (goal.getD i 0) * goal.getD i 0 := by
  unfold colsOf
  rw [if_neg (by simp), if_neg (by simp [turnBy]), turn_get rfl hi]
theorem un : Units goal.length cols.length (colsOf (turned goal cols) (turnBy goal goal)) := by
  have := cols_units (turned goal cols) (turnBy goal goal)
  simpa [turnBy] using this
theorem form_col (hc : ∀ c ∈ cols, c.length = goal.length) {j : Nat} (hj : j < cols.length) : dotL (formOf cols goal h) (cols.getD j []) = cost goal.length cols.length (colsOf (turned goal cols) (turnBy goal goal)) h j := by
  have hm : (cols.getD j []).length = goal.length := by
    have := hc cols[j] (List.getElem_mem hj)
    simpa [List.getElem?_eq_getElem hj] using this
  have hl : (formOf cols goal h).length = goal.length := by simp [formOf]
  rw [dot_sum (by rw [hl, hm]), Sx.cost_units un, hl]
  refine Sx.sumN_congr fun i hi => ?_
  rw [col_at hj hc hi]
  have : (formOf cols goal h).getD i 0 = sgnOf (goal.getD i 0) * cost goal.length cols.length (colsOf (turned goal cols) (turnBy goal goal)) h (cols.length + i) := by
    simp [formOf, hi]
  rw [this, Int.mul_assoc, Int.mul_assoc, Int.mul_comm (cost _ _ _ _ _)]
theorem form_goal : dotL (formOf cols goal h) goal = cost goal.length cols.length (colsOf (turned goal cols) (turnBy goal goal)) h (cols.length + goal.length) := by
  have hl : (formOf cols goal h).length = goal.length := by simp [formOf]
  rw [dot_sum hl, Sx.cost_units un, hl]
  refine Sx.sumN_congr fun i hi => ?_
  rw [goal_at hi]
  have : (formOf cols goal h).getD i 0 = sgnOf (goal.getD i 0) * cost goal.length cols.length (colsOf (turned goal cols) (turnBy goal goal)) h (cols.length + i) := by
    simp [formOf, hi]
  rw [this, Int.mul_assoc, Int.mul_assoc, Int.mul_comm (cost _ _ _ _ _)]
/-- the numbers that make the goal -/
theorem nums_made (g : Good goal.length cols.length (colsOf (turned goal cols) (turnBy goal goal)) h) (hc : ∀ c ∈ cols, c.length = goal.length) (hz : cost goal.length cols.length (colsOf (turned goal cols) (turnBy goal goal)) h (cols.length + goal.length) ≤ 0) {i : Nat} (hi : i < goal.length) :
    (sumN cols.length fun j => numK goal.length cols.length (colsOf (turned goal cols) (turnBy goal goal)) h goal.length j * (cols.getD j []).getD i 0) = dd goal.length (colsOf (turned goal cols) (turnBy goal goal)) h * goal.getD i 0 := by
  have e := num_made g hz hi
  rw [goal_at hi] at e
  have e2 : (sumN cols.length fun j => numK goal.length cols.length (colsOf (turned goal cols) (turnBy goal goal)) h goal.length j * colsOf (turned goal cols) (turnBy goal goal) j i) = sgnOf (goal.getD i 0) * sumN cols.length fun j => numK goal.length cols.length (colsOf (turned goal cols) (turnBy goal goal)) h goal.length j * (cols.getD j []).getD i 0 := by
    rw [← Sx.sumN_mul]
    refine Sx.sumN_congr fun j hj => ?_
    rw [col_at hj hc hi, ← Int.mul_assoc, Int.mul_comm (numK _ _ _ _ _ _), Int.mul_assoc]
  rw [e2] at e
  have e3 := congrArg (fun z => sgnOf (goal.getD i 0) * z) e
  rw [← Int.mul_assoc, sgn_sq, Int.one_mul] at e3
  rw [e3, ← Int.mul_assoc, Int.mul_comm (sgnOf _) (dd _ _ _), Int.mul_assoc, ← Int.mul_assoc (sgnOf _), sgn_sq, Int.one_mul]
end
end K05


set_option Elab.async false
set_option linter.all false
set_option maxRecDepth 100000
set_option maxHeartbeats 4000000
namespace K05
open PySem PySem.Spec PyProof.Rows L2 SlX DL
open Sx (Vec dd tt cost hset Good Units Ratio bnd sumN)
def d_made_or_form : DSp := fun ds μ k => ∃ cols goal, ds = [.lst (cols.map rowD), rowD goal] ∧ (∀ c ∈ cols, c.length = goal.length) ∧ 0 < goal.length ∧ cols.length ≤ 1000 ∧ goal.length ≤ 1000 ∧ (∀ c ∈ cols, ∀ x ∈ c, Sz x) ∧ (∀ x ∈ goal, Sz x) ∧
  Fits goal.length cols.length (colsOf (turned goal cols) (turnBy goal goal)) ∧
  (∀ f : List Int, f.length = goal.length → (∀ x ∈ f, Sz x) → (∀ c ∈ cols, dotL f c ≤ 0) → 0 < dotL f goal → k (.tup [.non, rowD f]) μ) ∧
  (∀ (ns : List Int) (b : Int), ns.length = cols.length → (∀ x ∈ ns, 0 ≤ x ∧ Sz x) → 0 < b → Sz b → (∀ i, i < goal.length → (sumN cols.length fun j => ns.getD j 0 * (cols.getD j []).getD i 0) = b * goal.getD i 0) → k (.tup [rowD ns, .int b]) μ)
theorem cut_costs {m many : Nat} {A : Nat → Vec} {h : Nat → Nat} : DL.cutD (intsD (costs m many A h)) (some ((many : Nat) : Int)) (some (-1)) = (List.range m).map fun i => D.int (cost m many A h (many + i)) := by
  have hl : (intsD (costs m many A h)).length = many + m + 1 := by simp [costs]
  have s1 : HT.sIx (many + m + 1) 0 (some ((many : Nat) : Int)) = many := by
    unfold HT.sIx
    simp
    rw [if_neg (by omega)]
    omega
  have s2 : HT.sIx (many + m + 1) (many + m + 1) (some (-1)) = many + m := by
    unfold HT.sIx
    simp
    omega
  unfold DL.cutD
  rw [hl, s1, s2]
  apply List.ext_getElem
  · simp [costs]
    omega
  · intro i h1 h2
    simp [costs]
theorem num_sz {m many : Nat} {A : Nat → Vec} {h : Nat → Nat} (g : Good m many A h) (f : Fits m many A) (j : Nat) : ∀ k, k ≤ m → Sz (numK m many A h k j)
  | 0, _ => by show (0 : Int).natAbs < _; exact Nat.two_pow_pos _
  | k + 1, hk => by
    rw [num_set g (by omega)]
    split
    · exact tt_sz g f (Nat.le_refl _)
    · exact num_sz g f j k (by omega)
theorem nums_set {m many n : Nat} {A : Nat → Vec} {h : Nat → Nat} (g : Good m many A h) {k : Nat} (hk : k < m) : ((List.range n).map fun j => D.int (numK m many A h k j)).set (h k) (.int (tt m A h k (many + m))) = (List.range n).map fun j => D.int (numK m many A h (k + 1) j) := by
  apply List.ext_getElem
  · simp
  · intro j h1 h2
    rw [List.getElem_set]
    by_cases e : h k = j
    · rw [if_pos e]; simp [num_set g hk, e]
    · rw [if_neg e]; simp [num_set g hk, Ne.symm e]
theorem nums_keep {m many n : Nat} {A : Nat → Vec} {h : Nat → Nat} (g : Good m many A h) {k : Nat} (hk : k < m) (hn : n ≤ h k) : ((List.range n).map fun j => D.int (numK m many A h k j)) = (List.range n).map fun j => D.int (numK m many A h (k + 1) j) := by
  refine List.map_congr_left fun j hj => ?_
  have := List.mem_range.mp hj
  rw [num_set g hk, if_neg (by omega)]
theorem sgn_sz (x : Int) : Sz (sgnOf x) := by
  unfold sgnOf Sz
  split
  · exact Nat.one_lt_two_pow (by decide)
  · exact Nat.one_lt_two_pow (by decide)
/-- signs by places -/
theorem src_signs {μ : Mu} {x y : D} {goal c : List Int} (h1 : asL μ x = some (goal.map fun g => D.int (sgnOf g))) (h2 : asQ μ y = some (intsD c)) : Src (itZ x y (goal.map fun g => D.int (sgnOf g)) (intsD c)) μ ((goal.zip c).map fun q => D.tup [.int (sgnOf q.1), .int q.2]) := by
  have := Src.z (μ := μ) (asQ_of h1) h2
  have e : (((goal.map fun g => D.int (sgnOf g)).zip (intsD c)).map fun q => D.tup [q.1, q.2]) = (goal.zip c).map fun q => D.tup [.int (sgnOf q.1), .int q.2] := by
    rw [List.zip_map, List.map_map]; rfl
  rw [e] at this
  exact this
section
variable {P : Program} {w : World} {K : PySem.W.Frag} {mg : Str → Option Value} {base : Heap} {C : Addr}
theorem ok_made_or_form (a : At K mg "made_or_form" s_made_or_form) (M : MakD P w K mg base 12 "Tableau" C (spOf K (d_Tableau___init__ C))) (P_work : MethD P w K mg base C "work" 11 (d_Tableau_work C)) (T : Txt K mg C) : FnD P w K mg base "made_or_form" 14 d_made_or_form := by
  refine fnD_ofW a (b_made_or_form M P_work T) sc_made_or_form (fun _ _ _ _ _ _ us hl => match us, hl with | [_, _], _ => rfl) ?_ ?_
  · rintro ds μ k ⟨_, _, rfl, _⟩; rfl
  · rintro ds μ k ⟨cols, goal, rfl, hc, hg0, hn, hm, sc, sg, ft, kf, kn⟩
    simp [-asQ, -asL, -List.map_map, r_made_or_form]
    refine lcW_map goal D.int (fun x => .int (sgnOf x)) (.l _) (by omega) (fun x hx kt kf' h1 => ?_) ?_
    · simp [wipeD]
      by_cases z : x < 0
      · rw [if_pos z]; simpa [sgnOf, z] using h1
      · rw [if_neg z]; simpa [sgnOf, z] using h1
    · simp [-asQ, -asL, -List.map_map, asL_lst, asQ_lst]
      refine lcW_map cols rowD (fun c => rowD (turnBy goal c)) (.l _) (by omega) (fun c hcm kt kf' h1 => ?_) ?_
      · simp [-asQ, -asL, -List.map_map, wipeD, asL_lst, asQ_lst, asQ_tup]
        refine lcW_map (goal.zip c) (fun q => .tup [.int (sgnOf q.1), .int q.2]) (fun q => .int (sgnOf q.1 * q.2)) (src_signs rfl rfl) (by rw [List.length_zip]; omega) (fun z hz kt2 kf2 h2 => ?_) ?_
        · have m1 := List.of_mem_zip hz
          have c1 := sz_mul (sgn_sz z.1) (sc c hcm z.2 m1.2)
          simp [-asQ, -asL, -List.map_map, wipeD, c1]
          exact h2
        · have e : rowD (turnBy goal c) = .tup ((goal.zip c).map fun q => D.int (sgnOf q.1 * q.2)) := by
            simp [turnBy]
          rw [e] at h1
          exact h1
      · refine ⟨_, asQ_tup, ?_⟩
        refine lcW_map (goal.zip goal) (fun q => .tup [.int (sgnOf q.1), .int q.2]) (fun q => .int (sgnOf q.1 * q.2)) (src_signs rfl rfl) (by rw [List.length_zip]; omega) (fun z hz kt2 kf2 h2 => ?_) ?_
        · have m1 := List.of_mem_zip hz
          have c1 := sz_mul (sgn_sz z.1) (sg z.2 m1.2)
          simp [-asQ, -asL, -List.map_map, wipeD, c1]
          exact h2
        · intro p dx hp hd hne
          have hl2 : (turnBy goal goal).length = goal.length := turn_len rfl
          have hl3 : (turned goal cols).length = cols.length := by simp
          have eg : D.lst ((goal.zip goal).map fun q => D.int (sgnOf q.1 * q.2)) = lowD (turnBy goal goal) := by
            simp [turnBy]
          have ec : D.lst (cols.map fun c => rowD (turnBy goal c)) = .lst ((turned goal cols).map rowD) := by
            simp [turned]
          rw [eg, ec]
          refine ⟨p, dx, turned goal cols, turnBy goal goal, rfl, muSet_same, by rw [muSet_ne hne, muSet_same], fun c hcm => ?_, by rw [hl2]; exact hg0, fun x hx => ?_, by rw [hl2, hl3]; exact ft, fun μ1 q tb hq hf1 => ⟨rfl, ?_⟩⟩
          · obtain ⟨c', hc', rfl⟩ := List.mem_map.mp hcm
            rw [turn_len (hc c' hc'), hl2]
          · obtain ⟨z, hz, rfl⟩ := List.mem_map.mp hx
            have : z.1 = z.2 := by
              obtain ⟨j, hj, rfl⟩ := List.getElem_of_mem hz
              simp
            rw [this]
            exact sgn_mul_nonneg _
          · rw [hl2, hl3] at tb
            obtain ⟨rd, e1, _, _, _⟩ := tb.ex
            refine ⟨by rw [e1]; exact ⟨rfl, rfl⟩, p, q, goal.length, cols.length, _, _, rfl, tb, ?_, un, ft, fun μ2 h tb2 g2 c2 sm => ?_⟩
            · refine Sx.good_init un fun k hk => ?_
              rw [goal_at hk]
              exact sgn_mul_nonneg _
            · obtain ⟨rd2, e2, e4, _, _⟩ := tb2.ex
              have last : atI (intsD (costs goal.length cols.length (colsOf (turned goal cols) (turnBy goal goal)) h)) (-1) = some (.int (cost goal.length cols.length (colsOf (turned goal cols) (turnBy goal goal)) h (cols.length + goal.length))) := by
                have hl : (intsD (costs goal.length cols.length (colsOf (turned goal cols) (turnBy goal goal)) h)).length = cols.length + goal.length + 1 := by simp [costs]
                unfold atI ixN
                rw [hl, if_neg (by omega), if_pos (by omega)]
                have : ((-1 : Int) + ((cols.length + goal.length + 1 : Nat) : Int)).toNat = cols.length + goal.length := by omega
                rw [this]
                simp [costs]
              have mp : μ p = none := hp
              have md : μ dx = none := hd
              have sub : DL.Sub μ μ2 := fun b ds hb => by
                have b1 : b ≠ p := fun z => by subst z; rw [mp] at hb; cases hb
                have b2 : b ≠ dx := fun z => by subst z; rw [md] at hb; cases hb
                have b0 : muSet (muSet μ dx (.ox p)) p (.oi C dx) b = some ds := by rw [muSet_ne b1, muSet_ne b2]; exact hb
                have b3 : b ≠ q := fun z => by
                  subst z
                  rcases hq with z | z
                  · rw [b0] at z; cases z
                  · exact b2 z
                rw [sm b b1 b3, hf1 b (by rw [b0]; simp) b1 b2]
                exact b0
              simp [-asQ, -asL, -List.map_map, e2, asQ_lst, last]
              split
              · rename_i hpos
                refine ⟨_, asL_lst, ?_⟩
                rw [cut_costs]
                refine lcW_map (List.range goal.length) (fun i => .tup [.int (sgnOf (goal.getD i 0)), .int (cost goal.length cols.length (colsOf (turned goal cols) (turnBy goal goal)) h (cols.length + i))]) (fun i => .int (sgnOf (goal.getD i 0) * cost goal.length cols.length (colsOf (turned goal cols) (turnBy goal goal)) h (cols.length + i))) ?_ (by rw [List.length_range]; omega) (fun i hi kt2 kf2 h2 => ?_) ?_
                · have := Src.z (μ := μ2) (x := .lst (goal.map fun g => D.int (sgnOf g))) (y := .lst ((List.range goal.length).map fun i => D.int (cost goal.length cols.length (colsOf (turned goal cols) (turnBy goal goal)) h (cols.length + i)))) asQ_lst asQ_lst
                  have e : (((goal.map fun g => D.int (sgnOf g)).zip ((List.range goal.length).map fun i => D.int (cost goal.length cols.length (colsOf (turned goal cols) (turnBy goal goal)) h (cols.length + i)))).map fun q => D.tup [q.1, q.2]) = (List.range goal.length).map fun i => D.tup [.int (sgnOf (goal.getD i 0)), .int (cost goal.length cols.length (colsOf (turned goal cols) (turnBy goal goal)) h (cols.length + i))] := by
                    apply List.ext_getElem
                    · simp
                    · intro j h1 h2
                      have hj : j < goal.length := by simpa using h2
                      simp [List.getElem?_eq_getElem hj]
                  rw [e] at this
                  exact this
                · have hi := List.mem_range.mp hi
                  have c1 := sz_mul (sgn_sz (goal.getD i 0)) (cost_sz g2 ft (j := cols.length + i) (by omega))
                  simp [-asQ, -asL, -List.map_map, wipeD] at c1 h2 ⊢
                  exact ⟨c1, h2⟩
                · have e : D.tup ((List.range goal.length).map fun i => D.int (sgnOf (goal.getD i 0) * cost goal.length cols.length (colsOf (turned goal cols) (turnBy goal goal)) h (cols.length + i))) = rowD (formOf cols goal h) := by
                    simp [formOf]
                  simp [-asQ, -asL, -List.map_map] at e ⊢
                  refine ⟨μ, sub, ?_⟩
                  rw [e]
                  refine kf _ (by simp [formOf]) (fun x hx => ?_) (fun c hcm => ?_) ?_
                  · obtain ⟨i, hi, rfl⟩ := List.mem_map.mp hx
                    have hi := List.mem_range.mp hi
                    have := cost_sz g2 ft (j := cols.length + i) (by omega)
                    unfold Sz at this ⊢
                    rw [sgn_abs]
                    exact this
                  · obtain ⟨j, hj, rfl⟩ := List.getElem_of_mem hcm
                    have := form_col (h := h) hc hj
                    rw [show cols.getD j [] = cols[j] by simp [List.getElem?_eq_getElem hj]] at this
                    rw [this]
                    exact c2 j hj
                  · rw [form_goal]; exact hpos
              · rename_i hpos
                refine ⟨by omega, fun nl hnl => ?_⟩
                have pn : p ≠ nl := fun z => by subst z; rw [e2] at hnl; cases hnl
                have qn : q ≠ nl := fun z => by subst z; rw [tb2.held] at hnl; cases hnl
                have rn : rd2 ≠ .own nl := fun z => by
                  subst z
                  have := lsAt_iff.mp e4
                  rw [hnl] at this; cases this
                obtain ⟨Inv, hInv⟩ : ∃ Inv : Nat → Sl → Mu → Prop, Inv = fun i δ μ' => μ' = muSet μ2 nl (.l ((List.range cols.length).map fun j => D.int (numK goal.length cols.length (colsOf (turned goal cols) (turnBy goal goal)) h i j))) ∧ ∃ x y, δ = [some (.lst (cols.map rowD)), some (rowD goal), some (.lst (goal.map fun x => D.int (sgnOf x))), some (.own p), some (.own nl), x, y, none, none, none, none] := ⟨_, rfl⟩
                have rdr : ∀ v, asQ (muSet μ2 nl v) rd2 = some ((rowsOf goal.length cols.length (colsOf (turned goal cols) (turnBy goal goal)) h).map lowD) := fun v => by
                  cases rd2 with
                  | own z =>
                    refine asQ_own ?_
                    rw [muSet_ne (fun w => rn (by rw [w]))]
                    exact lsAt_iff.mp e4
                  | _ => exact asQ_of e4
                have hqr : ∀ v, asQ (muSet μ2 nl v) (.own q) = some (intsD (helds goal.length h)) := fun v => asQ_own (by rw [muSet_ne qn]; exact tb2.held)
                refine for_inv (List.range goal.length) (fun i => .tup [.int ((h i : Nat) : Int), lowD (rowOf goal.length cols.length (colsOf (turned goal cols) (turnBy goal goal)) h i)]) Inv (fun k' hk' => ?_) (fun i x δ μ' hx hI => ?_) (fun δ μ' hI => ?_)
                · simp [-asQ, -asL, -List.map_map, muSet_ne pn, e2]
                  refine ⟨_, hqr _, _, rdr _, hk' _ _ ?_ ?_ (fun i δ μ' hI => ?_)⟩
                  · have := Src.z (hqr (Cnt.l (List.replicate cols.length (D.int 0)))) (rdr (Cnt.l (List.replicate cols.length (D.int 0))))
                    have e : (((intsD (helds goal.length h)).zip ((rowsOf goal.length cols.length (colsOf (turned goal cols) (turnBy goal goal)) h).map lowD)).map fun q => D.tup [q.1, q.2]) = (List.range goal.length).map fun i => D.tup [.int ((h i : Nat) : Int), lowD (rowOf goal.length cols.length (colsOf (turned goal cols) (turnBy goal goal)) h i)] := by
                      apply List.ext_getElem
                      · simp [helds, rowsOf]
                      · intro j h1 h2
                        simp [helds, rowsOf]
                    rw [e] at this
                    exact this
                  · rw [hInv]
                    refine ⟨?_, none, none, rfl⟩
                    congr 2
                    apply List.ext_getElem
                    · simp
                    · intro j h1 h2
                      simp [numK, sumN]
                  · rw [hInv] at hI
                    obtain ⟨rfl, _⟩ := hI
                    exact ⟨hqr _, rdr _⟩
                · rw [hInv] at hI
                  obtain ⟨rfl, x', y', rfl⟩ := hI
                  have hi : i < goal.length ∧ x = i := by
                    obtain ⟨z1, z2⟩ := List.getElem?_eq_some_iff.mp hx
                    simp at z1 z2
                    exact ⟨z1, z2.symm⟩
                  obtain ⟨hi, rfl⟩ := hi
                  have hll : ((List.range cols.length).map fun j => D.int (numK goal.length cols.length (colsOf (turned goal cols) (turnBy goal goal)) h x j)).length = cols.length := by simp
                  simp [-asQ, -asL, -List.map_map, asQ_lst, at_last, muSet_same, muSet_set]
                  split
                  · rename_i z
                    refine ⟨h x, by unfold ixN; rw [if_pos (by omega), if_pos (by omega)]; simp, ?_⟩
                    rw [hInv]
                    exact ⟨by rw [nums_set g2 hi], _, _, rfl⟩
                  · rename_i z
                    rw [hInv]
                    exact ⟨by rw [nums_keep g2 hi (by omega)], _, _, rfl⟩
                · rw [hInv] at hI
                  obtain ⟨rfl, x', y', rfl⟩ := hI
                  rw [List.length_range]
                  simp [-asQ, -asL, -List.map_map, muSet_ne pn, e2, muSet_same]
                  refine ⟨_, asQ_own muSet_same, μ, fun b ds hb => ?_, ?_⟩
                  · have := sub b ds hb
                    rw [muSet_ne (fun z => by subst z; rw [hnl] at this; cases this)]
                    exact this
                  · have e : D.tup ((List.range cols.length).map fun j => D.int (numK goal.length cols.length (colsOf (turned goal cols) (turnBy goal goal)) h goal.length j)) = rowD ((List.range cols.length).map fun j => numK goal.length cols.length (colsOf (turned goal cols) (turnBy goal goal)) h goal.length j) := by
                      simp
                    rw [e]
                    refine kn _ _ (by simp) (fun x hx => ?_) g2.pos (dd_sz g2 ft) (fun i hi => ?_)
                    · obtain ⟨j, _, rfl⟩ := List.mem_map.mp hx
                      exact ⟨num_nonneg g2 j, num_sz g2 ft j _ (Nat.le_refl _)⟩
                    · rw [← nums_made g2 hc (by omega) hi]
                      refine Sx.sumN_congr fun j hj => ?_
                      simp [hj]
end
end K05


set_option Elab.async false
set_option linter.all false
set_option maxRecDepth 100000
set_option maxHeartbeats 4000000
namespace K05
open PySem PySem.Spec PyProof.Rows L2 SlX DL
open Sx (Vec dd tt cost hset Good Units Ratio bnd sumN)
/-! sizes -/
def Sm (b : Nat) (x : Int) : Prop := x.natAbs < 2 ^ b
theorem Sm.mono {a b : Nat} {x : Int} (h : Sm a x) (l : a ≤ b) : Sm b x := Nat.lt_of_lt_of_le h (Nat.pow_le_pow_right (by decide) l)
theorem sm_mulW {a b : Nat} {x y : Int} (hx : Sm a x) (hy : Sm b y) (ha : 0 < a) (hb : 0 < b) (h : a + b ≤ 1000000) : CMulW x y := by
  have h1 := PySem.Flt.log2_lt_of ha hx
  have h2 := PySem.Flt.log2_lt_of hb hy
  unfold CMulW
  omega
/-! any values -/
@[simp] theorem kit_NoneType_int : kitB "NoneType" "int" = some false := by decide +kernel
@[simp] theorem kit_NoneType_bool : kitB "NoneType" "bool" = some false := by decide +kernel
@[simp] theorem kit_NoneType_tuple : kitB "NoneType" "tuple" = some false := by decide +kernel
@[simp] theorem kit_NoneType_str : kitB "NoneType" "str" = some false := by decide +kernel
@[simp] theorem kit_bool_int : kitB "bool" "int" = some true := by decide +kernel
@[simp] theorem kit_bool_bool : kitB "bool" "bool" = some true := by decide +kernel
@[simp] theorem kit_bool_tuple : kitB "bool" "tuple" = some false := by decide +kernel
@[simp] theorem kit_bool_str : kitB "bool" "str" = some false := by decide +kernel
@[simp] theorem kit_int_int : kitB "int" "int" = some true := by decide +kernel
@[simp] theorem kit_int_bool : kitB "int" "bool" = some false := by decide +kernel
@[simp] theorem kit_int_tuple : kitB "int" "tuple" = some false := by decide +kernel
@[simp] theorem kit_int_str : kitB "int" "str" = some false := by decide +kernel
@[simp] theorem kit_str_int : kitB "str" "int" = some false := by decide +kernel
@[simp] theorem kit_str_bool : kitB "str" "bool" = some false := by decide +kernel
@[simp] theorem kit_str_tuple : kitB "str" "tuple" = some false := by decide +kernel
@[simp] theorem kit_str_str : kitB "str" "str" = some true := by decide +kernel
@[simp] theorem kit_tuple_int : kitB "tuple" "int" = some false := by decide +kernel
@[simp] theorem kit_tuple_bool : kitB "tuple" "bool" = some false := by decide +kernel
@[simp] theorem kit_tuple_tuple : kitB "tuple" "tuple" = some true := by decide +kernel
@[simp] theorem kit_tuple_str : kitB "tuple" "str" = some false := by decide +kernel
@[simp] theorem kit_list_int : kitB "list" "int" = some false := by decide +kernel
@[simp] theorem kit_list_bool : kitB "list" "bool" = some false := by decide +kernel
@[simp] theorem kit_list_tuple : kitB "list" "tuple" = some false := by decide +kernel
@[simp] theorem kit_list_str : kitB "list" "str" = some false := by decide +kernel
def Plain : D → Bool
  | .non => true
  | .bl _ => true
  | .int _ => true
  | .str _ => true
  | .tup _ => true
  | .lst _ => true
  | _ => false
/-- values of ints below 2 ** b, of at most L members, n deep -/
def Pd (b L : Nat) : Nat → D → Prop
  | _, .non => True
  | _, .bl _ => True
  | _, .int i => Sm b i
  | _, .str s => PyData.strOk s = true ∧ s.length ≤ 4000
  | n + 1, .tup ds => ds.length ≤ L ∧ ∀ d ∈ ds, Pd b L n d
  | n + 1, .lst ds => ds.length ≤ L ∧ ∀ d ∈ ds, Pd b L n d
  | _, _ => False
theorem Pd.plain {b L n : Nat} {v : D} (h : Pd b L n v) : Plain v = true := by
  cases v <;> first | rfl | (cases n <;> exact h.elim)
theorem Pd.mono {b b' L L' : Nat} (hb : b ≤ b') (hL : L ≤ L') : ∀ {n m : Nat} {v : D}, n ≤ m → Pd b L n v → Pd b' L' m v
  | n, m, .non, _, _ => by cases m <;> trivial
  | n, m, .bl _, _, _ => by cases m <;> trivial
  | n, m, .int i, _, h => by
    have h : Sm b i := by cases n <;> exact h
    cases m <;> exact h.mono hb
  | n, m, .str s, _, h => by
    have h : PyData.strOk s = true ∧ s.length ≤ 4000 := by cases n <;> exact h
    cases m <;> exact h
  | 0, m, .tup ds, _, h => h.elim
  | n + 1, m, .tup ds, hn, h => by
    obtain ⟨k, rfl⟩ : ∃ k, m = k + 1 := ⟨m - 1, by omega⟩
    exact ⟨Nat.le_trans h.1 hL, fun d hd => Pd.mono hb hL (show n ≤ k by omega) (h.2 d hd)⟩
  | 0, m, .lst ds, _, h => h.elim
  | n + 1, m, .lst ds, hn, h => by
    obtain ⟨k, rfl⟩ : ∃ k, m = k + 1 := ⟨m - 1, by omega⟩
    exact ⟨Nat.le_trans h.1 hL, fun d hd => Pd.mono hb hL (show n ≤ k by omega) (h.2 d hd)⟩
  | 0, _, .own _, _, h => h.elim
  | _ + 1, _, .own _, _, h => h.elim
  | 0, _, .obj _ _, _, h => h.elim
  | _ + 1, _, .obj _ _, _, h => h.elim
  | 0, _, .scr _, _, h => h.elim
  | _ + 1, _, .scr _, _, h => h.elim
  | 0, _, .dk _ _, _, h => h.elim
  | _ + 1, _, .dk _ _, _, h => h.elim
  | 0, _, .dt _ _, _, h => h.elim
  | _ + 1, _, .dt _ _, _, h => h.elim
theorem Pd.row {b L : Nat} {ns : List Int} (hl : ns.length ≤ L) (h : ∀ x ∈ ns, Sm b x) (n : Nat) : Pd b L (n + 1) (rowD ns) := by
  refine ⟨by simpa using hl, fun d hd => ?_⟩
  obtain ⟨x, hx, rfl⟩ := List.mem_map.mp hd
  cases n <;> exact h x hx
def isInt : D → Bool
  | .int _ => true
  | _ => false
def intsOf : List D → Option (List Int)
  | [] => some []
  | .int i :: ds => (intsOf ds).map (i :: ·)
  | _ => none
theorem intsOf_map : ∀ ns : List Int, intsOf (ns.map D.int) = some ns
  | [] => rfl
  | n :: ns => by simp [intsOf, intsOf_map ns]
theorem intsOf_some : ∀ {ds : List D} {ns : List Int}, intsOf ds = some ns → ds = ns.map D.int
  | [], ns, h => by cases h; rfl
  | d :: ds, ns, h => by
    cases d with
    | int i =>
      simp only [intsOf] at h
      cases q : intsOf ds with
      | none => rw [q] at h; cases h
      | some ms =>
        rw [q] at h
        cases h
        rw [intsOf_some q]
        rfl
    | _ => cases h
theorem intsOf_all : ∀ ds : List D, (intsOf ds).isSome = ds.all isInt
  | [] => rfl
  | d :: ds => by
    cases d with
    | int i => simp [intsOf, isInt, ← intsOf_all ds]
    | _ => rfl
/-- the ints of a value that is a tuple of so many -/
def wrow (v : D) (n : Int) : Option (List Int) := match v with
  | .tup ds => if (ds.length : Int) = n then intsOf ds else none
  | _ => none
theorem wrow_some {v : D} {n : Int} {ns : List Int} (h : wrow v n = some ns) : v = rowD ns ∧ (ns.length : Int) = n := by
  cases v with
  | tup ds =>
    simp only [wrow] at h
    split at h
    · rename_i e
      have := intsOf_some h
      subst this
      exact ⟨rfl, by simpa using e⟩
    · cases h
  | _ => cases h
theorem wrow_row {ns : List Int} : wrow (rowD ns) ns.length = some ns := by simp [wrow, intsOf_map]
theorem Pd.ints {b L n : Nat} {ns : List Int} (h : Pd b L n (rowD ns)) : ns.length ≤ L ∧ ∀ x ∈ ns, Sm b x := by
  cases n with
  | zero => exact h.elim
  | succ n =>
    refine ⟨by simpa using h.1, fun x hx => ?_⟩
    have := h.2 (.int x) (List.mem_map.mpr ⟨x, hx, rfl⟩)
    cases n <;> exact this
/-! numbers and rows -/
def short (i : Int) : Bool := decide (-sixty < i) && decide (i < sixty)
def d_is_whole : DSp := fun ds μ k => ∃ v, ds = [v] ∧ Plain v = true ∧ k (.bl (isInt v)) μ
def d_is_short : DSp := fun ds μ k => ∃ i, ds = [.int i] ∧ k (.bl (short i)) μ
def d_are_wholes : DSp := fun ds μ k => ∃ v m, ds = [v, .int m] ∧ Plain v = true ∧ (∀ es, v = .tup es → es.length ≤ 1000000 ∧ ∀ d ∈ es, Plain d = true) ∧ k (.bl (wrow v m).isSome) μ
def d_less_in : DSp := fun ds μ k => ∃ xs ys, ds = [rowD xs, rowD ys] ∧ xs.length ≤ 1000000 ∧ k (rowD (List.zipWith (fun a b => a - b) xs ys)) μ
def d_dot_in : DSp := fun ds μ k => ∃ xs ys, ds = [rowD xs, rowD ys] ∧ xs.length ≤ 1000000 ∧ (∀ x ∈ xs, Sm 100000 x) ∧ (∀ y ∈ ys, Sm 100000 y) ∧ k (.int (dotL xs ys)) μ
def d_is_from : DSp := fun ds μ k => ∃ a b c, ds = [.int a, .int b, .int c] ∧ k (.bl (decide (b ≤ a) && decide (a ≤ c))) μ
def d_require_from : DSp := fun ds μ k => ∃ a b c, ds = [.int a, .int b, .int c] ∧ b ≤ a ∧ a ≤ c ∧ k .non μ
section
variable {P : Program} {w : World} {K : PySem.W.Frag} {mg : Str → Option Value} {base : Heap} {C : Addr}
abbrev s_is_whole : Stmt := topS 8
abbrev N_is_whole : List Str := ["value"]
theorem sc_is_whole : FnScope N_is_whole ["value"] (defScope s_is_whole) := ⟨rfl, rfl, rfl, by decide +kernel, rfl, by decide +kernel, by decide +kernel⟩
def r_is_whole : RS :=
  (rRet (rAndV (rIsiB "int" (rVar 0)) (rNotV (rIsiB "bool" (rVar 0)))))
theorem b_is_whole (T : Txt K mg C) : Body P w K mg base 0 "is_whole" s_is_whole N_is_whole (r_is_whole) := by
  refine fun f => ⟨_, fun cdv A outer s H E hr => ⟨(pss_one (ps_ret (pe_and (kb_call (kc_isi K) T.b_isinstance (pa_cons (pv 0) (pa_cons (kb_ty (T := "int") T.b_int) pa_nil))) (pe_one (pe_not (kb_call (kc_isi K) T.b_isinstance (pa_cons (pv 0) (pa_cons (kb_ty (T := "bool") T.b_bool) pa_nil)))))))),
    (okS_ret (okE_andV (okE_isi (okE_var 0)) (okE_notV (okE_isi (okE_var 0)))))⟩⟩

abbrev s_is_short : Stmt := topS 9
abbrev N_is_short : List Str := ["value"]
theorem sc_is_short : FnScope N_is_short ["value"] (defScope s_is_short) := ⟨rfl, rfl, rfl, by decide +kernel, rfl, by decide +kernel, by decide +kernel⟩
def r_is_short : RS :=
  (rRet (rAndV (rCall d_is_whole (rCons (rVar 0) rNil)) (rChain (oB (fun i j => decide (i < j))) (oB (fun i j => decide (i < j))) (rUn oNeg (rC (.int sixty))) (rVar 0) (rC (.int sixty)))))
theorem b_is_short (F_is_whole : FnD P w K mg base "is_whole" 1 d_is_whole) (T : Txt K mg C) : Body P w K mg base 1 "is_short" s_is_short N_is_short (r_is_short) := by
  refine fun f => ⟨_, fun cdv A outer s H E hr => ⟨(pss_one (ps_ret (pe_and (ke_call K F_is_whole hr (pa_cons (pv 0) pa_nil)) (pe_one (pe_chain op_lt op_lt (pe_un un_neg (ke_globI T.c_SIXTY)) (pv 0) (ke_globI T.c_SIXTY)))))),
    (okS_ret (okE_andV (okE_call (okA_cons (okE_var 0) okA_nil)) (okE_chain okB okB (okE_un okNeg (okE_C fun _ => .int _)) (okE_var 0) (okE_C fun _ => .int _))))⟩⟩

abbrev s_are_wholes : Stmt := topS 11
abbrev N_are_wholes : List Str := ["value", "many", "one"]
theorem sc_are_wholes : FnScope N_are_wholes ["value", "many"] (defScope s_are_wholes) := ⟨rfl, rfl, rfl, by decide +kernel, rfl, by decide +kernel, by decide +kernel⟩
def r_are_wholes : RS :=
  (rRet (rAndV (rIsiB "tuple" (rVar 0)) (rAndV (rOp oEq (rCB oLen (rCons (rVar 0) rNil)) (rVar 1)) (rCB oAll (rCons (rLc (fun δ μ k => (rIL (rVar 0)) δ μ k ∨ (rIT (rVar 0)) δ μ k) (rgName 2) rYes (rCall d_is_whole (rCons (rVar 2) rNil)) [2]) rNil)))))
theorem b_are_wholes (F_is_whole : FnD P w K mg base "is_whole" 1 d_is_whole) (T : Txt K mg C) : Body P w K mg base 2 "are_wholes" s_are_wholes N_are_wholes (r_are_wholes) := by
  refine fun f => ⟨_, fun cdv A outer s H E hr => ⟨(pss_one (ps_ret (pe_and (kb_call (kc_isi K) T.b_isinstance (pa_cons (pv 0) (pa_cons (kb_ty (T := "tuple") T.b_tuple) pa_nil))) (pe_and (pe_cmpR (ko_eqD K hr.units) (kb_call (kc_len K) T.b_len (pa_cons (pv 0) pa_nil)) (pv 1) (nomark _)) (pe_one (kb_call (kc_all K) T.b_all (pa_cons (pe_lc (own := [("one", 2)]) rfl sc_are_wholes.nd (pi_or (ki_list K (pv 0)) (ki_tup K (pv 0))) (blkOk_by (own := [("one", 2)]) (N := N_are_wholes) (sc := defScope s_are_wholes) (by decide +kernel)) (fun _ _ _ _ _ => (pg_name (i := 2) sc_are_wholes.nd rfl (by first | exact Or.inl rfl | exact Or.inr rfl))) (fun _ _ _ _ _ => pts_nil) (fun _ _ _ _ _ => (ke_call K F_is_whole hr (pa_cons (pv 2) pa_nil)))) pa_nil))))))),
    (okS_ret (okE_andV (okE_isi (okE_var 0)) (okE_andV (okE_op okEq (okE_CB okLen (okA_cons (okE_var 0) okA_nil)) (okE_var 1)) (okE_CB okAll (okA_cons (okE_lc (OkI.or (okI_list (okE_var 0)) (okI_tup (okE_var 0))) (okG_name 2) okT_yes (okE_call (okA_cons (okE_var 2) okA_nil)) (by decide)) okA_nil)))))⟩⟩

abbrev s_less_in : Stmt := topS 14
abbrev N_less_in : List Str := ["one", "other", "here", "there"]
theorem sc_less_in : FnScope N_less_in ["one", "other"] (defScope s_less_in) := ⟨rfl, rfl, rfl, by decide +kernel, rfl, by decide +kernel, by decide +kernel⟩
def r_less_in : RS :=
  (rRet (rCB oTuple (rCons (rLc (rIZ (rCons (rVar 0) (rCons (rVar 1) rNil))) (rgTup 2 (rgCons (rgName 2) (rgCons (rgName 3) rgNil))) rYes (rOp (oI fun i j => i - j) (rVar 2) (rVar 3)) [2, 3]) rNil)))
theorem b_less_in (T : Txt K mg C) : Body P w K mg base 3 "less_in" s_less_in N_less_in (r_less_in) := by
  refine fun f => ⟨_, fun cdv A outer s H E hr => ⟨(pss_one (ps_ret (kt_call (kc_tuple K) T.b_tuple (pa_cons (pe_lc (own := [("here", 2), ("there", 3)]) rfl sc_less_in.nd (ki_zip K (by rfl) T.b_zip (pa_cons (pv 0) (pa_cons (pv 1) pa_nil))) (blkOk_by (own := [("here", 2), ("there", 3)]) (N := N_less_in) (sc := defScope s_less_in) (by decide +kernel)) (fun _ _ _ _ _ => (kg_tup K (pgs_cons (pg_name (i := 2) sc_less_in.nd rfl (by first | exact Or.inl rfl | exact Or.inr rfl)) (pgs_cons (pg_name (i := 3) sc_less_in.nd rfl (by first | exact Or.inl rfl | exact Or.inr rfl)) pgs_nil)))) (fun _ _ _ _ _ => pts_nil) (fun _ _ _ _ _ => (pe_op op_sub (pv 2) (pv 3)))) pa_nil)))),
    (okS_ret (okE_CB okTuple (okA_cons (okE_lc (okI_zip (okA_cons (okE_var 0) (okA_cons (okE_var 1) okA_nil))) (okG_tup (okGs_cons (okG_name 2) (okGs_cons (okG_name 3) okGs_nil))) okT_yes (okE_op okI (okE_var 2) (okE_var 3)) (by decide)) okA_nil)))⟩⟩

abbrev s_dot_in : Stmt := topS 15
abbrev N_dot_in : List Str := ["one", "other", "here", "there"]
theorem sc_dot_in : FnScope N_dot_in ["one", "other"] (defScope s_dot_in) := ⟨rfl, rfl, rfl, by decide +kernel, rfl, by decide +kernel, by decide +kernel⟩
def r_dot_in : RS :=
  (rRet (rCB oSum (rCons (rLc (rIZ (rCons (rVar 0) (rCons (rVar 1) rNil))) (rgTup 2 (rgCons (rgName 2) (rgCons (rgName 3) rgNil))) rYes (rOp (oIc CMulW fun i j => i * j) (rVar 2) (rVar 3)) [2, 3]) rNil)))
theorem b_dot_in (T : Txt K mg C) : Body P w K mg base 4 "dot_in" s_dot_in N_dot_in (r_dot_in) := by
  refine fun f => ⟨_, fun cdv A outer s H E hr => ⟨(pss_one (ps_ret (kb_call (kc_sum K) T.b_sum (pa_cons (pe_lc (own := [("here", 2), ("there", 3)]) rfl sc_dot_in.nd (ki_zip K (by rfl) T.b_zip (pa_cons (pv 0) (pa_cons (pv 1) pa_nil))) (blkOk_by (own := [("here", 2), ("there", 3)]) (N := N_dot_in) (sc := defScope s_dot_in) (by decide +kernel)) (fun _ _ _ _ _ => (kg_tup K (pgs_cons (pg_name (i := 2) sc_dot_in.nd rfl (by first | exact Or.inl rfl | exact Or.inr rfl)) (pgs_cons (pg_name (i := 3) sc_dot_in.nd rfl (by first | exact Or.inl rfl | exact Or.inr rfl)) pgs_nil)))) (fun _ _ _ _ _ => pts_nil) (fun _ _ _ _ _ => (pe_op op_mulW (pv 2) (pv 3)))) pa_nil)))),
    (okS_ret (okE_CB okSum (okA_cons (okE_lc (okI_zip (okA_cons (okE_var 0) (okA_cons (okE_var 1) okA_nil))) (okG_tup (okGs_cons (okG_name 2) (okGs_cons (okG_name 3) okGs_nil))) okT_yes (okE_op okIc (okE_var 2) (okE_var 3)) (by decide)) okA_nil)))⟩⟩

abbrev s_is_from : Stmt := topS 10
abbrev N_is_from : List Str := ["value", "least", "most"]
theorem sc_is_from : FnScope N_is_from ["value", "least", "most"] (defScope s_is_from) := ⟨rfl, rfl, rfl, by decide +kernel, rfl, by decide +kernel, by decide +kernel⟩
def r_is_from : RS :=
  (rRet (rAndV (rCall d_is_whole (rCons (rVar 0) rNil)) (rChain (oB (fun i j => decide (i ≤ j))) (oB (fun i j => decide (i ≤ j))) (rVar 1) (rVar 0) (rVar 2))))
theorem b_is_from (F_is_whole : FnD P w K mg base "is_whole" 1 d_is_whole) (T : Txt K mg C) : Body P w K mg base 33 "is_from" s_is_from N_is_from (r_is_from) := by
  refine fun f => ⟨_, fun cdv A outer s H E hr => ⟨(pss_one (ps_ret (pe_and (ke_call K F_is_whole hr (pa_cons (pv 0) pa_nil)) (pe_one (pe_chain op_le op_le (pv 1) (pv 0) (pv 2)))))),
    (okS_ret (okE_andV (okE_call (okA_cons (okE_var 0) okA_nil)) (okE_chain okB okB (okE_var 1) (okE_var 0) (okE_var 2))))⟩⟩

abbrev s_require_from : Stmt := topS 12
abbrev N_require_from : List Str := ["value", "least", "most"]
theorem sc_require_from : FnScope N_require_from ["value", "least", "most"] (defScope s_require_from) := ⟨rfl, rfl, rfl, by decide +kernel, rfl, by decide +kernel, by decide +kernel⟩
def r_require_from : RS :=
  (rIfS (rNot (rB (rCall d_is_from (rCons (rVar 0) (rCons (rVar 1) (rCons (rVar 2) rNil)))))) rNever rNext)
theorem b_require_from (F_is_from : FnD P w K mg base "is_from" 34 d_is_from) (T : Txt K mg C) : Body P w K mg base 41 "require_from" s_require_from N_require_from (r_require_from) := by
  refine fun f => ⟨_, fun cdv A outer s H E hr => ⟨(pss_one (ps_if (pt_not (pt_val (ke_call K F_is_from hr (pa_cons (pv 0) (pa_cons (pv 1) (pa_cons (pv 2) pa_nil)))))) (pss_one ps_never) pss_nil)),
    (okS_if (okT_not (okT_B (okE_call (okA_cons (okE_var 0) (okA_cons (okE_var 1) (okA_cons (okE_var 2) okA_nil)))))) okS_never okS_next)⟩⟩



theorem ok_is_whole (a : At K mg "is_whole" s_is_whole) (T : Txt K mg C) : FnD P w K mg base "is_whole" 1 d_is_whole := by
  refine fnD_of a (b_is_whole T) sc_is_whole (fun _ _ _ _ _ _ us hl => match us, hl with | [_], _ => rfl) ?_ ?_
  · rintro ds μ k ⟨v, rfl, _⟩; rfl
  · rintro ds μ k ⟨v, rfl, hp, h⟩
    cases v <;> first | (exfalso; exact Bool.noConfusion hp) | (simp [r_is_whole]; exact h)
theorem ok_is_short (a : At K mg "is_short" s_is_short) (F : FnD P w K mg base "is_whole" 1 d_is_whole) (T : Txt K mg C) : FnD P w K mg base "is_short" 2 d_is_short := by
  refine fnD_of a (b_is_short F T) sc_is_short (fun _ _ _ _ _ _ us hl => match us, hl with | [_], _ => rfl) ?_ ?_
  · rintro ds μ k ⟨i, rfl, _⟩; rfl
  · rintro ds μ k ⟨i, rfl, h⟩
    simp [r_is_short]
    refine ⟨.int i, rfl, rfl, ?_⟩
    simp [short, isInt] at h ⊢
    split <;> simp_all
theorem ok_are_wholes (a : At K mg "are_wholes" s_are_wholes) (F : FnD P w K mg base "is_whole" 1 d_is_whole) (T : Txt K mg C) : FnD P w K mg base "are_wholes" 3 d_are_wholes := by
  refine fnD_of a (b_are_wholes F T) sc_are_wholes (fun _ _ _ _ _ _ us hl => match us, hl with | [_, _], _ => rfl) ?_ ?_
  · rintro ds μ k ⟨v, m, rfl, _⟩; rfl
  · rintro ds μ k ⟨v, m, rfl, hp, ht, h⟩
    cases v with
    | tup es =>
      obtain ⟨hl, he⟩ := ht es rfl
      simp [r_are_wholes]
      split
      · rename_i hm
        refine lcW_map es id (fun d => .bl (isInt d)) (by simpa using Src.l es) hl (fun x hx kt kf h1 => ?_) ?_
        · simp
          exact ⟨x, rfl, he x hx, h1⟩
        · refine all_of (f := isInt) rfl ?_
          rw [← intsOf_all]
          simpa [wrow, hm] using h
      · rename_i hm
        simpa [wrow, hm] using h
    | non => simpa [r_are_wholes, wrow] using h
    | bl b => simpa [r_are_wholes, wrow] using h
    | int i => simpa [r_are_wholes, wrow] using h
    | str s => simpa [r_are_wholes, wrow] using h
    | lst es => simpa [r_are_wholes, wrow] using h
    | _ => exact Bool.noConfusion hp
theorem ok_less_in (a : At K mg "less_in" s_less_in) (T : Txt K mg C) : FnD P w K mg base "less_in" 4 d_less_in := by
  refine fnD_of a (b_less_in T) sc_less_in (fun _ _ _ _ _ _ us hl => match us, hl with | [_, _], _ => rfl) ?_ ?_
  · rintro ds μ k ⟨xs, ys, rfl, _⟩; rfl
  · rintro ds μ k ⟨xs, ys, rfl, hn, h⟩
    have src := Src.z (μ := μ) (x := rowD xs) (y := rowD ys) (xs := intsD xs) (ys := intsD ys) rfl rfl
    have e : (((intsD xs).zip (intsD ys)).map fun q => D.tup [q.1, q.2]) = (xs.zip ys).map fun q => D.tup [.int q.1, .int q.2] := by
      rw [List.zip_map, List.map_map]; rfl
    rw [e] at src
    simp [-asQ, -asL, -List.map_map, r_less_in, asQ_tup]
    refine lcW_map (xs.zip ys) _ (fun q => .int (q.1 - q.2)) src (by rw [List.length_zip]; omega) (fun z hz kt kf h1 => ?_) ?_
    · simp [wipeD]; exact h1
    · have e2 : rowD (List.zipWith (fun a b => a - b) xs ys) = .tup ((xs.zip ys).map fun q => D.int (q.1 - q.2)) := by
        rw [List.zip, List.map_zipWith]; simp [List.map_zipWith]
      rw [e2] at h
      exact ⟨_, asQ_lst, h⟩
theorem ok_dot_in (a : At K mg "dot_in" s_dot_in) (T : Txt K mg C) : FnD P w K mg base "dot_in" 5 d_dot_in := by
  refine fnD_of a (b_dot_in T) sc_dot_in (fun _ _ _ _ _ _ us hl => match us, hl with | [_, _], _ => rfl) ?_ ?_
  · rintro ds μ k ⟨xs, ys, rfl, _⟩; rfl
  · rintro ds μ k ⟨xs, ys, rfl, hn, sx, sy, h⟩
    have src := Src.z (μ := μ) (x := rowD xs) (y := rowD ys) (xs := intsD xs) (ys := intsD ys) rfl rfl
    have e : (((intsD xs).zip (intsD ys)).map fun q => D.tup [q.1, q.2]) = (xs.zip ys).map fun q => D.tup [.int q.1, .int q.2] := by
      rw [List.zip_map, List.map_map]; rfl
    rw [e] at src
    simp [-asQ, -asL, -List.map_map, r_dot_in, asQ_tup]
    refine lcW_map (xs.zip ys) _ (fun q => .int (q.1 * q.2)) src (by rw [List.length_zip]; omega) (fun z hz kt kf h1 => ?_) ?_
    · have m1 := List.of_mem_zip hz
      have c1 := sm_mulW (sx z.1 m1.1) (sy z.2 m1.2) (by omega) (by omega) (by omega)
      simp [wipeD, c1]; exact h1
    · refine ⟨(xs.zip ys).map fun q => q.1 * q.2, by simp, ?_⟩
      have e2 : ((xs.zip ys).map fun q => q.1 * q.2).sum = dotL xs ys := by
        unfold dotL
        rw [List.zip, List.map_zipWith]
      rw [e2]
      exact h
theorem ok_is_from (a : At K mg "is_from" s_is_from) (F : FnD P w K mg base "is_whole" 1 d_is_whole) (T : Txt K mg C) : FnD P w K mg base "is_from" 34 d_is_from := by
  refine fnD_of a (b_is_from F T) sc_is_from (fun _ _ _ _ _ _ us hl => match us, hl with | [_, _, _], _ => rfl) ?_ ?_
  · rintro ds μ k ⟨_, _, _, rfl, _⟩; rfl
  · rintro ds μ k ⟨x, y, z, rfl, h⟩
    simp [r_is_from]
    refine ⟨.int x, rfl, rfl, ?_⟩
    simp [isInt] at h ⊢
    split <;> simp_all
theorem ok_require_from (a : At K mg "require_from" s_require_from) (F : FnD P w K mg base "is_from" 34 d_is_from) (T : Txt K mg C) : FnD P w K mg base "require_from" 42 d_require_from := by
  refine fnD_of a (b_require_from F T) sc_require_from (fun _ _ _ _ _ _ us hl => match us, hl with | [_, _, _], _ => rfl) ?_ ?_
  · rintro ds μ k ⟨_, _, _, rfl, _⟩; rfl
  · rintro ds μ k ⟨x, y, z, rfl, h1, h2, h⟩
    simp [r_require_from]
    refine ⟨x, y, z, rfl, ?_⟩
    simp [h1, h2]
    exact h
end
end K05


set_option Elab.async false
set_option linter.all false
set_option maxRecDepth 100000
set_option maxHeartbeats 4000000
namespace K05
open PySem PySem.Spec PyProof.Rows L2 SlX DL
open Sx (Vec dd tt cost hset Good Units Ratio bnd sumN)
/-! weights or a form, for a row -/
abbrev lotD (lot : List (List Int)) : D := .tup (lot.map rowD)
def lessL (xs ys : List Int) : List Int := List.zipWith (fun a b => a - b) xs ys
/-- the columns and the goal of a row among points -/
def colsFor (lot : List (List Int)) (row : List Int) : List (List Int) := lot.map fun p => lessL p row ++ [1]
def goalFor (row : List Int) : List Int := row.map (fun _ => 0) ++ [1]
/-- sizes that let the row be told -/
structure FitsRow (lot : List (List Int)) (row : List Int) : Prop where
  len : ∀ p ∈ lot, p.length = row.length
  many : lot.length ≤ 1000
  few : row.length ≤ 900
  sz : ∀ c ∈ colsFor lot row, ∀ x ∈ c, Sz x
  fits : Fits (goalFor row).length (colsFor lot row).length (colsOf (turned (goalFor row) (colsFor lot row)) (turnBy (goalFor row) (goalFor row)))
def d_weights_in : DSp := fun ds μ k => ∃ lot row, ds = [lotD lot, rowD row] ∧ FitsRow lot row ∧
  (∀ f : List Int, f.length = row.length → (∀ x ∈ f, Sz x) → (∀ p ∈ lot, dotL f p < dotL f row) → k (.tup [.non, rowD f]) μ) ∧
  (∀ (ns : List Int) (b : Int), ns.length = lot.length → (∀ x ∈ ns, 0 ≤ x ∧ Sz x) → 0 < b → Sz b → ns.sum = b → (∀ i, i < row.length → (sumN lot.length fun j => ns.getD j 0 * (lot.getD j []).getD i 0) = b * row.getD i 0) → k (.tup [.int b, rowD ns]) μ)
theorem dot_app : ∀ {f xs : List Int} {c y : Int}, f.length = xs.length → dotL (f ++ [c]) (xs ++ [y]) = dotL f xs + c * y
  | [], [], c, y, _ => by simp [dotL]
  | a :: f, x :: xs, c, y, e => by
    have := dot_app (f := f) (xs := xs) (c := c) (y := y) (by simpa using e)
    simp only [dotL, List.cons_append, List.zipWith_cons_cons, List.sum_cons] at this ⊢
    omega
  | [], _ :: _, _, _, e => by simp at e
  | _ :: _, [], _, _, e => by simp at e
theorem dot_less : ∀ {f p row : List Int}, f.length = p.length → p.length = row.length → dotL f (lessL p row) = dotL f p - dotL f row
  | [], [], [], _, _ => by simp [dotL]
  | a :: f, x :: p, y :: row, e1, e2 => by
    have := dot_less (f := f) (p := p) (row := row) (by simpa using e1) (by simpa using e2)
    simp only [dotL, lessL, List.zipWith_cons_cons, List.sum_cons, Int.mul_sub] at this ⊢
    omega
  | [], _ :: _, _, e, _ => by simp at e
  | _ :: _, [], _, e, _ => by simp at e
  | _, [], _ :: _, _, e => by simp at e
  | _, _ :: _, [], _, e => by simp at e
theorem dot_zero : ∀ (f row : List Int), dotL f (row.map fun _ => 0) = 0
  | [], _ => by simp [dotL]
  | _ :: _, [] => by simp [dotL]
  | a :: f, x :: row => by
    have := dot_zero f row
    simp only [dotL, List.map_cons, List.zipWith_cons_cons, List.sum_cons] at this ⊢
    omega
/-- the form's members but the last one tell less at the points than at the row -/
theorem form_less {row : List Int} {f : List Int} (hf : f.length = row.length + 1) (hg : 0 < dotL f (goalFor row)) : ∀ p : List Int, p.length = row.length → dotL f (lessL p row ++ [1]) ≤ 0 → dotL f.dropLast p < dotL f.dropLast row := fun p hp hc => by
  obtain ⟨g, c, rfl⟩ : ∃ g c, f = g ++ [c] := ⟨f.dropLast, f.getLast (fun z => by rw [z] at hf; simp at hf), (List.dropLast_concat_getLast _).symm⟩
  have hl : g.length = row.length := by simpa using hf
  rw [dot_app (by simp [lessL, hl, hp]), dot_less (by rw [hl, hp]) hp] at hc
  rw [goalFor, dot_app (by simp [hl]), dot_zero] at hg
  rw [List.dropLast_concat]
  omega
theorem cols_get {lot : List (List Int)} {row : List Int} (hl : ∀ p ∈ lot, p.length = row.length) {j : Nat} (hj : j < lot.length) {i : Nat} : ((colsFor lot row).getD j []).getD i 0 = if i < row.length then (lot.getD j []).getD i 0 - row.getD i 0 else if i = row.length then 1 else 0 := by
  have hp := hl lot[j] (List.getElem_mem hj)
  have e : (colsFor lot row).getD j [] = lessL lot[j] row ++ [1] := by simp [colsFor, List.getElem?_eq_getElem hj]
  have e2 : lot.getD j [] = lot[j] := by simp [List.getElem?_eq_getElem hj]
  have hll : (lessL lot[j] row).length = row.length := by simp [lessL, hp]
  rw [e, e2]
  by_cases h1 : i < row.length
  · rw [if_pos h1]
    have h2 : i < lot[j].length := by omega
    have h3 : i < (lessL lot[j] row).length := by omega
    simp only [List.getD_eq_getElem?_getD]
    rw [List.getElem?_append_left h3, List.getElem?_eq_getElem h3, List.getElem?_eq_getElem h2, List.getElem?_eq_getElem h1]
    simp [lessL]
  · rw [if_neg h1]
    simp only [List.getD_eq_getElem?_getD]
    rw [List.getElem?_append_right (by omega), hll]
    by_cases h2 : i = row.length
    · rw [if_pos h2, h2, Nat.sub_self]; rfl
    · rw [if_neg h2, List.getElem?_eq_none (by simp; omega)]; rfl
/-- numbers that make the goal make the row -/
theorem nums_row {lot : List (List Int)} {row ns : List Int} {b : Int} (hl : ∀ p ∈ lot, p.length = row.length) (hm : ∀ i, i < (goalFor row).length → (sumN (colsFor lot row).length fun j => ns.getD j 0 * ((colsFor lot row).getD j []).getD i 0) = b * (goalFor row).getD i 0) :
    (sumN lot.length fun j => ns.getD j 0) = b ∧ ∀ i, i < row.length → (sumN lot.length fun j => ns.getD j 0 * (lot.getD j []).getD i 0) = b * row.getD i 0 := by
  have hn : (colsFor lot row).length = lot.length := by simp [colsFor]
  have hg : (goalFor row).length = row.length + 1 := by simp [goalFor]
  have h1 : (sumN lot.length fun j => ns.getD j 0) = b := by
    have := hm row.length (by omega)
    rw [hn] at this
    have e : (sumN lot.length fun j => ns.getD j 0 * ((colsFor lot row).getD j []).getD row.length 0) = sumN lot.length fun j => ns.getD j 0 := Sx.sumN_congr fun j hj => by
      rw [cols_get hl hj, if_neg (by omega), if_pos rfl, Int.mul_one]
    rw [e] at this
    rw [this]
    simp [goalFor]
  refine ⟨h1, fun i hi => ?_⟩
  have := hm i (by omega)
  rw [hn] at this
  have e : (sumN lot.length fun j => ns.getD j 0 * ((colsFor lot row).getD j []).getD i 0) = (sumN lot.length fun j => ns.getD j 0 * (lot.getD j []).getD i 0) + (-(row.getD i 0)) * sumN lot.length fun j => ns.getD j 0 := by
    rw [← Sx.sumN_mul, ← Sx.sumN_add]
    refine Sx.sumN_congr fun j hj => ?_
    rw [cols_get hl hj, if_pos hi, Int.mul_sub, Int.neg_mul, Int.mul_comm (row.getD i 0)]
    omega
  rw [e, h1] at this
  have z : (goalFor row).getD i 0 = 0 := by
    simp only [goalFor, List.getD_eq_getElem?_getD]
    rw [List.getElem?_append_left (by simpa using hi), List.getElem?_map, List.getElem?_eq_getElem hi]
    rfl
  rw [z, Int.mul_zero, Int.neg_mul, Int.mul_comm] at this
  omega
end K05


set_option Elab.async false
set_option linter.all false
set_option maxRecDepth 100000
set_option maxHeartbeats 4000000
namespace K05
open PySem PySem.Spec PyProof.Rows L2 SlX DL
open Sx (Vec dd tt cost hset Good Units Ratio bnd sumN)
section
variable {P : Program} {w : World} {K : PySem.W.Frag} {mg : Str → Option Value} {base : Heap} {C : Addr}
abbrev s_weights_in : Stmt := topS 31
abbrev N_weights_in : List Str := ["points", "row", "columns", "goal", "numbers", "told", "point", "one"]
theorem sc_weights_in : FnScope N_weights_in ["points", "row"] (defScope s_weights_in) := ⟨rfl, rfl, rfl, by decide +kernel, rfl, by decide +kernel, by decide +kernel⟩
def r_weights_in : RS :=
  (rSeq (rPar 2 3 (rCons (rLc (rIT (rVar 0)) (rgName 6) rYes (rTup (rStar (rCall d_less_in (rCons (rVar 6) (rCons (rVar 1) rNil))) (rCons (rC (.int 1)) rNil))) [6]) (rCons (rTup (rStar (rLc (rIT (rVar 1)) (rgName 7) rYes (rC (.int 0)) [7]) (rCons (rC (.int 1)) rNil))) rNil)))
  (rSeq (rAsg (rCall d_made_or_form (rCons (rVar 2) (rCons (rVar 3) rNil))) (rgTup 2 (rgCons (rgName 4) (rgCons (rgName 5) rgNil))))
  (rRet (rIf (rB (rOp oIsN (rVar 4) (rC .non))) (rTup (rCons (rC .non) (rCons (rSlc oSlT (rVar 5) rNo (rPart (rUn oNeg (rC (.int 1))))) rNil))) (rTup (rCons (rVar 5) (rCons (rVar 4) rNil)))))))
theorem b_weights_in (F_less_in : FnD P w K mg base "less_in" 4 d_less_in) (F_made_or_form : FnD P w K mg base "made_or_form" 14 d_made_or_form) (T : Txt K mg C) : Body P w K mg base 17 "weights_in" s_weights_in N_weights_in (r_weights_in) := by
  refine fun f => ⟨_, fun cdv A outer s H E hr => ⟨(pss_cons (ps_par (i := 2) (j := 3) rfl sc_weights_in.nd rfl rfl (by decide) rfl rfl (pa_cons (pe_lc (own := [("point", 6)]) rfl sc_weights_in.nd (ki_tup K (pv 0)) (blkOk_by (own := [("point", 6)]) (N := N_weights_in) (sc := defScope s_weights_in) (by decide +kernel)) (fun _ _ _ _ _ => (pg_name (i := 6) sc_weights_in.nd rfl (by first | exact Or.inl rfl | exact Or.inr rfl))) (fun _ _ _ _ _ => pts_nil) (fun _ _ _ _ _ => (pe_tup (ka_star K (ke_call K F_less_in hr (pa_cons (pv 6) (pa_cons (pv 1) pa_nil))) (pa_cons pe_int pa_nil))))) (pa_cons (pe_tup (ka_star K (pe_lc (own := [("one", 7)]) rfl sc_weights_in.nd (ki_tup K (pv 1)) (blkOk_by (own := [("one", 7)]) (N := N_weights_in) (sc := defScope s_weights_in) (by decide +kernel)) (fun _ _ _ _ _ => (pg_name (i := 7) sc_weights_in.nd rfl (by first | exact Or.inl rfl | exact Or.inr rfl))) (fun _ _ _ _ _ => pts_nil) (fun _ _ _ _ _ => pe_int)) (pa_cons pe_int pa_nil))) pa_nil)) rfl)
      (pss_cons (ps_asg (ke_call K F_made_or_form hr (pa_cons (pv 2) (pa_cons (pv 3) pa_nil))) (kg_tup K (pgs_cons (pg_name (i := 4) sc_weights_in.nd rfl (Or.inl rfl)) (pgs_cons (pg_name (i := 5) sc_weights_in.nd rfl (Or.inl rfl)) pgs_nil))))
      (pss_one (ps_ret (pe_ifExp (pt_cmpR op_isN (pv 4) pe_non (nomark _)) (pe_tup (pa_cons pe_non (pa_cons (pe_slice (ks_tupA K) (pv 5) po_none (po_some (pe_un un_neg pe_int))) pa_nil))) (pe_tup (pa_cons (pv 5) (pa_cons (pv 4) pa_nil)))))))),
    (okS_seq (okS_par (okA_cons (okE_lc (okI_tup (okE_var 0)) (okG_name 6) okT_yes (okE_tup (okA_star (okE_call (okA_cons (okE_var 6) (okA_cons (okE_var 1) okA_nil))) (okA_cons (okE_C fun _ => .int _) okA_nil))) (by decide)) (okA_cons (okE_tup (okA_star (okE_lc (okI_tup (okE_var 1)) (okG_name 7) okT_yes (okE_C fun _ => .int _) (by decide)) (okA_cons (okE_C fun _ => .int _) okA_nil))) okA_nil)))
      (okS_seq (okS_asg (okE_call (okA_cons (okE_var 2) (okA_cons (okE_var 3) okA_nil))) (okG_tup (okGs_cons (okG_name 4) (okGs_cons (okG_name 5) okGs_nil))))
      (okS_ret (okE_if (okT_test (okE_op okIsN (okE_var 4) (okE_C fun _ => .non))) (okE_tup (okA_cons (okE_C fun _ => .non) (okA_cons (okE_slc okSlT (okE_var 5) okO_no (okO_part (okE_un okNeg (okE_C fun _ => .int _)))) okA_nil))) (okE_tup (okA_cons (okE_var 5) (okA_cons (okE_var 4) okA_nil)))))))⟩⟩



theorem ok_weights_in (a : At K mg "weights_in" s_weights_in) (F_less_in : FnD P w K mg base "less_in" 4 d_less_in) (F_made : FnD P w K mg base "made_or_form" 14 d_made_or_form) (T : Txt K mg C) : FnD P w K mg base "weights_in" 18 d_weights_in := by
  refine fnD_of a (b_weights_in F_less_in F_made T) sc_weights_in (fun _ _ _ _ _ _ us hl => match us, hl with | [_, _], _ => rfl) ?_ ?_
  · rintro ds μ k ⟨_, _, rfl, _⟩; rfl
  · rintro ds μ k ⟨lot, row, rfl, fr, kf, kn⟩
    have hmany := fr.many
    have hfew := fr.few
    simp [-asQ, -asL, -List.map_map, r_weights_in]
    refine lcW_map lot rowD (fun p => rowD (lessL p row ++ [1])) (.l _) (by omega) (fun p hp kt kf' h1 => ?_) ?_
    · simp [-asQ, -asL, -List.map_map, wipeD]
      refine ⟨p, row, rfl, by rw [fr.len p hp]; omega, ?_⟩
      refine ⟨_, asQ_tup, ?_⟩
      have hll : (lessL p row).length = row.length := by simp [lessL, fr.len p hp]
      simp [-asQ, -asL, -List.map_map]
      refine ⟨by rw [fr.len p hp]; omega, ?_⟩
      have e : rowD (lessL p row ++ [1]) = .tup (List.zipWith (fun x y => D.int (x - y)) p row ++ [D.int 1]) := by simp [lessL, List.map_zipWith]
      rw [e] at h1
      exact h1
    · refine lcW_map row D.int (fun _ => .int 0) (.l _) (by omega) (fun x hx kt kf' h1 => ?_) ?_
      · simpa [wipeD] using h1
      · refine ⟨_, asQ_lst, ?_⟩
        have hg : (goalFor row).length = row.length + 1 := by simp [goalFor]
        have hn : (colsFor lot row).length = lot.length := by simp [colsFor]
        simp [-asQ, -asL, -List.map_map]
        refine ⟨by omega, colsFor lot row, goalFor row, ?_, fun c hc => ?_, by omega, by omega, by omega, fr.sz, fun x hx => ?_, fr.fits, fun f hf sf hle hpos => ?_, fun ns b hln hns hb sb hmk => ?_⟩
        · have e1 : D.lst (lot.map fun p => rowD (lessL p row ++ [1])) = .lst ((colsFor lot row).map rowD) := by
            simp [colsFor]
          have e2 : D.tup (row.map (fun _ => D.int 0) ++ [D.int 1]) = rowD (goalFor row) := by
            simp [goalFor]
          rw [e1, e2]
        · obtain ⟨p, hp, rfl⟩ := List.mem_map.mp hc
          rw [hg]
          simp [lessL, fr.len p hp]
        · have : x = 0 ∨ x = 1 := by
            simp [goalFor] at hx
            omega
          rcases this with h | h
          · subst h; exact Nat.two_pow_pos _
          · subst h; exact Nat.one_lt_two_pow (by decide)
        · simp [-asQ, -asL, -List.map_map, DL.isNon]
          have ec : DL.cutD (intsD f) none (some (-1)) = intsD f.dropLast := by
            have hl : (intsD f).length = row.length + 1 := by simp [hf, hg]
            have s2 : HT.sIx (row.length + 1) (row.length + 1) (some (-1)) = row.length := by
              unfold HT.sIx
              simp
              try omega
            unfold DL.cutD
            rw [hl, s2, show HT.sIx (row.length + 1) 0 none = 0 from rfl, List.drop_zero, Nat.sub_zero, List.dropLast_eq_take, hf, hg]
            simp
          rw [ec]
          refine kf f.dropLast (by simp [hf, hg]) (fun x hx => sf x (List.dropLast_subset _ hx)) (fun p hp => ?_)
          exact form_less (by rw [hf, hg]) hpos p (fr.len p hp) (hle _ (List.mem_map.mpr ⟨p, hp, rfl⟩))
        · simp [-asQ, -asL, -List.map_map, DL.isNon]
          obtain ⟨h1, h2⟩ := nums_row fr.len hmk
          rw [hn] at hln
          refine kn ns b hln hns hb sb ?_ h2
          rw [← h1, ← hln, sumN_list]
          congr 1
          apply List.ext_getElem
          · simp
          · intro j h1 h2
            have : j < ns.length := by simpa using h1
            simp [List.getElem?_eq_getElem this]
end
end K05


set_option Elab.async false
set_option linter.all false
set_option maxRecDepth 100000
set_option maxHeartbeats 4000000
namespace K05
open PySem PySem.Spec PyProof.Rows L2 SlX DL
open Sx (Vec dd tt cost hset Good Units Ratio bnd sumN)
/-! what rows are; a row inside or beyond -/
def isRow (ns : List Int) : Bool := decide (1 ≤ ns.length ∧ ns.length ≤ 8) && ns.all short
def d_is_row_in : DSp := fun ds μ k => ∃ ns, ds = [rowD ns] ∧ ns.length ≤ 1000000 ∧ k (.bl (isRow ns)) μ
def d_require_row : DSp := fun ds μ k => ∃ ns, ds = [rowD ns] ∧ isRow ns = true ∧ k .non μ
def d_require_lengths : DSp := fun ds μ k => ∃ xs ys, ds = [rowD xs, rowD ys] ∧ xs.length = ys.length ∧ k .non μ
def d_inside_or_beyond_in : DSp := fun ds μ k => ∃ lot row, ds = [lotD lot, rowD row] ∧ FitsRow lot row ∧
  (∀ f : List Int, f.length = row.length → (∀ x ∈ f, Sz x) → (∀ p ∈ lot, dotL f p < dotL f row) → k (.tup [.str "beyond", rowD f]) μ) ∧
  (∀ (ns : List Int) (b : Int), ns.length = lot.length → (∀ x ∈ ns, 0 ≤ x ∧ Sz x) → 0 < b → Sz b → ns.sum = b → (∀ i, i < row.length → (sumN lot.length fun j => ns.getD j 0 * (lot.getD j []).getD i 0) = b * row.getD i 0) → k (.tup [.str "inside", .int b, rowD ns]) μ)
section
variable {P : Program} {w : World} {K : PySem.W.Frag} {mg : Str → Option Value} {base : Heap} {C : Addr}
abbrev s_is_row_in : Stmt := topS 28
abbrev N_is_row_in : List Str := ["value", "one"]
theorem sc_is_row_in : FnScope N_is_row_in ["value"] (defScope s_is_row_in) := ⟨rfl, rfl, rfl, by decide +kernel, rfl, by decide +kernel, by decide +kernel⟩
def r_is_row_in : RS :=
  (rSeq (rIfS (rOr (rNot (rB (rIsiB "tuple" (rVar 0)))) (rNot (rB (rChain (oB (fun i j => decide (i ≤ j))) (oB (fun i j => decide (i ≤ j))) (rC (.int 1)) (rCB oLen (rCons (rVar 0) rNil)) (rC (.int 8)))))) (rRet (rC (.bl false))) rNext)
  (rRet (rCB oAll (rCons (rLc (rIT (rVar 0)) (rgName 1) rYes (rCall d_is_short (rCons (rVar 1) rNil)) [1]) rNil))))
theorem b_is_row_in (F_is_short : FnD P w K mg base "is_short" 2 d_is_short) (T : Txt K mg C) : Body P w K mg base 14 "is_row_in" s_is_row_in N_is_row_in (r_is_row_in) := by
  refine fun f => ⟨_, fun cdv A outer s H E hr => ⟨(pss_cons (ps_if (PW.pt (pw_or (pt_not (pt_val (kb_call (kc_isi K) T.b_isinstance (pa_cons (pv 0) (pa_cons (kb_ty (T := "tuple") T.b_tuple) pa_nil))))) (pw_or1 (pt_not (pt_chain op_le op_le pe_int (kb_call (kc_len K) T.b_len (pa_cons (pv 0) pa_nil)) (ke_globI T.c_MOST_LENGTH)))))) (pss_one (ps_ret pe_bl)) pss_nil)
      (pss_one (ps_ret (kb_call (kc_all K) T.b_all (pa_cons (pe_lc (own := [("one", 1)]) rfl sc_is_row_in.nd (ki_tup K (pv 0)) (blkOk_by (own := [("one", 1)]) (N := N_is_row_in) (sc := defScope s_is_row_in) (by decide +kernel)) (fun _ _ _ _ _ => (pg_name (i := 1) sc_is_row_in.nd rfl (by first | exact Or.inl rfl | exact Or.inr rfl))) (fun _ _ _ _ _ => pts_nil) (fun _ _ _ _ _ => (ke_call K F_is_short hr (pa_cons (pv 1) pa_nil)))) pa_nil))))),
    (okS_seq (okS_if (okT_or (okT_not (okT_B (okE_isi (okE_var 0)))) (okT_not (okT_test (okE_chain okB okB (okE_C fun _ => .int _) (okE_CB okLen (okA_cons (okE_var 0) okA_nil)) (okE_C fun _ => .int _))))) (okS_ret (okE_C fun _ => .bl _)) okS_next)
      (okS_ret (okE_CB okAll (okA_cons (okE_lc (okI_tup (okE_var 0)) (okG_name 1) okT_yes (okE_call (okA_cons (okE_var 1) okA_nil)) (by decide)) okA_nil))))⟩⟩

abbrev s_require_row : Stmt := topS 37
abbrev N_require_row : List Str := ["value"]
theorem sc_require_row : FnScope N_require_row ["value"] (defScope s_require_row) := ⟨rfl, rfl, rfl, by decide +kernel, rfl, by decide +kernel, by decide +kernel⟩
def r_require_row : RS :=
  (rIfS (rNot (rB (rCall d_is_row_in (rCons (rVar 0) rNil)))) rNever rNext)
theorem b_require_row (F_is_row_in : FnD P w K mg base "is_row_in" 15 d_is_row_in) (T : Txt K mg C) : Body P w K mg base 21 "require_row" s_require_row N_require_row (r_require_row) := by
  refine fun f => ⟨_, fun cdv A outer s H E hr => ⟨(pss_one (ps_if (pt_not (pt_val (ke_call K F_is_row_in hr (pa_cons (pv 0) pa_nil)))) (pss_one ps_never) pss_nil)),
    (okS_if (okT_not (okT_B (okE_call (okA_cons (okE_var 0) okA_nil)))) okS_never okS_next)⟩⟩

abbrev s_require_lengths : Stmt := topS 39
abbrev N_require_lengths : List Str := ["one", "other"]
theorem sc_require_lengths : FnScope N_require_lengths ["one", "other"] (defScope s_require_lengths) := ⟨rfl, rfl, rfl, by decide +kernel, rfl, by decide +kernel, by decide +kernel⟩
def r_require_lengths : RS :=
  (rIfS (rB (rOp oNe (rCB oLen (rCons (rVar 0) rNil)) (rCB oLen (rCons (rVar 1) rNil)))) rNever rNext)
theorem b_require_lengths (T : Txt K mg C) : Body P w K mg base 23 "require_lengths" s_require_lengths N_require_lengths (r_require_lengths) := by
  refine fun f => ⟨_, fun cdv A outer s H E hr => ⟨(pss_one (ps_if (pt_cmpR (ko_neD K hr.units) (kb_call (kc_len K) T.b_len (pa_cons (pv 0) pa_nil)) (kb_call (kc_len K) T.b_len (pa_cons (pv 1) pa_nil)) (nomark _)) (pss_one ps_never) pss_nil)),
    (okS_if (okT_test (okE_op okNe (okE_CB okLen (okA_cons (okE_var 0) okA_nil)) (okE_CB okLen (okA_cons (okE_var 1) okA_nil)))) okS_never okS_next)⟩⟩

abbrev s_inside_or_beyond_in : Stmt := topS 34
abbrev N_inside_or_beyond_in : List Str := ["lot", "row", "number", "told"]
theorem sc_inside_or_beyond_in : FnScope N_inside_or_beyond_in ["lot", "row"] (defScope s_inside_or_beyond_in) := ⟨rfl, rfl, rfl, by decide +kernel, rfl, by decide +kernel, by decide +kernel⟩
def r_inside_or_beyond_in : RS :=
  (rSeq (rAsg (rCall d_weights_in (rCons (rVar 0) (rCons (rVar 1) rNil))) (rgTup 2 (rgCons (rgName 2) (rgCons (rgName 3) rgNil))))
  (rRet (rIf (rB (rOp oIsN (rVar 2) (rC .non))) (rTup (rCons (rC (.str "beyond")) (rCons (rVar 3) rNil))) (rTup (rCons (rC (.str "inside")) (rCons (rVar 2) (rCons (rVar 3) rNil)))))))
theorem b_inside_or_beyond_in (F_weights_in : FnD P w K mg base "weights_in" 18 d_weights_in) (T : Txt K mg C) : Body P w K mg base 18 "inside_or_beyond_in" s_inside_or_beyond_in N_inside_or_beyond_in (r_inside_or_beyond_in) := by
  refine fun f => ⟨_, fun cdv A outer s H E hr => ⟨(pss_cons (ps_asg (ke_call K F_weights_in hr (pa_cons (pv 0) (pa_cons (pv 1) pa_nil))) (kg_tup K (pgs_cons (pg_name (i := 2) sc_inside_or_beyond_in.nd rfl (Or.inl rfl)) (pgs_cons (pg_name (i := 3) sc_inside_or_beyond_in.nd rfl (Or.inl rfl)) pgs_nil))))
      (pss_one (ps_ret (pe_ifExp (pt_cmpR op_isN (pv 2) pe_non (nomark _)) (pe_tup (pa_cons (ke_globS T.c_BEYOND) (pa_cons (pv 3) pa_nil))) (pe_tup (pa_cons (ke_globS T.c_INSIDE) (pa_cons (pv 2) (pa_cons (pv 3) pa_nil)))))))),
    (okS_seq (okS_asg (okE_call (okA_cons (okE_var 0) (okA_cons (okE_var 1) okA_nil))) (okG_tup (okGs_cons (okG_name 2) (okGs_cons (okG_name 3) okGs_nil))))
      (okS_ret (okE_if (okT_test (okE_op okIsN (okE_var 2) (okE_C fun _ => .non))) (okE_tup (okA_cons (okE_C fun _ => .str _) (okA_cons (okE_var 3) okA_nil))) (okE_tup (okA_cons (okE_C fun _ => .str _) (okA_cons (okE_var 2) (okA_cons (okE_var 3) okA_nil)))))))⟩⟩



theorem ok_is_row_in (a : At K mg "is_row_in" s_is_row_in) (F : FnD P w K mg base "is_short" 2 d_is_short) (T : Txt K mg C) : FnD P w K mg base "is_row_in" 15 d_is_row_in := by
  refine fnD_of a (b_is_row_in F T) sc_is_row_in (fun _ _ _ _ _ _ us hl => match us, hl with | [_], _ => rfl) ?_ ?_
  · rintro ds μ k ⟨_, rfl, _⟩; rfl
  · rintro ds μ k ⟨ns, rfl, hn, h⟩
    have hi : ∀ b : Bool, isRow ns = b → k (.bl b) μ := fun b e => e ▸ h
    simp [r_is_row_in]
    split
    · rename_i h1
      split
      · rename_i h2
        exact hi false (by simp [isRow]; intro _ _; omega)
      · rename_i h2
        refine lcW_map ns D.int (fun r => .bl (short r)) (.l _) hn (fun x hx kt kf h1 => ?_) ?_
        · simp
          exact ⟨x, rfl, h1⟩
        · refine all_of rfl (hi _ ?_)
          have h3 : 1 ≤ ns.length ∧ ns.length ≤ 8 := ⟨by omega, by omega⟩
          simp [isRow, h3]
    · rename_i h1
      exact hi false (by simp [isRow]; intro _ _; omega)
theorem ok_require_row (a : At K mg "require_row" s_require_row) (F : FnD P w K mg base "is_row_in" 15 d_is_row_in) (T : Txt K mg C) : FnD P w K mg base "require_row" 22 d_require_row := by
  refine fnD_of a (b_require_row F T) sc_require_row (fun _ _ _ _ _ _ us hl => match us, hl with | [_], _ => rfl) ?_ ?_
  · rintro ds μ k ⟨_, rfl, _⟩; rfl
  · rintro ds μ k ⟨ns, rfl, hr, h⟩
    have hl : ns.length ≤ 1000000 := by
      simp [isRow] at hr
      omega
    simp [r_require_row]
    refine ⟨ns, rfl, hl, ?_⟩
    simp [hr]
    exact h
theorem ok_require_lengths (a : At K mg "require_lengths" s_require_lengths) (T : Txt K mg C) : FnD P w K mg base "require_lengths" 24 d_require_lengths := by
  refine fnD_of a (b_require_lengths T) sc_require_lengths (fun _ _ _ _ _ _ us hl => match us, hl with | [_, _], _ => rfl) ?_ ?_
  · rintro ds μ k ⟨_, _, rfl, _⟩; rfl
  · rintro ds μ k ⟨xs, ys, rfl, hl, h⟩
    simp [r_require_lengths, hl]
    exact h
theorem ok_inside_or_beyond_in (a : At K mg "inside_or_beyond_in" s_inside_or_beyond_in) (F : FnD P w K mg base "weights_in" 18 d_weights_in) (T : Txt K mg C) : FnD P w K mg base "inside_or_beyond_in" 19 d_inside_or_beyond_in := by
  refine fnD_of a (b_inside_or_beyond_in F T) sc_inside_or_beyond_in (fun _ _ _ _ _ _ us hl => match us, hl with | [_, _], _ => rfl) ?_ ?_
  · rintro ds μ k ⟨_, _, rfl, _⟩; rfl
  · rintro ds μ k ⟨lot, row, rfl, fr, kf, kn⟩
    simp [-List.map_map, r_inside_or_beyond_in]
    refine ⟨lot, row, rfl, fr, fun f h1 h2 h3 => ?_, fun ns b h1 h2 h3 h4 h5 h6 => ?_⟩
    · simp [-List.map_map, DL.isNon]
      exact kf f h1 h2 h3
    · simp [-List.map_map, DL.isNon]
      exact kn ns b h1 h2 h3 h4 h5 h6
end
end K05


set_option Elab.async false
set_option linter.all false
set_option maxRecDepth 100000
set_option maxHeartbeats 4000000
namespace K05
open PySem PySem.Spec PyProof.Rows L2 SlX DL
open Sx (Vec dd tt cost hset Good Units Ratio bnd sumN)
/-! lots -/
/-- ascending rows of one length -/
def IsLot (lot : List (List Int)) (n : Nat) : Prop := 1 ≤ lot.length ∧ lot.length ≤ 400 ∧ (∀ p ∈ lot, isRow p = true ∧ p.length = n) ∧ lot.Pairwise (fun p q => p < q)
def d_is_lot_in : DSp := fun ds μ k => ∃ lot n, ds = [lotD lot] ∧ IsLot lot n ∧ k (.bl true) μ
def d_require_lot : DSp := fun ds μ k => ∃ lot n, ds = [lotD lot] ∧ IsLot lot n ∧ k .non μ
def d_require_lot_and_row : DSp := fun ds μ k => ∃ lot row, ds = [lotD lot, rowD row] ∧ IsLot lot row.length ∧ isRow row = true ∧ k .non μ
section
variable {P : Program} {w : World} {K : PySem.W.Frag} {mg : Str → Option Value} {base : Heap} {C : Addr}
abbrev s_is_lot_in : Stmt := topS 29
abbrev N_is_lot_in : List Str := ["value", "point", "one", "other"]
theorem sc_is_lot_in : FnScope N_is_lot_in ["value"] (defScope s_is_lot_in) := ⟨rfl, rfl, rfl, by decide +kernel, rfl, by decide +kernel, by decide +kernel⟩
def r_is_lot_in : RS :=
  (rSeq (rIfS (rOr (rNot (rB (rIsiB "tuple" (rVar 0)))) (rNot (rB (rChain (oB (fun i j => decide (i ≤ j))) (oB (fun i j => decide (i ≤ j))) (rC (.int 1)) (rCB oLen (rCons (rVar 0) rNil)) (rC (.int 400)))))) (rRet (rC (.bl false))) rNext)
  (rSeq (rIfS (rOr (rNot (rB (rCB oAll (rCons (rLc (rIT (rVar 0)) (rgName 2) rYes (rCall d_is_row_in (rCons (rVar 2) rNil)) [2]) rNil)))) (rB (rCB oAny (rCons (rLc (rIT (rVar 0)) (rgName 1) rYes (rOp oNe (rCB oLen (rCons (rVar 1) rNil)) (rCB oLen (rCons (rOp oIx (rVar 0) (rC (.int 0))) rNil))) [1]) rNil)))) (rRet (rC (.bl false))) rNext)
  (rRet (rCB oAll (rCons (rLc (rIZ (rCons (rVar 0) (rCons (rSlc oSlT (rVar 0) (rPart (rC (.int 1))) rNo) rNil))) (rgTup 2 (rgCons (rgName 2) (rgCons (rgName 3) rgNil))) rYes (rOp oLtT (rVar 2) (rVar 3)) [2, 3]) rNil)))))
theorem b_is_lot_in (F_is_row_in : FnD P w K mg base "is_row_in" 15 d_is_row_in) (T : Txt K mg C) : Body P w K mg base 15 "is_lot_in" s_is_lot_in N_is_lot_in (r_is_lot_in) := by
  refine fun f => ⟨_, fun cdv A outer s H E hr => ⟨(pss_cons (ps_if (PW.pt (pw_or (pt_not (pt_val (kb_call (kc_isi K) T.b_isinstance (pa_cons (pv 0) (pa_cons (kb_ty (T := "tuple") T.b_tuple) pa_nil))))) (pw_or1 (pt_not (pt_chain op_le op_le pe_int (kb_call (kc_len K) T.b_len (pa_cons (pv 0) pa_nil)) (ke_globI T.c_MOST_POINTS)))))) (pss_one (ps_ret pe_bl)) pss_nil)
      (pss_cons (ps_if (PW.pt (pw_or (pt_not (pt_val (kb_call (kc_all K) T.b_all (pa_cons (pe_lc (own := [("one", 2)]) rfl sc_is_lot_in.nd (ki_tup K (pv 0)) (blkOk_by (own := [("one", 2)]) (N := N_is_lot_in) (sc := defScope s_is_lot_in) (by decide +kernel)) (fun _ _ _ _ _ => (pg_name (i := 2) sc_is_lot_in.nd rfl (by first | exact Or.inl rfl | exact Or.inr rfl))) (fun _ _ _ _ _ => pts_nil) (fun _ _ _ _ _ => (ke_call K F_is_row_in hr (pa_cons (pv 2) pa_nil)))) pa_nil)))) (pw_or1 (pt_val (kb_call (kc_any K) T.b_any (pa_cons (pe_lc (own := [("point", 1)]) rfl sc_is_lot_in.nd (ki_tup K (pv 0)) (blkOk_by (own := [("point", 1)]) (N := N_is_lot_in) (sc := defScope s_is_lot_in) (by decide +kernel)) (fun _ _ _ _ _ => (pg_name (i := 1) sc_is_lot_in.nd rfl (by first | exact Or.inl rfl | exact Or.inr rfl))) (fun _ _ _ _ _ => pts_nil) (fun _ _ _ _ _ => (pe_cmpR (ko_neD K hr.units) (kb_call (kc_len K) T.b_len (pa_cons (pv 1) pa_nil)) (kb_call (kc_len K) T.b_len (pa_cons (pe_ix (kx_seq K) (pv 0) pe_int (fun _ _ => rfl)) pa_nil)) (nomark _)))) pa_nil)))))) (pss_one (ps_ret pe_bl)) pss_nil)
      (pss_one (ps_ret (kb_call (kc_all K) T.b_all (pa_cons (pe_lc (own := [("one", 2), ("other", 3)]) rfl sc_is_lot_in.nd (ki_zip K (by rfl) T.b_zip (pa_cons (pv 0) (pa_cons (pe_slice (ks_tupA K) (pv 0) (po_some pe_int) po_none) pa_nil))) (blkOk_by (own := [("one", 2), ("other", 3)]) (N := N_is_lot_in) (sc := defScope s_is_lot_in) (by decide +kernel)) (fun _ _ _ _ _ => (kg_tup K (pgs_cons (pg_name (i := 2) sc_is_lot_in.nd rfl (by first | exact Or.inl rfl | exact Or.inr rfl)) (pgs_cons (pg_name (i := 3) sc_is_lot_in.nd rfl (by first | exact Or.inl rfl | exact Or.inr rfl)) pgs_nil)))) (fun _ _ _ _ _ => pts_nil) (fun _ _ _ _ _ => (pe_cmpR (ko_ltT K (units0 hr.units)) (pv 2) (pv 3) (nomark _)))) pa_nil)))))),
    (okS_seq (okS_if (okT_or (okT_not (okT_B (okE_isi (okE_var 0)))) (okT_not (okT_test (okE_chain okB okB (okE_C fun _ => .int _) (okE_CB okLen (okA_cons (okE_var 0) okA_nil)) (okE_C fun _ => .int _))))) (okS_ret (okE_C fun _ => .bl _)) okS_next)
      (okS_seq (okS_if (okT_or (okT_not (okT_B (okE_CB okAll (okA_cons (okE_lc (okI_tup (okE_var 0)) (okG_name 2) okT_yes (okE_call (okA_cons (okE_var 2) okA_nil)) (by decide)) okA_nil)))) (okT_B (okE_CB okAny (okA_cons (okE_lc (okI_tup (okE_var 0)) (okG_name 1) okT_yes (okE_op okNe (okE_CB okLen (okA_cons (okE_var 1) okA_nil)) (okE_CB okLen (okA_cons (okE_op okIx (okE_var 0) (okE_C fun _ => .int _)) okA_nil))) (by decide)) okA_nil)))) (okS_ret (okE_C fun _ => .bl _)) okS_next)
      (okS_ret (okE_CB okAll (okA_cons (okE_lc (okI_zip (okA_cons (okE_var 0) (okA_cons (okE_slc okSlT (okE_var 0) (okO_part (okE_C fun _ => .int _)) okO_no) okA_nil))) (okG_tup (okGs_cons (okG_name 2) (okGs_cons (okG_name 3) okGs_nil))) okT_yes (okE_op okLtT (okE_var 2) (okE_var 3)) (by decide)) okA_nil)))))⟩⟩

abbrev s_require_lot : Stmt := topS 38
abbrev N_require_lot : List Str := ["value"]
theorem sc_require_lot : FnScope N_require_lot ["value"] (defScope s_require_lot) := ⟨rfl, rfl, rfl, by decide +kernel, rfl, by decide +kernel, by decide +kernel⟩
def r_require_lot : RS :=
  (rIfS (rNot (rB (rCall d_is_lot_in (rCons (rVar 0) rNil)))) rNever rNext)
theorem b_require_lot (F_is_lot_in : FnD P w K mg base "is_lot_in" 16 d_is_lot_in) (T : Txt K mg C) : Body P w K mg base 22 "require_lot" s_require_lot N_require_lot (r_require_lot) := by
  refine fun f => ⟨_, fun cdv A outer s H E hr => ⟨(pss_one (ps_if (pt_not (pt_val (ke_call K F_is_lot_in hr (pa_cons (pv 0) pa_nil)))) (pss_one ps_never) pss_nil)),
    (okS_if (okT_not (okT_B (okE_call (okA_cons (okE_var 0) okA_nil)))) okS_never okS_next)⟩⟩

abbrev s_require_lot_and_row : Stmt := topS 40
abbrev N_require_lot_and_row : List Str := ["lot", "row"]
theorem sc_require_lot_and_row : FnScope N_require_lot_and_row ["lot", "row"] (defScope s_require_lot_and_row) := ⟨rfl, rfl, rfl, by decide +kernel, rfl, by decide +kernel, by decide +kernel⟩
def r_require_lot_and_row : RS :=
  (rSeq (rDrop (rCall d_require_lot (rCons (rVar 0) rNil)))
  (rSeq (rDrop (rCall d_require_row (rCons (rVar 1) rNil)))
  (rDrop (rCall d_require_lengths (rCons (rOp oIx (rVar 0) (rC (.int 0))) (rCons (rVar 1) rNil))))))
theorem b_require_lot_and_row (F_require_lot : FnD P w K mg base "require_lot" 23 d_require_lot) (F_require_row : FnD P w K mg base "require_row" 22 d_require_row) (F_require_lengths : FnD P w K mg base "require_lengths" 24 d_require_lengths) (T : Txt K mg C) : Body P w K mg base 24 "require_lot_and_row" s_require_lot_and_row N_require_lot_and_row (r_require_lot_and_row) := by
  refine fun f => ⟨_, fun cdv A outer s H E hr => ⟨(pss_cons (ps_expr (ke_call K F_require_lot hr (pa_cons (pv 0) pa_nil)))
      (pss_cons (ps_expr (ke_call K F_require_row hr (pa_cons (pv 1) pa_nil)))
      (pss_one (ps_expr (ke_call K F_require_lengths hr (pa_cons (pe_ix (kx_seq K) (pv 0) pe_int (fun _ _ => rfl)) (pa_cons (pv 1) pa_nil))))))),
    (okS_seq (okS_drop (okE_call (okA_cons (okE_var 0) okA_nil)))
      (okS_seq (okS_drop (okE_call (okA_cons (okE_var 1) okA_nil)))
      (okS_drop (okE_call (okA_cons (okE_op okIx (okE_var 0) (okE_C fun _ => .int _)) (okA_cons (okE_var 1) okA_nil))))))⟩⟩



theorem ok_is_lot_in (a : At K mg "is_lot_in" s_is_lot_in) (F : FnD P w K mg base "is_row_in" 15 d_is_row_in) (T : Txt K mg C) : FnD P w K mg base "is_lot_in" 16 d_is_lot_in := by
  refine fnD_of a (b_is_lot_in F T) sc_is_lot_in (fun _ _ _ _ _ _ us hl => match us, hl with | [_], _ => rfl) ?_ ?_
  · rintro ds μ k ⟨_, _, rfl, _⟩; rfl
  · rintro ds μ k ⟨lot, n, rfl, ⟨h1, h2, h3, h4⟩, h⟩
    simp [-asQ, -asL, -List.map_map, r_is_lot_in]
    rw [if_pos (by omega), if_neg (by omega)]
    refine lcW_map lot rowD (fun p => .bl (isRow p)) (.l _) (by omega) (fun p hp kt kf q => ?_) ?_
    · simp [wipeD]
      refine ⟨p, rfl, ?_, q⟩
      have := (h3 p hp).1
      simp [isRow] at this
      omega
    · refine all_of rfl ?_
      rw [show lot.all isRow = true from List.all_eq_true.mpr fun p hp => (h3 p hp).1]
      simp [-asQ, -asL, -List.map_map]
      have e0 : ∃ p0, lot[0]? = some p0 := ⟨lot[0], List.getElem?_eq_getElem (by omega)⟩
      obtain ⟨p0, e0⟩ := e0
      have l0 : p0.length = n := (h3 p0 (List.mem_of_getElem? e0)).2
      have a0 : atI (lot.map rowD) 0 = some (rowD p0) := by
        unfold atI ixN
        rw [List.length_map, if_pos (by omega), if_pos (by omega)]
        simp [e0]
      refine lcW_map lot rowD (fun _ => .bl false) (.l _) (by omega) (fun p hp kt kf q => ?_) ?_
      · simp [-asQ, -asL, -List.map_map, wipeD, asQ_tup, a0, (h3 p hp).2, l0]
        exact q
      · refine any_of (f := fun _ => false) rfl ?_
        rw [show (lot.any fun _ => false) = false by simp]
        simp [-asQ, -asL, -List.map_map]
        have ec : DL.cutD (lot.map rowD) (some 1) none = (lot.drop 1).map rowD := by
          have s1 : HT.sIx lot.length 0 (some 1) = 1 := by
            unfold HT.sIx
            simp
            omega
          unfold DL.cutD
          rw [List.length_map, s1, show HT.sIx lot.length lot.length none = lot.length from rfl]
          rw [List.take_of_length_le (by simp), List.map_drop]
        refine ⟨_, asQ_tup, _, asQ_tup, ?_⟩
        rw [ec]
        have src := Src.z (μ := μ) (x := lotD lot) (y := .tup ((lot.drop 1).map rowD)) asQ_tup asQ_tup
        have e : (((lot.map rowD).zip ((lot.drop 1).map rowD)).map fun q => D.tup [q.1, q.2]) = (lot.zip (lot.drop 1)).map fun q => D.tup [rowD q.1, rowD q.2] := by
          rw [List.zip_map, List.map_map]; rfl
        rw [e] at src
        refine lcW_map (lot.zip (lot.drop 1)) _ (fun q => .bl (HT.lexLt q.1 q.2)) src (by rw [List.length_zip]; omega) (fun q hq kt kf q1 => ?_) ?_
        · simp [-asQ, -asL, -List.map_map, wipeD]
          exact ⟨q.1, rfl, q.2, rfl, q1⟩
        · refine all_of (f := fun q : List Int × List Int => HT.lexLt q.1 q.2) rfl ?_
          rw [show ((lot.zip (lot.drop 1)).all fun q => HT.lexLt q.1 q.2) = true from List.all_eq_true.mpr fun q hq => ?_]
          · exact h
          · obtain ⟨i, hi, rfl⟩ := List.getElem_of_mem hq
            rw [List.length_zip, List.length_drop] at hi
            rw [lexLt_eq]
            simp only [List.getElem_zip, List.getElem_drop]
            exact decide_eq_true (List.pairwise_iff_getElem.mp h4 i (1 + i) (by omega) (by omega) (by omega))
theorem ok_require_lot (a : At K mg "require_lot" s_require_lot) (F : FnD P w K mg base "is_lot_in" 16 d_is_lot_in) (T : Txt K mg C) : FnD P w K mg base "require_lot" 23 d_require_lot := by
  refine fnD_of a (b_require_lot F T) sc_require_lot (fun _ _ _ _ _ _ us hl => match us, hl with | [_], _ => rfl) ?_ ?_
  · rintro ds μ k ⟨_, _, rfl, _⟩; rfl
  · rintro ds μ k ⟨lot, n, rfl, hl, h⟩
    simp [-List.map_map, r_require_lot]
    refine ⟨lot, n, rfl, hl, ?_⟩
    simp
    exact h
theorem ok_require_lot_and_row (a : At K mg "require_lot_and_row" s_require_lot_and_row) (F1 : FnD P w K mg base "require_lot" 23 d_require_lot) (F2 : FnD P w K mg base "require_row" 22 d_require_row) (F3 : FnD P w K mg base "require_lengths" 24 d_require_lengths) (T : Txt K mg C) : FnD P w K mg base "require_lot_and_row" 25 d_require_lot_and_row := by
  refine fnD_of a (b_require_lot_and_row F1 F2 F3 T) sc_require_lot_and_row (fun _ _ _ _ _ _ us hl => match us, hl with | [_, _], _ => rfl) ?_ ?_
  · rintro ds μ k ⟨_, _, rfl, _⟩; rfl
  · rintro ds μ k ⟨lot, row, rfl, hl, hr, h⟩
    have e0 : ∃ p0, lot[0]? = some p0 := ⟨lot[0]'(by have := hl.1; omega), List.getElem?_eq_getElem _⟩
    obtain ⟨p0, e0⟩ := e0
    have l0 : p0.length = row.length := (hl.2.2.1 p0 (List.mem_of_getElem? e0)).2
    have a0 : atI (lot.map rowD) 0 = some (rowD p0) := by
      unfold atI ixN
      rw [List.length_map, if_pos (by omega), if_pos (by have := hl.1; omega)]
      simp [e0]
    simp [-asQ, -asL, -List.map_map, r_require_lot_and_row]
    refine ⟨lot, row.length, rfl, hl, row, rfl, hr, _, asQ_tup, _, a0, p0, row, rfl, l0, h⟩
end
end K05


set_option Elab.async false
set_option linter.all false
set_option maxRecDepth 100000
set_option maxHeartbeats 4000000
namespace K05
open PySem PySem.Spec PyProof.Rows L2 SlX DL
open Sx (Vec dd tt cost hset Good Units Ratio bnd sumN)
def d_inside_or_beyond : DSp := fun ds μ k => ∃ lot row, ds = [lotD lot, rowD row] ∧ IsLot lot row.length ∧ isRow row = true ∧ FitsRow lot row ∧
  (∀ f : List Int, f.length = row.length → (∀ x ∈ f, Sz x) → (∀ p ∈ lot, dotL f p < dotL f row) → k (.tup [.str "beyond", rowD f]) μ) ∧
  (∀ (ns : List Int) (b : Int), ns.length = lot.length → (∀ x ∈ ns, 0 ≤ x ∧ Sz x) → 0 < b → Sz b → ns.sum = b → (∀ i, i < row.length → (sumN lot.length fun j => ns.getD j 0 * (lot.getD j []).getD i 0) = b * row.getD i 0) → k (.tup [.str "inside", .int b, rowD ns]) μ)
section
variable {P : Program} {w : World} {K : PySem.W.Frag} {mg : Str → Option Value} {base : Heap} {C : Addr}
abbrev s_inside_or_beyond : Stmt := topS 44
abbrev N_inside_or_beyond : List Str := ["lot", "row"]
theorem sc_inside_or_beyond : FnScope N_inside_or_beyond ["lot", "row"] (defScope s_inside_or_beyond) := ⟨rfl, rfl, rfl, by decide +kernel, rfl, by decide +kernel, by decide +kernel⟩
def r_inside_or_beyond : RS :=
  (rSeq (rDrop (rCall d_require_lot_and_row (rCons (rVar 0) (rCons (rVar 1) rNil))))
  (rRet (rCall d_inside_or_beyond_in (rCons (rVar 0) (rCons (rVar 1) rNil)))))
theorem b_inside_or_beyond (F_require_lot_and_row : FnD P w K mg base "require_lot_and_row" 25 d_require_lot_and_row) (F_inside_or_beyond_in : FnD P w K mg base "inside_or_beyond_in" 19 d_inside_or_beyond_in) (T : Txt K mg C) : Body P w K mg base 25 "inside_or_beyond" s_inside_or_beyond N_inside_or_beyond (r_inside_or_beyond) := by
  refine fun f => ⟨_, fun cdv A outer s H E hr => ⟨(pss_cons (ps_expr (ke_call K F_require_lot_and_row hr (pa_cons (pv 0) (pa_cons (pv 1) pa_nil))))
      (pss_one (ps_ret (ke_call K F_inside_or_beyond_in hr (pa_cons (pv 0) (pa_cons (pv 1) pa_nil)))))),
    (okS_seq (okS_drop (okE_call (okA_cons (okE_var 0) (okA_cons (okE_var 1) okA_nil))))
      (okS_ret (okE_call (okA_cons (okE_var 0) (okA_cons (okE_var 1) okA_nil)))))⟩⟩



theorem ok_inside_or_beyond (a : At K mg "inside_or_beyond" s_inside_or_beyond) (F1 : FnD P w K mg base "require_lot_and_row" 25 d_require_lot_and_row) (F2 : FnD P w K mg base "inside_or_beyond_in" 19 d_inside_or_beyond_in) (T : Txt K mg C) : FnD P w K mg base "inside_or_beyond" 26 d_inside_or_beyond := by
  refine fnD_of a (b_inside_or_beyond F1 F2 T) sc_inside_or_beyond (fun _ _ _ _ _ _ us hl => match us, hl with | [_, _], _ => rfl) ?_ ?_
  · rintro ds μ k ⟨_, _, rfl, _⟩; rfl
  · rintro ds μ k ⟨lot, row, rfl, hl, hr, fr, kf, kn⟩
    simp [-List.map_map, r_inside_or_beyond]
    exact ⟨lot, row, rfl, hl, hr, lot, row, rfl, fr, kf, kn⟩
end
end K05


set_option Elab.async false
set_option linter.all false
set_option maxRecDepth 100000
set_option maxHeartbeats 4000000
namespace K05
open PySem PySem.Spec PyProof.Rows L2 SlX DL
open Sx (Vec dd tt cost hset Good Units Ratio bnd sumN)
/-! a point among the others -/
def others (lot : List (List Int)) (i : Nat) : List (List Int) := lot.take i ++ lot.drop (i + 1)
theorem cut_take {α : Type} {e : α → D} {xs : List α} {i : Nat} (hi : i ≤ xs.length) : DL.cutD (xs.map e) none (some ((i : Nat) : Int)) = (xs.take i).map e := by
  have s2 : HT.sIx xs.length xs.length (some ((i : Nat) : Int)) = i := by
    unfold HT.sIx
    simp
    rw [if_neg (by omega)]
    omega
  unfold DL.cutD
  rw [List.length_map, s2, show HT.sIx xs.length 0 none = 0 from rfl, List.drop_zero, Nat.sub_zero, List.map_take]
theorem cut_drop {α : Type} {e : α → D} {xs : List α} {i : Nat} (hi : i ≤ xs.length) : DL.cutD (xs.map e) (some ((i : Nat) : Int)) none = (xs.drop i).map e := by
  have s1 : HT.sIx xs.length 0 (some ((i : Nat) : Int)) = i := by
    unfold HT.sIx
    simp
    rw [if_neg (by omega)]
    omega
  unfold DL.cutD
  rw [List.length_map, s1, show HT.sIx xs.length xs.length none = xs.length from rfl, List.take_of_length_le (by simp), List.map_drop]
theorem cut_takeD {xs : List D} {i : Nat} (hi : i ≤ xs.length) : DL.cutD xs none (some ((i : Nat) : Int)) = xs.take i := by
  have := cut_take (e := id) hi
  simpa using this
theorem cut_dropD {xs : List D} {i : Nat} (hi : i ≤ xs.length) : DL.cutD xs (some ((i : Nat) : Int)) none = xs.drop i := by
  have := cut_drop (e := id) hi
  simpa using this
/-- a paper's form, right or not -/
def Shape (c w : Str) (n m : Nat) (v : D) : Prop := (∃ f : List Int, v = .tup [.str c, rowD f] ∧ f.length = n ∧ ∀ x ∈ f, Sz x) ∨ ∃ (b : Int) (ns : List Int), v = .tup [.str w, .int b, rowD ns] ∧ ns.length = m ∧ Sz b ∧ ∀ x ∈ ns, Sz x
def d_others_in : DSp := fun ds μ k => ∃ lot i, ds = [lotD lot, .int (i : Nat)] ∧ i < lot.length ∧ lot.length ≤ 1000 ∧ k (lotD (others lot i)) μ
def d_require_point : DSp := fun ds μ k => ∃ lot n i, ds = [lotD lot, .int (i : Nat)] ∧ IsLot lot n ∧ i < lot.length ∧ k .non μ
def d_corner_or_weights_in : DSp := fun ds μ k => ∃ lot i p, ds = [lotD lot, .int (i : Nat)] ∧ lot[i]? = some p ∧ lot.length ≤ 1000 ∧ FitsRow (others lot i) p ∧ ∀ v, Shape "corner" "weights" p.length lot.length v → k v μ
def d_corner_or_weights : DSp := fun ds μ k => ∃ lot n i p, ds = [lotD lot, .int (i : Nat)] ∧ IsLot lot n ∧ lot[i]? = some p ∧ FitsRow (others lot i) p ∧ ∀ v, Shape "corner" "weights" p.length lot.length v → k v μ
section
variable {P : Program} {w : World} {K : PySem.W.Frag} {mg : Str → Option Value} {base : Heap} {C : Addr}
abbrev s_others_in : Stmt := topS 32
abbrev N_others_in : List Str := ["lot", "index"]
theorem sc_others_in : FnScope N_others_in ["lot", "index"] (defScope s_others_in) := ⟨rfl, rfl, rfl, by decide +kernel, rfl, by decide +kernel, by decide +kernel⟩
def r_others_in : RS :=
  (rRet (rTup (rStar (rSlc oSlT (rVar 0) rNo (rPart (rVar 1))) (rStar (rSlc oSlT (rVar 0) (rPart (rOp (oI fun i j => i + j) (rVar 1) (rC (.int 1)))) rNo) rNil))))
theorem b_others_in (T : Txt K mg C) : Body P w K mg base 43 "others_in" s_others_in N_others_in (r_others_in) := by
  refine fun f => ⟨_, fun cdv A outer s H E hr => ⟨(pss_one (ps_ret (pe_tup (ka_star K (pe_slice (ks_tupA K) (pv 0) po_none (po_some (pv 1))) (ka_star K (pe_slice (ks_tupA K) (pv 0) (po_some (pe_op op_add (pv 1) pe_int)) po_none) pa_nil))))),
    (okS_ret (okE_tup (okA_star (okE_slc okSlT (okE_var 0) okO_no (okO_part (okE_var 1))) (okA_star (okE_slc okSlT (okE_var 0) (okO_part (okE_op okI (okE_var 1) (okE_C fun _ => .int _))) okO_no) okA_nil))))⟩⟩

abbrev s_require_point : Stmt := topS 41
abbrev N_require_point : List Str := ["lot", "index"]
theorem sc_require_point : FnScope N_require_point ["lot", "index"] (defScope s_require_point) := ⟨rfl, rfl, rfl, by decide +kernel, rfl, by decide +kernel, by decide +kernel⟩
def r_require_point : RS :=
  (rSeq (rDrop (rCall d_require_lot (rCons (rVar 0) rNil)))
  (rDrop (rCall d_require_from (rCons (rVar 1) (rCons (rC (.int 0)) (rCons (rOp (oI fun i j => i - j) (rCB oLen (rCons (rVar 0) rNil)) (rC (.int 1))) rNil))))))
theorem b_require_point (F_require_lot : FnD P w K mg base "require_lot" 23 d_require_lot) (F_require_from : FnD P w K mg base "require_from" 42 d_require_from) (T : Txt K mg C) : Body P w K mg base 42 "require_point" s_require_point N_require_point (r_require_point) := by
  refine fun f => ⟨_, fun cdv A outer s H E hr => ⟨(pss_cons (ps_expr (ke_call K F_require_lot hr (pa_cons (pv 0) pa_nil)))
      (pss_one (ps_expr (ke_call K F_require_from hr (pa_cons (pv 1) (pa_cons pe_int (pa_cons (pe_op op_sub (kb_call (kc_len K) T.b_len (pa_cons (pv 0) pa_nil)) pe_int) pa_nil))))))),
    (okS_seq (okS_drop (okE_call (okA_cons (okE_var 0) okA_nil)))
      (okS_drop (okE_call (okA_cons (okE_var 1) (okA_cons (okE_C fun _ => .int _) (okA_cons (okE_op okI (okE_CB okLen (okA_cons (okE_var 0) okA_nil)) (okE_C fun _ => .int _)) okA_nil))))))⟩⟩

abbrev s_corner_or_weights_in : Stmt := topS 33
abbrev N_corner_or_weights_in : List Str := ["lot", "index", "number", "told"]
theorem sc_corner_or_weights_in : FnScope N_corner_or_weights_in ["lot", "index"] (defScope s_corner_or_weights_in) := ⟨rfl, rfl, rfl, by decide +kernel, rfl, by decide +kernel, by decide +kernel⟩
def r_corner_or_weights_in : RS :=
  (rSeq (rAsg (rCall d_weights_in (rCons (rCall d_others_in (rCons (rVar 0) (rCons (rVar 1) rNil))) (rCons (rOp oIx (rVar 0) (rVar 1)) rNil))) (rgTup 2 (rgCons (rgName 2) (rgCons (rgName 3) rgNil))))
  (rSeq (rIfS (rB (rOp oIsN (rVar 2) (rC .non))) (rRet (rTup (rCons (rC (.str "corner")) (rCons (rVar 3) rNil)))) rNext)
  (rRet (rTup (rCons (rC (.str "weights")) (rCons (rVar 2) (rCons (rTup (rStar (rSlc oSlT (rVar 3) rNo (rPart (rVar 1))) (rCons (rC (.int 0)) (rStar (rSlc oSlT (rVar 3) (rPart (rVar 1)) rNo) rNil)))) rNil)))))))
theorem b_corner_or_weights_in (F_weights_in : FnD P w K mg base "weights_in" 18 d_weights_in) (F_others_in : FnD P w K mg base "others_in" 44 d_others_in) (T : Txt K mg C) : Body P w K mg base 44 "corner_or_weights_in" s_corner_or_weights_in N_corner_or_weights_in (r_corner_or_weights_in) := by
  refine fun f => ⟨_, fun cdv A outer s H E hr => ⟨(pss_cons (ps_asg (ke_call K F_weights_in hr (pa_cons (ke_call K F_others_in hr (pa_cons (pv 0) (pa_cons (pv 1) pa_nil))) (pa_cons (pe_ix (kx_seq K) (pv 0) (pv 1) (fun _ _ => rfl)) pa_nil))) (kg_tup K (pgs_cons (pg_name (i := 2) sc_corner_or_weights_in.nd rfl (Or.inl rfl)) (pgs_cons (pg_name (i := 3) sc_corner_or_weights_in.nd rfl (Or.inl rfl)) pgs_nil))))
      (pss_cons (ps_if (pt_cmpR op_isN (pv 2) pe_non (nomark _)) (pss_one (ps_ret (pe_tup (pa_cons (ke_globS T.c_CORNER) (pa_cons (pv 3) pa_nil))))) pss_nil)
      (pss_one (ps_ret (pe_tup (pa_cons (ke_globS T.c_WEIGHTS) (pa_cons (pv 2) (pa_cons (pe_tup (ka_star K (pe_slice (ks_tupA K) (pv 3) po_none (po_some (pv 1))) (pa_cons pe_int (ka_star K (pe_slice (ks_tupA K) (pv 3) (po_some (pv 1)) po_none) pa_nil)))) pa_nil)))))))),
    (okS_seq (okS_asg (okE_call (okA_cons (okE_call (okA_cons (okE_var 0) (okA_cons (okE_var 1) okA_nil))) (okA_cons (okE_op okIx (okE_var 0) (okE_var 1)) okA_nil))) (okG_tup (okGs_cons (okG_name 2) (okGs_cons (okG_name 3) okGs_nil))))
      (okS_seq (okS_if (okT_test (okE_op okIsN (okE_var 2) (okE_C fun _ => .non))) (okS_ret (okE_tup (okA_cons (okE_C fun _ => .str _) (okA_cons (okE_var 3) okA_nil)))) okS_next)
      (okS_ret (okE_tup (okA_cons (okE_C fun _ => .str _) (okA_cons (okE_var 2) (okA_cons (okE_tup (okA_star (okE_slc okSlT (okE_var 3) okO_no (okO_part (okE_var 1))) (okA_cons (okE_C fun _ => .int _) (okA_star (okE_slc okSlT (okE_var 3) (okO_part (okE_var 1)) okO_no) okA_nil)))) okA_nil)))))))⟩⟩

abbrev s_corner_or_weights : Stmt := topS 42
abbrev N_corner_or_weights : List Str := ["lot", "index"]
theorem sc_corner_or_weights : FnScope N_corner_or_weights ["lot", "index"] (defScope s_corner_or_weights) := ⟨rfl, rfl, rfl, by decide +kernel, rfl, by decide +kernel, by decide +kernel⟩
def r_corner_or_weights : RS :=
  (rSeq (rDrop (rCall d_require_point (rCons (rVar 0) (rCons (rVar 1) rNil))))
  (rRet (rCall d_corner_or_weights_in (rCons (rVar 0) (rCons (rVar 1) rNil)))))
theorem b_corner_or_weights (F_require_point : FnD P w K mg base "require_point" 43 d_require_point) (F_corner_or_weights_in : FnD P w K mg base "corner_or_weights_in" 45 d_corner_or_weights_in) (T : Txt K mg C) : Body P w K mg base 45 "corner_or_weights" s_corner_or_weights N_corner_or_weights (r_corner_or_weights) := by
  refine fun f => ⟨_, fun cdv A outer s H E hr => ⟨(pss_cons (ps_expr (ke_call K F_require_point hr (pa_cons (pv 0) (pa_cons (pv 1) pa_nil))))
      (pss_one (ps_ret (ke_call K F_corner_or_weights_in hr (pa_cons (pv 0) (pa_cons (pv 1) pa_nil)))))),
    (okS_seq (okS_drop (okE_call (okA_cons (okE_var 0) (okA_cons (okE_var 1) okA_nil))))
      (okS_ret (okE_call (okA_cons (okE_var 0) (okA_cons (okE_var 1) okA_nil)))))⟩⟩



theorem ok_others_in (a : At K mg "others_in" s_others_in) (T : Txt K mg C) : FnD P w K mg base "others_in" 44 d_others_in := by
  refine fnD_of a (b_others_in T) sc_others_in (fun _ _ _ _ _ _ us hl => match us, hl with | [_, _], _ => rfl) ?_ ?_
  · rintro ds μ k ⟨_, _, rfl, _⟩; rfl
  · rintro ds μ k ⟨lot, i, rfl, hi, hl, h⟩
    simp [-asQ, -asL, -List.map_map, r_others_in]
    refine ⟨_, asQ_tup, _, asQ_tup, ?_⟩
    have e1 : ((i : Nat) : Int) + 1 = ((i + 1 : Nat) : Int) := by omega
    rw [e1, cut_take (by omega), cut_drop (by omega)]
    refine ⟨by simp; omega, ?_⟩
    have e : lotD (others lot i) = .tup (List.map rowD (lot.take i) ++ List.map rowD (lot.drop (i + 1))) := by simp [others, lotD]
    rw [e] at h
    exact h
theorem ok_require_point (a : At K mg "require_point" s_require_point) (F1 : FnD P w K mg base "require_lot" 23 d_require_lot) (F2 : FnD P w K mg base "require_from" 42 d_require_from) (T : Txt K mg C) : FnD P w K mg base "require_point" 43 d_require_point := by
  refine fnD_of a (b_require_point F1 F2 T) sc_require_point (fun _ _ _ _ _ _ us hl => match us, hl with | [_, _], _ => rfl) ?_ ?_
  · rintro ds μ k ⟨_, _, _, rfl, _⟩; rfl
  · rintro ds μ k ⟨lot, n, i, rfl, hl, hi, h⟩
    simp [-List.map_map, r_require_point]
    exact ⟨lot, n, rfl, hl, _, _, _, rfl, by omega, by omega, h⟩
theorem atI_lot {lot : List (List Int)} {i : Nat} {p : List Int} (h : lot[i]? = some p) : atI (lot.map rowD) ((i : Nat) : Int) = some (rowD p) := by
  have hi : i < lot.length := by
    by_cases hi : i < lot.length
    · exact hi
    · rw [List.getElem?_eq_none (by omega)] at h; cases h
  unfold atI ixN
  rw [List.length_map, if_pos (by omega), if_pos (by omega)]
  simp [h]
theorem lt_of_get {α : Type} {xs : List α} {i : Nat} {x : α} (h : xs[i]? = some x) : i < xs.length := by
  by_cases hi : i < xs.length
  · exact hi
  · rw [List.getElem?_eq_none (by omega)] at h; cases h
theorem ok_corner_or_weights_in (a : At K mg "corner_or_weights_in" s_corner_or_weights_in) (F1 : FnD P w K mg base "weights_in" 18 d_weights_in) (F2 : FnD P w K mg base "others_in" 44 d_others_in) (T : Txt K mg C) : FnD P w K mg base "corner_or_weights_in" 45 d_corner_or_weights_in := by
  refine fnD_of a (b_corner_or_weights_in F1 F2 T) sc_corner_or_weights_in (fun _ _ _ _ _ _ us hl => match us, hl with | [_, _], _ => rfl) ?_ ?_
  · rintro ds μ k ⟨_, _, _, rfl, _⟩; rfl
  · rintro ds μ k ⟨lot, i, p, rfl, hp, hl, fr, h⟩
    have hi := lt_of_get hp
    simp [-asQ, -asL, -List.map_map, r_corner_or_weights_in]
    refine ⟨lot, i, rfl, hi, hl, ?_⟩
    refine ⟨_, asQ_tup, _, atI_lot hp, ?_⟩
    refine ⟨others lot i, p, rfl, fr, fun f h1 h2 h3 => ?_, fun ns b h1 h2 h3 h4 h5 h6 => ?_⟩
    · simp [-List.map_map, DL.isNon]
      exact h _ (.inl ⟨f, rfl, h1, h2⟩)
    · have hn : ns.length + 1 = lot.length := by rw [h1]; simp [others]; omega
      simp [-asQ, -asL, -List.map_map, DL.isNon]
      refine ⟨_, asQ_tup, _, asQ_tup, ?_⟩
      rw [cut_take (by omega), cut_drop (by omega)]
      refine ⟨by simp; omega, ?_⟩
      refine h _ (.inr ⟨b, ns.take i ++ 0 :: ns.drop i, by simp, by simp; omega, h4, fun x hx => ?_⟩)
      rcases List.mem_append.mp hx with hx | hx
      · exact (h2 x (List.take_subset _ _ hx)).2
      · rcases List.mem_cons.mp hx with hx | hx
        · subst hx; exact Nat.two_pow_pos _
        · exact (h2 x (List.drop_subset _ _ hx)).2
theorem ok_corner_or_weights (a : At K mg "corner_or_weights" s_corner_or_weights) (F1 : FnD P w K mg base "require_point" 43 d_require_point) (F2 : FnD P w K mg base "corner_or_weights_in" 45 d_corner_or_weights_in) (T : Txt K mg C) : FnD P w K mg base "corner_or_weights" 46 d_corner_or_weights := by
  refine fnD_of a (b_corner_or_weights F1 F2 T) sc_corner_or_weights (fun _ _ _ _ _ _ us hl => match us, hl with | [_, _], _ => rfl) ?_ ?_
  · rintro ds μ k ⟨_, _, _, _, rfl, _⟩; rfl
  · rintro ds μ k ⟨lot, n, i, p, rfl, hl, hp, fr, h⟩
    simp [-List.map_map, r_corner_or_weights]
    exact ⟨lot, n, i, rfl, hl, lt_of_get hp, lot, i, p, rfl, hp, by have := hl.2.1; omega, fr, h⟩
end
end K05


set_option Elab.async false
set_option linter.all false
set_option maxRecDepth 100000
set_option maxHeartbeats 4000000
namespace K05
open PySem PySem.Spec PyProof.Rows L2 SlX DL
open Sx (Vec dd tt cost hset Good Units Ratio bnd sumN)
/-! which values are papers -/
def madeL (lot : List (List Int)) (ns : List Int) (m : Nat) : List Int := (List.range m).map fun i => ((ns.zip lot).map fun q => q.1 * q.2.getD i 0).sum
def timesL (r : List Int) (c : Int) : List Int := r.map fun x => c * x
def mem (v : D) (i : Nat) : D := match v with
  | .tup ds => ds.getD i .non
  | _ => .non
def formB (pts : List (List Int)) (row : List Int) (v : D) : Bool := match wrow v row.length with
  | some f => pts.all fun p => decide (dotL f p < dotL f row)
  | none => false
def weightsB (lot : List (List Int)) (row : List Int) (nb v : D) : Bool := match nb with
  | .int b => !decide (b < 1) && match wrow v lot.length with
    | some ns => ns.all (fun x => decide (0 ≤ x)) && decide (ns.sum = b) && decide (madeL lot ns row.length = timesL row b)
    | none => false
  | _ => false
def toldB (v : D) (w : Str) (m : Int) : Bool := match v with
  | .tup (.str s :: vs) => decide ((vs.length : Int) + 1 = m) && decide (s = w)
  | _ => false
def pointB (lot : List (List Int)) (i : Nat) (row : List Int) (v : D) : Bool :=
  if toldB v "corner" 2 = true then formB (others lot i) row (mem v 1)
  else if (toldB v "weights" 3 && weightsB lot row (mem v 1) (mem v 2)) = true then (match wrow (mem v 2) lot.length with | some ns => decide (ns.getD i 0 = 0) | none => false) else false
def rowB (lot : List (List Int)) (row : List Int) (v : D) : Bool :=
  if toldB v "beyond" 2 = true then formB lot row (mem v 1) else toldB v "inside" 3 && weightsB lot row (mem v 1) (mem v 2)
/-- a value that may be judged -/
structure Any (v : D) : Prop where
  pd : ∃ n, n ≤ 50 ∧ Pd 2000 10000 n v
theorem Any.plain {v : D} (h : Any v) : Plain v = true := let ⟨_, _, p⟩ := h.pd; p.plain
theorem Any.tup {ds : List D} (h : Any (.tup ds)) : ds.length ≤ 10000 ∧ ∀ d ∈ ds, Any d := by
  obtain ⟨n, hn, p⟩ := h.pd
  cases n with
  | zero => exact p.elim
  | succ n => exact ⟨p.1, fun d hd => ⟨n, by omega, p.2 d hd⟩⟩
theorem Any.wholes {v : D} (h : Any v) : ∀ es, v = .tup es → es.length ≤ 1000000 ∧ ∀ d ∈ es, Plain d = true := fun es e => by
  subst e
  obtain ⟨h1, h2⟩ := h.tup
  exact ⟨by omega, fun d hd => (h2 d hd).plain⟩
theorem Any.row {ns : List Int} (h : Any (rowD ns)) : ns.length ≤ 10000 ∧ ∀ x ∈ ns, Sm 2000 x := let ⟨_, _, p⟩ := h.pd; p.ints
theorem Any.str {s : Str} (h : Any (.str s)) : PyData.strOk s = true := by
  obtain ⟨n, _, p⟩ := h.pd
  cases n <;> exact p.1
theorem Any.int {i : Int} (h : Any (.int i)) : Sm 2000 i := by
  obtain ⟨n, _, p⟩ := h.pd
  cases n <;> exact p
theorem told2 {v : D} {w : Str} (h : toldB v w 2 = true) : ∃ d, v = .tup [.str w, d] := by
  unfold toldB at h
  split at h
  · rename_i s vs
    simp at h
    obtain ⟨h1, rfl⟩ := h
    match vs, h1 with
    | [d], _ => exact ⟨d, rfl⟩
    | [], h => simp at h
    | _ :: _ :: _, h => simp at h; omega
  · cases h
theorem told3 {v : D} {w : Str} (h : toldB v w 3 = true) : ∃ d e, v = .tup [.str w, d, e] := by
  unfold toldB at h
  split at h
  · rename_i s vs
    simp at h
    obtain ⟨h1, rfl⟩ := h
    match vs, h1 with
    | [d, e], _ => exact ⟨d, e, rfl⟩
    | [], h => simp at h
    | [_], h => simp at h
    | _ :: _ :: _ :: _, h => simp at h; omega
  · cases h
def d_is_told : DSp := fun ds μ k => ∃ v w m, ds = [v, .str w, .int m] ∧ Any v ∧ PyData.strOk w = true ∧ 1 ≤ m ∧ k (.bl (toldB v w m)) μ
def d_is_form_beyond : DSp := fun ds μ k => ∃ lot row v, ds = [lotD lot, rowD row, v] ∧ Any v ∧ row.length ≤ 1000000 ∧ lot.length ≤ 1000000 ∧ (∀ p ∈ lot, ∀ x ∈ p, Sm 2000 x) ∧ (∀ x ∈ row, Sm 2000 x) ∧ k (.bl (formB lot row v)) μ
def d_are_weights : DSp := fun ds μ k => ∃ lot row nb v, ds = [lotD lot, rowD row, nb, v] ∧ Any nb ∧ Any v ∧ (∀ p ∈ lot, p.length = row.length) ∧ 1 ≤ lot.length ∧ lot.length ≤ 1000 ∧ row.length ≤ 1000 ∧ (∀ p ∈ lot, ∀ x ∈ p, Sm 2000 x) ∧ (∀ x ∈ row, Sm 2000 x) ∧ k (.bl (weightsB lot row nb v)) μ
section
variable {P : Program} {w : World} {K : PySem.W.Frag} {mg : Str → Option Value} {base : Heap} {C : Addr}
abbrev s_is_told : Stmt := topS 30
abbrev N_is_told : List Str := ["value", "word", "many"]
theorem sc_is_told : FnScope N_is_told ["value", "word", "many"] (defScope s_is_told) := ⟨rfl, rfl, rfl, by decide +kernel, rfl, by decide +kernel, by decide +kernel⟩
def r_is_told : RS :=
  (rRet (rAndV (rIsiB "tuple" (rVar 0)) (rAndV (rOp oEq (rCB oLen (rCons (rVar 0) rNil)) (rVar 2)) (rAndV (rIsiB "str" (rOp oIx (rVar 0) (rC (.int 0)))) (rOp oEq (rOp oIx (rVar 0) (rC (.int 0))) (rVar 1))))))
theorem b_is_told (T : Txt K mg C) : Body P w K mg base 16 "is_told" s_is_told N_is_told (r_is_told) := by
  refine fun f => ⟨_, fun cdv A outer s H E hr => ⟨(pss_one (ps_ret (pe_and (kb_call (kc_isi K) T.b_isinstance (pa_cons (pv 0) (pa_cons (kb_ty (T := "tuple") T.b_tuple) pa_nil))) (pe_and (pe_cmpR (ko_eqD K hr.units) (kb_call (kc_len K) T.b_len (pa_cons (pv 0) pa_nil)) (pv 2) (nomark _)) (pe_and (kb_call (kc_isi K) T.b_isinstance (pa_cons (pe_ix (kx_seq K) (pv 0) pe_int (fun _ _ => rfl)) (pa_cons (kb_ty (T := "str") T.b_str) pa_nil))) (pe_one (pe_cmpR (ko_eqD K hr.units) (pe_ix (kx_seq K) (pv 0) pe_int (fun _ _ => rfl)) (pv 1) (nomark _)))))))),
    (okS_ret (okE_andV (okE_isi (okE_var 0)) (okE_andV (okE_op okEq (okE_CB okLen (okA_cons (okE_var 0) okA_nil)) (okE_var 2)) (okE_andV (okE_isi (okE_op okIx (okE_var 0) (okE_C fun _ => .int _))) (okE_op okEq (okE_op okIx (okE_var 0) (okE_C fun _ => .int _)) (okE_var 1))))))⟩⟩

abbrev s_is_form_beyond : Stmt := topS 36
abbrev N_is_form_beyond : List Str := ["points", "row", "value", "point"]
theorem sc_is_form_beyond : FnScope N_is_form_beyond ["points", "row", "value"] (defScope s_is_form_beyond) := ⟨rfl, rfl, rfl, by decide +kernel, rfl, by decide +kernel, by decide +kernel⟩
def r_is_form_beyond : RS :=
  (rSeq (rIfS (rNot (rB (rCall d_are_wholes (rCons (rVar 2) (rCons (rCB oLen (rCons (rVar 1) rNil)) rNil))))) (rRet (rC (.bl false))) rNext)
  (rRet (rCB oAll (rCons (rLc (rIT (rVar 0)) (rgName 3) rYes (rOp (oB (fun i j => decide (i < j))) (rCall d_dot_in (rCons (rVar 2) (rCons (rVar 3) rNil))) (rCall d_dot_in (rCons (rVar 2) (rCons (rVar 1) rNil)))) [3]) rNil))))
theorem b_is_form_beyond (F_are_wholes : FnD P w K mg base "are_wholes" 3 d_are_wholes) (F_dot_in : FnD P w K mg base "dot_in" 5 d_dot_in) (T : Txt K mg C) : Body P w K mg base 20 "is_form_beyond" s_is_form_beyond N_is_form_beyond (r_is_form_beyond) := by
  refine fun f => ⟨_, fun cdv A outer s H E hr => ⟨(pss_cons (ps_if (pt_not (pt_val (ke_call K F_are_wholes hr (pa_cons (pv 2) (pa_cons (kb_call (kc_len K) T.b_len (pa_cons (pv 1) pa_nil)) pa_nil))))) (pss_one (ps_ret pe_bl)) pss_nil)
      (pss_one (ps_ret (kb_call (kc_all K) T.b_all (pa_cons (pe_lc (own := [("point", 3)]) rfl sc_is_form_beyond.nd (ki_tup K (pv 0)) (blkOk_by (own := [("point", 3)]) (N := N_is_form_beyond) (sc := defScope s_is_form_beyond) (by decide +kernel)) (fun _ _ _ _ _ => (pg_name (i := 3) sc_is_form_beyond.nd rfl (by first | exact Or.inl rfl | exact Or.inr rfl))) (fun _ _ _ _ _ => pts_nil) (fun _ _ _ _ _ => (pe_cmpR op_lt (ke_call K F_dot_in hr (pa_cons (pv 2) (pa_cons (pv 3) pa_nil))) (ke_call K F_dot_in hr (pa_cons (pv 2) (pa_cons (pv 1) pa_nil))) (nomark _)))) pa_nil))))),
    (okS_seq (okS_if (okT_not (okT_B (okE_call (okA_cons (okE_var 2) (okA_cons (okE_CB okLen (okA_cons (okE_var 1) okA_nil)) okA_nil))))) (okS_ret (okE_C fun _ => .bl _)) okS_next)
      (okS_ret (okE_CB okAll (okA_cons (okE_lc (okI_tup (okE_var 0)) (okG_name 3) okT_yes (okE_op okB (okE_call (okA_cons (okE_var 2) (okA_cons (okE_var 3) okA_nil))) (okE_call (okA_cons (okE_var 2) (okA_cons (okE_var 1) okA_nil)))) (by decide)) okA_nil))))⟩⟩

abbrev s_are_weights : Stmt := topS 35
abbrev N_are_weights : List Str := ["lot", "row", "number", "weights", "told", "at", "one", "weight", "point"]
theorem sc_are_weights : FnScope N_are_weights ["lot", "row", "number", "weights"] (defScope s_are_weights) := ⟨rfl, rfl, rfl, by decide +kernel, rfl, by decide +kernel, by decide +kernel⟩
def r_are_weights : RS :=
  (rSeq (rIfS (rOr (rNot (rB (rCall d_is_whole (rCons (rVar 2) rNil)))) (rOr (rB (rOp (oB (fun i j => decide (i < j))) (rVar 2) (rC (.int 1)))) (rNot (rB (rCall d_are_wholes (rCons (rVar 3) (rCons (rCB oLen (rCons (rVar 0) rNil)) rNil))))))) (rRet (rC (.bl false))) rNext)
  (rSeq (rIfS (rOr (rB (rOp (oB (fun i j => decide (i < j))) (rCB oMinT (rCons (rVar 3) rNil)) (rC (.int 0)))) (rB (rOp oNe (rCB oSumT (rCons (rVar 3) rNil)) (rVar 2)))) (rRet (rC (.bl false))) rNext)
  (rSeq (rAsg (rLc (rIR1 (rCons (rCB oLen (rCons (rVar 1) rNil)) rNil)) (rgName 5) rYes (rCB oSum (rCons (rLc (rIZ (rCons (rVar 3) (rCons (rVar 0) rNil))) (rgTup 2 (rgCons (rgName 7) (rgCons (rgName 8) rgNil))) rYes (rOp (oIc CMulW fun i j => i * j) (rVar 7) (rOp oIx (rVar 8) (rVar 5))) [7, 8]) rNil)) [5]) (rgName 4))
  (rRet (rOp oEq (rVar 4) (rLc (rIT (rVar 1)) (rgName 6) rYes (rOp (oIc CMulW fun i j => i * j) (rVar 2) (rVar 6)) [6]))))))
theorem b_are_weights (F_is_whole : FnD P w K mg base "is_whole" 1 d_is_whole) (F_are_wholes : FnD P w K mg base "are_wholes" 3 d_are_wholes) (T : Txt K mg C) : Body P w K mg base 19 "are_weights" s_are_weights N_are_weights (r_are_weights) := by
  refine fun f => ⟨_, fun cdv A outer s H E hr => ⟨(pss_cons (ps_if (PW.pt (pw_or (pt_not (pt_val (ke_call K F_is_whole hr (pa_cons (pv 2) pa_nil)))) (pw_or (pt_cmpR op_lt (pv 2) pe_int (nomark _)) (pw_or1 (pt_not (pt_val (ke_call K F_are_wholes hr (pa_cons (pv 3) (pa_cons (kb_call (kc_len K) T.b_len (pa_cons (pv 0) pa_nil)) pa_nil))))))))) (pss_one (ps_ret pe_bl)) pss_nil)
      (pss_cons (ps_if (PW.pt (pw_or (pt_cmpR op_lt (kb_call (kc_minT K (units1 hr.units)) T.b_min (pa_cons (pv 3) pa_nil)) pe_int (nomark _)) (pw_or1 (pt_cmpR (ko_neD K hr.units) (kb_call (kc_sumT K) T.b_sum (pa_cons (pv 3) pa_nil)) (pv 2) (nomark _))))) (pss_one (ps_ret pe_bl)) pss_nil)
      (pss_cons (ps_setLc (i := 4) (own := [("at", 5)]) rfl sc_are_weights.nd rfl rfl (sw_true rfl rfl rfl (by decide +kernel)) (kr_range1 T.b_range (pa_cons (kb_call (kc_len K) T.b_len (pa_cons (pv 1) pa_nil)) pa_nil)) (blkOk_by (own := [("at", 5)]) (N := N_are_weights) (sc := defScope s_are_weights) (by decide +kernel)) (fun _ _ _ _ _ => (pg_name (i := 5) sc_are_weights.nd rfl (by first | exact Or.inl rfl | exact Or.inr rfl))) (fun _ _ _ _ _ => pts_nil) (fun _ _ _ _ _ => (kb_call (kc_sum K) T.b_sum (pa_cons (pe_lc (own := [("weight", 7), ("point", 8)]) rfl sc_are_weights.nd (ki_zip K (by rfl) T.b_zip (pa_cons (pv 3) (pa_cons (pv 0) pa_nil))) (by refine blkOk_by (own := [("weight", 7), ("point", 8)]) (N := N_are_weights) ?_; kernel_rfl) (fun _ _ _ _ _ => (kg_tup K (pgs_cons (pg_name (i := 7) sc_are_weights.nd rfl (by first | exact Or.inl rfl | exact Or.inr rfl)) (pgs_cons (pg_name (i := 8) sc_are_weights.nd rfl (by first | exact Or.inl rfl | exact Or.inr rfl)) pgs_nil)))) (fun _ _ _ _ _ => pts_nil) (fun _ _ _ _ _ => (pe_op op_mulW (pv 7) (pe_ix (kx_seq K) (pv 8) (pv 5) (fun _ _ => rfl))))) pa_nil))))
      (pss_one (ps_ret (pe_cmpR (ko_eqD K hr.units) (pv 4) (pe_lc (own := [("one", 6)]) rfl sc_are_weights.nd (ki_tup K (pv 1)) (blkOk_by (own := [("one", 6)]) (N := N_are_weights) (sc := defScope s_are_weights) (by decide +kernel)) (fun _ _ _ _ _ => (pg_name (i := 6) sc_are_weights.nd rfl (by first | exact Or.inl rfl | exact Or.inr rfl))) (fun _ _ _ _ _ => pts_nil) (fun _ _ _ _ _ => (pe_op op_mulW (pv 2) (pv 6)))) (nomark _))))))),
    (okS_seq (okS_if (okT_or (okT_not (okT_B (okE_call (okA_cons (okE_var 2) okA_nil)))) (okT_or (okT_test (okE_op okB (okE_var 2) (okE_C fun _ => .int _))) (okT_not (okT_B (okE_call (okA_cons (okE_var 3) (okA_cons (okE_CB okLen (okA_cons (okE_var 0) okA_nil)) okA_nil))))))) (okS_ret (okE_C fun _ => .bl _)) okS_next)
      (okS_seq (okS_if (okT_or (okT_test (okE_op okB (okE_CB okMinT (okA_cons (okE_var 3) okA_nil)) (okE_C fun _ => .int _))) (okT_test (okE_op okNe (okE_CB okSumT (okA_cons (okE_var 3) okA_nil)) (okE_var 2)))) (okS_ret (okE_C fun _ => .bl _)) okS_next)
      (okS_seq (okS_asg (okE_lc (okI_range1 (okA_cons (okE_CB okLen (okA_cons (okE_var 1) okA_nil)) okA_nil)) (okG_name 5) okT_yes (okE_CB okSum (okA_cons (okE_lc (okI_zip (okA_cons (okE_var 3) (okA_cons (okE_var 0) okA_nil))) (okG_tup (okGs_cons (okG_name 7) (okGs_cons (okG_name 8) okGs_nil))) okT_yes (okE_op okIc (okE_var 7) (okE_op okIx (okE_var 8) (okE_var 5))) (by decide)) okA_nil)) (by decide)) (okG_name 4))
      (okS_ret (okE_op okEq (okE_var 4) (okE_lc (okI_tup (okE_var 1)) (okG_name 6) okT_yes (okE_op okIc (okE_var 2) (okE_var 6)) (by decide)))))))⟩⟩



theorem ok_is_told (a : At K mg "is_told" s_is_told) (T : Txt K mg C) : FnD P w K mg base "is_told" 17 d_is_told := by
  refine fnD_of a (b_is_told T) sc_is_told (fun _ _ _ _ _ _ us hl => match us, hl with | [_, _, _], _ => rfl) ?_ ?_
  · rintro ds μ k ⟨_, _, _, rfl, _⟩; rfl
  · rintro ds μ k ⟨v, w', m, rfl, hv, hw, hm1, h⟩
    cases v with
    | tup es =>
      simp [-asQ, -asL, -List.map_map, r_is_told, asQ_tup]
      split
      · rename_i hm
        match es, hm with
        | [], hm => simp at hm; omega
        | d :: es, hm =>
          have a0 : atI (d :: es) 0 = some d := by simp [atI, ixN]
          have hd := (hv.tup).2 d (by simp)
          refine ⟨_, a0, ?_⟩
          have fal : (∀ s, d ≠ .str s) → k (.bl false) μ := fun hs => by
            have e : toldB (.tup (d :: es)) w' m = false := by
              unfold toldB
              split
              · rename_i s vs e
                injection e with e
                injection e with e1 e2
                exact absurd e1 (hs s)
              · rfl
            rw [e] at h; exact h
          cases d with
          | str s =>
            simp [-asQ, -asL, -List.map_map, -oEq]
            refine ⟨_, a0, ?_⟩
            refine oEq_str hd.str hw ?_
            have hm' : (es.length : Int) + 1 = m := by simpa using hm
            simpa [toldB, hm'] using h
          | non => simpa using fal (fun s z => nomatch z)
          | bl b => simpa using fal (fun s z => nomatch z)
          | int b => simpa using fal (fun s z => nomatch z)
          | tup b => simpa using fal (fun s z => nomatch z)
          | lst b => simpa using fal (fun s z => nomatch z)
          | _ => exact Bool.noConfusion hd.plain
      · rename_i hm
        have e : toldB (.tup es) w' m = false := by
          unfold toldB
          split
          · rename_i s vs e
            injection e with e
            subst e
            simp at hm
            simp [hm]
          · rfl
        rw [e] at h; exact h
    | non => simpa [r_is_told, toldB] using h
    | bl b => simpa [r_is_told, toldB] using h
    | int i => simpa [r_is_told, toldB] using h
    | str s => simpa [r_is_told, toldB] using h
    | lst es => simpa [r_is_told, toldB] using h
    | _ => exact Bool.noConfusion hv.plain
theorem ok_is_form_beyond (a : At K mg "is_form_beyond" s_is_form_beyond) (F1 : FnD P w K mg base "are_wholes" 3 d_are_wholes) (F2 : FnD P w K mg base "dot_in" 5 d_dot_in) (T : Txt K mg C) : FnD P w K mg base "is_form_beyond" 21 d_is_form_beyond := by
  refine fnD_of a (b_is_form_beyond F1 F2 T) sc_is_form_beyond (fun _ _ _ _ _ _ us hl => match us, hl with | [_, _, _], _ => rfl) ?_ ?_
  · rintro ds μ k ⟨_, _, _, rfl, _⟩; rfl
  · rintro ds μ k ⟨lot, row, v, rfl, hv, hr, hl, s1, s2, h⟩
    simp [-asQ, -asL, -List.map_map, r_is_form_beyond]
    refine ⟨v, row.length, rfl, hv.plain, hv.wholes, ?_⟩
    unfold formB at h
    cases q : wrow v row.length with
    | none =>
      rw [q] at h
      simpa using h
    | some f =>
      rw [q] at h
      obtain ⟨rfl, hf⟩ := wrow_some q
      have hf : f.length = row.length := by omega
      have s3 : ∀ x ∈ f, Sm 100000 x := fun x hx => (hv.row.2 x hx).mono (by omega)
      simp [-asQ, -asL, -List.map_map]
      refine lcW_map lot rowD (fun p => .bl (decide (dotL f p < dotL f row))) (.l _) hl (fun p hp kt kf q => ?_) ?_
      · simp [-asQ, -asL, -List.map_map, wipeD]
        refine ⟨f, p, rfl, by omega, s3, fun x hx => (s1 p hp x hx).mono (by omega), ?_⟩
        refine ⟨f, row, rfl, by omega, s3, fun x hx => (s2 x hx).mono (by omega), ?_⟩
        simpa using q
      · exact all_of (f := fun p => decide (dotL f p < dotL f row)) rfl h
theorem ok_are_weights (a : At K mg "are_weights" s_are_weights) (F1 : FnD P w K mg base "is_whole" 1 d_is_whole) (F2 : FnD P w K mg base "are_wholes" 3 d_are_wholes) (T : Txt K mg C) : FnD P w K mg base "are_weights" 20 d_are_weights := by
  refine fnD_of a (b_are_weights F1 F2 T) sc_are_weights (fun _ _ _ _ _ _ us hl => match us, hl with | [_, _, _, _], _ => rfl) ?_ ?_
  · rintro ds μ k ⟨_, _, _, _, rfl, _⟩; rfl
  · rintro ds μ k ⟨lot, row, nb, v, rfl, hnb, hv, hl, h1, h2, h3, s1, s2, h⟩
    have fal : (∀ i, nb ≠ .int i) → k (.bl false) μ := fun hs => by
      have e : weightsB lot row nb v = false := by
        unfold weightsB
        split
        · rename_i b; exact absurd rfl (hs b)
        · rfl
      rw [e] at h; exact h
    simp [-asQ, -asL, -List.map_map, r_are_weights]
    refine ⟨nb, rfl, hnb.plain, ?_⟩
    cases nb with
    | int b =>
      simp [-asQ, -asL, -List.map_map, isInt]
      have hsb := hnb.int
      by_cases hb : b < 1
      · rw [if_pos hb]
        simpa [weightsB, hb] using h
      · rw [if_neg hb]
        simp only [weightsB, hb, decide_false, Bool.not_false, Bool.true_and] at h
        refine ⟨v, lot.length, rfl, hv.plain, hv.wholes, ?_⟩
        cases q : wrow v lot.length with
        | none =>
          rw [q] at h
          simpa using h
        | some ns =>
          rw [q] at h
          simp only at h
          obtain ⟨rfl, hn⟩ := wrow_some q
          have hn : ns.length = lot.length := by omega
          have hns := hv.row.2
          simp [-asQ, -asL, -List.map_map]
          refine ⟨ns, rfl, by omega, fun m hm hmin => ?_⟩
          by_cases hneg : m < 0
          · rw [if_pos hneg]
            have e : (ns.all fun x => decide (0 ≤ x)) = false := by
              rw [Bool.eq_false_iff]
              intro z
              have := of_decide_eq_true (List.all_eq_true.mp z m hm)
              omega
            rw [e] at h
            simpa using h
          · rw [if_neg hneg]
            have e : (ns.all fun x => decide (0 ≤ x)) = true := List.all_eq_true.mpr fun x hx => decide_eq_true (by have := hmin x hx; omega)
            rw [e] at h
            refine ⟨ns, rfl, ?_⟩
            by_cases hsum : ns.sum = b
            · rw [if_pos hsum]
              simp only [hsum, decide_true, Bool.true_and] at h
              refine ⟨by omega, ?_⟩
              refine lcW_map (List.range row.length) (fun i => .int (0 + ((i : Nat) : Int))) (fun i => .int ((ns.zip lot).map fun q => q.1 * q.2.getD i 0).sum) (Src.r 0 row.length) (by rw [List.length_range]; omega) (fun i hi kt kf q => ?_) ?_
              · have hi := List.mem_range.mp hi
                simp [-asQ, -asL, -List.map_map, wipeD, asQ_tup]
                have src := Src.z (μ := μ) (x := rowD ns) (y := lotD lot) (xs := intsD ns) (ys := lot.map rowD) rfl rfl
                have e : (((intsD ns).zip (lot.map rowD)).map fun q => D.tup [q.1, q.2]) = (ns.zip lot).map fun q => D.tup [.int q.1, rowD q.2] := by
                  rw [List.zip_map, List.map_map]; rfl
                rw [e] at src
                refine lcW_map (ns.zip lot) _ (fun q => .int (q.1 * q.2.getD i 0)) src (by rw [List.length_zip]; omega) (fun z hz kt2 kf2 q2 => ?_) ?_
                · have m1 := List.of_mem_zip hz
                  have hz2 : i < z.2.length := by rw [hl z.2 m1.2]; exact hi
                  have ea : atI (intsD z.2) ((i : Nat) : Int) = some (.int (z.2.getD i 0)) := by
                    unfold atI ixN
                    rw [show (intsD z.2).length = z.2.length by simp, if_pos (by omega), if_pos (by omega)]
                    simp [List.getElem?_eq_getElem hz2]
                  have c1 : CMulW z.1 (z.2.getD i 0) := sm_mulW (hns z.1 m1.1) (s1 z.2 m1.2 _ (by simp [List.getElem?_eq_getElem hz2])) (by omega) (by omega) (by omega)
                  simp only [rgTup, rgCons, rgName, rgNil] at *
                  simp [-asQ, -asL, -List.map_map, wipeD, asQ_tup]
                  exact ⟨_, ea, c1, q2⟩
                · exact ⟨(ns.zip lot).map fun q => q.1 * q.2.getD i 0, by simp, q⟩
              · refine lcW_map row D.int (fun x => .int (b * x)) (.l _) (by omega) (fun x hx kt kf q => ?_) ?_
                · have c1 := sm_mulW hsb (s2 x hx) (by omega) (by omega) (by omega)
                  simp [-asQ, -asL, -List.map_map, wipeD, c1]
                  exact q
                · refine Cm.int.lst.toEq (x := madeL lot ns row.length) (y := timesL row b) (by rw [← Cm.int.lst.as μ, madeL, List.map_map]; rfl) (by rw [← Cm.int.lst.as μ, timesL, List.map_map]; rfl) (by decide) ?_
                  exact h
            · rw [if_neg hsum]
              simpa [hsum] using h
    | non => simpa [isInt] using fal (fun s z => nomatch z)
    | bl b => simpa [isInt] using fal (fun s z => nomatch z)
    | str b => simpa [isInt] using fal (fun s z => nomatch z)
    | tup b => simpa [isInt] using fal (fun s z => nomatch z)
    | lst b => simpa [isInt] using fal (fun s z => nomatch z)
    | _ => exact Bool.noConfusion hnb.plain
end
end K05


set_option Elab.async false
set_option linter.all false
set_option maxRecDepth 100000
set_option maxHeartbeats 4000000
namespace K05
open PySem PySem.Spec PyProof.Rows L2 SlX DL
open Sx (Vec dd tt cost hset Good Units Ratio bnd sumN)
theorem Any.mem {ds : List D} (h : Any (.tup ds)) {d : D} (hd : d ∈ ds) : Any d := h.tup.2 d hd
theorem others_sub {lot : List (List Int)} {i : Nat} {q : List Int} (h : q ∈ others lot i) : q ∈ lot := by
  rcases List.mem_append.mp h with h | h
  · exact List.take_subset _ _ h
  · exact List.drop_subset _ _ h
theorem others_len (lot : List (List Int)) (i : Nat) : (others lot i).length ≤ lot.length := by
  simp [others]; omega
def d_is_corner_or_weights : DSp := fun ds μ k => ∃ lot n i p v, ds = [lotD lot, .int (i : Nat), v] ∧ IsLot lot n ∧ lot[i]? = some p ∧ Any v ∧ (∀ q ∈ lot, ∀ x ∈ q, Sm 2000 x) ∧ k (.bl (pointB lot i p v)) μ
def d_is_inside_or_beyond : DSp := fun ds μ k => ∃ lot row v, ds = [lotD lot, rowD row, v] ∧ IsLot lot row.length ∧ isRow row = true ∧ Any v ∧ (∀ q ∈ lot, ∀ x ∈ q, Sm 2000 x) ∧ (∀ x ∈ row, Sm 2000 x) ∧ k (.bl (rowB lot row v)) μ
theorem isRow_len {r : List Int} (h : isRow r = true) : r.length ≤ 8 := by
  simp [isRow] at h; omega
theorem ixs3 {a b c : D} : atI [a, b, c] 1 = some b ∧ atI [a, b, c] 2 = some c ∧ atI [a, b] 1 = some b := ⟨rfl, rfl, rfl⟩
section
variable {P : Program} {w : World} {K : PySem.W.Frag} {mg : Str → Option Value} {base : Heap} {C : Addr}
abbrev s_is_corner_or_weights : Stmt := topS 43
abbrev N_is_corner_or_weights : List Str := ["lot", "index", "value"]
theorem sc_is_corner_or_weights : FnScope N_is_corner_or_weights ["lot", "index", "value"] (defScope s_is_corner_or_weights) := ⟨rfl, rfl, rfl, by decide +kernel, rfl, by decide +kernel, by decide +kernel⟩
def r_is_corner_or_weights : RS :=
  (rSeq (rDrop (rCall d_require_point (rCons (rVar 0) (rCons (rVar 1) rNil))))
  (rSeq (rIfS (rB (rCall d_is_told (rCons (rVar 2) (rCons (rC (.str "corner")) (rCons (rC (.int 2)) rNil))))) (rRet (rCall d_is_form_beyond (rCons (rCall d_others_in (rCons (rVar 0) (rCons (rVar 1) rNil))) (rCons (rOp oIx (rVar 0) (rVar 1)) (rCons (rOp oIx (rVar 2) (rC (.int 1))) rNil))))) rNext)
  (rSeq (rIfS (rOr (rNot (rB (rCall d_is_told (rCons (rVar 2) (rCons (rC (.str "weights")) (rCons (rC (.int 3)) rNil)))))) (rNot (rB (rCall d_are_weights (rCons (rVar 0) (rCons (rOp oIx (rVar 0) (rVar 1)) (rCons (rOp oIx (rVar 2) (rC (.int 1))) (rCons (rOp oIx (rVar 2) (rC (.int 2))) rNil)))))))) (rRet (rC (.bl false))) rNext)
  (rRet (rOp oEq (rOp oIx (rOp oIx (rVar 2) (rC (.int 2))) (rVar 1)) (rC (.int 0)))))))
theorem b_is_corner_or_weights (F_require_point : FnD P w K mg base "require_point" 43 d_require_point) (F_is_told : FnD P w K mg base "is_told" 17 d_is_told) (F_is_form_beyond : FnD P w K mg base "is_form_beyond" 21 d_is_form_beyond) (F_others_in : FnD P w K mg base "others_in" 44 d_others_in) (F_are_weights : FnD P w K mg base "are_weights" 20 d_are_weights) (T : Txt K mg C) : Body P w K mg base 46 "is_corner_or_weights" s_is_corner_or_weights N_is_corner_or_weights (r_is_corner_or_weights) := by
  refine fun f => ⟨_, fun cdv A outer s H E hr => ⟨(pss_cons (ps_expr (ke_call K F_require_point hr (pa_cons (pv 0) (pa_cons (pv 1) pa_nil))))
      (pss_cons (ps_if (pt_val (ke_call K F_is_told hr (pa_cons (pv 2) (pa_cons (ke_globS T.c_CORNER) (pa_cons (ke_globI T.c_PAIR) pa_nil))))) (pss_one (ps_ret (ke_call K F_is_form_beyond hr (pa_cons (ke_call K F_others_in hr (pa_cons (pv 0) (pa_cons (pv 1) pa_nil))) (pa_cons (pe_ix (kx_seq K) (pv 0) (pv 1) (fun _ _ => rfl)) (pa_cons (pe_ix (kx_seq K) (pv 2) pe_int (fun _ _ => rfl)) pa_nil)))))) pss_nil)
      (pss_cons (ps_if (PW.pt (pw_or (pt_not (pt_val (ke_call K F_is_told hr (pa_cons (pv 2) (pa_cons (ke_globS T.c_WEIGHTS) (pa_cons (ke_globI T.c_TRIPLE) pa_nil)))))) (pw_or1 (pt_not (pt_val (ke_call K F_are_weights hr (pa_cons (pv 0) (pa_cons (pe_ix (kx_seq K) (pv 0) (pv 1) (fun _ _ => rfl)) (pa_cons (pe_ix (kx_seq K) (pv 2) pe_int (fun _ _ => rfl)) (pa_cons (pe_ix (kx_seq K) (pv 2) pe_int (fun _ _ => rfl)) pa_nil)))))))))) (pss_one (ps_ret pe_bl)) pss_nil)
      (pss_one (ps_ret (pe_cmpR (ko_eqD K hr.units) (pe_ix (kx_seq K) (pe_ix (kx_seq K) (pv 2) pe_int (fun _ _ => rfl)) (pv 1) (fun _ _ => rfl)) pe_int (nomark _))))))),
    (okS_seq (okS_drop (okE_call (okA_cons (okE_var 0) (okA_cons (okE_var 1) okA_nil))))
      (okS_seq (okS_if (okT_B (okE_call (okA_cons (okE_var 2) (okA_cons (okE_C fun _ => .str _) (okA_cons (okE_C fun _ => .int _) okA_nil))))) (okS_ret (okE_call (okA_cons (okE_call (okA_cons (okE_var 0) (okA_cons (okE_var 1) okA_nil))) (okA_cons (okE_op okIx (okE_var 0) (okE_var 1)) (okA_cons (okE_op okIx (okE_var 2) (okE_C fun _ => .int _)) okA_nil))))) okS_next)
      (okS_seq (okS_if (okT_or (okT_not (okT_B (okE_call (okA_cons (okE_var 2) (okA_cons (okE_C fun _ => .str _) (okA_cons (okE_C fun _ => .int _) okA_nil)))))) (okT_not (okT_B (okE_call (okA_cons (okE_var 0) (okA_cons (okE_op okIx (okE_var 0) (okE_var 1)) (okA_cons (okE_op okIx (okE_var 2) (okE_C fun _ => .int _)) (okA_cons (okE_op okIx (okE_var 2) (okE_C fun _ => .int _)) okA_nil)))))))) (okS_ret (okE_C fun _ => .bl _)) okS_next)
      (okS_ret (okE_op okEq (okE_op okIx (okE_op okIx (okE_var 2) (okE_C fun _ => .int _)) (okE_var 1)) (okE_C fun _ => .int _))))))⟩⟩

abbrev s_is_inside_or_beyond : Stmt := topS 45
abbrev N_is_inside_or_beyond : List Str := ["lot", "row", "value"]
theorem sc_is_inside_or_beyond : FnScope N_is_inside_or_beyond ["lot", "row", "value"] (defScope s_is_inside_or_beyond) := ⟨rfl, rfl, rfl, by decide +kernel, rfl, by decide +kernel, by decide +kernel⟩
def r_is_inside_or_beyond : RS :=
  (rSeq (rDrop (rCall d_require_lot_and_row (rCons (rVar 0) (rCons (rVar 1) rNil))))
  (rSeq (rIfS (rB (rCall d_is_told (rCons (rVar 2) (rCons (rC (.str "beyond")) (rCons (rC (.int 2)) rNil))))) (rRet (rCall d_is_form_beyond (rCons (rVar 0) (rCons (rVar 1) (rCons (rOp oIx (rVar 2) (rC (.int 1))) rNil))))) rNext)
  (rRet (rAndV (rCall d_is_told (rCons (rVar 2) (rCons (rC (.str "inside")) (rCons (rC (.int 3)) rNil)))) (rCall d_are_weights (rCons (rVar 0) (rCons (rVar 1) (rCons (rOp oIx (rVar 2) (rC (.int 1))) (rCons (rOp oIx (rVar 2) (rC (.int 2))) rNil)))))))))
theorem b_is_inside_or_beyond (F_require_lot_and_row : FnD P w K mg base "require_lot_and_row" 25 d_require_lot_and_row) (F_is_told : FnD P w K mg base "is_told" 17 d_is_told) (F_is_form_beyond : FnD P w K mg base "is_form_beyond" 21 d_is_form_beyond) (F_are_weights : FnD P w K mg base "are_weights" 20 d_are_weights) (T : Txt K mg C) : Body P w K mg base 26 "is_inside_or_beyond" s_is_inside_or_beyond N_is_inside_or_beyond (r_is_inside_or_beyond) := by
  refine fun f => ⟨_, fun cdv A outer s H E hr => ⟨(pss_cons (ps_expr (ke_call K F_require_lot_and_row hr (pa_cons (pv 0) (pa_cons (pv 1) pa_nil))))
      (pss_cons (ps_if (pt_val (ke_call K F_is_told hr (pa_cons (pv 2) (pa_cons (ke_globS T.c_BEYOND) (pa_cons (ke_globI T.c_PAIR) pa_nil))))) (pss_one (ps_ret (ke_call K F_is_form_beyond hr (pa_cons (pv 0) (pa_cons (pv 1) (pa_cons (pe_ix (kx_seq K) (pv 2) pe_int (fun _ _ => rfl)) pa_nil)))))) pss_nil)
      (pss_one (ps_ret (pe_and (ke_call K F_is_told hr (pa_cons (pv 2) (pa_cons (ke_globS T.c_INSIDE) (pa_cons (ke_globI T.c_TRIPLE) pa_nil)))) (pe_one (ke_call K F_are_weights hr (pa_cons (pv 0) (pa_cons (pv 1) (pa_cons (pe_ix (kx_seq K) (pv 2) pe_int (fun _ _ => rfl)) (pa_cons (pe_ix (kx_seq K) (pv 2) pe_int (fun _ _ => rfl)) pa_nil))))))))))),
    (okS_seq (okS_drop (okE_call (okA_cons (okE_var 0) (okA_cons (okE_var 1) okA_nil))))
      (okS_seq (okS_if (okT_B (okE_call (okA_cons (okE_var 2) (okA_cons (okE_C fun _ => .str _) (okA_cons (okE_C fun _ => .int _) okA_nil))))) (okS_ret (okE_call (okA_cons (okE_var 0) (okA_cons (okE_var 1) (okA_cons (okE_op okIx (okE_var 2) (okE_C fun _ => .int _)) okA_nil))))) okS_next)
      (okS_ret (okE_andV (okE_call (okA_cons (okE_var 2) (okA_cons (okE_C fun _ => .str _) (okA_cons (okE_C fun _ => .int _) okA_nil)))) (okE_call (okA_cons (okE_var 0) (okA_cons (okE_var 1) (okA_cons (okE_op okIx (okE_var 2) (okE_C fun _ => .int _)) (okA_cons (okE_op okIx (okE_var 2) (okE_C fun _ => .int _)) okA_nil)))))))))⟩⟩



theorem ok_is_corner_or_weights (a : At K mg "is_corner_or_weights" s_is_corner_or_weights) (F1 : FnD P w K mg base "require_point" 43 d_require_point) (F2 : FnD P w K mg base "is_told" 17 d_is_told) (F3 : FnD P w K mg base "is_form_beyond" 21 d_is_form_beyond) (F4 : FnD P w K mg base "others_in" 44 d_others_in) (F5 : FnD P w K mg base "are_weights" 20 d_are_weights) (T : Txt K mg C) : FnD P w K mg base "is_corner_or_weights" 47 d_is_corner_or_weights := by
  refine fnD_of a (b_is_corner_or_weights F1 F2 F3 F4 F5 T) sc_is_corner_or_weights (fun _ _ _ _ _ _ us hl => match us, hl with | [_, _, _], _ => rfl) ?_ ?_
  · rintro ds μ k ⟨_, _, _, _, _, rfl, _⟩; rfl
  · rintro ds μ k ⟨lot, n, i, p, v, rfl, hl, hp, hv, s1, h⟩
    have hi := lt_of_get hp
    have hpm := List.mem_of_getElem? hp
    have hl2 := hl.2.1
    have hpl : p.length = n ∧ p.length ≤ 8 := ⟨(hl.2.2.1 p hpm).2, isRow_len (hl.2.2.1 p hpm).1⟩
    have o1 : PyData.strOk "corner" = true := by decide +kernel
    have o2 : PyData.strOk "weights" = true := by decide +kernel
    simp [-asQ, -asL, -List.map_map, r_is_corner_or_weights]
    refine ⟨lot, n, i, rfl, hl, hi, v, "corner", 2, rfl, hv, o1, by omega, ?_⟩
    unfold pointB at h
    by_cases t1 : toldB v "corner" 2 = true
    · rw [if_pos t1] at h
      obtain ⟨d, rfl⟩ := told2 t1
      simp only [asB, t1, if_true]
      refine ⟨lot, i, rfl, hi, by omega, _, asQ_tup, _, atI_lot hp, _, asQ_tup, _, rfl, ?_⟩
      have ol := others_len lot i
      exact ⟨others lot i, p, d, rfl, hv.mem (by simp), by omega, by omega, fun q hq => s1 q (others_sub hq), s1 p hpm, h⟩
    · rw [if_neg t1] at h
      simp only [asB, t1, if_false]
      refine ⟨v, "weights", 3, rfl, hv, o2, by omega, ?_⟩
      by_cases t2 : toldB v "weights" 3 = true
      · obtain ⟨nb, ws, rfl⟩ := told3 t2
        simp only [asB, t2, Bool.not_true, Bool.false_eq_true, if_false, Bool.true_and] at h ⊢
        refine ⟨_, asQ_tup, _, atI_lot hp, _, asQ_tup, _, rfl, _, asQ_tup, _, rfl, ?_⟩
        refine ⟨lot, p, nb, ws, rfl, hv.mem (by simp), hv.mem (by simp), fun q hq => by rw [hpl.1]; exact (hl.2.2.1 q hq).2, hl.1, by omega, by omega, s1, s1 p hpm, ?_⟩
        simp only [mem, List.getD_cons_succ, List.getD_cons_zero] at h
        by_cases hw : weightsB lot p nb ws = true
        · simp only [hw, if_true, Bool.not_true, Bool.false_eq_true, if_false] at h ⊢
          cases q : wrow ws lot.length with
          | none =>
            exfalso
            unfold weightsB at hw
            split at hw
            · rw [q] at hw; simp at hw
            · cases hw
          | some ns =>
            rw [q] at h
            obtain ⟨rfl, hn⟩ := wrow_some q
            have hin : i < ns.length := by omega
            have ea : atI (intsD ns) ((i : Nat) : Int) = some (.int (ns.getD i 0)) := by
              unfold atI ixN
              rw [show (intsD ns).length = ns.length by simp, if_pos (by omega), if_pos (by omega)]
              simp [List.getElem?_eq_getElem hin]
            refine ⟨_, asQ_tup, _, rfl, _, asQ_tup, _, ea, ?_⟩
            simpa using h
        · simp only [hw, if_false, Bool.not_false, if_true] at h ⊢
          simpa using h
      · simp only [asB, t2, Bool.not_false, if_true, Bool.false_and, Bool.false_eq_true, if_false] at h ⊢
        exact h
theorem ok_is_inside_or_beyond (a : At K mg "is_inside_or_beyond" s_is_inside_or_beyond) (F1 : FnD P w K mg base "require_lot_and_row" 25 d_require_lot_and_row) (F2 : FnD P w K mg base "is_told" 17 d_is_told) (F3 : FnD P w K mg base "is_form_beyond" 21 d_is_form_beyond) (F4 : FnD P w K mg base "are_weights" 20 d_are_weights) (T : Txt K mg C) : FnD P w K mg base "is_inside_or_beyond" 27 d_is_inside_or_beyond := by
  refine fnD_of a (b_is_inside_or_beyond F1 F2 F3 F4 T) sc_is_inside_or_beyond (fun _ _ _ _ _ _ us hl => match us, hl with | [_, _, _], _ => rfl) ?_ ?_
  · rintro ds μ k ⟨_, _, _, rfl, _⟩; rfl
  · rintro ds μ k ⟨lot, row, v, rfl, hl, hr, hv, s1, s2, h⟩
    have hr2 := isRow_len hr
    have hl2 := hl.2.1
    have o1 : PyData.strOk "beyond" = true := by decide +kernel
    have o2 : PyData.strOk "inside" = true := by decide +kernel
    simp [-asQ, -asL, -List.map_map, r_is_inside_or_beyond]
    refine ⟨lot, row, rfl, hl, hr, v, "beyond", 2, rfl, hv, o1, by omega, ?_⟩
    unfold rowB at h
    by_cases t1 : toldB v "beyond" 2 = true
    · rw [if_pos t1] at h
      obtain ⟨d, rfl⟩ := told2 t1
      simp only [asB, t1, if_true]
      refine ⟨_, asQ_tup, _, rfl, ?_⟩
      exact ⟨lot, row, d, rfl, hv.mem (by simp), by omega, by omega, s1, s2, h⟩
    · rw [if_neg t1] at h
      simp only [asB, t1, if_false]
      refine ⟨v, "inside", 3, rfl, hv, o2, by omega, ?_⟩
      by_cases t2 : toldB v "inside" 3 = true
      · obtain ⟨nb, ws, rfl⟩ := told3 t2
        simp only [asB, t2, if_true, Bool.true_and] at h ⊢
        refine ⟨_, asQ_tup, _, rfl, _, asQ_tup, _, rfl, ?_⟩
        exact ⟨lot, row, nb, ws, rfl, hv.mem (by simp), hv.mem (by simp), fun q hq => (hl.2.2.1 q hq).2, hl.1, by omega, by omega, s1, s2, h⟩
      · simp only [asB, t2, if_false, Bool.false_and, Bool.false_eq_true] at h ⊢
        exact h
end
end K05


set_option Elab.async false
set_option linter.all false
set_option maxRecDepth 100000
set_option maxHeartbeats 4000000
namespace K05
open PySem PySem.Spec PyProof.Rows L2 SlX DL
/-! the law's draws -/
theorem sm_mod {i j : Int} {b : Nat} (hj : 0 < j) (h : j ≤ 2 ^ b) : Sm b (i % j) := by
  have h1 := Int.emod_nonneg i (by omega : j ≠ 0)
  have h2 := Int.emod_lt_of_pos i hj
  unfold Sm
  have e : ((2 : Int) ^ b) = ((2 ^ b : Nat) : Int) := by simp
  omega
theorem sm_le {b : Nat} {i j : Int} (h0 : 0 ≤ i) (h : i ≤ j) (hj : Sm b j) : Sm b i := by unfold Sm at *; omega
theorem muSet_self {μ : Mu} {p : Addr} {c : Cnt} (h : μ p = some c) : muSet μ p c = μ := by
  funext q; unfold muSet; split
  · rename_i e; rw [e, h]
  · rfl
theorem ixN_nat {p m : Nat} (h : p < m) : ixN m (p : Int) = some p := by
  unfold ixN
  rw [if_pos (by omega), if_pos (by omega)]
  simp
/-- the vat: the drawn numbers are any -/
def VOk (vs : List D) (N : Nat) : Prop := ∃ a b c : Int, vs = [.int a, .int b, .int c] ∧ 0 ≤ a ∧ Sm 2000 a ∧ Sm 100 b ∧ 0 ≤ c ∧ c ≤ N
theorem VOk.mono {vs : List D} {N M : Nat} (h : VOk vs N) (l : N ≤ M) : VOk vs M := by
  obtain ⟨a, b, c, h1, h2, h3, h4, h5, h6⟩ := h
  exact ⟨a, b, c, h1, h2, h3, h4, h5, by omega⟩
def Wn (b x : Int) : Prop := -b ≤ x ∧ x ≤ b
def d__law_vat : DSp := fun ds μ k => ∃ ns i, ds = [.scr ns, .int i] ∧ 0 ≤ i ∧ i < 1000 ∧ ∀ p vs, μ p = none → VOk vs 0 → k (.own p) (muSet μ p (.l vs))
def d__law_draw : DSp := fun ds μ k => ∃ p t N vs, ds = [.own p, .int t] ∧ μ p = some (.l vs) ∧ VOk vs N ∧ 0 < t ∧ Sm 1000 t ∧ N < 2 ^ 30 ∧ ∀ r vs', 0 ≤ r → r < t → VOk vs' (N + 1) → k (.int r) (muSet μ p (.l vs'))
def d__law_pick : DSp := fun ds μ k => ∃ p x is N vs, ds = [.own p, x] ∧ (x = .lst is ∨ x = .tup is) ∧ μ p = some (.l vs) ∧ VOk vs N ∧ is ≠ [] ∧ is.length ≤ 1000 ∧ N < 2 ^ 30 ∧ ∀ d vs', d ∈ is → VOk vs' (N + 1) → k d (muSet μ p (.l vs'))
/-- a drawn lot -/
structure DLot (n many : Nat) (wide : Int) (lot : List (List Int)) : Prop where
  ne : 1 ≤ lot.length
  few : lot.length ≤ many
  row : ∀ p ∈ lot, p.length = n ∧ ∀ x ∈ p, Wn wide x
  asc : lot.Pairwise fun p q => p < q
def d__law_lot : DSp := fun ds μ k => ∃ p n many wide N vs, ds = [.own p, .int (n : Nat), .int (many : Nat), .int wide] ∧ μ p = some (.l vs) ∧ VOk vs N ∧ 1 ≤ n ∧ n ≤ 8 ∧ 1 ≤ many ∧ many ≤ 100 ∧ 0 ≤ wide ∧ wide ≤ 10 ^ 30 ∧ N + 1000 < 2 ^ 30 ∧
  ∀ lot vs', DLot n many wide lot → VOk vs' (N + 1000) → k (lotD lot) (muSet μ p (.l vs'))
def d__law_row : DSp := fun ds μ k => ∃ p n wide N vs, ds = [.own p, .int (n : Nat), .int wide] ∧ μ p = some (.l vs) ∧ VOk vs N ∧ n ≤ 1000 ∧ 0 ≤ wide ∧ wide ≤ 10 ^ 30 ∧ N + 2 * n < 2 ^ 30 ∧ ∀ (r : List Int) vs', r.length = n → (∀ x ∈ r, Wn wide x) → VOk vs' (N + 2 * n) → k (rowD r) (muSet μ p (.l vs'))
section
variable {P : Program} {w : World} {K : PySem.W.Frag} {mg : Str → Option Value} {base : Heap} {C : Addr}
abbrev s__law_vat : Stmt := topS 47
abbrev N__law_vat : List Str := ["_law_script", "_law_spot", "_law_cell", "_law_great"]
theorem sc__law_vat : FnScope N__law_vat ["_law_script", "_law_spot"] (defScope s__law_vat) := ⟨rfl, rfl, rfl, by decide +kernel, rfl, by decide +kernel, by decide +kernel⟩
def r__law_vat : RS :=
  (rSeq (rAsg (rIf (rB (rOp (oB (fun i j => decide (i < j))) (rVar 1) (rCB oLen (rCons (rVar 0) rNil)))) (rCB oInt (rCons (rOp oIxS (rVar 0) (rVar 1)) rNil)) (rOp (oI fun i j => i + j) (rOp (oIc CMulW fun i j => i * j) (rC (.int 433)) (rVar 1)) (rC (.int 29)))) (rgName 2))
  (rSeq (rAsg (rOp (oIc (fun _ j => 0 < j) fun i j => i % j) (rCB oInt (rCons (rCB oAbs (rCons (rVar 2) rNil)) rNil)) (rOp (oIc CPowW fun i j => i ^ j.toNat) (rOp (oIc CPowW fun i j => i ^ j.toNat) (rC (.int 10)) (rC (.int 57))) (rC (.int 6)))) (rgName 3))
  (rRet (rLstO (rCons (rCB (o2I fun i j => if j > i then j else i) (rCons (rC (.int 0)) (rCons (rOp (oI fun i j => i - j) (rVar 3) (rOp (oIc CPowW fun i j => i ^ j.toNat) (rC (.int 10)) (rC (.int 16)))) rNil))) (rCons (rOp (oI fun i j => i + j) (rOp (oI fun i j => i + j) (rOp (oI fun i j => i + j) (rOp (oIc CMulW fun i j => i * j) (rOp (oIc (fun _ j => 0 < j) fun i j => i % j) (rCB oInt (rCons (rVar 3) rNil)) (rC (.int 2147483477))) (rC (.int 293))) (rOp (oIc CMulW fun i j => i * j) (rC (.int 569)) (rVar 1))) (rOp (oIc CMulW fun i j => i * j) (rC (.int 31)) (rCB oInt (rCons (rOp (oB (fun i j => decide (i < j))) (rVar 2) (rC (.int 0))) rNil)))) (rC (.int 7))) (rCons (rC (.int 0)) rNil)))))))
theorem b__law_vat (T : Txt K mg C) : Body P w K mg base 27 "_law_vat" s__law_vat N__law_vat (r__law_vat) := by
  refine fun f => ⟨_, fun cdv A outer s H E hr => ⟨(pss_cons (ps_set (i := 2) sc__law_vat.nd rfl (Or.inl rfl) (pe_ifExp (pt_cmpR op_lt (pv 1) (kb_call (kc_len K) T.b_len (pa_cons (pv 0) pa_nil)) (nomark _)) (kt_call call_int1 T.b_int (pa_cons (pe_ix (kx_list K) (pv 0) (pv 1) (fun _ _ => rfl)) pa_nil)) (pe_op op_add (pe_op op_mulW pe_int (pv 1)) pe_int)))
      (pss_cons (ps_set (i := 3) sc__law_vat.nd rfl (Or.inl rfl) (pe_op op_mod (kt_call call_int1 T.b_int (pa_cons (kb_call call_abs T.b_abs (pa_cons (pv 2) pa_nil)) pa_nil)) (pe_op op_powW (pe_op op_powW pe_int pe_int) pe_int)))
      (pss_one (ps_ret (pe_lst (pa_cons (kb_call (call_max2 rfl) T.b_max (pa_cons pe_int (pa_cons (pe_op op_sub (pv 3) (pe_op op_powW pe_int pe_int)) pa_nil))) (pa_cons (pe_op op_add (pe_op op_add (pe_op op_add (pe_op op_mulW (pe_op op_mod (kt_call call_int1 T.b_int (pa_cons (pv 3) pa_nil)) pe_int) pe_int) (pe_op op_mulW pe_int (pv 1))) (pe_op op_mulW pe_int (kt_call call_int1 T.b_int (pa_cons (pe_cmpR op_lt (pv 2) pe_int (nomark _)) pa_nil)))) pe_int) (pa_cons pe_int pa_nil)))))))),
    (okS_seq (okS_asg (okE_if (okT_test (okE_op okB (okE_var 1) (okE_CB okLen (okA_cons (okE_var 0) okA_nil)))) (okE_CB okInt (okA_cons (okE_op okIxS (okE_var 0) (okE_var 1)) okA_nil)) (okE_op okI (okE_op okIc (okE_C fun _ => .int _) (okE_var 1)) (okE_C fun _ => .int _))) (okG_name 2))
      (okS_seq (okS_asg (okE_op okIc (okE_CB okInt (okA_cons (okE_CB okAbs (okA_cons (okE_var 2) okA_nil)) okA_nil)) (okE_op okIc (okE_op okIc (okE_C fun _ => .int _) (okE_C fun _ => .int _)) (okE_C fun _ => .int _))) (okG_name 3))
      (okS_ret (okE_lstO (okA_cons (okE_CB ok2I (okA_cons (okE_C fun _ => .int _) (okA_cons (okE_op okI (okE_var 3) (okE_op okIc (okE_C fun _ => .int _) (okE_C fun _ => .int _))) okA_nil))) (okA_cons (okE_op okI (okE_op okI (okE_op okI (okE_op okIc (okE_op okIc (okE_CB okInt (okA_cons (okE_var 3) okA_nil)) (okE_C fun _ => .int _)) (okE_C fun _ => .int _)) (okE_op okIc (okE_C fun _ => .int _) (okE_var 1))) (okE_op okIc (okE_C fun _ => .int _) (okE_CB okInt (okA_cons (okE_op okB (okE_var 2) (okE_C fun _ => .int _)) okA_nil)))) (okE_C fun _ => .int _)) (okA_cons (okE_C fun _ => .int _) okA_nil)))))))⟩⟩

abbrev s__law_draw : Stmt := topS 48
abbrev N__law_draw : List Str := ["_law_vat_here", "_law_total", "_law_one", "_law_two", "_law_found"]
theorem sc__law_draw : FnScope N__law_draw ["_law_vat_here", "_law_total"] (defScope s__law_draw) := ⟨rfl, rfl, rfl, by decide +kernel, rfl, by decide +kernel, by decide +kernel⟩
def r__law_draw : RS :=
  (rSeq (rIfS (rB (rOp (oB (fun i j => decide (j < i))) (rOp oIx (rVar 0) (rC (.int 0))) (rC (.int 0)))) (rSeq (rAsg (rOp (oIc (fun _ j => 0 < j) fun i j => i % j) (rCB oInt (rCons (rOp oIx (rVar 0) (rC (.int 0))) rNil)) (rVar 1)) (rgName 4))
  (rSeq (rAsg (rOp (oIc CDivW fun i j => i / j) (rOp oIx (rVar 0) (rC (.int 0))) (rVar 1)) (rgSetL (rVar 0) (rC (.int 0))))
  (rRet (rVar 4)))) rNext)
  (rSeq (rAsg (rOp (oI fun i j => i + j) (rOp oIx (rVar 0) (rC (.int 2))) (rC (.int 1))) (rgSetL (rVar 0) (rC (.int 2))))
  (rSeq (rAsg (rOp (oIc (fun _ j => 0 < j) fun i j => i % j) (rCB oInt (rCons (rOp (oI fun i j => i + j) (rOp oIx (rVar 0) (rC (.int 1))) (rOp (oIc CMulW fun i j => i * j) (rC (.int 9699713)) (rOp oIx (rVar 0) (rC (.int 2))))) rNil)) (rC (.int 2305843009213693951))) (rgName 2))
  (rSeq (rAsg (rOp (oI fun i j => i + j) (rOp (oIc CMulW fun i j => i * j) (rOp (oIc (fun _ j => 0 < j) fun i j => i % j) (rCB oInt (rCons (rOp (oI fun i j => i + j) (rOp (oIc CMulW fun i j => i * j) (rVar 2) (rVar 2)) (rOp (oIc CMulW fun i j => i * j) (rC (.int 367)) (rOp oIx (rVar 0) (rC (.int 2))))) rNil)) (rC (.int 2305843009213693921))) (rC (.int 5800079))) (rVar 2)) (rgName 3))
  (rRet (rOp (oIc (fun _ j => 0 < j) fun i j => i % j) (rCB oInt (rCons (rOp (oIc CDivW fun i j => i / j) (rVar 3) (rC (.int 65537))) rNil)) (rVar 1)))))))
theorem b__law_draw (T : Txt K mg C) : Body P w K mg base 28 "_law_draw" s__law_draw N__law_draw (r__law_draw) := by
  refine fun f => ⟨_, fun cdv A outer s H E hr => ⟨(pss_cons (ps_if (pt_cmpR op_gt (pe_ix (kx_seq K) (pv 0) pe_int (fun _ _ => rfl)) pe_int (nomark _)) (pss_cons (ps_set (i := 4) sc__law_draw.nd rfl (Or.inl rfl) (pe_op op_mod (kt_call call_int1 T.b_int (pa_cons (pe_ix (kx_seq K) (pv 0) pe_int (fun _ _ => rfl)) pa_nil)) (pv 1)))
      (pss_cons (ps_asg (pe_op op_fdivW (pe_ix (kx_seq K) (pv 0) pe_int (fun _ _ => rfl)) (pv 1)) (pg_sub (pv 0) pe_int set_list))
      (pss_one (ps_ret (pv 4))))) pss_nil)
      (pss_cons (ps_asg (pe_op op_add (pe_ix (kx_seq K) (pv 0) pe_int (fun _ _ => rfl)) pe_int) (pg_sub (pv 0) pe_int set_list))
      (pss_cons (ps_set (i := 2) sc__law_draw.nd rfl (Or.inl rfl) (pe_op op_mod (kt_call call_int1 T.b_int (pa_cons (pe_op op_add (pe_ix (kx_seq K) (pv 0) pe_int (fun _ _ => rfl)) (pe_op op_mulW pe_int (pe_ix (kx_seq K) (pv 0) pe_int (fun _ _ => rfl)))) pa_nil)) pe_int))
      (pss_cons (ps_set (i := 3) sc__law_draw.nd rfl (Or.inl rfl) (pe_op op_add (pe_op op_mulW (pe_op op_mod (kt_call call_int1 T.b_int (pa_cons (pe_op op_add (pe_op op_mulW (pv 2) (pv 2)) (pe_op op_mulW pe_int (pe_ix (kx_seq K) (pv 0) pe_int (fun _ _ => rfl)))) pa_nil)) pe_int) pe_int) (pv 2)))
      (pss_one (ps_ret (pe_op op_mod (kt_call call_int1 T.b_int (pa_cons (pe_op op_fdivW (pv 3) pe_int) pa_nil)) (pv 1)))))))),
    (okS_seq (okS_if (okT_test (okE_op okB (okE_op okIx (okE_var 0) (okE_C fun _ => .int _)) (okE_C fun _ => .int _))) (okS_seq (okS_asg (okE_op okIc (okE_CB okInt (okA_cons (okE_op okIx (okE_var 0) (okE_C fun _ => .int _)) okA_nil)) (okE_var 1)) (okG_name 4))
      (okS_seq (okS_asg (okE_op okIc (okE_op okIx (okE_var 0) (okE_C fun _ => .int _)) (okE_var 1)) (okG_setL (okE_var 0) (okE_C fun _ => .int _)))
      (okS_ret (okE_var 4)))) okS_next)
      (okS_seq (okS_asg (okE_op okI (okE_op okIx (okE_var 0) (okE_C fun _ => .int _)) (okE_C fun _ => .int _)) (okG_setL (okE_var 0) (okE_C fun _ => .int _)))
      (okS_seq (okS_asg (okE_op okIc (okE_CB okInt (okA_cons (okE_op okI (okE_op okIx (okE_var 0) (okE_C fun _ => .int _)) (okE_op okIc (okE_C fun _ => .int _) (okE_op okIx (okE_var 0) (okE_C fun _ => .int _)))) okA_nil)) (okE_C fun _ => .int _)) (okG_name 2))
      (okS_seq (okS_asg (okE_op okI (okE_op okIc (okE_op okIc (okE_CB okInt (okA_cons (okE_op okI (okE_op okIc (okE_var 2) (okE_var 2)) (okE_op okIc (okE_C fun _ => .int _) (okE_op okIx (okE_var 0) (okE_C fun _ => .int _)))) okA_nil)) (okE_C fun _ => .int _)) (okE_C fun _ => .int _)) (okE_var 2)) (okG_name 3))
      (okS_ret (okE_op okIc (okE_CB okInt (okA_cons (okE_op okIc (okE_var 3) (okE_C fun _ => .int _)) okA_nil)) (okE_var 1)))))))⟩⟩

abbrev s__law_pick : Stmt := topS 49
abbrev N__law_pick : List Str := ["_law_vat_here", "_law_items"]
theorem sc__law_pick : FnScope N__law_pick ["_law_vat_here", "_law_items"] (defScope s__law_pick) := ⟨rfl, rfl, rfl, by decide +kernel, rfl, by decide +kernel, by decide +kernel⟩
def r__law_pick : RS :=
  (rRet (rOp oIx (rVar 1) (rCall d__law_draw (rCons (rVar 0) (rCons (rCB oLen (rCons (rVar 1) rNil)) rNil)))))
theorem b__law_pick (F__law_draw : FnD P w K mg base "_law_draw" 29 d__law_draw) (T : Txt K mg C) : Body P w K mg base 29 "_law_pick" s__law_pick N__law_pick (r__law_pick) := by
  refine fun f => ⟨_, fun cdv A outer s H E hr => ⟨(pss_one (ps_ret (pe_ix (kx_seq K) (pv 1) (ke_call K F__law_draw hr (pa_cons (pv 0) (pa_cons (kb_call (kc_len K) T.b_len (pa_cons (pv 1) pa_nil)) pa_nil))) (fun _ _ => rfl)))),
    (okS_ret (okE_op okIx (okE_var 1) (okE_call (okA_cons (okE_var 0) (okA_cons (okE_CB okLen (okA_cons (okE_var 1) okA_nil)) okA_nil)))))⟩⟩

abbrev s__law_row : Stmt := topS 51
abbrev N__law_row : List Str := ["_law_vat_here", "_law_size", "_law_wide", "_law_at"]
theorem sc__law_row : FnScope N__law_row ["_law_vat_here", "_law_size", "_law_wide"] (defScope s__law_row) := ⟨rfl, rfl, rfl, by decide +kernel, rfl, by decide +kernel, by decide +kernel⟩
def r__law_row : RS :=
  (rRet (rCB oTuple (rCons (rLc (rIR1 (rCons (rVar 1) rNil)) (rgName 3) rYes (rOp (oI fun i j => i - j) (rCall d__law_draw (rCons (rVar 0) (rCons (rOp (oI fun i j => i + j) (rOp (oIc CMulW fun i j => i * j) (rC (.int 2)) (rVar 2)) (rC (.int 1))) rNil))) (rVar 2)) [3]) rNil)))
theorem b__law_row (F__law_draw : FnD P w K mg base "_law_draw" 29 d__law_draw) (T : Txt K mg C) : Body P w K mg base 31 "_law_row" s__law_row N__law_row (r__law_row) := by
  refine fun f => ⟨_, fun cdv A outer s H E hr => ⟨(pss_one (ps_ret (kt_call (kc_tuple K) T.b_tuple (pa_cons (pe_lc (own := [("_law_at", 3)]) rfl sc__law_row.nd (kr_range1 T.b_range (pa_cons (pv 1) pa_nil)) (blkOk_by (own := [("_law_at", 3)]) (N := N__law_row) (sc := defScope s__law_row) (by decide +kernel)) (fun _ _ _ _ _ => (pg_name (i := 3) sc__law_row.nd rfl (by first | exact Or.inl rfl | exact Or.inr rfl))) (fun _ _ _ _ _ => pts_nil) (fun _ _ _ _ _ => (pe_op op_sub (ke_call K F__law_draw hr (pa_cons (pv 0) (pa_cons (pe_op op_add (pe_op op_mulW pe_int (pv 2)) pe_int) pa_nil))) (pv 2)))) pa_nil)))),
    (okS_ret (okE_CB okTuple (okA_cons (okE_lc (okI_range1 (okA_cons (okE_var 1) okA_nil)) (okG_name 3) okT_yes (okE_op okI (okE_call (okA_cons (okE_var 0) (okA_cons (okE_op okI (okE_op okIc (okE_C fun _ => .int _) (okE_var 2)) (okE_C fun _ => .int _)) okA_nil))) (okE_var 2)) (by decide)) okA_nil)))⟩⟩



theorem vat_fin {G c1 c2 c3 c4 M T : Int} (n i : Int) (hG : 0 < G) (hG2 : G ≤ 2 ^ 1140) (hM : 0 < M) (hM2 : M ≤ 2 ^ 31) (hT : 0 < T) (h1 : 0 ≤ c1 ∧ c1 < 2 ^ 20) (h2 : 0 ≤ c2 ∧ c2 < 2 ^ 20) (h3 : 0 ≤ c3 ∧ c3 < 2 ^ 20) (h4 : 0 ≤ c4 ∧ c4 < 2 ^ 20) (i0 : 0 ≤ i) (i1 : i < 1000) :
    CMulW ((if n < 0 then -n else n) % G % M) c1 ∧ CMulW c2 i ∧ CMulW c3 (if n < 0 then 1 else 0) ∧
    VOk [D.int (if T < (if n < 0 then -n else n) % G then (if n < 0 then -n else n) % G - T else 0),
      D.int ((if n < 0 then -n else n) % G % M * c1 + c2 * i + c3 * (if n < 0 then 1 else 0) + c4), D.int 0] 0 := by
  have g0 : 0 ≤ (if n < 0 then -n else n) % G := Int.emod_nonneg _ (by omega)
  have g1 : Sm 1140 ((if n < 0 then -n else n) % G) := sm_mod hG hG2
  generalize (if n < 0 then -n else n) % G = g at g0 g1 ⊢
  have m0 := Int.emod_nonneg g (by omega : M ≠ 0)
  have m2 : Sm 31 (g % M) := sm_mod hM hM2
  have q1 : Sm 10 i := by unfold Sm; omega
  have s1 : Sm 1 (if n < 0 then (1 : Int) else 0) := by unfold Sm; split <;> decide
  have k1 : Sm 20 c1 := by unfold Sm; omega
  have k2 : Sm 20 c2 := by unfold Sm; omega
  have k3 : Sm 20 c3 := by unfold Sm; omega
  refine ⟨sm_mulW m2 k1 (by omega) (by omega) (by omega), sm_mulW k2 q1 (by omega) (by omega) (by omega), sm_mulW k3 s1 (by omega) (by omega) (by omega), _, _, _, rfl, ?_, ?_, ?_, by omega, by omega⟩
  · split <;> omega
  · have g2 := g1.mono (b := 2000) (by omega)
    split
    · exact sm_le (by omega) (by omega) g2
    · unfold Sm; exact Nat.pos_of_ne_zero (by simp)
  · generalize g % M = q at m0 m2 ⊢
    have e1 : (q * c1).natAbs < 2 ^ 51 := by
      rw [Int.natAbs_mul]
      have := Nat.mul_lt_mul'' m2 k1
      exact Nat.lt_of_lt_of_le this (by decide)
    have e2 : (c2 * i).natAbs < 2 ^ 30 := by
      rw [Int.natAbs_mul]
      have := Nat.mul_lt_mul'' k2 q1
      exact Nat.lt_of_lt_of_le this (by decide)
    have e3 : (c3 * (if n < 0 then (1 : Int) else 0)).natAbs < 2 ^ 21 := by
      rw [Int.natAbs_mul]
      have := Nat.mul_lt_mul'' k3 s1
      exact Nat.lt_of_lt_of_le this (by decide)
    unfold Sm
    have : (2 : Nat) ^ 100 > 10 ^ 20 := by decide
    omega
theorem vat_use {G c1 c2 c3 c4 M T : Int} {μ : Mu} {k : DK} (n i : Int) (i0 : 0 ≤ i) (i1 : i < 1000) (h : ∀ p vs, μ p = none → VOk vs 0 → k (.own p) (muSet μ p (.l vs))) (hG : 0 < G) (hG2 : G ≤ 2 ^ 1140) (hM : 0 < M) (hM2 : M ≤ 2 ^ 31) (hT : 0 < T) (h1 : 0 ≤ c1 ∧ c1 < 2 ^ 20) (h2 : 0 ≤ c2 ∧ c2 < 2 ^ 20) (h3 : 0 ≤ c3 ∧ c3 < 2 ^ 20) (h4 : 0 ≤ c4 ∧ c4 < 2 ^ 20) :
    CMulW ((if n < 0 then -n else n) % G % M) c1 ∧ CMulW c2 i ∧ CMulW c3 (if n < 0 then 1 else 0) ∧ ∀ p, μ p = none → k (.own p) (muSet μ p (.l [D.int (if T < (if n < 0 then -n else n) % G then (if n < 0 then -n else n) % G - T else 0),
      D.int ((if n < 0 then -n else n) % G % M * c1 + c2 * i + c3 * (if n < 0 then 1 else 0) + c4), D.int 0])) := by
  obtain ⟨a1, a2, a3, a4⟩ := vat_fin n i hG hG2 hM hM2 hT h1 h2 h3 h4 i0 i1
  exact ⟨a1, a2, a3, fun p hp => h p _ hp a4⟩
theorem ok__law_vat (a : At K mg "_law_vat" s__law_vat) (T : Txt K mg C) : FnD P w K mg base "_law_vat" 28 d__law_vat := by
  refine fnD_of a (b__law_vat T) sc__law_vat (fun _ _ _ _ _ _ us hl => match us, hl with | [_, _], _ => rfl) ?_ ?_
  · rintro ds μ k ⟨ns, i, rfl, _⟩; rfl
  · rintro ds μ k ⟨ns, i, rfl, h0, h1, h⟩
    have p1 : CPowW 10 57 := ⟨by decide, by decide, by decide +kernel⟩
    have p2 : CPowW 1000000000000000000000000000000000000000000000000000000000 6 := ⟨by decide, by decide, by decide +kernel⟩
    have p3 : CPowW 10 16 := ⟨by decide, by decide, by decide +kernel⟩
    simp [r__law_vat]
    split
    · rename_i hi
      obtain ⟨j, rfl⟩ : ∃ j : Nat, i = (j : Int) := ⟨i.toNat, by omega⟩
      have hj : j < ns.length := by omega
      refine ⟨ns[j], by unfold atI; rw [ixN_nat hj]; simp, p1, p2, p3, ?_⟩
      apply vat_use ns[j] j h0 h1 h
      all_goals first | decide | decide +kernel
    · have i1 : Sm 10 i := by unfold Sm; omega
      refine ⟨sm_mulW (a := 20) (by unfold Sm; decide) i1 (by omega) (by omega) (by omega), p1, p2, p3, ?_⟩
      apply vat_use _ i h0 h1 h
      all_goals first | decide | decide +kernel
@[simp] theorem at3_0 {α : Type} {x y z : α} : atI [x, y, z] 0 = some x := rfl
@[simp] theorem at3_1 {α : Type} {x y z : α} : atI [x, y, z] 1 = some y := rfl
@[simp] theorem at3_2 {α : Type} {x y z : α} : atI [x, y, z] 2 = some z := rfl
@[simp] theorem ix3_0 : ixN 3 0 = some 0 := rfl
@[simp] theorem ix3_2 : ixN 3 2 = some 2 := rfl
theorem ok__law_draw (a : At K mg "_law_draw" s__law_draw) (T : Txt K mg C) : FnD P w K mg base "_law_draw" 29 d__law_draw := by
  refine fnD_of a (b__law_draw T) sc__law_draw (fun _ _ _ _ _ _ us hl => match us, hl with | [_, _], _ => rfl) ?_ ?_
  · rintro ds μ k ⟨p, t, N, vs, rfl, _⟩; rfl
  · rintro ds μ k ⟨p, t, N, vs, rfl, hp, ⟨a, b, c, rfl, v1, v2, v3, v4, v5⟩, t0, t1, hN, h⟩
    simp [r__law_draw, hp, muSet_same]
    have dt : CDivW a t := ⟨t0, by have := PySem.Flt.log2_lt_of (by decide : 0 < 1000) t1; omega⟩
    split
    · refine ⟨t0, dt, h _ _ (Int.emod_nonneg _ (by omega)) (Int.emod_lt_of_pos _ t0) ⟨_, _, _, rfl, Int.ediv_nonneg v1 (by omega), sm_le (Int.ediv_nonneg v1 (by omega)) (Int.ediv_le_self _ v1) v2, v3, v4, by omega⟩⟩
    · have c1 : Sm 31 (c + 1) := by unfold Sm; omega
      have q1 : Sm 61 ((b + 9699713 * (c + 1)) % 2305843009213693951) := sm_mod (by decide) (by decide)
      have q2 : ∀ z : Int, Sm 61 (z % 2305843009213693921) := fun z => sm_mod (by decide) (by decide)
      refine ⟨sm_mulW (a := 30) (by unfold Sm; decide) c1 (by omega) (by omega) (by omega), sm_mulW q1 q1 (by omega) (by omega) (by omega), sm_mulW (a := 30) (by unfold Sm; decide) c1 (by omega) (by omega) (by omega),
        sm_mulW (b := 30) (q2 _) (by unfold Sm; decide) (by omega) (by omega) (by omega), ⟨by decide, by decide +kernel⟩, t0, h _ _ (Int.emod_nonneg _ (by omega)) (Int.emod_lt_of_pos _ t0) ⟨_, _, _, rfl, v1, v2, v3, by omega, by omega⟩⟩
theorem ok__law_pick (a : At K mg "_law_pick" s__law_pick) (F : FnD P w K mg base "_law_draw" 29 d__law_draw) (T : Txt K mg C) : FnD P w K mg base "_law_pick" 30 d__law_pick := by
  refine fnD_of a (b__law_pick F T) sc__law_pick (fun _ _ _ _ _ _ us hl => match us, hl with | [_, _], _ => rfl) ?_ ?_
  · rintro ds μ k ⟨p, x, is, N, vs, rfl, _⟩; rfl
  · rintro ds μ k ⟨p, x, is, N, vs, rfl, hx, hp, hv, h1, h2, hN, h⟩
    have hl : 0 < is.length := List.length_pos_iff.mpr h1
    have fin : ∀ r : Int, 0 ≤ r → r < is.length → ∃ d, (∃ i, D.int r = .int i ∧ atI is i = some d) ∧ d ∈ is := fun r r0 r1 => by
      obtain ⟨j, rfl⟩ : ∃ j : Nat, r = (j : Int) := ⟨r.toNat, by omega⟩
      have hj : j < is.length := by omega
      exact ⟨is[j], ⟨_, rfl, by unfold atI; rw [ixN_nat hj]; simp⟩, List.getElem_mem hj⟩
    have hs : Sm 1000 (is.length : Int) := by
      have : Sm 20 (is.length : Int) := by unfold Sm; omega
      exact this.mono (by omega)
    rcases hx with rfl | rfl
    · simp [-List.map_map, r__law_pick]
      refine ⟨p, _, N, vs, rfl, hp, hv, by omega, hs, hN, fun r vs' r0 r1 hv' => ?_⟩
      obtain ⟨d, e, hd⟩ := fin r r0 r1
      exact ⟨d, e, h _ _ hd hv'⟩
    · simp [-List.map_map, r__law_pick]
      refine ⟨p, _, N, vs, rfl, hp, hv, by omega, hs, hN, fun r vs' r0 r1 hv' => ?_⟩
      obtain ⟨d, e, hd⟩ := fin r r0 r1
      exact ⟨d, e, h _ _ hd hv'⟩
theorem range_get {m i : Nat} {x : Nat} (h : (List.range m)[i]? = some x) : x = i ∧ i < m := by
  have hi : i < m := by
    by_cases hi : i < (List.range m).length
    · simpa using hi
    · rw [List.getElem?_eq_none (by omega)] at h; cases h
  rw [List.getElem?_range hi] at h
  cases h
  exact ⟨rfl, hi⟩
theorem ok__law_row (a : At K mg "_law_row" s__law_row) (F : FnD P w K mg base "_law_draw" 29 d__law_draw) (T : Txt K mg C) : FnD P w K mg base "_law_row" 32 d__law_row := by
  refine fnD_of a (b__law_row F T) sc__law_row (fun _ _ _ _ _ _ us hl => match us, hl with | [_, _, _], _ => rfl) ?_ ?_
  · rintro ds μ k ⟨p, m, sz, N, vs, rfl, _⟩; rfl
  · rintro ds μ k ⟨p, m, sz, N, vs, rfl, hp, hv, hm, hz0, hz1, hN, h⟩
    simp [r__law_row]
    refine ⟨by omega, ?_⟩
    refine lcW_inv (List.range m) (fun i : Nat => .int (0 + (i : Nat))) (.r 0 m) (by simp; omega)
      (fun i acc μ' => ∃ (r : List Int) (vs' : List D), acc = intsD r ∧ r.length = i ∧ (∀ x ∈ r, Wn sz x) ∧ VOk vs' (N + i) ∧ μ' = muSet μ p (.l vs'))
      ⟨[], vs, rfl, rfl, by simp, hv, (muSet_self hp).symm⟩ (fun _ _ _ _ => trivial) (fun i x acc μ' hx q => ?_) (fun acc μ' q => ?_)
    · obtain ⟨r, vs', rfl, hr, hsh, hv', rfl⟩ := q
      obtain ⟨rfl, hi⟩ := range_get hx
      simp
      refine ⟨sm_mulW (a := 2) (b := 200) (by unfold Sm; decide) (sm_le hz0 hz1 (by unfold Sm; decide)) (by omega) (by omega) (by omega), ?_⟩
      refine ⟨p, _, N + x, vs', rfl, muSet_same, hv', by omega, ?_, by omega, fun q vs2 q0 q1 hv2 => ?_⟩
      · exact sm_le (j := 2 * 10 ^ 30 + 1) (by omega) (by omega) (by unfold Sm; decide)
      · simp
        refine ⟨r ++ [q - sz], by simp [intsD], by simp [hr], fun y hy => ?_, vs2, hv2.mono (by omega), by rw [muSet_set]⟩
        rcases List.mem_append.mp hy with hy | hy
        · exact hsh y hy
        · rw [List.mem_singleton] at hy; rw [hy]; exact ⟨by omega, by omega⟩
    · obtain ⟨r, vs', rfl, hr, hsh, hv', rfl⟩ := q
      rw [List.length_range] at hr hv'
      exact h r vs' hr hsh (hv'.mono (by omega))
end
end K05


set_option Elab.async false
set_option linter.all false
set_option maxRecDepth 100000
set_option maxHeartbeats 4000000
namespace K05
open PySem PySem.Spec PyProof.Rows L2 SlX DL
/-! a drawn lot -/
/-- a dict with rows for keys -/
def tabOf (keys : List (List Int)) : List (List Key × D) := keys.map fun r => (r.map Sum.inl, .bl true)
theorem inl_inj {r s : List Int} (h : r.map (Sum.inl : Int → Key) = s.map Sum.inl) : r = s := by
  induction r generalizing s with
  | nil => cases s with
    | nil => rfl
    | cons _ _ => simp at h
  | cons x r ih => cases s with
    | nil => simp at h
    | cons y s =>
      simp only [List.map_cons, List.cons.injEq, Sum.inl.injEq] at h
      rw [h.1, ih h.2]
theorem putG_tab (keys : List (List Int)) (r : List Int) : putG (tabOf keys) (r.map Sum.inl) (.bl true) = tabOf (if r ∈ keys then keys else keys ++ [r]) := by
  unfold putG
  have e : ((tabOf keys).any fun kv => decide (kv.1 = r.map Sum.inl)) = decide (r ∈ keys) := by
    rw [Bool.eq_iff_iff]
    simp only [tabOf, List.any_map, List.any_eq_true, Function.comp, decide_eq_true_eq]
    constructor
    · rintro ⟨s, hs, e⟩
      rw [← inl_inj e]; exact hs
    · intro h
      exact ⟨r, h, rfl⟩
  rw [e]
  by_cases h : r ∈ keys
  · simp only [h, decide_true, if_true]
    unfold tabOf
    rw [List.map_map]
    refine List.map_congr_left fun s _ => ?_
    simp only [Function.comp]
    split <;> rfl
  · simp [h, tabOf]
theorem tab_keys (keys : List (List Int)) : (tabOf keys).map (·.1) = keys.map (List.map Sum.inl) := by
  simp [tabOf, Function.comp_def]
section
variable {P : Program} {w : World} {K : PySem.W.Frag} {mg : Str → Option Value} {base : Heap} {C : Addr}
abbrev s__law_lot : Stmt := topS 50
abbrev N__law_lot : List Str := ["_law_vat_here", "_law_size", "_law_many", "_law_wide", "_law_found", "_law_turn", "_law_at"]
theorem sc__law_lot : FnScope N__law_lot ["_law_vat_here", "_law_size", "_law_many", "_law_wide"] (defScope s__law_lot) := ⟨rfl, rfl, rfl, by decide +kernel, rfl, by decide +kernel, by decide +kernel⟩
def r__law_lot : RS :=
  (rSeq (rAsg rDNewT (rgName 4))
  (rSeq (rFor (rIR1 (rCons (rOp (oI fun i j => i + j) (rC (.int 1)) (rCall d__law_draw (rCons (rVar 0) (rCons (rVar 2) rNil)))) rNil)) (rgName 5) (rDPutT (rVar 4) (rCB oTuple (rCons (rLc (rIR1 (rCons (rVar 1) rNil)) (rgName 6) rYes (rOp (oI fun i j => i - j) (rCall d__law_draw (rCons (rVar 0) (rCons (rOp (oI fun i j => i + j) (rOp (oIc CMulW fun i j => i * j) (rC (.int 2)) (rVar 3)) (rC (.int 1))) rNil))) (rVar 3)) [6]) rNil)) (rC (.bl true))))
  (rRet (rCB oTuple (rCons (rCB oSortT (rCons (rVar 4) rNil)) rNil)))))
theorem b__law_lot (F__law_draw : FnD P w K mg base "_law_draw" 29 d__law_draw) (T : Txt K mg C) : Body P w K mg base 30 "_law_lot" s__law_lot N__law_lot (r__law_lot) := by
  refine fun f => ⟨_, fun cdv A outer s H E hr => ⟨(pss_cons (ps_set (i := 4) sc__law_lot.nd rfl (Or.inl rfl) pe_dnewT)
      (pss_cons (ps_for PassesOwn.never rfl (kr_range1 T.b_range (pa_cons (pe_op op_add pe_int (ke_call K F__law_draw hr (pa_cons (pv 0) (pa_cons (pv 2) pa_nil)))) pa_nil)) (pg_name (i := 5) sc__law_lot.nd rfl (Or.inl rfl)) (pss_one (ks_dput (units1 hr.units) (pv 4) (kt_call (kc_tuple K) T.b_tuple (pa_cons (pe_lc (own := [("_law_at", 6)]) rfl sc__law_lot.nd (kr_range1 T.b_range (pa_cons (pv 1) pa_nil)) (blkOk_by (own := [("_law_at", 6)]) (N := N__law_lot) (sc := defScope s__law_lot) (by decide +kernel)) (fun _ _ _ _ _ => (pg_name (i := 6) sc__law_lot.nd rfl (by first | exact Or.inl rfl | exact Or.inr rfl))) (fun _ _ _ _ _ => pts_nil) (fun _ _ _ _ _ => (pe_op op_sub (ke_call K F__law_draw hr (pa_cons (pv 0) (pa_cons (pe_op op_add (pe_op op_mulW pe_int (pv 3)) pe_int) pa_nil))) (pv 3)))) pa_nil)) pe_bl)))
      (pss_one (ps_ret (kt_call (kc_tuple K) T.b_tuple (pa_cons (kb_call (kc_sortDT (units8 hr.units)) T.b_sorted (pa_cons (pv 4) pa_nil)) pa_nil)))))),
    (okS_seq (okS_asg okE_dnewT (okG_name 4))
      (okS_seq (okS_for (okI_range1 (okA_cons (okE_op okI (okE_C fun _ => .int _) (okE_call (okA_cons (okE_var 0) (okA_cons (okE_var 2) okA_nil)))) okA_nil)) (okG_name 5) (okS_dputT (okE_var 4) (okE_CB okTuple (okA_cons (okE_lc (okI_range1 (okA_cons (okE_var 1) okA_nil)) (okG_name 6) okT_yes (okE_op okI (okE_call (okA_cons (okE_var 0) (okA_cons (okE_op okI (okE_op okIc (okE_C fun _ => .int _) (okE_var 3)) (okE_C fun _ => .int _)) okA_nil))) (okE_var 3)) (by decide)) okA_nil)) (okE_C fun _ => .bl _)))
      (okS_ret (okE_CB okTuple (okA_cons (okE_CB okSortT (okA_cons (okE_var 4) okA_nil)) okA_nil)))))⟩⟩



theorem ok__law_lot (a : At K mg "_law_lot" s__law_lot) (F : FnD P w K mg base "_law_draw" 29 d__law_draw) (T : Txt K mg C) : FnD P w K mg base "_law_lot" 31 d__law_lot := by
  refine fnD_ofW a (b__law_lot F T) sc__law_lot (fun _ _ _ _ _ _ us hl => match us, hl with | [_, _, _, _], _ => rfl) ?_ ?_
  · rintro ds μ k ⟨p, n, many, wide, N, vs, rfl, _⟩; rfl
  · rintro ds μ k ⟨p, n, many, wide, N, vs, rfl, hp, hv, hn0, hn1, hm0, hm1, hw0, hw1, hN, h⟩
    unfold r__law_lot
    refine seq_gen fun NX hNX => ?_
    simp
    intro q hq
    have hqp : q ≠ p := fun z => by rw [z, hp] at hq; cases hq
    subst hNX
    refine seq_gen fun NX hNX => ?_
    simp [rFor]
    refine ⟨p, many, N, vs, rfl, by rw [muSet_ne hqp.symm]; exact hp, hv, by omega, ?_, by omega, fun r vs1 r0 r1 hv1 => ?_⟩
    · have : Sm 20 (many : Int) := by unfold Sm; omega
      exact this.mono (by omega)
    · simp
      obtain ⟨c, rfl⟩ : ∃ c : Nat, r = (c : Int) := ⟨r.toNat, by omega⟩
      have e1 : (1 + (c : Int)).toNat = c + 1 := by omega
      rw [e1]
      refine ⟨by omega, ?_⟩
      refine forW_inv (List.range (c + 1)) (fun i : Nat => .int (0 + (i : Nat))) (.r 0 (c + 1)) (fun i δ μ' => ∃ (keys : List (List Int)) (vs' : List D) (x y : Option D), δ = [some (.own p), some (.int (n : Nat)), some (.int (many : Nat)), some (.int wide), some (.own q), x, y] ∧
        μ' = muSet (muSet μ p (.l vs')) q (.t (tabOf keys)) ∧ VOk vs' (N + 1 + n * i) ∧ keys.length ≤ i ∧ (0 < i → keys ≠ []) ∧ keys.Nodup ∧ ∀ r ∈ keys, r.length = n ∧ ∀ x ∈ r, Wn wide x) ?_ (fun _ _ _ _ => trivial) (fun i x δ μ' hx z => ?_) (fun δ μ' z => ?_)
      · refine ⟨[], vs1, none, none, rfl, ?_, hv1, by simp, by omega, by simp, by simp⟩
        funext b
        unfold muSet
        by_cases hb : b = p
        · subst hb; simp [hqp.symm, tabOf]
        · simp [hb, tabOf]
      · obtain ⟨keys, vs', x1, x2, rfl, rfl, hv', hl, hne, nd, hk⟩ := z
        obtain ⟨rfl, hi⟩ := range_get hx
        simp
        refine ⟨by omega, ?_⟩
        refine lcW_inv (List.range n) (fun i : Nat => .int (0 + (i : Nat))) (.r 0 n) (by simp; omega)
          (fun j acc μ'' => ∃ (r : List Int) (vs3 : List D), acc = intsD r ∧ r.length = j ∧ (∀ x ∈ r, Wn wide x) ∧ VOk vs3 (N + 1 + n * x + j) ∧ μ'' = muSet (muSet μ p (.l vs3)) q (.t (tabOf keys)))
          ⟨[], vs', rfl, rfl, by simp, hv', rfl⟩ (fun _ _ _ _ => trivial) (fun j u acc μ'' hu z => ?_) (fun acc μ'' z => ?_)
        · obtain ⟨r, vs3, rfl, hr, hw, hv3, rfl⟩ := z
          obtain ⟨rfl, hj⟩ := range_get hu
          have hnx : n * x ≤ n * 99 := Nat.mul_le_mul_left _ (by omega)
          simp
          refine ⟨sm_mulW (a := 2) (b := 200) (by unfold Sm; decide) (sm_le hw0 hw1 (by unfold Sm; decide)) (by omega) (by omega) (by omega), ?_⟩
          refine ⟨p, _, N + 1 + n * x + u, vs3, rfl, by rw [muSet_ne hqp.symm, muSet_same], hv3, by omega, ?_, by omega, fun b vs4 b0 b1 hv4 => ?_⟩
          · exact sm_le (j := 2 * 10 ^ 30 + 1) (by omega) (by omega) (by unfold Sm; decide)
          · simp
            refine ⟨r ++ [b - wide], by simp [intsD], by simp [hr], fun y hy => ?_, vs4, hv4.mono (by omega), ?_⟩
            · rcases List.mem_append.mp hy with hy | hy
              · exact hw y hy
              · rw [List.mem_singleton] at hy; rw [hy]; exact ⟨by omega, by omega⟩
            · funext b
              unfold muSet
              by_cases hb : b = p
              · subst hb; simp [hqp.symm]
              · simp [hb]
        · obtain ⟨r, vs3, rfl, hr, hw, hv3, rfl⟩ := z
          rw [List.length_range] at hr hv3
          refine ⟨tabOf keys, muSet_same, r.map Sum.inl, keyT_ints r, by simp [tabOf]; omega, ?_⟩
          rw [putG_tab, muSet_set]
          refine ⟨_, vs3, rfl, hv3.mono (by rw [Nat.mul_add]; omega), ?_, ?_, ?_, ?_⟩
          · split
            · omega
            · simp; omega
          · split
            · rename_i hm; exact fun z => by rw [z] at hm; cases hm
            · simp
          · split
            · exact nd
            · rename_i hm
              rw [List.nodup_append]
              exact ⟨nd, by simp, fun a ha b hb => by rw [List.mem_singleton] at hb; subst hb; exact fun z => hm (z ▸ ha)⟩
          · intro s hs
            split at hs
            · exact hk s hs
            · rcases List.mem_append.mp hs with hs | hs
              · exact hk s hs
              · rw [List.mem_singleton] at hs; subst hs; exact ⟨hr, hw⟩
      · obtain ⟨keys, vs', x1, x2, rfl, rfl, hv', hl, hne, nd, hk⟩ := z
        rw [List.length_range] at hv' hl hne
        have hnx : n * (c + 1) ≤ 8 * 100 := Nat.mul_le_mul hn1 (by omega)
        subst hNX
        simp [-List.map_map]
        refine ⟨tabOf keys, by rw [muSet_same], keys, tab_keys keys, fun r hr z => ?_, by omega, ?_⟩
        · have := (hk r hr).1
          rw [z] at this
          simp at this; omega
        · have pm := sortT_perm keys
          refine ⟨muSet μ p (.l vs'), Sub.set (by rw [muSet_ne hqp]; exact hq), ?_⟩
          refine h (keys.mergeSort leT) vs' ⟨?_, ?_, fun s hs => hk s (pm.mem_iff.mp hs), sortT_lt nd⟩ (hv'.mono (by omega))
          · rw [pm.length_eq]
            have := List.length_pos_iff.mpr (hne (by omega))
            omega
          · rw [pm.length_eq]; omega
end
end K05


set_option Elab.async false
set_option linter.all false
set_option maxRecDepth 100000
set_option maxHeartbeats 4000000
namespace K05
open PySem PySem.Spec PyProof.Rows L2 SlX DL
open Sx (Vec dd tt cost hset Good Units Ratio bnd sumN)
/-! the law's own judges -/
theorem pd_py {b L : Nat} : ∀ {n : Nat} {v : D}, Pd b L n v → ∃ x, toPy v = some x ∧ PyData.canLay0 x = true ∧ PyData.depth x ≤ n
  | n, .non, _ => ⟨.none, rfl, rfl, by simp [PyData.depth]⟩
  | n, .bl c, _ => ⟨.bool c, rfl, rfl, by simp [PyData.depth]⟩
  | n, .int i, _ => ⟨.int i, rfl, rfl, by simp [PyData.depth]⟩
  | n, .str s, h => ⟨.str s, rfl, by
      have h : PyData.strOk s = true ∧ s.length ≤ 4000 := by cases n <;> exact h
      simpa [PyData.canLay0] using h.1, by simp [PyData.depth]⟩
  | 0, .tup ds, h => h.elim
  | n + 1, .tup ds, h => by
    have all : ∀ {ds : List D}, (∀ d ∈ ds, Pd b L n d) → ∃ xs, toPyL ds = some xs ∧ PyData.canLayAll0 xs = true ∧ PyData.depthAll xs ≤ n := by
      intro ds
      induction ds with
      | nil => intro _; exact ⟨[], rfl, rfl, by simp [PyData.depthAll]⟩
      | cons d ds ih =>
        intro h
        obtain ⟨x, h1, h2, h3⟩ := pd_py (h d (by simp))
        obtain ⟨xs, k1, k2, k3⟩ := ih fun e he => h e (List.mem_cons_of_mem _ he)
        refine ⟨x :: xs, by unfold toPyL; rw [h1, k1], by simp [PyData.canLayAll0, h2, k2], ?_⟩
        simp only [PyData.depthAll]; omega
    obtain ⟨xs, h1, h2, h3⟩ := all h.2
    refine ⟨.tuple xs, by unfold toPy; rw [h1], by simpa [PyData.canLay0] using h2, ?_⟩
    simp only [PyData.depth]; omega
  | 0, .lst ds, h => h.elim
  | n + 1, .lst ds, h => by
    have all : ∀ {ds : List D}, (∀ d ∈ ds, Pd b L n d) → ∃ xs, toPyL ds = some xs ∧ PyData.canLayAll0 xs = true ∧ PyData.depthAll xs ≤ n := by
      intro ds
      induction ds with
      | nil => intro _; exact ⟨[], rfl, rfl, by simp [PyData.depthAll]⟩
      | cons d ds ih =>
        intro h
        obtain ⟨x, h1, h2, h3⟩ := pd_py (h d (by simp))
        obtain ⟨xs, k1, k2, k3⟩ := ih fun e he => h e (List.mem_cons_of_mem _ he)
        refine ⟨x :: xs, by unfold toPyL; rw [h1, k1], by simp [PyData.canLayAll0, h2, k2], ?_⟩
        simp only [PyData.depthAll]; omega
    obtain ⟨xs, h1, h2, h3⟩ := all h.2
    refine ⟨.list xs, by unfold toPy; rw [h1], by simpa [PyData.canLay0] using h2, ?_⟩
    simp only [PyData.depth]; omega
  | 0, .own _, h => h.elim
  | _ + 1, .own _, h => h.elim
  | 0, .obj _ _, h => h.elim
  | _ + 1, .obj _ _, h => h.elim
  | 0, .scr _, h => h.elim
  | _ + 1, .scr _, h => h.elim
  | 0, .dk _ _, h => h.elim
  | _ + 1, .dk _ _, h => h.elim
  | 0, .dt _ _, h => h.elim
  | _ + 1, .dt _ _, h => h.elim
theorem pdL_py {b L n : Nat} : ∀ {ds : List D}, (∀ d ∈ ds, Pd b L n d) → ∃ xs, toPyL ds = some xs ∧ xs.length = ds.length ∧ PyData.canLayAll0 xs = true ∧ PyData.depthAll xs ≤ n
  | [], _ => ⟨[], rfl, rfl, rfl, by simp [PyData.depthAll]⟩
  | d :: ds, h => by
    obtain ⟨x, h1, h2, h3⟩ := pd_py (h d (by simp))
    obtain ⟨xs, k1, k0, k2, k3⟩ := pdL_py (ds := ds) fun e he => h e (List.mem_cons_of_mem _ he)
    refine ⟨x :: xs, by unfold toPyL; rw [h1, k1], by simp [k0], by simp [PyData.canLayAll0, h2, k2], ?_⟩
    simp only [PyData.depthAll]; omega
theorem eqvAll_nil : ∀ xs : List PyData, PyData.eqvAll xs [] = xs.isEmpty
  | [] => by simp [PyData.eqvAll]
  | _ :: _ => by simp [PyData.eqvAll]
/-- xs == [] -/
theorem eq_nil {ds : List D} {b L n : Nat} {μ : Mu} {k : DK} (h : ∀ d ∈ ds, Pd b L n d) (hn : n ≤ 60) (q : k (.bl ds.isEmpty) μ) : oEq (.lst ds) (.lst []) μ k := by
  obtain ⟨xs, h1, h2, h3, h4⟩ := pdL_py h
  refine ⟨.list xs, .list [], by unfold asPy toPy; simp only [h1], by simp [asPy, toPy, toPyL], ?_, by decide, ?_⟩
  · unfold SeqAt.shaped
    simp [PyData.canLay0, h3, PyData.depth]
    omega
  · have e : PyData.eqv (.list xs) (.list []) = ds.isEmpty := by
      simp only [PyData.eqv]
      rw [eqvAll_nil]
      cases xs with
      | nil => cases ds with
        | nil => rfl
        | cons _ _ => simp at h2
      | cons _ _ => cases ds with
        | nil => simp at h2
        | cons _ _ => rfl
    rw [e]; exact q
/-- the word that a value begins with -/
def wordD (v : D) (m : Int) : D := match v with
  | .tup (.str s :: vs) => if (vs.length : Int) + 1 = m then .str s else .non
  | _ => .non
theorem word_cases (v : D) (m : Int) : wordD v m = .non ∧ (∀ w, toldB v w m = false) ∨ ∃ s vs, v = .tup (.str s :: vs) ∧ (vs.length : Int) + 1 = m ∧ wordD v m = .str s := by
  unfold wordD toldB
  split
  · rename_i s vs
    by_cases h : (vs.length : Int) + 1 = m
    · right; exact ⟨s, vs, rfl, h, by rw [if_pos h]⟩
    · left; simp [h]
  · left; simp
theorem eq_non {s : Str} {μ : Mu} {k : DK} (hs : PyData.strOk s = true) (h : k (.bl false) μ) : oEq .non (.str s) μ k :=
  ⟨.none, .str s, rfl, rfl, by decide, by simp [SeqAt.shaped, PyData.canLay0, hs, PyData.depth], by
    have e : PyData.eqv .none (.str s) = false := by simp only [PyData.eqv]
    rw [e]; exact h⟩
theorem ne_non {s : Str} {μ : Mu} {k : DK} (hs : PyData.strOk s = true) (h : k (.bl true) μ) : oNe .non (.str s) μ k :=
  ⟨.none, .str s, rfl, rfl, by decide, by simp [SeqAt.shaped, PyData.canLay0, hs, PyData.depth], by
    have e : PyData.eqv .none (.str s) = false := by simp only [PyData.eqv]
    rw [e]; exact h⟩
theorem eq_word {v : D} {m : Int} {w : Str} {μ : Mu} {k : DK} (hv : Any v) (hw : PyData.strOk w = true) (h : k (.bl (toldB v w m)) μ) : oEq (wordD v m) (.str w) μ k := by
  rcases word_cases v m with ⟨e, e2⟩ | ⟨s, vs, rfl, hm, e⟩
  · rw [e2] at h
    rw [e]; exact eq_non hw h
  · rw [e]
    refine oEq_str (hv.mem (by simp)).str hw ?_
    simpa [toldB, hm] using h
theorem ne_word {v : D} {m : Int} {w : Str} {μ : Mu} {k : DK} (hv : Any v) (hw : PyData.strOk w = true) (h : k (.bl (!toldB v w m)) μ) : oNe (wordD v m) (.str w) μ k := by
  rcases word_cases v m with ⟨e, e2⟩ | ⟨s, vs, rfl, hm, e⟩
  · rw [e2] at h
    rw [e]; exact ne_non hw h
  · rw [e]
    refine oNe_str (hv.mem (by simp)).str hw ?_
    simpa [toldB, hm] using h
theorem dotL_comm : ∀ xs ys : List Int, dotL xs ys = dotL ys xs
  | [], [] => rfl
  | [], _ :: _ => by simp [dotL]
  | _ :: _, [] => by simp [dotL]
  | x :: xs, y :: ys => by
    have := dotL_comm xs ys
    simp only [dotL, List.zipWith_cons_cons, List.sum_cons] at this ⊢
    rw [this, Int.mul_comm]
def d__law_dot : DSp := d_dot_in
def d__law_are_whole : DSp := fun ds μ k => ∃ v m, ds = [v, .int m] ∧ (∃ n, n ≤ 55 ∧ Pd 2000 10000 n v) ∧ k (.bl (wrow v m).isSome) μ
def d__law_made : DSp := fun ds μ k => ∃ lot ns m, ds = [lotD lot, rowD ns] ∧ (∀ p ∈ lot, p.length = m) ∧ 1 ≤ lot.length ∧ lot.length ≤ 1000 ∧ ns.length ≤ 1000 ∧ m ≤ 1000 ∧ (∀ p ∈ lot, ∀ x ∈ p, Sm 2000 x) ∧ (∀ x ∈ ns, Sm 2000 x) ∧ k (rowD (madeL lot ns m)) μ
def d__law_times : DSp := fun ds μ k => ∃ r c, ds = [rowD r, .int c] ∧ r.length ≤ 1000000 ∧ (∀ x ∈ r, Sm 2000 x) ∧ Sm 2000 c ∧ k (rowD (timesL r c)) μ
def d__law_are_weights : DSp := d_are_weights
def d__law_is_beyond : DSp := fun ds μ k => ∃ lot row v, ds = [lotD lot, rowD row, v] ∧ Any v ∧ row.length ≤ 1000000 ∧ lot.length ≤ 1000000 ∧ (∀ p ∈ lot, p.length ≤ 1000 ∧ ∀ x ∈ p, Sm 2000 x) ∧ (∀ x ∈ row, Sm 2000 x) ∧ k (.bl (formB lot row v)) μ
def d__law_word : DSp := fun ds μ k => ∃ v m, ds = [v, .int m] ∧ Any v ∧ 1 ≤ m ∧ k (wordD v m) μ
section
variable {P : Program} {w : World} {K : PySem.W.Frag} {mg : Str → Option Value} {base : Heap} {C : Addr}
abbrev s__law_dot : Stmt := topS 52
abbrev N__law_dot : List Str := ["_law_one", "_law_other", "_law_left", "_law_right_here"]
theorem sc__law_dot : FnScope N__law_dot ["_law_one", "_law_other"] (defScope s__law_dot) := ⟨rfl, rfl, rfl, by decide +kernel, rfl, by decide +kernel, by decide +kernel⟩
def r__law_dot : RS :=
  (rRet (rCB oSum (rCons (rLc (rIZ (rCons (rVar 0) (rCons (rVar 1) rNil))) (rgTup 2 (rgCons (rgName 2) (rgCons (rgName 3) rgNil))) rYes (rOp (oIc CMulW fun i j => i * j) (rVar 2) (rVar 3)) [2, 3]) rNil)))
theorem b__law_dot (T : Txt K mg C) : Body P w K mg base 32 "_law_dot" s__law_dot N__law_dot (r__law_dot) := by
  refine fun f => ⟨_, fun cdv A outer s H E hr => ⟨(pss_one (ps_ret (kb_call (kc_sum K) T.b_sum (pa_cons (pe_lc (own := [("_law_left", 2), ("_law_right_here", 3)]) rfl sc__law_dot.nd (ki_zip K (by rfl) T.b_zip (pa_cons (pv 0) (pa_cons (pv 1) pa_nil))) (blkOk_by (own := [("_law_left", 2), ("_law_right_here", 3)]) (N := N__law_dot) (sc := defScope s__law_dot) (by decide +kernel)) (fun _ _ _ _ _ => (kg_tup K (pgs_cons (pg_name (i := 2) sc__law_dot.nd rfl (by first | exact Or.inl rfl | exact Or.inr rfl)) (pgs_cons (pg_name (i := 3) sc__law_dot.nd rfl (by first | exact Or.inl rfl | exact Or.inr rfl)) pgs_nil)))) (fun _ _ _ _ _ => pts_nil) (fun _ _ _ _ _ => (pe_op op_mulW (pv 2) (pv 3)))) pa_nil)))),
    (okS_ret (okE_CB okSum (okA_cons (okE_lc (okI_zip (okA_cons (okE_var 0) (okA_cons (okE_var 1) okA_nil))) (okG_tup (okGs_cons (okG_name 2) (okGs_cons (okG_name 3) okGs_nil))) okT_yes (okE_op okIc (okE_var 2) (okE_var 3)) (by decide)) okA_nil)))⟩⟩

abbrev s__law_are_whole : Stmt := topS 53
abbrev N__law_are_whole : List Str := ["_law_value", "_law_many", "_law_one"]
theorem sc__law_are_whole : FnScope N__law_are_whole ["_law_value", "_law_many"] (defScope s__law_are_whole) := ⟨rfl, rfl, rfl, by decide +kernel, rfl, by decide +kernel, by decide +kernel⟩
def r__law_are_whole : RS :=
  (rSeq (rIfS (rOr (rNot (rB (rIsiB "tuple" (rVar 0)))) (rB (rOp oNe (rCB oLen (rCons (rVar 0) rNil)) (rVar 1)))) (rRet (rC (.bl false))) rNext)
  (rRet (rOp oEq (rLc (rIT (rVar 0)) (rgName 2) (rOr (rB (rIsiB "bool" (rVar 2))) (rNot (rB (rIsiB "int" (rVar 2))))) (rVar 2) [2]) (rLst rNil))))
theorem b__law_are_whole (T : Txt K mg C) : Body P w K mg base 34 "_law_are_whole" s__law_are_whole N__law_are_whole (r__law_are_whole) := by
  refine fun f => ⟨_, fun cdv A outer s H E hr => ⟨(pss_cons (ps_if (PW.pt (pw_or (pt_not (pt_val (kb_call (kc_isi K) T.b_isinstance (pa_cons (pv 0) (pa_cons (kb_ty (T := "tuple") T.b_tuple) pa_nil))))) (pw_or1 (pt_cmpR (ko_neD K hr.units) (kb_call (kc_len K) T.b_len (pa_cons (pv 0) pa_nil)) (pv 1) (nomark _))))) (pss_one (ps_ret pe_bl)) pss_nil)
      (pss_one (ps_ret (pe_cmpR (ko_eqD K hr.units) (pe_lc (own := [("_law_one", 2)]) rfl sc__law_are_whole.nd (ki_tup K (pv 0)) (blkOk_by (own := [("_law_one", 2)]) (N := N__law_are_whole) (sc := defScope s__law_are_whole) (by decide +kernel)) (fun _ _ _ _ _ => (pg_name (i := 2) sc__law_are_whole.nd rfl (by first | exact Or.inl rfl | exact Or.inr rfl))) (fun _ _ _ _ _ => (pts_one (PW.pt (pw_or (pt_val (kb_call (kc_isi K) T.b_isinstance (pa_cons (pv 2) (pa_cons (kb_ty (T := "bool") T.b_bool) pa_nil)))) (pw_or1 (pt_not (pt_val (kb_call (kc_isi K) T.b_isinstance (pa_cons (pv 2) (pa_cons (kb_ty (T := "int") T.b_int) pa_nil)))))))))) (fun _ _ _ _ _ => (pv 2))) (pe_lst pa_nil) (nomark _))))),
    (okS_seq (okS_if (okT_or (okT_not (okT_B (okE_isi (okE_var 0)))) (okT_test (okE_op okNe (okE_CB okLen (okA_cons (okE_var 0) okA_nil)) (okE_var 1)))) (okS_ret (okE_C fun _ => .bl _)) okS_next)
      (okS_ret (okE_op okEq (okE_lc (okI_tup (okE_var 0)) (okG_name 2) (okT_or (okT_B (okE_isi (okE_var 2))) (okT_not (okT_B (okE_isi (okE_var 2))))) (okE_var 2) (by decide)) (okE_lst okA_nil))))⟩⟩

abbrev s__law_made : Stmt := topS 54
abbrev N__law_made : List Str := ["_law_points", "_law_weights", "_law_at", "_law_weight", "_law_point"]
theorem sc__law_made : FnScope N__law_made ["_law_points", "_law_weights"] (defScope s__law_made) := ⟨rfl, rfl, rfl, by decide +kernel, rfl, by decide +kernel, by decide +kernel⟩
def r__law_made : RS :=
  (rRet (rCB oTuple (rCons (rLc (rIR1 (rCons (rCB oLen (rCons (rOp oIx (rVar 0) (rC (.int 0))) rNil)) rNil)) (rgName 2) rYes (rCB oSum (rCons (rLc (rIZ (rCons (rVar 1) (rCons (rVar 0) rNil))) (rgTup 2 (rgCons (rgName 3) (rgCons (rgName 4) rgNil))) rYes (rOp (oIc CMulW fun i j => i * j) (rVar 3) (rOp oIx (rVar 4) (rVar 2))) [3, 4]) rNil)) [2]) rNil)))
theorem b__law_made (T : Txt K mg C) : Body P w K mg base 35 "_law_made" s__law_made N__law_made (r__law_made) := by
  refine fun f => ⟨_, fun cdv A outer s H E hr => ⟨(pss_one (ps_ret (kt_call (kc_tuple K) T.b_tuple (pa_cons (pe_lc (own := [("_law_at", 2)]) rfl sc__law_made.nd (kr_range1 T.b_range (pa_cons (kb_call (kc_len K) T.b_len (pa_cons (pe_ix (kx_seq K) (pv 0) pe_int (fun _ _ => rfl)) pa_nil)) pa_nil)) (blkOk_by (own := [("_law_at", 2)]) (N := N__law_made) (sc := defScope s__law_made) (by decide +kernel)) (fun _ _ _ _ _ => (pg_name (i := 2) sc__law_made.nd rfl (by first | exact Or.inl rfl | exact Or.inr rfl))) (fun _ _ _ _ _ => pts_nil) (fun _ _ _ _ _ => (kb_call (kc_sum K) T.b_sum (pa_cons (pe_lc (own := [("_law_weight", 3), ("_law_point", 4)]) rfl sc__law_made.nd (ki_zip K (by rfl) T.b_zip (pa_cons (pv 1) (pa_cons (pv 0) pa_nil))) (by refine blkOk_by (own := [("_law_weight", 3), ("_law_point", 4)]) (N := N__law_made) ?_; kernel_rfl) (fun _ _ _ _ _ => (kg_tup K (pgs_cons (pg_name (i := 3) sc__law_made.nd rfl (by first | exact Or.inl rfl | exact Or.inr rfl)) (pgs_cons (pg_name (i := 4) sc__law_made.nd rfl (by first | exact Or.inl rfl | exact Or.inr rfl)) pgs_nil)))) (fun _ _ _ _ _ => pts_nil) (fun _ _ _ _ _ => (pe_op op_mulW (pv 3) (pe_ix (kx_seq K) (pv 4) (pv 2) (fun _ _ => rfl))))) pa_nil)))) pa_nil)))),
    (okS_ret (okE_CB okTuple (okA_cons (okE_lc (okI_range1 (okA_cons (okE_CB okLen (okA_cons (okE_op okIx (okE_var 0) (okE_C fun _ => .int _)) okA_nil)) okA_nil)) (okG_name 2) okT_yes (okE_CB okSum (okA_cons (okE_lc (okI_zip (okA_cons (okE_var 1) (okA_cons (okE_var 0) okA_nil))) (okG_tup (okGs_cons (okG_name 3) (okGs_cons (okG_name 4) okGs_nil))) okT_yes (okE_op okIc (okE_var 3) (okE_op okIx (okE_var 4) (okE_var 2))) (by decide)) okA_nil)) (by decide)) okA_nil)))⟩⟩

abbrev s__law_times : Stmt := topS 55
abbrev N__law_times : List Str := ["_law_row_here", "_law_number", "_law_one"]
theorem sc__law_times : FnScope N__law_times ["_law_row_here", "_law_number"] (defScope s__law_times) := ⟨rfl, rfl, rfl, by decide +kernel, rfl, by decide +kernel, by decide +kernel⟩
def r__law_times : RS :=
  (rRet (rCB oTuple (rCons (rLc (rIT (rVar 0)) (rgName 2) rYes (rOp (oIc CMulW fun i j => i * j) (rVar 1) (rVar 2)) [2]) rNil)))
theorem b__law_times (T : Txt K mg C) : Body P w K mg base 36 "_law_times" s__law_times N__law_times (r__law_times) := by
  refine fun f => ⟨_, fun cdv A outer s H E hr => ⟨(pss_one (ps_ret (kt_call (kc_tuple K) T.b_tuple (pa_cons (pe_lc (own := [("_law_one", 2)]) rfl sc__law_times.nd (ki_tup K (pv 0)) (blkOk_by (own := [("_law_one", 2)]) (N := N__law_times) (sc := defScope s__law_times) (by decide +kernel)) (fun _ _ _ _ _ => (pg_name (i := 2) sc__law_times.nd rfl (by first | exact Or.inl rfl | exact Or.inr rfl))) (fun _ _ _ _ _ => pts_nil) (fun _ _ _ _ _ => (pe_op op_mulW (pv 1) (pv 2)))) pa_nil)))),
    (okS_ret (okE_CB okTuple (okA_cons (okE_lc (okI_tup (okE_var 0)) (okG_name 2) okT_yes (okE_op okIc (okE_var 1) (okE_var 2)) (by decide)) okA_nil)))⟩⟩

abbrev s__law_are_weights : Stmt := topS 56
abbrev N__law_are_weights : List Str := ["_law_lot_here", "_law_row_here", "_law_number", "_law_weights"]
theorem sc__law_are_weights : FnScope N__law_are_weights ["_law_lot_here", "_law_row_here", "_law_number", "_law_weights"] (defScope s__law_are_weights) := ⟨rfl, rfl, rfl, by decide +kernel, rfl, by decide +kernel, by decide +kernel⟩
def r__law_are_weights : RS :=
  (rSeq (rIfS (rOr (rNot (rB (rCall d__law_are_whole (rCons (rTup (rCons (rVar 2) rNil)) (rCons (rC (.int 1)) rNil))))) (rOr (rB (rOp (oB (fun i j => decide (i < j))) (rVar 2) (rC (.int 1)))) (rNot (rB (rCall d__law_are_whole (rCons (rVar 3) (rCons (rCB oLen (rCons (rVar 0) rNil)) rNil))))))) (rRet (rC (.bl false))) rNext)
  (rSeq (rIfS (rOr (rB (rOp (oB (fun i j => decide (i < j))) (rCB oMinT (rCons (rVar 3) rNil)) (rC (.int 0)))) (rB (rOp oNe (rCB oSumT (rCons (rVar 3) rNil)) (rVar 2)))) (rRet (rC (.bl false))) rNext)
  (rRet (rOp oEq (rCall d__law_made (rCons (rVar 0) (rCons (rVar 3) rNil))) (rCall d__law_times (rCons (rVar 1) (rCons (rVar 2) rNil)))))))
theorem b__law_are_weights (F__law_are_whole : FnD P w K mg base "_law_are_whole" 35 d__law_are_whole) (F__law_made : FnD P w K mg base "_law_made" 36 d__law_made) (F__law_times : FnD P w K mg base "_law_times" 37 d__law_times) (T : Txt K mg C) : Body P w K mg base 37 "_law_are_weights" s__law_are_weights N__law_are_weights (r__law_are_weights) := by
  refine fun f => ⟨_, fun cdv A outer s H E hr => ⟨(pss_cons (ps_if (PW.pt (pw_or (pt_not (pt_val (ke_call K F__law_are_whole hr (pa_cons (pe_tup (pa_cons (pv 2) pa_nil)) (pa_cons pe_int pa_nil))))) (pw_or (pt_cmpR op_lt (pv 2) pe_int (nomark _)) (pw_or1 (pt_not (pt_val (ke_call K F__law_are_whole hr (pa_cons (pv 3) (pa_cons (kb_call (kc_len K) T.b_len (pa_cons (pv 0) pa_nil)) pa_nil))))))))) (pss_one (ps_ret pe_bl)) pss_nil)
      (pss_cons (ps_if (PW.pt (pw_or (pt_cmpR op_lt (kb_call (kc_minT K (units1 hr.units)) T.b_min (pa_cons (pv 3) pa_nil)) pe_int (nomark _)) (pw_or1 (pt_cmpR (ko_neD K hr.units) (kb_call (kc_sumT K) T.b_sum (pa_cons (pv 3) pa_nil)) (pv 2) (nomark _))))) (pss_one (ps_ret pe_bl)) pss_nil)
      (pss_one (ps_ret (pe_cmpR (ko_eqD K hr.units) (ke_call K F__law_made hr (pa_cons (pv 0) (pa_cons (pv 3) pa_nil))) (ke_call K F__law_times hr (pa_cons (pv 1) (pa_cons (pv 2) pa_nil))) (nomark _)))))),
    (okS_seq (okS_if (okT_or (okT_not (okT_B (okE_call (okA_cons (okE_tup (okA_cons (okE_var 2) okA_nil)) (okA_cons (okE_C fun _ => .int _) okA_nil))))) (okT_or (okT_test (okE_op okB (okE_var 2) (okE_C fun _ => .int _))) (okT_not (okT_B (okE_call (okA_cons (okE_var 3) (okA_cons (okE_CB okLen (okA_cons (okE_var 0) okA_nil)) okA_nil))))))) (okS_ret (okE_C fun _ => .bl _)) okS_next)
      (okS_seq (okS_if (okT_or (okT_test (okE_op okB (okE_CB okMinT (okA_cons (okE_var 3) okA_nil)) (okE_C fun _ => .int _))) (okT_test (okE_op okNe (okE_CB okSumT (okA_cons (okE_var 3) okA_nil)) (okE_var 2)))) (okS_ret (okE_C fun _ => .bl _)) okS_next)
      (okS_ret (okE_op okEq (okE_call (okA_cons (okE_var 0) (okA_cons (okE_var 3) okA_nil))) (okE_call (okA_cons (okE_var 1) (okA_cons (okE_var 2) okA_nil)))))))⟩⟩

abbrev s__law_is_beyond : Stmt := topS 57
abbrev N__law_is_beyond : List Str := ["_law_points", "_law_row_here", "_law_value", "_law_point"]
theorem sc__law_is_beyond : FnScope N__law_is_beyond ["_law_points", "_law_row_here", "_law_value"] (defScope s__law_is_beyond) := ⟨rfl, rfl, rfl, by decide +kernel, rfl, by decide +kernel, by decide +kernel⟩
def r__law_is_beyond : RS :=
  (rSeq (rIfS (rNot (rB (rCall d__law_are_whole (rCons (rVar 2) (rCons (rCB oLen (rCons (rVar 1) rNil)) rNil))))) (rRet (rC (.bl false))) rNext)
  (rRet (rOp oEq (rLc (rIT (rVar 0)) (rgName 3) (rB (rOp (oB (fun i j => decide (j ≤ i))) (rCall d__law_dot (rCons (rVar 3) (rCons (rVar 2) rNil))) (rCall d__law_dot (rCons (rVar 1) (rCons (rVar 2) rNil))))) (rVar 3) [3]) (rLst rNil))))
theorem b__law_is_beyond (F__law_are_whole : FnD P w K mg base "_law_are_whole" 35 d__law_are_whole) (F__law_dot : FnD P w K mg base "_law_dot" 33 d__law_dot) (T : Txt K mg C) : Body P w K mg base 38 "_law_is_beyond" s__law_is_beyond N__law_is_beyond (r__law_is_beyond) := by
  refine fun f => ⟨_, fun cdv A outer s H E hr => ⟨(pss_cons (ps_if (pt_not (pt_val (ke_call K F__law_are_whole hr (pa_cons (pv 2) (pa_cons (kb_call (kc_len K) T.b_len (pa_cons (pv 1) pa_nil)) pa_nil))))) (pss_one (ps_ret pe_bl)) pss_nil)
      (pss_one (ps_ret (pe_cmpR (ko_eqD K hr.units) (pe_lc (own := [("_law_point", 3)]) rfl sc__law_is_beyond.nd (ki_tup K (pv 0)) (blkOk_by (own := [("_law_point", 3)]) (N := N__law_is_beyond) (sc := defScope s__law_is_beyond) (by decide +kernel)) (fun _ _ _ _ _ => (pg_name (i := 3) sc__law_is_beyond.nd rfl (by first | exact Or.inl rfl | exact Or.inr rfl))) (fun _ _ _ _ _ => (pts_one (pt_cmpR op_ge (ke_call K F__law_dot hr (pa_cons (pv 3) (pa_cons (pv 2) pa_nil))) (ke_call K F__law_dot hr (pa_cons (pv 1) (pa_cons (pv 2) pa_nil))) (nomark _)))) (fun _ _ _ _ _ => (pv 3))) (pe_lst pa_nil) (nomark _))))),
    (okS_seq (okS_if (okT_not (okT_B (okE_call (okA_cons (okE_var 2) (okA_cons (okE_CB okLen (okA_cons (okE_var 1) okA_nil)) okA_nil))))) (okS_ret (okE_C fun _ => .bl _)) okS_next)
      (okS_ret (okE_op okEq (okE_lc (okI_tup (okE_var 0)) (okG_name 3) (okT_test (okE_op okB (okE_call (okA_cons (okE_var 3) (okA_cons (okE_var 2) okA_nil))) (okE_call (okA_cons (okE_var 1) (okA_cons (okE_var 2) okA_nil))))) (okE_var 3) (by decide)) (okE_lst okA_nil))))⟩⟩

abbrev s__law_word : Stmt := topS 58
abbrev N__law_word : List Str := ["_law_value", "_law_many"]
theorem sc__law_word : FnScope N__law_word ["_law_value", "_law_many"] (defScope s__law_word) := ⟨rfl, rfl, rfl, by decide +kernel, rfl, by decide +kernel, by decide +kernel⟩
def r__law_word : RS :=
  (rSeq (rIfS (rOr (rNot (rB (rIsiB "tuple" (rVar 0)))) (rOr (rB (rOp oNe (rCB oLen (rCons (rVar 0) rNil)) (rVar 1))) (rNot (rB (rIsiB "str" (rOp oIx (rVar 0) (rC (.int 0)))))))) (rRet (rC .non)) rNext)
  (rRet (rOp oIx (rVar 0) (rC (.int 0)))))
theorem b__law_word (T : Txt K mg C) : Body P w K mg base 39 "_law_word" s__law_word N__law_word (r__law_word) := by
  refine fun f => ⟨_, fun cdv A outer s H E hr => ⟨(pss_cons (ps_if (PW.pt (pw_or (pt_not (pt_val (kb_call (kc_isi K) T.b_isinstance (pa_cons (pv 0) (pa_cons (kb_ty (T := "tuple") T.b_tuple) pa_nil))))) (pw_or (pt_cmpR (ko_neD K hr.units) (kb_call (kc_len K) T.b_len (pa_cons (pv 0) pa_nil)) (pv 1) (nomark _)) (pw_or1 (pt_not (pt_val (kb_call (kc_isi K) T.b_isinstance (pa_cons (pe_ix (kx_seq K) (pv 0) pe_int (fun _ _ => rfl)) (pa_cons (kb_ty (T := "str") T.b_str) pa_nil))))))))) (pss_one (ps_ret pe_non)) pss_nil)
      (pss_one (ps_ret (pe_ix (kx_seq K) (pv 0) pe_int (fun _ _ => rfl))))),
    (okS_seq (okS_if (okT_or (okT_not (okT_B (okE_isi (okE_var 0)))) (okT_or (okT_test (okE_op okNe (okE_CB okLen (okA_cons (okE_var 0) okA_nil)) (okE_var 1))) (okT_not (okT_B (okE_isi (okE_op okIx (okE_var 0) (okE_C fun _ => .int _))))))) (okS_ret (okE_C fun _ => .non)) okS_next)
      (okS_ret (okE_op okIx (okE_var 0) (okE_C fun _ => .int _))))⟩⟩



theorem ok__law_dot (a : At K mg "_law_dot" s__law_dot) (T : Txt K mg C) : FnD P w K mg base "_law_dot" 33 d__law_dot := by
  refine fnD_of a (b__law_dot T) sc__law_dot (fun _ _ _ _ _ _ us hl => match us, hl with | [_, _], _ => rfl) ?_ ?_
  · rintro ds μ k ⟨xs, ys, rfl, _⟩; rfl
  · rintro ds μ k ⟨xs, ys, rfl, hn, sx, sy, h⟩
    have src := Src.z (μ := μ) (x := rowD xs) (y := rowD ys) (xs := intsD xs) (ys := intsD ys) rfl rfl
    have e : (((intsD xs).zip (intsD ys)).map fun q => D.tup [q.1, q.2]) = (xs.zip ys).map fun q => D.tup [.int q.1, .int q.2] := by
      rw [List.zip_map, List.map_map]; rfl
    rw [e] at src
    simp [-asQ, -asL, -List.map_map, r__law_dot, asQ_tup]
    refine lcW_map (xs.zip ys) _ (fun q => .int (q.1 * q.2)) src (by rw [List.length_zip]; omega) (fun z hz kt kf h1 => ?_) ?_
    · have m1 := List.of_mem_zip hz
      have c1 := sm_mulW (sx z.1 m1.1) (sy z.2 m1.2) (by omega) (by omega) (by omega)
      simp [wipeD, c1]; exact h1
    · refine ⟨(xs.zip ys).map fun q => q.1 * q.2, by simp, ?_⟩
      have e2 : ((xs.zip ys).map fun q => q.1 * q.2).sum = dotL xs ys := by
        unfold dotL
        rw [List.zip, List.map_zipWith]
      rw [e2]
      exact h
theorem ok__law_are_whole (a : At K mg "_law_are_whole" s__law_are_whole) (T : Txt K mg C) : FnD P w K mg base "_law_are_whole" 35 d__law_are_whole := by
  refine fnD_of a (b__law_are_whole T) sc__law_are_whole (fun _ _ _ _ _ _ us hl => match us, hl with | [_, _], _ => rfl) ?_ ?_
  · rintro ds μ k ⟨v, m, rfl, _⟩; rfl
  · rintro ds μ k ⟨v, m, rfl, hv, h⟩
    cases v with
    | tup es =>
      obtain ⟨n, hn, p⟩ := hv
      have he : ∀ d ∈ es, Pd 2000 10000 n d := by
        cases n with
        | zero => exact p.elim
        | succ n => exact fun d hd => (p.2 d hd).mono (Nat.le_refl _) (Nat.le_refl _) (Nat.le_succ _)
      have hl : es.length ≤ 10000 := by
        cases n with
        | zero => exact p.elim
        | succ n => exact p.1
      simp [-asQ, -asL, -List.map_map, r__law_are_whole]
      split
      · rename_i hm
        refine lcW_filt es id id (fun d => !isInt d) (by simpa using Src.l es) (by omega) (fun x hx kt kf q1 q2 => ?_) ?_
        · have hp := (he x hx).plain
          cases x <;> first | (exfalso; exact Bool.noConfusion hp) | (simp [wipeD, isInt] at q1 q2 ⊢; first | exact q1 | exact q2)
        · refine eq_nil (b := 2000) (L := 10000) (n := n) (fun d hd => ?_) (by omega) ?_
          · rw [List.map_id] at hd
            exact he d (List.mem_filter.mp hd).1
          · have e : ((es.filter fun d => !isInt d).map id).isEmpty = (wrow (.tup es) m).isSome := by
              simp only [wrow, hm, if_true, List.map_id]
              rw [intsOf_all, Bool.eq_iff_iff]
              simp [List.isEmpty_iff, List.filter_eq_nil_iff]
            rw [e]; exact h
      · rename_i hm
        simpa [wrow, hm] using h
    | non => simpa [r__law_are_whole, wrow] using h
    | bl b => simpa [r__law_are_whole, wrow] using h
    | int i => simpa [r__law_are_whole, wrow] using h
    | str s => simpa [r__law_are_whole, wrow] using h
    | lst es => simpa [r__law_are_whole, wrow] using h
    | _ => obtain ⟨n, _, p⟩ := hv; exact Bool.noConfusion p.plain
theorem ok__law_made (a : At K mg "_law_made" s__law_made) (T : Txt K mg C) : FnD P w K mg base "_law_made" 36 d__law_made := by
  refine fnD_of a (b__law_made T) sc__law_made (fun _ _ _ _ _ _ us hl => match us, hl with | [_, _], _ => rfl) ?_ ?_
  · rintro ds μ k ⟨_, _, _, rfl, _⟩; rfl
  · rintro ds μ k ⟨lot, ns, m, rfl, hl, h1, h2, h3, h4, s1, s2, h⟩
    have e0 : ∃ p0, lot[0]? = some p0 := ⟨lot[0]'(by omega), List.getElem?_eq_getElem _⟩
    obtain ⟨p0, e0⟩ := e0
    have l0 : p0.length = m := hl p0 (List.mem_of_getElem? e0)
    have a0 : atI (lot.map rowD) 0 = some (rowD p0) := atI_lot (i := 0) e0
    simp [-asQ, -asL, -List.map_map, r__law_made]
    refine ⟨_, asQ_tup, _, a0, ?_⟩
    simp [-asQ, -asL, -List.map_map, l0]
    refine ⟨by omega, ?_⟩
    refine lcW_map (List.range m) (fun i => .int (0 + ((i : Nat) : Int))) (fun i => .int ((ns.zip lot).map fun q => q.1 * q.2.getD i 0).sum) (Src.r 0 m) (by rw [List.length_range]; omega) (fun i hi kt kf q => ?_) ?_
    · have hi := List.mem_range.mp hi
      simp [-asQ, -asL, -List.map_map, wipeD, asQ_tup]
      have src := Src.z (μ := μ) (x := rowD ns) (y := lotD lot) (xs := intsD ns) (ys := lot.map rowD) rfl rfl
      have e : (((intsD ns).zip (lot.map rowD)).map fun q => D.tup [q.1, q.2]) = (ns.zip lot).map fun q => D.tup [.int q.1, rowD q.2] := by
        rw [List.zip_map, List.map_map]; rfl
      rw [e] at src
      refine lcW_map (ns.zip lot) _ (fun q => .int (q.1 * q.2.getD i 0)) src (by rw [List.length_zip]; omega) (fun z hz kt2 kf2 q2 => ?_) ?_
      · have m1 := List.of_mem_zip hz
        have hz2 : i < z.2.length := by rw [hl z.2 m1.2]; exact hi
        have ea : atI (intsD z.2) ((i : Nat) : Int) = some (.int (z.2.getD i 0)) := by
          unfold atI ixN
          rw [show (intsD z.2).length = z.2.length by simp, if_pos (by omega), if_pos (by omega)]
          simp [List.getElem?_eq_getElem hz2]
        have c1 : CMulW z.1 (z.2.getD i 0) := sm_mulW (s2 z.1 m1.1) (s1 z.2 m1.2 _ (by simp [List.getElem?_eq_getElem hz2])) (by omega) (by omega) (by omega)
        simp only [rgTup, rgCons, rgName, rgNil] at *
        simp [-asQ, -asL, -List.map_map, wipeD, asQ_tup]
        exact ⟨_, ea, c1, q2⟩
      · exact ⟨(ns.zip lot).map fun q => q.1 * q.2.getD i 0, by simp, q⟩
    · refine ⟨_, asQ_lst, ?_⟩
      have e4 : rowD (madeL lot ns m) = .tup ((List.range m).map fun i => .int ((ns.zip lot).map fun q => q.1 * q.2.getD i 0).sum) := by
        simp [madeL]
      rw [e4] at h
      exact h
theorem ok__law_times (a : At K mg "_law_times" s__law_times) (T : Txt K mg C) : FnD P w K mg base "_law_times" 37 d__law_times := by
  refine fnD_of a (b__law_times T) sc__law_times (fun _ _ _ _ _ _ us hl => match us, hl with | [_, _], _ => rfl) ?_ ?_
  · rintro ds μ k ⟨_, _, rfl, _⟩; rfl
  · rintro ds μ k ⟨r, c, rfl, hr, sr, sc, h⟩
    simp [-asQ, -asL, -List.map_map, r__law_times]
    refine lcW_map r D.int (fun x => .int (c * x)) (.l _) hr (fun x hx kt kf q => ?_) ?_
    · have c1 := sm_mulW sc (sr x hx) (by omega) (by omega) (by omega)
      simp [-asQ, -asL, -List.map_map, wipeD, c1]
      exact q
    · refine ⟨_, asQ_lst, ?_⟩
      have e4 : rowD (timesL r c) = .tup (r.map fun x => .int (c * x)) := by simp [timesL]
      rw [e4] at h
      exact h
theorem any_one {nb : D} (h : Any nb) : ∃ n, n ≤ 55 ∧ Pd 2000 10000 n (.tup [nb]) := by
  obtain ⟨n, hn, p⟩ := h.pd
  refine ⟨n + 1, by omega, by simp, fun d hd => ?_⟩
  rw [List.mem_singleton] at hd
  subst hd; exact p
theorem any_le {v : D} (h : Any v) : ∃ n, n ≤ 55 ∧ Pd 2000 10000 n v := let ⟨n, hn, p⟩ := h.pd; ⟨n, by omega, p⟩
theorem wrow_one (nb : D) : (wrow (.tup [nb]) 1).isSome = isInt nb := by
  cases nb <;> rfl
theorem ok__law_are_weights (a : At K mg "_law_are_weights" s__law_are_weights) (F1 : FnD P w K mg base "_law_are_whole" 35 d__law_are_whole) (F2 : FnD P w K mg base "_law_made" 36 d__law_made) (F3 : FnD P w K mg base "_law_times" 37 d__law_times) (T : Txt K mg C) : FnD P w K mg base "_law_are_weights" 38 d__law_are_weights := by
  refine fnD_of a (b__law_are_weights F1 F2 F3 T) sc__law_are_weights (fun _ _ _ _ _ _ us hl => match us, hl with | [_, _, _, _], _ => rfl) ?_ ?_
  · rintro ds μ k ⟨_, _, _, _, rfl, _⟩; rfl
  · rintro ds μ k ⟨lot, row, nb, v, rfl, hnb, hv, hl, h1, h2, h3, s1, s2, h⟩
    simp [-asQ, -asL, -List.map_map, r__law_are_weights]
    refine ⟨.tup [nb], 1, rfl, any_one hnb, ?_⟩
    rw [wrow_one]
    have fal : (∀ i, nb ≠ .int i) → k (.bl false) μ := fun hs => by
      have e : weightsB lot row nb v = false := by
        unfold weightsB
        split
        · rename_i b; exact absurd rfl (hs b)
        · rfl
      rw [e] at h; exact h
    cases nb with
    | int b =>
      simp [-asQ, -asL, -List.map_map, isInt]
      have hsb := hnb.int
      by_cases hb : b < 1
      · rw [if_pos hb]
        simpa [weightsB, hb] using h
      · rw [if_neg hb]
        simp only [weightsB, hb, decide_false, Bool.not_false, Bool.true_and] at h
        refine ⟨v, lot.length, rfl, any_le hv, ?_⟩
        cases q : wrow v lot.length with
        | none =>
          rw [q] at h
          simpa using h
        | some ns =>
          rw [q] at h
          simp only at h
          obtain ⟨rfl, hn⟩ := wrow_some q
          have hn : ns.length = lot.length := by omega
          have hns := hv.row.2
          simp [-asQ, -asL, -List.map_map]
          refine ⟨ns, rfl, by omega, fun m hm hmin => ?_⟩
          by_cases hneg : m < 0
          · rw [if_pos hneg]
            have e : (ns.all fun x => decide (0 ≤ x)) = false := by
              rw [Bool.eq_false_iff]
              intro z
              have := of_decide_eq_true (List.all_eq_true.mp z m hm)
              omega
            rw [e] at h
            simpa using h
          · rw [if_neg hneg]
            have e : (ns.all fun x => decide (0 ≤ x)) = true := List.all_eq_true.mpr fun x hx => decide_eq_true (by have := hmin x hx; omega)
            rw [e] at h
            refine ⟨ns, rfl, ?_⟩
            by_cases hsum : ns.sum = b
            · rw [if_pos hsum]
              simp only [hsum, decide_true, Bool.true_and] at h
              refine ⟨lot, ns, row.length, rfl, hl, h1, h2, by omega, h3, s1, hns, ?_⟩
              refine ⟨row, b, rfl, by omega, s2, hsb, ?_⟩
              refine Cm.int.tup.toEq (x := madeL lot ns row.length) (y := timesL row b) (Cm.int.tup.as μ _) (Cm.int.tup.as μ _) (by decide) ?_
              exact h
            · rw [if_neg hsum]
              simpa [hsum] using h
    | non => simpa [isInt] using fal (fun s z => nomatch z)
    | bl b => simpa [isInt] using fal (fun s z => nomatch z)
    | str b => simpa [isInt] using fal (fun s z => nomatch z)
    | tup b => simpa [isInt] using fal (fun s z => nomatch z)
    | lst b => simpa [isInt] using fal (fun s z => nomatch z)
    | _ => exact Bool.noConfusion hnb.plain
theorem ok__law_is_beyond (a : At K mg "_law_is_beyond" s__law_is_beyond) (F1 : FnD P w K mg base "_law_are_whole" 35 d__law_are_whole) (F2 : FnD P w K mg base "_law_dot" 33 d__law_dot) (T : Txt K mg C) : FnD P w K mg base "_law_is_beyond" 39 d__law_is_beyond := by
  refine fnD_of a (b__law_is_beyond F1 F2 T) sc__law_is_beyond (fun _ _ _ _ _ _ us hl => match us, hl with | [_, _, _], _ => rfl) ?_ ?_
  · rintro ds μ k ⟨_, _, _, rfl, _⟩; rfl
  · rintro ds μ k ⟨lot, row, v, rfl, hv, hr, hl, s1, s2, h⟩
    simp [-asQ, -asL, -List.map_map, r__law_is_beyond]
    refine ⟨v, row.length, rfl, any_le hv, ?_⟩
    unfold formB at h
    cases q : wrow v row.length with
    | none =>
      rw [q] at h
      simpa using h
    | some f =>
      rw [q] at h
      obtain ⟨rfl, hf⟩ := wrow_some q
      have hf : f.length = row.length := by omega
      have s3 : ∀ x ∈ f, Sm 100000 x := fun x hx => (hv.row.2 x hx).mono (by omega)
      simp [-asQ, -asL, -List.map_map]
      refine lcW_filt lot rowD rowD (fun p => !decide (dotL f p < dotL f row)) (.l _) hl (fun p hp kt kf q1 q2 => ?_) ?_
      · simp [-asQ, -asL, -List.map_map, wipeD]
        refine ⟨p, f, rfl, by have := (s1 p hp).1; omega, fun x hx => ((s1 p hp).2 x hx).mono (by omega), s3, ?_⟩
        refine ⟨row, f, rfl, by omega, fun x hx => (s2 x hx).mono (by omega), s3, ?_⟩
        rw [dotL_comm f p, dotL_comm f row] at q1 q2
        simp only [asB]
        by_cases z : dotL row f ≤ dotL p f
        · simp [z]
          exact q1 (by simp; omega)
        · simp [z]
          exact q2 (by simp; omega)
      · refine eq_nil (b := 2000) (L := 10000) (n := 1) (fun d hd => ?_) (by omega) ?_
        · obtain ⟨p, hp, rfl⟩ := List.mem_map.mp hd
          have hp := (List.mem_filter.mp hp).1
          exact Pd.row (by have := (s1 p hp).1; omega) (s1 p hp).2 0
        · have e : ((lot.filter fun p => !decide (dotL f p < dotL f row)).map rowD).isEmpty = lot.all fun p => decide (dotL f p < dotL f row) := by
            rw [Bool.eq_iff_iff]
            simp [List.isEmpty_iff, List.filter_eq_nil_iff]
          rw [e]; exact h
theorem ok__law_word (a : At K mg "_law_word" s__law_word) (T : Txt K mg C) : FnD P w K mg base "_law_word" 40 d__law_word := by
  refine fnD_of a (b__law_word T) sc__law_word (fun _ _ _ _ _ _ us hl => match us, hl with | [_, _], _ => rfl) ?_ ?_
  · rintro ds μ k ⟨_, _, rfl, _⟩; rfl
  · rintro ds μ k ⟨v, m, rfl, hv, hm1, h⟩
    cases v with
    | tup es =>
      simp [-asQ, -asL, -List.map_map, r__law_word, asQ_tup]
      split
      · rename_i hm
        match es, hm with
        | [], hm => simp at hm; omega
        | d :: es, hm =>
          have a0 : atI (d :: es) 0 = some d := by simp [atI, ixN]
          have hd := hv.mem (d := d) (by simp)
          refine ⟨_, a0, ?_⟩
          have hm' : (es.length : Int) + 1 = m := by simpa using hm
          cases d with
          | str s =>
            simp [-asQ, -asL, -List.map_map]
            refine ⟨_, a0, ?_⟩
            simpa [wordD, hm'] using h
          | non => simpa [wordD] using h
          | bl b => simpa [wordD] using h
          | int b => simpa [wordD] using h
          | tup b => simpa [wordD] using h
          | lst b => simpa [wordD] using h
          | _ => exact Bool.noConfusion hd.plain
      · rename_i hm
        have e : wordD (.tup es) m = .non := by
          unfold wordD
          split
          · rename_i s vs e
            injection e with e
            subst e
            simp at hm
            simp [hm]
          · rfl
        rw [e] at h; exact h
    | non => simpa [r__law_word, wordD] using h
    | bl b => simpa [r__law_word, wordD] using h
    | int i => simpa [r__law_word, wordD] using h
    | str s => simpa [r__law_word, wordD] using h
    | lst es => simpa [r__law_word, wordD] using h
    | _ => exact Bool.noConfusion hv.plain
end
end K05


set_option Elab.async false
set_option linter.all false
set_option maxRecDepth 100000
set_option maxHeartbeats 4000000
namespace K05
open PySem PySem.Spec PyProof.Rows L2 SlX DL
open Sx (Vec dd tt cost hset Good Units Ratio bnd sumN)
/-! the law's look at papers; values near papers -/
def d__law_is_point_paper : DSp := fun ds μ k => ∃ lot n i p v, ds = [lotD lot, .int (i : Nat), v] ∧ IsLot lot n ∧ lot[i]? = some p ∧ Any v ∧ (∀ q ∈ lot, ∀ x ∈ q, Sm 2000 x) ∧ k (.bl (pointB lot i p v)) μ
def d__law_is_row_paper : DSp := d_is_inside_or_beyond
theorem strOk_of (s : String) : PyData.strOk (Str.ofString s) = true := by
  unfold PyData.strOk
  rw [Str.ofString_eq_toList, Array.all_eq_true']
  intro c hc
  simp at hc
  obtain ⟨x, _, rfl⟩ := hc
  have := x.valid
  simp
  rcases this with h | h
  · have h : x.toNat < 0xD800 := h
    omega
  · have h : x.toNat < 0x110000 := h.2
    omega
def d__law_bent (n : Nat) : DSp := fun ds μ k => ∃ p b L m v N vs, ds = [.own p, v] ∧ μ p = some (.l vs) ∧ VOk vs N ∧ Pd b L m v ∧ m ≤ n ∧ m ≤ 50 ∧ b ≤ 1500 ∧ 1 ≤ b ∧ 2 ≤ L ∧ L ≤ 1000 ∧ N + 10 * (n + 1) < 2 ^ 30 ∧ ∀ v' vs', Pd (b + 2) (L + 1) (m + 1) v' → VOk vs' (N + 10 * (n + 1)) → k v' (muSet μ p (.l vs'))
section
variable {P : Program} {w : World} {K : PySem.W.Frag} {mg : Str → Option Value} {base : Heap} {C : Addr}
abbrev s__law_is_point_paper : Stmt := topS 59
abbrev N__law_is_point_paper : List Str := ["_law_lot_here", "_law_index", "_law_value", "_law_others"]
theorem sc__law_is_point_paper : FnScope N__law_is_point_paper ["_law_lot_here", "_law_index", "_law_value"] (defScope s__law_is_point_paper) := ⟨rfl, rfl, rfl, by decide +kernel, rfl, by decide +kernel, by decide +kernel⟩
def r__law_is_point_paper : RS :=
  (rSeq (rAsg (rOp oCatT (rSlc oSlT (rVar 0) rNo (rPart (rVar 1))) (rSlc oSlT (rVar 0) (rPart (rOp (oI fun i j => i + j) (rVar 1) (rC (.int 1)))) rNo)) (rgName 3))
  (rSeq (rIfS (rB (rOp oEq (rCall d__law_word (rCons (rVar 2) (rCons (rC (.int 2)) rNil))) (rC (.str "corner")))) (rRet (rCall d__law_is_beyond (rCons (rVar 3) (rCons (rOp oIx (rVar 0) (rVar 1)) (rCons (rOp oIx (rVar 2) (rC (.int 1))) rNil))))) rNext)
  (rSeq (rIfS (rOr (rB (rOp oNe (rCall d__law_word (rCons (rVar 2) (rCons (rC (.int 3)) rNil))) (rC (.str "weights")))) (rNot (rB (rCall d__law_are_weights (rCons (rVar 0) (rCons (rOp oIx (rVar 0) (rVar 1)) (rCons (rOp oIx (rVar 2) (rC (.int 1))) (rCons (rOp oIx (rVar 2) (rC (.int 2))) rNil)))))))) (rRet (rC (.bl false))) rNext)
  (rRet (rOp oEq (rOp oIx (rOp oIx (rVar 2) (rC (.int 2))) (rVar 1)) (rC (.int 0)))))))
theorem b__law_is_point_paper (F__law_word : FnD P w K mg base "_law_word" 40 d__law_word) (F__law_is_beyond : FnD P w K mg base "_law_is_beyond" 39 d__law_is_beyond) (F__law_are_weights : FnD P w K mg base "_law_are_weights" 38 d__law_are_weights) (T : Txt K mg C) : Body P w K mg base 47 "_law_is_point_paper" s__law_is_point_paper N__law_is_point_paper (r__law_is_point_paper) := by
  refine fun f => ⟨_, fun cdv A outer s H E hr => ⟨(pss_cons (ps_set (i := 3) sc__law_is_point_paper.nd rfl (Or.inl rfl) (pe_op (ko_catA K) (pe_slice (ks_tupA K) (pv 0) po_none (po_some (pv 1))) (pe_slice (ks_tupA K) (pv 0) (po_some (pe_op op_add (pv 1) pe_int)) po_none)))
      (pss_cons (ps_if (pt_cmpR (ko_eqD K hr.units) (ke_call K F__law_word hr (pa_cons (pv 2) (pa_cons pe_int pa_nil))) pe_str (nomark _)) (pss_one (ps_ret (ke_call K F__law_is_beyond hr (pa_cons (pv 3) (pa_cons (pe_ix (kx_seq K) (pv 0) (pv 1) (fun _ _ => rfl)) (pa_cons (pe_ix (kx_seq K) (pv 2) pe_int (fun _ _ => rfl)) pa_nil)))))) pss_nil)
      (pss_cons (ps_if (PW.pt (pw_or (pt_cmpR (ko_neD K hr.units) (ke_call K F__law_word hr (pa_cons (pv 2) (pa_cons pe_int pa_nil))) pe_str (nomark _)) (pw_or1 (pt_not (pt_val (ke_call K F__law_are_weights hr (pa_cons (pv 0) (pa_cons (pe_ix (kx_seq K) (pv 0) (pv 1) (fun _ _ => rfl)) (pa_cons (pe_ix (kx_seq K) (pv 2) pe_int (fun _ _ => rfl)) (pa_cons (pe_ix (kx_seq K) (pv 2) pe_int (fun _ _ => rfl)) pa_nil)))))))))) (pss_one (ps_ret pe_bl)) pss_nil)
      (pss_one (ps_ret (pe_cmpR (ko_eqD K hr.units) (pe_ix (kx_seq K) (pe_ix (kx_seq K) (pv 2) pe_int (fun _ _ => rfl)) (pv 1) (fun _ _ => rfl)) pe_int (nomark _))))))),
    (okS_seq (okS_asg (okE_op okCatT (okE_slc okSlT (okE_var 0) okO_no (okO_part (okE_var 1))) (okE_slc okSlT (okE_var 0) (okO_part (okE_op okI (okE_var 1) (okE_C fun _ => .int _))) okO_no)) (okG_name 3))
      (okS_seq (okS_if (okT_test (okE_op okEq (okE_call (okA_cons (okE_var 2) (okA_cons (okE_C fun _ => .int _) okA_nil))) (okE_C fun _ => .str _))) (okS_ret (okE_call (okA_cons (okE_var 3) (okA_cons (okE_op okIx (okE_var 0) (okE_var 1)) (okA_cons (okE_op okIx (okE_var 2) (okE_C fun _ => .int _)) okA_nil))))) okS_next)
      (okS_seq (okS_if (okT_or (okT_test (okE_op okNe (okE_call (okA_cons (okE_var 2) (okA_cons (okE_C fun _ => .int _) okA_nil))) (okE_C fun _ => .str _))) (okT_not (okT_B (okE_call (okA_cons (okE_var 0) (okA_cons (okE_op okIx (okE_var 0) (okE_var 1)) (okA_cons (okE_op okIx (okE_var 2) (okE_C fun _ => .int _)) (okA_cons (okE_op okIx (okE_var 2) (okE_C fun _ => .int _)) okA_nil)))))))) (okS_ret (okE_C fun _ => .bl _)) okS_next)
      (okS_ret (okE_op okEq (okE_op okIx (okE_op okIx (okE_var 2) (okE_C fun _ => .int _)) (okE_var 1)) (okE_C fun _ => .int _))))))⟩⟩

abbrev s__law_is_row_paper : Stmt := topS 60
abbrev N__law_is_row_paper : List Str := ["_law_lot_here", "_law_row_here", "_law_value"]
theorem sc__law_is_row_paper : FnScope N__law_is_row_paper ["_law_lot_here", "_law_row_here", "_law_value"] (defScope s__law_is_row_paper) := ⟨rfl, rfl, rfl, by decide +kernel, rfl, by decide +kernel, by decide +kernel⟩
def r__law_is_row_paper : RS :=
  (rSeq (rIfS (rB (rOp oEq (rCall d__law_word (rCons (rVar 2) (rCons (rC (.int 2)) rNil))) (rC (.str "beyond")))) (rRet (rCall d__law_is_beyond (rCons (rVar 0) (rCons (rVar 1) (rCons (rOp oIx (rVar 2) (rC (.int 1))) rNil))))) rNext)
  (rRet (rAndV (rOp oEq (rCall d__law_word (rCons (rVar 2) (rCons (rC (.int 3)) rNil))) (rC (.str "inside"))) (rCall d__law_are_weights (rCons (rVar 0) (rCons (rVar 1) (rCons (rOp oIx (rVar 2) (rC (.int 1))) (rCons (rOp oIx (rVar 2) (rC (.int 2))) rNil))))))))
theorem b__law_is_row_paper (F__law_word : FnD P w K mg base "_law_word" 40 d__law_word) (F__law_is_beyond : FnD P w K mg base "_law_is_beyond" 39 d__law_is_beyond) (F__law_are_weights : FnD P w K mg base "_law_are_weights" 38 d__law_are_weights) (T : Txt K mg C) : Body P w K mg base 40 "_law_is_row_paper" s__law_is_row_paper N__law_is_row_paper (r__law_is_row_paper) := by
  refine fun f => ⟨_, fun cdv A outer s H E hr => ⟨(pss_cons (ps_if (pt_cmpR (ko_eqD K hr.units) (ke_call K F__law_word hr (pa_cons (pv 2) (pa_cons pe_int pa_nil))) pe_str (nomark _)) (pss_one (ps_ret (ke_call K F__law_is_beyond hr (pa_cons (pv 0) (pa_cons (pv 1) (pa_cons (pe_ix (kx_seq K) (pv 2) pe_int (fun _ _ => rfl)) pa_nil)))))) pss_nil)
      (pss_one (ps_ret (pe_and (pe_cmpR (ko_eqD K hr.units) (ke_call K F__law_word hr (pa_cons (pv 2) (pa_cons pe_int pa_nil))) pe_str (nomark _)) (pe_one (ke_call K F__law_are_weights hr (pa_cons (pv 0) (pa_cons (pv 1) (pa_cons (pe_ix (kx_seq K) (pv 2) pe_int (fun _ _ => rfl)) (pa_cons (pe_ix (kx_seq K) (pv 2) pe_int (fun _ _ => rfl)) pa_nil)))))))))),
    (okS_seq (okS_if (okT_test (okE_op okEq (okE_call (okA_cons (okE_var 2) (okA_cons (okE_C fun _ => .int _) okA_nil))) (okE_C fun _ => .str _))) (okS_ret (okE_call (okA_cons (okE_var 0) (okA_cons (okE_var 1) (okA_cons (okE_op okIx (okE_var 2) (okE_C fun _ => .int _)) okA_nil))))) okS_next)
      (okS_ret (okE_andV (okE_op okEq (okE_call (okA_cons (okE_var 2) (okA_cons (okE_C fun _ => .int _) okA_nil))) (okE_C fun _ => .str _)) (okE_call (okA_cons (okE_var 0) (okA_cons (okE_var 1) (okA_cons (okE_op okIx (okE_var 2) (okE_C fun _ => .int _)) (okA_cons (okE_op okIx (okE_var 2) (okE_C fun _ => .int _)) okA_nil))))))))⟩⟩

abbrev s__law_bent : Stmt := topS 61
abbrev N__law_bent : List Str := ["_law_vat_here", "_law_value", "_law_at", "_law_way"]
theorem sc__law_bent : FnScope N__law_bent ["_law_vat_here", "_law_value"] (defScope s__law_bent) := ⟨rfl, rfl, rfl, by decide +kernel, rfl, by decide +kernel, by decide +kernel⟩
def r__law_bent (dB : DSp) : RS :=
  (rSeq (rIfS (rAnd (rB (rIsiB "int" (rVar 1))) (rNot (rB (rIsiB "bool" (rVar 1))))) (rRet (rCall d__law_pick (rCons (rVar 0) (rCons (rLst (rCons (rOp (oI fun i j => i + j) (rVar 1) (rC (.int 1))) (rCons (rOp (oI fun i j => i - j) (rVar 1) (rC (.int 1))) (rCons (rOp (oIc CMulW fun i j => i * j) (rC (.int 2)) (rVar 1)) (rCons (rUn oNeg (rVar 1)) (rCons (rC (.int 0)) (rCons (rC (.int 1)) (rCons (rC (.bl true)) (rCons (rC .non) (rCons (rCB oStrI (rCons (rVar 1) rNil)) rNil)))))))))) rNil)))) rNext)
  (rSeq (rIfS (rOr (rNot (rB (rIsiB "tuple" (rVar 1)))) (rB (rOp oEq (rVar 1) (rTup rNil)))) (rRet (rCall d__law_pick (rCons (rVar 0) (rCons (rLst (rCons (rC .non) (rCons (rTup rNil) (rCons (rC (.int 0)) (rCons (rC (.str "corner")) (rCons (rC (.str "weights")) (rCons (rC (.str "inside")) (rCons (rC (.str "beyond")) (rCons (rC (.str "edge")) (rCons (rLst rNil) (rCons (rTup (rCons (rC (.int 1)) (rCons (rC (.int 1)) rNil))) rNil))))))))))) rNil)))) rNext)
  (rSeq (rPar 2 3 (rCons (rCall d__law_draw (rCons (rVar 0) (rCons (rCB oLen (rCons (rVar 1) rNil)) rNil))) (rCons (rCall d__law_draw (rCons (rVar 0) (rCons (rC (.int 9)) rNil))) rNil)))
  (rSeq (rIfS (rB (rOp oEq (rVar 3) (rC (.int 0)))) (rRet (rOp oCatT (rSlc oSlT (rVar 1) rNo (rPart (rVar 2))) (rSlc oSlT (rVar 1) (rPart (rOp (oI fun i j => i + j) (rVar 2) (rC (.int 1)))) rNo))) rNext)
  (rSeq (rIfS (rB (rOp oEq (rVar 3) (rC (.int 1)))) (rRet (rOp oCatT (rVar 1) (rSlc oSlT (rVar 1) (rPart (rVar 2)) (rPart (rOp (oI fun i j => i + j) (rVar 2) (rC (.int 1))))))) rNext)
  (rSeq (rIfS (rB (rOp oEq (rVar 3) (rC (.int 2)))) (rRet (rCall d__law_pick (rCons (rVar 0) (rCons (rLst (rCons (rCB oList (rCons (rVar 1) rNil)) (rCons (rBackT (rVar 1) (rPart (rUn oNeg (rC (.int 1))))) (rCons (rC .non) rNil)))) rNil)))) rNext)
  (rRet (rOp oCatT (rOp oCatT (rSlc oSlT (rVar 1) rNo (rPart (rVar 2))) (rTup (rCons (rCall dB (rCons (rVar 0) (rCons (rOp oIx (rVar 1) (rVar 2)) rNil))) rNil))) (rSlc oSlT (rVar 1) (rPart (rOp (oI fun i j => i + j) (rVar 2) (rC (.int 1)))) rNo)))))))))
theorem b__law_bent {dB : DSp} {j : Nat} (hj : 48 ≤ j) (F__law_pick : FnD P w K mg base "_law_pick" 30 d__law_pick) (F__law_draw : FnD P w K mg base "_law_draw" 29 d__law_draw) (F__law_bent : FnD P w K mg base "_law_bent" j dB) (T : Txt K mg C) : Body P w K mg base j "_law_bent" s__law_bent N__law_bent (r__law_bent dB) := by
  refine fun f => ⟨_, fun cdv A outer s H E hr => ⟨(pss_cons (ps_if (PW.pt (pw_and (pt_val (kb_call (kc_isi K) T.b_isinstance (pa_cons (pv 1) (pa_cons (kb_ty (T := "int") T.b_int) pa_nil)))) (pw_and1 (pt_not (pt_val (kb_call (kc_isi K) T.b_isinstance (pa_cons (pv 1) (pa_cons (kb_ty (T := "bool") T.b_bool) pa_nil)))))))) (pss_one (ps_ret (ke_call K F__law_pick hr (pa_cons (pv 0) (pa_cons (pe_lst (pa_cons (pe_op op_add (pv 1) pe_int) (pa_cons (pe_op op_sub (pv 1) pe_int) (pa_cons (pe_op op_mulW pe_int (pv 1)) (pa_cons (pe_un un_neg (pv 1)) (pa_cons pe_int (pa_cons pe_int (pa_cons pe_bl (pa_cons pe_non (pa_cons (kt_call call_str_int T.b_str (pa_cons (pv 1) pa_nil)) pa_nil)))))))))) pa_nil))))) pss_nil)
      (pss_cons (ps_if (PW.pt (pw_or (pt_not (pt_val (kb_call (kc_isi K) T.b_isinstance (pa_cons (pv 1) (pa_cons (kb_ty (T := "tuple") T.b_tuple) pa_nil))))) (pw_or1 (pt_cmpR (ko_eqD K hr.units) (pv 1) (pe_tup pa_nil) (nomark _))))) (pss_one (ps_ret (ke_call K F__law_pick hr (pa_cons (pv 0) (pa_cons (pe_lst (pa_cons pe_non (pa_cons (pe_tup pa_nil) (pa_cons pe_int (pa_cons pe_str (pa_cons pe_str (pa_cons pe_str (pa_cons pe_str (pa_cons pe_str (pa_cons (pe_lst pa_nil) (pa_cons (pe_tup (pa_cons pe_int (pa_cons pe_int pa_nil))) pa_nil))))))))))) pa_nil))))) pss_nil)
      (pss_cons (ps_par (i := 2) (j := 3) rfl sc__law_bent.nd rfl rfl (by decide) rfl rfl (pa_cons (ke_call K F__law_draw hr (pa_cons (pv 0) (pa_cons (kb_call (kc_len K) T.b_len (pa_cons (pv 1) pa_nil)) pa_nil))) (pa_cons (ke_call K F__law_draw hr (pa_cons (pv 0) (pa_cons pe_int pa_nil))) pa_nil)) rfl)
      (pss_cons (ps_if (pt_cmpR (ko_eqD K hr.units) (pv 3) pe_int (nomark _)) (pss_one (ps_ret (pe_op (ko_catA K) (pe_slice (ks_tupA K) (pv 1) po_none (po_some (pv 2))) (pe_slice (ks_tupA K) (pv 1) (po_some (pe_op op_add (pv 2) pe_int)) po_none)))) pss_nil)
      (pss_cons (ps_if (pt_cmpR (ko_eqD K hr.units) (pv 3) pe_int (nomark _)) (pss_one (ps_ret (pe_op (ko_catA K) (pv 1) (pe_slice (ks_tupA K) (pv 1) (po_some (pv 2)) (po_some (pe_op op_add (pv 2) pe_int)))))) pss_nil)
      (pss_cons (ps_if (pt_cmpR (ko_eqD K hr.units) (pv 3) pe_int (nomark _)) (pss_one (ps_ret (ke_call K F__law_pick hr (pa_cons (pv 0) (pa_cons (pe_lst (pa_cons (kt_call (kc_list K) T.b_list (pa_cons (pv 1) pa_nil)) (pa_cons (ke_backT K (pv 1) (po_some (pe_un un_neg pe_int))) (pa_cons pe_non pa_nil)))) pa_nil))))) pss_nil)
      (pss_one (ps_ret (pe_op (ko_catA K) (pe_op (ko_catA K) (pe_slice (ks_tupA K) (pv 1) po_none (po_some (pv 2))) (pe_tup (pa_cons (ke_call K F__law_bent hr (pa_cons (pv 0) (pa_cons (pe_ix (kx_seq K) (pv 1) (pv 2) (fun _ _ => rfl)) pa_nil))) pa_nil))) (pe_slice (ks_tupA K) (pv 1) (po_some (pe_op op_add (pv 2) pe_int)) po_none)))))))))),
    (okS_seq (okS_if (okT_and (okT_B (okE_isi (okE_var 1))) (okT_not (okT_B (okE_isi (okE_var 1))))) (okS_ret (okE_call (okA_cons (okE_var 0) (okA_cons (okE_lst (okA_cons (okE_op okI (okE_var 1) (okE_C fun _ => .int _)) (okA_cons (okE_op okI (okE_var 1) (okE_C fun _ => .int _)) (okA_cons (okE_op okIc (okE_C fun _ => .int _) (okE_var 1)) (okA_cons (okE_un okNeg (okE_var 1)) (okA_cons (okE_C fun _ => .int _) (okA_cons (okE_C fun _ => .int _) (okA_cons (okE_C fun _ => .bl _) (okA_cons (okE_C fun _ => .non) (okA_cons (okE_CB okStrI (okA_cons (okE_var 1) okA_nil)) okA_nil)))))))))) okA_nil)))) okS_next)
      (okS_seq (okS_if (okT_or (okT_not (okT_B (okE_isi (okE_var 1)))) (okT_test (okE_op okEq (okE_var 1) (okE_tup okA_nil)))) (okS_ret (okE_call (okA_cons (okE_var 0) (okA_cons (okE_lst (okA_cons (okE_C fun _ => .non) (okA_cons (okE_tup okA_nil) (okA_cons (okE_C fun _ => .int _) (okA_cons (okE_C fun _ => .str _) (okA_cons (okE_C fun _ => .str _) (okA_cons (okE_C fun _ => .str _) (okA_cons (okE_C fun _ => .str _) (okA_cons (okE_C fun _ => .str _) (okA_cons (okE_lst okA_nil) (okA_cons (okE_tup (okA_cons (okE_C fun _ => .int _) (okA_cons (okE_C fun _ => .int _) okA_nil))) okA_nil))))))))))) okA_nil)))) okS_next)
      (okS_seq (okS_par (okA_cons (okE_call (okA_cons (okE_var 0) (okA_cons (okE_CB okLen (okA_cons (okE_var 1) okA_nil)) okA_nil))) (okA_cons (okE_call (okA_cons (okE_var 0) (okA_cons (okE_C fun _ => .int _) okA_nil))) okA_nil)))
      (okS_seq (okS_if (okT_test (okE_op okEq (okE_var 3) (okE_C fun _ => .int _))) (okS_ret (okE_op okCatT (okE_slc okSlT (okE_var 1) okO_no (okO_part (okE_var 2))) (okE_slc okSlT (okE_var 1) (okO_part (okE_op okI (okE_var 2) (okE_C fun _ => .int _))) okO_no))) okS_next)
      (okS_seq (okS_if (okT_test (okE_op okEq (okE_var 3) (okE_C fun _ => .int _))) (okS_ret (okE_op okCatT (okE_var 1) (okE_slc okSlT (okE_var 1) (okO_part (okE_var 2)) (okO_part (okE_op okI (okE_var 2) (okE_C fun _ => .int _)))))) okS_next)
      (okS_seq (okS_if (okT_test (okE_op okEq (okE_var 3) (okE_C fun _ => .int _))) (okS_ret (okE_call (okA_cons (okE_var 0) (okA_cons (okE_lst (okA_cons (okE_CB okList (okA_cons (okE_var 1) okA_nil)) (okA_cons (okE_backT (okE_var 1) (okO_part (okE_un okNeg (okE_C fun _ => .int _)))) (okA_cons (okE_C fun _ => .non) okA_nil)))) okA_nil)))) okS_next)
      (okS_ret (okE_op okCatT (okE_op okCatT (okE_slc okSlT (okE_var 1) okO_no (okO_part (okE_var 2))) (okE_tup (okA_cons (okE_call (okA_cons (okE_var 0) (okA_cons (okE_op okIx (okE_var 1) (okE_var 2)) okA_nil))) okA_nil))) (okE_slc okSlT (okE_var 1) (okO_part (okE_op okI (okE_var 2) (okE_C fun _ => .int _))) okO_no)))))))))⟩⟩



theorem ok__law_is_point_paper (a : At K mg "_law_is_point_paper" s__law_is_point_paper) (F1 : FnD P w K mg base "_law_word" 40 d__law_word) (F2 : FnD P w K mg base "_law_is_beyond" 39 d__law_is_beyond) (F3 : FnD P w K mg base "_law_are_weights" 38 d__law_are_weights) (T : Txt K mg C) : FnD P w K mg base "_law_is_point_paper" 48 d__law_is_point_paper := by
  refine fnD_of a (b__law_is_point_paper F1 F2 F3 T) sc__law_is_point_paper (fun _ _ _ _ _ _ us hl => match us, hl with | [_, _, _], _ => rfl) ?_ ?_
  · rintro ds μ k ⟨_, _, _, _, _, rfl, _⟩; rfl
  · rintro ds μ k ⟨lot, n, i, p, v, rfl, hl, hp, hv, s1, h⟩
    have hi := lt_of_get hp
    have hpm := List.mem_of_getElem? hp
    have hl2 := hl.2.1
    have hpl : p.length = n ∧ p.length ≤ 8 := ⟨(hl.2.2.1 p hpm).2, isRow_len (hl.2.2.1 p hpm).1⟩
    have hql : ∀ q ∈ lot, q.length = n := fun q hq => (hl.2.2.1 q hq).2
    have o1 : PyData.strOk "corner" = true := by decide +kernel
    have o2 : PyData.strOk "weights" = true := by decide +kernel
    have ol := others_len lot i
    have e1 : ((i : Nat) : Int) + 1 = ((i + 1 : Nat) : Int) := by omega
    have eo : D.tup ((lot.take i).map rowD ++ (lot.drop (i + 1)).map rowD) = lotD (others lot i) := by simp [others, lotD]
    simp [-asQ, -asL, -List.map_map, r__law_is_point_paper, -oEq, -oNe]
    rw [e1, cut_take (by omega), cut_drop (by omega), eo]
    refine ⟨by simp; omega, v, 2, rfl, hv, by omega, ?_⟩
    refine eq_word hv o1 ?_
    unfold pointB at h
    by_cases t1 : toldB v "corner" 2 = true
    · rw [if_pos t1] at h
      obtain ⟨d, rfl⟩ := told2 t1
      simp only [asB, t1, if_true]
      refine ⟨_, asQ_tup, _, atI_lot hp, _, asQ_tup, _, rfl, ?_⟩
      exact ⟨others lot i, p, d, rfl, hv.mem (by simp), by omega, by omega, fun q hq => ⟨by rw [hql q (others_sub hq)]; omega, s1 q (others_sub hq)⟩, s1 p hpm, h⟩
    · rw [if_neg t1] at h
      simp only [asB, t1, if_false]
      refine ⟨v, 3, rfl, hv, by omega, ?_⟩
      refine ne_word hv o2 ?_
      by_cases t2 : toldB v "weights" 3 = true
      · obtain ⟨nb, ws, rfl⟩ := told3 t2
        simp only [asB, t2, Bool.not_true, Bool.false_eq_true, if_false, Bool.true_and] at h ⊢
        refine ⟨_, asQ_tup, _, atI_lot hp, _, asQ_tup, _, rfl, _, asQ_tup, _, rfl, ?_⟩
        refine ⟨lot, p, nb, ws, rfl, hv.mem (by simp), hv.mem (by simp), fun q hq => by rw [hpl.1]; exact (hl.2.2.1 q hq).2, hl.1, by omega, by omega, s1, s1 p hpm, ?_⟩
        simp only [mem, List.getD_cons_succ, List.getD_cons_zero] at h
        by_cases hw : weightsB lot p nb ws = true
        · simp only [hw, if_true, Bool.not_true, Bool.false_eq_true, if_false] at h ⊢
          cases q : wrow ws lot.length with
          | none =>
            exfalso
            unfold weightsB at hw
            split at hw
            · rw [q] at hw; simp at hw
            · cases hw
          | some ns =>
            rw [q] at h
            obtain ⟨rfl, hn⟩ := wrow_some q
            have hin : i < ns.length := by omega
            have ea : atI (intsD ns) ((i : Nat) : Int) = some (.int (ns.getD i 0)) := by
              unfold atI ixN
              rw [show (intsD ns).length = ns.length by simp, if_pos (by omega), if_pos (by omega)]
              simp [List.getElem?_eq_getElem hin]
            refine ⟨_, asQ_tup, _, rfl, _, asQ_tup, _, ea, ?_⟩
            simpa using h
        · simp only [hw, if_false, Bool.not_false, if_true] at h ⊢
          simpa using h
      · simp only [asB, t2, Bool.not_false, if_true, Bool.false_and, Bool.false_eq_true, if_false] at h ⊢
        exact h
theorem ok__law_is_row_paper (a : At K mg "_law_is_row_paper" s__law_is_row_paper) (F1 : FnD P w K mg base "_law_word" 40 d__law_word) (F2 : FnD P w K mg base "_law_is_beyond" 39 d__law_is_beyond) (F3 : FnD P w K mg base "_law_are_weights" 38 d__law_are_weights) (T : Txt K mg C) : FnD P w K mg base "_law_is_row_paper" 41 d__law_is_row_paper := by
  refine fnD_of a (b__law_is_row_paper F1 F2 F3 T) sc__law_is_row_paper (fun _ _ _ _ _ _ us hl => match us, hl with | [_, _, _], _ => rfl) ?_ ?_
  · rintro ds μ k ⟨_, _, _, rfl, _⟩; rfl
  · rintro ds μ k ⟨lot, row, v, rfl, hl, hr, hv, s1, s2, h⟩
    have hr2 := isRow_len hr
    have hl2 := hl.2.1
    have hql : ∀ q ∈ lot, q.length = row.length := fun q hq => (hl.2.2.1 q hq).2
    have o1 : PyData.strOk "beyond" = true := by decide +kernel
    have o2 : PyData.strOk "inside" = true := by decide +kernel
    simp [-asQ, -asL, -List.map_map, r__law_is_row_paper, -oEq, -oNe]
    refine ⟨v, 2, rfl, hv, by omega, ?_⟩
    refine eq_word hv o1 ?_
    unfold rowB at h
    by_cases t1 : toldB v "beyond" 2 = true
    · rw [if_pos t1] at h
      obtain ⟨d, rfl⟩ := told2 t1
      simp only [asB, t1, if_true]
      refine ⟨_, asQ_tup, _, rfl, ?_⟩
      exact ⟨lot, row, d, rfl, hv.mem (by simp), by omega, by omega, fun q hq => ⟨by rw [hql q hq]; omega, s1 q hq⟩, s2, h⟩
    · rw [if_neg t1] at h
      simp only [asB, t1, if_false]
      refine ⟨v, 3, rfl, hv, by omega, ?_⟩
      refine eq_word hv o2 ?_
      by_cases t2 : toldB v "inside" 3 = true
      · obtain ⟨nb, ws, rfl⟩ := told3 t2
        simp only [asB, t2, if_true, Bool.true_and] at h ⊢
        refine ⟨_, asQ_tup, _, rfl, _, asQ_tup, _, rfl, ?_⟩
        exact ⟨lot, row, nb, ws, rfl, hv.mem (by simp), hv.mem (by simp), hql, hl.1, by omega, by omega, s1, s2, h⟩
      · simp only [asB, t2, if_false, Bool.false_and, Bool.false_eq_true] at h ⊢
        exact h
/-- t == () -/
theorem eqT_nil {ds : List D} {b L n : Nat} {μ : Mu} {k : DK} (h : ∀ d ∈ ds, Pd b L n d) (hn : n ≤ 60) (q : k (.bl ds.isEmpty) μ) : oEq (.tup ds) (.tup []) μ k := by
  obtain ⟨xs, h1, h2, h3, h4⟩ := pdL_py h
  refine ⟨.tuple xs, .tuple [], by unfold asPy toPy; simp only [h1], by simp [asPy, toPy, toPyL], ?_, by decide, ?_⟩
  · unfold SeqAt.shaped
    simp [PyData.canLay0, h3, PyData.depth]
    omega
  · have e : PyData.eqv (.tuple xs) (.tuple []) = ds.isEmpty := by
      simp only [PyData.eqv]
      rw [eqvAll_nil]
      cases xs with
      | nil => cases ds with
        | nil => rfl
        | cons _ _ => simp at h2
      | cons _ _ => cases ds with
        | nil => simp at h2
        | cons _ _ => rfl
    rw [e]; exact q
theorem cut_one {xs : List D} {i : Nat} (hi : i < xs.length) : DL.cutD xs (some ((i : Nat) : Int)) (some ((i : Nat) + 1 : Int)) = (xs.drop i).take 1 := by
  have s1 : HT.sIx xs.length 0 (some ((i : Nat) : Int)) = i := by
    unfold HT.sIx
    simp
    rw [if_neg (by omega)]
    omega
  have s2 : HT.sIx xs.length xs.length (some ((i : Nat) + 1 : Int)) = i + 1 := by
    unfold HT.sIx
    simp
    rw [if_neg (by omega)]
    omega
  unfold DL.cutD
  rw [s1, s2, show i + 1 - i = 1 by omega]
theorem pd_leaf {b L : Nat} {v : D} (h : Pd b L 0 v) (m : Nat) : Pd b L m v := h.mono (Nat.le_refl _) (Nat.le_refl _) (Nat.zero_le _)
theorem vc_bent {dB : DSp} {n : Nat} (hB : n = 0 ∨ ∃ n', n = n' + 1 ∧ dB = d__law_bent n') {p : Addr} {b L m : Nat} {v : D} {N : Nat} {vs : List D} {μ : Mu} {k : DK} (hp : μ p = some (.l vs)) (hv : VOk vs N) (pd : Pd b L m v) (hm : m ≤ n) (hm2 : m ≤ 50) (hb : b ≤ 1500) (hb1 : 1 ≤ b) (hL2 : 2 ≤ L) (hL : L ≤ 1000) (hN : N + 10 * (n + 1) < 2 ^ 30)
    (h : ∀ v' vs', Pd (b + 2) (L + 1) (m + 1) v' → VOk vs' (N + 10 * (n + 1)) → k v' (muSet μ p (.l vs'))) : r__law_bent dB { nx := fun _ μ' => k .non μ', rt := k } (startD N__law_bent [.own p, v]) μ := by
  have strs1 : ∀ s : String, (Str.ofString s).length ≤ 4000 → Pd (b + 2) (L + 1) (m + 1) (.str (Str.ofString s)) := fun s hs => ⟨strOk_of s, hs⟩
  have sb : ∀ {x : Int}, x.natAbs < 2 ^ b → ∀ {y : Int}, y.natAbs ≤ 2 * x.natAbs + 1 → Sm (b + 2) y := fun {x} hx {y} hy => by
    have e : 2 ^ (b + 2) = 4 * 2 ^ b := by rw [Nat.pow_add, Nat.mul_comm]
    unfold Sm
    omega
  unfold r__law_bent
  refine seq_gen fun NX hNX => ?_
  have rest : (Plain v = true) → (∀ i, v ≠ .int i) → NX (startD N__law_bent [.own p, v]) μ := fun hpl hni => by
    subst hNX
    refine seq_gen fun NX hNX => ?_
    have consts : ∀ (μ2 : Mu) (vs2 : List D) (N2 : Nat), μ2 = μ → k = k → d__law_pick [.own p, .lst [.non, .tup [], .int 0, .str "corner", .str "weights", .str "inside", .str "beyond", .str "edge", .lst [], .tup [.int 1, .int 1]]] μ2 k := fun μ2 vs2 N2 e _ => by
      subst e
      refine ⟨p, _, _, N, vs, rfl, .inl rfl, hp, hv, by simp, by simp, by omega, fun d vs1 hd hv1 => ?_⟩
      refine h d vs1 ?_ (hv1.mono (by omega))
      have one : Sm (b + 2) 1 := by unfold Sm; exact Nat.one_lt_two_pow (by omega)
      have zer : Sm (b + 2) 0 := by unfold Sm; exact Nat.two_pow_pos _
      simp at hd
      rcases hd with rfl | rfl | rfl | rfl | rfl | rfl | rfl | rfl | rfl | rfl
      · trivial
      · exact ⟨by simp, by simp⟩
      · exact zer
      · exact ⟨strOk_of _, by decide +kernel⟩
      · exact ⟨strOk_of _, by decide +kernel⟩
      · exact ⟨strOk_of _, by decide +kernel⟩
      · exact ⟨strOk_of _, by decide +kernel⟩
      · exact ⟨strOk_of _, by decide +kernel⟩
      · exact ⟨by simp, by simp⟩
      · refine ⟨by simp; omega, fun d hd => ?_⟩
        simp at hd
        subst hd
        cases m <;> exact one
    cases v with
    | tup es =>
      simp [-oEq]
      cases m with
      | zero => exact pd.elim
      | succ m =>
      refine eqT_nil pd.2 (by omega) ?_
      cases es with
      | nil =>
        simp
        exact consts _ vs N rfl rfl
      | cons e0 es0 =>
        generalize hes : e0 :: es0 = es at pd ⊢
        have hl1 : 1 ≤ es.length := by rw [← hes]; simp
        have hl2 := pd.1
        have hall := pd.2
        have hall2 : ∀ d ∈ es, Pd (b + 2) (L + 1) (m + 1) d := fun d hd => (hall d hd).mono (by omega) (by omega) (by omega)
        have hie : es.isEmpty = false := by rw [← hes]; rfl
        rw [hie]
        simp only [asB, Bool.false_eq_true, if_false, rNext]
        subst hNX
        refine seq_gen fun NX hNX => ?_
        simp
        have hs : Sm 1000 (es.length : Int) := by
          have : Sm 20 (es.length : Int) := by unfold Sm; omega
          exact this.mono (by omega)
        refine ⟨p, _, N, vs, rfl, hp, hv, by omega, hs, by omega, fun r1 vs1 r10 r11 hv1 => ?_⟩
        refine ⟨p, 9, N + 1, vs1, rfl, muSet_same, hv1, by omega, (show Sm 4 (9 : Int) by unfold Sm; decide).mono (by omega), by omega, fun r2 vs2 r20 r21 hv2 => ?_⟩
        rw [muSet_set]
        obtain ⟨j, rfl⟩ : ∃ j : Nat, r1 = (j : Int) := ⟨r1.toNat, by omega⟩
        have hj : j < es.length := by omega
        have e1 : ((j : Nat) : Int) + 1 = ((j + 1 : Nat) : Int) := by omega
        have c1 := cut_takeD (xs := es) (i := j) (by omega)
        have c2 := cut_dropD (xs := es) (i := j + 1) (by omega)
        have c3 := cut_one (xs := es) hj
        rw [e1] at c3
        subst hNX
        refine seq_gen fun NX hNX => ?_
        simp
        rw [e1, c1, c2]
        split
        · refine ⟨by simp; omega, h _ vs2 ⟨by simp; omega, fun d hd => ?_⟩ (hv2.mono (by omega))⟩
          rcases List.mem_append.mp hd with hd | hd
          · exact hall2 d (List.take_subset _ _ hd)
          · exact hall2 d (List.drop_subset _ _ hd)
        · subst hNX
          refine seq_gen fun NX hNX => ?_
          simp
          rw [e1, c3]
          split
          · refine ⟨by simp; omega, h _ vs2 ⟨by simp; omega, fun d hd => ?_⟩ (hv2.mono (by omega))⟩
            rcases List.mem_append.mp hd with hd | hd
            · exact hall2 d hd
            · exact hall2 d (List.drop_subset _ _ (List.take_subset _ _ hd))
          · subst hNX
            refine seq_gen fun NX hNX => ?_
            simp
            split
            · refine ⟨p, _, _, N + 2, vs2, rfl, .inl rfl, muSet_same, hv2, by simp, by simp, by omega, fun d vs3 hd hv3 => ?_⟩
              rw [muSet_set]
              refine h d vs3 ?_ (hv3.mono (by omega))
              simp at hd
              rcases hd with rfl | rfl | rfl
              · exact ⟨by omega, hall2⟩
              · exact ⟨by simp; omega, fun d hd => hall2 d (by simpa using hd)⟩
              · trivial
            · subst hNX
              simp
              rw [e1, c1, c2]
              obtain ⟨n', rfl, rfl⟩ : ∃ n', n = n' + 1 ∧ dB = d__law_bent n' := by
                rcases hB with z | ⟨n', h1, h2⟩
                · omega
                · exact ⟨n', h1, h2⟩
              refine ⟨es[j], by unfold atI; rw [ixN_nat hj]; simp, p, b, L, m, es[j], N + 2, vs2, rfl, muSet_same, hv2, hall _ (List.getElem_mem hj), by omega, by omega, hb, hb1, hL2, hL, by omega, fun v' vs3 pv' hv3 => ?_⟩
              rw [muSet_set]
              refine ⟨by simp; omega, by simp; omega, h _ vs3 ⟨by simp; omega, fun d hd => ?_⟩ (hv3.mono (by omega))⟩
              simp at hd
              rcases hd with hd | rfl | hd
              · exact hall2 d (List.take_subset _ _ hd)
              · exact pv'
              · exact hall2 d (List.drop_subset _ _ hd)
    | int i => exact absurd rfl (hni i)
    | non => simp; exact consts _ vs N rfl rfl
    | bl c => simp; exact consts _ vs N rfl rfl
    | str s => simp; exact consts _ vs N rfl rfl
    | lst es => simp; exact consts _ vs N rfl rfl
    | _ => exact Bool.noConfusion hpl
  cases v with
  | int i =>
    have hi : Sm b i := by cases m <;> exact pd
    have hi' : i.natAbs < 2 ^ b := hi
    simp
    refine ⟨sm_mulW (a := 2) (by unfold Sm; decide) hi (by omega) (by omega) (by omega), PySem.Flt.log2_lt_of (by omega) (hi.mono (b := 1920) (by omega)), ?_⟩
    refine ⟨p, _, _, N, vs, rfl, .inl rfl, hp, hv, by simp, by simp, by omega, fun d vs1 hd hv1 => ?_⟩
    refine h d vs1 ?_ (hv1.mono (by omega))
    simp at hd
    rcases hd with rfl | rfl | rfl | rfl | rfl | rfl | rfl | rfl | rfl
    · exact sb hi' (y := i + 1) (by omega)
    · exact sb hi' (y := i - 1) (by omega)
    · exact sb hi' (y := 2 * i) (by omega)
    · exact sb hi' (y := -i) (by omega)
    · exact sb hi' (y := 0) (by simp)
    · exact sb hi' (y := 1) (by omega)
    · trivial
    · trivial
    · exact ⟨strOk_of _, Nat.le_trans (int_text_len_1921 (PySem.Flt.log2_lt_of (by omega) (hi.mono (b := 1920) (by omega)))) (by omega)⟩
  | non => simpa using rest rfl (fun i z => nomatch z)
  | bl c => simpa using rest rfl (fun i z => nomatch z)
  | str s => simpa using rest rfl (fun i z => nomatch z)
  | tup es => simpa using rest rfl (fun i z => nomatch z)
  | lst es => simpa using rest rfl (fun i z => nomatch z)
  | _ => exact Bool.noConfusion pd.plain
theorem ok__law_bent (a : At K mg "_law_bent" s__law_bent) (F1 : FnD P w K mg base "_law_pick" 30 d__law_pick) (F2 : FnD P w K mg base "_law_draw" 29 d__law_draw) (T : Txt K mg C) : ∀ n : Nat, FnD P w K mg base "_law_bent" (49 + n) (d__law_bent n)
  | 0 => by
    refine fnD_of a (b__law_bent (j := 48) (by omega) F1 F2 (fnD_never (ps := ["_law_vat_here", "_law_value"]) a (fun _ _ _ _ _ _ us hl => match us, hl with | [_, _], _ => rfl)) T) sc__law_bent (fun _ _ _ _ _ _ us hl => match us, hl with | [_, _], _ => rfl) ?_ ?_
    · rintro ds μ k ⟨_, _, _, _, _, _, _, rfl, _⟩; rfl
    · rintro ds μ k ⟨p, b, L, m, v, N, vs, rfl, hp, hv, pd, hm, hm2, hb, hb1, hL2, hL, hN, h⟩
      exact vc_bent (.inl rfl) hp hv pd hm hm2 hb hb1 hL2 hL hN h
  | n + 1 => by
    refine fnD_of a (b__law_bent (j := 49 + n) (by omega) F1 F2 (ok__law_bent a F1 F2 T n) T) sc__law_bent (fun _ _ _ _ _ _ us hl => match us, hl with | [_, _], _ => rfl) ?_ ?_
    · rintro ds μ k ⟨_, _, _, _, _, _, _, rfl, _⟩; rfl
    · rintro ds μ k ⟨p, b, L, m, v, N, vs, rfl, hp, hv, pd, hm, hm2, hb, hb1, hL2, hL, hN, h⟩
      exact vc_bent (.inr ⟨n, rfl, rfl⟩) hp hv pd hm hm2 hb hb1 hL2 hL hN h
end
end K05


set_option Elab.async false
set_option linter.all false
set_option maxRecDepth 100000
set_option maxHeartbeats 4000000
namespace K05
open PySem PySem.Spec PyProof.Rows L2 SlX DL
open Sx (Vec dd tt cost hset Good Units Ratio bnd sumN)
/-! values near a paper -/
theorem sm_mul {a b : Nat} {x y : Int} (hx : Sm a x) (hy : Sm b y) : Sm (a + b) (x * y) := by
  unfold Sm at *
  rw [Int.natAbs_mul, Nat.pow_add]
  exact Nat.mul_lt_mul'' hx hy
theorem any_of {b L n : Nat} {v : D} (h : Pd b L n v) (hb : b ≤ 2000) (hL : L ≤ 10000) (hn : n ≤ 50) : Any v := ⟨n, hn, h.mono hb hL (Nat.le_refl _)⟩
theorem any_tup {ds : List D} (hl : ds.length ≤ 10000) (h : ∀ d ∈ ds, Pd 2000 10000 5 d) : Any (.tup ds) := ⟨6, by omega, hl, h⟩
theorem pd_rowD {b n : Nat} {ns : List Int} (hb : b ≤ 2000) (hl : ns.length ≤ 10000) (h : ∀ x ∈ ns, Sm b x) (hn : 1 ≤ n) : Pd 2000 10000 n (rowD ns) := by
  obtain ⟨k, rfl⟩ : ∃ k, n = k + 1 := ⟨n - 1, by omega⟩
  exact Pd.row hl (fun x hx => (h x hx).mono hb) k
theorem pd_int {b n : Nat} {i : Int} (hb : b ≤ 2000) (h : Sm b i) : Pd 2000 10000 n (.int i) := by
  cases n <;> exact h.mono hb
theorem pd_str {n : Nat} {s : Str} (h : PyData.strOk s = true) (hl : s.length ≤ 4000) : Pd 2000 10000 n (.str s) := by
  cases n <;> exact ⟨h, hl⟩
theorem times_sm {b c : Nat} {r : List Int} {x : Int} (h : ∀ y ∈ r, Sm b y) (hx : Sm c x) : ∀ y ∈ timesL r x, Sm (c + b) y := fun y hy => by
  obtain ⟨z, hz, rfl⟩ := List.mem_map.mp hy
  exact sm_mul hx (h z hz)
theorem times_len (r : List Int) (x : Int) : (timesL r x).length = r.length := by simp [timesL]
def d__law_near : DSp := fun ds μ k => ∃ p lot v row c w n m N vs, ds = [.own p, lotD lot, v, rowD row] ∧ μ p = some (.l vs) ∧ VOk vs N ∧ N + 1000 < 2 ^ 30 ∧ Shape c w n m v ∧ (c = "corner" ∨ c = "beyond") ∧ (w = "weights" ∨ w = "inside") ∧ n ≤ 8 ∧ 1 ≤ m ∧ m ≤ 400 ∧ row.length ≤ 8 ∧ (∀ x ∈ row, Sm 100 x) ∧
  ∀ xs vs', (∀ d ∈ xs, Any d) → xs.length ≤ 1000 → VOk vs' (N + 1000) → k (.lst xs) (muSet μ p (.l vs'))
section
variable {P : Program} {w : World} {K : PySem.W.Frag} {mg : Str → Option Value} {base : Heap} {C : Addr}
abbrev s__law_near : Stmt := topS 62
abbrev N__law_near : List Str := ["_law_vat_here", "_law_lot_here", "_law_paper", "_law_row_here", "_law_found", "_law_turn", "_law_word_here", "_law_number", "_law_weights"]
theorem sc__law_near : FnScope N__law_near ["_law_vat_here", "_law_lot_here", "_law_paper", "_law_row_here"] (defScope s__law_near) := ⟨rfl, rfl, rfl, by decide +kernel, rfl, by decide +kernel, by decide +kernel⟩
def r__law_near : RS :=
  (rSeq (rAsg (rLstO (rCons (rVar 2) (rCons (rCB oList (rCons (rVar 2) rNil)) (rCons (rSlc oSlT (rVar 2) rNo (rPart (rC (.int 1)))) (rCons (rOp oCatT (rVar 2) (rTup (rCons (rC (.int 0)) rNil))) (rCons (rC .non) (rCons (rTup rNil) (rCons (rTup (rCons (rC (.str "corner")) (rCons (rVar 3) rNil))) (rCons (rTup (rCons (rC (.str "beyond")) (rCons (rVar 3) rNil))) (rCons (rTup (rCons (rC (.str "beyond")) (rCons (rCall d__law_times (rCons (rVar 3) (rCons (rUn oNeg (rC (.int 1))) rNil))) rNil))) rNil)))))))))) (rgName 4))
  (rSeq (rIfS (rB (rOp oEq (rCB oLen (rCons (rVar 2) rNil)) (rC (.int 3)))) (rSeq (rAsg (rVar 2) (rgTup 3 (rgCons (rgName 6) (rgCons (rgName 7) (rgCons (rgName 8) rgNil)))))
  (rSeq (rAsg (rOp oCatO (rVar 4) (rLst (rCons (rTup (rCons (rVar 6) (rCons (rOp (oIc CMulW fun i j => i * j) (rC (.int 3)) (rVar 7)) (rCons (rCall d__law_times (rCons (rVar 8) (rCons (rC (.int 3)) rNil))) rNil)))) (rCons (rTup (rCons (rVar 6) (rCons (rUn oNeg (rVar 7)) (rCons (rCall d__law_times (rCons (rVar 8) (rCons (rUn oNeg (rC (.int 1))) rNil))) rNil)))) (rCons (rTup (rCons (rVar 6) (rCons (rC (.int 0)) (rCons (rOp oRepT (rTup (rCons (rC (.int 0)) rNil)) (rCB oLen (rCons (rVar 8) rNil))) rNil)))) rNil))))) (rgName 4))
  (rAsg (rOp oCatO (rVar 4) (rLst (rCons (rTup (rCons (rC (.str "inside")) (rCons (rVar 7) (rCons (rVar 8) rNil)))) (rCons (rTup (rCons (rC (.str "weights")) (rCons (rVar 7) (rCons (rVar 8) rNil)))) (rCons (rTup (rCons (rVar 6) (rCons (rVar 7) (rCons (rOp oCatT (rVar 8) (rTup (rCons (rC (.int 0)) rNil))) rNil)))) rNil))))) (rgName 4)))) (rAsg (rOp oCatO (rVar 4) (rLst (rCons (rTup (rCons (rOp oIx (rVar 2) (rC (.int 0))) (rCons (rCall d__law_times (rCons (rOp oIx (rVar 2) (rC (.int 1))) (rCons (rC (.int 7)) rNil))) rNil))) (rCons (rTup (rCons (rOp oIx (rVar 2) (rC (.int 0))) (rCons (rCall d__law_times (rCons (rOp oIx (rVar 2) (rC (.int 1))) (rCons (rUn oNeg (rC (.int 1))) rNil))) rNil))) (rCons (rTup (rCons (rC (.str "beyond")) (rCons (rOp oIx (rVar 2) (rC (.int 1))) rNil))) (rCons (rTup (rCons (rC (.str "corner")) (rCons (rOp oIx (rVar 2) (rC (.int 1))) rNil))) rNil)))))) (rgName 4)))
  (rSeq (rFor (rIR1 (rCons (rC (.int 6)) rNil)) (rgName 5) (rDrop (rApp (rVar 4) (rCall (d__law_bent 3) (rCons (rVar 0) (rCons (rVar 2) rNil))))))
  (rRetF (rVar 4)))))
theorem b__law_near (F__law_times : FnD P w K mg base "_law_times" 37 d__law_times) (F__law_bent : FnD P w K mg base "_law_bent" 52 (d__law_bent 3)) (T : Txt K mg C) : Body P w K mg base 54 "_law_near" s__law_near N__law_near (r__law_near) := by
  refine fun f => ⟨_, fun cdv A outer s H E hr => ⟨(pss_cons (ps_set (i := 4) sc__law_near.nd rfl (Or.inl rfl) (pe_lst (pa_cons (pv 2) (pa_cons (kt_call (kc_list K) T.b_list (pa_cons (pv 2) pa_nil)) (pa_cons (pe_slice (ks_tupA K) (pv 2) po_none (po_some pe_int)) (pa_cons (pe_op (ko_catA K) (pv 2) (pe_tup (pa_cons pe_int pa_nil))) (pa_cons pe_non (pa_cons (pe_tup pa_nil) (pa_cons (pe_tup (pa_cons pe_str (pa_cons (pv 3) pa_nil))) (pa_cons (pe_tup (pa_cons pe_str (pa_cons (pv 3) pa_nil))) (pa_cons (pe_tup (pa_cons pe_str (pa_cons (ke_call K F__law_times hr (pa_cons (pv 3) (pa_cons (pe_un un_neg pe_int) pa_nil))) pa_nil))) pa_nil)))))))))))
      (pss_cons (ps_if (pt_cmpR (ko_eqD K hr.units) (kb_call (kc_len K) T.b_len (pa_cons (pv 2) pa_nil)) pe_int (nomark _)) (pss_cons (ps_asg (pv 2) (kg_tup K (pgs_cons (pg_name (i := 6) sc__law_near.nd rfl (Or.inl rfl)) (pgs_cons (pg_name (i := 7) sc__law_near.nd rfl (Or.inl rfl)) (pgs_cons (pg_name (i := 8) sc__law_near.nd rfl (Or.inl rfl)) pgs_nil)))))
      (pss_cons (ps_set (i := 4) sc__law_near.nd rfl (Or.inl rfl) (pe_op op_cat (pv 4) (pe_lst (pa_cons (pe_tup (pa_cons (pv 6) (pa_cons (pe_op op_mulW pe_int (pv 7)) (pa_cons (ke_call K F__law_times hr (pa_cons (pv 8) (pa_cons pe_int pa_nil))) pa_nil)))) (pa_cons (pe_tup (pa_cons (pv 6) (pa_cons (pe_un un_neg (pv 7)) (pa_cons (ke_call K F__law_times hr (pa_cons (pv 8) (pa_cons (pe_un un_neg pe_int) pa_nil))) pa_nil)))) (pa_cons (pe_tup (pa_cons (pv 6) (pa_cons pe_int (pa_cons (pe_op (ko_repTA K) (pe_tup (pa_cons pe_int pa_nil)) (kb_call (kc_len K) T.b_len (pa_cons (pv 8) pa_nil))) pa_nil)))) pa_nil))))))
      (pss_one (ps_set (i := 4) sc__law_near.nd rfl (Or.inl rfl) (pe_op op_cat (pv 4) (pe_lst (pa_cons (pe_tup (pa_cons pe_str (pa_cons (pv 7) (pa_cons (pv 8) pa_nil)))) (pa_cons (pe_tup (pa_cons pe_str (pa_cons (pv 7) (pa_cons (pv 8) pa_nil)))) (pa_cons (pe_tup (pa_cons (pv 6) (pa_cons (pv 7) (pa_cons (pe_op (ko_catA K) (pv 8) (pe_tup (pa_cons pe_int pa_nil))) pa_nil)))) pa_nil))))))))) (pss_one (ps_set (i := 4) sc__law_near.nd rfl (Or.inl rfl) (pe_op op_cat (pv 4) (pe_lst (pa_cons (pe_tup (pa_cons (pe_ix (kx_seq K) (pv 2) pe_int (fun _ _ => rfl)) (pa_cons (ke_call K F__law_times hr (pa_cons (pe_ix (kx_seq K) (pv 2) pe_int (fun _ _ => rfl)) (pa_cons pe_int pa_nil))) pa_nil))) (pa_cons (pe_tup (pa_cons (pe_ix (kx_seq K) (pv 2) pe_int (fun _ _ => rfl)) (pa_cons (ke_call K F__law_times hr (pa_cons (pe_ix (kx_seq K) (pv 2) pe_int (fun _ _ => rfl)) (pa_cons (pe_un un_neg pe_int) pa_nil))) pa_nil))) (pa_cons (pe_tup (pa_cons pe_str (pa_cons (pe_ix (kx_seq K) (pv 2) pe_int (fun _ _ => rfl)) pa_nil))) (pa_cons (pe_tup (pa_cons pe_str (pa_cons (pe_ix (kx_seq K) (pv 2) pe_int (fun _ _ => rfl)) pa_nil))) pa_nil)))))))))
      (pss_cons (ps_for PassesOwn.never rfl (kr_range1 T.b_range (pa_cons pe_int pa_nil)) (pg_name (i := 5) sc__law_near.nd rfl (Or.inl rfl)) (pss_one (ps_expr (ke_app K (pv 4) (pa_cons (ke_call K F__law_bent hr (pa_cons (pv 0) (pa_cons (pv 2) pa_nil))) pa_nil)))))
      (pss_one (ps_ret (pv 4)))))),
    (okS_seq (okS_asg (okE_lstO (okA_cons (okE_var 2) (okA_cons (okE_CB okList (okA_cons (okE_var 2) okA_nil)) (okA_cons (okE_slc okSlT (okE_var 2) okO_no (okO_part (okE_C fun _ => .int _))) (okA_cons (okE_op okCatT (okE_var 2) (okE_tup (okA_cons (okE_C fun _ => .int _) okA_nil))) (okA_cons (okE_C fun _ => .non) (okA_cons (okE_tup okA_nil) (okA_cons (okE_tup (okA_cons (okE_C fun _ => .str _) (okA_cons (okE_var 3) okA_nil))) (okA_cons (okE_tup (okA_cons (okE_C fun _ => .str _) (okA_cons (okE_var 3) okA_nil))) (okA_cons (okE_tup (okA_cons (okE_C fun _ => .str _) (okA_cons (okE_call (okA_cons (okE_var 3) (okA_cons (okE_un okNeg (okE_C fun _ => .int _)) okA_nil))) okA_nil))) okA_nil)))))))))) (okG_name 4))
      (okS_seq (okS_if (okT_test (okE_op okEq (okE_CB okLen (okA_cons (okE_var 2) okA_nil)) (okE_C fun _ => .int _))) (okS_seq (okS_asg (okE_var 2) (okG_tup (okGs_cons (okG_name 6) (okGs_cons (okG_name 7) (okGs_cons (okG_name 8) okGs_nil)))))
      (okS_seq (okS_asg (okE_op okCatO (okE_var 4) (okE_lst (okA_cons (okE_tup (okA_cons (okE_var 6) (okA_cons (okE_op okIc (okE_C fun _ => .int _) (okE_var 7)) (okA_cons (okE_call (okA_cons (okE_var 8) (okA_cons (okE_C fun _ => .int _) okA_nil))) okA_nil)))) (okA_cons (okE_tup (okA_cons (okE_var 6) (okA_cons (okE_un okNeg (okE_var 7)) (okA_cons (okE_call (okA_cons (okE_var 8) (okA_cons (okE_un okNeg (okE_C fun _ => .int _)) okA_nil))) okA_nil)))) (okA_cons (okE_tup (okA_cons (okE_var 6) (okA_cons (okE_C fun _ => .int _) (okA_cons (okE_op okRepT (okE_tup (okA_cons (okE_C fun _ => .int _) okA_nil)) (okE_CB okLen (okA_cons (okE_var 8) okA_nil))) okA_nil)))) okA_nil))))) (okG_name 4))
      (okS_asg (okE_op okCatO (okE_var 4) (okE_lst (okA_cons (okE_tup (okA_cons (okE_C fun _ => .str _) (okA_cons (okE_var 7) (okA_cons (okE_var 8) okA_nil)))) (okA_cons (okE_tup (okA_cons (okE_C fun _ => .str _) (okA_cons (okE_var 7) (okA_cons (okE_var 8) okA_nil)))) (okA_cons (okE_tup (okA_cons (okE_var 6) (okA_cons (okE_var 7) (okA_cons (okE_op okCatT (okE_var 8) (okE_tup (okA_cons (okE_C fun _ => .int _) okA_nil))) okA_nil)))) okA_nil))))) (okG_name 4)))) (okS_asg (okE_op okCatO (okE_var 4) (okE_lst (okA_cons (okE_tup (okA_cons (okE_op okIx (okE_var 2) (okE_C fun _ => .int _)) (okA_cons (okE_call (okA_cons (okE_op okIx (okE_var 2) (okE_C fun _ => .int _)) (okA_cons (okE_C fun _ => .int _) okA_nil))) okA_nil))) (okA_cons (okE_tup (okA_cons (okE_op okIx (okE_var 2) (okE_C fun _ => .int _)) (okA_cons (okE_call (okA_cons (okE_op okIx (okE_var 2) (okE_C fun _ => .int _)) (okA_cons (okE_un okNeg (okE_C fun _ => .int _)) okA_nil))) okA_nil))) (okA_cons (okE_tup (okA_cons (okE_C fun _ => .str _) (okA_cons (okE_op okIx (okE_var 2) (okE_C fun _ => .int _)) okA_nil))) (okA_cons (okE_tup (okA_cons (okE_C fun _ => .str _) (okA_cons (okE_op okIx (okE_var 2) (okE_C fun _ => .int _)) okA_nil))) okA_nil)))))) (okG_name 4)))
      (okS_seq (okS_for (okI_range1 (okA_cons (okE_C fun _ => .int _) okA_nil)) (okG_name 5) (okS_drop (okE_app (okE_var 4) (okE_call (okA_cons (okE_var 0) (okA_cons (okE_var 2) okA_nil))))))
      (okS_retF (okE_var 4)))))⟩⟩



theorem shape_pd {c w : Str} {n m : Nat} {v : D} (h : Shape c w n m v) (hc : c = "corner" ∨ c = "beyond") (hw : w = "weights" ∨ w = "inside") (hn : n ≤ 8) (hm : m ≤ 400) : Pd 1400 400 2 v := by
  have oc : PyData.strOk c = true ∧ c.length ≤ 4000 := by
    rcases hc with rfl | rfl
    · exact ⟨by decide +kernel, by decide +kernel⟩
    · exact ⟨by decide +kernel, by decide +kernel⟩
  have ow : PyData.strOk w = true ∧ w.length ≤ 4000 := by
    rcases hw with rfl | rfl
    · exact ⟨by decide +kernel, by decide +kernel⟩
    · exact ⟨by decide +kernel, by decide +kernel⟩
  rcases h with ⟨f, rfl, hf, sf⟩ | ⟨b, ns, rfl, hns, sb, sn⟩
  · refine ⟨by simp, fun d hd => ?_⟩
    simp at hd
    rcases hd with rfl | rfl
    · exact oc
    · exact Pd.row (by omega) sf 0
  · refine ⟨by simp, fun d hd => ?_⟩
    simp at hd
    rcases hd with rfl | rfl | rfl
    · exact ow
    · exact sb
    · exact Pd.row (by omega) sn 0
/-- one more own list -/
theorem sub_add {μ ν : Mu} {p q : Addr} {c : Cnt} (h : ∀ vs', Sub (muSet μ p (.l vs')) (muSet ν p (.l vs'))) (hqp : q ≠ p) (hq : ν q = none) : μ q = none ∧ ∀ vs', Sub (muSet μ p (.l vs')) (muSet (muSet ν q c) p (.l vs')) := by
  have h0 : μ q = none := by
    have := (h []).non (p := q) (by rw [muSet_ne hqp]; exact hq)
    rw [muSet_ne hqp] at this
    exact this
  refine ⟨h0, fun vs' => ?_⟩
  have e : muSet (muSet ν q c) p (.l vs') = muSet (muSet ν p (.l vs')) q c := by
    funext b
    unfold muSet
    by_cases hb : b = p
    · simp [hb, hqp.symm]
    · simp [hb]
  rw [e]
  exact Sub.upd (h vs') (by rw [muSet_ne hqp]; exact h0)
/-- the six bent ones, and the end -/
theorem near_end {dB : DSp} {p q : Addr} {lot v rowd : D} {x5 x6 x7 x8 : Option D} {N : Nat} {vs : List D} {xs : List D} {μ μ0 : Mu} {k : DK} (hdB : dB = d__law_bent 3) (hpq : q ≠ p) (h0 : μ0 q = none)
    (hp : μ p = some (.l vs)) (hq : μ q = some (.l xs)) (hs : ∀ vs', Sub (muSet μ0 p (.l vs')) (muSet μ p (.l vs'))) (hv : VOk vs N) (hN : N + 1000 < 2 ^ 30) (pd : Pd 1400 400 2 v) (ha : ∀ d ∈ xs, Any d) (hl : xs.length ≤ 100)
    (h : ∀ xs vs', (∀ d ∈ xs, Any d) → xs.length ≤ 1000 → VOk vs' (N + 1000) → k (.lst xs) (muSet μ0 p (.l vs'))) :
    (rSeq (rFor (rIR1 (rCons (rC (.int 6)) rNil)) (rgName 5) (rDrop (rApp (rVar 4) (rCall dB (rCons (rVar 0) (rCons (rVar 2) rNil)))))) (rRetF (rVar 4))) { nx := fun _ μ' => ∃ μ'', Sub μ'' μ' ∧ k .non μ'', rt := fun d μ' => ∃ μ'', Sub μ'' μ' ∧ k d μ'' } [some (.own p), some lot, some v, some rowd, some (.own q), x5, x6, x7, x8] μ := by
  subst hdB
  refine seq_gen fun NX hNX => ?_
  simp [rFor]
  refine forW_inv (List.range 6) (fun i : Nat => .int (0 + (i : Nat))) (.r 0 6) (fun i δ μ' => ∃ xs' vs' x5', δ = [some (.own p), some lot, some v, some rowd, some (.own q), x5', x6, x7, x8] ∧ μ' p = some (.l vs') ∧ μ' q = some (.l xs') ∧ (∀ d ∈ xs', Any d) ∧ xs'.length ≤ 100 + i ∧ VOk vs' (N + 100 * i) ∧ ∀ vs2, Sub (muSet μ0 p (.l vs2)) (muSet μ' p (.l vs2))) ⟨xs, vs, x5, rfl, hp, hq, ha, by omega, hv, hs⟩ (fun _ _ _ _ => trivial) (fun i x δ μ' hx z => ?_) (fun δ μ' z => ?_)
  · obtain ⟨xs', vs', x5', rfl, hp', hq', ha', hl', hv', hs'⟩ := z
    obtain ⟨rfl, hi⟩ := range_get hx
    simp
    refine ⟨⟨xs', hq'⟩, ?_⟩
    refine ⟨p, 1400, 400, 2, v, N + 100 * x, vs', rfl, hp', hv', pd, by omega, by omega, by omega, by omega, by omega, by omega, by omega, fun v' vs2 pv' hv2 => ?_⟩
    refine ⟨xs', by rw [muSet_ne hpq]; exact hq', by omega, xs' ++ [v'], vs2, by rw [muSet_ne hpq.symm, muSet_same], muSet_same, fun d hd => ?_, by simp; omega, hv2.mono (by omega), fun vs3 => ?_⟩
    · rcases List.mem_append.mp hd with hd | hd
      · exact ha' d hd
      · rw [List.mem_singleton] at hd; subst hd; exact any_of pv' (by omega) (by omega) (by omega)
    · have e : muSet (muSet (muSet μ' p (.l vs2)) q (.l (xs' ++ [v']))) p (.l vs3) = muSet (muSet μ' p (.l vs3)) q (.l (xs' ++ [v'])) := by
        funext b
        unfold muSet
        by_cases hb : b = p
        · simp [hb, hpq.symm]
        · simp [hb]
      rw [e]
      exact Sub.upd (hs' vs3) (by rw [muSet_ne hpq]; exact h0)
  · obtain ⟨xs', vs', x5', rfl, hp', hq', ha', hl', hv', hs'⟩ := z
    rw [List.length_range] at hl' hv'
    subst hNX
    simp [hq']
    refine ⟨rfl, muSet μ0 p (.l vs'), ?_, h xs' vs' ha' (by omega) (hv'.mono (by omega))⟩
    have := hs' vs'
    rw [muSet_self hp'] at this
    exact Sub.del this (by rw [muSet_ne hpq]; exact h0)
theorem ok__law_near (a : At K mg "_law_near" s__law_near) (F1 : FnD P w K mg base "_law_times" 37 d__law_times) (F2 : FnD P w K mg base "_law_bent" 52 (d__law_bent 3)) (T : Txt K mg C) : FnD P w K mg base "_law_near" 55 d__law_near := by
  refine fnD_ofW a (b__law_near F1 F2 T) sc__law_near (fun _ _ _ _ _ _ us hl => match us, hl with | [_, _, _, _], _ => rfl) ?_ ?_
  · rintro ds μ k ⟨_, _, _, _, _, _, _, _, _, _, rfl, _⟩; rfl
  · rintro ds μ k ⟨p, lot, v, row, c, w', n, m, N, vs, rfl, hp, hv, hN, sh, hc, hw, hn, hm1, hm, hr, sr, h⟩
    have pd := shape_pd sh hc hw hn hm
    have s1 : Sm 4 (-1 : Int) := by unfold Sm; decide
    have s3 : Sm 4 (3 : Int) := by unfold Sm; decide
    have s7 : Sm 4 (7 : Int) := by unfold Sm; decide
    have oc : ∀ s : String, (Str.ofString s).length ≤ 4000 → ∀ n, Pd 2000 10000 n (.str (Str.ofString s)) := fun s hs n => pd_str (strOk_of s) hs
    have ocr := oc "corner" (by decide +kernel)
    have obe := oc "beyond" (by decide +kernel)
    have oin := oc "inside" (by decide +kernel)
    have owe := oc "weights" (by decide +kernel)
    have pr : ∀ n, 1 ≤ n → Pd 2000 10000 n (rowD row) := fun n hn => pd_rowD (b := 100) (by omega) (by omega) sr hn
    have pt : ∀ n, 1 ≤ n → Pd 2000 10000 n (rowD (timesL row (-1))) := fun n hn => pd_rowD (b := 104) (by omega) (by rw [times_len]; omega) (times_sm sr s1) hn
    obtain ⟨es, rfl, he3, hes⟩ : ∃ es, v = .tup es ∧ es.length ≤ 3 ∧ ∀ d ∈ es, Pd 2000 10000 4 d := by
      rcases sh with ⟨f, rfl, _⟩ | ⟨b, ns, rfl, _⟩
      · exact ⟨_, rfl, by simp, fun d hd => (pd.2 d hd).mono (by omega) (by omega) (show 1 ≤ 4 by decide)⟩
      · exact ⟨_, rfl, by simp, fun d hd => (pd.2 d hd).mono (by omega) (by omega) (show 1 ≤ 4 by decide)⟩
    unfold r__law_near
    refine seq_gen fun NX hNX => ?_
    simp [-asQ, -asL, -List.map_map, asQ_tup]
    refine ⟨by omega, row, -1, rfl, by omega, fun x hx => (sr x hx).mono (by omega), s1.mono (by omega), fun q hq => ?_⟩
    have hqp : q ≠ p := fun z => by rw [z, hp] at hq; cases hq
    have any0 : ∀ d ∈ [D.tup es, D.lst es, D.tup (DL.cutD es none (some 1)), D.tup (es ++ [D.int 0]), D.non, D.tup [], D.tup [D.str "corner", rowD row], D.tup [D.str "beyond", rowD row], D.tup [D.str "beyond", rowD (timesL row (-1))]], Any d := fun d hd => by
      have hcut : ∀ d ∈ DL.cutD es none (some 1), d ∈ es := fun d hd => by
        unfold DL.cutD at hd
        exact List.drop_subset _ _ (List.take_subset _ _ hd)
      have hcl : (DL.cutD es none (some 1)).length ≤ es.length := by
        unfold DL.cutD
        rw [List.length_take, List.length_drop]; omega
      simp only [List.mem_cons, List.not_mem_nil, or_false] at hd
      rcases hd with rfl | rfl | rfl | rfl | rfl | rfl | rfl | rfl | rfl
      · exact any_tup (by omega) fun d hd => (hes d hd).mono (Nat.le_refl _) (Nat.le_refl _) (by omega)
      · exact ⟨6, by omega, by omega, fun d hd => (hes d hd).mono (Nat.le_refl _) (Nat.le_refl _) (show 4 ≤ 5 by decide)⟩
      · exact any_tup (by omega) fun d hd => (hes d (hcut d hd)).mono (Nat.le_refl _) (Nat.le_refl _) (by omega)
      · refine any_tup (by simp; omega) fun d hd => ?_
        rcases List.mem_append.mp hd with hd | hd
        · exact (hes d hd).mono (Nat.le_refl _) (Nat.le_refl _) (by omega)
        · rw [List.mem_singleton] at hd; subst hd; exact pd_int (b := 1) (by omega) (by unfold Sm; decide)
      · exact ⟨0, by omega, trivial⟩
      · exact any_tup (by simp) (by simp)
      · refine any_tup (by simp) fun d hd => ?_
        simp only [List.mem_cons, List.not_mem_nil, or_false] at hd
        rcases hd with rfl | rfl
        · exact ocr _
        · exact pr _ (by omega)
      · refine any_tup (by simp) fun d hd => ?_
        simp only [List.mem_cons, List.not_mem_nil, or_false] at hd
        rcases hd with rfl | rfl
        · exact obe _
        · exact pr _ (by omega)
      · refine any_tup (by simp) fun d hd => ?_
        simp only [List.mem_cons, List.not_mem_nil, or_false] at hd
        rcases hd with rfl | rfl
        · exact obe _
        · exact pt _ (by omega)
    generalize hxs : [D.tup es, D.lst es, D.tup (DL.cutD es none (some 1)), D.tup (es ++ [D.int 0]), D.non, D.tup [], D.tup [D.str "corner", rowD row], D.tup [D.str "beyond", rowD row], D.tup [D.str "beyond", rowD (timesL row (-1))]] = xs0 at any0 ⊢
    have lx : xs0.length = 9 := by rw [← hxs]; rfl
    obtain ⟨_, S1⟩ := sub_add (c := .l xs0) (fun vs' => Sub.refl (muSet μ p (.l vs'))) hqp hq
    have hp1 : muSet μ q (.l xs0) p = some (.l vs) := by rw [muSet_ne hqp.symm]; exact hp
    subst hNX
    refine seq_gen fun NX hNX => ?_
    rcases sh with ⟨f, e, hf, sf⟩ | ⟨b, ns, e, hns, sb, sn⟩
    · injection e with e
      subst e
      have sf' : ∀ x ∈ f, Sm 2000 x := fun x hx => (show Sm 1400 x from sf x hx).mono (by omega)
      have pc : ∀ n, Pd 2000 10000 n (.str c) := fun n => by
        rcases hc with rfl | rfl
        · exact ocr n
        · exact obe n
      have pf : ∀ n, 1 ≤ n → Pd 2000 10000 n (rowD f) := fun n hn => pd_rowD (b := 1400) (by omega) (by omega) sf hn
      have p7 : ∀ n, 1 ≤ n → Pd 2000 10000 n (rowD (timesL f 7)) := fun n hn => pd_rowD (b := 1404) (by omega) (by rw [times_len]; omega) (times_sm sf s7) hn
      have p1 : ∀ n, 1 ≤ n → Pd 2000 10000 n (rowD (timesL f (-1))) := fun n hn => pd_rowD (b := 1404) (by omega) (by rw [times_len]; omega) (times_sm sf s1) hn
      simp [-asQ, -asL, -List.map_map, asQ_tup, muSet_same]
      refine ⟨_, rfl, _, rfl, f, 7, rfl, by omega, sf', s7.mono (by omega), ?_⟩
      refine ⟨_, rfl, _, rfl, f, -1, rfl, by omega, sf', s1.mono (by omega), ?_⟩
      simp [-asQ, -asL, -List.map_map, asQ_tup, muSet_same]
      refine ⟨_, rfl, _, rfl, _, asL_own muSet_same, _, asL_lst, by simp; omega, fun q2 hn2 => ?_⟩
      have h2 : q2 ≠ p := fun z => by rw [z, hp1] at hn2; cases hn2
      obtain ⟨m2, S2⟩ := sub_add (c := .l (xs0 ++ [D.tup [D.str c, rowD (timesL f 7)], D.tup [D.str c, rowD (timesL f (-1))], D.tup [D.str "beyond", rowD f], D.tup [D.str "corner", rowD f]])) S1 h2 hn2
      subst hNX
      refine near_end (μ0 := μ) (N := N) (vs := vs) rfl h2 m2 (by rw [muSet_ne h2.symm]; exact hp1) muSet_same S2 hv hN pd (fun d hd => ?_) (by simp; omega) h
      rcases List.mem_append.mp hd with hd | hd
      · exact any0 d hd
      · simp only [List.mem_cons, List.not_mem_nil, or_false] at hd
        rcases hd with rfl | rfl | rfl | rfl
        · exact any_tup (by simp) fun d hd => by
            simp only [List.mem_cons, List.not_mem_nil, or_false] at hd
            rcases hd with rfl | rfl
            · exact pc _
            · exact p7 _ (by omega)
        · exact any_tup (by simp) fun d hd => by
            simp only [List.mem_cons, List.not_mem_nil, or_false] at hd
            rcases hd with rfl | rfl
            · exact pc _
            · exact p1 _ (by omega)
        · exact any_tup (by simp) fun d hd => by
            simp only [List.mem_cons, List.not_mem_nil, or_false] at hd
            rcases hd with rfl | rfl
            · exact obe _
            · exact pf _ (by omega)
        · exact any_tup (by simp) fun d hd => by
            simp only [List.mem_cons, List.not_mem_nil, or_false] at hd
            rcases hd with rfl | rfl
            · exact ocr _
            · exact pf _ (by omega)
    · injection e with e
      subst e
      simp [-asQ, -asL, -List.map_map, asQ_tup, muSet_same]
      have sn' : ∀ x ∈ ns, Sm 2000 x := fun x hx => (show Sm 1400 x from sn x hx).mono (by omega)
      have sb' : Sm 1400 b := sb
      have pw : ∀ n, Pd 2000 10000 n (.str w') := fun n => by
        rcases hw with rfl | rfl
        · exact owe n
        · exact oin n
      have pn : ∀ n, 1 ≤ n → Pd 2000 10000 n (rowD ns) := fun n hn => pd_rowD (b := 1400) (by omega) (by omega) sn hn
      have p3 : ∀ n, 1 ≤ n → Pd 2000 10000 n (rowD (timesL ns 3)) := fun n hn => pd_rowD (b := 1404) (by omega) (by rw [times_len]; omega) (times_sm sn s3) hn
      have p1 : ∀ n, 1 ≤ n → Pd 2000 10000 n (rowD (timesL ns (-1))) := fun n hn => pd_rowD (b := 1404) (by omega) (by rw [times_len]; omega) (times_sm sn s1) hn
      refine ⟨sm_mulW s3 sb' (by omega) (by omega) (by omega), ns, 3, rfl, by omega, sn', s3.mono (by omega), ?_⟩
      simp [-asQ, -asL, -List.map_map, asQ_tup, muSet_same]
      refine ⟨ns, -1, rfl, by omega, sn', s1.mono (by omega), ?_⟩
      simp [-asQ, -asL, -List.map_map, asQ_tup, muSet_same]
      refine ⟨by omega, by omega, _, asL_own muSet_same, _, asL_lst, by simp; omega, fun q1 hn1 => ?_⟩
      have h1 : q1 ≠ p := fun z => by rw [z, hp1] at hn1; cases hn1
      refine ⟨by omega, _, asL_own muSet_same, _, asL_lst, by simp; omega, fun q2 hn2 => ?_⟩
      obtain ⟨m1, S2⟩ := sub_add (c := .l (xs0 ++ [D.tup [D.str w', D.int (3 * b), rowD (timesL ns 3)], D.tup [D.str w', D.int (-b), rowD (timesL ns (-1))], D.tup [D.str w', D.int 0, D.tup (List.replicate ns.length (D.int 0))]])) S1 h1 hn1
      have hp2 : muSet (muSet μ q (.l xs0)) q1 (.l (xs0 ++ [D.tup [D.str w', D.int (3 * b), rowD (timesL ns 3)], D.tup [D.str w', D.int (-b), rowD (timesL ns (-1))], D.tup [D.str w', D.int 0, D.tup (List.replicate ns.length (D.int 0))]])) p = some (.l vs) := by rw [muSet_ne h1.symm]; exact hp1
      have h2 : q2 ≠ p := fun z => by rw [z, hp2] at hn2; cases hn2
      obtain ⟨m2, S3⟩ := sub_add (c := .l (xs0 ++ [D.tup [D.str w', D.int (3 * b), rowD (timesL ns 3)], D.tup [D.str w', D.int (-b), rowD (timesL ns (-1))], D.tup [D.str w', D.int 0, D.tup (List.replicate ns.length (D.int 0))]] ++ [D.tup [D.str "inside", D.int b, rowD ns], D.tup [D.str "weights", D.int b, rowD ns], D.tup [D.str w', D.int b, D.tup (intsD ns ++ [D.int 0])]])) S2 h2 hn2
      subst hNX
      refine near_end (μ0 := μ) (N := N) (vs := vs) rfl h2 m2 (by rw [muSet_ne h2.symm]; exact hp2) muSet_same S3 hv hN pd (fun d hd => ?_) (by simp; omega) h
      have three : ∀ {x y z : D}, Pd 2000 10000 5 x → Pd 2000 10000 5 y → Pd 2000 10000 5 z → Any (.tup [x, y, z]) := fun hx hy hz => any_tup (by simp) fun d hd => by
        simp only [List.mem_cons, List.not_mem_nil, or_false] at hd
        rcases hd with rfl | rfl | rfl
        · exact hx
        · exact hy
        · exact hz
      have sb3 : Sm 1404 (3 * b) := sm_mul s3 sb'
      have sbn : Sm 1400 (-b) := by unfold Sm at sb' ⊢; rw [Int.natAbs_neg]; exact sb'
      have z0 : Sm 1 (0 : Int) := by unfold Sm; decide
      rcases List.mem_append.mp hd with hd | hd
      · rcases List.mem_append.mp hd with hd | hd
        · exact any0 d hd
        · simp only [List.mem_cons, List.not_mem_nil, or_false] at hd
          rcases hd with rfl | rfl | rfl
          · exact three (pw _) (pd_int (by omega) sb3) (p3 _ (by omega))
          · exact three (pw _) (pd_int (by omega) sbn) (p1 _ (by omega))
          · refine three (pw _) (pd_int (by omega) z0) ⟨by simp; omega, fun d hd => ?_⟩
            rw [(List.mem_replicate.mp hd).2]
            exact pd_int (b := 1) (by omega) z0
      · simp only [List.mem_cons, List.not_mem_nil, or_false] at hd
        rcases hd with rfl | rfl | rfl
        · exact three (oin _) (pd_int (by omega) sb') (pn _ (by omega))
        · exact three (owe _) (pd_int (by omega) sb') (pn _ (by omega))
        · refine three (pw _) (pd_int (by omega) sb') ⟨by simp; omega, fun d hd => ?_⟩
          rcases List.mem_append.mp hd with hd | hd
          · obtain ⟨x, hx, rfl⟩ := List.mem_map.mp hd
            exact pd_int (b := 2000) (by omega) (sn' x hx)
          · rw [List.mem_singleton] at hd; subst hd; exact pd_int (b := 1) (by omega) z0
end
end K05


set_option Elab.async false
set_option linter.all false
set_option maxRecDepth 100000
set_option maxHeartbeats 4000000
namespace K05
open PySem PySem.Spec PyProof.Rows L2 SlX DL
open Sx (Vec dd tt cost hset Good Units Ratio bnd sumN)
/-! sizes; one look -/
theorem bnd_step {M m : Nat} (hM : 1 ≤ M) : bnd M m ≤ bnd M (m + 1) := by
  show bnd M m ≤ (m + 1) * M * bnd M m
  exact Nat.le_mul_of_pos_left _ (Nat.mul_pos (Nat.succ_pos _) hM)
theorem bnd_mono {M m n : Nat} (hM : 1 ≤ M) (h : m ≤ n) : bnd M m ≤ bnd M n := by
  induction h with
  | refl => exact Nat.le_refl _
  | step _ ih => exact Nat.le_trans ih (bnd_step hM)
theorem getD_mem {c : List Int} {i : Nat} {P : Int → Prop} (h : ∀ x ∈ c, P x) (h0 : P 0) : P (c.getD i 0) := by
  by_cases hi : i < c.length
  · have e : c.getD i 0 = c[i] := by simp [List.getElem?_eq_getElem hi]
    rw [e]; exact h _ (List.getElem_mem hi)
  · have e : c.getD i 0 = 0 := by simp [List.getElem?_eq_none (show c.length ≤ i by omega)]
    rw [e]; exact h0
theorem fits_cols {goal : List Int} {cols : List (List Int)} {M : Nat} (hc : ∀ c ∈ cols, c.length = goal.length) (hM : 1 ≤ M) (h1 : ∀ c ∈ cols, ∀ x ∈ c, x.natAbs ≤ M) (h2 : ∀ x ∈ goal, x.natAbs ≤ M) (hn : cols.length + goal.length ≤ 900000) (hb : (goal.length + 1) * bnd M goal.length < 2 ^ 1400) :
    Fits goal.length cols.length (colsOf (turned goal cols) (turnBy goal goal)) := by
  refine ⟨⟨M, fun j i hj hi => ?_, hb⟩, by omega⟩
  have tl : (turned goal cols).length = cols.length := by simp [turned]
  have tg : (turnBy goal goal).length = goal.length := turn_len rfl
  unfold colsOf
  rw [tl, tg]
  split
  · rename_i hj1
    have e : (turned goal cols).getD j [] = turnBy goal cols[j] := by simp [turned, List.getElem?_eq_getElem hj1]
    rw [e, turn_get (hc _ (List.getElem_mem hj1)) hi, sgn_abs]
    exact getD_mem (P := fun x => x.natAbs ≤ M) (h1 _ (List.getElem_mem hj1)) (by simp)
  · split
    · split
      · simpa using hM
      · simp
    · rw [turn_get rfl hi, sgn_abs]
      exact getD_mem (P := fun x => x.natAbs ≤ M) h2 (by simp)
theorem fits_row {lot : List (List Int)} {row : List Int} (hl : ∀ p ∈ lot, p.length = row.length) (h1 : lot.length ≤ 1000) (h2 : row.length ≤ 8) (s1 : ∀ p ∈ lot, ∀ x ∈ p, Sm 40 x) (s2 : ∀ x ∈ row, Sm 40 x) : FitsRow lot row := by
  have hcol : ∀ c ∈ colsFor lot row, c.length = row.length + 1 ∧ ∀ x ∈ c, x.natAbs ≤ 2 ^ 41 := fun c hc => by
    obtain ⟨p, hp, rfl⟩ := List.mem_map.mp hc
    refine ⟨by simp [lessL, hl p hp], fun x hx => ?_⟩
    rcases List.mem_append.mp hx with hx | hx
    · obtain ⟨i, hi, rfl⟩ := List.getElem_of_mem hx
      have hi0 : i < min p.length row.length := by simpa [lessL] using hi
      have hi' : i < p.length ∧ i < row.length := by omega
      have e : (lessL p row)[i] = p[i] - row[i] := by simp [lessL]
      rw [e]
      have a1 := s1 p hp _ (List.getElem_mem hi'.1)
      have a2 := s2 _ (List.getElem_mem hi'.2)
      unfold Sm at a1 a2
      omega
    · rw [List.mem_singleton] at hx; subst hx; decide
  have hg : (goalFor row).length = row.length + 1 := by simp [goalFor]
  have hn : (colsFor lot row).length = lot.length := by simp [colsFor]
  refine ⟨hl, h1, by omega, fun c hc x hx => ?_, ?_⟩
  · have := (hcol c hc).2 x hx
    unfold Sz
    exact Nat.lt_of_le_of_lt this (Nat.pow_lt_pow_right (by decide) (by decide))
  · refine fits_cols (M := 2 ^ 41) (fun c hc => by rw [(hcol c hc).1, hg]) (Nat.one_le_two_pow) (fun c hc => (hcol c hc).2) (fun x hx => ?_) (by omega) ?_
    · have : x = 0 ∨ x = 1 := by
        simp [goalFor] at hx
        omega
      rcases this with h | h
      · subst h; simp
      · subst h; exact Nat.one_le_two_pow
    · rw [hg]
      have b1 : bnd (2 ^ 41) (row.length + 1) ≤ bnd (2 ^ 41) 9 := bnd_mono Nat.one_le_two_pow (by omega)
      have b2 : 10 * bnd (2 ^ 41) 9 < 2 ^ 1400 := by decide +kernel
      exact Nat.lt_of_le_of_lt (Nat.mul_le_mul (show row.length + 1 + 1 ≤ 10 by omega) b1) b2
theorem short_of {x : Int} {W : Int} (h : Wn W x) (hW : W ≤ 10 ^ 40) : short x = true := by
  unfold Wn at h
  have e : sixty = 10 ^ 60 := by decide +kernel
  have : (10 : Int) ^ 40 < 10 ^ 60 := by decide
  simp [short, e]
  omega
theorem isRow_of {r : List Int} {W : Int} (h1 : 1 ≤ r.length) (h2 : r.length ≤ 8) (h : ∀ x ∈ r, Wn W x) (hW : W ≤ 10 ^ 40) : isRow r = true := by
  simp [isRow, h1, h2]
  exact fun x hx => short_of (h x hx) hW
theorem lot_ok {n many : Nat} {wide : Int} {lot : List (List Int)} (d : DLot n many wide lot) (hn : 1 ≤ n) (hn8 : n ≤ 8) (hm : many ≤ 400) (hw : wide ≤ 10 ^ 40) : IsLot lot n :=
  ⟨d.ne, Nat.le_trans d.few hm, fun p hp => ⟨isRow_of (by rw [(d.row p hp).1]; exact hn) (by rw [(d.row p hp).1]; exact hn8) (d.row p hp).2 hw, (d.row p hp).1⟩, d.asc⟩

theorem wn_sm {x : Int} {W : Int} (h : Wn W x) (hW : W ≤ 10 ^ 10) : Sm 40 x := by
  unfold Wn at h
  unfold Sm
  have : (10 : Int) ^ 10 < 2 ^ 40 := by decide
  omega
def d__law_right : DSp := fun ds μ k => ∃ p N vs, ds = [.own p] ∧ μ p = some (.l vs) ∧ VOk vs N ∧ N + 20000 < 2 ^ 30 ∧ ∀ vs', VOk vs' (N + 20000) → k (.bl true) (muSet μ p (.l vs'))
section
variable {P : Program} {w : World} {K : PySem.W.Frag} {mg : Str → Option Value} {base : Heap} {C : Addr}
abbrev s__law_right : Stmt := topS 63
abbrev N__law_right : List Str := ["_law_vat_here", "_law_lot_here", "_law_value", "_law_size", "_law_wide", "_law_index", "_law_row_here", "_law_at"]
theorem sc__law_right : FnScope N__law_right ["_law_vat_here"] (defScope s__law_right) := ⟨rfl, rfl, rfl, by decide +kernel, rfl, by decide +kernel, by decide +kernel⟩
def r__law_right : RS :=
  (rSeq (rPar 3 4 (rCons (rCall d__law_pick (rCons (rVar 0) (rCons (rLst (rCons (rC (.int 1)) (rCons (rC (.int 2)) (rCons (rC (.int 3)) (rCons (rC (.int 4)) (rCons (rC (.int 8)) rNil)))))) rNil))) (rCons (rCall d__law_pick (rCons (rVar 0) (rCons (rLst (rCons (rC (.int 1)) (rCons (rC (.int 2)) (rCons (rC (.int 4)) (rCons (rOp (oIc CPowW fun i j => i ^ j.toNat) (rC (.int 10)) (rC (.int 9))) rNil))))) rNil))) rNil)))
  (rSeq (rAsg (rCall d__law_lot (rCons (rVar 0) (rCons (rVar 3) (rCons (rC (.int 8)) (rCons (rVar 4) rNil))))) (rgName 1))
  (rSeq (rAsg (rTup (rCons (rCall d__law_draw (rCons (rVar 0) (rCons (rCB oLen (rCons (rVar 1) rNil)) rNil))) (rCons (rCall d__law_row (rCons (rVar 0) (rCons (rVar 3) (rCons (rCall d__law_pick (rCons (rVar 0) (rCons (rLst (rCons (rC (.int 1)) (rCons (rC (.int 3)) (rCons (rOp (oIc CMulW fun i j => i * j) (rC (.int 2)) (rVar 4)) rNil)))) rNil))) rNil)))) rNil))) (rgTup 2 (rgCons (rgName 5) (rgCons (rgName 6) rgNil))))
  (rSeq (rFor (rIL (rOp oCat (rCall d__law_near (rCons (rVar 0) (rCons (rVar 1) (rCons (rCall d_corner_or_weights (rCons (rVar 1) (rCons (rVar 5) rNil))) (rCons (rVar 6) rNil))))) (rLst (rCons (rTup (rCons (rC (.str "weights")) (rCons (rC (.int 1)) (rCons (rCB oTuple (rCons (rLc (rIR1 (rCons (rCB oLen (rCons (rVar 1) rNil)) rNil)) (rgName 7) rYes (rCB oInt (rCons (rOp oEq (rVar 7) (rVar 5)) rNil)) [7]) rNil)) rNil)))) rNil)))) (rgName 2) (rIfS (rB (rOp oNe (rCall d_is_corner_or_weights (rCons (rVar 1) (rCons (rVar 5) (rCons (rVar 2) rNil)))) (rCall d__law_is_point_paper (rCons (rVar 1) (rCons (rVar 5) (rCons (rVar 2) rNil)))))) (rRet (rC (.bl false))) rNext))
  (rSeq (rFor (rIL (rCall d__law_near (rCons (rVar 0) (rCons (rVar 1) (rCons (rCall d_inside_or_beyond (rCons (rVar 1) (rCons (rVar 6) rNil))) (rCons (rVar 6) rNil)))))) (rgName 2) (rIfS (rB (rOp oNe (rCall d_is_inside_or_beyond (rCons (rVar 1) (rCons (rVar 6) (rCons (rVar 2) rNil)))) (rCall d__law_is_row_paper (rCons (rVar 1) (rCons (rVar 6) (rCons (rVar 2) rNil)))))) (rRet (rC (.bl false))) rNext))
  (rRet (rC (.bl true))))))))
theorem b__law_right (F__law_pick : FnD P w K mg base "_law_pick" 30 d__law_pick) (F__law_lot : FnD P w K mg base "_law_lot" 31 d__law_lot) (F__law_draw : FnD P w K mg base "_law_draw" 29 d__law_draw) (F__law_row : FnD P w K mg base "_law_row" 32 d__law_row) (F__law_near : FnD P w K mg base "_law_near" 55 d__law_near) (F_corner_or_weights : FnD P w K mg base "corner_or_weights" 46 d_corner_or_weights) (F_is_corner_or_weights : FnD P w K mg base "is_corner_or_weights" 47 d_is_corner_or_weights) (F__law_is_point_paper : FnD P w K mg base "_law_is_point_paper" 48 d__law_is_point_paper) (F_inside_or_beyond : FnD P w K mg base "inside_or_beyond" 26 d_inside_or_beyond) (F_is_inside_or_beyond : FnD P w K mg base "is_inside_or_beyond" 27 d_is_inside_or_beyond) (F__law_is_row_paper : FnD P w K mg base "_law_is_row_paper" 41 d__law_is_row_paper) (T : Txt K mg C) : Body P w K mg base 55 "_law_right" s__law_right N__law_right (r__law_right) := by
  refine fun f => ⟨_, fun cdv A outer s H E hr => ⟨(pss_cons (ps_par (i := 3) (j := 4) rfl sc__law_right.nd rfl rfl (by decide) rfl rfl (pa_cons (ke_call K F__law_pick hr (pa_cons (pv 0) (pa_cons (pe_lst (pa_cons pe_int (pa_cons pe_int (pa_cons pe_int (pa_cons pe_int (pa_cons pe_int pa_nil)))))) pa_nil))) (pa_cons (ke_call K F__law_pick hr (pa_cons (pv 0) (pa_cons (pe_lst (pa_cons pe_int (pa_cons pe_int (pa_cons pe_int (pa_cons (pe_op op_powW pe_int pe_int) pa_nil))))) pa_nil))) pa_nil)) rfl)
      (pss_cons (ps_set (i := 1) sc__law_right.nd rfl (Or.inl rfl) (ke_call K F__law_lot hr (pa_cons (pv 0) (pa_cons (pv 3) (pa_cons pe_int (pa_cons (pv 4) pa_nil))))))
      (pss_cons (ps_asg (pe_tup (pa_cons (ke_call K F__law_draw hr (pa_cons (pv 0) (pa_cons (kb_call (kc_len K) T.b_len (pa_cons (pv 1) pa_nil)) pa_nil))) (pa_cons (ke_call K F__law_row hr (pa_cons (pv 0) (pa_cons (pv 3) (pa_cons (ke_call K F__law_pick hr (pa_cons (pv 0) (pa_cons (pe_lst (pa_cons pe_int (pa_cons pe_int (pa_cons (pe_op op_mulW pe_int (pv 4)) pa_nil)))) pa_nil))) pa_nil)))) pa_nil))) (kg_tup K (pgs_cons (pg_name (i := 5) sc__law_right.nd rfl (Or.inr rfl)) (pgs_cons (pg_name (i := 6) sc__law_right.nd rfl (Or.inl rfl)) pgs_nil))))
      (pss_cons (ps_for PassesOwn.never rfl (ki_list K (pe_op op_cat (ke_call K F__law_near hr (pa_cons (pv 0) (pa_cons (pv 1) (pa_cons (ke_call K F_corner_or_weights hr (pa_cons (pv 1) (pa_cons (pv 5) pa_nil))) (pa_cons (pv 6) pa_nil))))) (pe_lst (pa_cons (pe_tup (pa_cons pe_str (pa_cons pe_int (pa_cons (kt_call (kc_tuple K) T.b_tuple (pa_cons (pe_lc (own := [("_law_at", 7)]) rfl sc__law_right.nd (kr_range1 T.b_range (pa_cons (kb_call (kc_len K) T.b_len (pa_cons (pv 1) pa_nil)) pa_nil)) (blkOk_by (own := [("_law_at", 7)]) (N := N__law_right) (sc := defScope s__law_right) (by decide +kernel)) (fun _ _ _ _ _ => (pg_name (i := 7) sc__law_right.nd rfl (by first | exact Or.inl rfl | exact Or.inr rfl))) (fun _ _ _ _ _ => pts_nil) (fun _ _ _ _ _ => (kt_call call_int1 T.b_int (pa_cons (pe_cmpR (ko_eqD K hr.units) (pv 7) (pv 5) (nomark _)) pa_nil)))) pa_nil)) pa_nil)))) pa_nil)))) (pg_name (i := 2) sc__law_right.nd rfl (Or.inl rfl)) (pss_one (ps_if (pt_cmpR (ko_neD K hr.units) (ke_call K F_is_corner_or_weights hr (pa_cons (pv 1) (pa_cons (pv 5) (pa_cons (pv 2) pa_nil)))) (ke_call K F__law_is_point_paper hr (pa_cons (pv 1) (pa_cons (pv 5) (pa_cons (pv 2) pa_nil)))) (nomark _)) (pss_one (ps_ret pe_bl)) pss_nil)))
      (pss_cons (ps_for PassesOwn.never rfl (ki_list K (ke_call K F__law_near hr (pa_cons (pv 0) (pa_cons (pv 1) (pa_cons (ke_call K F_inside_or_beyond hr (pa_cons (pv 1) (pa_cons (pv 6) pa_nil))) (pa_cons (pv 6) pa_nil)))))) (pg_name (i := 2) sc__law_right.nd rfl (Or.inl rfl)) (pss_one (ps_if (pt_cmpR (ko_neD K hr.units) (ke_call K F_is_inside_or_beyond hr (pa_cons (pv 1) (pa_cons (pv 6) (pa_cons (pv 2) pa_nil)))) (ke_call K F__law_is_row_paper hr (pa_cons (pv 1) (pa_cons (pv 6) (pa_cons (pv 2) pa_nil)))) (nomark _)) (pss_one (ps_ret pe_bl)) pss_nil)))
      (pss_one (ps_ret pe_bl))))))),
    (okS_seq (okS_par (okA_cons (okE_call (okA_cons (okE_var 0) (okA_cons (okE_lst (okA_cons (okE_C fun _ => .int _) (okA_cons (okE_C fun _ => .int _) (okA_cons (okE_C fun _ => .int _) (okA_cons (okE_C fun _ => .int _) (okA_cons (okE_C fun _ => .int _) okA_nil)))))) okA_nil))) (okA_cons (okE_call (okA_cons (okE_var 0) (okA_cons (okE_lst (okA_cons (okE_C fun _ => .int _) (okA_cons (okE_C fun _ => .int _) (okA_cons (okE_C fun _ => .int _) (okA_cons (okE_op okIc (okE_C fun _ => .int _) (okE_C fun _ => .int _)) okA_nil))))) okA_nil))) okA_nil)))
      (okS_seq (okS_asg (okE_call (okA_cons (okE_var 0) (okA_cons (okE_var 3) (okA_cons (okE_C fun _ => .int _) (okA_cons (okE_var 4) okA_nil))))) (okG_name 1))
      (okS_seq (okS_asg (okE_tup (okA_cons (okE_call (okA_cons (okE_var 0) (okA_cons (okE_CB okLen (okA_cons (okE_var 1) okA_nil)) okA_nil))) (okA_cons (okE_call (okA_cons (okE_var 0) (okA_cons (okE_var 3) (okA_cons (okE_call (okA_cons (okE_var 0) (okA_cons (okE_lst (okA_cons (okE_C fun _ => .int _) (okA_cons (okE_C fun _ => .int _) (okA_cons (okE_op okIc (okE_C fun _ => .int _) (okE_var 4)) okA_nil)))) okA_nil))) okA_nil)))) okA_nil))) (okG_tup (okGs_cons (okG_name 5) (okGs_cons (okG_name 6) okGs_nil))))
      (okS_seq (okS_for (okI_list (okE_op okCat (okE_call (okA_cons (okE_var 0) (okA_cons (okE_var 1) (okA_cons (okE_call (okA_cons (okE_var 1) (okA_cons (okE_var 5) okA_nil))) (okA_cons (okE_var 6) okA_nil))))) (okE_lst (okA_cons (okE_tup (okA_cons (okE_C fun _ => .str _) (okA_cons (okE_C fun _ => .int _) (okA_cons (okE_CB okTuple (okA_cons (okE_lc (okI_range1 (okA_cons (okE_CB okLen (okA_cons (okE_var 1) okA_nil)) okA_nil)) (okG_name 7) okT_yes (okE_CB okInt (okA_cons (okE_op okEq (okE_var 7) (okE_var 5)) okA_nil)) (by decide)) okA_nil)) okA_nil)))) okA_nil)))) (okG_name 2) (okS_if (okT_test (okE_op okNe (okE_call (okA_cons (okE_var 1) (okA_cons (okE_var 5) (okA_cons (okE_var 2) okA_nil)))) (okE_call (okA_cons (okE_var 1) (okA_cons (okE_var 5) (okA_cons (okE_var 2) okA_nil)))))) (okS_ret (okE_C fun _ => .bl _)) okS_next))
      (okS_seq (okS_for (okI_list (okE_call (okA_cons (okE_var 0) (okA_cons (okE_var 1) (okA_cons (okE_call (okA_cons (okE_var 1) (okA_cons (okE_var 6) okA_nil))) (okA_cons (okE_var 6) okA_nil)))))) (okG_name 2) (okS_if (okT_test (okE_op okNe (okE_call (okA_cons (okE_var 1) (okA_cons (okE_var 6) (okA_cons (okE_var 2) okA_nil)))) (okE_call (okA_cons (okE_var 1) (okA_cons (okE_var 6) (okA_cons (okE_var 2) okA_nil)))))) (okS_ret (okE_C fun _ => .bl _)) okS_next))
      (okS_ret (okE_C fun _ => .bl _)))))))⟩⟩



theorem vc_right {p : Addr} {N : Nat} {vs : List D} {μ : Mu} {k : DK} (hp : μ p = some (.l vs)) (hv : VOk vs N) (hN : N + 20000 < 2 ^ 30) (h : ∀ vs', VOk vs' (N + 20000) → k (.bl true) (muSet μ p (.l vs'))) :
    r__law_right { nx := fun _ μ' => k .non μ', rt := k } (startD N__law_right [.own p]) μ := by
  unfold r__law_right
  refine seq_gen fun NX hNX => ?_
  simp [-List.map_map]
  refine ⟨p, _, _, N, vs, rfl, .inl rfl, hp, hv, by simp, by simp, by omega, fun d vs1 hd hv1 => ?_⟩
  obtain ⟨n, hn1, hn8, rfl⟩ : ∃ n : Nat, 1 ≤ n ∧ n ≤ 8 ∧ d = .int (n : Nat) := by
    simp at hd
    rcases hd with rfl | rfl | rfl | rfl | rfl
    · exact ⟨1, by omega, by omega, rfl⟩
    · exact ⟨2, by omega, by omega, rfl⟩
    · exact ⟨3, by omega, by omega, rfl⟩
    · exact ⟨4, by omega, by omega, rfl⟩
    · exact ⟨8, by omega, by omega, rfl⟩
  refine ⟨⟨by decide, by decide, by decide +kernel⟩, ?_⟩
  refine ⟨p, _, _, N + 1, vs1, rfl, .inl rfl, muSet_same, hv1, by simp, by simp, by omega, fun d vs2 hd hv2 => ?_⟩
  obtain ⟨wide, hw0, hw1, rfl⟩ : ∃ wide : Int, 0 ≤ wide ∧ wide ≤ 10 ^ 9 ∧ d = .int wide := by
    simp at hd
    rcases hd with rfl | rfl | rfl | rfl
    · exact ⟨_, by decide, by decide, rfl⟩
    · exact ⟨_, by decide, by decide, rfl⟩
    · exact ⟨_, by decide, by decide, rfl⟩
    · exact ⟨_, by decide, by decide, rfl⟩
  rw [muSet_set]
  subst hNX
  refine seq_gen fun NX hNX => ?_
  simp [-List.map_map]
  refine ⟨p, n, 8, wide, N + 2, vs2, rfl, muSet_same, hv2, hn1, hn8, by omega, by omega, hw0, by omega, by omega, fun lot vs3 dl hv3 => ?_⟩
  rw [muSet_set]
  have hlr : ∀ q ∈ lot, q.length = n := fun q hq => (dl.row q hq).1
  have hls : ∀ q ∈ lot, ∀ x ∈ q, Sm 40 x := fun q hq x hx => wn_sm ((dl.row q hq).2 x hx) (by omega)
  have hl2 : ∀ q ∈ lot, ∀ x ∈ q, Sm 2000 x := fun q hq x hx => (hls q hq x hx).mono (by omega)
  have l10 := dl.few
  have l1 := dl.ne
  have IL := lot_ok dl hn1 hn8 (by omega) (show wide ≤ 10 ^ 40 by omega)
  subst hNX
  refine seq_gen fun NX hNX => ?_
  simp [-List.map_map]
  refine ⟨p, lot.length, N + 1002, vs3, rfl, muSet_same, hv3, by omega, ?_, by omega, fun r1 vs4 r10 r11 hv4 => ?_⟩
  · have : Sm 20 (lot.length : Int) := by unfold Sm; omega
    exact this.mono (by omega)
  obtain ⟨i, rfl⟩ : ∃ i : Nat, r1 = (i : Int) := ⟨r1.toNat, by omega⟩
  have hi : i < lot.length := by omega
  obtain ⟨pt, hpt⟩ : ∃ pt, lot[i]? = some pt := ⟨lot[i], List.getElem?_eq_getElem hi⟩
  have hptm := List.mem_of_getElem? hpt
  have hptl := hlr pt hptm
  rw [muSet_set]
  refine ⟨sm_mulW (a := 2) (b := 200) (by unfold Sm; decide) (sm_le hw0 hw1 (by unfold Sm; decide)) (by omega) (by omega) (by omega), ?_⟩
  refine ⟨p, _, _, N + 1003, vs4, rfl, .inl rfl, muSet_same, hv4, by simp, by simp, by omega, fun d vs5 hd hv5 => ?_⟩
  obtain ⟨wide2, hw20, hw21, rfl⟩ : ∃ wide2 : Int, 0 ≤ wide2 ∧ wide2 ≤ 2 * 10 ^ 9 ∧ d = .int wide2 := by
    simp at hd
    rcases hd with rfl | rfl | rfl
    · exact ⟨_, by decide, by decide, rfl⟩
    · exact ⟨_, by decide, by decide, rfl⟩
    · exact ⟨_, by omega, by omega, rfl⟩
  rw [muSet_set]
  refine ⟨p, n, wide2, N + 1004, vs5, rfl, muSet_same, hv5, by omega, hw20, by omega, by omega, fun row vs6 hrl hrw hv6 => ?_⟩
  rw [muSet_set]
  have hrs : ∀ x ∈ row, Sm 40 x := fun x hx => wn_sm (hrw x hx) (by omega)
  have hrr : isRow row = true := isRow_of (by omega) (by omega) hrw (by omega)
  have ILr : IsLot lot row.length := by rw [hrl]; exact IL
  have ol := others_len lot i
  have FO : FitsRow (others lot i) pt := fits_row (fun q hq => by rw [hptl]; exact hlr q (others_sub hq)) (by omega) (by omega) (fun q hq => hls q (others_sub hq)) (hls pt hptm)
  have FR : FitsRow lot row := fits_row (fun q hq => by rw [hrl]; exact hlr q hq) (by omega) (by omega) hls hrs
  subst hNX
  refine seq_gen fun NX hNX => ?_
  simp [rFor, -List.map_map, -asQ, -asL, -oEq, -oNe]
  refine ⟨lot, n, i, pt, rfl, IL, hpt, FO, fun paper sh => ?_⟩
  refine ⟨p, lot, paper, row, "corner", "weights", pt.length, lot.length, N + 1004 + 2 * n, vs6, rfl, muSet_same, hv6, by omega, sh, .inl rfl, .inl rfl, by omega, l1, by omega, by omega, fun x hx => (hrs x hx).mono (by omega), fun xs vs7 hxs hxl hv7 => ?_⟩
  rw [muSet_set]
  refine ⟨by omega, ?_⟩
  refine lcW_map (List.range lot.length) (fun j => .int (0 + ((j : Nat) : Int))) (fun j => .int (if (0 + (j : Int)) = (i : Int) then 1 else 0)) (.r 0 lot.length) (by rw [List.length_range]; omega) (fun j hj kt kf q => ?_) ?_
  · simp [wipeD, -oEq]
    refine Cm.int.toEq (x := (j : Int)) (y := (i : Int)) (Cm.int.as _ _) (Cm.int.as _ _) (by decide) ?_
    by_cases z : (j : Int) = (i : Int)
    · simpa [z] using q
    · simpa [z] using q
  simp [-List.map_map, -asQ, -asL, -oEq, -oNe]
  refine ⟨_, asQ_lst, _, asL_lst, _, asL_lst, by simp; omega, ?_⟩
  have allv : ∀ d ∈ xs ++ [D.tup [D.str "weights", D.int 1, D.tup (List.map (fun j : Nat => D.int (if (j : Int) = (i : Int) then 1 else 0)) (List.range lot.length))]], Any d := fun d hd => by
    rcases List.mem_append.mp hd with hd | hd
    · exact hxs d hd
    · rw [List.mem_singleton] at hd
      subst hd
      refine any_tup (by simp) fun d hd => ?_
      simp only [List.mem_cons, List.not_mem_nil, or_false] at hd
      rcases hd with rfl | rfl | rfl
      · exact pd_str (by decide +kernel) (by decide +kernel)
      · exact pd_int (b := 4) (by omega) (by unfold Sm; decide)
      · refine ⟨by simp; omega, fun d hd => ?_⟩
        obtain ⟨j, _, rfl⟩ := List.mem_map.mp hd
        refine pd_int (b := 4) (by omega) ?_
        unfold Sm; split <;> decide
  generalize xs ++ [D.tup [D.str "weights", D.int 1, D.tup (List.map (fun j : Nat => D.int (if (j : Int) = (i : Int) then 1 else 0)) (List.range lot.length))]] = ys at allv ⊢
  have eb : ∀ (a : Bool) (μ2 : Mu) (kk : DK), kk (.bl false) μ2 → oNe (.bl a) (.bl a) μ2 kk := fun a μ2 kk q => by
    refine Cm.bl.toNe (x := a) (y := a) (Cm.bl.as _ _) (Cm.bl.as _ _) (by decide) ?_
    simpa using q
  refine forW_inv ys id (by simpa using Src.l ys) (fun t δ μ' => ∃ x2, δ = [some (.own p), some (lotD lot), x2, some (.int (n : Nat)), some (.int wide), some (.int (i : Nat)), some (rowD row), none] ∧ μ' = muSet μ p (.l vs7)) ⟨none, rfl, rfl⟩ (fun _ _ _ _ => trivial) (fun t v δ μ' ht z => ?_) (fun δ μ' z => ?_)
  · obtain ⟨x2, rfl, rfl⟩ := z
    have hav := allv v (List.mem_of_getElem? ht)
    simp [-List.map_map, -asQ, -asL, -oEq, -oNe]
    refine ⟨lot, n, i, pt, v, rfl, IL, hpt, hav, hl2, ?_⟩
    refine ⟨lot, n, i, pt, v, rfl, IL, hpt, hav, hl2, ?_⟩
    refine eb _ _ _ ?_
    simp
  obtain ⟨x2, rfl, rfl⟩ := z
  subst hNX
  dsimp only
  refine seq_gen fun NX hNX => ?_
  simp [rFor, -List.map_map, -asQ, -asL, -oEq, -oNe]
  have iob : ∀ (μ2 : Mu) (kk : DK), (∀ v, Shape "beyond" "inside" row.length lot.length v → kk v μ2) → d_inside_or_beyond [lotD lot, rowD row] μ2 kk := fun μ2 kk q =>
    ⟨lot, row, rfl, ILr, hrr, FR, fun f hf sf _ => q _ (.inl ⟨f, rfl, hf, sf⟩), fun ns b hns hns2 hb sb _ _ => q _ (.inr ⟨b, ns, rfl, hns, sb, fun x hx => (hns2 x hx).2⟩)⟩
  refine iob _ _ fun v sh2 => ?_
  refine ⟨p, lot, v, row, "beyond", "inside", row.length, lot.length, N + 1004 + 2 * n + 1000, vs7, rfl, muSet_same, hv7, by omega, sh2, .inr rfl, .inr rfl, by omega, l1, by omega, by omega, fun x hx => (hrs x hx).mono (by omega), fun zs vs8 hzs hzl hv8 => ?_⟩
  rw [muSet_set]
  simp [-List.map_map, -asQ, -asL, -oEq, -oNe]
  refine forW_inv zs id (by simpa using Src.l zs) (fun t δ μ' => ∃ x2, δ = [some (.own p), some (lotD lot), x2, some (.int (n : Nat)), some (.int wide), some (.int (i : Nat)), some (rowD row), none] ∧ μ' = muSet μ p (.l vs8)) ⟨x2, rfl, rfl⟩ (fun _ _ _ _ => trivial) (fun t v δ μ' ht z => ?_) (fun δ μ' z => ?_)
  · obtain ⟨x3, rfl, rfl⟩ := z
    have hav := hzs v (List.mem_of_getElem? ht)
    simp [-List.map_map, -asQ, -asL, -oEq, -oNe]
    refine ⟨lot, row, v, rfl, ILr, hrr, hav, hl2, fun x hx => (hrs x hx).mono (by omega), ?_⟩
    refine ⟨lot, row, v, rfl, ILr, hrr, hav, hl2, fun x hx => (hrs x hx).mono (by omega), ?_⟩
    refine eb _ _ _ ?_
    simp
  · obtain ⟨x3, rfl, rfl⟩ := z
    subst hNX
    simp
    exact h vs8 (hv8.mono (by omega))
end
end K05


set_option Elab.async false
set_option linter.all false
set_option maxRecDepth 100000
set_option maxHeartbeats 4000000
namespace K05
open PySem PySem.Spec PyProof.Rows L2 SlX DL
open Sx (Vec dd tt cost hset Good Units Ratio bnd sumN)
def d_law : DSp := fun ds μ k => ∃ ns, ds = [.scr ns] ∧ ns.length ≤ 63 ∧ k (.bl true) μ
section
variable {P : Program} {w : World} {K : PySem.W.Frag} {mg : Str → Option Value} {base : Heap} {C : Addr}
abbrev s_law : Stmt := topS 64
abbrev N_law : List Str := ["_law_script", "_law_spot", "_law_field", "_law_told", "_law_vat_here", "_law_turn", "_law_value"]
theorem sc_law : FnScope N_law ["_law_script"] (defScope s_law) := ⟨rfl, rfl, rfl, by decide +kernel, rfl, by decide +kernel, by decide +kernel⟩
def r_law : RS :=
  (rSeq (rFor (rIR1 (rCons (rCB (o2I fun i j => if j > i then j else i) (rCons (rC (.int 1)) (rCons (rCB (o2I fun i j => if j < i then j else i) (rCons (rC (.int 3)) (rCons (rCB oLen (rCons (rVar 0) rNil)) rNil))) rNil))) rNil)) (rgName 1) (rSeq (rAsg (rCall d__law_vat (rCons (rVar 0) (rCons (rVar 1) rNil))) (rgName 4))
  (rFor (rIR1 (rCons (rC (.int 4)) rNil)) (rgName 5) (rIfS (rNot (rB (rCall d__law_right (rCons (rVar 4) rNil)))) (rRet (rC (.bl false))) rNext))))
  (rSeq (rAsg (rTup (rCons (rTup (rCons (rC (.int 0)) (rCons (rC (.int 0)) rNil))) (rCons (rTup (rCons (rC (.int 0)) (rCons (rC (.int 2)) rNil))) (rCons (rTup (rCons (rC (.int 1)) (rCons (rC (.int 1)) rNil))) (rCons (rTup (rCons (rC (.int 2)) (rCons (rC (.int 0)) rNil))) (rCons (rTup (rCons (rC (.int 2)) (rCons (rC (.int 2)) rNil))) rNil)))))) (rgName 2))
  (rSeq (rAsg (rLst (rCons (rTup (rCons (rC (.str "weights")) (rCons (rC (.int 2)) (rCons (rTup (rCons (rC (.int 1)) (rCons (rC (.int 0)) (rCons (rC (.int 0)) (rCons (rC (.int 0)) (rCons (rC (.int 1)) rNil)))))) rNil)))) (rCons (rTup (rCons (rC (.str "weights")) (rCons (rC (.int 1)) (rCons (rTup (rCons (rC (.int 0)) (rCons (rC (.int 0)) (rCons (rC (.int 1)) (rCons (rC (.int 0)) (rCons (rC (.int 0)) rNil)))))) rNil)))) (rCons (rTup (rCons (rC (.str "weights")) (rCons (rC (.int 4)) (rCons (rTup (rCons (rC (.int 1)) (rCons (rC (.int 1)) (rCons (rC (.int 0)) (rCons (rC (.int 1)) (rCons (rC (.int 1)) rNil)))))) rNil)))) (rCons (rTup (rCons (rC (.str "weights")) (rCons (rC (.bl true)) (rCons (rTup (rCons (rC (.int 0)) (rCons (rC (.int 0)) (rCons (rC (.int 1)) (rCons (rC (.int 0)) (rCons (rC (.int 0)) rNil)))))) rNil)))) rNil))))) (rgName 3))
  (rSeq (rIfS (rB (rOp oNe (rLc (rIL (rVar 3)) (rgName 6) rYes (rCall d_is_corner_or_weights (rCons (rVar 2) (rCons (rC (.int 2)) (rCons (rVar 6) rNil)))) [6]) (rLst (rCons (rC (.bl true)) (rCons (rC (.bl false)) (rCons (rC (.bl true)) (rCons (rC (.bl false)) rNil))))))) (rRet (rC (.bl false))) rNext)
  (rSeq (rAsg (rLst (rCons (rTup (rCons (rC (.str "corner")) (rCons (rTup (rCons (rUn oNeg (rC (.int 1))) (rCons (rUn oNeg (rC (.int 1))) rNil))) rNil))) (rCons (rTup (rCons (rC (.str "corner")) (rCons (rTup (rCons (rUn oNeg (rC (.int 1))) (rCons (rC (.int 0)) rNil))) rNil))) (rCons (rTup (rCons (rC (.str "corner")) (rCons (rTup (rCons (rOp (oIc CMulW fun i j => i * j) (rUn oNeg (rOp (oIc CPowW fun i j => i ^ j.toNat) (rC (.int 10)) (rC (.int 35)))) (rOp (oIc CPowW fun i j => i ^ j.toNat) (rC (.int 10)) (rC (.int 35)))) (rCons (rUn oNeg (rC (.int 1))) rNil))) rNil))) (rCons (rTup (rCons (rC (.str "corner")) (rCons (rTup (rCons (rUn oNeg (rC (.int 1))) rNil)) rNil))) (rCons (rTup (rCons (rC (.str "corner")) (rCons (rTup (rCons (rUn oNeg (rC (.int 1))) (rCons (rUn oNeg (rC (.int 1))) (rCons (rC (.int 0)) rNil)))) rNil))) rNil)))))) (rgName 3))
  (rRet (rOp oEq (rLc (rIL (rVar 3)) (rgName 6) rYes (rCall d_is_corner_or_weights (rCons (rVar 2) (rCons (rC (.int 0)) (rCons (rVar 6) rNil)))) [6]) (rLst (rCons (rC (.bl true)) (rCons (rC (.bl false)) (rCons (rC (.bl true)) (rCons (rC (.bl false)) (rCons (rC (.bl false)) rNil)))))))))))))
theorem b_law (F__law_vat : FnD P w K mg base "_law_vat" 28 d__law_vat) (F__law_right : FnD P w K mg base "_law_right" 56 d__law_right) (F_is_corner_or_weights : FnD P w K mg base "is_corner_or_weights" 47 d_is_corner_or_weights) (T : Txt K mg C) : Body P w K mg base 56 "law" s_law N_law (r_law) := by
  refine fun f => ⟨_, fun cdv A outer s H E hr => ⟨(pss_cons (ps_for PassesOwn.never rfl (kr_range1 T.b_range (pa_cons (kb_call (call_max2 rfl) T.b_max (pa_cons pe_int (pa_cons (kb_call (call_min2 rfl) T.b_min (pa_cons pe_int (pa_cons (kb_call (kc_len K) T.b_len (pa_cons (pv 0) pa_nil)) pa_nil))) pa_nil))) pa_nil)) (pg_name (i := 1) sc_law.nd rfl (Or.inl rfl)) (pss_cons (ps_set (i := 4) sc_law.nd rfl (Or.inl rfl) (ke_call K F__law_vat hr (pa_cons (pv 0) (pa_cons (pv 1) pa_nil))))
      (pss_one (ps_for PassesOwn.never rfl (kr_range1 T.b_range (pa_cons pe_int pa_nil)) (pg_name (i := 5) sc_law.nd rfl (Or.inl rfl)) (pss_one (ps_if (pt_not (pt_val (ke_call K F__law_right hr (pa_cons (pv 4) pa_nil)))) (pss_one (ps_ret pe_bl)) pss_nil))))))
      (pss_cons (ps_set (i := 2) sc_law.nd rfl (Or.inr rfl) (pe_tup (pa_cons (pe_tup (pa_cons pe_int (pa_cons pe_int pa_nil))) (pa_cons (pe_tup (pa_cons pe_int (pa_cons pe_int pa_nil))) (pa_cons (pe_tup (pa_cons pe_int (pa_cons pe_int pa_nil))) (pa_cons (pe_tup (pa_cons pe_int (pa_cons pe_int pa_nil))) (pa_cons (pe_tup (pa_cons pe_int (pa_cons pe_int pa_nil))) pa_nil)))))))
      (pss_cons (ps_set (i := 3) sc_law.nd rfl (Or.inl rfl) (pe_lst (pa_cons (pe_tup (pa_cons pe_str (pa_cons pe_int (pa_cons (pe_tup (pa_cons pe_int (pa_cons pe_int (pa_cons pe_int (pa_cons pe_int (pa_cons pe_int pa_nil)))))) pa_nil)))) (pa_cons (pe_tup (pa_cons pe_str (pa_cons pe_int (pa_cons (pe_tup (pa_cons pe_int (pa_cons pe_int (pa_cons pe_int (pa_cons pe_int (pa_cons pe_int pa_nil)))))) pa_nil)))) (pa_cons (pe_tup (pa_cons pe_str (pa_cons pe_int (pa_cons (pe_tup (pa_cons pe_int (pa_cons pe_int (pa_cons pe_int (pa_cons pe_int (pa_cons pe_int pa_nil)))))) pa_nil)))) (pa_cons (pe_tup (pa_cons pe_str (pa_cons pe_bl (pa_cons (pe_tup (pa_cons pe_int (pa_cons pe_int (pa_cons pe_int (pa_cons pe_int (pa_cons pe_int pa_nil)))))) pa_nil)))) pa_nil))))))
      (pss_cons (ps_if (pt_cmpR (ko_neD K hr.units) (pe_lc (own := [("_law_value", 6)]) rfl sc_law.nd (ki_list K (pv 3)) (blkOk_by (own := [("_law_value", 6)]) (N := N_law) (sc := defScope s_law) (by decide +kernel)) (fun _ _ _ _ _ => (pg_name (i := 6) sc_law.nd rfl (by first | exact Or.inl rfl | exact Or.inr rfl))) (fun _ _ _ _ _ => pts_nil) (fun _ _ _ _ _ => (ke_call K F_is_corner_or_weights hr (pa_cons (pv 2) (pa_cons pe_int (pa_cons (pv 6) pa_nil)))))) (pe_lst (pa_cons pe_bl (pa_cons pe_bl (pa_cons pe_bl (pa_cons pe_bl pa_nil))))) (nomark _)) (pss_one (ps_ret pe_bl)) pss_nil)
      (pss_cons (ps_set (i := 3) sc_law.nd rfl (Or.inl rfl) (pe_lst (pa_cons (pe_tup (pa_cons pe_str (pa_cons (pe_tup (pa_cons (pe_un un_neg pe_int) (pa_cons (pe_un un_neg pe_int) pa_nil))) pa_nil))) (pa_cons (pe_tup (pa_cons pe_str (pa_cons (pe_tup (pa_cons (pe_un un_neg pe_int) (pa_cons pe_int pa_nil))) pa_nil))) (pa_cons (pe_tup (pa_cons pe_str (pa_cons (pe_tup (pa_cons (pe_op op_mulW (pe_un un_neg (pe_op op_powW pe_int pe_int)) (pe_op op_powW pe_int pe_int)) (pa_cons (pe_un un_neg pe_int) pa_nil))) pa_nil))) (pa_cons (pe_tup (pa_cons pe_str (pa_cons (pe_tup (pa_cons (pe_un un_neg pe_int) pa_nil)) pa_nil))) (pa_cons (pe_tup (pa_cons pe_str (pa_cons (pe_tup (pa_cons (pe_un un_neg pe_int) (pa_cons (pe_un un_neg pe_int) (pa_cons pe_int pa_nil)))) pa_nil))) pa_nil)))))))
      (pss_one (ps_ret (pe_cmpR (ko_eqD K hr.units) (pe_lc (own := [("_law_value", 6)]) rfl sc_law.nd (ki_list K (pv 3)) (blkOk_by (own := [("_law_value", 6)]) (N := N_law) (sc := defScope s_law) (by decide +kernel)) (fun _ _ _ _ _ => (pg_name (i := 6) sc_law.nd rfl (by first | exact Or.inl rfl | exact Or.inr rfl))) (fun _ _ _ _ _ => pts_nil) (fun _ _ _ _ _ => (ke_call K F_is_corner_or_weights hr (pa_cons (pv 2) (pa_cons pe_int (pa_cons (pv 6) pa_nil)))))) (pe_lst (pa_cons pe_bl (pa_cons pe_bl (pa_cons pe_bl (pa_cons pe_bl (pa_cons pe_bl pa_nil)))))) (nomark _))))))))),
    (okS_seq (okS_for (okI_range1 (okA_cons (okE_CB ok2I (okA_cons (okE_C fun _ => .int _) (okA_cons (okE_CB ok2I (okA_cons (okE_C fun _ => .int _) (okA_cons (okE_CB okLen (okA_cons (okE_var 0) okA_nil)) okA_nil))) okA_nil))) okA_nil)) (okG_name 1) (okS_seq (okS_asg (okE_call (okA_cons (okE_var 0) (okA_cons (okE_var 1) okA_nil))) (okG_name 4))
      (okS_for (okI_range1 (okA_cons (okE_C fun _ => .int _) okA_nil)) (okG_name 5) (okS_if (okT_not (okT_B (okE_call (okA_cons (okE_var 4) okA_nil)))) (okS_ret (okE_C fun _ => .bl _)) okS_next))))
      (okS_seq (okS_asg (okE_tup (okA_cons (okE_tup (okA_cons (okE_C fun _ => .int _) (okA_cons (okE_C fun _ => .int _) okA_nil))) (okA_cons (okE_tup (okA_cons (okE_C fun _ => .int _) (okA_cons (okE_C fun _ => .int _) okA_nil))) (okA_cons (okE_tup (okA_cons (okE_C fun _ => .int _) (okA_cons (okE_C fun _ => .int _) okA_nil))) (okA_cons (okE_tup (okA_cons (okE_C fun _ => .int _) (okA_cons (okE_C fun _ => .int _) okA_nil))) (okA_cons (okE_tup (okA_cons (okE_C fun _ => .int _) (okA_cons (okE_C fun _ => .int _) okA_nil))) okA_nil)))))) (okG_name 2))
      (okS_seq (okS_asg (okE_lst (okA_cons (okE_tup (okA_cons (okE_C fun _ => .str _) (okA_cons (okE_C fun _ => .int _) (okA_cons (okE_tup (okA_cons (okE_C fun _ => .int _) (okA_cons (okE_C fun _ => .int _) (okA_cons (okE_C fun _ => .int _) (okA_cons (okE_C fun _ => .int _) (okA_cons (okE_C fun _ => .int _) okA_nil)))))) okA_nil)))) (okA_cons (okE_tup (okA_cons (okE_C fun _ => .str _) (okA_cons (okE_C fun _ => .int _) (okA_cons (okE_tup (okA_cons (okE_C fun _ => .int _) (okA_cons (okE_C fun _ => .int _) (okA_cons (okE_C fun _ => .int _) (okA_cons (okE_C fun _ => .int _) (okA_cons (okE_C fun _ => .int _) okA_nil)))))) okA_nil)))) (okA_cons (okE_tup (okA_cons (okE_C fun _ => .str _) (okA_cons (okE_C fun _ => .int _) (okA_cons (okE_tup (okA_cons (okE_C fun _ => .int _) (okA_cons (okE_C fun _ => .int _) (okA_cons (okE_C fun _ => .int _) (okA_cons (okE_C fun _ => .int _) (okA_cons (okE_C fun _ => .int _) okA_nil)))))) okA_nil)))) (okA_cons (okE_tup (okA_cons (okE_C fun _ => .str _) (okA_cons (okE_C fun _ => .bl _) (okA_cons (okE_tup (okA_cons (okE_C fun _ => .int _) (okA_cons (okE_C fun _ => .int _) (okA_cons (okE_C fun _ => .int _) (okA_cons (okE_C fun _ => .int _) (okA_cons (okE_C fun _ => .int _) okA_nil)))))) okA_nil)))) okA_nil))))) (okG_name 3))
      (okS_seq (okS_if (okT_test (okE_op okNe (okE_lc (okI_list (okE_var 3)) (okG_name 6) okT_yes (okE_call (okA_cons (okE_var 2) (okA_cons (okE_C fun _ => .int _) (okA_cons (okE_var 6) okA_nil)))) (by decide)) (okE_lst (okA_cons (okE_C fun _ => .bl _) (okA_cons (okE_C fun _ => .bl _) (okA_cons (okE_C fun _ => .bl _) (okA_cons (okE_C fun _ => .bl _) okA_nil))))))) (okS_ret (okE_C fun _ => .bl _)) okS_next)
      (okS_seq (okS_asg (okE_lst (okA_cons (okE_tup (okA_cons (okE_C fun _ => .str _) (okA_cons (okE_tup (okA_cons (okE_un okNeg (okE_C fun _ => .int _)) (okA_cons (okE_un okNeg (okE_C fun _ => .int _)) okA_nil))) okA_nil))) (okA_cons (okE_tup (okA_cons (okE_C fun _ => .str _) (okA_cons (okE_tup (okA_cons (okE_un okNeg (okE_C fun _ => .int _)) (okA_cons (okE_C fun _ => .int _) okA_nil))) okA_nil))) (okA_cons (okE_tup (okA_cons (okE_C fun _ => .str _) (okA_cons (okE_tup (okA_cons (okE_op okIc (okE_un okNeg (okE_op okIc (okE_C fun _ => .int _) (okE_C fun _ => .int _))) (okE_op okIc (okE_C fun _ => .int _) (okE_C fun _ => .int _))) (okA_cons (okE_un okNeg (okE_C fun _ => .int _)) okA_nil))) okA_nil))) (okA_cons (okE_tup (okA_cons (okE_C fun _ => .str _) (okA_cons (okE_tup (okA_cons (okE_un okNeg (okE_C fun _ => .int _)) okA_nil)) okA_nil))) (okA_cons (okE_tup (okA_cons (okE_C fun _ => .str _) (okA_cons (okE_tup (okA_cons (okE_un okNeg (okE_C fun _ => .int _)) (okA_cons (okE_un okNeg (okE_C fun _ => .int _)) (okA_cons (okE_C fun _ => .int _) okA_nil)))) okA_nil))) okA_nil)))))) (okG_name 3))
      (okS_ret (okE_op okEq (okE_lc (okI_list (okE_var 3)) (okG_name 6) okT_yes (okE_call (okA_cons (okE_var 2) (okA_cons (okE_C fun _ => .int _) (okA_cons (okE_var 6) okA_nil)))) (by decide)) (okE_lst (okA_cons (okE_C fun _ => .bl _) (okA_cons (okE_C fun _ => .bl _) (okA_cons (okE_C fun _ => .bl _) (okA_cons (okE_C fun _ => .bl _) (okA_cons (okE_C fun _ => .bl _) okA_nil)))))))))))))⟩⟩



theorem ok__law_right (a : At K mg "_law_right" s__law_right) (F1 : FnD P w K mg base "_law_pick" 30 d__law_pick) (F2 : FnD P w K mg base "_law_lot" 31 d__law_lot) (F3 : FnD P w K mg base "_law_draw" 29 d__law_draw) (F4 : FnD P w K mg base "_law_row" 32 d__law_row) (F5 : FnD P w K mg base "_law_near" 55 d__law_near) (F6 : FnD P w K mg base "corner_or_weights" 46 d_corner_or_weights) (F7 : FnD P w K mg base "is_corner_or_weights" 47 d_is_corner_or_weights) (F8 : FnD P w K mg base "_law_is_point_paper" 48 d__law_is_point_paper) (F9 : FnD P w K mg base "inside_or_beyond" 26 d_inside_or_beyond) (F10 : FnD P w K mg base "is_inside_or_beyond" 27 d_is_inside_or_beyond) (F11 : FnD P w K mg base "_law_is_row_paper" 41 d__law_is_row_paper) (T : Txt K mg C) : FnD P w K mg base "_law_right" 56 d__law_right := by
  refine fnD_of a (b__law_right F1 F2 F3 F4 F5 F6 F7 F8 F9 F10 F11 T) sc__law_right (fun _ _ _ _ _ _ us hl => match us, hl with | [_], _ => rfl) ?_ ?_
  · rintro ds μ k ⟨_, _, _, rfl, _⟩; rfl
  · rintro ds μ k ⟨p, N, vs, rfl, hp, hv, hN, h⟩
    exact vc_right hp hv hN h
/-! the written lot -/
def field : List (List Int) := [[0, 0], [0, 2], [1, 1], [2, 0], [2, 2]]
theorem field_lot : IsLot field 2 := ⟨by decide, by decide, by decide +kernel, by decide⟩
theorem field_sm : ∀ p ∈ field, ∀ x ∈ p, Sm 2000 x := fun p hp x hx => (show Sm 8 x by
  revert p x; unfold Sm; decide).mono (by omega)
def told1 : List D := [.tup [.str "weights", .int 2, rowD [1, 0, 0, 0, 1]], .tup [.str "weights", .int 1, rowD [0, 0, 1, 0, 0]], .tup [.str "weights", .int 4, rowD [1, 1, 0, 1, 1]], .tup [.str "weights", .bl true, rowD [0, 0, 1, 0, 0]]]
def told2' : List D := [.tup [.str "corner", rowD [-1, -1]], .tup [.str "corner", rowD [-1, 0]], .tup [.str "corner", rowD [-10000000000000000000000000000000000000000000000000000000000000000000000, -1]], .tup [.str "corner", rowD [-1]], .tup [.str "corner", rowD [-1, -1, 0]]]
theorem res1 : (told1.map fun v => pointB field 2 [1, 1] v) = [true, false, true, false] := by decide +kernel
theorem res2 : (told2'.map fun v => pointB field 0 [0, 0] v) = [true, false, true, false, false] := by decide +kernel
theorem any_row {ns : List Int} (hl : ns.length ≤ 10) (h : ∀ x ∈ ns, Sm 300 x) (n : Nat) (hn : 1 ≤ n) : Pd 2000 10000 n (rowD ns) := pd_rowD (b := 300) (by omega) (by omega) h hn
theorem any_told1 : ∀ v ∈ told1, Any v := fun v hv => by
  have three : ∀ {x y z : D}, Pd 2000 10000 5 x → Pd 2000 10000 5 y → Pd 2000 10000 5 z → Any (.tup [x, y, z]) := fun hx hy hz => any_tup (by simp) fun d hd => by
    simp only [List.mem_cons, List.not_mem_nil, or_false] at hd
    rcases hd with rfl | rfl | rfl
    · exact hx
    · exact hy
    · exact hz
  have ow : Pd 2000 10000 5 (.str "weights") := pd_str (by decide +kernel) (by decide +kernel)
  simp only [told1, List.mem_cons, List.not_mem_nil, or_false] at hv
  have r : ∀ ns : List Int, ns.length ≤ 10 → (∀ x ∈ ns, x = 0 ∨ x = 1) → Pd 2000 10000 5 (rowD ns) := fun ns hl h => any_row hl (fun x hx => by
    rcases h x hx with e | e
    · subst e; exact (show Sm 1 (0 : Int) by unfold Sm; decide).mono (by omega)
    · subst e; exact (show Sm 1 (1 : Int) by unfold Sm; decide).mono (by omega)) 5 (by omega)
  have i : ∀ x : Int, x.natAbs < 16 → Pd 2000 10000 5 (.int x) := fun x h => pd_int (b := 4) (by omega) h
  rcases hv with rfl | rfl | rfl | rfl
  · exact three ow (i 2 (by decide)) (r _ (by decide) (by decide))
  · exact three ow (i 1 (by decide)) (r _ (by decide) (by decide))
  · exact three ow (i 4 (by decide)) (r _ (by decide) (by decide))
  · exact three ow trivial (r _ (by decide) (by decide))
theorem any_told2 : ∀ v ∈ told2', Any v := fun v hv => by
  have two : ∀ {x y : D}, Pd 2000 10000 5 x → Pd 2000 10000 5 y → Any (.tup [x, y]) := fun hx hy => any_tup (by simp) fun d hd => by
    simp only [List.mem_cons, List.not_mem_nil, or_false] at hd
    rcases hd with rfl | rfl
    · exact hx
    · exact hy
  have ow : Pd 2000 10000 5 (.str "corner") := pd_str (by decide +kernel) (by decide +kernel)
  simp only [told2', List.mem_cons, List.not_mem_nil, or_false] at hv
  have r : ∀ ns : List Int, ns.length ≤ 10 → (∀ x ∈ ns, x.natAbs < 2 ^ 250) → Pd 2000 10000 5 (rowD ns) := fun ns hl h => any_row hl (fun x hx => (show Sm 250 x from h x hx).mono (by omega)) 5 (by omega)
  rcases hv with rfl | rfl | rfl | rfl | rfl
  · exact two ow (r _ (by decide) (by decide))
  · exact two ow (r _ (by decide) (by decide))
  · exact two ow (r _ (by decide) (by decide))
  · exact two ow (r _ (by decide) (by decide))
  · exact two ow (r _ (by decide) (by decide))
theorem vc_law {ns : List Int} {μ : Mu} {k : DK} (hl : ns.length ≤ 63) (h : k (.bl true) μ) :
    r_law { nx := fun _ μ' => ∃ μ'', Sub μ'' μ' ∧ k .non μ'', rt := fun d μ' => ∃ μ'', Sub μ'' μ' ∧ k d μ'' } (startD N_law [.scr ns]) μ := by
  unfold r_law
  refine seq_gen fun NX hNX => ?_
  simp only [rFor, rIR1, rCons, rCB, rC, rNil, o2I, oLen, rVar, startD, List.map_cons, List.map_nil, List.cons_append, List.nil_append, List.getElem?_cons_zero]
  refine ⟨ns.length, rfl, ?_⟩
  generalize hm : (if (if (ns.length : Int) < 3 then (ns.length : Int) else 3) > 1 then (if (ns.length : Int) < 3 then (ns.length : Int) else 3) else 1) = m
  have hm4 : m ≤ 3 ∧ 1 ≤ m := by
    subst hm
    split <;> split <;> omega
  refine ⟨⟨by omega, by omega⟩, ?_⟩
  refine forW_inv (List.range m.toNat) (fun i : Nat => .int (0 + (i : Nat))) (.r 0 m.toNat) (fun i δ μ' => ∃ x1 x4 x5, δ = [some (.scr ns), x1, none, none, x4, x5, none] ∧ Sub μ μ') ⟨none, none, none, rfl, Sub.refl _⟩ (fun _ _ _ _ => trivial) (fun i x δ μ' hx z => ?_) (fun δ μ' z => ?_)
  · obtain ⟨x1, x4, x5, rfl, hs⟩ := z
    obtain ⟨rfl, hi⟩ := range_get hx
    simp only [rgName, List.set_cons_succ, List.set_cons_zero]
    clear hNX
    refine seq_gen fun NX hNX => ?_
    simp only [rAsg, rCall, rCons, rVar, rNil, rgName, List.getElem?_cons_succ, List.getElem?_cons_zero, List.set_cons_succ, List.set_cons_zero]
    refine ⟨ns, _, rfl, by omega, by omega, fun p vs hp hv => ?_⟩
    subst hNX
    simp only [rFor, rIR1, rCons, rC, rNil]
    refine ⟨by omega, ?_⟩
    refine forW_inv (List.range 4) (fun i : Nat => .int (0 + (i : Nat))) (.r 0 4) (fun j δ μ'' => ∃ x5 vs', δ = [some (.scr ns), some (.int (0 + (x : Nat))), none, none, some (.own p), x5, none] ∧ VOk vs' (20000 * j) ∧ μ'' = muSet μ' p (.l vs')) ⟨x5, vs, rfl, hv, rfl⟩ (fun _ _ _ _ => trivial) (fun j y δ μ'' hy z => ?_) (fun δ μ'' z => ?_)
    · obtain ⟨x5, vs', rfl, hv', rfl⟩ := z
      obtain ⟨rfl, hj⟩ := range_get hy
      simp
      refine ⟨p, 20000 * y, vs', rfl, muSet_same, hv', by omega, fun vs2 hv2 => ?_⟩
      simp
      exact ⟨vs2, hv2.mono (by omega), by rw [muSet_set]⟩
    · obtain ⟨x5, vs', rfl, hv', rfl⟩ := z
      exact ⟨_, _, _, rfl, Sub.up hs hp⟩
  obtain ⟨x1, x4, x5, rfl, hs⟩ := z
  subst hNX
  dsimp only
  refine seq_gen fun NX hNX => ?_
  simp only [rAsg, rTup, rCons, rC, rNil, rgName, List.set_cons_succ, List.set_cons_zero]
  refine ⟨by decide, by decide, by decide, by decide, by decide, by decide, ?_⟩
  subst hNX
  refine seq_gen fun NX hNX => ?_
  simp only [rAsg, rLst, rTup, rCons, rC, rNil, rgName, List.set_cons_succ, List.set_cons_zero]
  refine ⟨by decide, by decide, by decide, by decide, by decide, by decide, by decide, by decide, by decide, ?_⟩
  subst hNX
  refine seq_gen fun NX hNX => ?_
  simp only [rIfS, rB, rOp, rLc, rIL, rVar, rLst, rCons, rC, rNil, List.getElem?_cons_succ, List.getElem?_cons_zero]
  refine ⟨itL told1, rfl, ?_⟩
  refine lcW_map told1 id (fun v => .bl (pointB field 2 [1, 1] v)) (show Src (itL told1) μ' (told1.map id) by simpa using Src.l (μ := μ') told1) (by decide) (fun v hv kt kf q => ?_) ?_
  · simp [-List.map_map, -asQ, -asL, wipeD]
    exact ⟨field, 2, 2, [1, 1], v, rfl, field_lot, rfl, any_told1 v hv, field_sm, q⟩
  refine ⟨by decide, ?_⟩
  have e1 : D.lst (told1.map fun v => .bl (pointB field 2 [1, 1] v)) = .lst ([true, false, true, false].map D.bl) := by
    rw [← res1, List.map_map]; rfl
  rw [e1]
  refine Cm.bl.lst.toNe (x := [true, false, true, false]) (y := [true, false, true, false]) (Cm.bl.lst.as _ _) (Cm.bl.lst.as _ [true, false, true, false]) (by decide) ?_
  simp only [decide_true, Bool.not_true, asB, Bool.false_eq_true, if_false, rNext]
  subst hNX
  refine seq_gen fun NX hNX => ?_
  simp only [rAsg, rLst, rTup, rCons, rC, rNil, rgName, rUn, oNeg, rOp, oIc, List.set_cons_succ, List.set_cons_zero]
  have p35 : CPowW 10 35 := ⟨by decide, by decide, by decide +kernel⟩
  have e70 : (-10 ^ Int.toNat 35 * 10 ^ Int.toNat 35 : Int) = -10000000000000000000000000000000000000000000000000000000000000000000000 := by decide +kernel
  have cm : CMulW (-10 ^ Int.toNat 35) (10 ^ Int.toNat 35) := by unfold CMulW; decide +kernel
  rw [e70]
  refine ⟨by decide, by decide, by decide, by decide, p35, p35, cm, by simp, by simp, by decide, by decide, by decide, by decide, by simp, ?_⟩
  subst hNX
  simp only [rRet, rOp, rLc, rIL, rVar, rLst, rCons, rC, rNil, List.getElem?_cons_succ, List.getElem?_cons_zero]
  refine ⟨itL told2', rfl, ?_⟩
  refine lcW_map told2' id (fun v => .bl (pointB field 0 [0, 0] v)) (show Src (itL told2') μ' (told2'.map id) by simpa using Src.l (μ := μ') told2') (by decide) (fun v hv kt kf q => ?_) ?_
  · simp [-List.map_map, -asQ, -asL, wipeD]
    exact ⟨field, 2, 0, [0, 0], v, rfl, field_lot, rfl, any_told2 v hv, field_sm, q⟩
  refine ⟨by decide, ?_⟩
  have e2 : D.lst (told2'.map fun v => .bl (pointB field 0 [0, 0] v)) = .lst ([true, false, true, false, false].map D.bl) := by
    rw [← res2, List.map_map]; rfl
  rw [e2]
  refine Cm.bl.lst.toEq (x := [true, false, true, false, false]) (y := [true, false, true, false, false]) (Cm.bl.lst.as _ _) (Cm.bl.lst.as _ [true, false, true, false, false]) (by decide) ?_
  exact ⟨μ, hs, h⟩
theorem ok_law {f : Addr} {fd : FuncData} (F : Fun K "law" "law" s_law f fd) (F1 : FnD P w K mg base "_law_vat" 28 d__law_vat) (F2 : FnD P w K mg base "_law_right" 56 d__law_right) (F3 : FnD P w K mg base "is_corner_or_weights" 47 d_is_corner_or_weights) (T : Txt K mg C) : FnOk P w K mg base CX0 57 f fd ["_law_script"] (spOf K d_law) := by
  obtain ⟨t, hb⟩ := b_law F1 F2 F3 T f
  refine fn_mkW F sc_law ?_ hb ?_
  · rintro ds μ k ⟨ns, rfl, _⟩; rfl
  · rintro ds μ k ⟨ns, rfl, hl, h⟩
    exact vc_law hl h
end
end K05


set_option Elab.async false
set_option linter.all false
set_option maxRecDepth 100000
set_option maxHeartbeats 8000000
namespace K05
open PySem PySem.Spec PyProof.Rows L2 SlX DL
/-- the end, the loose names' values at hand -/
theorem walk_ofX {l : PySem.W.OpenLaw} {n k : Nat} {q : Program} {loose : List Str} {XP : (Str → Option Value) → Heap → Prop} {YP : World → Heap → Prop} {d : DefRec} {K : Params → PySem.W.Frag} {sp : World → Sp} {x : Str}
    (hn : l.most = some n) (hn2 : n ≤ sizeLine) (hdf : d.params.defaults = []) (hr : Room k callerA)
    (hY : ∀ (w : World) (h : Heap), YP w h → (K w.params).In h)
    (F : ∀ (w : World) (mg : Str → Option Value) (fa : Addr) (h : Heap), (∃ h0, XP mg h0) → (K w.params).In h → h.Ns mainGlobals mg → mg d.name = some (.ref fa) →
      ∃ fd : FuncData, (∀ (s : Shared) (u : Value), BindsTo s fd ⟨[u], []⟩ [(x, u)]) ∧
        ∀ base : Heap, (K w.params).In base → base.Ns mainGlobals mg → FnOk l.prog w (K w.params) mg base CX0 k fa fd [x] (sp w))
    (hsp : ∀ (w : World) (H : Hp) (a : Addr) (ns : List Int), ns.length ≤ n → Only H → SqL (K w.params) H a (ns.map V.int) → sp w [.ref a] H (fun v _ => v = .bl true) fun _ _ _ => False) :
    PySem.W.WalkO q loose XP YP l.row.toRowW d [] (fun f vs => PySem.call f vs) := by
  refine Att.attach_call hn hdf fun w s₀ s₁ mg mb fa o pm cd doc a vs ns G Y ho hd hcd hmg hobj hints hlen hg => ?_
  have KX := hY w _ Y
  obtain ⟨fd, hb, hF⟩ := F w mg fa _ ⟨_, G.X⟩ KX G.T.g hmg
  exact law_call KX G.T.g G.T.b G.T.builtins G.T.nolimit hg hobj hints (Nat.le_trans hlen hn2) hr hF hb (fun H hO hS => hsp w H a ns hlen hO hS) fun H e s' z => z
theorem kit_own {K : PySem.W.Frag} {C : Addr} : PySem.W.kitOne K (.ref C) (.ref C) = some true := by
  unfold PySem.W.kitOne
  rw [if_pos (by simp)]
theorem kit_off {K : PySem.W.Frag} {C : Addr} {T : String} (ic : PySem.W.isClsIn K C = true) (ty : PySem.W.typeIn K (.ref C) = some (.type "type")) (ti : PySem.W.instIn K (.ref C) (.type "type") = some true) (u : PySem.W.subIn K (.type T) (.ref C) = some false) : PySem.W.kitOne K (.type T) (.ref C) = some false := by
  unfold PySem.W.kitOne
  have e : (Value.type T == Value.ref C) = false := by rfl
  rw [e]
  unfold PySem.W.kitCls
  simp [ic, ty, ti, u, show (PySem.W.clsIn K C).isSome = true from ic]
theorem loose_SIXTY {p : Program} {lv : List (Str × PySem.W.WData)} {mg : Str → Option Value} {h : Heap} (x : PySem.W.XL p lv mg h) (hm : (("SIXTY" : Str), PySem.W.WData.int sixty) ∈ lv) : ∃ t, mg "SIXTY" = some (.int sixty t) := by
  obtain ⟨v, e, r⟩ := x.2.val _ hm
  cases r
  exact ⟨_, e⟩
theorem all_mk {l : PySem.W.OpenLaw} {w : World} {K : PySem.W.Frag} {h : Heap} {mg : Str → Option Value} {fa C f_0 f_1 f_2 f_3 f_4 f_5 f_6 f_7 f_8 f_9 f_10 f_11 f_12 f_13 f_14 f_15 f_16 f_17 f_18 f_19 f_20 f_21 f_22 f_23 f_24 f_25 f_26 f_27 f_28 f_29 f_30 f_31 f_32 f_33 f_34 f_35 f_36 f_37 f_38 f_39 f_40 f_41 f_42 f_43 p_own_bottom p_own_costs p_own_held p_own_many p_own_rows f_mcolumn f_mis_ahead f_mrow f_mturned f_mpivot f_mwork f_minit : Addr} (X : K.In h) (G : h.Ns mainGlobals mg) (hfa : mg "law" = some (.ref fa)) (hx_SIXTY : ∃ t, mg "SIXTY" = some (.int sixty t))
    {od_0 an_0 od_1 an_1 od_2 an_2 od_3 an_3 od_4 an_4 od_5 an_5 od_6 an_6 od_7 an_7 od_8 an_8 od_9 an_9 od_10 an_10 od_11 an_11 od_12 an_12 od_13 an_13 od_14 an_14 od_15 an_15 od_16 an_16 od_17 an_17 od_18 an_18 od_19 an_19 od_20 an_20 od_21 an_21 od_22 an_22 od_23 an_23 od_24 an_24 od_25 an_25 od_26 an_26 od_27 an_27 od_28 an_28 od_29 an_29 od_30 an_30 od_31 an_31 od_32 an_32 od_33 an_33 od_34 an_34 od_35 an_35 od_36 an_36 od_37 an_37 od_38 an_38 od_39 an_39 od_40 an_40 od_41 an_41 od_42 an_42 od_43 an_43 od_mcolumn an_mcolumn od_mis_ahead an_mis_ahead od_mrow an_mrow od_mturned an_mturned od_mpivot an_mpivot od_mwork an_mwork od_minit an_minit : Option Addr} {sl_0 sl_1 sl_2 sl_3 sl_4 sl_5 sl_6 sl_7 sl_8 sl_9 sl_10 sl_11 sl_12 sl_13 sl_14 sl_15 sl_16 sl_17 sl_18 sl_19 sl_20 sl_21 sl_22 sl_23 sl_24 sl_25 sl_26 sl_27 sl_28 sl_29 sl_30 sl_31 sl_32 sl_33 sl_34 sl_35 sl_36 sl_37 sl_38 sl_39 sl_40 sl_41 sl_42 sl_43 sl_mcolumn sl_mis_ahead sl_mrow sl_mturned sl_mpivot sl_mwork sl_minit : Array (Option Value)} {oc_0 kV_0 dc_0 pm_0 cd_0 ct_0 oc_1 kV_1 dc_1 pm_1 cd_1 ct_1 oc_2 kV_2 dc_2 pm_2 cd_2 ct_2 oc_3 kV_3 dc_3 pm_3 cd_3 ct_3 oc_4 kV_4 dc_4 pm_4 cd_4 ct_4 oc_5 kV_5 dc_5 pm_5 cd_5 ct_5 oc_6 kV_6 dc_6 pm_6 cd_6 ct_6 oc_7 kV_7 dc_7 pm_7 cd_7 ct_7 oc_8 kV_8 dc_8 pm_8 cd_8 ct_8 oc_9 kV_9 dc_9 pm_9 cd_9 ct_9 oc_10 kV_10 dc_10 pm_10 cd_10 ct_10 oc_11 kV_11 dc_11 pm_11 cd_11 ct_11 oc_12 kV_12 dc_12 pm_12 cd_12 ct_12 oc_13 kV_13 dc_13 pm_13 cd_13 ct_13 oc_14 kV_14 dc_14 pm_14 cd_14 ct_14 oc_15 kV_15 dc_15 pm_15 cd_15 ct_15 oc_16 kV_16 dc_16 pm_16 cd_16 ct_16 oc_17 kV_17 dc_17 pm_17 cd_17 ct_17 oc_18 kV_18 dc_18 pm_18 cd_18 ct_18 oc_19 kV_19 dc_19 pm_19 cd_19 ct_19 oc_20 kV_20 dc_20 pm_20 cd_20 ct_20 oc_21 kV_21 dc_21 pm_21 cd_21 ct_21 oc_22 kV_22 dc_22 pm_22 cd_22 ct_22 oc_23 kV_23 dc_23 pm_23 cd_23 ct_23 oc_24 kV_24 dc_24 pm_24 cd_24 ct_24 oc_25 kV_25 dc_25 pm_25 cd_25 ct_25 oc_26 kV_26 dc_26 pm_26 cd_26 ct_26 oc_27 kV_27 dc_27 pm_27 cd_27 ct_27 oc_28 kV_28 dc_28 pm_28 cd_28 ct_28 oc_29 kV_29 dc_29 pm_29 cd_29 ct_29 oc_30 kV_30 dc_30 pm_30 cd_30 ct_30 oc_31 kV_31 dc_31 pm_31 cd_31 ct_31 oc_32 kV_32 dc_32 pm_32 cd_32 ct_32 oc_33 kV_33 dc_33 pm_33 cd_33 ct_33 oc_34 kV_34 dc_34 pm_34 cd_34 ct_34 oc_35 kV_35 dc_35 pm_35 cd_35 ct_35 oc_36 kV_36 dc_36 pm_36 cd_36 ct_36 oc_37 kV_37 dc_37 pm_37 cd_37 ct_37 oc_38 kV_38 dc_38 pm_38 cd_38 ct_38 oc_39 kV_39 dc_39 pm_39 cd_39 ct_39 oc_40 kV_40 dc_40 pm_40 cd_40 ct_40 oc_41 kV_41 dc_41 pm_41 cd_41 ct_41 oc_42 kV_42 dc_42 pm_42 cd_42 ct_42 oc_43 kV_43 dc_43 pm_43 cd_43 ct_43 oc_mcolumn kV_mcolumn dc_mcolumn pm_mcolumn cd_mcolumn ct_mcolumn oc_mis_ahead kV_mis_ahead dc_mis_ahead pm_mis_ahead cd_mis_ahead ct_mis_ahead oc_mrow kV_mrow dc_mrow pm_mrow cd_mrow ct_mrow oc_mturned kV_mturned dc_mturned pm_mturned cd_mturned ct_mturned oc_mpivot kV_mpivot dc_mpivot pm_mpivot cd_mpivot ct_mpivot oc_mwork kV_mwork dc_mwork pm_mwork cd_mwork ct_mwork oc_minit kV_minit dc_minit pm_minit cd_minit ct_minit : Value}
    (a_0 : PySem.W.nsIn K mainGlobals "is_whole" = some (some (.ref f_0)))
    (l_0 : K.lookup f_0 = some ⟨oc_0, od_0, .func (PySem.W.fnOf "is_whole" "is_whole" (defArgs s_is_whole) (defBody s_is_whole) (defScope s_is_whole) .none kV_0 dc_0 pm_0 an_0 cd_0 ct_0), sl_0⟩)
    (c_0 : PySem.W.codeIn K cd_0 "is_whole" = true)
    (k_0 : PySem.W.keepIn K (.ref f_0) = true)
    (a_1 : PySem.W.nsIn K mainGlobals "is_short" = some (some (.ref f_1)))
    (l_1 : K.lookup f_1 = some ⟨oc_1, od_1, .func (PySem.W.fnOf "is_short" "is_short" (defArgs s_is_short) (defBody s_is_short) (defScope s_is_short) .none kV_1 dc_1 pm_1 an_1 cd_1 ct_1), sl_1⟩)
    (c_1 : PySem.W.codeIn K cd_1 "is_short" = true)
    (k_1 : PySem.W.keepIn K (.ref f_1) = true)
    (a_2 : PySem.W.nsIn K mainGlobals "are_wholes" = some (some (.ref f_2)))
    (l_2 : K.lookup f_2 = some ⟨oc_2, od_2, .func (PySem.W.fnOf "are_wholes" "are_wholes" (defArgs s_are_wholes) (defBody s_are_wholes) (defScope s_are_wholes) .none kV_2 dc_2 pm_2 an_2 cd_2 ct_2), sl_2⟩)
    (c_2 : PySem.W.codeIn K cd_2 "are_wholes" = true)
    (k_2 : PySem.W.keepIn K (.ref f_2) = true)
    (a_3 : PySem.W.nsIn K mainGlobals "less_in" = some (some (.ref f_3)))
    (l_3 : K.lookup f_3 = some ⟨oc_3, od_3, .func (PySem.W.fnOf "less_in" "less_in" (defArgs s_less_in) (defBody s_less_in) (defScope s_less_in) .none kV_3 dc_3 pm_3 an_3 cd_3 ct_3), sl_3⟩)
    (c_3 : PySem.W.codeIn K cd_3 "less_in" = true)
    (k_3 : PySem.W.keepIn K (.ref f_3) = true)
    (a_4 : PySem.W.nsIn K mainGlobals "dot_in" = some (some (.ref f_4)))
    (l_4 : K.lookup f_4 = some ⟨oc_4, od_4, .func (PySem.W.fnOf "dot_in" "dot_in" (defArgs s_dot_in) (defBody s_dot_in) (defScope s_dot_in) .none kV_4 dc_4 pm_4 an_4 cd_4 ct_4), sl_4⟩)
    (c_4 : PySem.W.codeIn K cd_4 "dot_in" = true)
    (k_4 : PySem.W.keepIn K (.ref f_4) = true)
    (a_5 : PySem.W.nsIn K mainGlobals "made_or_form" = some (some (.ref f_5)))
    (l_5 : K.lookup f_5 = some ⟨oc_5, od_5, .func (PySem.W.fnOf "made_or_form" "made_or_form" (defArgs s_made_or_form) (defBody s_made_or_form) (defScope s_made_or_form) .none kV_5 dc_5 pm_5 an_5 cd_5 ct_5), sl_5⟩)
    (c_5 : PySem.W.codeIn K cd_5 "made_or_form" = true)
    (k_5 : PySem.W.keepIn K (.ref f_5) = true)
    (a_6 : PySem.W.nsIn K mainGlobals "is_row_in" = some (some (.ref f_6)))
    (l_6 : K.lookup f_6 = some ⟨oc_6, od_6, .func (PySem.W.fnOf "is_row_in" "is_row_in" (defArgs s_is_row_in) (defBody s_is_row_in) (defScope s_is_row_in) .none kV_6 dc_6 pm_6 an_6 cd_6 ct_6), sl_6⟩)
    (c_6 : PySem.W.codeIn K cd_6 "is_row_in" = true)
    (k_6 : PySem.W.keepIn K (.ref f_6) = true)
    (a_7 : PySem.W.nsIn K mainGlobals "is_lot_in" = some (some (.ref f_7)))
    (l_7 : K.lookup f_7 = some ⟨oc_7, od_7, .func (PySem.W.fnOf "is_lot_in" "is_lot_in" (defArgs s_is_lot_in) (defBody s_is_lot_in) (defScope s_is_lot_in) .none kV_7 dc_7 pm_7 an_7 cd_7 ct_7), sl_7⟩)
    (c_7 : PySem.W.codeIn K cd_7 "is_lot_in" = true)
    (k_7 : PySem.W.keepIn K (.ref f_7) = true)
    (a_8 : PySem.W.nsIn K mainGlobals "is_told" = some (some (.ref f_8)))
    (l_8 : K.lookup f_8 = some ⟨oc_8, od_8, .func (PySem.W.fnOf "is_told" "is_told" (defArgs s_is_told) (defBody s_is_told) (defScope s_is_told) .none kV_8 dc_8 pm_8 an_8 cd_8 ct_8), sl_8⟩)
    (c_8 : PySem.W.codeIn K cd_8 "is_told" = true)
    (k_8 : PySem.W.keepIn K (.ref f_8) = true)
    (a_9 : PySem.W.nsIn K mainGlobals "weights_in" = some (some (.ref f_9)))
    (l_9 : K.lookup f_9 = some ⟨oc_9, od_9, .func (PySem.W.fnOf "weights_in" "weights_in" (defArgs s_weights_in) (defBody s_weights_in) (defScope s_weights_in) .none kV_9 dc_9 pm_9 an_9 cd_9 ct_9), sl_9⟩)
    (c_9 : PySem.W.codeIn K cd_9 "weights_in" = true)
    (k_9 : PySem.W.keepIn K (.ref f_9) = true)
    (a_10 : PySem.W.nsIn K mainGlobals "inside_or_beyond_in" = some (some (.ref f_10)))
    (l_10 : K.lookup f_10 = some ⟨oc_10, od_10, .func (PySem.W.fnOf "inside_or_beyond_in" "inside_or_beyond_in" (defArgs s_inside_or_beyond_in) (defBody s_inside_or_beyond_in) (defScope s_inside_or_beyond_in) .none kV_10 dc_10 pm_10 an_10 cd_10 ct_10), sl_10⟩)
    (c_10 : PySem.W.codeIn K cd_10 "inside_or_beyond_in" = true)
    (k_10 : PySem.W.keepIn K (.ref f_10) = true)
    (a_11 : PySem.W.nsIn K mainGlobals "are_weights" = some (some (.ref f_11)))
    (l_11 : K.lookup f_11 = some ⟨oc_11, od_11, .func (PySem.W.fnOf "are_weights" "are_weights" (defArgs s_are_weights) (defBody s_are_weights) (defScope s_are_weights) .none kV_11 dc_11 pm_11 an_11 cd_11 ct_11), sl_11⟩)
    (c_11 : PySem.W.codeIn K cd_11 "are_weights" = true)
    (k_11 : PySem.W.keepIn K (.ref f_11) = true)
    (a_12 : PySem.W.nsIn K mainGlobals "is_form_beyond" = some (some (.ref f_12)))
    (l_12 : K.lookup f_12 = some ⟨oc_12, od_12, .func (PySem.W.fnOf "is_form_beyond" "is_form_beyond" (defArgs s_is_form_beyond) (defBody s_is_form_beyond) (defScope s_is_form_beyond) .none kV_12 dc_12 pm_12 an_12 cd_12 ct_12), sl_12⟩)
    (c_12 : PySem.W.codeIn K cd_12 "is_form_beyond" = true)
    (k_12 : PySem.W.keepIn K (.ref f_12) = true)
    (a_13 : PySem.W.nsIn K mainGlobals "require_row" = some (some (.ref f_13)))
    (l_13 : K.lookup f_13 = some ⟨oc_13, od_13, .func (PySem.W.fnOf "require_row" "require_row" (defArgs s_require_row) (defBody s_require_row) (defScope s_require_row) .none kV_13 dc_13 pm_13 an_13 cd_13 ct_13), sl_13⟩)
    (c_13 : PySem.W.codeIn K cd_13 "require_row" = true)
    (k_13 : PySem.W.keepIn K (.ref f_13) = true)
    (a_14 : PySem.W.nsIn K mainGlobals "require_lot" = some (some (.ref f_14)))
    (l_14 : K.lookup f_14 = some ⟨oc_14, od_14, .func (PySem.W.fnOf "require_lot" "require_lot" (defArgs s_require_lot) (defBody s_require_lot) (defScope s_require_lot) .none kV_14 dc_14 pm_14 an_14 cd_14 ct_14), sl_14⟩)
    (c_14 : PySem.W.codeIn K cd_14 "require_lot" = true)
    (k_14 : PySem.W.keepIn K (.ref f_14) = true)
    (a_15 : PySem.W.nsIn K mainGlobals "require_lengths" = some (some (.ref f_15)))
    (l_15 : K.lookup f_15 = some ⟨oc_15, od_15, .func (PySem.W.fnOf "require_lengths" "require_lengths" (defArgs s_require_lengths) (defBody s_require_lengths) (defScope s_require_lengths) .none kV_15 dc_15 pm_15 an_15 cd_15 ct_15), sl_15⟩)
    (c_15 : PySem.W.codeIn K cd_15 "require_lengths" = true)
    (k_15 : PySem.W.keepIn K (.ref f_15) = true)
    (a_16 : PySem.W.nsIn K mainGlobals "require_lot_and_row" = some (some (.ref f_16)))
    (l_16 : K.lookup f_16 = some ⟨oc_16, od_16, .func (PySem.W.fnOf "require_lot_and_row" "require_lot_and_row" (defArgs s_require_lot_and_row) (defBody s_require_lot_and_row) (defScope s_require_lot_and_row) .none kV_16 dc_16 pm_16 an_16 cd_16 ct_16), sl_16⟩)
    (c_16 : PySem.W.codeIn K cd_16 "require_lot_and_row" = true)
    (k_16 : PySem.W.keepIn K (.ref f_16) = true)
    (a_17 : PySem.W.nsIn K mainGlobals "inside_or_beyond" = some (some (.ref f_17)))
    (l_17 : K.lookup f_17 = some ⟨oc_17, od_17, .func (PySem.W.fnOf "inside_or_beyond" "inside_or_beyond" (defArgs s_inside_or_beyond) (defBody s_inside_or_beyond) (defScope s_inside_or_beyond) .none kV_17 dc_17 pm_17 an_17 cd_17 ct_17), sl_17⟩)
    (c_17 : PySem.W.codeIn K cd_17 "inside_or_beyond" = true)
    (k_17 : PySem.W.keepIn K (.ref f_17) = true)
    (a_18 : PySem.W.nsIn K mainGlobals "is_inside_or_beyond" = some (some (.ref f_18)))
    (l_18 : K.lookup f_18 = some ⟨oc_18, od_18, .func (PySem.W.fnOf "is_inside_or_beyond" "is_inside_or_beyond" (defArgs s_is_inside_or_beyond) (defBody s_is_inside_or_beyond) (defScope s_is_inside_or_beyond) .none kV_18 dc_18 pm_18 an_18 cd_18 ct_18), sl_18⟩)
    (c_18 : PySem.W.codeIn K cd_18 "is_inside_or_beyond" = true)
    (k_18 : PySem.W.keepIn K (.ref f_18) = true)
    (a_19 : PySem.W.nsIn K mainGlobals "_law_vat" = some (some (.ref f_19)))
    (l_19 : K.lookup f_19 = some ⟨oc_19, od_19, .func (PySem.W.fnOf "_law_vat" "_law_vat" (defArgs s__law_vat) (defBody s__law_vat) (defScope s__law_vat) .none kV_19 dc_19 pm_19 an_19 cd_19 ct_19), sl_19⟩)
    (c_19 : PySem.W.codeIn K cd_19 "_law_vat" = true)
    (k_19 : PySem.W.keepIn K (.ref f_19) = true)
    (a_20 : PySem.W.nsIn K mainGlobals "_law_draw" = some (some (.ref f_20)))
    (l_20 : K.lookup f_20 = some ⟨oc_20, od_20, .func (PySem.W.fnOf "_law_draw" "_law_draw" (defArgs s__law_draw) (defBody s__law_draw) (defScope s__law_draw) .none kV_20 dc_20 pm_20 an_20 cd_20 ct_20), sl_20⟩)
    (c_20 : PySem.W.codeIn K cd_20 "_law_draw" = true)
    (k_20 : PySem.W.keepIn K (.ref f_20) = true)
    (a_21 : PySem.W.nsIn K mainGlobals "_law_pick" = some (some (.ref f_21)))
    (l_21 : K.lookup f_21 = some ⟨oc_21, od_21, .func (PySem.W.fnOf "_law_pick" "_law_pick" (defArgs s__law_pick) (defBody s__law_pick) (defScope s__law_pick) .none kV_21 dc_21 pm_21 an_21 cd_21 ct_21), sl_21⟩)
    (c_21 : PySem.W.codeIn K cd_21 "_law_pick" = true)
    (k_21 : PySem.W.keepIn K (.ref f_21) = true)
    (a_22 : PySem.W.nsIn K mainGlobals "_law_lot" = some (some (.ref f_22)))
    (l_22 : K.lookup f_22 = some ⟨oc_22, od_22, .func (PySem.W.fnOf "_law_lot" "_law_lot" (defArgs s__law_lot) (defBody s__law_lot) (defScope s__law_lot) .none kV_22 dc_22 pm_22 an_22 cd_22 ct_22), sl_22⟩)
    (c_22 : PySem.W.codeIn K cd_22 "_law_lot" = true)
    (k_22 : PySem.W.keepIn K (.ref f_22) = true)
    (a_23 : PySem.W.nsIn K mainGlobals "_law_row" = some (some (.ref f_23)))
    (l_23 : K.lookup f_23 = some ⟨oc_23, od_23, .func (PySem.W.fnOf "_law_row" "_law_row" (defArgs s__law_row) (defBody s__law_row) (defScope s__law_row) .none kV_23 dc_23 pm_23 an_23 cd_23 ct_23), sl_23⟩)
    (c_23 : PySem.W.codeIn K cd_23 "_law_row" = true)
    (k_23 : PySem.W.keepIn K (.ref f_23) = true)
    (a_24 : PySem.W.nsIn K mainGlobals "_law_dot" = some (some (.ref f_24)))
    (l_24 : K.lookup f_24 = some ⟨oc_24, od_24, .func (PySem.W.fnOf "_law_dot" "_law_dot" (defArgs s__law_dot) (defBody s__law_dot) (defScope s__law_dot) .none kV_24 dc_24 pm_24 an_24 cd_24 ct_24), sl_24⟩)
    (c_24 : PySem.W.codeIn K cd_24 "_law_dot" = true)
    (k_24 : PySem.W.keepIn K (.ref f_24) = true)
    (a_25 : PySem.W.nsIn K mainGlobals "is_from" = some (some (.ref f_25)))
    (l_25 : K.lookup f_25 = some ⟨oc_25, od_25, .func (PySem.W.fnOf "is_from" "is_from" (defArgs s_is_from) (defBody s_is_from) (defScope s_is_from) .none kV_25 dc_25 pm_25 an_25 cd_25 ct_25), sl_25⟩)
    (c_25 : PySem.W.codeIn K cd_25 "is_from" = true)
    (k_25 : PySem.W.keepIn K (.ref f_25) = true)
    (a_26 : PySem.W.nsIn K mainGlobals "_law_are_whole" = some (some (.ref f_26)))
    (l_26 : K.lookup f_26 = some ⟨oc_26, od_26, .func (PySem.W.fnOf "_law_are_whole" "_law_are_whole" (defArgs s__law_are_whole) (defBody s__law_are_whole) (defScope s__law_are_whole) .none kV_26 dc_26 pm_26 an_26 cd_26 ct_26), sl_26⟩)
    (c_26 : PySem.W.codeIn K cd_26 "_law_are_whole" = true)
    (k_26 : PySem.W.keepIn K (.ref f_26) = true)
    (a_27 : PySem.W.nsIn K mainGlobals "_law_made" = some (some (.ref f_27)))
    (l_27 : K.lookup f_27 = some ⟨oc_27, od_27, .func (PySem.W.fnOf "_law_made" "_law_made" (defArgs s__law_made) (defBody s__law_made) (defScope s__law_made) .none kV_27 dc_27 pm_27 an_27 cd_27 ct_27), sl_27⟩)
    (c_27 : PySem.W.codeIn K cd_27 "_law_made" = true)
    (k_27 : PySem.W.keepIn K (.ref f_27) = true)
    (a_28 : PySem.W.nsIn K mainGlobals "_law_times" = some (some (.ref f_28)))
    (l_28 : K.lookup f_28 = some ⟨oc_28, od_28, .func (PySem.W.fnOf "_law_times" "_law_times" (defArgs s__law_times) (defBody s__law_times) (defScope s__law_times) .none kV_28 dc_28 pm_28 an_28 cd_28 ct_28), sl_28⟩)
    (c_28 : PySem.W.codeIn K cd_28 "_law_times" = true)
    (k_28 : PySem.W.keepIn K (.ref f_28) = true)
    (a_29 : PySem.W.nsIn K mainGlobals "_law_are_weights" = some (some (.ref f_29)))
    (l_29 : K.lookup f_29 = some ⟨oc_29, od_29, .func (PySem.W.fnOf "_law_are_weights" "_law_are_weights" (defArgs s__law_are_weights) (defBody s__law_are_weights) (defScope s__law_are_weights) .none kV_29 dc_29 pm_29 an_29 cd_29 ct_29), sl_29⟩)
    (c_29 : PySem.W.codeIn K cd_29 "_law_are_weights" = true)
    (k_29 : PySem.W.keepIn K (.ref f_29) = true)
    (a_30 : PySem.W.nsIn K mainGlobals "_law_is_beyond" = some (some (.ref f_30)))
    (l_30 : K.lookup f_30 = some ⟨oc_30, od_30, .func (PySem.W.fnOf "_law_is_beyond" "_law_is_beyond" (defArgs s__law_is_beyond) (defBody s__law_is_beyond) (defScope s__law_is_beyond) .none kV_30 dc_30 pm_30 an_30 cd_30 ct_30), sl_30⟩)
    (c_30 : PySem.W.codeIn K cd_30 "_law_is_beyond" = true)
    (k_30 : PySem.W.keepIn K (.ref f_30) = true)
    (a_31 : PySem.W.nsIn K mainGlobals "_law_word" = some (some (.ref f_31)))
    (l_31 : K.lookup f_31 = some ⟨oc_31, od_31, .func (PySem.W.fnOf "_law_word" "_law_word" (defArgs s__law_word) (defBody s__law_word) (defScope s__law_word) .none kV_31 dc_31 pm_31 an_31 cd_31 ct_31), sl_31⟩)
    (c_31 : PySem.W.codeIn K cd_31 "_law_word" = true)
    (k_31 : PySem.W.keepIn K (.ref f_31) = true)
    (a_32 : PySem.W.nsIn K mainGlobals "_law_is_row_paper" = some (some (.ref f_32)))
    (l_32 : K.lookup f_32 = some ⟨oc_32, od_32, .func (PySem.W.fnOf "_law_is_row_paper" "_law_is_row_paper" (defArgs s__law_is_row_paper) (defBody s__law_is_row_paper) (defScope s__law_is_row_paper) .none kV_32 dc_32 pm_32 an_32 cd_32 ct_32), sl_32⟩)
    (c_32 : PySem.W.codeIn K cd_32 "_law_is_row_paper" = true)
    (k_32 : PySem.W.keepIn K (.ref f_32) = true)
    (a_33 : PySem.W.nsIn K mainGlobals "require_from" = some (some (.ref f_33)))
    (l_33 : K.lookup f_33 = some ⟨oc_33, od_33, .func (PySem.W.fnOf "require_from" "require_from" (defArgs s_require_from) (defBody s_require_from) (defScope s_require_from) .none kV_33 dc_33 pm_33 an_33 cd_33 ct_33), sl_33⟩)
    (c_33 : PySem.W.codeIn K cd_33 "require_from" = true)
    (k_33 : PySem.W.keepIn K (.ref f_33) = true)
    (a_34 : PySem.W.nsIn K mainGlobals "require_point" = some (some (.ref f_34)))
    (l_34 : K.lookup f_34 = some ⟨oc_34, od_34, .func (PySem.W.fnOf "require_point" "require_point" (defArgs s_require_point) (defBody s_require_point) (defScope s_require_point) .none kV_34 dc_34 pm_34 an_34 cd_34 ct_34), sl_34⟩)
    (c_34 : PySem.W.codeIn K cd_34 "require_point" = true)
    (k_34 : PySem.W.keepIn K (.ref f_34) = true)
    (a_35 : PySem.W.nsIn K mainGlobals "others_in" = some (some (.ref f_35)))
    (l_35 : K.lookup f_35 = some ⟨oc_35, od_35, .func (PySem.W.fnOf "others_in" "others_in" (defArgs s_others_in) (defBody s_others_in) (defScope s_others_in) .none kV_35 dc_35 pm_35 an_35 cd_35 ct_35), sl_35⟩)
    (c_35 : PySem.W.codeIn K cd_35 "others_in" = true)
    (k_35 : PySem.W.keepIn K (.ref f_35) = true)
    (a_36 : PySem.W.nsIn K mainGlobals "corner_or_weights_in" = some (some (.ref f_36)))
    (l_36 : K.lookup f_36 = some ⟨oc_36, od_36, .func (PySem.W.fnOf "corner_or_weights_in" "corner_or_weights_in" (defArgs s_corner_or_weights_in) (defBody s_corner_or_weights_in) (defScope s_corner_or_weights_in) .none kV_36 dc_36 pm_36 an_36 cd_36 ct_36), sl_36⟩)
    (c_36 : PySem.W.codeIn K cd_36 "corner_or_weights_in" = true)
    (k_36 : PySem.W.keepIn K (.ref f_36) = true)
    (a_37 : PySem.W.nsIn K mainGlobals "corner_or_weights" = some (some (.ref f_37)))
    (l_37 : K.lookup f_37 = some ⟨oc_37, od_37, .func (PySem.W.fnOf "corner_or_weights" "corner_or_weights" (defArgs s_corner_or_weights) (defBody s_corner_or_weights) (defScope s_corner_or_weights) .none kV_37 dc_37 pm_37 an_37 cd_37 ct_37), sl_37⟩)
    (c_37 : PySem.W.codeIn K cd_37 "corner_or_weights" = true)
    (k_37 : PySem.W.keepIn K (.ref f_37) = true)
    (a_38 : PySem.W.nsIn K mainGlobals "is_corner_or_weights" = some (some (.ref f_38)))
    (l_38 : K.lookup f_38 = some ⟨oc_38, od_38, .func (PySem.W.fnOf "is_corner_or_weights" "is_corner_or_weights" (defArgs s_is_corner_or_weights) (defBody s_is_corner_or_weights) (defScope s_is_corner_or_weights) .none kV_38 dc_38 pm_38 an_38 cd_38 ct_38), sl_38⟩)
    (c_38 : PySem.W.codeIn K cd_38 "is_corner_or_weights" = true)
    (k_38 : PySem.W.keepIn K (.ref f_38) = true)
    (a_39 : PySem.W.nsIn K mainGlobals "_law_is_point_paper" = some (some (.ref f_39)))
    (l_39 : K.lookup f_39 = some ⟨oc_39, od_39, .func (PySem.W.fnOf "_law_is_point_paper" "_law_is_point_paper" (defArgs s__law_is_point_paper) (defBody s__law_is_point_paper) (defScope s__law_is_point_paper) .none kV_39 dc_39 pm_39 an_39 cd_39 ct_39), sl_39⟩)
    (c_39 : PySem.W.codeIn K cd_39 "_law_is_point_paper" = true)
    (k_39 : PySem.W.keepIn K (.ref f_39) = true)
    (a_40 : PySem.W.nsIn K mainGlobals "_law_bent" = some (some (.ref f_40)))
    (l_40 : K.lookup f_40 = some ⟨oc_40, od_40, .func (PySem.W.fnOf "_law_bent" "_law_bent" (defArgs s__law_bent) (defBody s__law_bent) (defScope s__law_bent) .none kV_40 dc_40 pm_40 an_40 cd_40 ct_40), sl_40⟩)
    (c_40 : PySem.W.codeIn K cd_40 "_law_bent" = true)
    (k_40 : PySem.W.keepIn K (.ref f_40) = true)
    (a_41 : PySem.W.nsIn K mainGlobals "_law_near" = some (some (.ref f_41)))
    (l_41 : K.lookup f_41 = some ⟨oc_41, od_41, .func (PySem.W.fnOf "_law_near" "_law_near" (defArgs s__law_near) (defBody s__law_near) (defScope s__law_near) .none kV_41 dc_41 pm_41 an_41 cd_41 ct_41), sl_41⟩)
    (c_41 : PySem.W.codeIn K cd_41 "_law_near" = true)
    (k_41 : PySem.W.keepIn K (.ref f_41) = true)
    (a_42 : PySem.W.nsIn K mainGlobals "_law_right" = some (some (.ref f_42)))
    (l_42 : K.lookup f_42 = some ⟨oc_42, od_42, .func (PySem.W.fnOf "_law_right" "_law_right" (defArgs s__law_right) (defBody s__law_right) (defScope s__law_right) .none kV_42 dc_42 pm_42 an_42 cd_42 ct_42), sl_42⟩)
    (c_42 : PySem.W.codeIn K cd_42 "_law_right" = true)
    (k_42 : PySem.W.keepIn K (.ref f_42) = true)
    (a_43 : PySem.W.nsIn K mainGlobals "law" = some (some (.ref f_43)))
    (l_43 : K.lookup f_43 = some ⟨oc_43, od_43, .func (PySem.W.fnOf "law" "law" (defArgs s_law) (defBody s_law) (defScope s_law) .none kV_43 dc_43 pm_43 an_43 cd_43 ct_43), sl_43⟩)
    (c_43 : PySem.W.codeIn K cd_43 "law" = true)
    (k_43 : PySem.W.keepIn K (.ref f_43) = true)
    (aC : PySem.W.nsIn K mainGlobals "Tableau" = some (some (.ref C)))
    (pg : PySem.W.plainGet K C Str.empty = true)
    (ic : PySem.W.isClsIn K C = true)
    (po : PySem.W.plainOver K C = true)
    (sa : PySem.W.findIn K (.ref C) "__setattr__" = some (some (.builtin "object.__setattr__")))
    (mk : PySem.W.makesIn K C = true)
    (kc : PySem.W.keepIn K (.ref C) = true)
    (sa_own_bottom : PySem.W.findIn K (.ref C) "own_bottom" = some (some (.ref p_own_bottom)))
    (sg_own_bottom : PySem.W.specialIn K (.ref p_own_bottom) "__get__" = some (some (.builtin "member_descriptor.__get__")))
    (st_own_bottom : PySem.W.takesIn K (.ref p_own_bottom) = some true)
    (sy_own_bottom : PySem.W.typeIn K (.ref p_own_bottom) = some (.type "member_descriptor"))
    (si_own_bottom : PySem.W.slotIn K p_own_bottom C = some 0)
    (sa_own_costs : PySem.W.findIn K (.ref C) "own_costs" = some (some (.ref p_own_costs)))
    (sg_own_costs : PySem.W.specialIn K (.ref p_own_costs) "__get__" = some (some (.builtin "member_descriptor.__get__")))
    (st_own_costs : PySem.W.takesIn K (.ref p_own_costs) = some true)
    (sy_own_costs : PySem.W.typeIn K (.ref p_own_costs) = some (.type "member_descriptor"))
    (si_own_costs : PySem.W.slotIn K p_own_costs C = some 1)
    (sa_own_held : PySem.W.findIn K (.ref C) "own_held" = some (some (.ref p_own_held)))
    (sg_own_held : PySem.W.specialIn K (.ref p_own_held) "__get__" = some (some (.builtin "member_descriptor.__get__")))
    (st_own_held : PySem.W.takesIn K (.ref p_own_held) = some true)
    (sy_own_held : PySem.W.typeIn K (.ref p_own_held) = some (.type "member_descriptor"))
    (si_own_held : PySem.W.slotIn K p_own_held C = some 2)
    (sa_own_many : PySem.W.findIn K (.ref C) "own_many" = some (some (.ref p_own_many)))
    (sg_own_many : PySem.W.specialIn K (.ref p_own_many) "__get__" = some (some (.builtin "member_descriptor.__get__")))
    (st_own_many : PySem.W.takesIn K (.ref p_own_many) = some true)
    (sy_own_many : PySem.W.typeIn K (.ref p_own_many) = some (.type "member_descriptor"))
    (si_own_many : PySem.W.slotIn K p_own_many C = some 3)
    (sa_own_rows : PySem.W.findIn K (.ref C) "own_rows" = some (some (.ref p_own_rows)))
    (sg_own_rows : PySem.W.specialIn K (.ref p_own_rows) "__get__" = some (some (.builtin "member_descriptor.__get__")))
    (st_own_rows : PySem.W.takesIn K (.ref p_own_rows) = some true)
    (sy_own_rows : PySem.W.typeIn K (.ref p_own_rows) = some (.type "member_descriptor"))
    (si_own_rows : PySem.W.slotIn K p_own_rows C = some 4)
    (ma_mcolumn : PySem.W.findIn K (.ref C) "column" = some (some (.ref f_mcolumn)))
    (mi_mcolumn : PySem.W.isFn K (.ref f_mcolumn) = true)
    (l_mcolumn : K.lookup f_mcolumn = some ⟨oc_mcolumn, od_mcolumn, .func (PySem.W.fnOf "column" "Tableau.column" (defArgs s_Tableau_column) (defBody s_Tableau_column) (defScope s_Tableau_column) .none kV_mcolumn dc_mcolumn pm_mcolumn an_mcolumn cd_mcolumn ct_mcolumn), sl_mcolumn⟩)
    (c_mcolumn : PySem.W.codeIn K cd_mcolumn "Tableau.column" = true)
    (mk_mcolumn : PySem.W.keepIn K (.ref f_mcolumn) = true)
    (ma_mis_ahead : PySem.W.findIn K (.ref C) "is_ahead" = some (some (.ref f_mis_ahead)))
    (mi_mis_ahead : PySem.W.isFn K (.ref f_mis_ahead) = true)
    (l_mis_ahead : K.lookup f_mis_ahead = some ⟨oc_mis_ahead, od_mis_ahead, .func (PySem.W.fnOf "is_ahead" "Tableau.is_ahead" (defArgs s_Tableau_is_ahead) (defBody s_Tableau_is_ahead) (defScope s_Tableau_is_ahead) .none kV_mis_ahead dc_mis_ahead pm_mis_ahead an_mis_ahead cd_mis_ahead ct_mis_ahead), sl_mis_ahead⟩)
    (c_mis_ahead : PySem.W.codeIn K cd_mis_ahead "Tableau.is_ahead" = true)
    (mk_mis_ahead : PySem.W.keepIn K (.ref f_mis_ahead) = true)
    (ma_mrow : PySem.W.findIn K (.ref C) "row" = some (some (.ref f_mrow)))
    (mi_mrow : PySem.W.isFn K (.ref f_mrow) = true)
    (l_mrow : K.lookup f_mrow = some ⟨oc_mrow, od_mrow, .func (PySem.W.fnOf "row" "Tableau.row" (defArgs s_Tableau_row) (defBody s_Tableau_row) (defScope s_Tableau_row) .none kV_mrow dc_mrow pm_mrow an_mrow cd_mrow ct_mrow), sl_mrow⟩)
    (c_mrow : PySem.W.codeIn K cd_mrow "Tableau.row" = true)
    (mk_mrow : PySem.W.keepIn K (.ref f_mrow) = true)
    (ma_mturned : PySem.W.findIn K (.ref C) "turned" = some (some (.ref f_mturned)))
    (mi_mturned : PySem.W.isFn K (.ref f_mturned) = true)
    (l_mturned : K.lookup f_mturned = some ⟨oc_mturned, od_mturned, .func (PySem.W.fnOf "turned" "Tableau.turned" (defArgs s_Tableau_turned) (defBody s_Tableau_turned) (defScope s_Tableau_turned) .none kV_mturned dc_mturned pm_mturned an_mturned cd_mturned ct_mturned), sl_mturned⟩)
    (c_mturned : PySem.W.codeIn K cd_mturned "Tableau.turned" = true)
    (mk_mturned : PySem.W.keepIn K (.ref f_mturned) = true)
    (ma_mpivot : PySem.W.findIn K (.ref C) "pivot" = some (some (.ref f_mpivot)))
    (mi_mpivot : PySem.W.isFn K (.ref f_mpivot) = true)
    (l_mpivot : K.lookup f_mpivot = some ⟨oc_mpivot, od_mpivot, .func (PySem.W.fnOf "pivot" "Tableau.pivot" (defArgs s_Tableau_pivot) (defBody s_Tableau_pivot) (defScope s_Tableau_pivot) .none kV_mpivot dc_mpivot pm_mpivot an_mpivot cd_mpivot ct_mpivot), sl_mpivot⟩)
    (c_mpivot : PySem.W.codeIn K cd_mpivot "Tableau.pivot" = true)
    (mk_mpivot : PySem.W.keepIn K (.ref f_mpivot) = true)
    (ma_mwork : PySem.W.findIn K (.ref C) "work" = some (some (.ref f_mwork)))
    (mi_mwork : PySem.W.isFn K (.ref f_mwork) = true)
    (l_mwork : K.lookup f_mwork = some ⟨oc_mwork, od_mwork, .func (PySem.W.fnOf "work" "Tableau.work" (defArgs s_Tableau_work) (defBody s_Tableau_work) (defScope s_Tableau_work) .none kV_mwork dc_mwork pm_mwork an_mwork cd_mwork ct_mwork), sl_mwork⟩)
    (c_mwork : PySem.W.codeIn K cd_mwork "Tableau.work" = true)
    (mk_mwork : PySem.W.keepIn K (.ref f_mwork) = true)
    (ma_minit : PySem.W.findIn K (.ref C) "__init__" = some (some (.ref f_minit)))
    (mi_minit : PySem.W.isFn K (.ref f_minit) = true)
    (l_minit : K.lookup f_minit = some ⟨oc_minit, od_minit, .func (PySem.W.fnOf "__init__" "Tableau.__init__" (defArgs s_Tableau___init__) (defBody s_Tableau___init__) (defScope s_Tableau___init__) .none kV_minit dc_minit pm_minit an_minit cd_minit ct_minit), sl_minit⟩)
    (c_minit : PySem.W.codeIn K cd_minit "Tableau.__init__" = true)
    (mk_minit : PySem.W.keepIn K (.ref f_minit) = true)
    (z_isinstance : PySem.W.nsIn K mainGlobals "isinstance" = some none)
    (z_int : PySem.W.nsIn K mainGlobals "int" = some none)
    (z_bool : PySem.W.nsIn K mainGlobals "bool" = some none)
    (z_str : PySem.W.nsIn K mainGlobals "str" = some none)
    (z_tuple : PySem.W.nsIn K mainGlobals "tuple" = some none)
    (z_len : PySem.W.nsIn K mainGlobals "len" = some none)
    (z_all : PySem.W.nsIn K mainGlobals "all" = some none)
    (z_any : PySem.W.nsIn K mainGlobals "any" = some none)
    (z_sum : PySem.W.nsIn K mainGlobals "sum" = some none)
    (z_zip : PySem.W.nsIn K mainGlobals "zip" = some none)
    (z_range : PySem.W.nsIn K mainGlobals "range" = some none)
    (z_max : PySem.W.nsIn K mainGlobals "max" = some none)
    (z_min : PySem.W.nsIn K mainGlobals "min" = some none)
    (z_abs : PySem.W.nsIn K mainGlobals "abs" = some none)
    (z_enumerate : PySem.W.nsIn K mainGlobals "enumerate" = some none)
    (z_sorted : PySem.W.nsIn K mainGlobals "sorted" = some none)
    (z_list : PySem.W.nsIn K mainGlobals "list" = some none)
    (x_MOST_POINTS : ∃ t, PySem.W.nsIn K mainGlobals "MOST_POINTS" = some (some (.int 400 t)))
    (x_MOST_LENGTH : ∃ t, PySem.W.nsIn K mainGlobals "MOST_LENGTH" = some (some (.int 8 t)))
    (x_PAIR : ∃ t, PySem.W.nsIn K mainGlobals "PAIR" = some (some (.int 2 t)))
    (x_TRIPLE : ∃ t, PySem.W.nsIn K mainGlobals "TRIPLE" = some (some (.int 3 t)))
    (x_INSIDE : ∃ t, PySem.W.nsIn K mainGlobals "INSIDE" = some (some (.str "inside" t)))
    (x_BEYOND : ∃ t, PySem.W.nsIn K mainGlobals "BEYOND" = some (some (.str "beyond" t)))
    (x_CORNER : ∃ t, PySem.W.nsIn K mainGlobals "CORNER" = some (some (.str "corner" t)))
    (x_WEIGHTS : ∃ t, PySem.W.nsIn K mainGlobals "WEIGHTS" = some (some (.str "weights" t))) :
    ∃ fd : FuncData, (∀ (s : Shared) (v : Value), BindsTo s fd ⟨[v], []⟩ [("_law_script", v)]) ∧ ∀ base : Heap, K.In base → base.Ns mainGlobals mg → FnOk l.prog w K mg base CX0 57 fa fd ["_law_script"] (spOf K d_law) := by
  have e := hfa.symm.trans (PySem.W.mg_of X G a_43)
  cases e
  have cl : SCls K C := ⟨pg, ic, po, sa⟩
  have T0 : Txt K mg C := { mgC := PySem.W.mg_of X G aC, cls := cl, sx_own_bottom := ⟨p_own_bottom, sa_own_bottom, sg_own_bottom, st_own_bottom, sy_own_bottom, si_own_bottom, by decide⟩, sx_own_costs := ⟨p_own_costs, sa_own_costs, sg_own_costs, st_own_costs, sy_own_costs, si_own_costs, by decide⟩, sx_own_held := ⟨p_own_held, sa_own_held, sg_own_held, st_own_held, sy_own_held, si_own_held, by decide⟩, sx_own_many := ⟨p_own_many, sa_own_many, sg_own_many, st_own_many, sy_own_many, si_own_many, by decide⟩, sx_own_rows := ⟨p_own_rows, sa_own_rows, sg_own_rows, st_own_rows, sy_own_rows, si_own_rows, by decide⟩, b_isinstance := PySem.W.mg_none_of X G z_isinstance, b_int := PySem.W.mg_none_of X G z_int, b_bool := PySem.W.mg_none_of X G z_bool, b_str := PySem.W.mg_none_of X G z_str, b_tuple := PySem.W.mg_none_of X G z_tuple, b_len := PySem.W.mg_none_of X G z_len, b_all := PySem.W.mg_none_of X G z_all, b_any := PySem.W.mg_none_of X G z_any, b_sum := PySem.W.mg_none_of X G z_sum, b_zip := PySem.W.mg_none_of X G z_zip, b_range := PySem.W.mg_none_of X G z_range, b_max := PySem.W.mg_none_of X G z_max, b_min := PySem.W.mg_none_of X G z_min, b_abs := PySem.W.mg_none_of X G z_abs, b_enumerate := PySem.W.mg_none_of X G z_enumerate, b_sorted := PySem.W.mg_none_of X G z_sorted, b_list := PySem.W.mg_none_of X G z_list, c_SIXTY := hx_SIXTY, c_MOST_POINTS := let ⟨t, e⟩ := x_MOST_POINTS; ⟨t, PySem.W.mg_of X G e⟩, c_MOST_LENGTH := let ⟨t, e⟩ := x_MOST_LENGTH; ⟨t, PySem.W.mg_of X G e⟩, c_PAIR := let ⟨t, e⟩ := x_PAIR; ⟨t, PySem.W.mg_of X G e⟩, c_TRIPLE := let ⟨t, e⟩ := x_TRIPLE; ⟨t, PySem.W.mg_of X G e⟩, c_INSIDE := let ⟨t, e⟩ := x_INSIDE; ⟨t, PySem.W.mg_of X G e⟩, c_BEYOND := let ⟨t, e⟩ := x_BEYOND; ⟨t, PySem.W.mg_of X G e⟩, c_CORNER := let ⟨t, e⟩ := x_CORNER; ⟨t, PySem.W.mg_of X G e⟩, c_WEIGHTS := let ⟨t, e⟩ := x_WEIGHTS; ⟨t, PySem.W.mg_of X G e⟩ }
  have A0 : At K mg "is_whole" s_is_whole := ⟨f_0, _, fun_mk (st := s_is_whole) l_0 c_0 k_0, PySem.W.mg_of X G a_0, k_0⟩
  have A1 : At K mg "is_short" s_is_short := ⟨f_1, _, fun_mk (st := s_is_short) l_1 c_1 k_1, PySem.W.mg_of X G a_1, k_1⟩
  have A2 : At K mg "are_wholes" s_are_wholes := ⟨f_2, _, fun_mk (st := s_are_wholes) l_2 c_2 k_2, PySem.W.mg_of X G a_2, k_2⟩
  have A3 : At K mg "less_in" s_less_in := ⟨f_3, _, fun_mk (st := s_less_in) l_3 c_3 k_3, PySem.W.mg_of X G a_3, k_3⟩
  have A4 : At K mg "dot_in" s_dot_in := ⟨f_4, _, fun_mk (st := s_dot_in) l_4 c_4 k_4, PySem.W.mg_of X G a_4, k_4⟩
  have A5 : At K mg "made_or_form" s_made_or_form := ⟨f_5, _, fun_mk (st := s_made_or_form) l_5 c_5 k_5, PySem.W.mg_of X G a_5, k_5⟩
  have A6 : At K mg "is_row_in" s_is_row_in := ⟨f_6, _, fun_mk (st := s_is_row_in) l_6 c_6 k_6, PySem.W.mg_of X G a_6, k_6⟩
  have A7 : At K mg "is_lot_in" s_is_lot_in := ⟨f_7, _, fun_mk (st := s_is_lot_in) l_7 c_7 k_7, PySem.W.mg_of X G a_7, k_7⟩
  have A8 : At K mg "is_told" s_is_told := ⟨f_8, _, fun_mk (st := s_is_told) l_8 c_8 k_8, PySem.W.mg_of X G a_8, k_8⟩
  have A9 : At K mg "weights_in" s_weights_in := ⟨f_9, _, fun_mk (st := s_weights_in) l_9 c_9 k_9, PySem.W.mg_of X G a_9, k_9⟩
  have A10 : At K mg "inside_or_beyond_in" s_inside_or_beyond_in := ⟨f_10, _, fun_mk (st := s_inside_or_beyond_in) l_10 c_10 k_10, PySem.W.mg_of X G a_10, k_10⟩
  have A11 : At K mg "are_weights" s_are_weights := ⟨f_11, _, fun_mk (st := s_are_weights) l_11 c_11 k_11, PySem.W.mg_of X G a_11, k_11⟩
  have A12 : At K mg "is_form_beyond" s_is_form_beyond := ⟨f_12, _, fun_mk (st := s_is_form_beyond) l_12 c_12 k_12, PySem.W.mg_of X G a_12, k_12⟩
  have A13 : At K mg "require_row" s_require_row := ⟨f_13, _, fun_mk (st := s_require_row) l_13 c_13 k_13, PySem.W.mg_of X G a_13, k_13⟩
  have A14 : At K mg "require_lot" s_require_lot := ⟨f_14, _, fun_mk (st := s_require_lot) l_14 c_14 k_14, PySem.W.mg_of X G a_14, k_14⟩
  have A15 : At K mg "require_lengths" s_require_lengths := ⟨f_15, _, fun_mk (st := s_require_lengths) l_15 c_15 k_15, PySem.W.mg_of X G a_15, k_15⟩
  have A16 : At K mg "require_lot_and_row" s_require_lot_and_row := ⟨f_16, _, fun_mk (st := s_require_lot_and_row) l_16 c_16 k_16, PySem.W.mg_of X G a_16, k_16⟩
  have A17 : At K mg "inside_or_beyond" s_inside_or_beyond := ⟨f_17, _, fun_mk (st := s_inside_or_beyond) l_17 c_17 k_17, PySem.W.mg_of X G a_17, k_17⟩
  have A18 : At K mg "is_inside_or_beyond" s_is_inside_or_beyond := ⟨f_18, _, fun_mk (st := s_is_inside_or_beyond) l_18 c_18 k_18, PySem.W.mg_of X G a_18, k_18⟩
  have A19 : At K mg "_law_vat" s__law_vat := ⟨f_19, _, fun_mk (st := s__law_vat) l_19 c_19 k_19, PySem.W.mg_of X G a_19, k_19⟩
  have A20 : At K mg "_law_draw" s__law_draw := ⟨f_20, _, fun_mk (st := s__law_draw) l_20 c_20 k_20, PySem.W.mg_of X G a_20, k_20⟩
  have A21 : At K mg "_law_pick" s__law_pick := ⟨f_21, _, fun_mk (st := s__law_pick) l_21 c_21 k_21, PySem.W.mg_of X G a_21, k_21⟩
  have A22 : At K mg "_law_lot" s__law_lot := ⟨f_22, _, fun_mk (st := s__law_lot) l_22 c_22 k_22, PySem.W.mg_of X G a_22, k_22⟩
  have A23 : At K mg "_law_row" s__law_row := ⟨f_23, _, fun_mk (st := s__law_row) l_23 c_23 k_23, PySem.W.mg_of X G a_23, k_23⟩
  have A24 : At K mg "_law_dot" s__law_dot := ⟨f_24, _, fun_mk (st := s__law_dot) l_24 c_24 k_24, PySem.W.mg_of X G a_24, k_24⟩
  have A25 : At K mg "is_from" s_is_from := ⟨f_25, _, fun_mk (st := s_is_from) l_25 c_25 k_25, PySem.W.mg_of X G a_25, k_25⟩
  have A26 : At K mg "_law_are_whole" s__law_are_whole := ⟨f_26, _, fun_mk (st := s__law_are_whole) l_26 c_26 k_26, PySem.W.mg_of X G a_26, k_26⟩
  have A27 : At K mg "_law_made" s__law_made := ⟨f_27, _, fun_mk (st := s__law_made) l_27 c_27 k_27, PySem.W.mg_of X G a_27, k_27⟩
  have A28 : At K mg "_law_times" s__law_times := ⟨f_28, _, fun_mk (st := s__law_times) l_28 c_28 k_28, PySem.W.mg_of X G a_28, k_28⟩
  have A29 : At K mg "_law_are_weights" s__law_are_weights := ⟨f_29, _, fun_mk (st := s__law_are_weights) l_29 c_29 k_29, PySem.W.mg_of X G a_29, k_29⟩
  have A30 : At K mg "_law_is_beyond" s__law_is_beyond := ⟨f_30, _, fun_mk (st := s__law_is_beyond) l_30 c_30 k_30, PySem.W.mg_of X G a_30, k_30⟩
  have A31 : At K mg "_law_word" s__law_word := ⟨f_31, _, fun_mk (st := s__law_word) l_31 c_31 k_31, PySem.W.mg_of X G a_31, k_31⟩
  have A32 : At K mg "_law_is_row_paper" s__law_is_row_paper := ⟨f_32, _, fun_mk (st := s__law_is_row_paper) l_32 c_32 k_32, PySem.W.mg_of X G a_32, k_32⟩
  have A33 : At K mg "require_from" s_require_from := ⟨f_33, _, fun_mk (st := s_require_from) l_33 c_33 k_33, PySem.W.mg_of X G a_33, k_33⟩
  have A34 : At K mg "require_point" s_require_point := ⟨f_34, _, fun_mk (st := s_require_point) l_34 c_34 k_34, PySem.W.mg_of X G a_34, k_34⟩
  have A35 : At K mg "others_in" s_others_in := ⟨f_35, _, fun_mk (st := s_others_in) l_35 c_35 k_35, PySem.W.mg_of X G a_35, k_35⟩
  have A36 : At K mg "corner_or_weights_in" s_corner_or_weights_in := ⟨f_36, _, fun_mk (st := s_corner_or_weights_in) l_36 c_36 k_36, PySem.W.mg_of X G a_36, k_36⟩
  have A37 : At K mg "corner_or_weights" s_corner_or_weights := ⟨f_37, _, fun_mk (st := s_corner_or_weights) l_37 c_37 k_37, PySem.W.mg_of X G a_37, k_37⟩
  have A38 : At K mg "is_corner_or_weights" s_is_corner_or_weights := ⟨f_38, _, fun_mk (st := s_is_corner_or_weights) l_38 c_38 k_38, PySem.W.mg_of X G a_38, k_38⟩
  have A39 : At K mg "_law_is_point_paper" s__law_is_point_paper := ⟨f_39, _, fun_mk (st := s__law_is_point_paper) l_39 c_39 k_39, PySem.W.mg_of X G a_39, k_39⟩
  have A40 : At K mg "_law_bent" s__law_bent := ⟨f_40, _, fun_mk (st := s__law_bent) l_40 c_40 k_40, PySem.W.mg_of X G a_40, k_40⟩
  have A41 : At K mg "_law_near" s__law_near := ⟨f_41, _, fun_mk (st := s__law_near) l_41 c_41 k_41, PySem.W.mg_of X G a_41, k_41⟩
  have A42 : At K mg "_law_right" s__law_right := ⟨f_42, _, fun_mk (st := s__law_right) l_42 c_42 k_42, PySem.W.mg_of X G a_42, k_42⟩
  have M_mcolumn : AtM K C "column" "Tableau.column" s_Tableau_column := ⟨f_mcolumn, _, ⟨ma_mcolumn, mi_mcolumn, mk_mcolumn⟩, fun_mk (st := s_Tableau_column) l_mcolumn c_mcolumn mk_mcolumn⟩
  have M_mis_ahead : AtM K C "is_ahead" "Tableau.is_ahead" s_Tableau_is_ahead := ⟨f_mis_ahead, _, ⟨ma_mis_ahead, mi_mis_ahead, mk_mis_ahead⟩, fun_mk (st := s_Tableau_is_ahead) l_mis_ahead c_mis_ahead mk_mis_ahead⟩
  have M_mrow : AtM K C "row" "Tableau.row" s_Tableau_row := ⟨f_mrow, _, ⟨ma_mrow, mi_mrow, mk_mrow⟩, fun_mk (st := s_Tableau_row) l_mrow c_mrow mk_mrow⟩
  have M_mturned : AtM K C "turned" "Tableau.turned" s_Tableau_turned := ⟨f_mturned, _, ⟨ma_mturned, mi_mturned, mk_mturned⟩, fun_mk (st := s_Tableau_turned) l_mturned c_mturned mk_mturned⟩
  have M_mpivot : AtM K C "pivot" "Tableau.pivot" s_Tableau_pivot := ⟨f_mpivot, _, ⟨ma_mpivot, mi_mpivot, mk_mpivot⟩, fun_mk (st := s_Tableau_pivot) l_mpivot c_mpivot mk_mpivot⟩
  have M_mwork : AtM K C "work" "Tableau.work" s_Tableau_work := ⟨f_mwork, _, ⟨ma_mwork, mi_mwork, mk_mwork⟩, fun_mk (st := s_Tableau_work) l_mwork c_mwork mk_mwork⟩
  have MK0 : Mk K C f_minit := ⟨mk, ma_minit, mi_minit, kc⟩
  have FI0 := fun_mk (st := s_Tableau___init__) l_minit c_minit mk_minit
  have FL := fun_mk (st := s_law) l_43 c_43 k_43
  refine ⟨PySem.W.fnOf "law" "law" (defArgs s_law) (defBody s_law) (defScope s_law) .none kV_43 dc_43 pm_43 an_43 cd_43 ct_43, fun s v => .of_eq rfl, fun base _ _ => ?_⟩
  have Q_column := ok_column (P := l.prog) (w := w) (base := base) M_mcolumn T0
  have Q_is_ahead := ok_is_ahead (P := l.prog) (w := w) (base := base) M_mis_ahead T0
  have Q_row := ok_row (P := l.prog) (w := w) (base := base) M_mrow Q_is_ahead T0
  have Q_turned := ok_turned (P := l.prog) (w := w) (base := base) M_mturned T0
  have Q_pivot := ok_pivot (P := l.prog) (w := w) (base := base) M_mpivot Q_turned T0
  have Q_work := ok_work (P := l.prog) (w := w) (base := base) M_mwork Q_column Q_row Q_pivot T0
  have M_N := ok_init (P := l.prog) (w := w) (base := base) MK0 FI0 T0
  have F_is_whole := ok_is_whole (P := l.prog) (w := w) (base := base) A0 T0
  have F_is_short := ok_is_short (P := l.prog) (w := w) (base := base) A1 F_is_whole T0
  have F_are_wholes := ok_are_wholes (P := l.prog) (w := w) (base := base) A2 F_is_whole T0
  have F_less_in := ok_less_in (P := l.prog) (w := w) (base := base) A3 T0
  have F_dot_in := ok_dot_in (P := l.prog) (w := w) (base := base) A4 T0
  have F_made_or_form := ok_made_or_form (P := l.prog) (w := w) (base := base) A5 M_N Q_work T0
  have F_is_row_in := ok_is_row_in (P := l.prog) (w := w) (base := base) A6 F_is_short T0
  have F_is_lot_in := ok_is_lot_in (P := l.prog) (w := w) (base := base) A7 F_is_row_in T0
  have F_is_told := ok_is_told (P := l.prog) (w := w) (base := base) A8 T0
  have F_weights_in := ok_weights_in (P := l.prog) (w := w) (base := base) A9 F_less_in F_made_or_form T0
  have F_inside_or_beyond_in := ok_inside_or_beyond_in (P := l.prog) (w := w) (base := base) A10 F_weights_in T0
  have F_are_weights := ok_are_weights (P := l.prog) (w := w) (base := base) A11 F_is_whole F_are_wholes T0
  have F_is_form_beyond := ok_is_form_beyond (P := l.prog) (w := w) (base := base) A12 F_are_wholes F_dot_in T0
  have F_require_row := ok_require_row (P := l.prog) (w := w) (base := base) A13 F_is_row_in T0
  have F_require_lot := ok_require_lot (P := l.prog) (w := w) (base := base) A14 F_is_lot_in T0
  have F_require_lengths := ok_require_lengths (P := l.prog) (w := w) (base := base) A15 T0
  have F_require_lot_and_row := ok_require_lot_and_row (P := l.prog) (w := w) (base := base) A16 F_require_lot F_require_row F_require_lengths T0
  have F_inside_or_beyond := ok_inside_or_beyond (P := l.prog) (w := w) (base := base) A17 F_require_lot_and_row F_inside_or_beyond_in T0
  have F_is_inside_or_beyond := ok_is_inside_or_beyond (P := l.prog) (w := w) (base := base) A18 F_require_lot_and_row F_is_told F_is_form_beyond F_are_weights T0
  have F__law_vat := ok__law_vat (P := l.prog) (w := w) (base := base) A19 T0
  have F__law_draw := ok__law_draw (P := l.prog) (w := w) (base := base) A20 T0
  have F__law_pick := ok__law_pick (P := l.prog) (w := w) (base := base) A21 F__law_draw T0
  have F__law_lot := ok__law_lot (P := l.prog) (w := w) (base := base) A22 F__law_draw T0
  have F__law_row := ok__law_row (P := l.prog) (w := w) (base := base) A23 F__law_draw T0
  have F__law_dot := ok__law_dot (P := l.prog) (w := w) (base := base) A24 T0
  have F_is_from := ok_is_from (P := l.prog) (w := w) (base := base) A25 F_is_whole T0
  have F__law_are_whole := ok__law_are_whole (P := l.prog) (w := w) (base := base) A26 T0
  have F__law_made := ok__law_made (P := l.prog) (w := w) (base := base) A27 T0
  have F__law_times := ok__law_times (P := l.prog) (w := w) (base := base) A28 T0
  have F__law_are_weights := ok__law_are_weights (P := l.prog) (w := w) (base := base) A29 F__law_are_whole F__law_made F__law_times T0
  have F__law_is_beyond := ok__law_is_beyond (P := l.prog) (w := w) (base := base) A30 F__law_are_whole F__law_dot T0
  have F__law_word := ok__law_word (P := l.prog) (w := w) (base := base) A31 T0
  have F__law_is_row_paper := ok__law_is_row_paper (P := l.prog) (w := w) (base := base) A32 F__law_word F__law_is_beyond F__law_are_weights T0
  have F_require_from := ok_require_from (P := l.prog) (w := w) (base := base) A33 F_is_from T0
  have F_require_point := ok_require_point (P := l.prog) (w := w) (base := base) A34 F_require_lot F_require_from T0
  have F_others_in := ok_others_in (P := l.prog) (w := w) (base := base) A35 T0
  have F_corner_or_weights_in := ok_corner_or_weights_in (P := l.prog) (w := w) (base := base) A36 F_weights_in F_others_in T0
  have F_corner_or_weights := ok_corner_or_weights (P := l.prog) (w := w) (base := base) A37 F_require_point F_corner_or_weights_in T0
  have F_is_corner_or_weights := ok_is_corner_or_weights (P := l.prog) (w := w) (base := base) A38 F_require_point F_is_told F_is_form_beyond F_others_in F_are_weights T0
  have F__law_is_point_paper := ok__law_is_point_paper (P := l.prog) (w := w) (base := base) A39 F__law_word F__law_is_beyond F__law_are_weights T0
  have F__law_bent := ok__law_bent (P := l.prog) (w := w) (base := base) A40 F__law_pick F__law_draw T0 3
  have F__law_near := ok__law_near (P := l.prog) (w := w) (base := base) A41 F__law_times F__law_bent T0
  have F__law_right := ok__law_right (P := l.prog) (w := w) (base := base) A42 F__law_pick F__law_lot F__law_draw F__law_row F__law_near F_corner_or_weights F_is_corner_or_weights F__law_is_point_paper F_inside_or_beyond F_is_inside_or_beyond F__law_is_row_paper T0
  exact ok_law FL F__law_vat F__law_right F_is_corner_or_weights T0
theorem sp_law {K : PySem.W.Frag} {H : Hp} {a : Addr} {ns : List Int} (hl : ns.length ≤ 63) (hS : SqL K H a (ns.map V.int)) : spOf K d_law [.ref a] H (fun v _ => v = .bl true) fun _ _ _ => False :=
  ⟨[.scr ns], fun _ => none, H, fun d _ => d = .bl true, ⟨fun _ _ e => e, fun _ _ e => (by cases e)⟩, .cons (.scr hS) .nil, ⟨ns, rfl, hl, rfl⟩, fun v d μ' G' H' hd w g r => by subst hd; cases r; rfl⟩
end K05
open PySem PySem.W PyProof.Rows
set_option maxRecDepth 100000 in
set_option maxHeartbeats 0 in
theorem PySem.Challenge.cw_rampworks_k05_whole_papers_of_corners_ju_holds : PySem.Challenge.rw_rampworks_k05_whole_papers_of_corners_ju.Holds := by
  w_on; o_law; k_head; (case hw => w_witness2)
  k_fill
  refine K05.walk_ofX (l := PySem.Challenge.rw_rampworks_k05_whole_papers_of_corners_ju) (n := 63) (k := 57) (x := "_law_script") (sp := fun w => DL.spOf _ K05.d_law) rfl (by decide) rfl ⟨rfl, by decide, by decide⟩ (fun w h Y => PySem.W.kIn_of Y) ?F (fun w H a ns hl _ hS => K05.sp_law hl hS)
  case F =>
    intro w mg fa h hx KX G hmg
    obtain ⟨h0, hx⟩ := hx
    refine' K05.all_mk KX G hmg (K05.loose_SIXTY hx (by first | exact List.mem_cons_self | exact List.mem_cons_of_mem _ List.mem_cons_self | exact List.mem_cons_of_mem _ (List.mem_cons_of_mem _ List.mem_cons_self))) ?a_0 ?l_0 ?c_0 ?k_0 ?a_1 ?l_1 ?c_1 ?k_1 ?a_2 ?l_2 ?c_2 ?k_2 ?a_3 ?l_3 ?c_3 ?k_3 ?a_4 ?l_4 ?c_4 ?k_4 ?a_5 ?l_5 ?c_5 ?k_5 ?a_6 ?l_6 ?c_6 ?k_6 ?a_7 ?l_7 ?c_7 ?k_7 ?a_8 ?l_8 ?c_8 ?k_8 ?a_9 ?l_9 ?c_9 ?k_9 ?a_10 ?l_10 ?c_10 ?k_10 ?a_11 ?l_11 ?c_11 ?k_11 ?a_12 ?l_12 ?c_12 ?k_12 ?a_13 ?l_13 ?c_13 ?k_13 ?a_14 ?l_14 ?c_14 ?k_14 ?a_15 ?l_15 ?c_15 ?k_15 ?a_16 ?l_16 ?c_16 ?k_16 ?a_17 ?l_17 ?c_17 ?k_17 ?a_18 ?l_18 ?c_18 ?k_18 ?a_19 ?l_19 ?c_19 ?k_19 ?a_20 ?l_20 ?c_20 ?k_20 ?a_21 ?l_21 ?c_21 ?k_21 ?a_22 ?l_22 ?c_22 ?k_22 ?a_23 ?l_23 ?c_23 ?k_23 ?a_24 ?l_24 ?c_24 ?k_24 ?a_25 ?l_25 ?c_25 ?k_25 ?a_26 ?l_26 ?c_26 ?k_26 ?a_27 ?l_27 ?c_27 ?k_27 ?a_28 ?l_28 ?c_28 ?k_28 ?a_29 ?l_29 ?c_29 ?k_29 ?a_30 ?l_30 ?c_30 ?k_30 ?a_31 ?l_31 ?c_31 ?k_31 ?a_32 ?l_32 ?c_32 ?k_32 ?a_33 ?l_33 ?c_33 ?k_33 ?a_34 ?l_34 ?c_34 ?k_34 ?a_35 ?l_35 ?c_35 ?k_35 ?a_36 ?l_36 ?c_36 ?k_36 ?a_37 ?l_37 ?c_37 ?k_37 ?a_38 ?l_38 ?c_38 ?k_38 ?a_39 ?l_39 ?c_39 ?k_39 ?a_40 ?l_40 ?c_40 ?k_40 ?a_41 ?l_41 ?c_41 ?k_41 ?a_42 ?l_42 ?c_42 ?k_42 ?a_43 ?l_43 ?c_43 ?k_43 ?aC ?pg ?ic ?po ?sa ?mk ?kc ?sa_own_bottom ?sg_own_bottom ?st_own_bottom ?sy_own_bottom ?si_own_bottom ?sa_own_costs ?sg_own_costs ?st_own_costs ?sy_own_costs ?si_own_costs ?sa_own_held ?sg_own_held ?st_own_held ?sy_own_held ?si_own_held ?sa_own_many ?sg_own_many ?st_own_many ?sy_own_many ?si_own_many ?sa_own_rows ?sg_own_rows ?st_own_rows ?sy_own_rows ?si_own_rows ?ma_mcolumn ?mi_mcolumn ?l_mcolumn ?c_mcolumn ?mk_mcolumn ?ma_mis_ahead ?mi_mis_ahead ?l_mis_ahead ?c_mis_ahead ?mk_mis_ahead ?ma_mrow ?mi_mrow ?l_mrow ?c_mrow ?mk_mrow ?ma_mturned ?mi_mturned ?l_mturned ?c_mturned ?mk_mturned ?ma_mpivot ?mi_mpivot ?l_mpivot ?c_mpivot ?mk_mpivot ?ma_mwork ?mi_mwork ?l_mwork ?c_mwork ?mk_mwork ?ma_minit ?mi_minit ?l_minit ?c_minit ?mk_minit ?z_isinstance ?z_int ?z_bool ?z_str ?z_tuple ?z_len ?z_all ?z_any ?z_sum ?z_zip ?z_range ?z_max ?z_min ?z_abs ?z_enumerate ?z_sorted ?z_list ?x_MOST_POINTS ?x_MOST_LENGTH ?x_PAIR ?x_TRIPLE ?x_INSIDE ?x_BEYOND ?x_CORNER ?x_WEIGHTS
    (case a_0 => k_is); (case l_0 => k_is); (case c_0 => k_is); (case k_0 => k_is); (case a_1 => k_is); (case l_1 => k_is); (case c_1 => k_is)
    (case k_1 => k_is); (case a_2 => k_is); (case l_2 => k_is); (case c_2 => k_is); (case k_2 => k_is); (case a_3 => k_is); (case l_3 => k_is)
    (case c_3 => k_is); (case k_3 => k_is); (case a_4 => k_is); (case l_4 => k_is); (case c_4 => k_is); (case k_4 => k_is); (case a_5 => k_is)
    (case l_5 => k_is); (case c_5 => k_is); (case k_5 => k_is); (case a_6 => k_is); (case l_6 => k_is); (case c_6 => k_is); (case k_6 => k_is)
    (case a_7 => k_is); (case l_7 => k_is); (case c_7 => k_is); (case k_7 => k_is); (case a_8 => k_is); (case l_8 => k_is); (case c_8 => k_is)
    (case k_8 => k_is); (case a_9 => k_is); (case l_9 => k_is); (case c_9 => k_is); (case k_9 => k_is); (case a_10 => k_is); (case l_10 => k_is)
    (case c_10 => k_is); (case k_10 => k_is); (case a_11 => k_is); (case l_11 => k_is); (case c_11 => k_is); (case k_11 => k_is); (case a_12 => k_is)
    (case l_12 => k_is); (case c_12 => k_is); (case k_12 => k_is); (case a_13 => k_is); (case l_13 => k_is); (case c_13 => k_is); (case k_13 => k_is)
    (case a_14 => k_is); (case l_14 => k_is); (case c_14 => k_is); (case k_14 => k_is); (case a_15 => k_is); (case l_15 => k_is); (case c_15 => k_is)
    (case k_15 => k_is); (case a_16 => k_is); (case l_16 => k_is); (case c_16 => k_is); (case k_16 => k_is); (case a_17 => k_is); (case l_17 => k_is)
    (case c_17 => k_is); (case k_17 => k_is); (case a_18 => k_is); (case l_18 => k_is); (case c_18 => k_is); (case k_18 => k_is); (case a_19 => k_is)
    (case l_19 => k_is); (case c_19 => k_is); (case k_19 => k_is); (case a_20 => k_is); (case l_20 => k_is); (case c_20 => k_is); (case k_20 => k_is)
    (case a_21 => k_is); (case l_21 => k_is); (case c_21 => k_is); (case k_21 => k_is); (case a_22 => k_is); (case l_22 => k_is); (case c_22 => k_is)
    (case k_22 => k_is); (case a_23 => k_is); (case l_23 => k_is); (case c_23 => k_is); (case k_23 => k_is); (case a_24 => k_is); (case l_24 => k_is)
    (case c_24 => k_is); (case k_24 => k_is); (case a_25 => k_is); (case l_25 => k_is); (case c_25 => k_is); (case k_25 => k_is); (case a_26 => k_is)
    (case l_26 => k_is); (case c_26 => k_is); (case k_26 => k_is); (case a_27 => k_is); (case l_27 => k_is); (case c_27 => k_is); (case k_27 => k_is)
    (case a_28 => k_is); (case l_28 => k_is); (case c_28 => k_is); (case k_28 => k_is); (case a_29 => k_is); (case l_29 => k_is); (case c_29 => k_is)
    (case k_29 => k_is); (case a_30 => k_is); (case l_30 => k_is); (case c_30 => k_is); (case k_30 => k_is); (case a_31 => k_is); (case l_31 => k_is)
    (case c_31 => k_is); (case k_31 => k_is); (case a_32 => k_is); (case l_32 => k_is); (case c_32 => k_is); (case k_32 => k_is); (case a_33 => k_is)
    (case l_33 => k_is); (case c_33 => k_is); (case k_33 => k_is); (case a_34 => k_is); (case l_34 => k_is); (case c_34 => k_is); (case k_34 => k_is)
    (case a_35 => k_is); (case l_35 => k_is); (case c_35 => k_is); (case k_35 => k_is); (case a_36 => k_is); (case l_36 => k_is); (case c_36 => k_is)
    (case k_36 => k_is); (case a_37 => k_is); (case l_37 => k_is); (case c_37 => k_is); (case k_37 => k_is); (case a_38 => k_is); (case l_38 => k_is)
    (case c_38 => k_is); (case k_38 => k_is); (case a_39 => k_is); (case l_39 => k_is); (case c_39 => k_is); (case k_39 => k_is); (case a_40 => k_is)
    (case l_40 => k_is); (case c_40 => k_is); (case k_40 => k_is); (case a_41 => k_is); (case l_41 => k_is); (case c_41 => k_is); (case k_41 => k_is)
    (case a_42 => k_is); (case l_42 => k_is); (case c_42 => k_is); (case k_42 => k_is); (case a_43 => k_is); (case l_43 => k_is); (case c_43 => k_is)
    (case k_43 => k_is); (case aC => k_is); (case pg => k_is); (case ic => k_is); (case po => k_is); (case sa => k_is); (case mk => k_is); (case kc => k_is)
    (case sa_own_bottom => k_is); (case sg_own_bottom => k_is); (case st_own_bottom => k_is); (case sy_own_bottom => k_is); (case si_own_bottom => k_is)
    (case sa_own_costs => k_is); (case sg_own_costs => k_is); (case st_own_costs => k_is); (case sy_own_costs => k_is); (case si_own_costs => k_is)
    (case sa_own_held => k_is); (case sg_own_held => k_is); (case st_own_held => k_is); (case sy_own_held => k_is); (case si_own_held => k_is)
    (case sa_own_many => k_is); (case sg_own_many => k_is); (case st_own_many => k_is); (case sy_own_many => k_is); (case si_own_many => k_is)
    (case sa_own_rows => k_is); (case sg_own_rows => k_is); (case st_own_rows => k_is); (case sy_own_rows => k_is); (case si_own_rows => k_is)
    (case ma_mcolumn => k_is); (case mi_mcolumn => k_is); (case l_mcolumn => k_is); (case c_mcolumn => k_is); (case mk_mcolumn => k_is); (case ma_mis_ahead => k_is)
    (case mi_mis_ahead => k_is); (case l_mis_ahead => k_is); (case c_mis_ahead => k_is); (case mk_mis_ahead => k_is); (case ma_mrow => k_is)
    (case mi_mrow => k_is); (case l_mrow => k_is); (case c_mrow => k_is); (case mk_mrow => k_is); (case ma_mturned => k_is); (case mi_mturned => k_is)
    (case l_mturned => k_is); (case c_mturned => k_is); (case mk_mturned => k_is); (case ma_mpivot => k_is); (case mi_mpivot => k_is); (case l_mpivot => k_is)
    (case c_mpivot => k_is); (case mk_mpivot => k_is); (case ma_mwork => k_is); (case mi_mwork => k_is); (case l_mwork => k_is); (case c_mwork => k_is)
    (case mk_mwork => k_is); (case ma_minit => k_is); (case mi_minit => k_is); (case l_minit => k_is); (case c_minit => k_is); (case mk_minit => k_is)
    (case z_isinstance => k_is); (case z_int => k_is); (case z_bool => k_is); (case z_str => k_is); (case z_tuple => k_is); (case z_len => k_is)
    (case z_all => k_is); (case z_any => k_is); (case z_sum => k_is); (case z_zip => k_is); (case z_range => k_is); (case z_max => k_is); (case z_min => k_is)
    (case z_abs => k_is); (case z_enumerate => k_is); (case z_sorted => k_is); (case z_list => k_is); (case x_MOST_POINTS => exact ⟨_, by k_is⟩)
    (case x_MOST_LENGTH => exact ⟨_, by k_is⟩); (case x_PAIR => exact ⟨_, by k_is⟩); (case x_TRIPLE => exact ⟨_, by k_is⟩); (case x_INSIDE => exact ⟨_, by k_is⟩)
    (case x_BEYOND => exact ⟨_, by k_is⟩); (case x_CORNER => exact ⟨_, by k_is⟩); (case x_WEIGHTS => exact ⟨_, by k_is⟩)



