import PyProof.Rows.All
import Wide.All
import OpenK.AllK
import Wide.FinOn
import HandS.ForMost
import HandS.Slots
import HandS.SlotsOwn
import HandS.IsInst
import HandS.TupAny
import HandS.TupMul
import HandS.FStr
import HandS.Wide
import HandS.Zip
import HandS.Walk
import HandS.Lambda
import KE.GoesEnum
import PyProof.InstNe
import PyProof.CallStr
import HandS.Text
import HandS.Star
import HandS.DictComp
import PyProof.DictUpdate
import KE.KDictZip
import HandS.IterVal
import KE.KTupSum
import KE.DataMinMax
import KE.SortData
import HandS.Conv
import KE.KFromBytes
import KE.KExcSuper
import KE.KExcInit
import KE.KSuper
import HandS.Base
import HandS.Call
import HandS.Ends
import HandS.Exc
import HandS.ExcSuper
import HandS.WordsExc
import HandS.RaiseMore
import HandS.ExcField
import PyProof.ReprRoads
import PyProof.CallFns
import HandS.EndTab
import KE.KExcLine
import KE.RegKSuper
import PyProof.StrBlock2
import HandS.TupLe
import PyProof.ExcClass3
import HandS.HotCalls
import HandS.ExcIs
import KE.KExcIs
import PySem.Challenge.RW_rampworks_k00_errors_and_what_they_keep
set_option Elab.async false
set_option linter.all false
set_option maxRecDepth 100000
set_option maxHeartbeats 4000000
/-! DLa: data without heap (D), what stands for it (Rep), readings over data. -/
namespace DL
open PySem PySem.Spec PyProof.Rows L2 SlX

/-- data: own p is a list that is known by its address and may change; obj an instance with slots that does not change any more; scr the law's own list -/
inductive D where
  | non | bl (b : Bool) | int (i : Int) | str (x : Str)
  | tup (ds : List D) | lst (ds : List D) | own (p : Addr) | obj (C : Addr) (ds : List D) | scr (ns : List Int)
  | dk (ks : List Key) (ds : List D) | dt (ks : List (List Key)) (ds : List D)
  /-- an error that an except suite holds: where it stands, its dict, its field's name and value -/
  | err (a dd : Addr) (f : Str) (x : D)
  /-- what the written part holds: data by its value alone -/
  | pd (x : PyData)

abbrev Sl := List (Option D)
/-- what stands in an own cell: a list; a dict, its keys ints and texts; a dict, its keys tuples of such -/
inductive Cnt where
  | l (ds : List D) | k (kvs : List (Key × D)) | t (kvs : List (List Key × D))
  /-- an instance that changes: its address, its class, its slots; one that is just made, and its own dict's place; enumerate(x) that has not begun, and its iterator -/
  | o (a C : Addr) (ds : List (Option D)) | oi (C dx : Addr) | ox (a : Addr) | en (e it : Addr) | ei (it : Addr) (x : D)
  /-- a def's table of the code objects that it made: all of the name q -/
  | tb (q : Str)
def Cnt.plain : Cnt → Bool
  | .l _ => true
  | .k _ => true
  | .t _ => true
  | _ => false
def kindA : D → Bool
  | .tup _ => false
  | _ => true
def objA (c : Bool) (a : Addr) : Obj := if c = true then { cls := .type "list_iterator", data := .fields #[.ref a, .int 0 0] } else { cls := .type "tuple_iterator", data := .fields #[.ref a, .int 0 0] }
def LiO (o : Obj) (it : Addr) : HO := .ext fun h => h.get? it = some o
def EnO (e it : Addr) : HO := .ext fun h => IsEnum h e it 0 .none
instance : Coe (List D) Cnt := ⟨.l⟩
abbrev Mu := Addr → Option Cnt
def muSet (μ : Mu) (p : Addr) (ds : Cnt) : Mu := fun q => if q = p then some ds else μ q
def muDel (μ : Mu) (p : Addr) : Mu := fun q => if q = p then none else μ q
theorem muSet_same {μ : Mu} {p : Addr} {ds : Cnt} : muSet μ p ds p = some ds := by unfold muSet; rw [if_pos rfl]
theorem muSet_ne {μ : Mu} {p q : Addr} {ds : Cnt} (h : q ≠ p) : muSet μ p ds q = μ q := by unfold muSet; rw [if_neg h]
theorem muDel_same {μ : Mu} {p : Addr} : muDel μ p p = none := by unfold muDel; rw [if_pos rfl]
theorem muDel_ne {μ : Mu} {p q : Addr} (h : q ≠ p) : muDel μ p q = μ q := by unfold muDel; rw [if_neg h]
theorem muSet_set {μ : Mu} {p : Addr} {a b : Cnt} : muSet (muSet μ p a) p b = muSet μ p b := by
  funext q; unfold muSet; split <;> rfl
theorem muDel_set {μ : Mu} {p : Addr} {a : Cnt} : muDel (muSet μ p a) p = muDel μ p := by
  funext q; unfold muSet muDel
  by_cases h : q = p
  · rw [if_pos h, if_pos h]
  · rw [if_neg h, if_neg h]
    show (if q = p then some a else μ q) = μ q
    rw [if_neg h]

def Ex (H H' : Hp) : Prop := ∀ a o, H a = some o → H' a = some o
theorem Ex.refl (H : Hp) : Ex H H := fun _ _ h => h
theorem Ex.trans {H H1 H2 : Hp} (a : Ex H H1) (b : Ex H1 H2) : Ex H H2 := fun x o h => b x o (a x o h)
theorem Ex.new {H : Hp} {p : Addr} {o : HO} (h : H p = none) : Ex H (upd H p o) := fun a u e => by
  rw [upd_ne (ne_of_none e h)]; exact e
theorem Ex.l {K : PySem.W.Frag} {H H' : Hp} {a : Addr} {xs : List V} (e : Ex H H') (h : SqL K H a xs) : SqL K H' a xs := by
  rcases h with (h | ⟨o, h⟩) | h
  · exact .inl (.inl (e _ _ h))
  · exact .inl (.inr ⟨o, e _ _ h⟩)
  · exact .inr h
theorem Ex.t {K : PySem.W.Frag} {H H' : Hp} {a : Addr} {xs : List V} (e : Ex H H') (h : SqT K H a xs) : SqT K H' a xs := by
  rcases h with (h | ⟨o, h⟩) | h
  · exact .inl (.inl (e _ _ h))
  · exact .inl (.inr ⟨o, e _ _ h⟩)
  · exact .inr h
theorem Ex.slt {H H' : Hp} {a C dx : Addr} {vs : List (Option V)} (e : Ex H H') (h : Slt H a C dx vs) : Slt H' a C dx vs := by
  rcases h with ⟨h1, h2⟩ | ⟨h1, h2⟩
  · exact .inl ⟨e _ _ h1, h2⟩
  · exact .inr ⟨e _ _ h1, e _ _ h2⟩

section
variable {K : PySem.W.Frag}
mutual
theorem dp_mono {H H' : Hp} (e : Ex H H') : ∀ {x : PyData} {v : V}, Dp K H v x → Dp K H' v x
  | _, _, .non => .non
  | _, _, .bl b => .bl b
  | _, _, .int i => .int i
  | _, _, .str s => .str s
  | _, _, .lst h r => .lst (e.l h) (dpAll_mono e r)
  | _, _, .tup h r => .tup (e.t h) (dpAll_mono e r)
theorem dpAll_mono {H H' : Hp} (e : Ex H H') : ∀ {xs : List PyData} {vs : List V}, DpAll K H vs xs → DpAll K H' vs xs
  | _, _, .nil => .nil
  | _, _, .cons h t => .cons (dp_mono e h) (dpAll_mono e t)
end
end
mutual
/-- the value stands for the data, in the heap G of what does not change -/
inductive Rep (K : PySem.W.Frag) (G : Hp) : V → D → Prop
  | non : Rep K G .non .non
  | bl (b : Bool) : Rep K G (.bl b) (.bl b)
  | int (i : Int) : Rep K G (.int i) (.int i)
  | str (x : Str) : Rep K G (.str x) (.str x)
  | tup {a : Addr} {vs : List V} {ds : List D} : G a = some (.tup vs) → RepL K G vs ds → Rep K G (.ref a) (.tup ds)
  | lst {a : Addr} {vs : List V} {ds : List D} : G a = some (.lst vs) → RepL K G vs ds → Rep K G (.ref a) (.lst ds)
  | own (p : Addr) : Rep K G (.ref p) (.own p)
  | obj {a C dx : Addr} {vs : List V} {ds : List D} : Slt G a C dx (vs.map some) → RepL K G vs ds → Rep K G (.ref a) (.obj C ds)
  | scr {a : Addr} {ns : List Int} : SqL K G a (ns.map V.int) → Rep K G (.ref a) (.scr ns)
  | dk {a : Addr} {ks : List Key} {vs : List V} {ds : List D} : G a = some (.dK (ks.zip vs)) → ks.length = vs.length → RepL K G vs ds → Rep K G (.ref a) (.dk ks ds)
  | dt {a : Addr} {ks : List (List Key)} {vs : List V} {ds : List D} : G a = some (.dT (ks.zip vs)) → ks.length = vs.length → RepL K G vs ds → Rep K G (.ref a) (.dt ks ds)
  | err {a dd : Addr} {f : Str} {v : V} {x : D} : G dd = some (.xd [(f, v)]) → Rep K G v x → Rep K G (.ref a) (.err a dd f x)
  | pd {v : V} {x : PyData} : Dp K G v x → Rep K G v (.pd x)
inductive RepL (K : PySem.W.Frag) (G : Hp) : List V → List D → Prop
  | nil : RepL K G [] []
  | cons {v : V} {d : D} {vs : List V} {ds : List D} : Rep K G v d → RepL K G vs ds → RepL K G (v :: vs) (d :: ds)
end

section
variable {K : PySem.W.Frag} {G G' : Hp}
mutual
theorem Rep.mono (e : Ex G G') : ∀ {d : D} {v : V}, Rep K G v d → Rep K G' v d
  | _, _, .non => .non
  | _, _, .bl b => .bl b
  | _, _, .int i => .int i
  | _, _, .str x => .str x
  | _, _, .tup h r => .tup (e _ _ h) (RepL.mono e r)
  | _, _, .lst h r => .lst (e _ _ h) (RepL.mono e r)
  | _, _, .own p => .own p
  | _, _, .obj h r => .obj (e.slt h) (RepL.mono e r)
  | _, _, .scr h => .scr (e.l h)
  | _, _, .dk h l r => .dk (e _ _ h) l (RepL.mono e r)
  | _, _, .dt h l r => .dt (e _ _ h) l (RepL.mono e r)
  | _, _, .err h r => .err (e _ _ h) (Rep.mono e r)
  | _, _, .pd h => .pd (dp_mono e h)
theorem RepL.mono (e : Ex G G') : ∀ {ds : List D} {vs : List V}, RepL K G vs ds → RepL K G' vs ds
  | _, _, .nil => .nil
  | _, _, .cons h t => .cons (Rep.mono e h) (RepL.mono e t)
end
theorem RepL.length : ∀ {ds : List D} {vs : List V}, RepL K G vs ds → vs.length = ds.length
  | _, _, .nil => rfl
  | _, _, .cons _ t => congrArg (· + 1) (RepL.length t)
theorem RepL.get : ∀ {ds : List D} {vs : List V} {i : Nat} {v : V}, RepL K G vs ds → vs[i]? = some v → ∃ d, ds[i]? = some d ∧ Rep K G v d
  | _, _, _, _, .nil, e => by simp at e
  | _, _, 0, _, .cons r _, e => by simp at e; subst e; exact ⟨_, rfl, r⟩
  | _, _, i + 1, v, .cons _ t, e => by
    obtain ⟨d, h1, h2⟩ := RepL.get (i := i) (v := v) t (by simpa using e)
    exact ⟨d, by simpa using h1, h2⟩
theorem RepL.getD' : ∀ {ds : List D} {vs : List V} {i : Nat} {d : D}, RepL K G vs ds → ds[i]? = some d → ∃ v, vs[i]? = some v ∧ Rep K G v d
  | _, _, _, _, .nil, e => by simp at e
  | _, _, 0, _, .cons r _, e => by simp at e; subst e; exact ⟨_, rfl, r⟩
  | _, _, i + 1, d, .cons _ t, e => by
    obtain ⟨v, h1, h2⟩ := RepL.getD' (i := i) (d := d) t (by simpa using e)
    exact ⟨v, by simpa using h1, h2⟩
theorem RepL.append : ∀ {ds es : List D} {vs ws : List V}, RepL K G vs ds → RepL K G ws es → RepL K G (vs ++ ws) (ds ++ es)
  | _, _, _, _, .nil, s => s
  | _, _, _, _, .cons r t, s => .cons r (RepL.append t s)
theorem RepL.set {v : V} {d : D} (r : Rep K G v d) : ∀ {ds : List D} {vs : List V} (i : Nat), RepL K G vs ds → RepL K G (vs.set i v) (ds.set i d)
  | _, _, _, .nil => .nil
  | _, _, 0, .cons _ t => .cons r t
  | _, _, i + 1, .cons q t => .cons q (RepL.set r i t)
theorem RepL.take : ∀ {ds : List D} {vs : List V} (n : Nat), RepL K G vs ds → RepL K G (vs.take n) (ds.take n)
  | _, _, 0, _ => .nil
  | _, _, _ + 1, .nil => .nil
  | _, _, n + 1, .cons r t => .cons r (RepL.take n t)
theorem RepL.drop : ∀ {ds : List D} {vs : List V} (n : Nat), RepL K G vs ds → RepL K G (vs.drop n) (ds.drop n)
  | _, _, 0, r => r
  | _, _, _ + 1, .nil => .nil
  | _, _, n + 1, .cons _ t => RepL.drop n t
theorem RepL.replicate {v : V} {d : D} (r : Rep K G v d) : ∀ n : Nat, RepL K G (List.replicate n v) (List.replicate n d)
  | 0 => .nil
  | n + 1 => .cons r (RepL.replicate r n)
/-- what rows of ints stand for -/
theorem RepL.ints : ∀ {ns : List Int} {vs : List V}, RepL K G vs (ns.map D.int) → vs = ns.map V.int
  | [], _, h => by cases h; rfl
  | n :: ns, _, h => by
    cases h with
    | cons a b => cases a; rw [RepL.ints b]; rfl
theorem RepL.of_ints : ∀ (ns : List Int), RepL K G (ns.map V.int) (ns.map D.int)
  | [] => .nil
  | n :: ns => .cons (.int n) (RepL.of_ints ns)
theorem RepL.bls : ∀ {ns : List Bool} {vs : List V}, RepL K G vs (ns.map D.bl) → vs = ns.map V.bl
  | [], _, h => by cases h; rfl
  | n :: ns, _, h => by
    cases h with
    | cons a b => cases a; rw [RepL.bls b]; rfl
theorem RepL.strs : ∀ {ns : List Str} {vs : List V}, RepL K G vs (ns.map D.str) → vs = ns.map V.str
  | [], _, h => by cases h; rfl
  | n :: ns, _, h => by
    cases h with
    | cons a b => cases a; rw [RepL.strs b]; rfl
end

/-- the slots -/
structure SlOk (K : PySem.W.Frag) (G : Hp) (σ : L2.St) (δ : Sl) : Prop where
  len : σ.length = δ.length
  at_ : ∀ (i : Nat) (d : D), δ[i]? = some (some d) → ∃ v, σ[i]? = some (some v) ∧ Rep K G v d
/-- the content of an own cell -/
inductive RepC (K : PySem.W.Frag) (G : Hp) : HO → Cnt → Prop
  | l {vs : List V} {ds : List D} : RepL K G vs ds → RepC K G (.lst vs) (.l ds)
  | k {kvs : List (Key × V)} {kds : List (Key × D)} : kvs.map (·.1) = kds.map (·.1) → RepL K G (kvs.map (·.2)) (kds.map (·.2)) → RepC K G (.dK kvs) (.k kds)
  | t {kvs : List (List Key × V)} {kds : List (List Key × D)} : kvs.map (·.1) = kds.map (·.1) → RepL K G (kvs.map (·.2)) (kds.map (·.2)) → RepC K G (.dT kvs) (.t kds)
  | o {a C dx : Addr} {vs : L2.St} {ds : Sl} : dx ≠ a → G dx = some (.xd []) → SlOk K G vs ds → RepC K G (SlO a C dx vs) (.o a C ds)
  | oi {C dx : Addr} : RepC K G (.ins C dx []) (.oi C dx)
  | ox {a : Addr} : RepC K G (.own a) (.ox a)
  | en {e it : Addr} : RepC K G (EnO e it) (.en e it)
  | ei {a it : Addr} {x : D} : Rep K G (.ref a) x → RepC K G (LiO (objA (kindA x) a) it) (.ei it x)
  | tb {ps : Array Value} {q : Str} : TriplesOk ps.toList → (∀ (pos : Pos) (cv : Value), codeAmong pos ps.toList = some cv → ∃ c, cv = .ref c ∧ G c = some (LamX.CodeO c q)) → RepC K G (.tbl ps) (.tb q)
theorem SlOk.mono0 {K : PySem.W.Frag} {G G' : Hp} {σ : L2.St} {δ : Sl} (h : SlOk K G σ δ) (e : Ex G G') : SlOk K G' σ δ := ⟨h.len, fun i d q => let ⟨v, a, b⟩ := h.at_ i d q; ⟨v, a, b.mono e⟩⟩
theorem RepC.mono {K : PySem.W.Frag} {G G' : Hp} (e : Ex G G') {o : HO} {c : Cnt} : RepC K G o c → RepC K G' o c
  | .l r => .l (r.mono e)
  | .k h r => .k h (r.mono e)
  | .t h r => .t h (r.mono e)
  | .o n h r => .o n (e _ _ h) (r.mono0 e)
  | .oi => .oi
  | .ox => .ox
  | .en => .en
  | .ei r => .ei (r.mono e)
  | .tb h1 h2 => .tb h1 fun pos cv hc => let ⟨c, a, b⟩ := h2 pos cv hc; ⟨c, a, e _ _ b⟩
/-- the heap: what does not change, the own lists -/
structure Wd (K : PySem.W.Frag) (G H : Hp) (μ : Mu) : Prop where
  ex : Ex G H
  mu : ∀ p c, μ p = some c → G p = none ∧ ∃ o, H p = some o ∧ RepC K G o c
theorem Wd.muL {K : PySem.W.Frag} {G H : Hp} {μ : Mu} (w : Wd K G H μ) (p : Addr) (ds : List D) (e : μ p = some (.l ds)) : G p = none ∧ ∃ vs, H p = some (.lst vs) ∧ RepL K G vs ds := by
  obtain ⟨h1, o, h2, h3⟩ := w.mu p _ e
  cases h3 with
  | l r => exact ⟨h1, _, h2, r⟩
theorem Wd.muK {K : PySem.W.Frag} {G H : Hp} {μ : Mu} (w : Wd K G H μ) (p : Addr) (kds : List (Key × D)) (e : μ p = some (.k kds)) : G p = none ∧ ∃ kvs, H p = some (.dK kvs) ∧ kvs.map (·.1) = kds.map (·.1) ∧ RepL K G (kvs.map (·.2)) (kds.map (·.2)) := by
  obtain ⟨h1, o, h2, h3⟩ := w.mu p _ e
  cases h3 with
  | k h r => exact ⟨h1, _, h2, h, r⟩
theorem Wd.muT {K : PySem.W.Frag} {G H : Hp} {μ : Mu} (w : Wd K G H μ) (p : Addr) (kds : List (List Key × D)) (e : μ p = some (.t kds)) : G p = none ∧ ∃ kvs, H p = some (.dT kvs) ∧ kvs.map (·.1) = kds.map (·.1) ∧ RepL K G (kvs.map (·.2)) (kds.map (·.2)) := by
  obtain ⟨h1, o, h2, h3⟩ := w.mu p _ e
  cases h3 with
  | t h r => exact ⟨h1, _, h2, h, r⟩
/-- from one state to a later one -/
structure Go (μ : Mu) (G H : Hp) (μ' : Mu) (G' H' : Hp) : Prop where
  eg : Ex G G'
  kp : ∀ a o, H a = some o → μ a = none → H' a = some o
  dm : ∀ a, μ' a ≠ none → μ a ≠ none ∨ H a = none
  gf : ∀ a, G' a ≠ none → G a ≠ none ∨ μ a ≠ none ∨ H a = none ∨ ∃ xs, H a = some (.tup xs)
theorem Go.refl (μ : Mu) (G H : Hp) : Go μ G H μ G H := ⟨Ex.refl G, fun _ _ h _ => h, fun _ h => .inl h, fun _ h => .inl h⟩
theorem Go.none_mu {μ μ1 : Mu} {G G1 H H1 : Hp} (x : Go μ G H μ1 G1 H1) {a : Addr} {o : HO} (h : H a = some o) (hm : μ a = none) : μ1 a = none := by
  cases e : μ1 a with
  | none => rfl
  | some d =>
    rcases x.dm a (by rw [e]; simp) with z | z
    · exact absurd hm z
    · rw [h] at z; cases z
theorem Go.back {μ μ1 : Mu} {G G1 H H1 : Hp} (x : Go μ G H μ1 G1 H1) {a : Addr} (h : H1 a = none) : μ a ≠ none ∨ H a = none := by
  cases e : H a with
  | none => exact .inr rfl
  | some o =>
    by_cases hm : μ a = none
    · have := x.kp a o e hm
      rw [h] at this; cases this
    · exact .inl hm
theorem Go.trans {μ μ1 μ2 : Mu} {G G1 G2 H H1 H2 : Hp} (x : Go μ G H μ1 G1 H1) (y : Go μ1 G1 H1 μ2 G2 H2) : Go μ G H μ2 G2 H2 where
  eg := x.eg.trans y.eg
  kp := fun a o h hm => y.kp a o (x.kp a o h hm) (x.none_mu h hm)
  dm := fun a h => by
    rcases y.dm a h with z | z
    · exact x.dm a z
    · exact x.back z
  gf := fun a h => by
    rcases y.gf a h with z | z | z | ⟨xs, z⟩
    · exact x.gf a z
    · rcases x.dm a z with w | w
      · exact .inr (.inl w)
      · exact .inr (.inr (.inl w))
    · rcases x.back z with w | w
      · exact .inr (.inl w)
      · exact .inr (.inr (.inl w))
    · cases e : H a with
      | none => exact .inr (.inr (.inl rfl))
      | some o =>
        by_cases hm : μ a = none
        · have := x.kp a o e hm
          rw [z] at this
          cases this
          exact .inr (.inr (.inr ⟨xs, rfl⟩))
        · exact .inr (.inl hm)
section
variable {K : PySem.W.Frag} {G G' H H' : Hp} {μ μ' : Mu} {σ : L2.St} {δ : Sl}
theorem SlOk.mono (h : SlOk K G σ δ) (e : Ex G G') : SlOk K G' σ δ := ⟨h.len, fun i d q => let ⟨v, a, b⟩ := h.at_ i d q; ⟨v, a, b.mono e⟩⟩
theorem SlOk.set {v : V} {d : D} (h : SlOk K G σ δ) (r : Rep K G v d) (i : Nat) : SlOk K G (σ.set i (some v)) (δ.set i (some d)) := by
  refine ⟨by rw [List.length_set, List.length_set]; exact h.len, fun j e q => ?_⟩
  by_cases hj : i = j
  · subst hj
    by_cases hi : i < δ.length
    · rw [List.getElem?_set_self hi] at q
      cases q
      exact ⟨v, by rw [List.getElem?_set_self (by rw [h.len]; exact hi)], r⟩
    · rw [List.getElem?_eq_none (by simpa using hi)] at q
      cases q
  · rw [List.getElem?_set_ne hj] at q
    rw [List.getElem?_set_ne hj]
    exact h.at_ j e q
theorem SlOk.unset (h : SlOk K G σ δ) (i : Nat) (x : Option V) : SlOk K G (σ.set i x) (δ.set i none) := by
  refine ⟨by rw [List.length_set, List.length_set]; exact h.len, fun j e q => ?_⟩
  by_cases hj : i = j
  · subst hj
    by_cases hi : i < δ.length
    · rw [List.getElem?_set_self hi] at q
      cases q
    · rw [List.getElem?_eq_none (by simpa using hi)] at q
      cases q
  · rw [List.getElem?_set_ne hj] at q
    rw [List.getElem?_set_ne hj]
    exact h.at_ j e q
/-- a new object of what does not change -/
theorem Wd.new (w : Wd K G H μ) {p : Addr} {o : HO} (hp : H p = none) : Wd K (upd G p o) (upd H p o) μ := by
  have gp : G p = none := by
    cases e : G p with
    | none => rfl
    | some u => have := w.ex _ _ e; rw [hp] at this; cases this
  refine ⟨fun a u e => ?_, fun q ds e => ?_⟩
  · by_cases h : a = p
    · subst h; rw [upd_same] at e ⊢; exact e
    · rw [upd_ne h] at e ⊢; exact w.ex _ _ e
  · obtain ⟨h1, vs, h2, h3⟩ := w.mu q ds e
    have hq : q ≠ p := ne_of_none h2 hp
    exact ⟨by rw [upd_ne hq]; exact h1, vs, by rw [upd_ne hq]; exact h2, h3.mono (Ex.new gp)⟩
theorem Wd.gnone (w : Wd K G H μ) {p : Addr} (hp : H p = none) : G p = none := by
  cases e : G p with
  | none => rfl
  | some u => have := w.ex _ _ e; rw [hp] at this; cases this
theorem Wd.mnone (w : Wd K G H μ) {p : Addr} (hp : H p = none) : μ p = none := by
  cases e : μ p with
  | none => rfl
  | some u => obtain ⟨_, vs, h2, _⟩ := w.mu p u e; rw [hp] at h2; cases h2
theorem Go.new (w : Wd K G H μ) {p : Addr} {o : HO} (hp : H p = none) : Go μ G H μ (upd G p o) (upd H p o) := by
  refine ⟨Ex.new (w.gnone hp), fun a u h _ => ?_, fun _ h => .inl h, fun a h => ?_⟩
  · rw [upd_ne (ne_of_none h hp)]; exact h
  · by_cases e : a = p
    · subst e; exact .inr (.inr (.inl hp))
    · rw [upd_ne e] at h; exact .inl h
/-- a new own list -/
theorem Wd.newC (w : Wd K G H μ) {p : Addr} {o : HO} {c : Cnt} (hp : H p = none) (r : RepC K G o c) : Wd K G (upd H p o) (muSet μ p c) := by
  refine ⟨fun a u e => ?_, fun q es e => ?_⟩
  · have := w.ex _ _ e
    rw [upd_ne (ne_of_none this hp)]; exact this
  · by_cases h : q = p
    · subst h
      rw [muSet_same] at e
      cases e
      exact ⟨w.gnone hp, o, upd_same, r⟩
    · rw [muSet_ne h] at e
      obtain ⟨h1, ws, h2, h3⟩ := w.mu q es e
      exact ⟨h1, ws, by rw [upd_ne h]; exact h2, h3⟩
theorem Wd.newO (w : Wd K G H μ) {p : Addr} {vs : List V} {ds : List D} (hp : H p = none) (r : RepL K G vs ds) : Wd K G (upd H p (.lst vs)) (muSet μ p ds) := w.newC hp (.l r)
theorem Go.newC (w : Wd K G H μ) {p : Addr} {o : HO} {c : Cnt} (hp : H p = none) : Go μ G H (muSet μ p c) G (upd H p o) := by
  refine ⟨Ex.refl G, fun a u h _ => ?_, fun a h => ?_, fun _ h => .inl h⟩
  · rw [upd_ne (ne_of_none h hp)]; exact h
  · by_cases e : a = p
    · subst e; exact .inr hp
    · rw [muSet_ne e] at h; exact .inl h
theorem Go.newO (w : Wd K G H μ) {p : Addr} {vs : List V} {ds : List D} (hp : H p = none) : Go μ G H (muSet μ p ds) G (upd H p (.lst vs)) := Go.newC w hp
/-- an own cell changes -/
theorem Wd.wrC (w : Wd K G H μ) {p : Addr} {o : HO} {c es : Cnt} (hp : μ p = some es) (r : RepC K G o c) : Wd K G (upd H p o) (muSet μ p c) := by
  obtain ⟨gp, ws, hw, _⟩ := w.mu p es hp
  refine ⟨fun a u e => ?_, fun q es e => ?_⟩
  · have hne : a ≠ p := ne_of_none e gp
    rw [upd_ne hne]; exact w.ex _ _ e
  · by_cases h : q = p
    · subst h
      rw [muSet_same] at e
      cases e
      exact ⟨gp, o, upd_same, r⟩
    · rw [muSet_ne h] at e
      obtain ⟨h1, ws, h2, h3⟩ := w.mu q es e
      exact ⟨h1, ws, by rw [upd_ne h]; exact h2, h3⟩
theorem Wd.wr (w : Wd K G H μ) {p : Addr} {vs : List V} {ds : List D} {es : Cnt} (hp : μ p = some es) (r : RepL K G vs ds) : Wd K G (upd H p (.lst vs)) (muSet μ p ds) := w.wrC hp (.l r)
theorem Go.wrC {p : Addr} {o : HO} {c es : Cnt} (hp : μ p = some es) : Go μ G H (muSet μ p c) G (upd H p o) := by
  refine ⟨Ex.refl G, fun a u h hm => ?_, fun a h => ?_, fun _ h => .inl h⟩
  · have hne : a ≠ p := fun z => by subst z; rw [hp] at hm; cases hm
    rw [upd_ne hne]; exact h
  · by_cases e : a = p
    · subst e; exact .inl (by rw [hp]; simp)
    · rw [muSet_ne e] at h; exact .inl h
theorem Go.wr {p : Addr} {vs : List V} {ds : List D} {es : Cnt} (hp : μ p = some es) : Go μ G H (muSet μ p ds) G (upd H p (.lst vs)) := Go.wrC hp
/-- an own cell is let go of: it does not change any more -/
theorem Wd.frzC (w : Wd K G H μ) {p : Addr} {c : Cnt} (hp : μ p = some c) : ∃ o, RepC K G o c ∧ G p = none ∧ Wd K (upd G p o) H (muDel μ p) ∧ Go μ G H (muDel μ p) (upd G p o) H := by
  obtain ⟨gp, o, hv, r⟩ := w.mu p c hp
  refine ⟨o, r, gp, ⟨fun a u e => ?_, fun q es e => ?_⟩, Ex.new gp, fun _ _ h _ => h, fun a h => ?_, fun a h => ?_⟩
  · by_cases h : a = p
    · subst h; rw [upd_same] at e; cases e; exact hv
    · rw [upd_ne h] at e; exact w.ex _ _ e
  · by_cases h : q = p
    · subst h; rw [muDel_same] at e; cases e
    · rw [muDel_ne h] at e
      obtain ⟨h1, ws, h2, h3⟩ := w.mu q es e
      exact ⟨by rw [upd_ne h]; exact h1, ws, h2, h3.mono (Ex.new gp)⟩
  · by_cases e : a = p
    · subst e; rw [muDel_same] at h; exact absurd rfl h
    · rw [muDel_ne e] at h; exact .inl h
  · by_cases e : a = p
    · subst e; exact .inr (.inl (by rw [hp]; simp))
    · rw [upd_ne e] at h; exact .inl h
/-- what stands for an own cell that does not change any more -/
@[simp] def cntD : Cnt → D
  | .l ds => .lst ds
  | .k kvs => .dk (kvs.map (·.1)) (kvs.map (·.2))
  | .t kvs => .dt (kvs.map (·.1)) (kvs.map (·.2))
  | _ => .non
theorem zip_back {α β : Type} (kvs : List (α × β)) : (kvs.map (·.1)).zip (kvs.map (·.2)) = kvs := by
  induction kvs with
  | nil => rfl
  | cons a kvs ih => simp [ih]
theorem RepC.rep {o : HO} {c : Cnt} {p : Addr} (gp : G p = none) : RepC K G o c → c.plain = true → Rep K (upd G p o) (.ref p) (cntD c)
  | .l r, _ => .lst upd_same (r.mono (Ex.new gp))
  | .k (kvs := kvs) (kds := kds) h r, _ => by
    refine .dk (vs := kvs.map (·.2)) ?_ ?_ (r.mono (Ex.new gp))
    · show upd G p (.dK kvs) p = some (.dK ((kds.map (·.1)).zip (kvs.map (·.2))))
      rw [← h, zip_back, upd_same]
    · show (kds.map (·.1)).length = (kvs.map (·.2)).length
      rw [← h, List.length_map, List.length_map]
  | .t (kvs := kvs) (kds := kds) h r, _ => by
    refine .dt (vs := kvs.map (·.2)) ?_ ?_ (r.mono (Ex.new gp))
    · show upd G p (.dT kvs) p = some (.dT ((kds.map (·.1)).zip (kvs.map (·.2))))
      rw [← h, zip_back, upd_same]
    · show (kds.map (·.1)).length = (kvs.map (·.2)).length
      rw [← h, List.length_map, List.length_map]
theorem Wd.frz (w : Wd K G H μ) {p : Addr} {c : Cnt} (hp : μ p = some c) (hc : c.plain = true) : ∃ o, Wd K (upd G p o) H (muDel μ p) ∧ Rep K (upd G p o) (.ref p) (cntD c) ∧ Go μ G H (muDel μ p) (upd G p o) H := by
  obtain ⟨o, r, gp, a, b⟩ := w.frzC hp
  exact ⟨o, a, r.rep gp hc, b⟩
end

/-! ### readings over data -/
abbrev DK := D → Mu → Prop
abbrev RE := Sl → Mu → DK → Prop
abbrev RT := Sl → Mu → (Bool → Mu → Prop) → Prop
abbrev RA := Sl → Mu → (List D → Mu → Prop) → Prop
structure DEnds where
  nx : Sl → Mu → Prop
  rt : DK
  bk : Sl → Mu → Prop := fun _ _ => False
  ct : Sl → Mu → Prop := fun _ _ => False
abbrev RS := DEnds → Sl → Mu → Prop
/-- a target: the data to be stored -/
abbrev RG := D → Sl → Mu → (Sl → Mu → Prop) → Prop

section
variable (K : PySem.W.Frag)
def OkE (t : TE) (r : RE) : Prop := ∀ (σ : L2.St) (δ : Sl) (μ : Mu) (G H : Hp) (k : DK) (Q : VK), SlOk K G σ δ → Wd K G H μ → r δ μ k →
  (∀ v d μ' G' H', k d μ' → Wd K G' H' μ' → Go μ G H μ' G' H' → Rep K G' v d → Q v H') → t σ H Q
def OkT (t : TT) (r : RT) : Prop := ∀ (σ : L2.St) (δ : Sl) (μ : Mu) (G H : Hp) (k : Bool → Mu → Prop) (Q : Bool → Hp → Prop), SlOk K G σ δ → Wd K G H μ → r δ μ k →
  (∀ b μ' G' H', k b μ' → Wd K G' H' μ' → Go μ G H μ' G' H' → Q b H') → t σ H Q
def OkA (t : TA) (r : RA) : Prop := ∀ (σ : L2.St) (δ : Sl) (μ : Mu) (G H : Hp) (k : List D → Mu → Prop) (Q : List V → Hp → Prop), SlOk K G σ δ → Wd K G H μ → r δ μ k →
  (∀ vs ds μ' G' H', k ds μ' → Wd K G' H' μ' → Go μ G H μ' G' H' → RepL K G' vs ds → Q vs H') → t σ H Q
/-- what is wanted behind a statement -/
structure Back (μ : Mu) (G H : Hp) (DD : DEnds) (D : Ends) : Prop where
  nx : ∀ σ' δ' μ' G' H', DD.nx δ' μ' → SlOk K G' σ' δ' → Wd K G' H' μ' → Go μ G H μ' G' H' → D.nx σ' H'
  bk : ∀ σ' δ' μ' G' H', DD.bk δ' μ' → SlOk K G' σ' δ' → Wd K G' H' μ' → Go μ G H μ' G' H' → D.bk σ' H'
  ct : ∀ σ' δ' μ' G' H', DD.ct δ' μ' → SlOk K G' σ' δ' → Wd K G' H' μ' → Go μ G H μ' G' H' → D.ct σ' H'
  rt : ∀ v d μ' G' H', DD.rt d μ' → Wd K G' H' μ' → Go μ G H μ' G' H' → Rep K G' v d → D.rt v H'
def OkS (t : TS) (r : RS) : Prop := ∀ (σ : L2.St) (δ : Sl) (μ : Mu) (G H : Hp) (DD : DEnds) (D : Ends), SlOk K G σ δ → Wd K G H μ → r DD δ μ → Back K μ G H DD D → t D σ H
/-- js: the slots that are stored -/
def OkG (g : TG) (r : RG) (js : List Nat) : Prop := ∀ (v : V) (d : D) (σ : L2.St) (δ : Sl) (μ : Mu) (G H : Hp) (k : Sl → Mu → Prop) (Q : L2.St → Hp → Prop), SlOk K G σ δ → Wd K G H μ → Rep K G v d → r d δ μ k →
  (∀ σ' δ' μ' G' H', k δ' μ' → SlOk K G' σ' δ' → Wd K G' H' μ' → Go μ G H μ' G' H' → (σ'.length = σ.length ∧ ∀ i, i ∉ js → σ'[i]? = σ[i]?) → Q σ' H') → g v σ H Q
end
theorem Back.go {K : PySem.W.Frag} {μ μ1 : Mu} {G G1 H H1 : Hp} {DD : DEnds} {D : Ends} (b : Back K μ G H DD D) (g : Go μ G H μ1 G1 H1) : Back K μ1 G1 H1 DD D :=
  ⟨fun σ' δ' μ' G' H' h s w x => b.nx σ' δ' μ' G' H' h s w (g.trans x), fun σ' δ' μ' G' H' h s w x => b.bk σ' δ' μ' G' H' h s w (g.trans x),
   fun σ' δ' μ' G' H' h s w x => b.ct σ' δ' μ' G' H' h s w (g.trans x), fun v d μ' G' H' h w x r => b.rt v d μ' G' H' h w (g.trans x) r⟩

/-! ### the judgements: the rule of HandS and the reading over data -/
structure DE (X : Cx) (e : Expr) (t : TE) (r : RE) : Prop where
  p : PE X e t
  o : OkE X.K t r
structure DT (X : Cx) (e : Expr) (t : TT) (r : RT) : Prop where
  p : PT X e t
  o : OkT X.K t r
structure DW (X : Cx) (e : Expr) (t : TT) (r : RT) : Prop where
  p : PW X e t
  o : OkT X.K t r
structure DA (X : Cx) (es : List Expr) (t : TA) (r : RA) : Prop where
  p : PA X es t
  o : OkA X.K t r
structure DS (X : Cx) (st : Stmt) (t : TS) (r : RS) : Prop where
  p : PS X st t
  o : OkS X.K t r
structure DSs (X : Cx) (st : List Stmt) (t : TS) (r : RS) : Prop where
  p : PSs X st t
  o : OkS X.K t r
structure DG (X : Cx) (tg : Expr) (g : TG) (r : RG) (js : List Nat) : Prop where
  p : PG X tg g
  o : OkG X.K g r js
end DL


set_option Elab.async false
set_option linter.all false
set_option maxRecDepth 100000
set_option maxHeartbeats 4000000
/-! DLb: rules for expressions, tests, arguments over data. -/
namespace DL
open PySem PySem.Spec PyProof.Rows L2 SlX

/-- what is wanted behind a value -/
abbrev Then (K : PySem.W.Frag) (μ : Mu) (G H : Hp) (k : DK) (Q : VK) : Prop := ∀ v d μ' G' H', k d μ' → Wd K G' H' μ' → Go μ G H μ' G' H' → Rep K G' v d → Q v H'
abbrev F2 := D → D → Mu → DK → Prop
abbrev F1 := D → Mu → DK → Prop
abbrev FL := List D → Mu → DK → Prop
section
variable (K : PySem.W.Frag)
def OkOp (r : R2) (f : F2) : Prop := ∀ (x y : V) (a b : D) (μ : Mu) (G H : Hp) (k : DK) (Q : VK), Wd K G H μ → Rep K G x a → Rep K G y b → f a b μ k → Then K μ G H k Q → r x y H Q
def OkU (r : V → Hp → VK → Prop) (f : F1) : Prop := ∀ (x : V) (a : D) (μ : Mu) (G H : Hp) (k : DK) (Q : VK), Wd K G H μ → Rep K G x a → f a μ k → Then K μ G H k Q → r x H Q
def OkC (r : List V → Hp → VK → Prop) (f : FL) : Prop := ∀ (xs : List V) (as : List D) (μ : Mu) (G H : Hp) (k : DK) (Q : VK), Wd K G H μ → RepL K G xs as → f as μ k → Then K μ G H k Q → r xs H Q
/-- a method by values: the object, the arguments -/
def OkM (r : V → List V → Hp → VK → Prop) (f : D → List D → Mu → DK → Prop) : Prop :=
  ∀ (x : V) (xs : List V) (a : D) (as : List D) (μ : Mu) (G H : Hp) (k : DK) (Q : VK), Wd K G H μ → Rep K G x a → RepL K G xs as → f a as μ k → Then K μ G H k Q → r x xs H Q
end

/-! ### readings -/
@[simp] def rVar (i : Nat) : RE := fun δ μ k => match δ[i]? with | some (some d) => k d μ | _ => False
@[simp] def rC (d : D) : RE := fun _ μ k => k d μ
@[simp] def rOp (f : F2) (ra rb : RE) : RE := fun δ μ k => ra δ μ fun x μ1 => rb δ μ1 fun y μ2 => f x y μ2 k
@[simp] def rUn (f : F1) (ra : RE) : RE := fun δ μ k => ra δ μ fun x μ1 => f x μ1 k
@[simp] def rIf (rt : RT) (ra rb : RE) : RE := fun δ μ k => rt δ μ fun b μ1 => if b = true then ra δ μ1 k else rb δ μ1 k
@[simp] def asB (d : D) (k : Bool → Prop) : Prop := match d with | .bl b => k b | _ => False
@[simp] def rAndV (ra rb : RE) : RE := fun δ μ k => ra δ μ fun x μ1 => asB x fun c => if c = true then rb δ μ1 k else k (.bl false) μ1
@[simp] def rOrV (ra rb : RE) : RE := fun δ μ k => ra δ μ fun x μ1 => asB x fun c => if c = true then k (.bl true) μ1 else rb δ μ1 k
@[simp] def rNotV (ra : RE) : RE := fun δ μ k => ra δ μ fun x μ1 => asB x fun c => k (.bl (!c)) μ1
@[simp] def rB (ra : RE) : RT := fun δ μ k => ra δ μ fun x μ1 => asB x fun c => k c μ1
@[simp] def rAnd (ra rb : RT) : RT := fun δ μ k => ra δ μ fun c μ1 => if c = true then rb δ μ1 k else k false μ1
@[simp] def rOr (ra rb : RT) : RT := fun δ μ k => ra δ μ fun c μ1 => if c = true then k true μ1 else rb δ μ1 k
@[simp] def rNot (ra : RT) : RT := fun δ μ k => ra δ μ fun c μ1 => k (!c) μ1
@[simp] def rChain (f f' : F2) (ra rb rc : RE) : RE := fun δ μ k => ra δ μ fun x μ1 => rb δ μ1 fun y μ2 => f x y μ2 fun z μ3 => asB z fun c => if c = true then rc δ μ3 (fun w μ4 => f' y w μ4 k) else k (.bl false) μ3
@[simp] def rNil : RA := fun _ μ k => k [] μ
@[simp] def rCons (ra : RE) (rr : RA) : RA := fun δ μ k => ra δ μ fun x μ1 => rr δ μ1 fun xs μ2 => k (x :: xs) μ2
@[simp] def rTup (ra : RA) : RE := fun δ μ k => ra δ μ fun xs μ1 => xs.length ≤ 1000000 ∧ k (.tup xs) μ1
@[simp] def rLst (ra : RA) : RE := fun δ μ k => ra δ μ fun xs μ1 => xs.length ≤ 1000000 ∧ k (.lst xs) μ1
/-- a new list that will change -/
@[simp] def rLstO (ra : RA) : RE := fun δ μ k => ra δ μ fun xs μ1 => xs.length ≤ 1000000 ∧ ∀ p, μ1 p = none → k (.own p) (muSet μ1 p xs)
@[simp] def rCB (f : FL) (ra : RA) : RE := fun δ μ k => ra δ μ fun xs μ1 => f xs μ1 k
@[simp] def rBM (f : D → List D → Mu → DK → Prop) (ro : RE) (ra : RA) : RE := fun δ μ k => ro δ μ fun x μ1 => ra δ μ1 fun xs μ2 => f x xs μ2 k
def RO := Sl → Mu → (Option Int → Mu → Prop) → Prop
@[simp] def rNo : RO := fun _ μ k => k none μ
@[simp] def rPart (ra : RE) : RO := fun δ μ k => ra δ μ fun x μ1 => match x with | .int i => k (some i) μ1 | _ => False
@[simp] def rSlc (f : D → Option Int → Option Int → Mu → DK → Prop) (ra : RE) (rl rh : RO) : RE := fun δ μ k => ra δ μ fun x μ1 => rl δ μ1 fun l μ2 => rh δ μ2 fun u μ3 => f x l u μ3 k

section
variable {K : PySem.W.Frag} {ta tb tc : TE} {ra rb rc : RE} {t u : TT} {s s' : RT}
theorem okE_var (i : Nat) : OkE K (tVar i) (rVar i) := fun σ δ μ G H k Q S w q b => by
  unfold rVar at q
  split at q
  · rename_i d e
    obtain ⟨v, h1, h2⟩ := S.at_ i d e
    exact ⟨v, h1, b v d μ G H q w (Go.refl _ _ _) h2⟩
  · exact q.elim
theorem okE_C {v : V} {d : D} (h : ∀ G, Rep K G v d) : OkE K (tC v) (rC d) := fun σ δ μ G H k Q S w q b => b v d μ G H q w (Go.refl _ _ _) (h G)
theorem okE_op {r : R2} {f : F2} (h : OkOp K r f) (ha : OkE K ta ra) (hb : OkE K tb rb) : OkE K (tOp r ta tb) (rOp f ra rb) := fun σ δ μ G H k Q S w q b =>
  ha σ δ μ G H _ _ S w q fun x dx μ1 G1 H1 q1 w1 g1 r1 => hb σ δ μ1 G1 H1 _ _ (S.mono g1.eg) w1 q1 fun y dy μ2 G2 H2 q2 w2 g2 r2 =>
  h x y dx dy μ2 G2 H2 k Q w2 (r1.mono g2.eg) r2 q2 fun v d μ' G' H' qk w' g' r' => b v d μ' G' H' qk w' ((g1.trans g2).trans g') r'
theorem okE_un {r : V → Hp → VK → Prop} {f : F1} (h : OkU K r f) (ha : OkE K ta ra) : OkE K (tUn r ta) (rUn f ra) := fun σ δ μ G H k Q S w q b =>
  ha σ δ μ G H _ _ S w q fun x dx μ1 G1 H1 q1 w1 g1 r1 => h x dx μ1 G1 H1 k Q w1 r1 q1 fun v d μ' G' H' qk w' g' r' => b v d μ' G' H' qk w' (g1.trans g') r'
theorem okE_if (h : OkT K t s) (ha : OkE K ta ra) (hb : OkE K tb rb) : OkE K (tIf t ta tb) (rIf s ra rb) := fun σ δ μ G H k Q S w q b =>
  h σ δ μ G H _ _ S w q fun c μ1 G1 H1 q1 w1 g1 => by
    cases c with
    | true => exact ha σ δ μ1 G1 H1 k Q (S.mono g1.eg) w1 q1 fun v d μ' G' H' qk w' g' r' => b v d μ' G' H' qk w' (g1.trans g') r'
    | false => exact hb σ δ μ1 G1 H1 k Q (S.mono g1.eg) w1 q1 fun v d μ' G' H' qk w' g' r' => b v d μ' G' H' qk w' (g1.trans g') r'
theorem asB_out {G : Hp} {v : V} {d : D} {k : Bool → Prop} (r : Rep K G v d) (h : asB d k) : ∃ c, v = .bl c ∧ k c := by
  cases r with
  | bl c => exact ⟨c, rfl, h⟩
  | _ => exact h.elim
theorem okE_andV (ha : OkE K ta ra) (hb : OkE K tb rb) : OkE K (tAndV ta tb) (rAndV ra rb) := fun σ δ μ G H k Q S w q b =>
  ha σ δ μ G H _ _ S w q fun x dx μ1 G1 H1 q1 w1 g1 r1 => by
    obtain ⟨c, rfl, q2⟩ := asB_out r1 q1
    refine ⟨c, rfl, ?_⟩
    cases c with
    | true => exact hb σ δ μ1 G1 H1 k Q (S.mono g1.eg) w1 q2 fun v d μ' G' H' qk w' g' r' => b v d μ' G' H' qk w' (g1.trans g') r'
    | false => exact b _ _ μ1 G1 H1 q2 w1 g1 (.bl false)
theorem okE_orV (ha : OkE K ta ra) (hb : OkE K tb rb) : OkE K (tOrV ta tb) (rOrV ra rb) := fun σ δ μ G H k Q S w q b =>
  ha σ δ μ G H _ _ S w q fun x dx μ1 G1 H1 q1 w1 g1 r1 => by
    obtain ⟨c, rfl, q2⟩ := asB_out r1 q1
    refine ⟨c, rfl, ?_⟩
    cases c with
    | true => exact b _ _ μ1 G1 H1 q2 w1 g1 (.bl true)
    | false => exact hb σ δ μ1 G1 H1 k Q (S.mono g1.eg) w1 q2 fun v d μ' G' H' qk w' g' r' => b v d μ' G' H' qk w' (g1.trans g') r'
theorem okE_notV (ha : OkE K ta ra) : OkE K (tNotV ta) (rNotV ra) := fun σ δ μ G H k Q S w q b =>
  ha σ δ μ G H _ _ S w q fun x dx μ1 G1 H1 q1 w1 g1 r1 => by
    obtain ⟨c, rfl, q2⟩ := asB_out r1 q1
    exact ⟨c, rfl, b _ _ μ1 G1 H1 q2 w1 g1 (.bl _)⟩
theorem okT_B (ha : OkE K ta ra) : OkT K (tB ta) (rB ra) := fun σ δ μ G H k Q S w q b =>
  ha σ δ μ G H _ _ S w q fun x dx μ1 G1 H1 q1 w1 g1 r1 => by
    obtain ⟨c, rfl, q2⟩ := asB_out r1 q1
    exact ⟨c, rfl, b c μ1 G1 H1 q2 w1 g1⟩
theorem okT_test (ha : OkE K ta ra) : OkT K (tTest ta) (rB ra) := fun σ δ μ G H k Q S w q b =>
  ha σ δ μ G H _ _ S w q fun x dx μ1 G1 H1 q1 w1 g1 r1 => by
    obtain ⟨c, rfl, q2⟩ := asB_out r1 q1
    exact ⟨c, rfl, b c μ1 G1 H1 q2 w1 g1⟩
theorem okT_and (ha : OkT K t s) (hb : OkT K u s') : OkT K (tAnd t u) (rAnd s s') := fun σ δ μ G H k Q S w q b =>
  ha σ δ μ G H _ _ S w q fun c μ1 G1 H1 q1 w1 g1 => by
    cases c with
    | true => exact hb σ δ μ1 G1 H1 k Q (S.mono g1.eg) w1 q1 fun v μ' G' H' qk w' g' => b v μ' G' H' qk w' (g1.trans g')
    | false => exact b false μ1 G1 H1 q1 w1 g1
theorem okT_or (ha : OkT K t s) (hb : OkT K u s') : OkT K (tOr t u) (rOr s s') := fun σ δ μ G H k Q S w q b =>
  ha σ δ μ G H _ _ S w q fun c μ1 G1 H1 q1 w1 g1 => by
    cases c with
    | true => exact b true μ1 G1 H1 q1 w1 g1
    | false => exact hb σ δ μ1 G1 H1 k Q (S.mono g1.eg) w1 q1 fun v μ' G' H' qk w' g' => b v μ' G' H' qk w' (g1.trans g')
theorem okT_not (ha : OkT K t s) : OkT K (tNot t) (rNot s) := fun σ δ μ G H k Q S w q b =>
  ha σ δ μ G H _ _ S w q fun c μ1 G1 H1 q1 w1 g1 => b (!c) μ1 G1 H1 q1 w1 g1
theorem okE_chain {r r2 : R2} {f f2 : F2} (h : OkOp K r f) (h2 : OkOp K r2 f2) (ha : OkE K ta ra) (hb : OkE K tb rb) (hc : OkE K tc rc) : OkE K (tChain r r2 ta tb tc) (rChain f f2 ra rb rc) := by
  intro σ δ μ G H k Q S w q b
  refine ha σ δ μ G H _ _ S w q fun x dx μ1 G1 H1 q1 w1 g1 r1 => ?_
  refine hb σ δ μ1 G1 H1 _ _ (S.mono g1.eg) w1 q1 fun y dy μ2 G2 H2 q2 w2 g2 r2 => ?_
  refine h x y dx dy μ2 G2 H2 _ _ w2 (r1.mono g2.eg) r2 q2 fun z dz μ3 G3 H3 q3 w3 g3 r3 => ?_
  obtain ⟨c, rfl, q4⟩ := asB_out r3 q3
  refine ⟨c, rfl, ?_⟩
  cases c with
  | true =>
    refine hc σ δ μ3 G3 H3 _ _ (S.mono (g1.eg.trans (g2.eg.trans g3.eg))) w3 q4 fun z2 d2 μ4 G4 H4 q5 w4 g4 r4 => ?_
    exact h2 y z2 dy d2 μ4 G4 H4 k Q w4 (r2.mono (g3.eg.trans g4.eg)) r4 q5 fun v d μ' G' H' qk w' g' r' => b v d μ' G' H' qk w' ((g1.trans g2).trans ((g3.trans g4).trans g')) r'
  | false => exact b _ _ μ3 G3 H3 q4 w3 ((g1.trans g2).trans g3) (.bl false)
theorem okA_nil : OkA K tNil rNil := fun σ δ μ G H k Q S w q b => b [] [] μ G H q w (Go.refl _ _ _) .nil
theorem okA_cons {tr : TA} {rr : RA} (ha : OkE K ta ra) (hr : OkA K tr rr) : OkA K (tCons ta tr) (rCons ra rr) := fun σ δ μ G H k Q S w q b =>
  ha σ δ μ G H _ _ S w q fun x dx μ1 G1 H1 q1 w1 g1 r1 => hr σ δ μ1 G1 H1 _ _ (S.mono g1.eg) w1 q1 fun xs ds μ2 G2 H2 q2 w2 g2 r2 =>
  b (x :: xs) (dx :: ds) μ2 G2 H2 q2 w2 (g1.trans g2) (.cons (r1.mono g2.eg) r2)
theorem sz_of {n : Nat} (h : n ≤ 1000000) : n ≤ sizeLine := Nat.le_trans h (by decide)
theorem sz_lt {n : Nat} (h : n < 1000000) : n < sizeLine := Nat.lt_of_lt_of_le h (by decide)
theorem mkTup {μ : Mu} {G H : Hp} {k : DK} {Q : VK} {xs : List V} {ds : List D} (w : Wd K G H μ) (r : RepL K G xs ds) (q : k (.tup ds) μ) (b : Then K μ G H k Q) (p : Addr) (hp : H p = none) : Q (.ref p) (upd H p (.tup xs)) :=
  b _ _ μ (upd G p (.tup xs)) _ q (w.new hp) (Go.new w hp) (.tup upd_same (r.mono (Ex.new (w.gnone hp))))
theorem mkLst {μ : Mu} {G H : Hp} {k : DK} {Q : VK} {xs : List V} {ds : List D} (w : Wd K G H μ) (r : RepL K G xs ds) (q : k (.lst ds) μ) (b : Then K μ G H k Q) (p : Addr) (hp : H p = none) : Q (.ref p) (upd H p (.lst xs)) :=
  b _ _ μ (upd G p (.lst xs)) _ q (w.new hp) (Go.new w hp) (.lst upd_same (r.mono (Ex.new (w.gnone hp))))
theorem mkOwn {μ : Mu} {G H : Hp} {k : DK} {Q : VK} {xs : List V} {ds : List D} (w : Wd K G H μ) (r : RepL K G xs ds) (q : ∀ p, μ p = none → k (.own p) (muSet μ p ds)) (b : Then K μ G H k Q) (p : Addr) (hp : H p = none) : Q (.ref p) (upd H p (.lst xs)) :=
  b _ _ (muSet μ p ds) G _ (q p (w.mnone hp)) (w.newO hp r) (Go.newO w hp) (.own p)
theorem okE_tup {tt : TA} {rr : RA} (h : OkA K tt rr) : OkE K (tTup tt) (rTup rr) := fun σ δ μ G H k Q S w q b =>
  h σ δ μ G H _ _ S w q fun xs ds μ1 G1 H1 ⟨q0, q1⟩ w1 g1 r1 => ⟨sz_of (by rw [r1.length]; exact q0), fun p hp => mkTup w1 r1 q1 (fun v d μ' G' H' qk w' g' r' => b v d μ' G' H' qk w' (g1.trans g') r') p hp⟩
theorem okE_lst {tt : TA} {rr : RA} (h : OkA K tt rr) : OkE K (tLst tt) (rLst rr) := fun σ δ μ G H k Q S w q b =>
  h σ δ μ G H _ _ S w q fun xs ds μ1 G1 H1 ⟨q0, q1⟩ w1 g1 r1 => ⟨sz_of (by rw [r1.length]; exact q0), fun p hp => mkLst w1 r1 q1 (fun v d μ' G' H' qk w' g' r' => b v d μ' G' H' qk w' (g1.trans g') r') p hp⟩
theorem okE_lstO {tt : TA} {rr : RA} (h : OkA K tt rr) : OkE K (tLst tt) (rLstO rr) := fun σ δ μ G H k Q S w q b =>
  h σ δ μ G H _ _ S w q fun xs ds μ1 G1 H1 ⟨q0, q1⟩ w1 g1 r1 => ⟨sz_of (by rw [r1.length]; exact q0), fun p hp => mkOwn w1 r1 q1 (fun v d μ' G' H' qk w' g' r' => b v d μ' G' H' qk w' (g1.trans g') r') p hp⟩
theorem okE_CB {r : List V → Hp → VK → Prop} {f : FL} {tt : TA} {rr : RA} (hc : OkC K r f) (h : OkA K tt rr) : OkE K (tCB r tt) (rCB f rr) := fun σ δ μ G H k Q S w q b =>
  h σ δ μ G H _ _ S w q fun xs ds μ1 G1 H1 q1 w1 g1 r1 => hc xs ds μ1 G1 H1 k Q w1 r1 q1 fun v d μ' G' H' qk w' g' r' => b v d μ' G' H' qk w' (g1.trans g') r'
def OkO (K : PySem.W.Frag) (t : TO) (r : RO) : Prop := ∀ (σ : L2.St) (δ : Sl) (μ : Mu) (G H : Hp) (k : Option Int → Mu → Prop) (Q : Option Int → Hp → Prop), SlOk K G σ δ → Wd K G H μ → r δ μ k →
  (∀ o μ' G' H', k o μ' → Wd K G' H' μ' → Go μ G H μ' G' H' → Q o H') → t σ H Q
theorem okO_no : OkO K tNoPart rNo := fun σ δ μ G H k Q S w q b => b none μ G H q w (Go.refl _ _ _)
theorem okO_part (ha : OkE K ta ra) : OkO K (tPart ta) (rPart ra) := fun σ δ μ G H k Q S w q b =>
  ha σ δ μ G H _ _ S w q fun x dx μ1 G1 H1 q1 w1 g1 r1 => by
    cases r1 with
    | int i => exact ⟨i, rfl, b _ μ1 G1 H1 q1 w1 g1⟩
    | _ => exact q1.elim
def OkSl (K : PySem.W.Frag) (r : V → Option Int → Option Int → Hp → VK → Prop) (f : D → Option Int → Option Int → Mu → DK → Prop) : Prop :=
  ∀ (x : V) (a : D) (l u : Option Int) (μ : Mu) (G H : Hp) (k : DK) (Q : VK), Wd K G H μ → Rep K G x a → f a l u μ k → Then K μ G H k Q → r x l u H Q
theorem okE_slc {r : V → Option Int → Option Int → Hp → VK → Prop} {f : D → Option Int → Option Int → Mu → DK → Prop} {tl th : TO} {rl rh : RO} (h : OkSl K r f) (ha : OkE K ta ra) (hl : OkO K tl rl) (hh : OkO K th rh) : OkE K (L2.tSl r ta tl th) (rSlc f ra rl rh) := fun σ δ μ G H k Q S w q b =>
  ha σ δ μ G H _ _ S w q fun x dx μ1 G1 H1 q1 w1 g1 r1 => hl σ δ μ1 G1 H1 _ _ (S.mono g1.eg) w1 q1 fun l μ2 G2 H2 q2 w2 g2 =>
  hh σ δ μ2 G2 H2 _ _ (S.mono (g1.eg.trans g2.eg)) w2 q2 fun u μ3 G3 H3 q3 w3 g3 =>
  h x dx l u μ3 G3 H3 k Q w3 (r1.mono (g2.eg.trans g3.eg)) q3 fun v d μ' G' H' qk w' g' r' => b v d μ' G' H' qk w' ((g1.trans (g2.trans g3)).trans g') r'
end

/-! ### operators -/
section
variable {K : PySem.W.Frag}
/-- two ints to an int -/
@[simp] def oI (g : Int → Int → Int) : F2 := fun x y μ k => match x, y with | .int i, .int j => k (.int (g i j)) μ | _, _ => False
@[simp] def oIc (C : Int → Int → Prop) (g : Int → Int → Int) : F2 := fun x y μ k => match x, y with | .int i, .int j => C i j ∧ k (.int (g i j)) μ | _, _ => False
@[simp] def oB (g : Int → Int → Bool) : F2 := fun x y μ k => match x, y with | .int i, .int j => k (.bl (g i j)) μ | _, _ => False
theorem okI {g : Int → Int → Int} : OkOp K (rI0 fun i j => .int (g i j)) (oI g) := fun x y a b μ G H k Q w rx ry q t => by
  cases rx with
  | int i =>
    cases ry with
    | int j => exact ⟨i, j, rfl, rfl, t _ _ μ G H q w (Go.refl _ _ _) (.int _)⟩
    | _ => exact q.elim
  | _ => exact q.elim
theorem okIc {C : Int → Int → Prop} {g : Int → Int → Int} : OkOp K (rI C fun i j => .int (g i j)) (oIc C g) := fun x y a b μ G H k Q w rx ry q t => by
  cases rx with
  | int i =>
    cases ry with
    | int j => exact ⟨i, j, rfl, rfl, q.1, t _ _ μ G H q.2 w (Go.refl _ _ _) (.int _)⟩
    | _ => exact q.elim
  | _ => exact q.elim
theorem okB {g : Int → Int → Bool} : OkOp K (rI0 fun i j => .bl (g i j)) (oB g) := fun x y a b μ G H k Q w rx ry q t => by
  cases rx with
  | int i =>
    cases ry with
    | int j => exact ⟨i, j, rfl, rfl, t _ _ μ G H q w (Go.refl _ _ _) (.bl _)⟩
    | _ => exact q.elim
  | _ => exact q.elim
@[simp] def oNeg : F1 := fun x μ k => match x with | .int i => k (.int (-i)) μ | _ => False
theorem okNeg : OkU K (rU fun i => .int (-i)) oNeg := fun x a μ G H k Q w rx q t => by
  cases rx with
  | int i => exact ⟨i, rfl, t _ _ μ G H q w (Go.refl _ _ _) (.int _)⟩
  | _ => exact q.elim

/-- the own list at p -/
def lsAt (μ : Mu) (p : Addr) : Option (List D) := match μ p with
  | some (.l ds) => some ds
  | _ => none
@[simp] theorem lsAt_iff {μ : Mu} {p : Addr} {ds : List D} : lsAt μ p = some ds ↔ μ p = some (.l ds) := by
  unfold lsAt
  constructor
  · intro h
    split at h
    · rename_i e; cases h; exact e
    · cases h
  · intro h; rw [h]
@[simp] theorem lsAt_none {μ : Mu} {p : Addr} {ds : List D} : (some ds = lsAt μ p) ↔ μ p = some (.l ds) := by rw [eq_comm, lsAt_iff]
theorem lsAt_of {μ : Mu} {p : Addr} {ds : List D} (h : μ p = some (.l ds)) : lsAt μ p = some ds := lsAt_iff.mpr h
/-- a list that is read -/
@[simp] def asL (μ : Mu) : D → Option (List D)
  | .lst ds => some ds
  | .own p => lsAt μ p
  | _ => none
theorem asL_out {μ : Mu} {G H : Hp} {v : V} {d : D} {ds : List D} (w : Wd K G H μ) (r : Rep K G v d) (e : asL μ d = some ds) : ∃ a vs, v = .ref a ∧ H a = some (.lst vs) ∧ RepL K G vs ds := by
  cases r with
  | lst h q => cases e; exact ⟨_, _, rfl, w.ex _ _ h, q⟩
  | own p =>
    obtain ⟨_, vs, h, q⟩ := w.muL p ds (lsAt_iff.mp e)
    exact ⟨_, vs, rfl, h, q⟩
  | _ => cases e
/-- a list or a tuple that is read -/
@[simp] def asQ (μ : Mu) : D → Option (List D)
  | .lst ds => some ds
  | .own p => lsAt μ p
  | .tup ds => some ds
  | _ => none
theorem asQ_out {μ : Mu} {G H : Hp} {v : V} {d : D} {ds : List D} (w : Wd K G H μ) (r : Rep K G v d) (e : asQ μ d = some ds) : ∃ a vs, v = .ref a ∧ (SqL K H a vs ∨ SqT K H a vs) ∧ RepL K G vs ds := by
  cases r with
  | lst h q => cases e; exact ⟨_, _, rfl, .inl (SqL.of (w.ex _ _ h)), q⟩
  | own p =>
    obtain ⟨_, vs, h, q⟩ := w.muL p ds (lsAt_iff.mp e)
    exact ⟨_, vs, rfl, .inl (SqL.of h), q⟩
  | tup h q => cases e; exact ⟨_, _, rfl, .inr (SqT.of (w.ex _ _ h)), q⟩
  | _ => cases e
@[simp] def oCat : F2 := fun x y μ k => ∃ xs ys, asL μ x = some xs ∧ asL μ y = some ys ∧ xs.length + ys.length ≤ 1000000 ∧ k (.lst (xs ++ ys)) μ
theorem okCat : OkOp K rCat oCat := fun x y a b μ G H k Q w rx ry ⟨xs, ys, e1, e2, hl, q⟩ t => by
  obtain ⟨p, vs, rfl, h1, r1⟩ := asL_out w rx e1
  obtain ⟨p', vs', rfl, h2, r2⟩ := asL_out w ry e2
  exact ⟨p, p', vs, vs', rfl, rfl, h1, h2, sz_of (by rw [r1.length, r2.length]; exact hl), fun l hl => mkLst w (r1.append r2) q t l hl⟩
@[simp] def oCatO : F2 := fun x y μ k => ∃ xs ys, asL μ x = some xs ∧ asL μ y = some ys ∧ xs.length + ys.length ≤ 1000000 ∧ ∀ p, μ p = none → k (.own p) (muSet μ p (xs ++ ys))
theorem okCatO : OkOp K rCat oCatO := fun x y a b μ G H k Q w rx ry ⟨xs, ys, e1, e2, hl, q⟩ t => by
  obtain ⟨p, vs, rfl, h1, r1⟩ := asL_out w rx e1
  obtain ⟨p', vs', rfl, h2, r2⟩ := asL_out w ry e2
  exact ⟨p, p', vs, vs', rfl, rfl, h1, h2, sz_of (by rw [r1.length, r2.length]; exact hl), fun l hl => mkOwn w (r1.append r2) q t l hl⟩
/-- tuples -/
@[simp] def oCatT : F2 := fun x y μ k => match x, y with | .tup xs, .tup ys => xs.length + ys.length ≤ 1000000 ∧ k (.tup (xs ++ ys)) μ | _, _ => False
theorem okCatT : OkOp K (rCatA K) oCatT := fun x y a b μ G H k Q w rx ry q t => by
  cases rx with
  | tup h1 r1 =>
    cases ry with
    | tup h2 r2 =>
      obtain ⟨hl, q⟩ := q
      refine ⟨_, _, _, _, rfl, rfl, SqT.of (w.ex _ _ h1), SqT.of (w.ex _ _ h2), sz_of (by rw [r1.length, r2.length]; exact hl), fun z => ?_, fun z1 z2 => ?_, fun z1 z2 p hp => mkTup w (r1.append r2) q t p hp⟩
      · subst z
        cases r1
        exact t _ _ μ G H q w (Go.refl _ _ _) (.tup h2 r2)
      · subst z2
        cases r2
        rw [List.append_nil] at q
        exact t _ _ μ G H q w (Go.refl _ _ _) (.tup h1 r1)
    | _ => exact q.elim
  | _ => exact q.elim
@[simp] def oCatS : F2 := fun x y μ k => match x, y with | .str a, .str b => a.length + b.length ≤ 1000000 ∧ k (.str (a ++ b)) μ | _, _ => False
theorem okCatS : OkOp K (fun x y H Q => ∃ i j, x = .str i ∧ y = .str j ∧ i.length + j.length ≤ sizeLine ∧ Q (.str (i ++ j)) H) oCatS := fun x y a b μ G H k Q w rx ry q t => by
  cases rx with
  | str i =>
    cases ry with
    | str j => exact ⟨i, j, rfl, rfl, sz_of q.1, t _ _ μ G H q.2 w (Go.refl _ _ _) (.str _)⟩
    | _ => exact q.elim
  | _ => exact q.elim
theorem RepL.flat {G : Hp} {xs : List V} {ds : List D} (r : RepL K G xs ds) : ∀ n : Nat, RepL K G (List.replicate n xs).flatten (List.replicate n ds).flatten
  | 0 => .nil
  | n + 1 => by rw [List.replicate_succ, List.replicate_succ, List.flatten_cons, List.flatten_cons]; exact r.append (RepL.flat r n)
@[simp] def oRep : F2 := fun x y μ k => ∃ xs, asL μ x = some xs ∧ ∃ j, y = .int j ∧ xs.length ≤ 1000 ∧ j ≤ 1000 ∧ -1000 ≤ j ∧ k (.lst (List.replicate j.toNat xs).flatten) μ
theorem okRep : OkOp K rRep oRep := fun x y a b μ G H k Q w rx ry ⟨xs, e1, j, e2, hl, h1, h0, q⟩ t => by
  obtain ⟨p, vs, rfl, hp, r1⟩ := asL_out w rx e1
  subst e2
  cases ry
  refine ⟨p, j, vs, rfl, rfl, hp, by omega, by omega, ?_, fun l hl => mkLst w (r1.flat _) q t l hl⟩
  rw [r1.length]
  exact Nat.le_trans (Nat.mul_le_mul hl (show j.toNat ≤ 1000 by omega)) (by decide)

/-! ### equality -/
mutual
def toPy : D → Option PyData
  | .non => some .none
  | .bl b => some (.bool b)
  | .int i => some (.int i)
  | .str x => some (.str x)
  | .tup ds => match toPyL ds with | some xs => some (.tuple xs) | none => none
  | .lst ds => match toPyL ds with | some xs => some (.list xs) | none => none
  | .own _ => none
  | .obj _ _ => none
  | .scr _ => none
  | .dk _ _ => none
  | .dt _ _ => none
  | .err _ _ _ _ => none
  | .pd x => some x
def toPyL : List D → Option (List PyData)
  | [] => some []
  | d :: ds => match toPy d, toPyL ds with
    | some x, some xs => some (x :: xs)
    | _, _ => none
end
mutual
theorem toPy_dp {G : Hp} : ∀ {d : D} {v : V} {x : PyData}, Rep K G v d → toPy d = some x → Dp K G v x
  | _, _, _, .non, e => by unfold toPy at e; cases e; exact .non
  | _, _, _, .bl b, e => by unfold toPy at e; cases e; exact .bl b
  | _, _, _, .int i, e => by unfold toPy at e; cases e; exact .int i
  | _, _, _, .str s, e => by unfold toPy at e; cases e; exact .str s
  | _, _, _, .tup h r, e => by
    unfold toPy at e
    split at e
    · rename_i xs q
      cases e
      exact .tup (SqT.of h) (toPyL_dp r q)
    · cases e
  | _, _, _, .lst h r, e => by
    unfold toPy at e
    split at e
    · rename_i xs q
      cases e
      exact .lst (SqL.of h) (toPyL_dp r q)
    · cases e
  | _, _, _, .own p, e => by unfold toPy at e; cases e
  | _, _, _, .obj h r, e => by unfold toPy at e; cases e
  | _, _, _, .scr h, e => by unfold toPy at e; cases e
  | _, _, _, .dk h l r, e => by unfold toPy at e; cases e
  | _, _, _, .dt h l r, e => by unfold toPy at e; cases e
  | _, _, _, .err h r, e => by unfold toPy at e; cases e
  | _, _, _, .pd h, e => by unfold toPy at e; cases e; exact h
theorem toPyL_dp {G : Hp} : ∀ {ds : List D} {vs : List V} {xs : List PyData}, RepL K G vs ds → toPyL ds = some xs → DpAll K G vs xs
  | _, _, _, .nil, e => by unfold toPyL at e; cases e; exact .nil
  | _, _, _, .cons h t, e => by
    unfold toPyL at e
    split at e
    · rename_i x xs q1 q2
      cases e
      exact .cons (toPy_dp h q1) (toPyL_dp t q2)
    · cases e
end
/-- data as it is compared: an own list by what it holds -/
def asPy (μ : Mu) (d : D) : Option PyData := match d with
  | .own p => match lsAt μ p with
    | some ds => match toPyL ds with | some xs => some (.list xs) | none => none
    | none => none
  | d => toPy d
theorem asPy_out {μ : Mu} {G H : Hp} {v : V} {d : D} {x : PyData} (w : Wd K G H μ) (r : Rep K G v d) (e : asPy μ d = some x) : Dp K H v x := by
  cases r with
  | own p =>
    unfold asPy at e
    simp only at e
    split at e
    · rename_i ds q
      split at e
      · rename_i xs q2
        cases e
        obtain ⟨_, vs, h, rr⟩ := w.muL p ds (lsAt_iff.mp q)
        exact .lst (SqL.of h) (dpAll_mono w.ex (toPyL_dp rr q2))
      · cases e
    · cases e
  | non => exact dp_mono w.ex (toPy_dp .non e)
  | bl b => exact dp_mono w.ex (toPy_dp (.bl b) e)
  | int b => exact dp_mono w.ex (toPy_dp (.int b) e)
  | str b => exact dp_mono w.ex (toPy_dp (.str b) e)
  | tup h r => exact dp_mono w.ex (toPy_dp (.tup h r) e)
  | lst h r => exact dp_mono w.ex (toPy_dp (.lst h r) e)
  | obj h r => exact dp_mono w.ex (toPy_dp (.obj h r) e)
  | scr h => exact dp_mono w.ex (toPy_dp (.scr h) e)
  | dk h l r => exact dp_mono w.ex (toPy_dp (.dk h l r) e)
  | dt h l r => exact dp_mono w.ex (toPy_dp (.dt h l r) e)
  | err h r => exact dp_mono w.ex (toPy_dp (.err h r) e)
  | pd h => exact dp_mono w.ex (toPy_dp (.pd h) e)
set_option checkBinderAnnotations false in
/-- the continuation stands where simp does not go -/
def hEq (x y : D) (μ : Mu) [k : DK] : Prop := ∃ a b, asPy μ x = some a ∧ asPy μ y = some b ∧ SeqAt.shaped a = true ∧ SeqAt.shaped b = true ∧ k (.bl (PyData.eqv a b)) μ
set_option checkBinderAnnotations false in
def hNe (x y : D) (μ : Mu) [k : DK] : Prop := ∃ a b, asPy μ x = some a ∧ asPy μ y = some b ∧ SeqAt.shaped a = true ∧ SeqAt.shaped b = true ∧ k (.bl (!PyData.eqv a b)) μ
@[simp] def oEq : F2 := fun x y μ k => @hEq x y μ k
@[simp] def oNe : F2 := fun x y μ k => @hNe x y μ k
theorem okEq : OkOp K (rEqD K) oEq := fun x y a b μ G H k Q w rx ry ⟨d, e, h1, h2, s1, s2, q⟩ t => ⟨d, e, asPy_out w rx h1, asPy_out w ry h2, s1, s2, t _ _ μ G H q w (Go.refl _ _ _) (.bl _)⟩
theorem okNe : OkOp K (rNeD K) oNe := fun x y a b μ G H k Q w rx ry ⟨d, e, h1, h2, s1, s2, q⟩ t => ⟨d, e, asPy_out w rx h1, asPy_out w ry h2, s1, s2, t _ _ μ G H q w (Go.refl _ _ _) (.bl _)⟩

/-! ### items, slices -/
/-- xs[i], t[i] -/
@[simp] def oIx : F2 := fun x y μ k => ∃ xs d, asQ μ x = some xs ∧ (∃ i, y = .int i ∧ atI xs i = some d) ∧ k d μ
theorem atI_rep {G : Hp} {vs : List V} {ds : List D} {i : Int} {d : D} (r : RepL K G vs ds) (e : atI ds i = some d) : ∃ v, atI vs i = some v ∧ Rep K G v d := by
  unfold atI at e ⊢
  rw [r.length]
  cases q : ixN ds.length i with
  | none => rw [q] at e; cases e
  | some j =>
    rw [q] at e
    exact r.getD' e
theorem okIx : OkOp K (rIx K) oIx := fun x y a b μ G H k Q w rx ry ⟨xs, d, e1, ⟨i, e2, e3⟩, q⟩ t => by
  subst e2
  cases ry
  obtain ⟨p, vs, rfl, hs, r⟩ := asQ_out w rx e1
  obtain ⟨v, h1, h2⟩ := atI_rep r e3
  rcases hs with hs | hs
  · exact .inl ⟨p, vs, i, v, rfl, rfl, hs, h1, t _ _ μ G H q w (Go.refl _ _ _) h2⟩
  · exact .inr (.inl ⟨p, vs, i, v, rfl, rfl, hs, h1, t _ _ μ G H q w (Go.refl _ _ _) h2⟩)
/-- the law's list -/
@[simp] def oIxS : F2 := fun x y μ k => match x, y with | .scr ns, .int i => ∃ n, atI ns i = some n ∧ k (.int n) μ | _, _ => False
theorem okIxS : OkOp K (rIxL K) oIxS := fun x y a b μ G H k Q w rx ry q t => by
  cases rx with
  | scr h =>
    cases ry with
    | int i =>
      obtain ⟨n, e, q⟩ := q
      refine ⟨_, _, i, .int n, rfl, rfl, w.ex.l h, ?_, t _ _ μ G H q w (Go.refl _ _ _) (.int n)⟩
      unfold atI at e ⊢
      rw [List.length_map]
      cases z : ixN _ i with
      | none => rw [z] at e; cases e
      | some j =>
        rw [z] at e
        show (List.map V.int _)[j]? = some (V.int n)
        have e2 : _ = some n := e
        simp only [Option.bind_some] at e2
        rw [List.getElem?_map, e2]
        rfl
    | _ => exact q.elim
  | _ => exact q.elim
def cutD (xs : List D) (lo hi : Option Int) : List D := (xs.drop (HT.sIx xs.length 0 lo)).take (HT.sIx xs.length xs.length hi - HT.sIx xs.length 0 lo)
theorem cut_rep {G : Hp} {vs : List V} {ds : List D} (r : RepL K G vs ds) (lo hi : Option Int) : RepL K G (cutV vs lo hi) (cutD ds lo hi) := by
  unfold cutV cutD
  rw [r.length]
  exact RepL.take _ (RepL.drop _ r)
@[simp] def oSlL : D → Option Int → Option Int → Mu → DK → Prop := fun x lo hi μ k => ∃ xs, asL μ x = some xs ∧ k (.lst (cutD xs lo hi)) μ
theorem okSlL : OkSl K (rSlL K) oSlL := fun x a lo hi μ G H k Q w rx ⟨xs, e, q⟩ t => by
  obtain ⟨p, vs, rfl, h, r⟩ := asL_out w rx e
  exact ⟨p, vs, rfl, SqL.of h, fun l hl => mkLst w (cut_rep r lo hi) q t l hl⟩
@[simp] def oSlT : D → Option Int → Option Int → Mu → DK → Prop := fun x lo hi μ k => match x with | .tup xs => k (.tup (cutD xs lo hi)) μ | _ => False
theorem okSlT : OkSl K (rSlA K) oSlT := fun x a lo hi μ G H k Q w rx q t => by
  cases rx with
  | @tup p0 vs0 ds0 h r =>
    have q : k (.tup (cutD ds0 lo hi)) μ := q
    refine ⟨_, _, rfl, SqT.of (w.ex _ _ h), fun z => ?_, fun z p hp => mkTup w (cut_rep r lo hi) q t p hp⟩
    have e : cutD ds0 lo hi = ds0 := by
      unfold cutD
      rw [← r.length, z.1, z.2, List.drop_zero, Nat.sub_zero, r.length, List.take_length]
    rw [e] at q
    exact t _ _ μ G H q w (Go.refl _ _ _) (.tup h r)
  | _ => exact q.elim
end
end DL


set_option Elab.async false
set_option linter.all false
set_option maxRecDepth 100000
set_option maxHeartbeats 4000000
/-! DLc: what is walked, comprehensions, statements over data. -/
namespace DL
open PySem PySem.Spec PyProof.Rows L2 SlX

/-- what is walked: n turns, at turn i the data at_ i, as long as ok stands -/
structure DIt where
  n : Nat
  at_ : Nat → Option D
  ok : Mu → Prop
abbrev RI := Sl → Mu → (DIt → Mu → Prop) → Prop
section
variable (K : PySem.W.Frag)
def ItOk (G : Hp) (J : It) (it : DIt) : Prop := ∀ (i : Nat) (μ : Mu) (G1 H1 : Hp), Ex G G1 → Wd K G1 H1 μ → it.ok μ →
  (it.n = i → J.stop i H1) ∧ (i < it.n → J.go i H1 ∧ ∀ x H2, J.yld i H1 x H2 → ∃ d G2, it.at_ i = some d ∧ Wd K G2 H2 μ ∧ Go μ G1 H1 μ G2 H2 ∧ Rep K G2 x d)
def OkI (wi : TI) (ri : RI) : Prop := ∀ (σ : L2.St) (δ : Sl) (μ : Mu) (G H : Hp) (k : DIt → Mu → Prop) (R : It → Hp → Prop), SlOk K G σ δ → Wd K G H μ → ri δ μ k →
  (∀ J it μ' G' H', k it μ' → Wd K G' H' μ' → Go μ G H μ' G' H' → ItOk K G' J it → R J H') → wi σ H R
end
structure DI (X : Cx) (tg e : Expr) (wi : TI) (ri : RI) : Prop where
  p : PI X tg e wi
  o : OkI X.K wi ri
section
variable {K : PySem.W.Frag}
/-- a sequence's walk -/
def itL (ds : List D) : DIt := ⟨ds.length, fun i => ds[i]?, fun _ => True⟩
def itO (p : Addr) (ds : List D) : DIt := ⟨ds.length, fun i => ds[i]?, fun μ => μ p = some (.l ds)⟩
@[simp] def itOf (μ : Mu) : D → Option DIt
  | .lst ds => some (itL ds)
  | .own p => (lsAt μ p).map (itO p)
  | _ => none
theorem itOk_list {G H : Hp} {μ : Mu} {v : V} {d : D} {it : DIt} (w : Wd K G H μ) (r : Rep K G v d) (e : itOf μ d = some it) : ∃ a, v = .ref a ∧ (∃ xs, SqL K H a xs) ∧ ItOk K G (Itl K a) it := by
  cases r with
  | @lst a vs ds h q =>
    cases e
    refine ⟨a, rfl, ⟨vs, SqL.of (w.ex _ _ h)⟩, fun i μ1 G1 H1 e1 w1 _ => ⟨fun hi => ⟨vs, SqL.of (w1.ex _ _ (e1 _ _ h)), by rw [q.length]; exact Nat.le_of_eq hi⟩, fun hi => ?_⟩⟩
    have hv : i < vs.length := by rw [q.length]; exact hi
    have hs : SqL K H1 a vs := SqL.of (w1.ex _ _ (e1 _ _ h))
    refine ⟨⟨vs, vs[i], hs, List.getElem?_eq_getElem hv⟩, fun x H2 ⟨hH, hx⟩ => ?_⟩
    subst hH
    obtain ⟨d, h1, h2⟩ := q.get (hx vs hs)
    exact ⟨d, G1, h1, w1, Go.refl _ _ _, h2.mono e1⟩
  | own p =>
    unfold itOf at e
    rw [Option.map_eq_some_iff] at e
    obtain ⟨ds, q, e⟩ := e
    · cases e
      obtain ⟨_, vs, h, _⟩ := w.muL p ds (lsAt_iff.mp q)
      refine ⟨p, rfl, ⟨vs, SqL.of h⟩, fun i μ1 G1 H1 e1 w1 ok => ?_⟩
      obtain ⟨_, vs1, h1, r1⟩ := w1.muL p ds ok
      have hs : SqL K H1 p vs1 := SqL.of h1
      refine ⟨fun hi => ⟨vs1, hs, by rw [r1.length]; exact Nat.le_of_eq hi⟩, fun hi => ?_⟩
      have hv : i < vs1.length := by rw [r1.length]; exact hi
      refine ⟨⟨vs1, vs1[i], hs, List.getElem?_eq_getElem hv⟩, fun x H2 ⟨hH, hx⟩ => ?_⟩
      subst hH
      obtain ⟨d, h2, h3⟩ := r1.get (hx vs1 hs)
      exact ⟨d, G1, h2, w1, Go.refl _ _ _, h3⟩
  | _ => cases e
@[simp] def rIL (ra : RE) : RI := fun δ μ k => ra δ μ fun d μ1 => ∃ it, itOf μ1 d = some it ∧ k it μ1
theorem okI_list {tl : TE} {ra : RE} (h : OkE K tl ra) : OkI K (iList K tl) (rIL ra) := fun σ δ μ G H k R S w q b =>
  h σ δ μ G H _ _ S w q fun v d μ1 G1 H1 ⟨it, e, q1⟩ w1 g1 r1 => by
    obtain ⟨a, rfl, hx, ok⟩ := itOk_list w1 r1 e
    exact ⟨a, rfl, hx, b _ it μ1 G1 H1 q1 w1 g1 ok⟩
theorem itOk_tup {G : Hp} {a : Addr} {vs : List V} {ds : List D} (h : G a = some (.tup vs)) (q : RepL K G vs ds) : ItOk K G (Itt K a) (itL ds) := fun i μ1 G1 H1 e1 w1 _ => by
  have hs : SqT K H1 a vs := SqT.of (w1.ex _ _ (e1 _ _ h))
  refine ⟨fun hi => ⟨vs, hs, by rw [q.length]; exact Nat.le_of_eq hi⟩, fun hi => ?_⟩
  have hv : i < vs.length := by rw [q.length]; exact hi
  refine ⟨⟨vs, vs[i], hs, List.getElem?_eq_getElem hv⟩, fun x H2 ⟨hH, hx⟩ => ?_⟩
  subst hH
  obtain ⟨d, h1, h2⟩ := q.get (hx vs hs)
  exact ⟨d, G1, h1, w1, Go.refl _ _ _, h2.mono e1⟩
@[simp] def rIT (ra : RE) : RI := fun δ μ k => ra δ μ fun d μ1 => match d with | .tup ds => k (itL ds) μ1 | _ => False
theorem okI_tup {tl : TE} {ra : RE} (h : OkE K tl ra) : OkI K (iTup K tl) (rIT ra) := fun σ δ μ G H k R S w q b =>
  h σ δ μ G H _ _ S w q fun v d μ1 G1 H1 q1 w1 g1 r1 => by
    cases r1 with
    | tup hs rr => exact ⟨_, rfl, ⟨_, SqT.of (w1.ex _ _ hs)⟩, b _ _ μ1 G1 H1 q1 w1 g1 (itOk_tup hs rr)⟩
    | _ => exact q1.elim
/-- range -/
def itR (lo : Int) (n : Nat) : DIt := ⟨n, fun i => some (.int (lo + i)), fun _ => True⟩
theorem itOk_range {G : Hp} {lo : Int} {n : Nat} : ItOk K G (Itr lo n) (itR lo n) := fun i μ1 G1 H1 e1 w1 _ =>
  ⟨fun hi => Nat.le_of_eq hi, fun hi => ⟨hi, fun x H2 ⟨hH, hx⟩ => by subst hH; subst hx; exact ⟨_, G1, rfl, w1, Go.refl _ _ _, .int _⟩⟩⟩
@[simp] def rIR1 (ra : RA) : RI := fun δ μ k => ra δ μ fun ds μ1 => match ds with | [.int j] => (-1000000 ≤ j ∧ j ≤ 1000000) ∧ k (itR 0 j.toNat) μ1 | _ => False
theorem okI_range1 {ta : TA} {ra : RA} (h : OkA K ta ra) : OkI K (iRng1 ta) (rIR1 ra) := fun σ δ μ G H k R S w q b =>
  h σ δ μ G H _ _ S w q fun vs ds μ1 G1 H1 q1 w1 g1 r1 => by
    split at q1
    · rename_i j
      cases r1 with
      | cons a t =>
        cases a; cases t
        exact ⟨j, rfl, by omega, by omega, b _ _ μ1 G1 H1 q1.2 w1 g1 itOk_range⟩
    · exact q1.elim
@[simp] def rIR2 (ra : RA) : RI := fun δ μ k => ra δ μ fun ds μ1 => match ds with | [.int i, .int j] => (-1000000 ≤ i ∧ i ≤ 1000000 ∧ -1000000 ≤ j ∧ j ≤ 1000000) ∧ k (itR i (j - i).toNat) μ1 | _ => False
theorem okI_range2 {ta : TA} {ra : RA} (h : OkA K ta ra) : OkI K (iRng2 ta) (rIR2 ra) := fun σ δ μ G H k R S w q b =>
  h σ δ μ G H _ _ S w q fun vs ds μ1 G1 H1 q1 w1 g1 r1 => by
    split at q1
    · rename_i i j
      cases r1 with
      | cons a t =>
        cases a
        cases t with
        | cons a t =>
          cases a; cases t
          exact ⟨i, j, rfl, ⟨by omega, by omega, by omega, by omega⟩, b _ _ μ1 G1 H1 q1.2 w1 g1 itOk_range⟩
    · exact q1.elim
def rIR3 (ra : RA) : RI := fun δ μ k => ra δ μ fun ds μ1 => match ds with | [.int i, .int j, .int c] => ∃ n, RgC i j c n ∧ k ⟨n, fun t => some (.int (i + (t : Nat) * c)), fun _ => True⟩ μ1 | _ => False
theorem okI_range3 {ta : TA} {ra : RA} (h : OkA K ta ra) : OkI K (iRng3 ta) (rIR3 ra) := fun σ δ μ G H k R S w q b =>
  h σ δ μ G H _ _ S w q fun vs ds μ1 G1 H1 q1 w1 g1 r1 => by
    split at q1
    · rename_i i j c
      cases r1 with
      | cons a t =>
        cases a
        cases t with
        | cons a t =>
          cases a
          cases t with
          | cons a t =>
            cases a; cases t
            obtain ⟨n, hn, q2⟩ := q1
            exact ⟨i, j, c, n, rfl, hn, b _ _ μ1 G1 H1 q2 w1 g1 fun i2 μ2 G2 H2 e1 w2 _ =>
              ⟨fun hi => Nat.le_of_eq hi, fun hi => ⟨hi, fun x H3 ⟨hH, hx⟩ => by subst hH; subst hx; exact ⟨_, G2, rfl, w2, Go.refl _ _ _, .int _⟩⟩⟩⟩
    · exact q1.elim
theorem OkI.or {wi wj : TI} {ri rj : RI} (h : OkI K wi ri) (h' : OkI K wj rj) : OkI K (fun σ H R => wi σ H R ∨ wj σ H R) (fun δ μ k => ri δ μ k ∨ rj δ μ k) := fun σ δ μ G H k R S w q b => by
  rcases q with q | q
  · exact .inl (h σ δ μ G H k R S w q b)
  · exact .inr (h' σ δ μ G H k R S w q b)
end
theorem pi_or {X : Cx} {tg e : Expr} {wi wj : TI} (h : PI X tg e wi) (h' : PI X tg e wj) : PI X tg e (fun σ H R => wi σ H R ∨ wj σ H R) := ⟨fun pins s σ H R I q => by
  rcases q with q | q
  · exact h.run pins s σ H R I q
  · exact h'.run pins s σ H R I q⟩

/-! ### zip of lists and tuples in any mix -/
section
variable {K : PySem.W.Frag}
/-- true: a list; false: a tuple -/
def SqA (c : Bool) (K : PySem.W.Frag) (H : Hp) (a : Addr) (xs : List V) : Prop := if c = true then SqL K H a xs else SqT K H a xs
def IterA (c : Bool) (h : Heap) (it a : Addr) (i : Nat) : Prop := if c = true then h.IsListIter it a i else h.IsTupleIter it a i
def IsA (c : Bool) (h : Heap) (a : Addr) (its : Array Value) : Prop := if c = true then h.IsList a its else h.IsTuple a its
theorem inv_sqA {X : Cx} {pins : List (Addr × Obj)} {σ : L2.St} {H : Hp} {s : Shared} {c : Bool} {a : Addr} {xs : List V} (I : Inv X pins σ H s) (h : SqA c X.K H a xs) : ∃ its : List Value, Vals xs its ∧ IsA c s.heap a its.toArray := by
  cases c with
  | true => obtain ⟨its, r, p, _⟩ := I.list h; exact ⟨its, r, p.isList⟩
  | false => obtain ⟨its, r, p, _⟩ := I.tuple h; exact ⟨its, r, p⟩
theorem inv_injA {X : Cx} {pins : List (Addr × Obj)} {σ : L2.St} {H : Hp} {s : Shared} {c : Bool} {a : Addr} {xs ys : List V} (I : Inv X pins σ H s) (h : SqA c X.K H a xs) (h' : SqA c X.K H a ys) : xs = ys := by
  cases c with
  | true => exact I.list_inj h h'
  | false => exact I.tuple_inj h h'
theorem isA_lt {c : Bool} {h : Heap} {a : Addr} {its : Array Value} (p : IsA c h a its) : a < h.objs.size := by
  cases c with
  | true => obtain ⟨o, e, _⟩ := p; exact Heap.lt_size e
  | false => obtain ⟨o, e, _⟩ := p; exact Heap.lt_size e
theorem iterA_at {c : Bool} {h h' : Heap} {it a : Addr} {i : Nat} (x : IterA c h it a i) (k : ∀ o, h.get? it = some o → h'.get? it = some o) : IterA c h' it a i := by
  cases c with
  | true => exact Heap.IsListIter.at x k
  | false => exact Heap.IsTupleIter.at x k
theorem iterA_obj {c : Bool} {h : Heap} {it a : Addr} {i : Nat} (x : IterA c h it a i) : ∃ o, h.get? it = some o ∧ ∀ v, o.data ≠ .cell v := by
  cases c with
  | true => obtain ⟨o, e, _, d⟩ := x; exact ⟨o, e, fun v q => by rw [d] at q; cases q⟩
  | false => obtain ⟨o, e, _, d⟩ := x; exact ⟨o, e, fun v q => by rw [d] at q; cases q⟩
theorem drawsA {prog : Program} {w : World} {A : Around} (hh : A.handled = none) (c : Bool) (it a : Addr) (hne : a ≠ it) (its : Array Value) :
    Draws prog w A it [it, a] its.size (fun i v => its[i]? = some v) (fun i h => IterA c h it a i ∧ IsA c h a its) := by
  cases c with
  | true => exact Draws.list hh it a hne its
  | false => exact Draws.tuple hh it a hne its
theorem beginsA (c : Bool) (a : Addr) (its : Array Value) : Begins (.ref a) (objA c a) (fun h => IsA c h a its) := by
  cases c with
  | true => exact begins_list a its
  | false => exact begins_tuple a its
theorem iterA_0 {c : Bool} {h : Heap} {it a : Addr} (e : h.get? it = some (objA c a)) : IterA c h it a 0 := by
  cases c with
  | true => exact ⟨_, e, rfl, rfl⟩
  | false => exact ⟨_, e, rfl, rfl⟩
/-- what zip over the sequences at a and b walks -/
def ItzM (c1 c2 : Bool) (K : PySem.W.Frag) (a b : Addr) : It where
  go := fun i H => ∃ xs ys x y, SqA c1 K H a xs ∧ SqA c2 K H b ys ∧ xs[i]? = some x ∧ ys[i]? = some y
  yld := fun i H v H' => ∃ T x y, v = V.ref T ∧ H T = none ∧ H' = upd H T (.tup [x, y]) ∧
    (∀ xs, SqA c1 K H a xs → xs[i]? = some x) ∧ (∀ ys, SqA c2 K H b ys → ys[i]? = some y)
  stop := fun i H => ∃ xs ys, SqA c1 K H a xs ∧ SqA c2 K H b ys ∧ i = min xs.length ys.length
theorem mem5 {c z TI TO i1 i2 : Addr} (h : c ∈ [z, TI, TO, i1, i2]) : c = z ∨ c = TI ∨ c = TO ∨ c = i1 ∨ c = i2 := by simpa using h
theorem turn_zipM {P : Program} {w : World} {elts : List Expr} {kk : Nat} {tpos : Pos} {c1 c2 : Bool} {a b z TI TO i1 i2 : Addr} (S : ZipSep2 z TI TO i1 i2 [i1, a] [i2, b]) (ha : a ≠ i1) (hb : b ≠ i2) :
    Turn P w K (.Tuple elts kk tpos) (ItzM c1 c2 K a b) [z, TI, TO, i1, i2] z
      (fun i h => IsZip h z TI TO .none ∧ IsTupOf2 h TI (.ref i1) (.ref i2) ∧ (∃ x y, IsTupOf2 h TO x y) ∧ IterA c1 h i1 a i ∧ IterA c2 h i2 b i) where
  mem := by simp
  obj := fun i h ⟨hz, hTI, ⟨x, y, hTO⟩, h1, h2⟩ c hc => by
    rcases mem5 hc with q | q | q | q | q
    · subst q; exact ⟨_, hz, fun v e => nomatch e⟩
    · subst q; exact ⟨_, hTI, fun v e => nomatch e⟩
    · subst q; exact ⟨_, hTO, fun v e => nomatch e⟩
    · subst q; exact iterA_obj h1
    · subst q; exact iterA_obj h2
  keep := fun i h h' ⟨hz, hTI, ⟨x, y, hTO⟩, h1, h2⟩ k =>
    ⟨k z (by simp) _ hz, k TI (by simp) _ hTI, ⟨x, y, k TO (by simp) _ hTO⟩, iterA_at h1 (k i1 (by simp)), iterA_at h2 (k i2 (by simp))⟩
  item := by
    intro X hP hw hK hc i pins s σ H E I hf ⟨hz, hTI, hTO, h1, h2⟩ hg
    subst hP hw hK
    obtain ⟨xs, ys, x, y, sx, sy, ex, ey⟩ := hg
    obtain ⟨its, rv, p1⟩ := inv_sqA I sx
    obtain ⟨jts, rw, p2⟩ := inv_sqA I sy
    obtain ⟨u, hu, ru⟩ := rv.get ex
    obtain ⟨u', hu', ru'⟩ := rw.get ey
    have hh : X.A.in1.handled = none := I.ok.hd hc
    have W := WalksT.zipD2 (prog := X.prog) (w := X.w) (A := X.A) S (drawsA hh c1 i1 a ha its.toArray) (drawsA hh c2 i2 b hb jts.toArray)
    have l1 : i < its.length := (List.getElem?_eq_some_iff.mp hu).1
    have l2 : i < jts.length := (List.getElem?_eq_some_iff.mp hu').1
    refine W.item i s _ _ (by simp; omega) ⟨hz, hTI, hTO, ⟨h1, p1⟩, ⟨h2, p2⟩⟩ fun T vals h' tk hv hT hIs mid hk => ?_
    obtain ⟨x1, x2, e1, e2, rfl⟩ := hv
    have e1 : x1 = u := by have e1 : its.toArray[i]? = some x1 := e1; rw [List.getElem?_toArray, hu] at e1; exact (Option.some.inj e1).symm
    have e2 : x2 = u' := by have e2 : jts.toArray[i]? = some x2 := e2; rw [List.getElem?_toArray, hu'] at e2; exact (Option.some.inj e2).symm
    subst e1 e2
    have apart := W.apart i T h' mid
    refine ⟨_, rfl, W.go elts kk tpos i T { s with heap := h', toks := tk } _ _ mid fun h'' st hk2 => ?_⟩
    obtain ⟨hz', hTI', hTO', ⟨h1', _⟩, ⟨h2', _⟩⟩ := st
    have hTn : H T = none := I.hok.fresh hT
    have tneq : ∀ c, c ∈ [z, TI, TO, i1, i2] → c < T := fun c hm => by
      have q : c < s.heap.objs.size := by
        rcases mem5 hm with q | q | q | q | q
        · subst q; exact Heap.lt_size hz
        · subst q; exact Heap.lt_size hTI
        · subst q; obtain ⟨_, _, e⟩ := hTO; exact Heap.lt_size e
        · subst q; obtain ⟨_, e, _⟩ := iterA_obj h1; exact Heap.lt_size e
        · subst q; obtain ⟨_, e, _⟩ := iterA_obj h2; exact Heap.lt_size e
      exact Nat.lt_of_lt_of_le q hT
    obtain ⟨oT, eT, cT, nT, dT⟩ := id hIs
    have new : ObjOk X.prog X.w (upd H T (.tup [x, y])) h'' T (.tup [x, y]) :=
      ⟨by show 2 ≤ sizeLine; decide, [x1, x2], .cons ru (.cons ru' .nil), ⟨oT, hk2 T oT apart eT, cT, nT, dT⟩⟩
    refine ⟨.ref T, _, I.turnedNew (t' := tk) (ch := [z, TI, TO, i1, i2]) (fun c o hb q => ?_) hf hT new, rfl, ⟨T, x, y, rfl, hTn, rfl, fun l hl => by rw [inv_injA I hl sx]; exact ex, fun l hl => by rw [inv_injA I hl sy]; exact ey⟩,
      ⟨hz', hTI', hTO', h1', h2'⟩, fun c hm => ?_⟩
    · have hb' : c ∉ [z, TO, i1, i2] := fun q' => hb (by
        have : c = z ∨ c = TO ∨ c = i1 ∨ c = i2 := by simpa using q'
        rcases this with r | r | r | r <;> simp [r])
      exact hk2 c o hb' (hk c o hb' q)
    · rw [upd_ne (Nat.ne_of_lt (tneq c hm))]
      exact (hf c hm).1
  done := by
    intro X hP hw hK hc i pins s σ H E I hf ⟨hz, hTI, hTO, h1, h2⟩ hg
    subst hP hw hK
    obtain ⟨xs, ys, sx, sy, hend⟩ := hg
    obtain ⟨its, rv, p1⟩ := inv_sqA I sx
    obtain ⟨jts, rw, p2⟩ := inv_sqA I sy
    have hh : X.A.in1.handled = none := I.ok.hd hc
    have l1 := rv.length
    have l2 := rw.length
    have W := WalksT.zipD2 (prog := X.prog) (w := X.w) (A := X.A) S (drawsA hh c1 i1 a ha its.toArray) (drawsA hh c2 i2 b hb jts.toArray)
    have ei : i = min its.toArray.size jts.toArray.size := by rw [hend, l1, l2]; simp
    rw [ei] at h1 h2
    refine W.done s _ _ ⟨hz, hTI, hTO, ⟨h1, p1⟩, ⟨h2, p2⟩⟩ fun h' tk hk => ⟨rfl, I.turnedL (t' := tk) (ch := [z, TI, TO, i1, i2]) (fun c o hb q => hk c o (fun q' => hb ?_) q) hf⟩
    have : c = z ∨ c = TO ∨ c = i1 ∨ c = i2 := by simpa using q'
    rcases this with r | r | r | r <;> simp [r]
  self := fun A i s Q E st h => wpAny_pyIter_zip st.1 h
end
end DL


set_option Elab.async false
set_option linter.all false
set_option maxRecDepth 100000
set_option maxHeartbeats 4000000
/-! DLd: zip's rule, targets, comprehensions, statements, loops over data. -/
namespace DL
open PySem PySem.Spec PyProof.Rows L2 SlX

section
variable {K : PySem.W.Frag}
theorem asQ_outA {μ : Mu} {G H : Hp} {v : V} {d : D} {ds : List D} (w : Wd K G H μ) (r : Rep K G v d) (e : asQ μ d = some ds) : ∃ a vs, v = .ref a ∧ SqA (kindA d) K H a vs ∧ RepL K G vs ds := by
  cases r with
  | lst h q => cases e; exact ⟨_, _, rfl, SqL.of (w.ex _ _ h), q⟩
  | own p =>
    obtain ⟨_, vs, h, q⟩ := w.muL p ds (lsAt_iff.mp e)
    exact ⟨_, vs, rfl, SqL.of h, q⟩
  | tup h q => cases e; exact ⟨_, _, rfl, SqT.of (w.ex _ _ h), q⟩
  | _ => cases e
def iZipM (K : PySem.W.Frag) (ta : TA) : TI := fun σ H R => ta σ H fun vs H1 => ∃ (c1 c2 : Bool) (a b : Addr) (xs ys : List V), vs = [V.ref a, V.ref b] ∧ SqA c1 K H1 a xs ∧ SqA c2 K H1 b ys ∧ R (ItzM c1 c2 K a b) H1
theorem pi_zipM {X : Cx} {e e2 : Expr} {ta : TA} {p pos tpos : Pos} {elts : List Expr} {kk : Nat} (hg : Gl X "zip") (hm : X.mg "zip" = none) (ha : PA X [e, e2] ta)
    (hs : starEach [e, e2] X.env = (false, eval e X.env) :: starEach [e2] X.env := by rfl) (hpl : (backTo pos (starEach [e2] X.env)).any (·.1) = false := by rfl) :
    PI X (.Tuple elts kk tpos) (.Call (.Name "zip" p) [e, e2] [] pos) (iZipM X.K ta) := ⟨fun pins s σ H R I h => by
  refine Call_ (ld_blt I hg hm PyProof.Rows.boot_zip (PyProof.Rows.callWith_type1 (thn (ha.run pos pins s σ H _ I h) fun us s1 ⟨vs, H1, I1, r1, q1⟩ => ?_) hs hpl))
  obtain ⟨c1, c2, a, b, xs, ys, rfl, sx, sy, q⟩ := q1
  obtain ⟨u1, u2, rfl, e1, e2⟩ := vals2 r1
  cases e1
  cases e2
  obtain ⟨its, rv, p1⟩ := inv_sqA I1 sx
  obtain ⟨jts, rw, p2⟩ := inv_sqA I1 sy
  have la := isA_lt p1
  have lb := isA_lt p2
  refine zip_begins2 (beginsA c1 a its.toArray) (beginsA c2 b jts.toArray) p1 p2 fun h' hz hTI hTO g1 g2 hsz hk => wpAny_pyIter_zip hz ?_
  have I2 : Inv X pins σ H1 { s1 with heap := h' } := I1.kept (t' := s1.toks) hk
  have sep := zip_sep2 (N := s1.heap.objs.size) (fp1 := [a]) (fp2 := [b]) (fun c hc => by rw [List.mem_singleton.mp hc]; exact la) (fun c hc => by rw [List.mem_singleton.mp hc]; exact lb)
  have na : a ≠ s1.heap.objs.size := Nat.ne_of_lt la
  have nb : b ≠ s1.heap.objs.size + 1 := Nat.ne_of_lt (Nat.lt_succ_of_lt lb)
  refine ⟨s1.heap.objs.size + 4, [s1.heap.objs.size + 4, s1.heap.objs.size + 2, s1.heap.objs.size + 3, s1.heap.objs.size, s1.heap.objs.size + 1], _, _, H1, rfl, I2, turn_zipM (c1 := c1) (c2 := c2) sep na nb,
    ⟨hz, hTI, ⟨_, _, hTO⟩, iterA_0 g1, iterA_0 g2⟩, fun c hc => ?_, q⟩
  have hle : s1.heap.objs.size ≤ c := by
    rcases mem5 hc with r | r | r | r | r
    · rw [r]; exact Nat.le_add_right _ _
    · rw [r]; exact Nat.le_add_right _ _
    · rw [r]; exact Nat.le_add_right _ _
    · rw [r]; exact Nat.le_refl _
    · rw [r]; exact Nat.le_add_right _ _
  exact I1.fpOk hle (I1.hok.fresh hle)⟩
@[simp] def pairD : Option D → Option D → Option D
  | some x, some y => some (.tup [x, y])
  | _, _ => none
def itZ (x y : D) (xs ys : List D) : DIt := ⟨min xs.length ys.length, fun i => pairD xs[i]? ys[i]?, fun μ => asQ μ x = some xs ∧ asQ μ y = some ys⟩
@[simp] def rIZ (ra : RA) : RI := fun δ μ k => ra δ μ fun ds μ1 => match ds with | [x, y] => ∃ xs ys, asQ μ1 x = some xs ∧ asQ μ1 y = some ys ∧ k (itZ x y xs ys) μ1 | _ => False
theorem itOk_zip {G : Hp} {va vb : Addr} {x y : D} {xs ys : List D} (r1 : Rep K G (.ref va) x) (r2 : Rep K G (.ref vb) y) : ItOk K G (ItzM (kindA x) (kindA y) K va vb) (itZ x y xs ys) := fun i μ G1 H1 e w ⟨o1, o2⟩ => by
  obtain ⟨a, vs, ea, sa, ra⟩ := asQ_outA w (r1.mono e) o1
  obtain ⟨b, ws, eb, sb, rb⟩ := asQ_outA w (r2.mono e) o2
  cases ea; cases eb
  refine ⟨fun hi => ⟨vs, ws, sa, sb, by rw [ra.length, rb.length]; exact hi.symm⟩, fun hi => ?_⟩
  have hi : i < min xs.length ys.length := hi
  have l1 : i < vs.length := by rw [ra.length]; omega
  have l2 : i < ws.length := by rw [rb.length]; omega
  refine ⟨⟨vs, ws, vs[i], ws[i], sa, sb, List.getElem?_eq_getElem l1, List.getElem?_eq_getElem l2⟩, fun v H2 ⟨T, u, u', hv, hT, hH, h1, h2⟩ => ?_⟩
  subst hv hH
  obtain ⟨d1, g1, q1⟩ := ra.get (h1 vs sa)
  obtain ⟨d2, g2, q2⟩ := rb.get (h2 ws sb)
  refine ⟨.tup [d1, d2], upd G1 T (.tup [u, u']), ?_, w.new hT, Go.new w hT, .tup upd_same (.cons (q1.mono (Ex.new (w.gnone hT))) (.cons (q2.mono (Ex.new (w.gnone hT))) .nil))⟩
  show pairD xs[i]? ys[i]? = _
  rw [g1, g2]
  rfl
theorem okI_zip {ta : TA} {ra : RA} (h : OkA K ta ra) : OkI K (iZipM K ta) (rIZ ra) := fun σ δ μ G H k R S w q b =>
  h σ δ μ G H _ _ S w q fun vs ds μ1 G1 H1 q1 w1 g1 r1 => by
    split at q1
    · rename_i x y
      obtain ⟨xs, ys, e1, e2, q2⟩ := q1
      cases r1 with
      | cons a t =>
        cases t with
        | cons a' t =>
          cases t
          obtain ⟨p, vs1, rfl, s1, _⟩ := asQ_outA w1 a e1
          obtain ⟨p', vs2, rfl, s2, _⟩ := asQ_outA w1 a' e2
          exact ⟨_, _, p, p', vs1, vs2, rfl, s1, s2, b _ _ μ1 G1 H1 q2 w1 g1 (itOk_zip a a')⟩
    · exact q1.elim

/-! ### targets -/
@[simp] def rgName (i : Nat) : RG := fun d δ μ k => k (δ.set i (some d)) μ
theorem okG_name (i : Nat) : OkG K (gName i) (rgName i) [i] := fun v d σ δ μ G H k Q S w r q b =>
  b _ _ μ G H q (S.set r i) w (Go.refl _ _ _) ⟨List.length_set, fun j hj => List.getElem?_set_ne (fun e => hj (by simp [e]))⟩
abbrev RGs := List D → Sl → Mu → (Sl → Mu → Prop) → Prop
def OkGs (K : PySem.W.Frag) (g : TGs) (r : RGs) (js : List Nat) : Prop := ∀ (vs : List V) (ds : List D) (σ : L2.St) (δ : Sl) (μ : Mu) (G H : Hp) (k : Sl → Mu → Prop) (Q : L2.St → Hp → Prop), SlOk K G σ δ → Wd K G H μ → RepL K G vs ds → r ds δ μ k →
  (∀ σ' δ' μ' G' H', k δ' μ' → SlOk K G' σ' δ' → Wd K G' H' μ' → Go μ G H μ' G' H' → (σ'.length = σ.length ∧ ∀ i, i ∉ js → σ'[i]? = σ[i]?) → Q σ' H') → g vs σ H Q
@[simp] def rgNil : RGs := fun ds δ μ k => match ds with | [] => k δ μ | _ => False
@[simp] def rgCons (r : RG) (rr : RGs) : RGs := fun ds δ μ k => match ds with | d :: ds => r d δ μ fun δ1 μ1 => rr ds δ1 μ1 k | [] => False
theorem okGs_nil : OkGs K gNil rgNil [] := fun vs ds σ δ μ G H k Q S w r q b => by
  cases r with
  | nil => exact ⟨rfl, b σ δ μ G H q S w (Go.refl _ _ _) ⟨rfl, fun _ _ => rfl⟩⟩
  | cons _ _ => exact q.elim
theorem okGs_cons {g : TG} {gs : TGs} {r : RG} {rr : RGs} {js is : List Nat} (h : OkG K g r js) (hs : OkGs K gs rr is) : OkGs K (gCons g gs) (rgCons r rr) (js ++ is) := fun vs ds σ δ μ G H k Q S w rl q b => by
  cases rl with
  | nil => exact q.elim
  | cons r1 r2 =>
    refine ⟨_, _, rfl, h _ _ σ δ μ G H _ _ S w r1 q fun σ1 δ1 μ1 G1 H1 q1 S1 w1 g1 l1 => hs _ _ σ1 δ1 μ1 G1 H1 k Q S1 w1 (r2.mono g1.eg) q1 fun σ2 δ2 μ2 G2 H2 q2 S2 w2 g2 l2 => b σ2 δ2 μ2 G2 H2 q2 S2 w2 (g1.trans g2) ⟨l2.1.trans l1.1, fun i hi => ?_⟩⟩
    rw [l2.2 i (fun z => hi (List.mem_append_right _ z)), l1.2 i (fun z => hi (List.mem_append_left _ z))]
@[simp] def rgTup (n : Nat) (r : RGs) : RG := fun d δ μ k => match d with | .tup ds => ds.length = n ∧ r ds δ μ k | _ => False
theorem okG_tup {n : Nat} {gs : TGs} {r : RGs} {js : List Nat} (h : OkGs K gs r js) : OkG K (gTup K n gs) (rgTup n r) js := fun v d σ δ μ G H k Q S w rp q b => by
  cases rp with
  | tup hs rl => exact ⟨_, _, rfl, SqT.of (w.ex _ _ hs), rl.length.trans q.1, h _ _ σ δ μ G H k Q S w rl q.2 b⟩
  | _ => exact q.elim
/-- xs[i] = v, xs a list that changes -/
@[simp] def rgSetL (ro ri : RE) : RG := fun d δ μ k => ro δ μ fun o μ1 => ri δ μ1 fun i μ2 => match o, i with
  | .own p, .int i => ∃ ds j, μ2 p = some (.l ds) ∧ ixN ds.length i = some j ∧ k δ (muSet μ2 p (ds.set j d))
  | _, _ => False
theorem okG_setL {to ti : TE} {ro ri : RE} (ho : OkE K to ro) (hi : OkE K ti ri) : OkG K (gSub to ti rSetL) (rgSetL ro ri) [] := fun v d σ δ μ G H k Q S w rp q b =>
  ho σ δ μ G H _ _ S w q fun x dx μ1 G1 H1 q1 w1 g1 r1 => hi σ δ μ1 G1 H1 _ _ (S.mono g1.eg) w1 q1 fun y dy μ2 G2 H2 q2 w2 g2 r2 => by
    have r1 := r1.mono g2.eg
    cases r1 with
    | own p =>
      cases r2 with
      | int i =>
        obtain ⟨ds, j, e1, e2, q3⟩ := q2
        obtain ⟨_, vs, h, rl⟩ := w2.muL p ds e1
        have rl2 := RepL.set (rp.mono (g1.eg.trans g2.eg)) j rl
        exact ⟨p, vs, i, j, rfl, rfl, h, by rw [rl.length]; exact e2, b σ δ _ G2 _ q3 (S.mono (g1.eg.trans g2.eg)) (w2.wr e1 rl2) ((g1.trans g2).trans (Go.wr e1)) ⟨rfl, fun _ _ => rfl⟩⟩
      | _ => exact q2.elim
    | _ => exact q2.elim

/-! ### comprehensions -/
@[simp] def wipeD (δ : Sl) : List Nat → Sl
  | [] => δ
  | v :: vs => (wipeD δ vs).set v none
theorem SlOk.wipe {G : Hp} {σ : L2.St} {δ : Sl} (h : SlOk K G σ δ) : ∀ vs : List Nat, SlOk K G (L2.wipe σ vs) (wipeD δ vs)
  | [] => h
  | v :: vs => (SlOk.wipe h vs).unset v none
theorem wipe_of {σ σ' : L2.St} {vs : List Nat} (hl : σ'.length = σ.length) (h : ∀ i, i ∉ vs → σ'[i]? = σ[i]?) : L2.wipe σ' vs = L2.wipe σ vs := by
  apply List.ext_getElem?
  intro i
  by_cases hi : i ∈ vs
  · have both : ∀ τ : L2.St, (L2.wipe τ vs)[i]? = if i < τ.length then some none else none := fun τ => by
      by_cases hl : i < τ.length
      · rw [if_pos hl]
        have hw : i < (L2.wipe τ vs).length := by rw [wipe_length]; exact hl
        cases e : (L2.wipe τ vs)[i]? with
        | none => rw [List.getElem?_eq_none_iff] at e; omega
        | some o =>
          cases o with
          | none => rfl
          | some x => exact absurd hi (wipe_some e).2
      · rw [if_neg hl, List.getElem?_eq_none_iff.mpr (by rw [wipe_length]; omega)]
    rw [both, both, hl]
  · rw [wipe_out hi, wipe_out hi]
    exact h i hi
theorem wipe_wipe (σ : L2.St) (vs : List Nat) : L2.wipe (L2.wipe σ vs) vs = L2.wipe σ vs := wipe_of (wipe_length σ vs) fun i hi => wipe_out hi
@[simp] def rYes : RT := fun _ μ k => k true μ
theorem okT_yes : OkT K tYes rYes := fun σ δ μ G H k Q S w q b => b true μ G H q w (Go.refl _ _ _)
set_option checkBinderAnnotations false in
def rLcW (it : DIt) (rg : RG) (rt : RT) (re : RE) (vs : List Nat) (δ : Sl) (μ1 : Mu) [fin : List D → Mu → Prop] : Prop :=
  it.n ≤ 1000000 ∧ ∃ Inv : Nat → List D → Mu → Prop, Inv 0 [] μ1 ∧ (∀ i acc μ, Inv i acc μ → it.ok μ) ∧
    (∀ i acc μ d, i < it.n → it.at_ i = some d → Inv i acc μ → rg d (wipeD δ vs) μ fun δ2 μ2 => rt δ2 μ2 fun b μ3 => if b = true then re δ2 μ3 fun y μ4 => Inv (i + 1) (acc ++ [y]) μ4 else Inv (i + 1) acc μ3) ∧
    (∀ acc μ, Inv it.n acc μ → fin acc μ)
@[simp] def rLc (ri : RI) (rg : RG) (rt : RT) (re : RE) (vs : List Nat) : RE := fun δ μ k => ri δ μ fun it μ1 => @rLcW it rg rt re vs δ μ1 fun acc μ' => k (.lst acc) μ'
@[simp] def rLcO (ri : RI) (rg : RG) (rt : RT) (re : RE) (vs : List Nat) : RE := fun δ μ k => ri δ μ fun it μ1 => @rLcW it rg rt re vs δ μ1 fun acc μ' => ∀ p, μ' p = none → k (.own p) (muSet μ' p acc)
theorem lc_run {J : It} {it : DIt} {g : TG} {rg : RG} {tt : TT} {rt : RT} {te : TE} {re : RE} {vs js : List Nat} {fin : List D → Mu → Prop} {σ : L2.St} {δ : Sl} {μ : Mu} {G H : Hp} {Dl : Addr} {Qd : Hp → Prop}
    (hg : OkG K g rg js) (ht : OkT K tt rt) (he : OkE K te re) (hj : js.all (fun i => decide (i ∈ vs)) = true) (S : SlOk K G σ δ) (w : Wd K G H μ) (io : ItOk K G J it) (hD : H Dl = none) (q : @rLcW it rg rt re vs δ μ fin)
    (b : ∀ acc μ' G' H' xs, fin acc μ' → Wd K G' H' μ' → Go μ G H μ' G' (fun a => if a = Dl then none else H' a) → H' Dl = some (.lst xs) → G' Dl = none → μ' Dl = none → RepL K G' xs acc → Qd H') :
    ∃ W : Nat → Nat → Hp → Prop, (∃ m, W 0 m (upd H Dl (.lst []))) ∧ ∀ i m H1, W i m H1 →
      (J.stop i H1 ∧ Qd H1) ∨ (J.go i H1 ∧ ∃ Nx : Hp → Prop, (∀ H', Nx H' → ∃ m', m' < m ∧ W (i + 1) m' H') ∧ ∀ x H', J.yld i H1 x H' → g x (L2.wipe σ vs) H' fun σ2 H2 => L2.wipe σ2 vs = L2.wipe σ vs ∧ tt σ2 H2 fun b H3 =>
        if b = true then te σ2 H3 fun y H4 => ∃ acc, H4 Dl = some (.lst acc) ∧ acc.length < sizeLine ∧ Nx (upd H4 Dl (.lst (acc ++ [y]))) else Nx H3) := by
  obtain ⟨hn, Inv, i0, iok, istep, iend⟩ := q
  have gD : G Dl = none := w.gnone hD
  have mD : μ Dl = none := w.mnone hD
  have wD : Wd K G (upd H Dl (.lst [])) μ := ⟨fun a o e => by rw [upd_ne (ne_of_none (w.ex _ _ e) hD)]; exact w.ex _ _ e, fun p ds e => by
    obtain ⟨a1, vs', a2, a3⟩ := w.mu p ds e
    exact ⟨a1, vs', by rw [upd_ne (ne_of_none a2 hD)]; exact a2, a3⟩⟩
  -- the state between two turns; Dl stands in the heap, out of G and μ
  refine ⟨fun i m H1 => m = it.n - i ∧ i ≤ it.n ∧ ∃ acc μ1 G1 xs, Inv i acc μ1 ∧ Wd K G1 H1 μ1 ∧ Go μ G (upd H Dl (.lst [])) μ1 G1 (fun a => if a = Dl then some (.lst []) else H1 a) ∧ H1 Dl = some (.lst xs) ∧ G1 Dl = none ∧ μ1 Dl = none ∧ RepL K G1 xs acc ∧ acc.length ≤ i,
    ⟨it.n, rfl, Nat.zero_le _, [], μ, G, [], i0, wD, ?_, upd_same, gD, mD, .nil, Nat.le_refl _⟩, ?_⟩
  · have e : (fun a => if a = Dl then some (HO.lst []) else upd H Dl (.lst []) a) = upd H Dl (.lst []) := by
      funext a
      by_cases h : a = Dl
      · simp only [h, if_true]; rw [upd_same]
      · simp only [h, if_false]
    rw [e]
    exact Go.refl _ _ _
  · rintro i m H1 ⟨hm, hi, acc, μ1, G1, xs, hI, w1, g1, hx, gx, mx, rl, la⟩
    have e1 : Ex G G1 := g1.eg
    obtain ⟨hstop, hgo⟩ := io i μ1 G1 H1 e1 w1 (iok i acc μ1 hI)
    by_cases hin : i = it.n
    · refine .inl ⟨hstop hin.symm, b acc μ1 G1 H1 xs (iend acc μ1 (hin ▸ hI)) w1 ⟨e1, fun a o e hm => ?_, fun a e => ?_, fun a e => ?_⟩ hx gx mx rl⟩
      · have hne : a ≠ Dl := ne_of_none e hD
        have := g1.kp a o (by rw [upd_ne hne]; exact e) hm
        simp only [hne, if_false] at this ⊢
        exact this
      · rcases g1.dm a e with z | z
        · exact .inl z
        · by_cases hne : a = Dl
          · subst hne; exact .inr hD
          · rw [upd_ne hne] at z; exact .inr z
      · rcases g1.gf a e with z | z | z | ⟨ts, z⟩
        · exact .inl z
        · exact .inr (.inl z)
        · by_cases hne : a = Dl
          · subst hne; exact .inr (.inr (.inl hD))
          · rw [upd_ne hne] at z; exact .inr (.inr (.inl z))
        · by_cases hne : a = Dl
          · subst hne; exact .inr (.inr (.inl hD))
          · rw [upd_ne hne] at z; exact .inr (.inr (.inr ⟨ts, z⟩))
    · have hlt : i < it.n := Nat.lt_of_le_of_ne hi hin
      obtain ⟨hgo, hy⟩ := hgo hlt
      refine .inr ⟨hgo, fun H' => ∃ acc' μ' G' xs', Inv (i + 1) acc' μ' ∧ Wd K G' H' μ' ∧ Go μ G (upd H Dl (.lst [])) μ' G' (fun a => if a = Dl then some (.lst []) else H' a) ∧ H' Dl = some (.lst xs') ∧ G' Dl = none ∧ μ' Dl = none ∧ RepL K G' xs' acc' ∧ acc'.length ≤ i + 1,
        fun H' hN => ⟨it.n - (i + 1), by omega, rfl, hlt, hN⟩, fun x H' hyl => ?_⟩
      obtain ⟨d, G2, ed, w2, g2, rd⟩ := hy x H' hyl
      have S1 : SlOk K G2 (L2.wipe σ vs) (wipeD δ vs) := (S.mono (e1.trans g2.eg)).wipe vs
      -- what stands of Dl through a step
      have keepD : ∀ {μa μb : Mu} {Ga Gb Ha Hb : Hp} {xs : List V}, Go μa Ga Ha μb Gb Hb → Ha Dl = some (.lst xs) → Ga Dl = none → μa Dl = none → Hb Dl = some (.lst xs) ∧ Gb Dl = none ∧ μb Dl = none := fun g h1 h2 h3 => by
        refine ⟨g.kp _ _ h1 h3, ?_, g.none_mu h1 h3⟩
        rename_i μa μb Ga Gb Ha Hb xs
        cases e : Gb Dl with
        | none => rfl
        | some o =>
          rcases g.gf Dl (by rw [e]; simp) with z | z | z | ⟨ts, z⟩
          · exact absurd h2 z
          · exact absurd h3 z
          · rw [h1] at z; cases z
          · rw [h1] at z; cases z
      have hide : ∀ {μa μb : Mu} {Ga Gb Ha Hb : Hp} {xs : List V}, Go μa Ga Ha μb Gb Hb → Ha Dl = some (.lst xs) → Go μa Ga (fun a => if a = Dl then some (.lst []) else Ha a) μb Gb (fun a => if a = Dl then some (.lst []) else Hb a) := fun g h1 => by
        refine ⟨g.eg, fun a o e hm => ?_, fun a e => ?_, fun a e => ?_⟩
        · by_cases hne : a = Dl
          · simp only [hne, if_true] at e ⊢; exact e
          · simp only [hne, if_false] at e ⊢; exact g.kp a o e hm
        · rcases g.dm a e with z | z
          · exact .inl z
          · by_cases hne : a = Dl
            · rw [hne, h1] at z; cases z
            · right; simp only [hne, if_false]; exact z
        · rcases g.gf a e with z | z | z | ⟨ts, z⟩
          · exact .inl z
          · exact .inr (.inl z)
          · by_cases hne : a = Dl
            · rw [hne, h1] at z; cases z
            · right; right; left; simp only [hne, if_false]; exact z
          · by_cases hne : a = Dl
            · rw [hne, h1] at z; cases z
            · right; right; right; refine ⟨ts, ?_⟩; simp only [hne, if_false]; exact z
      obtain ⟨hx2, gx2, mx2⟩ := keepD g2 hx gx mx
      have g12 := g1.trans (hide g2 hx)
      refine hg x d (L2.wipe σ vs) (wipeD δ vs) μ1 G2 H' _ _ S1 w2 rd (istep i acc μ1 d hlt ed hI) fun σ2 δ2 μ3 G3 H3 q3 S3 w3 g3 l3 => ⟨?_, ?_⟩
      · rw [← wipe_wipe σ vs]
        refine wipe_of l3.1 fun j hjv => l3.2 j fun z => hjv ?_
        have := List.all_eq_true.mp hj j z
        exact of_decide_eq_true this
      · obtain ⟨hx3, gx3, mx3⟩ := keepD g3 hx2 gx2 mx2
        refine ht σ2 δ2 μ3 G3 H3 _ _ S3 w3 q3 fun c μ4 G4 H4 q4 w4 g4 => ?_
        obtain ⟨hx4, gx4, mx4⟩ := keepD g4 hx3 gx3 mx3
        have g14 := (g12.trans (hide g3 hx2)).trans (hide g4 hx3)
        cases c with
        | true =>
          refine he σ2 δ2 μ4 G4 H4 _ _ (S3.mono g4.eg) w4 q4 fun v y μ5 G5 H5 q5 w5 g5 r5 => ?_
          obtain ⟨hx5, gx5, mx5⟩ := keepD g5 hx4 gx4 mx4
          have g15 := g14.trans (hide g5 hx4)
          refine ⟨xs, hx5, sz_lt (by rw [rl.length]; omega), acc ++ [y], μ5, G5, xs ++ [v], q5, ⟨fun a o e => ?_, fun p ds e => ?_⟩, ?_, upd_same, gx5, mx5, (rl.mono (g2.eg.trans (g3.eg.trans (g4.eg.trans g5.eg)))).append (.cons r5 .nil), by rw [List.length_append]; simp; omega⟩
          · have hne : a ≠ Dl := ne_of_none e gx5
            rw [upd_ne hne]; exact w5.ex _ _ e
          · obtain ⟨a1, vs', a2, a3⟩ := w5.mu p ds e
            have hne : p ≠ Dl := fun z => by subst z; rw [mx5] at e; cases e
            exact ⟨a1, vs', by rw [upd_ne hne]; exact a2, a3⟩
          · have e : (fun a => if a = Dl then some (HO.lst []) else upd H5 Dl (.lst (xs ++ [v])) a) = (fun a => if a = Dl then some (HO.lst []) else H5 a) := by
              funext a
              by_cases h : a = Dl
              · simp only [h, if_true]
              · simp only [h, if_false]; rw [upd_ne h]
            rw [e]
            exact g15
        | false =>
          exact ⟨acc, μ4, G4, xs, q4, w4, g14, hx4, gx4, mx4, rl.mono (g2.eg.trans (g3.eg.trans g4.eg)), by omega⟩
theorem okE_lc {wi : TI} {ri : RI} {g : TG} {rg : RG} {tt : TT} {rt : RT} {te : TE} {re : RE} {vs js : List Nat} (hi : OkI K wi ri) (hg : OkG K g rg js) (ht : OkT K tt rt) (he : OkE K te re) (hj : js.all (fun i => decide (i ∈ vs)) = true) :
    OkE K (tLc wi g tt te vs) (rLc ri rg rt re vs) := fun σ δ μ G H k Q S w q b =>
  hi σ δ μ G H _ _ S w q fun J it μ1 G1 H1 q1 w1 g1 io Dl hD => lc_run hg ht he hj (S.mono g1.eg) w1 io hD q1 fun acc μ' G' H' xs fn w' g' hx gx mx rl => by
    have hup : (fun a => if a = Dl then none else H' a) Dl = none := by simp
    refine b _ _ μ' (upd G' Dl (.lst xs)) H' fn ⟨fun a o e => ?_, fun p ds e => ?_⟩ ⟨g1.eg.trans (g'.eg.trans (Ex.new gx)), fun a o e hm => ?_, fun a e => ?_, fun a e => ?_⟩ (.lst upd_same (rl.mono (Ex.new gx)))
    · by_cases hne : a = Dl
      · subst hne; rw [upd_same] at e; rw [← e]; exact hx
      · rw [upd_ne hne] at e; exact w'.ex _ _ e
    · obtain ⟨a1, vs', a2, a3⟩ := w'.mu p ds e
      have hne : p ≠ Dl := fun z => by subst z; rw [mx] at e; cases e
      exact ⟨by rw [upd_ne hne]; exact a1, vs', a2, a3.mono (Ex.new gx)⟩
    · have e1 := (g1.trans g').kp a o e hm
      have hne : a ≠ Dl := fun z => by subst z; simp at e1
      simp only [hne, if_false] at e1
      exact e1
    · exact (g1.trans g').dm a e
    · by_cases hne : a = Dl
      · subst hne
        rcases g1.back hD with z | z
        · exact .inr (.inl z)
        · exact .inr (.inr (.inl z))
      · rw [upd_ne hne] at e; exact (g1.trans g').gf a e
theorem okE_lcO {wi : TI} {ri : RI} {g : TG} {rg : RG} {tt : TT} {rt : RT} {te : TE} {re : RE} {vs js : List Nat} (hi : OkI K wi ri) (hg : OkG K g rg js) (ht : OkT K tt rt) (he : OkE K te re) (hj : js.all (fun i => decide (i ∈ vs)) = true) :
    OkE K (tLc wi g tt te vs) (rLcO ri rg rt re vs) := fun σ δ μ G H k Q S w q b =>
  hi σ δ μ G H _ _ S w q fun J it μ1 G1 H1 q1 w1 g1 io Dl hD => lc_run hg ht he hj (S.mono g1.eg) w1 io hD q1 fun acc μ' G' H' xs fn w' g' hx gx mx rl => by
    refine b _ _ (muSet μ' Dl acc) G' H' (fn Dl mx) ⟨w'.ex, fun p ds e => ?_⟩ ⟨g1.eg.trans g'.eg, fun a o e hm => ?_, fun a e => ?_, fun a e => (g1.trans g').gf a e⟩ (.own Dl)
    · by_cases hne : p = Dl
      · subst hne; rw [muSet_same] at e; cases e; exact ⟨gx, .lst xs, hx, .l rl⟩
      · rw [muSet_ne hne] at e; exact w'.mu p ds e
    · have e1 := (g1.trans g').kp a o e hm
      have hne : a ≠ Dl := fun z => by subst z; simp at e1
      simp only [hne, if_false] at e1
      exact e1
    · by_cases hne : a = Dl
      · subst hne
        exact g1.back hD
      · rw [muSet_ne hne] at e; exact (g1.trans g').dm a e
end
end DL


set_option Elab.async false
set_option linter.all false
set_option maxRecDepth 100000
set_option maxHeartbeats 4000000
/-! DLe: comprehensions with two for, statements, loops over data. -/
namespace DL
open PySem PySem.Spec PyProof.Rows L2 SlX

section
variable {K : PySem.W.Frag}
/-- while a list is made at Dl, hidden from G and μ -/
def mask (Dl : Addr) (H : Hp) : Hp := fun a => if a = Dl then some (.lst []) else H a
theorem mask_same {Dl : Addr} {H : Hp} : mask Dl H Dl = some (.lst []) := by unfold mask; rw [if_pos rfl]
theorem mask_ne {Dl a : Addr} {H : Hp} (h : a ≠ Dl) : mask Dl H a = H a := by unfold mask; rw [if_neg h]
structure Hid (K : PySem.W.Frag) (μ : Mu) (G H : Hp) (Dl : Addr) (acc : List D) (xs : List V) (μ1 : Mu) (G1 H1 : Hp) : Prop where
  wd : Wd K G1 H1 μ1
  go : Go μ G (upd H Dl (.lst [])) μ1 G1 (mask Dl H1)
  hD : H1 Dl = some (.lst xs)
  gD : G1 Dl = none
  mD : μ1 Dl = none
  rl : RepL K G1 xs acc
theorem Hid.start {μ : Mu} {G H : Hp} {Dl : Addr} (w : Wd K G H μ) (hD : H Dl = none) : Hid K μ G H Dl [] [] μ G (upd H Dl (.lst [])) := by
  refine ⟨⟨fun a o e => by rw [upd_ne (ne_of_none (w.ex _ _ e) hD)]; exact w.ex _ _ e, fun p ds e => ?_⟩, ?_, upd_same, w.gnone hD, w.mnone hD, .nil⟩
  · obtain ⟨a1, vs', a2, a3⟩ := w.mu p ds e
    exact ⟨a1, vs', by rw [upd_ne (ne_of_none a2 hD)]; exact a2, a3⟩
  · have e : mask Dl (upd H Dl (.lst [])) = upd H Dl (.lst []) := by
      funext a
      by_cases h : a = Dl
      · rw [h, mask_same, upd_same]
      · rw [mask_ne h]
    rw [e]
    exact Go.refl _ _ _
theorem Hid.step {μ μ1 μ2 : Mu} {G H G1 H1 G2 H2 : Hp} {Dl : Addr} {acc : List D} {xs : List V} (h : Hid K μ G H Dl acc xs μ1 G1 H1) (w : Wd K G2 H2 μ2) (g : Go μ1 G1 H1 μ2 G2 H2) : Hid K μ G H Dl acc xs μ2 G2 H2 := by
  have hD2 := g.kp _ _ h.hD h.mD
  refine ⟨w, h.go.trans ⟨g.eg, fun a o e hm => ?_, fun a e => ?_, fun a e => ?_⟩, hD2, ?_, g.none_mu h.hD h.mD, h.rl.mono g.eg⟩
  · by_cases hne : a = Dl
    · rw [hne, mask_same] at e ⊢; exact e
    · rw [mask_ne hne] at e ⊢; exact g.kp a o e hm
  · rcases g.dm a e with z | z
    · exact .inl z
    · by_cases hne : a = Dl
      · rw [hne, h.hD] at z; cases z
      · right; rw [mask_ne hne]; exact z
  · rcases g.gf a e with z | z | z | ⟨ts, z⟩
    · exact .inl z
    · exact .inr (.inl z)
    · by_cases hne : a = Dl
      · rw [hne, h.hD] at z; cases z
      · right; right; left; rw [mask_ne hne]; exact z
    · by_cases hne : a = Dl
      · rw [hne, h.hD] at z; cases z
      · right; right; right; refine ⟨ts, ?_⟩; rw [mask_ne hne]; exact z
  · cases e : G2 Dl with
    | none => rfl
    | some o =>
      rcases g.gf Dl (by rw [e]; simp) with z | z | z | ⟨ts, z⟩
      · exact absurd h.gD z
      · exact absurd h.mD z
      · rw [h.hD] at z; cases z
      · rw [h.hD] at z; cases z
theorem Hid.push {μ μ1 : Mu} {G H G1 H1 : Hp} {Dl : Addr} {acc : List D} {xs : List V} {v : V} {y : D} (h : Hid K μ G H Dl acc xs μ1 G1 H1) (r : Rep K G1 v y) : Hid K μ G H Dl (acc ++ [y]) (xs ++ [v]) μ1 G1 (upd H1 Dl (.lst (xs ++ [v]))) := by
  refine ⟨⟨fun a o e => ?_, fun p ds e => ?_⟩, ?_, upd_same, h.gD, h.mD, h.rl.append (.cons r .nil)⟩
  · have hne : a ≠ Dl := ne_of_none e h.gD
    rw [upd_ne hne]; exact h.wd.ex _ _ e
  · obtain ⟨a1, vs', a2, a3⟩ := h.wd.mu p ds e
    have hne : p ≠ Dl := fun z => by rw [z, h.mD] at e; cases e
    exact ⟨a1, vs', by rw [upd_ne hne]; exact a2, a3⟩
  · have e : mask Dl (upd H1 Dl (.lst (xs ++ [v]))) = mask Dl H1 := by
      funext a
      by_cases hne : a = Dl
      · rw [hne, mask_same, mask_same]
      · rw [mask_ne hne, mask_ne hne, upd_ne hne]
    rw [e]
    exact h.go
/-- at the end the list is data -/
theorem Hid.done {μ μ1 : Mu} {G H G1 H1 : Hp} {Dl : Addr} {acc : List D} {xs : List V} (h : Hid K μ G H Dl acc xs μ1 G1 H1) (hD : H Dl = none) :
    Wd K (upd G1 Dl (.lst xs)) H1 μ1 ∧ Go μ G H μ1 (upd G1 Dl (.lst xs)) H1 ∧ Rep K (upd G1 Dl (.lst xs)) (.ref Dl) (.lst acc) := by
  refine ⟨⟨fun a o e => ?_, fun p ds e => ?_⟩, ⟨h.go.eg.trans (Ex.new h.gD), fun a o e hm => ?_, fun a e => ?_, fun a e => ?_⟩, .lst upd_same (h.rl.mono (Ex.new h.gD))⟩
  · by_cases hne : a = Dl
    · rw [hne, upd_same] at e; rw [hne, ← e]; exact h.hD
    · rw [upd_ne hne] at e; exact h.wd.ex _ _ e
  · obtain ⟨a1, vs', a2, a3⟩ := h.wd.mu p ds e
    have hne : p ≠ Dl := fun z => by rw [z, h.mD] at e; cases e
    exact ⟨by rw [upd_ne hne]; exact a1, vs', a2, a3.mono (Ex.new h.gD)⟩
  · have hne : a ≠ Dl := ne_of_none e hD
    have := h.go.kp a o (by rw [upd_ne hne]; exact e) hm
    rw [mask_ne hne] at this
    exact this
  · rcases h.go.dm a e with z | z
    · exact .inl z
    · by_cases hne : a = Dl
      · rw [hne]; exact .inr hD
      · rw [upd_ne hne] at z; exact .inr z
  · by_cases hne : a = Dl
    · rw [hne]; exact .inr (.inr (.inl hD))
    · rw [upd_ne hne] at e
      rcases h.go.gf a e with z | z | z | ⟨ts, z⟩
      · exact .inl z
      · exact .inr (.inl z)
      · rw [upd_ne hne] at z; exact .inr (.inr (.inl z))
      · rw [upd_ne hne] at z; exact .inr (.inr (.inr ⟨ts, z⟩))

set_option checkBinderAnnotations false in
def rInW (it1 : DIt) (rg1 : RG) (rt1 : RT) (re : RE) (vs1 : List Nat) (δ2 : Sl) (μ4 : Mu) (acc : List D) [fin : List D → Mu → Prop] : Prop := ∃ Inv1 : Nat → List D → Mu → Prop, Inv1 0 acc μ4 ∧ (∀ j acc μ, Inv1 j acc μ → it1.ok μ ∧ acc.length < 1000000) ∧
      (∀ j acc μ e, j < it1.n → it1.at_ j = some e → Inv1 j acc μ → rg1 e (wipeD δ2 vs1) μ fun δ5 μ5 => rt1 δ5 μ5 fun b μ6 => if b = true then re δ5 μ6 fun y μ7 => Inv1 (j + 1) (acc ++ [y]) μ7 else Inv1 (j + 1) acc μ6) ∧
      (∀ acc μ, Inv1 it1.n acc μ → fin acc μ)
set_option checkBinderAnnotations false in
def rLc2W (it : DIt) (rg : RG) (rt : RT) (ri1 : RI) (rg1 : RG) (rt1 : RT) (re : RE) (vs vs1 : List Nat) (δ : Sl) (μ1 : Mu) [fin : List D → Mu → Prop] : Prop := it.n ≤ 1000000 ∧ ∃ Inv : Nat → List D → Mu → Prop, Inv 0 [] μ1 ∧ (∀ i acc μ, Inv i acc μ → it.ok μ) ∧
  (∀ i acc μ d, i < it.n → it.at_ i = some d → Inv i acc μ → rg d (wipeD δ vs) μ fun δ2 μ2 => rt δ2 μ2 fun b μ3 => if b = true then
    ri1 δ2 μ3 fun it1 μ4 => @rInW it1 rg1 rt1 re vs1 δ2 μ4 acc fun acc μ => Inv (i + 1) acc μ
    else Inv (i + 1) acc μ3) ∧
  (∀ acc μ, Inv it.n acc μ → fin acc μ)
@[simp] def rLc2 (ri : RI) (rg : RG) (rt : RT) (ri1 : RI) (rg1 : RG) (rt1 : RT) (re : RE) (vs vs1 : List Nat) : RE := fun δ μ k => ri δ μ fun it μ1 => @rLc2W it rg rt ri1 rg1 rt1 re vs vs1 δ μ1 fun acc μ' => k (.lst acc) μ'
theorem okE_lc2 {wi wi1 : TI} {ri ri1 : RI} {g g1 : TG} {rg rg1 : RG} {tt tt1 : TT} {rt rt1 : RT} {te : TE} {re : RE} {vs vs1 js js1 : List Nat} (hi : OkI K wi ri) (hg : OkG K g rg js) (ht : OkT K tt rt) (hi1 : OkI K wi1 ri1) (hg1 : OkG K g1 rg1 js1) (ht1 : OkT K tt1 rt1) (he : OkE K te re)
    (hj : js.all (fun i => decide (i ∈ vs)) = true) (hj1 : js1.all (fun i => decide (i ∈ vs1)) = true) : OkE K (tLc2 wi g tt wi1 g1 tt1 te vs vs1) (rLc2 ri rg rt ri1 rg1 rt1 re vs vs1) := fun σ δ μ G H k Q S w q b =>
  hi σ δ μ G H _ _ S w q fun J it μ1 G1 H1 ⟨hn, Iv, i0, iok, istep, iend⟩ w1 gg1 io Dl hD => by
    have S1 := S.mono gg1.eg
    refine ⟨fun i m H2 => m = it.n - i ∧ i ≤ it.n ∧ ∃ acc xs μ2 G2, Iv i acc μ2 ∧ Hid K μ1 G1 H1 Dl acc xs μ2 G2 H2, ⟨it.n, rfl, Nat.zero_le _, [], [], μ1, G1, i0, Hid.start w1 hD⟩, ?_⟩
    rintro i m H2 ⟨hm, hi, acc, xs, μ2, G2, hI, hh⟩
    obtain ⟨hstop, hgo⟩ := io i μ2 G2 H2 hh.go.eg hh.wd (iok i acc μ2 hI)
    by_cases hin : i = it.n
    · obtain ⟨a1, a2, a3⟩ := hh.done hD
      exact .inl ⟨hstop hin.symm, b _ _ μ2 _ H2 (iend acc μ2 (hin ▸ hI)) a1 (gg1.trans a2) a3⟩
    · have hlt : i < it.n := Nat.lt_of_le_of_ne hi hin
      obtain ⟨hgo, hy⟩ := hgo hlt
      refine .inr ⟨hgo, fun H' => ∃ acc' xs' μ' G', Iv (i + 1) acc' μ' ∧ Hid K μ1 G1 H1 Dl acc' xs' μ' G' H', fun H' hN => ⟨it.n - (i + 1), by omega, rfl, hlt, hN⟩, fun x H' hyl => ?_⟩
      obtain ⟨d, G3, ed, w3, g3, rd⟩ := hy x H' hyl
      have h3 := hh.step w3 g3
      refine hg x d (L2.wipe σ vs) (wipeD δ vs) μ2 G3 H' _ _ ((S1.mono h3.go.eg).wipe vs) w3 rd (istep i acc μ2 d hlt ed hI) fun σ2 δ2 μ4 G4 H4 q4 S4 w4 g4 l4 => ⟨?_, ?_⟩
      · rw [← wipe_wipe σ vs]
        exact wipe_of l4.1 fun j hjv => l4.2 j fun z => hjv (of_decide_eq_true (List.all_eq_true.mp hj j z))
      · have h4 := h3.step w4 g4
        refine ht σ2 δ2 μ4 G4 H4 _ _ S4 w4 q4 fun c μ5 G5 H5 q5 w5 g5 => ?_
        have h5 := h4.step w5 g5
        cases c with
        | false => exact ⟨acc, xs, μ5, G5, q5, h5⟩
        | true =>
          refine hi1 σ2 δ2 μ5 G5 H5 _ _ (S4.mono g5.eg) w5 q5 fun J1 it1 μ6 G6 H6 ⟨Inv1, j0, jok, jstep, jend⟩ w6 g6 io1 => ?_
          have S6 := S4.mono (g5.eg.trans g6.eg)
          have h6 := h5.step w6 g6
          refine ⟨fun j m H7 => m = it1.n - j ∧ j ≤ it1.n ∧ ∃ acc xs μ7 G7, Inv1 j acc μ7 ∧ Ex G6 G7 ∧ Hid K μ1 G1 H1 Dl acc xs μ7 G7 H7, ⟨it1.n, rfl, Nat.zero_le _, acc, xs, μ6, G6, j0, Ex.refl _, h6⟩, ?_⟩
          rintro j m1 H7 ⟨hm1, hjn, acc7, xs7, μ7, G7, hI1, ex7, h7⟩
          obtain ⟨hok1, hlen⟩ := jok j acc7 μ7 hI1
          obtain ⟨hstop1, hgo1⟩ := io1 j μ7 G7 H7 ex7 h7.wd hok1
          by_cases hjin : j = it1.n
          · exact .inl ⟨hstop1 hjin.symm, acc7, xs7, μ7, G7, jend acc7 μ7 (hjin ▸ hI1), h7⟩
          · have hlt1 : j < it1.n := Nat.lt_of_le_of_ne hjn hjin
            obtain ⟨hgo1, hy1⟩ := hgo1 hlt1
            refine .inr ⟨hgo1, fun H' => ∃ acc' xs' μ' G', Inv1 (j + 1) acc' μ' ∧ Ex G6 G' ∧ Hid K μ1 G1 H1 Dl acc' xs' μ' G' H', fun H' hN => ⟨it1.n - (j + 1), by omega, rfl, hlt1, hN⟩, fun x1 H8 hyl1 => ?_⟩
            obtain ⟨e1, G8, ee1, w8, g8, re1⟩ := hy1 x1 H8 hyl1
            have h8 := h7.step w8 g8
            refine hg1 x1 e1 (L2.wipe σ2 vs1) (wipeD δ2 vs1) μ7 G8 H8 _ _ ((S6.mono (ex7.trans g8.eg)).wipe vs1) w8 re1 (jstep j acc7 μ7 e1 hlt1 ee1 hI1) fun σ3 δ3 μ9 G9 H9 q9 S9 w9 g9 l9 => ⟨?_, ?_⟩
            · rw [← wipe_wipe σ2 vs1]
              exact wipe_of l9.1 fun j hjv => l9.2 j fun z => hjv (of_decide_eq_true (List.all_eq_true.mp hj1 j z))
            · have h9 := h8.step w9 g9
              refine ht1 σ3 δ3 μ9 G9 H9 _ _ S9 w9 q9 fun c μ10 G10 H10 q10 w10 g10 => ?_
              have h10 := h9.step w10 g10
              have ex10 := ex7.trans (g8.eg.trans (g9.eg.trans g10.eg))
              cases c with
              | false => exact ⟨acc7, xs7, μ10, G10, q10, ex10, h10⟩
              | true =>
                refine he σ3 δ3 μ10 G10 H10 _ _ (S9.mono g10.eg) w10 q10 fun v y μ11 G11 H11 q11 w11 g11 r11 => ?_
                have h11 := h10.step w11 g11
                exact ⟨xs7, h11.hD, sz_lt (by rw [h11.rl.length]; exact hlen), acc7 ++ [y], xs7 ++ [v], μ11, G11, q11, ex10.trans g11.eg, h11.push r11⟩
end

/-! ### statements -/
@[simp] def rNext : RS := fun DD δ μ => DD.nx δ μ
@[simp] def rSeq (r s : RS) : RS := fun DD δ μ => r { DD with nx := s DD } δ μ
@[simp] def rDrop (re : RE) : RS := fun DD δ μ => re δ μ fun _ μ1 => DD.nx δ μ1
@[simp] def frzD (μ : Mu) (d : D) : D := match d with
  | .own p => match μ p with | some c => cntD c | none => .own p
  | d => d
@[simp] def frzM (μ : Mu) (d : D) : Mu := match d with
  | .own p => muDel μ p
  | _ => μ
@[simp] def rRet (re : RE) : RS := fun DD δ μ => re δ μ DD.rt
/-- a list of one's own is handed out as data -/
@[simp] def plainAt (μ : Mu) (d : D) : Prop := match d with
  | .own p => match μ p with | some c => c.plain = true | none => True
  | _ => True
@[simp] def rRetF (re : RE) : RS := fun DD δ μ => re δ μ fun d μ1 => plainAt μ1 d ∧ DD.rt (frzD μ1 d) (frzM μ1 d)
@[simp] def rRetN : RS := fun DD _ μ => DD.rt .non μ
@[simp] def rIfS (rt : RT) (r s : RS) : RS := fun DD δ μ => rt δ μ fun b μ1 => if b = true then r DD δ μ1 else s DD δ μ1
@[simp] def rNever : RS := fun _ _ _ => False
@[simp] def rAsg (re : RE) (rg : RG) : RS := fun DD δ μ => re δ μ fun d μ1 => rg d δ μ1 DD.nx
@[simp] def rPar (i j : Nat) (ra : RA) : RS := fun DD δ μ => ra δ μ fun ds μ1 => match ds with | [a, b] => DD.nx ((δ.set i (some a)).set j (some b)) μ1 | _ => False
@[simp] def rAug (i : Nat) (re : RE) (f : Int → Int → Int) : RS := fun DD δ μ => match δ[i]? with
  | some (some (.int a)) => re δ μ fun y μ1 => match y with | .int b => DD.nx (δ.set i (some (.int (f a b)))) μ1 | _ => False
  | _ => False
@[simp] def rBreak : RS := fun DD δ μ => DD.bk δ μ
@[simp] def rCont : RS := fun DD δ μ => DD.ct δ μ
def rForW (it : DIt) (rg : RG) (rb : RS) (DD : DEnds) (δ : Sl) (μ1 : Mu) : Prop := ∃ Inv : Nat → Sl → Mu → Prop, Inv 0 δ μ1 ∧ (∀ i δ μ, Inv i δ μ → it.ok μ) ∧
  (∀ i δ μ d, i < it.n → it.at_ i = some d → Inv i δ μ → rg d δ μ fun δ2 μ2 => rb { nx := Inv (i + 1), ct := Inv (i + 1), bk := DD.nx, rt := DD.rt } δ2 μ2) ∧ (∀ δ μ, Inv it.n δ μ → DD.nx δ μ)
def rFor (ri : RI) (rg : RG) (rb : RS) : RS := fun DD δ μ => ri δ μ fun it μ1 => rForW it rg rb DD δ μ1
def rWhile (rc : RT) (rb : RS) : RS := fun DD δ μ => ∃ Inv : Nat → Sl → Mu → Prop, (∃ m, Inv m δ μ) ∧ ∀ m δ μ, Inv m δ μ → rc δ μ fun b μ1 => if b = true then
  rb { nx := fun δ μ => ∃ m', m' < m ∧ Inv m' δ μ, ct := fun δ μ => ∃ m', m' < m ∧ Inv m' δ μ, bk := DD.nx, rt := DD.rt } δ μ1 else DD.nx δ μ1
/-- a word of the proof: the list in slot i does not change any more -/
@[simp] def rFrz (i : Nat) (r : RS) : RS := fun DD δ μ => match δ[i]? with
  | some (some (.own p)) => match μ p with | some c => c.plain = true ∧ r DD (δ.set i (some (cntD c))) (muDel μ p) | none => False
  | _ => False
section
variable {K : PySem.W.Frag} {t u : TS} {r s : RS} {te : TE} {re : RE} {tt : TT} {rt : RT}
theorem okS_next : OkS K tNext rNext := fun σ δ μ G H DD D S w q b => b.nx σ δ μ G H q S w (Go.refl _ _ _)
theorem okS_seq (h : OkS K t r) (h' : OkS K u s) : OkS K (tSeq t u) (rSeq r s) := fun σ δ μ G H DD D S w q b =>
  h σ δ μ G H _ _ S w q ⟨fun σ1 δ1 μ1 G1 H1 q1 S1 w1 g1 => h' σ1 δ1 μ1 G1 H1 DD D S1 w1 q1 (b.go g1), b.bk, b.ct, b.rt⟩
theorem okS_drop (h : OkE K te re) : OkS K (tDrop te) (rDrop re) := fun σ δ μ G H DD D S w q b =>
  h σ δ μ G H _ _ S w q fun v d μ1 G1 H1 q1 w1 g1 r1 => b.nx σ δ μ1 G1 H1 q1 (S.mono g1.eg) w1 g1
theorem okS_ret (h : OkE K te re) : OkS K (tRet te) (rRet re) := fun σ δ μ G H DD D S w q b => h σ δ μ G H _ _ S w q fun v d μ1 G1 H1 q1 w1 g1 r1 => b.rt v d μ1 G1 H1 q1 w1 g1 r1
theorem okS_retF (h : OkE K te re) : OkS K (tRet te) (rRetF re) := fun σ δ μ G H DD D S w q b => h σ δ μ G H _ _ S w q fun v d μ1 G1 H1 ⟨qp, q1⟩ w1 g1 r1 => by
  cases r1 with
  | own p =>
    cases e : μ1 p with
    | none =>
      have e1 : frzD μ1 (.own p) = .own p := by simp only [frzD, e]
      have e2 : frzM μ1 (.own p) = μ1 := by
        funext q; show (if q = p then none else μ1 q) = μ1 q
        by_cases hq : q = p
        · rw [if_pos hq, hq, e]
        · rw [if_neg hq]
      rw [e1, e2] at q1
      exact b.rt _ _ μ1 G1 H1 q1 w1 g1 (.own p)
    | some ds =>
      obtain ⟨vs, a1, a2, a3⟩ := w1.frz e (by simpa [plainAt, e] using qp)
      have e1 : frzD μ1 (.own p) = cntD ds := by simp only [frzD, e]
      rw [e1] at q1
      exact b.rt _ _ _ _ H1 q1 a1 (g1.trans a3) a2
  | non => exact b.rt _ _ μ1 G1 H1 q1 w1 g1 .non
  | bl c => exact b.rt _ _ μ1 G1 H1 q1 w1 g1 (.bl c)
  | int c => exact b.rt _ _ μ1 G1 H1 q1 w1 g1 (.int c)
  | str c => exact b.rt _ _ μ1 G1 H1 q1 w1 g1 (.str c)
  | dk h l c => exact b.rt _ _ μ1 G1 H1 q1 w1 g1 (.dk h l c)
  | dt h l c => exact b.rt _ _ μ1 G1 H1 q1 w1 g1 (.dt h l c)
  | err h c => exact b.rt _ _ μ1 G1 H1 q1 w1 g1 (.err h c)
  | pd h => exact b.rt _ _ μ1 G1 H1 q1 w1 g1 (.pd h)
  | tup h c => exact b.rt _ _ μ1 G1 H1 q1 w1 g1 (.tup h c)
  | lst h c => exact b.rt _ _ μ1 G1 H1 q1 w1 g1 (.lst h c)
  | obj h c => exact b.rt _ _ μ1 G1 H1 q1 w1 g1 (.obj h c)
  | scr h => exact b.rt _ _ μ1 G1 H1 q1 w1 g1 (.scr h)
theorem okS_retN : OkS K tRetN rRetN := fun σ δ μ G H DD D S w q b => b.rt _ _ μ G H q w (Go.refl _ _ _) .non
theorem okS_if (h : OkT K tt rt) (h1 : OkS K t r) (h2 : OkS K u s) : OkS K (tIfS tt t u) (rIfS rt r s) := fun σ δ μ G H DD D S w q b => h σ δ μ G H _ _ S w q fun c μ1 G1 H1 q1 w1 g1 => by
  cases c with
  | true => exact h1 σ δ μ1 G1 H1 DD D (S.mono g1.eg) w1 q1 (b.go g1)
  | false => exact h2 σ δ μ1 G1 H1 DD D (S.mono g1.eg) w1 q1 (b.go g1)
theorem okS_never : OkS K tNever rNever := fun σ δ μ G H DD D S w q b => q
theorem okS_asg {g : TG} {rg : RG} {js : List Nat} (h : OkE K te re) (hg : OkG K g rg js) : OkS K (tAsg te g) (rAsg re rg) := fun σ δ μ G H DD D S w q b => h σ δ μ G H _ _ S w q fun v d μ1 G1 H1 q1 w1 g1 r1 =>
  hg v d σ δ μ1 G1 H1 _ _ (S.mono g1.eg) w1 r1 q1 fun σ2 δ2 μ2 G2 H2 q2 S2 w2 g2 _ => b.nx σ2 δ2 μ2 G2 H2 q2 S2 w2 (g1.trans g2)
theorem okS_par {i j : Nat} {ta : TA} {ra : RA} (h : OkA K ta ra) : OkS K (tPar i j ta) (rPar i j ra) := fun σ δ μ G H DD D S w q b => h σ δ μ G H _ _ S w q fun vs ds μ1 G1 H1 q1 w1 g1 r1 => by
  split at q1
  · rename_i x y
    cases r1 with
    | cons a rr =>
      cases rr with
      | cons a' rr =>
        cases rr
        exact ⟨_, _, rfl, b.nx _ _ μ1 G1 H1 q1 (((S.mono g1.eg).set a i).set a' j) w1 g1⟩
  · exact q1.elim
theorem okS_aug {i : Nat} {f : Int → Int → Int} (h : OkE K te re) : OkS K (tAug i te (ipI f)) (rAug i re f) := fun σ δ μ G H DD D S w q b => by
  unfold rAug at q
  split at q
  · rename_i a e
    obtain ⟨v, h1, h2⟩ := S.at_ i _ e
    cases h2
    refine ⟨_, h1, h σ δ μ G H _ _ S w q fun v d μ1 G1 H1 q1 w1 g1 r1 => ?_⟩
    cases r1 with
    | int c => exact ⟨_, c, rfl, rfl, b.nx _ _ μ1 G1 H1 q1 ((S.mono g1.eg).set (.int _) i) w1 g1⟩
    | _ => exact q1.elim
  · exact q.elim
theorem okS_break : OkS K tBreak rBreak := fun σ δ μ G H DD D S w q b => b.bk σ δ μ G H q S w (Go.refl _ _ _)
theorem okS_cont : OkS K tCont rCont := fun σ δ μ G H DD D S w q b => b.ct σ δ μ G H q S w (Go.refl _ _ _)
theorem okS_for {wi : TI} {ri : RI} {g : TG} {rg : RG} {js : List Nat} (hi : OkI K wi ri) (hg : OkG K g rg js) (hb : OkS K t r) : OkS K (tFor wi g t) (rFor ri rg r) := fun σ δ μ G H DD D S w q b =>
  hi σ δ μ G H _ _ S w q fun J it μ1 G1 H1 ⟨Iv, i0, iok, istep, iend⟩ w1 g1 io => by
    refine ⟨fun i m σ2 H2 => m = it.n - i ∧ i ≤ it.n ∧ ∃ δ2 μ2 G2, Iv i δ2 μ2 ∧ SlOk K G2 σ2 δ2 ∧ Wd K G2 H2 μ2 ∧ Go μ1 G1 H1 μ2 G2 H2, ⟨it.n, rfl, Nat.zero_le _, δ, μ1, G1, i0, S.mono g1.eg, w1, Go.refl _ _ _⟩, ?_⟩
    rintro i m σ2 H2 ⟨hm, hi, δ2, μ2, G2, hI, S2, w2, g2⟩
    obtain ⟨hstop, hgo⟩ := io i μ2 G2 H2 g2.eg w2 (iok i δ2 μ2 hI)
    by_cases hin : i = it.n
    · exact .inl ⟨hstop hin.symm, b.nx σ2 δ2 μ2 G2 H2 (iend δ2 μ2 (hin ▸ hI)) S2 w2 (g1.trans g2)⟩
    · have hlt : i < it.n := Nat.lt_of_le_of_ne hi hin
      obtain ⟨hgo, hy⟩ := hgo hlt
      refine .inr ⟨hgo, fun σ3 H3 => ∃ δ3 μ3 G3, Iv (i + 1) δ3 μ3 ∧ SlOk K G3 σ3 δ3 ∧ Wd K G3 H3 μ3 ∧ Go μ1 G1 H1 μ3 G3 H3, fun σ3 H3 hN => ⟨it.n - (i + 1), by omega, rfl, hlt, hN⟩, fun x H3 hyl => ?_⟩
      obtain ⟨d, G3, ed, w3, g3, rd⟩ := hy x H3 hyl
      refine hg x d σ2 δ2 μ2 G3 H3 _ _ (S2.mono g3.eg) w3 rd (istep i δ2 μ2 d hlt ed hI) fun σ4 δ4 μ4 G4 H4 q4 S4 w4 g4 _ => ?_
      have g14 := (g2.trans g3).trans g4
      exact hb σ4 δ4 μ4 G4 H4 _ _ S4 w4 q4 ⟨fun σ5 δ5 μ5 G5 H5 q5 S5 w5 g5 => ⟨δ5, μ5, G5, q5, S5, w5, g14.trans g5⟩, fun σ5 δ5 μ5 G5 H5 q5 S5 w5 g5 => b.nx σ5 δ5 μ5 G5 H5 q5 S5 w5 ((g1.trans g14).trans g5),
        fun σ5 δ5 μ5 G5 H5 q5 S5 w5 g5 => ⟨δ5, μ5, G5, q5, S5, w5, g14.trans g5⟩, fun v d μ5 G5 H5 q5 w5 g5 r5 => b.rt v d μ5 G5 H5 q5 w5 ((g1.trans g14).trans g5) r5⟩
theorem okS_while (hc : OkT K tt rt) (hb : OkS K t r) : OkS K (tWhile tt t) (rWhile rt r) := fun σ δ μ G H DD D S w ⟨Iv, ⟨m0, i0⟩, istep⟩ b => by
  refine ⟨fun m σ2 H2 => ∃ δ2 μ2 G2, Iv m δ2 μ2 ∧ SlOk K G2 σ2 δ2 ∧ Wd K G2 H2 μ2 ∧ Go μ G H μ2 G2 H2, ⟨m0, δ, μ, G, i0, S, w, Go.refl _ _ _⟩, ?_⟩
  rintro m σ2 H2 ⟨δ2, μ2, G2, hI, S2, w2, g2⟩
  refine hc σ2 δ2 μ2 G2 H2 _ _ S2 w2 (istep m δ2 μ2 hI) fun c μ3 G3 H3 q3 w3 g3 => ?_
  cases c with
  | false => exact b.nx σ2 δ2 μ3 G3 H3 q3 (S2.mono g3.eg) w3 (g2.trans g3)
  | true =>
    refine ⟨fun σ4 H4 => ∃ m', m' < m ∧ ∃ δ4 μ4 G4, Iv m' δ4 μ4 ∧ SlOk K G4 σ4 δ4 ∧ Wd K G4 H4 μ4 ∧ Go μ G H μ4 G4 H4, fun σ4 H4 h => h, ?_⟩
    exact hb σ2 δ2 μ3 G3 H3 _ _ (S2.mono g3.eg) w3 q3 ⟨fun σ5 δ5 μ5 G5 H5 ⟨m', hm, q5⟩ S5 w5 g5 => ⟨m', hm, δ5, μ5, G5, q5, S5, w5, (g2.trans g3).trans g5⟩, fun σ5 δ5 μ5 G5 H5 q5 S5 w5 g5 => b.nx σ5 δ5 μ5 G5 H5 q5 S5 w5 ((g2.trans g3).trans g5),
      fun σ5 δ5 μ5 G5 H5 ⟨m', hm, q5⟩ S5 w5 g5 => ⟨m', hm, δ5, μ5, G5, q5, S5, w5, (g2.trans g3).trans g5⟩, fun v d μ5 G5 H5 q5 w5 g5 r5 => b.rt v d μ5 G5 H5 q5 w5 ((g2.trans g3).trans g5) r5⟩
theorem okS_frz {i : Nat} (h : OkS K t r) : OkS K t (rFrz i r) := fun σ δ μ G H DD D S w q b => by
  unfold rFrz at q
  split at q
  · rename_i p e
    split at q
    · rename_i ds e2
      obtain ⟨v, h1, h2⟩ := S.at_ i _ e
      cases h2
      obtain ⟨qp, q⟩ := q
      obtain ⟨vs, a1, a2, a3⟩ := w.frz e2 qp
      have hs : σ.set i (some (.ref p)) = σ := by
        apply List.ext_getElem?
        intro j
        by_cases hj : i = j
        · subst hj
          rw [List.getElem?_set_self (List.getElem?_eq_some_iff.mp h1).1, h1]
        · rw [List.getElem?_set_ne hj]
      have S2 := (S.mono a3.eg).set a2 i
      rw [hs] at S2
      exact h σ _ _ _ H DD D S2 a1 q (b.go a3)
    · exact q.elim
  · exact q.elim
end
end DL


set_option Elab.async false
set_option linter.all false
set_option maxRecDepth 100000
set_option maxHeartbeats 4000000
/-! DLf: builtins, functions over data. -/
namespace DL
open PySem PySem.Spec PyProof.Rows L2 SlX

section
variable {K : PySem.W.Frag}
theorem OkOp.or {r r' : R2} {f f' : F2} (h : OkOp K r f) (h' : OkOp K r' f') : OkOp K (fun x y H Q => r x y H Q ∨ r' x y H Q) (fun x y μ k => f x y μ k ∨ f' x y μ k) := fun x y a b μ G H k Q w rx ry q t => by
  rcases q with q | q
  · exact .inl (h x y a b μ G H k Q w rx ry q t)
  · exact .inr (h' x y a b μ G H k Q w rx ry q t)
theorem one_arg {G : Hp} {xs : List V} {d : D} (r : RepL K G xs [d]) : ∃ v, xs = [v] ∧ Rep K G v d := by
  cases r with
  | cons a t => cases t; exact ⟨_, rfl, a⟩
theorem two_args {G : Hp} {xs : List V} {d e : D} (r : RepL K G xs [d, e]) : ∃ v u, xs = [v, u] ∧ Rep K G v d ∧ Rep K G u e := by
  cases r with
  | cons a t =>
    obtain ⟨u, rfl, b⟩ := one_arg t
    exact ⟨_, _, rfl, a, b⟩

/-- len -/
@[simp] def lenD (μ : Mu) : D → Option Nat
  | .lst ds => some ds.length
  | .own p => (lsAt μ p).map List.length
  | .tup ds => some ds.length
  | .str x => if x.length ≤ 1000000 then some x.length else none
  | .scr ns => some ns.length
  | _ => none
@[simp] def oLen : FL := fun xs μ k => match xs with | [x] => ∃ n, lenD μ x = some n ∧ k (.int (n : Int)) μ | _ => False
theorem okLen : OkC K (fun xs H Q => ∃ x n, xs = [x] ∧ LenV K x H n ∧ Q (.int (n : Nat)) H) oLen := fun xs as μ G H k Q w r q t => by
  unfold oLen at q
  split at q
  · rename_i x
    obtain ⟨n, e, q⟩ := q
    obtain ⟨v, rfl, rx⟩ := one_arg r
    refine ⟨v, n, rfl, ?_, t _ _ μ G H q w (Go.refl _ _ _) (.int _)⟩
    cases rx with
    | lst h rl => cases e; exact .inl ⟨_, SqL.of (w.ex _ _ h), rl.length.symm⟩
    | own p =>
      cases e2 : lsAt μ p with
      | none => simp only [lenD, e2] at e; cases e
      | some ds =>
        simp only [lenD, e2] at e
        cases e
        obtain ⟨_, vs, h, rl⟩ := w.muL p ds (lsAt_iff.mp e2)
        exact .inl ⟨vs, SqL.of h, rl.length.symm⟩
    | tup h rl => cases e; exact .inr ⟨_, SqT.of (w.ex _ _ h), rl.length.symm⟩
    | str x =>
      simp only [lenD] at e
      split at e
      · rename_i hl
        cases e
        exact ⟨sz_of hl, rfl⟩
      · cases e
    | scr h => cases e; exact .inl ⟨_, w.ex.l h, (List.length_map _).symm⟩
    | _ => cases e
  · exact q.elim
@[simp] def oAbs : FL := fun xs μ k => match xs with | [.int i] => k (.int (if i < 0 then -i else i)) μ | _ => False
theorem okAbs : OkC K (fun xs H Q => ∃ i, xs = [.int i] ∧ Q (.int (if i < 0 then -i else i)) H) oAbs := fun xs as μ G H k Q w r q t => by
  unfold oAbs at q
  split at q
  · obtain ⟨v, rfl, rx⟩ := one_arg r
    cases rx
    exact ⟨_, rfl, t _ _ μ G H q w (Go.refl _ _ _) (.int _)⟩
  · exact q.elim
@[simp] def o2I (g : Int → Int → Int) : FL := fun xs μ k => match xs with | [.int i, .int j] => k (.int (g i j)) μ | _ => False
theorem ok2I {g : Int → Int → Int} : OkC K (fun xs H Q => ∃ i j, xs = [.int i, .int j] ∧ Q (.int (g i j)) H) (o2I g) := fun xs as μ G H k Q w r q t => by
  unfold o2I at q
  split at q
  · obtain ⟨v, u, rfl, rx, ry⟩ := two_args r
    cases rx; cases ry
    exact ⟨_, _, rfl, t _ _ μ G H q w (Go.refl _ _ _) (.int _)⟩
  · exact q.elim
@[simp] def oInt : FL := fun xs μ k => match xs with | [.int i] => k (.int i) μ | [.bl b] => k (.int (if b then 1 else 0)) μ | _ => False
theorem okInt : OkC K (fun xs H Q => (∃ i, xs = [.int i] ∧ Q (.int i) H) ∨ ∃ k, xs = [.bl k] ∧ Q (.int (if k then 1 else 0)) H) oInt := fun xs as μ G H k Q w r q t => by
  unfold oInt at q
  split at q
  · obtain ⟨v, rfl, rx⟩ := one_arg r
    cases rx
    exact .inl ⟨_, rfl, t _ _ μ G H q w (Go.refl _ _ _) (.int _)⟩
  · obtain ⟨v, rfl, rx⟩ := one_arg r
    cases rx
    exact .inr ⟨_, rfl, t _ _ μ G H q w (Go.refl _ _ _) (.int _)⟩
  · exact q.elim
@[simp] def oStrI : FL := fun xs μ k => match xs with | [.int i] => i.natAbs.log2 < 1920 ∧ k (.str (toString i)) μ | _ => False
theorem okStrI : OkC K (fun xs H Q => ∃ i : Int, xs = [.int i] ∧ i.natAbs.log2 < 1920 ∧ Q (.str (toString i)) H) oStrI := fun xs as μ G H k Q w r q t => by
  unfold oStrI at q
  split at q
  · obtain ⟨v, rfl, rx⟩ := one_arg r
    cases rx
    exact ⟨_, rfl, q.1, t _ _ μ G H q.2 w (Go.refl _ _ _) (.str _)⟩
  · exact q.elim
/-- what the data is as a row of ints, of bools -/
def asI (μ : Mu) (d : D) (ns : List Int) : Prop := asL μ d = some (ns.map D.int)
theorem asI_out {μ : Mu} {G H : Hp} {v : V} {d : D} {ns : List Int} (w : Wd K G H μ) (r : Rep K G v d) (e : asL μ d = some (ns.map D.int)) : ∃ a, v = .ref a ∧ H a = some (.lst (ns.map V.int)) := by
  obtain ⟨a, vs, rfl, h, rl⟩ := asL_out w r e
  rw [rl.ints] at h
  exact ⟨a, rfl, h⟩
set_option checkBinderAnnotations false in
def hSum (xs : List D) (μ : Mu) [k : DK] : Prop := match xs with | [x] => ∃ ns : List Int, asL μ x = some (ns.map D.int) ∧ k (.int ns.sum) μ | _ => False
@[simp] def oSum : FL := fun xs μ k => @hSum xs μ k
theorem okSum : OkC K (rSum K) oSum := fun xs as μ G H k Q w r q t => by
  unfold oSum hSum at q
  split at q
  · obtain ⟨ns, e, q⟩ := q
    obtain ⟨v, rfl, rx⟩ := one_arg r
    obtain ⟨a, rfl, h⟩ := asI_out w rx e
    exact ⟨a, ns, rfl, SqL.of h, t _ _ μ G H q w (Go.refl _ _ _) (.int _)⟩
  · exact q.elim
theorem asB_list {μ : Mu} {G H : Hp} {v : V} {d : D} {ns : List Bool} (w : Wd K G H μ) (r : Rep K G v d) (e : asL μ d = some (ns.map D.bl)) : ∃ a, v = .ref a ∧ H a = some (.lst (ns.map V.bl)) := by
  obtain ⟨a, vs, rfl, h, rl⟩ := asL_out w r e
  rw [rl.bls] at h
  exact ⟨a, rfl, h⟩
set_option checkBinderAnnotations false in
def hAll (xs : List D) (μ : Mu) [k : DK] : Prop := match xs with | [x] => ∃ bs : List Bool, asL μ x = some (bs.map D.bl) ∧ k (.bl (bs.all id)) μ | _ => False
@[simp] def oAll : FL := fun xs μ k => @hAll xs μ k
theorem okAll : OkC K (rAll K) oAll := fun xs as μ G H k Q w r q t => by
  unfold oAll hAll at q
  split at q
  · obtain ⟨ns, e, q⟩ := q
    obtain ⟨v, rfl, rx⟩ := one_arg r
    obtain ⟨a, rfl, h⟩ := asB_list w rx e
    exact ⟨a, ns, rfl, SqL.of h, t _ _ μ G H q w (Go.refl _ _ _) (.bl _)⟩
  · exact q.elim
set_option checkBinderAnnotations false in
def hAny (xs : List D) (μ : Mu) [k : DK] : Prop := match xs with | [x] => ∃ bs : List Bool, asL μ x = some (bs.map D.bl) ∧ k (.bl (bs.any id)) μ | _ => False
@[simp] def oAny : FL := fun xs μ k => @hAny xs μ k
theorem okAny : OkC K (rAny K) oAny := fun xs as μ G H k Q w r q t => by
  unfold oAny hAny at q
  split at q
  · obtain ⟨ns, e, q⟩ := q
    obtain ⟨v, rfl, rx⟩ := one_arg r
    obtain ⟨a, rfl, h⟩ := asB_list w rx e
    exact ⟨a, ns, rfl, SqL.of h, t _ _ μ G H q w (Go.refl _ _ _) (.bl _)⟩
  · exact q.elim
/-- list(x) -/
@[simp] def oList : FL := fun xs μ k => match xs with | [x] => ∃ ds, asQ μ x = some ds ∧ k (.lst ds) μ | _ => False
@[simp] def oListO : FL := fun xs μ k => match xs with | [x] => ∃ ds, asQ μ x = some ds ∧ ∀ p, μ p = none → k (.own p) (muSet μ p ds) | _ => False
theorem okList : OkC K (fun xs H Q => ∃ p ys, xs = [.ref p] ∧ (SqL K H p ys ∨ SqT K H p ys) ∧ ∀ l, H l = none → Q (.ref l) (upd H l (.lst ys))) oList := fun xs as μ G H k Q w r q t => by
  unfold oList at q
  split at q
  · obtain ⟨ds, e, q⟩ := q
    obtain ⟨v, rfl, rx⟩ := one_arg r
    obtain ⟨a, vs, rfl, h, rl⟩ := asQ_out w rx e
    exact ⟨a, vs, rfl, h, fun l hl => mkLst w rl q t l hl⟩
  · exact q.elim
theorem okListO : OkC K (fun xs H Q => ∃ p ys, xs = [.ref p] ∧ (SqL K H p ys ∨ SqT K H p ys) ∧ ∀ l, H l = none → Q (.ref l) (upd H l (.lst ys))) oListO := fun xs as μ G H k Q w r q t => by
  unfold oListO at q
  split at q
  · obtain ⟨ds, e, q⟩ := q
    obtain ⟨v, rfl, rx⟩ := one_arg r
    obtain ⟨a, vs, rfl, h, rl⟩ := asQ_out w rx e
    exact ⟨a, vs, rfl, h, fun l hl => mkOwn w rl q t l hl⟩
  · exact q.elim
/-- tuple(x) -/
@[simp] def oTuple : FL := fun xs μ k => match xs with | [x] => ∃ ds, asQ μ x = some ds ∧ k (.tup ds) μ | _ => False
theorem okTuple : OkC K (fun xs H Q => ∃ p ys, xs = [.ref p] ∧ ((SqL K H p ys ∧ ∀ l, H l = none → Q (.ref l) (upd H l (.tup ys))) ∨ (SqT K H p ys ∧ Q (.ref p) H))) oTuple := fun xs as μ G H k Q w r q t => by
  unfold oTuple at q
  split at q
  · obtain ⟨ds, e, q⟩ := q
    obtain ⟨v, rfl, rx⟩ := one_arg r
    cases rx with
    | lst h rl => cases e; exact ⟨_, _, rfl, .inl ⟨SqL.of (w.ex _ _ h), fun l hl => mkTup w rl q t l hl⟩⟩
    | own p =>
      obtain ⟨_, vs, h, rl⟩ := w.muL p ds (lsAt_iff.mp e)
      exact ⟨_, _, rfl, .inl ⟨SqL.of h, fun l hl => mkTup w rl q t l hl⟩⟩
    | tup h rl => cases e; exact ⟨_, _, rfl, .inr ⟨SqT.of (w.ex _ _ h), t _ _ μ G H q w (Go.refl _ _ _) (.tup h rl)⟩⟩
    | _ => cases e
  · exact q.elim
/-- isinstance(x, T), T a built-in class; the class's value itself is not read as data -/
@[simp] def tyN (μ : Mu) : D → Option String
  | .non => some "NoneType"
  | .bl _ => some "bool"
  | .int _ => some "int"
  | .str _ => some "str"
  | .tup _ => some "tuple"
  | .lst _ => some "list"
  | .own p => if (lsAt μ p).isSome then some "list" else none
  | .dt _ _ => some "dict"
  | .dk _ _ => some "dict"
  | _ => none
theorem tyN_out {μ : Mu} {G H : Hp} {v : V} {d : D} {T : String} (w : Wd K G H μ) (r : Rep K G v d) (e : tyN μ d = some T) : TyX K H v (.type T) := by
  cases r with
  | non => cases e; exact .base .non
  | bl b => cases e; exact .base (.bl b)
  | int b => cases e; exact .base (.int b)
  | str b => cases e; exact .base (.str b)
  | tup h rl =>
    cases e
    rcases (SqT.of (K := K) (w.ex _ _ h)) with (h | ⟨o, h⟩) | ⟨o, its, n, h, hc, _⟩
    · exact .base (.tup h)
    · exact .fTuple h
    · exact .kTuple h hc
  | lst h rl => cases e; exact .base (.lst (w.ex _ _ h))
  | dk h _ _ => cases e; exact .base (.dK (w.ex _ _ h))
  | dt h _ _ => cases e; exact .base (.dT (w.ex _ _ h))
  | own p =>
    cases e2 : lsAt μ p with
    | none => simp [tyN, e2] at e
    | some ds =>
      have e3 : T = "list" := by simp [tyN, e2] at e; exact e.symm
      subst e3
      obtain ⟨_, vs, h, _⟩ := w.muL p ds (lsAt_iff.mp e2)
      exact .base (.lst h)
  | _ => cases e
@[simp] def rIsiB (T : String) (re : RE) : RE := fun δ μ k => re δ μ fun x μ1 => ∃ a b, tyN μ1 x = some a ∧ kitB a T = some b ∧ k (.bl b) μ1
theorem okE_isi {T : String} {te : TE} {re : RE} (h : OkE K te re) : OkE K (tCB (rIsi K) (tCons te (tCons (tC (.ty T)) tNil))) (rIsiB T re) := fun σ δ μ G H k Q S w q b =>
  h σ δ μ G H _ _ S w q fun v d μ1 G1 H1 ⟨a, c, e1, e2, q1⟩ w1 g1 r1 => ⟨v, .ty T, .type a, .type T, c, rfl, .ty T, tyN_out w1 r1 e1, kit_ty e2, b _ _ μ1 G1 H1 q1 w1 g1 (.bl c)⟩
end

/-! ### methods of a list that changes -/
section
variable {K : PySem.W.Frag}
@[simp] def rApp (ro re : RE) : RE := fun δ μ k => ro δ μ fun o μ1 => match o with
  | .own p => (∃ ds, μ1 p = some (.l ds)) ∧ re δ μ1 fun d μ2 => ∃ ds, μ2 p = some (.l ds) ∧ ds.length < 1000000 ∧ k .non (muSet μ2 p (ds ++ [d]))
  | _ => False
theorem own_ty {μ : Mu} {G H : Hp} {p : Addr} (w : Wd K G H μ) (h : ∃ ds, μ p = some (.l ds)) : tyV K "list" (.ref p) H := by
  obtain ⟨ds, e2⟩ := h
  obtain ⟨_, vs, h, _⟩ := w.muL p ds e2
  exact .inl ⟨rfl, vs, SqL.of h⟩
theorem okE_app {to te : TE} {ro re : RE} (ho : OkE K to ro) (he : OkE K te re) : OkE K (tBM K "list" rAppend to (tCons te tNil)) (rApp ro re) := fun σ δ μ G H k Q S w q b =>
  ho σ δ μ G H _ _ S w q fun x o μ1 G1 H1 q1 w1 g1 r1 => by
    cases r1 with
    | own p =>
      obtain ⟨hp, q1⟩ := q1
      refine ⟨own_ty w1 hp, he σ δ μ1 G1 H1 _ _ (S.mono g1.eg) w1 q1 fun v d μ2 G2 H2 ⟨ds, e, hl, q2⟩ w2 g2 r2 => ?_⟩
      obtain ⟨_, vs, h, rl⟩ := w2.muL p ds e
      have rl2 : RepL K G2 (vs ++ [v]) (ds ++ [d]) := rl.append (.cons r2 .nil)
      exact ⟨p, vs, v, rfl, rfl, h, sz_lt (by rw [rl.length]; exact hl), b _ _ _ G2 _ q2 (w2.wr e rl2) ((g1.trans g2).trans (Go.wr e)) .non⟩
    | _ => exact q1.elim
/-- xs.extend(ys), ys another list -/
@[simp] def rExt (ro re : RE) : RE := fun δ μ k => ro δ μ fun o μ1 => match o with
  | .own p => (∃ ds, μ1 p = some (.l ds)) ∧ re δ μ1 fun d μ2 => ∃ ds es, μ2 p = some (.l ds) ∧ asL μ2 d = some es ∧ ds.length + es.length ≤ 1000000 ∧ k .non (muSet μ2 p (ds ++ es))
  | _ => False
theorem okE_ext {to te : TE} {ro re : RE} (ho : OkE K to ro) (he : OkE K te re) : OkE K (tBM K "list" rExtend to (tCons te tNil)) (rExt ro re) := fun σ δ μ G H k Q S w q b =>
  ho σ δ μ G H _ _ S w q fun x o μ1 G1 H1 q1 w1 g1 r1 => by
    cases r1 with
    | own p =>
      obtain ⟨hp, q1⟩ := q1
      refine ⟨own_ty w1 hp, he σ δ μ1 G1 H1 _ _ (S.mono g1.eg) w1 q1 fun v d μ2 G2 H2 ⟨ds, es, e, e2, hl, q2⟩ w2 g2 r2 => ?_⟩
      obtain ⟨_, vs, h, rl⟩ := w2.muL p ds e
      obtain ⟨a, ws, rfl, h2, rl2⟩ := asL_out w2 r2 e2
      exact ⟨p, a, vs, ws, rfl, rfl, h, h2, sz_of (by rw [rl.length, rl2.length]; exact hl), b _ _ _ G2 _ q2 (w2.wr e (rl.append rl2)) ((g1.trans g2).trans (Go.wr e)) .non⟩
    | _ => exact q1.elim
end

/-! ### functions -/
abbrev DSp := List D → Mu → DK → Prop
def spOf (K : PySem.W.Frag) (dsp : DSp) : Sp := fun vs H Q _ => ∃ ds μ G k, Wd K G H μ ∧ RepL K G vs ds ∧ dsp ds μ k ∧ Then K μ G H k Q
set_option checkBinderAnnotations false in
def dCall (dsp : DSp) (ds : List D) (μ : Mu) [k : DK] : Prop := dsp ds μ k
@[simp] def rCall (dsp : DSp) (ra : RA) : RE := fun δ μ k => ra δ μ fun ds μ1 => @dCall dsp ds μ1 k
@[simp] def startD (N : List Str) (ds : List D) : Sl := ds.map some ++ List.replicate (N.length - ds.length) none
section
variable {K : PySem.W.Frag}
theorem okE_call {dsp : DSp} {E : XK} {t : TA} {r : RA} (h : OkA K t r) : OkE K (tCall (spOf K dsp) [] E t) (rCall dsp r) := fun σ δ μ G H k Q S w q b =>
  h σ δ μ G H _ _ S w q fun vs ds μ1 G1 H1 q1 w1 g1 r1 => by
    show spOf K dsp (vs ++ []) H1 Q E
    rw [List.append_nil]
    exact ⟨ds, μ1, G1, k, w1, r1, q1, fun v d μ' G' H' qk w' g' r' => b v d μ' G' H' qk w' (g1.trans g') r'⟩
theorem RepL.somes {G : Hp} : ∀ {vs : List V} {ds : List D} {i : Nat} {d : D}, RepL K G vs ds → (ds.map some)[i]? = some (some d) → ∃ v, (vs.map some)[i]? = some (some v) ∧ Rep K G v d := fun {vs ds i d} r e => by
  rw [List.getElem?_map] at e
  cases q : ds[i]? with
  | none => rw [q] at e; cases e
  | some d' =>
    rw [q] at e
    cases e
    obtain ⟨v, h1, h2⟩ := r.getD' q
    exact ⟨v, by rw [List.getElem?_map, h1]; rfl, h2⟩
theorem start_ok {G : Hp} {vs : List V} {ds : List D} {N : List Str} (r : RepL K G vs ds) : SlOk K G (L2.start N vs) (startD N ds) := by
  unfold L2.start startD
  rw [r.length]
  refine ⟨by simp [r.length], fun i d e => ?_⟩
  by_cases hi : i < ds.length
  · rw [List.getElem?_append_left (by simpa using hi)] at e
    obtain ⟨v, h1, h2⟩ := RepL.somes r e
    exact ⟨v, by rw [List.getElem?_append_left (by rw [List.length_map, r.length]; exact hi)]; exact h1, h2⟩
  · rw [List.getElem?_append_right (by simpa using hi), List.getElem?_replicate] at e
    split at e <;> cases e
/-- a def as its callers want it -/
structure FnD (P : Program) (w : World) (K : PySem.W.Frag) (mg : Str → Option Value) (base : Heap) (x : Str) (k : Nat) (dsp : DSp) : Prop where
  ex : ∃ (f : Addr) (fd : FuncData) (ps : List Str), FnOk P w K mg base CX0 k f fd ps (spOf K dsp) ∧ mg x = some (.ref f) ∧ PySem.W.keepIn K (.ref f) = true ∧ Binds K fd ps []
/-- the rule for a def -/
theorem fn_mk {P : Program} {w : World} {mg : Str → Option Value} {base : Heap} {x qual : Str} {st : Stmt} {f : Addr} {fd : FuncData} {N ps : List Str} {k : Nat} {dsp : DSp} {t : TS} {r : RS} (F : Fun K x qual st f fd) (S : FnScope N ps (defScope st))
    (len : ∀ ds μ k, dsp ds μ k → ds.length = ps.length)
    (body : ∀ (cdv : Value) (A : Around) (outer : List Env) (s : Shared) (H : Hp) (E : XK), Room k (A.deeper (envOfC qual (defScope st) s.heap.objs.size f cdv)) → DSs (cxOf CX0 P w K mg base N qual (defScope st) f cdv A outer s H E).nox (defBody st) t r)
    (vc : ∀ ds μ k, dsp ds μ k → r { nx := fun _ μ' => k .non μ', rt := k } (startD N ds) μ) : FnOk P w K mg base CX0 (k + 1) f fd ps (spOf K dsp) := by
  refine F.ok S (fun vs H Q E h => ?_) (fun cdv A outer s H vs Q E hr h => ?_)
  · obtain ⟨ds, μ, G, k, _, rl, hd, _⟩ := h
    rw [rl.length]
    exact len ds μ k hd
  · obtain ⟨ds, μ, G, k', wd, rl, hd, th⟩ := h
    have B := body cdv A outer s H E hr
    refine ⟨t, B.p, B.o (L2.start N vs) (startD N ds) μ G H _ _ (start_ok rl) wd (vc ds μ k' hd) ⟨fun σ' δ' μ' G' H' h S' w' g' => th _ _ μ' G' H' h w' g' .non, fun _ _ _ _ _ h => h.elim, fun _ _ _ _ _ h => h.elim, fun v d μ' G' H' h w' g' r' => th v d μ' G' H' h w' g' r'⟩⟩
/-- less is known of the own lists -/
def Sub (μ' μ : Mu) : Prop := ∀ p ds, μ' p = some ds → μ p = some ds
theorem Wd.sub {G H : Hp} {μ μ' : Mu} (w : Wd K G H μ) (s : Sub μ' μ) : Wd K G H μ' := ⟨w.ex, fun p ds e => w.mu p ds (s p ds e)⟩
theorem Go.sub {μ0 μ μ' : Mu} {G0 H0 G H : Hp} (g : Go μ0 G0 H0 μ G H) (s : Sub μ' μ) : Go μ0 G0 H0 μ' G H := ⟨g.eg, g.kp, fun a h => g.dm a (fun z => h (by
  cases e : μ' a with
  | none => rfl
  | some d => rw [s a d e] at z; cases z)), g.gf⟩
/-- the rule for a def; own lists may be left behind -/
theorem fn_mkW {P : Program} {w : World} {mg : Str → Option Value} {base : Heap} {x qual : Str} {st : Stmt} {f : Addr} {fd : FuncData} {N ps : List Str} {k : Nat} {dsp : DSp} {t : TS} {r : RS} (F : Fun K x qual st f fd) (S : FnScope N ps (defScope st))
    (len : ∀ ds μ k, dsp ds μ k → ds.length = ps.length)
    (body : ∀ (cdv : Value) (A : Around) (outer : List Env) (s : Shared) (H : Hp) (E : XK), Room k (A.deeper (envOfC qual (defScope st) s.heap.objs.size f cdv)) → DSs (cxOf CX0 P w K mg base N qual (defScope st) f cdv A outer s H E).nox (defBody st) t r)
    (vc : ∀ ds μ k, dsp ds μ k → r { nx := fun _ μ' => ∃ μ'', Sub μ'' μ' ∧ k .non μ'', rt := fun d μ' => ∃ μ'', Sub μ'' μ' ∧ k d μ'' } (startD N ds) μ) : FnOk P w K mg base CX0 (k + 1) f fd ps (spOf K dsp) := by
  refine F.ok S (fun vs H Q E h => ?_) (fun cdv A outer s H vs Q E hr h => ?_)
  · obtain ⟨ds, μ, G, k, _, rl, hd, _⟩ := h
    rw [rl.length]
    exact len ds μ k hd
  · obtain ⟨ds, μ, G, k', wd, rl, hd, th⟩ := h
    have B := body cdv A outer s H E hr
    refine ⟨t, B.p, B.o (L2.start N vs) (startD N ds) μ G H _ _ (start_ok rl) wd (vc ds μ k' hd) ⟨fun σ' δ' μ' G' H' ⟨μ'', hs, h⟩ S' w' g' => th _ _ μ'' G' H' h (w'.sub hs) (g'.sub hs) .non, fun _ _ _ _ _ h => h.elim, fun _ _ _ _ _ h => h.elim, fun v d μ' G' H' ⟨μ'', hs, h⟩ w' g' r' => th v d μ'' G' H' h (w'.sub hs) (g'.sub hs) r'⟩⟩
end
end DL


set_option Elab.async false
set_option linter.all false
set_option maxRecDepth 100000
set_option maxHeartbeats 4000000
/-! DLg: calls of defs as a rule, bodies, instances with slots, texts. -/
namespace DL
open PySem PySem.Spec PyProof.Rows L2 SlX

/-- a def's body: what is to be shown of it, once -/
def Body (P : Program) (w : World) (K : PySem.W.Frag) (mg : Str → Option Value) (base : Heap) (k : Nat) (qual : Str) (st : Stmt) (N : List Str) (r : RS) : Prop :=
  ∀ f : Addr, ∃ t : TS, ∀ (cdv : Value) (A : Around) (outer : List Env) (s : Shared) (H : Hp) (E : XK), Room k (A.deeper (envOfC qual (defScope st) s.heap.objs.size f cdv)) → DSs (cxOf CX0 P w K mg base N qual (defScope st) f cdv A outer s H E).nox (defBody st) t r
section
variable {P : Program} {w : World} {K : PySem.W.Frag} {mg : Str → Option Value} {base : Heap}
theorem fn_body {x qual : Str} {st : Stmt} {f : Addr} {fd : FuncData} {N ps : List Str} {k : Nat} {dsp : DSp} {r : RS} (B : Body P w K mg base k qual st N r) (F : Fun K x qual st f fd) (S : FnScope N ps (defScope st))
    (len : ∀ ds μ k, dsp ds μ k → ds.length = ps.length)
    (vc : ∀ ds μ k, dsp ds μ k → r { nx := fun _ μ' => k .non μ', rt := k } (startD N ds) μ) : FnOk P w K mg base CX0 (k + 1) f fd ps (spOf K dsp) := by
  obtain ⟨t, h⟩ := B f
  exact fn_mk F S len h vc
/-- where a def of the module stands -/
structure At (K : PySem.W.Frag) (mg : Str → Option Value) (x : Str) (st : Stmt) : Prop where
  ex : ∃ (f : Addr) (fd : FuncData), Fun K x x st f fd ∧ mg x = some (.ref f) ∧ PySem.W.keepIn K (.ref f) = true
/-- a def of the module, for its callers; hb: as in Fun.binds -/
theorem fnD_of {x : Str} {st : Stmt} {N ps : List Str} {k : Nat} {dsp : DSp} {r : RS} (a : At K mg x st) (B : Body P w K mg base k x st N r) (S : FnScope N ps (defScope st))
    (hb : ∀ (kV doc pm : Value) (an : Option Addr) (cdv ct : Value) (us : List Value), us.length = ps.length → bindArgs (PySem.W.fnOf x x (defArgs st) (defBody st) (defScope st) .none kV doc pm an cdv ct) ⟨us, []⟩ = pure (ps.zip us))
    (len : ∀ ds μ k, dsp ds μ k → ds.length = ps.length)
    (vc : ∀ ds μ k, dsp ds μ k → r { nx := fun _ μ' => k .non μ', rt := k } (startD N ds) μ) : FnD P w K mg base x (k + 1) dsp := by
  obtain ⟨f, fd, F, hm, hk⟩ := a.ex
  exact ⟨f, fd, ps, fn_body B F S len vc, hm, hk, F.binds hb⟩
theorem fnD_ofW {x : Str} {st : Stmt} {N ps : List Str} {k : Nat} {dsp : DSp} {r : RS} (a : At K mg x st) (B : Body P w K mg base k x st N r) (S : FnScope N ps (defScope st))
    (hb : ∀ (kV doc pm : Value) (an : Option Addr) (cdv ct : Value) (us : List Value), us.length = ps.length → bindArgs (PySem.W.fnOf x x (defArgs st) (defBody st) (defScope st) .none kV doc pm an cdv ct) ⟨us, []⟩ = pure (ps.zip us))
    (len : ∀ ds μ k, dsp ds μ k → ds.length = ps.length)
    (vc : ∀ ds μ k, dsp ds μ k → r { nx := fun _ μ' => ∃ μ'', Sub μ'' μ' ∧ k .non μ'', rt := fun d μ' => ∃ μ'', Sub μ'' μ' ∧ k d μ'' } (startD N ds) μ) : FnD P w K mg base x (k + 1) dsp := by
  obtain ⟨f, fd, F, hm, hk⟩ := a.ex
  obtain ⟨t, h⟩ := B f
  exact ⟨f, fd, ps, fn_mkW F S len h vc, hm, hk, F.binds hb⟩
end
theorem pe_callD {X : Cx} {x : Str} {k j : Nat} {dsp : DSp} {e : Expr} {es : List Expr} {p pos : Pos} {t : TA} (F : FnD X.prog X.w X.K X.mg X.base x k dsp) (hr : Room k X.A) (hg : Gl X x) (ha : PA X (e :: es) t)
    (hdb : (x == ("__debug__" : Str)) = false := by decide) (he : starEach (e :: es) X.env = (false, eval e X.env) :: starEach es X.env := by rfl) (hpl : (backTo pos (starEach es X.env)).any (·.1) = false := by rfl) :
    PE X (.Call (.Name x p) (e :: es) [] pos) (tCall (spOf X.K dsp) [] E0 t) := by
  obtain ⟨f, fd, ps, G, hm, hk, hb⟩ := F.ex
  exact pe_call G hr hg hm hk hb .nil pass0 ha hdb he hpl

/-! ### great powers, a tuple times a number -/
def CPowW (i j : Int) : Prop := 0 ≤ j ∧ j ≤ 100 ∧ i.natAbs < 2 ^ 1000
section
variable {K : PySem.W.Frag}
/-- e.f, a slot -/
@[simp] def rFld (C : Addr) (i : Nat) (ra : RE) : RE := fun δ μ k => ra δ μ fun x μ1 => match x with | .obj C' ds => C' = C ∧ ∃ d, ds[i]? = some d ∧ k d μ1 | _ => False
theorem okE_fld {C p : Addr} {f : Str} {i : Nat} {te : TE} {ra : RE} (c : SCls K C) (s1 : Slot1 K C f p i) (h : OkE K te ra) : OkE K (SlX.tSl K te f) (rFld C i ra) := fun σ δ μ G H k Q S w q b =>
  h σ δ μ G H _ _ S w q fun v d μ1 G1 H1 q1 w1 g1 r1 => by
    cases r1 with
    | @obj a C' dx vs ds hs rl =>
      obtain ⟨rfl, d, e, q2⟩ := q1
      obtain ⟨u, h1, h2⟩ := rl.getD' e
      exact ⟨a, C', dx, p, _, i, u, rfl, w1.ex.slt hs, c, s1, by rw [List.getElem?_map, h1]; rfl, b u d μ1 G1 H1 q2 w1 g1 h2⟩
    | _ => exact q1.elim
/-- e.f, a property; o.m() -/
@[simp] def rGet (C : Addr) (dsp : DSp) (ra : RE) : RE := fun δ μ k => ra δ μ fun x μ1 => match x with | .obj C' _ => C' = C ∧ @dCall dsp [x] μ1 k | _ => False
theorem okE_prop {C : Addr} {dsp : DSp} {E : XK} {te : TE} {ra : RE} (h : OkE K te ra) : OkE K (tPropSl C (spOf K dsp) E te) (rGet C dsp ra) := fun σ δ μ G H k Q S w q b =>
  h σ δ μ G H _ _ S w q fun v d μ1 G1 H1 q1 w1 g1 r1 => by
    cases r1 with
    | @obj a C' dx vs ds hs rl =>
      obtain ⟨rfl, q2⟩ := q1
      exact ⟨a, dx, _, rfl, w1.ex.slt hs, _, μ1, G1, k, w1, .cons (.obj hs rl) .nil, q2, fun v d μ' G' H' qk w' g' r' => b v d μ' G' H' qk w' (g1.trans g') r'⟩
    | _ => exact q1.elim
theorem okE_meth0 {C : Addr} {dsp : DSp} {E : XK} {te : TE} {ra : RE} (h : OkE K te ra) : OkE K (tMethSl C (spOf K dsp) E te tNil) (rGet C dsp ra) := fun σ δ μ G H k Q S w q b =>
  h σ δ μ G H _ _ S w q fun v d μ1 G1 H1 q1 w1 g1 r1 => by
    cases r1 with
    | @obj a C' dx vs ds hs rl =>
      obtain ⟨rfl, q2⟩ := q1
      exact ⟨a, dx, _, rfl, w1.ex.slt hs, _, μ1, G1, k, w1, .cons (.obj hs rl) .nil, q2, fun v d μ' G' H' qk w' g' r' => b v d μ' G' H' qk w' (g1.trans g') r'⟩
    | _ => exact q1.elim
end
/-- where a property of the class at C stands, and its getter's promise -/
structure PropD (P : Program) (w : World) (K : PySem.W.Frag) (mg : Str → Option Value) (base : Heap) (C : Addr) (f : Str) (n : Nat) (dsp : DSp) : Prop where
  ex : ∃ p g : Addr, PySem.W.findIn K (.ref C) f = some (some (.ref p)) ∧ PySem.W.specialIn K (.ref p) "__get__" = some (some (.builtin "property.__get__")) ∧ PySem.W.takesIn K (.ref p) = some true ∧
    (∃ rest, PySem.W.recIn K p "property" = some (.ref g :: rest)) ∧ FnR P w K mg base CX0 n g (spOf K dsp)
theorem pe_propD {X : Cx} {C : Addr} {f : Str} {n : Nat} {dsp : DSp} {e : Expr} {te : TE} {pos : Pos} (c : SCls X.K C) (F : PropD X.prog X.w X.K X.mg X.base C f n dsp) (hr : Room (n + 1) X.A) (he : PE X e te) (hb : attributeBase e f X.env (eval e X.env) = eval e X.env := by rfl) :
    PE X (.Attribute e f pos) (tPropSl C (spOf X.K dsp) E0 te) := by
  obtain ⟨p, g, h1, h2, h3, h4, F⟩ := F.ex
  exact pe_propSl he c h1 h2 h3 h4 F hr (fun _ _ _ _ h => h.elim) hb
structure MethD (P : Program) (w : World) (K : PySem.W.Frag) (mg : Str → Option Value) (base : Heap) (C : Addr) (m : Str) (n : Nat) (dsp : DSp) : Prop where
  ex : ∃ g : Addr, Meth K C m g ∧ FnR P w K mg base CX0 n g (spOf K dsp)
theorem FnOk.pos {P : Program} {w : World} {K : PySem.W.Frag} {mg : Str → Option Value} {base : Heap} {k : Nat} {f : Addr} {fd : FuncData} {ps : List Str} {dsp : DSp} (F : FnOk P w K mg base CX0 k f fd ps (spOf K dsp)) (hb : Binds K fd ps []) : FnR P w K mg base CX0 k f (spOf K dsp) :=
  (F.raw hb .nil).imp fun vs H Q E h => by
    show spOf K dsp (vs ++ []) H Q E
    rw [List.append_nil]
    exact h

/-! ### texts -/
section
variable {K : PySem.W.Frag}
/-- {e} in an f-string -/
@[simp] def rFmt (ra : RE) : RE := fun δ μ k => ra δ μ fun x μ1 => match x with
  | .str y => y.length ≤ 1000000 ∧ k (.str y) μ1
  | .int i => i.natAbs.log2 < 1920 ∧ k (.str (toString i)) μ1
  | _ => False
theorem okE_fmt {te : TE} {ra : RE} (h : OkE K te ra) : OkE K (tFmt te) (rFmt ra) := fun σ δ μ G H k Q S w q b =>
  h σ δ μ G H _ _ S w q fun v d μ1 G1 H1 q1 w1 g1 r1 => by
    cases r1 with
    | str y => exact .inl ⟨y, rfl, sz_of q1.1, b _ _ μ1 G1 H1 q1.2 w1 g1 (.str _)⟩
    | int i => exact .inr ⟨i, rfl, q1.1, b _ _ μ1 G1 H1 q1.2 w1 g1 (.str _)⟩
    | _ => exact q1.elim
@[simp] def rJs : List RE → Str → Sl → Mu → (Str → Mu → Prop) → Prop
  | [], acc, _, μ, k => k acc μ
  | r :: rs, acc, δ, μ, k => r δ μ fun x μ1 => match x with
    | .str y => (acc ++ y).length ≤ 1000000 ∧ rJs rs (acc ++ y) δ μ1 k
    | _ => False
def OkJ (K : PySem.W.Frag) (ts : List TE) (rs : List RE) : Prop := ∀ (acc : Str) (σ : L2.St) (δ : Sl) (μ : Mu) (G H : Hp) (k : Str → Mu → Prop) (Q : Str → Hp → Prop), SlOk K G σ δ → Wd K G H μ → rJs rs acc δ μ k →
  (∀ x μ' G' H', k x μ' → Wd K G' H' μ' → Go μ G H μ' G' H' → Q x H') → tJs ts acc σ H Q
theorem okJ_nil : OkJ K [] [] := fun acc σ δ μ G H k Q S w q b => b acc μ G H q w (Go.refl _ _ _)
theorem okJ_cons {t : TE} {r : RE} {ts : List TE} {rs : List RE} (h : OkE K t r) (hs : OkJ K ts rs) : OkJ K (t :: ts) (r :: rs) := fun acc σ δ μ G H k Q S w q b =>
  h σ δ μ G H _ _ S w q fun v d μ1 G1 H1 q1 w1 g1 r1 => by
    cases r1 with
    | str y => exact ⟨y, rfl, sz_of q1.1, hs _ σ δ μ1 G1 H1 k Q (S.mono g1.eg) w1 q1.2 fun x μ' G' H' qk w' g' => b x μ' G' H' qk w' (g1.trans g')⟩
    | _ => exact q1.elim
@[simp] def rJoined (rs : List RE) : RE := fun δ μ k => rJs rs Str.empty δ μ fun x μ1 => k (.str x) μ1
theorem okE_joined {ts : List TE} {rs : List RE} (h : OkJ K ts rs) : OkE K (fun σ H Q => tJs ts Str.empty σ H fun out H1 => Q (.str out) H1) (rJoined rs) := fun σ δ μ G H k Q S w q b =>
  h _ σ δ μ G H _ _ S w q fun x μ' G' H' qk w' g' => b _ _ μ' G' H' qk w' g' (.str x)
/-- sep.join(xs), xs a list or a tuple of texts -/
@[simp] def rJoin (ro ra : RE) : RE := fun δ μ k => ro δ μ fun o μ1 => match o with
  | .str a => ra δ μ1 fun x μ2 => ∃ ys : List Str, asQ μ2 x = some (ys.map D.str) ∧ (ys.map (·.length)).sum + ys.length * a.length ≤ 16777216 ∧ k (.str (Txt.join a ys)) μ2
  | _ => False
end
end DL


set_option Elab.async false
set_option linter.all false
set_option maxRecDepth 100000
set_option maxHeartbeats 4000000
/-! DLh: great powers, tuple times int, join. -/
namespace DL
open PySem PySem.Spec PyProof.Rows L2 SlX

/-- t * 1 is t itself -/
theorem tup_mul_one (l : Addr) (items : Array Value) (n : Nat) (dd : Option Addr) (sl : Array (Option Value)) (u : Tok) :
    Meets (Builtin.«tuple.__mul__» ⟨[.ref l, .int 1 u], []⟩) (fun _ R s => s.heap.get? l = some { cls := .type "tuple", dict := dd, data := .seq items n, slots := sl } ∧ R (.ok (.ret (.ref l))) s) :=
  .of_wp fun prog w A R s h => by
    obtain ⟨hp, g, d, tk, os⟩ := s
    obtain ⟨hl, h⟩ := h
    have f1 := AutoSeq1.idx_int
    have c0 : (decide ((1 : Int) < -(2 ^ 63)) || decide ((1 : Int) ≥ 2 ^ 63)) = false := by decide
    have c1 : (items.isEmpty || (1 : Int) == 1) = true := by simp
    wp_walk using wpAny_loadPart' hl
    repeat (first
      | (refine wpAny_ite_false (decide_eq_false (by rw [c0]; exact Bool.false_ne_true)) ?_; wp_walk using wpAny_loadPart' hl)
      | (refine wpAny_ite_true (decide_eq_true (by rw [c1])) ?_; wp_walk using wpAny_loadPart' hl))
    exact ⟨_, rfl, h⟩
section
variable {X : Cx}
/-- a tuple times an int from 1 on -/
def rRepA (K : PySem.W.Frag) : R2 := fun x y H Q => ∃ l k xs, x = .ref l ∧ y = .int k ∧ SqT K H l xs ∧ xs ≠ [] ∧ 1 ≤ k ∧ k ≤ 1000 ∧ xs.length ≤ 1000 ∧ (k = 1 → Q (.ref l) H) ∧ (k ≠ 1 → ∀ p, H p = none → Q (.ref p) (upd H p (.tup (List.replicate k.toNat xs).flatten)))
theorem op_repTA : OpR X (binaryOp .Mult) (rRepA X.K) := by
  intro pins s σ H x y v u Q I rx ry h
  obtain ⟨l, k, xs, hx, hy, hT, hne, h1, h2, hz, q1, q2⟩ := h
  by_cases hk : k = 1
  · have q := q1 hk
    subst hx hy hk
    cases rx
    obtain ⟨t, rfl⟩ := ry
    obtain ⟨its, r, ⟨⟨cls, dd, data, sl⟩, ho, hc, n, hd⟩, hs⟩ := I.tuple hT
    simp only at hc hd
    subst hc hd
    exact wpAny_binaryOp_repeat_ref (T := "tuple") (U := "int") (by decide) ⟨_, ho, rfl⟩ (fun s' => typeIs_int s' 1 t) noFill_tuple_mul F.fills_int_mul F.slot_int_rmul repeat_tuple F.slot_int_index.lookup
      (call_meets F.slot_int_rmul (typeIs_int s 1 t) F.entry_int_rmul (F.args_int_rmul_2 _ _) (int_rmul_tuple 1 t l its.toArray n dd sl)
        ⟨ho, rfl, ⟨_, ho, rfl⟩, call_meets F.slot_tuple_mul ⟨_, ho, rfl⟩ F.entry_tuple_mul (F.args_tuple_mul_2 _ _) (tup_mul_one l its.toArray n dd sl t) ⟨ho, .ref l, H, I, rfl, q⟩⟩)
  · exact op_repT pins s σ H x y v u Q I rx ry ⟨l, k, xs, hx, hy, hT, hne, by omega, h2, hz, q2 hk⟩
/-- ints of up to a thousand bits to powers of at most a hundred -/
theorem op_powW : OpR X (binaryOp .Pow) (rI CPowW fun i j => .int (i ^ j.toNat)) := by
  intro pins s σ H x y v u Q I rx ry h
  obtain ⟨i, j, rfl, rfl, ⟨h0, h1, hb⟩, q⟩ := h
  obtain ⟨t, rfl⟩ := rx
  obtain ⟨t', rfl⟩ := ry
  have b1 : Builtin.Int.intBits i ≤ i.natAbs.log2 + 1 := by
    unfold Builtin.Int.intBits
    split <;> omega
  have b2 := PySem.Flt.log2_lt_of (by decide : 0 < 1000) hb
  refine pow_int h0 ?_ ⟨.int _, H, I.tok _, ⟨_, rfl⟩, q⟩
  have : (Builtin.Int.intBits i : Int) ≤ 1000 := by omega
  calc (Builtin.Int.intBits i : Int) * j ≤ 1000 * j := Int.mul_le_mul_of_nonneg_right this h0
    _ ≤ 2 ^ 27 := by omega
end
section
variable {K : PySem.W.Frag}
@[simp] def oRepT : F2 := fun x y μ k => match x, y with | .tup xs, .int j => xs ≠ [] ∧ 1 ≤ j ∧ j ≤ 1000 ∧ xs.length ≤ 1000 ∧ k (.tup (List.replicate j.toNat xs).flatten) μ | _, _ => False
theorem okRepT : OkOp K (rRepA K) oRepT := fun x y a b μ G H k Q w rx ry q t => by
  cases rx with
  | @tup l vs ds h r =>
    cases ry with
    | int j =>
      obtain ⟨h0, h1, h2, h3, q⟩ := q
      refine ⟨l, j, vs, rfl, rfl, SqT.of (w.ex _ _ h), fun z => h0 ?_, h1, h2, by rw [r.length]; exact h3, fun z => ?_, fun z p hp => mkTup w (r.flat _) q t p hp⟩
      · have := r.length
        rw [z] at this
        exact List.eq_nil_of_length_eq_zero this.symm
      · subst z
        have e : (List.replicate (1 : Int).toNat ds).flatten = ds := by simp
        rw [e] at q
        exact t _ _ μ G H q w (Go.refl _ _ _) (.tup h r)
    | _ => exact q.elim
  | _ => exact q.elim
theorem okE_join {to ta : TE} {ro ra : RE} (ho : OkE K to ro) (ha : OkE K ta ra) : OkE K (tM1 (fun x xs H Q => ∃ a p, ∃ ys : List Str, x = .str a ∧ xs = [.ref p] ∧ (SqL K H p (ys.map V.str) ∨ SqT K H p (ys.map V.str)) ∧
      (ys.map (·.length)).sum + ys.length * a.length ≤ 16777216 ∧ Q (.str (Txt.join a ys)) H) to ta) (rJoin ro ra) := fun σ δ μ G H k Q S w q b =>
  ho σ δ μ G H _ _ S w q fun v o μ1 G1 H1 q1 w1 g1 r1 => by
    cases r1 with
    | str a =>
      refine ⟨⟨a, rfl⟩, ha σ δ μ1 G1 H1 _ _ (S.mono g1.eg) w1 q1 fun x d μ2 G2 H2 ⟨ys, e, hl, q2⟩ w2 g2 r2 => ?_⟩
      obtain ⟨p, vs, rfl, hp, rl⟩ := asQ_out w2 r2 e
      rw [rl.strs] at hp
      exact ⟨a, p, ys, rfl, rfl, hp, hl, b _ _ μ2 G2 H2 q2 w2 (g1.trans g2) (.str _)⟩
    | _ => exact q1.elim
end
end DL


set_option Elab.async false
set_option linter.all false
set_option maxRecDepth 100000
set_option maxHeartbeats 4000000
/-! DLr: the rules of HandS with the written part K said outright (so that readings do not hang on the frame). -/
namespace DL
open PySem PySem.Spec PyProof.Rows L2 SlX
section
variable (K : PySem.W.Frag) {X : Cx}
theorem kc_isi (hK : X.K = K := by rfl) : CallR X (.builtin "isinstance") (rIsi K) := by subst hK; exact call_isi
theorem kc_len (hK : X.K = K := by rfl) : CallR X (.builtin "len") (fun xs H Q => ∃ x n, xs = [x] ∧ LenV K x H n ∧ Q (.int (n : Nat)) H) := by subst hK; exact call_len
theorem kc_sum (hc : X.calm = true := by rfl) (hK : X.K = K := by rfl) : CallR X (.builtin "sum") (rSum K) := by subst hK; exact cr_sum hc
theorem kc_all (hc : X.calm = true := by rfl) (hK : X.K = K := by rfl) : CallR X (.builtin "all") (rAll K) := by subst hK; exact cr_all hc
theorem kc_any (hc : X.calm = true := by rfl) (hK : X.K = K := by rfl) : CallR X (.builtin "any") (rAny K) := by subst hK; exact cr_any hc
theorem kc_list (hK : X.K = K := by rfl) : CallR X (.type "list") (fun xs H Q => ∃ p ys, xs = [V.ref p] ∧ (SqL K H p ys ∨ SqT K H p ys) ∧ ∀ l, H l = none → Q (.ref l) (upd H l (.lst ys))) := by subst hK; exact call_list_of
theorem kc_tuple (hK : X.K = K := by rfl) : CallR X (.type "tuple") (fun xs H Q => ∃ p ys, xs = [V.ref p] ∧ ((SqL K H p ys ∧ ∀ l, H l = none → Q (.ref l) (upd H l (.tup ys))) ∨ (SqT K H p ys ∧ Q (.ref p) H))) := by subst hK; exact call_tuple_of
theorem ko_eqD (hu : X.A.units + 64 < cLine) (hK : X.K = K := by rfl) : OpR X (compareOp .Eq) (rEqD K) := by subst hK; exact op_eqD hu
theorem ko_neD (hu : X.A.units + 64 < cLine) (hK : X.K = K := by rfl) : OpR X (compareOp .NotEq) (rNeD K) := by subst hK; exact op_neD hu
theorem ko_catA (hK : X.K = K := by rfl) : OpR X (binaryOp .Add) (rCatA K) := by subst hK; exact op_catA
theorem ko_repTA (hK : X.K = K := by rfl) : OpR X (binaryOp .Mult) (rRepA K) := by subst hK; exact op_repTA
theorem kx_seq (hK : X.K = K := by rfl) : IxR X (rIx K) := by subst hK; exact ix_seq
theorem kx_list (hK : X.K = K := by rfl) : IxR X (rIxL K) := by subst hK; exact ix_list
theorem ks_list (hK : X.K = K := by rfl) : SlR X (rSlL K) := by subst hK; exact sl_list
theorem ks_tupA (hK : X.K = K := by rfl) : SlR X (rSlA K) := by subst hK; exact sl_tupA
theorem ki_list {tg l : Expr} {tl : TE} (hl : PE X l tl) (hK : X.K = K := by rfl) : PI X tg l (iList K tl) := by subst hK; exact pi_list hl
theorem ki_tup {tg l : Expr} {tl : TE} (hl : PE X l tl) (hK : X.K = K := by rfl) : PI X tg l (iTup K tl) := by subst hK; exact pi_tup hl
theorem ki_zip {e e2 : Expr} {ta : TA} {p pos tpos : Pos} {elts : List Expr} {kk : Nat} (hg : Gl X "zip") (hm : X.mg "zip" = none) (ha : PA X [e, e2] ta) (hK : X.K = K := by rfl)
    (hs : starEach [e, e2] X.env = (false, eval e X.env) :: starEach [e2] X.env := by rfl) (hpl : (backTo pos (starEach [e2] X.env)).any (·.1) = false := by rfl) :
    PI X (.Tuple elts kk tpos) (.Call (.Name "zip" p) [e, e2] [] pos) (iZipM K ta) := by subst hK; exact pi_zipM hg hm ha hs hpl
theorem kg_tup {es : List Expr} {k : Nat} {pos : Pos} {t : TGs} {n : Nat} (h : PGs X es t) (hc : X.calm = true := by rfl) (hK : X.K = K := by rfl)
    (hn : (assignEach es X.env).length = n := by rfl) (hst : (assignEach es X.env).findIdx? (·.1) = none := by rfl) : PG X (.Tuple es k pos) (gTup K n t) := by subst hK; exact pg_tup hc h hn hst
theorem ke_app {o e : Expr} {apos cpos : Pos} {to : TE} {t : TA} (ho : PE X o to) (ha : PA X [e] t) (hK : X.K = K := by rfl)
    (hbase : attributeBase o "append" X.env (eval o X.env) = eval o X.env := by rfl)
    (hfew : ((backTo cpos (starEach [e] X.env)).all (fun x => !x.1) && (backToKw cpos (keywordEach [] X.env)).all (fun x => x.1.isSome) && decide ([e].length + ([] : List Keyword).length + (if ([] : List Keyword).isEmpty then 0 else 1) < 30)) = true := by rfl)
    (hline : (apos.endLine == cpos.line) = true := by rfl) (hs : starEach [e] X.env = (false, eval e X.env) :: starEach [] X.env := by rfl) (hplain : (backTo cpos (starEach [] X.env)).any (·.1) = false := by rfl) :
    PE X (.Call (.Attribute o "append" apos) [e] [] cpos) (tBM K "list" rAppend to t) := by
  subst hK; exact pe_bm PySem.F.plainAttrs_list PySem.F.slot_list_append PySem.F.type_list_append mt_append ho ha hbase hfew hline hs hplain
theorem ke_ext {o e : Expr} {apos cpos : Pos} {to : TE} {t : TA} (ho : PE X o to) (ha : PA X [e] t) (hK : X.K = K := by rfl)
    (hbase : attributeBase o "extend" X.env (eval o X.env) = eval o X.env := by rfl)
    (hfew : ((backTo cpos (starEach [e] X.env)).all (fun x => !x.1) && (backToKw cpos (keywordEach [] X.env)).all (fun x => x.1.isSome) && decide ([e].length + ([] : List Keyword).length + (if ([] : List Keyword).isEmpty then 0 else 1) < 30)) = true := by rfl)
    (hline : (apos.endLine == cpos.line) = true := by rfl) (hs : starEach [e] X.env = (false, eval e X.env) :: starEach [] X.env := by rfl) (hplain : (backTo cpos (starEach [] X.env)).any (·.1) = false := by rfl) :
    PE X (.Call (.Attribute o "extend" apos) [e] [] cpos) (tBM K "list" rExtend to t) := by
  subst hK; exact pe_bm PySem.F.plainAttrs_list PySem.F.slot_list_extend PySem.F.type_list_extend mt_extend ho ha hbase hfew hline hs hplain
theorem ke_call {x : Str} {k : Nat} {dsp : DSp} {e : Expr} {es : List Expr} {p pos : Pos} {t : TA} {P : Program} {w : World} {mg : Str → Option Value} {base : Heap} (F : FnD P w K mg base x k dsp) {j : Nat} (hr : Room j X.A) (ha : PA X (e :: es) t)
    (hj : k ≤ j := by first | decide | omega) (hg : Gl X x := by rfl) (hP : X.prog = P := by rfl) (hw : X.w = w := by rfl) (hK : X.K = K := by rfl) (hm : X.mg = mg := by rfl) (hb : X.base = base := by rfl)
    (hdb : (x == ("__debug__" : Str)) = false := by decide) (he : starEach (e :: es) X.env = (false, eval e X.env) :: starEach es X.env := by rfl) (hpl : (backTo pos (starEach es X.env)).any (·.1) = false := by rfl) :
    PE X (.Call (.Name x p) (e :: es) [] pos) (tCall (spOf K dsp) [] E0 t) := by
  subst hP hw hK hm hb
  exact pe_callD (j := 0) F (hr.mono hj) hg ha hdb he hpl
theorem ke_globI {x : Str} {i : Int} {pos : Pos} {mg : Str → Option Value} (h : ∃ t, mg x = some (.int i t)) (hm : X.mg = mg := by rfl) (hg : Gl X x := by rfl) (hd : (x == ("__debug__" : Str)) = false := by decide) : PE X (.Name x pos) (tC (.int i)) := by
  subst hm
  obtain ⟨t, h⟩ := h
  exact pe_glob hg h ⟨_, rfl⟩ hd
theorem ke_sl {e : Expr} {f : Str} {pos : Pos} {ta : TE} (he : PE X e ta) (hK : X.K = K := by rfl) (hb : attributeBase e f X.env (eval e X.env) = eval e X.env := by rfl) : PE X (.Attribute e f pos) (SlX.tSl K ta f) := by subst hK; exact pe_sl he hb
theorem ke_prop {C : Addr} {f : Str} {n j : Nat} {dsp : DSp} {e : Expr} {te : TE} {pos : Pos} {P : Program} {w : World} {mg : Str → Option Value} {base : Heap} (c : SCls K C) (F : PropD P w K mg base C f n dsp) (hr : Room j X.A) (he : PE X e te)
    (hj : n + 1 ≤ j := by decide) (hP : X.prog = P := by rfl) (hw : X.w = w := by rfl) (hK : X.K = K := by rfl) (hm : X.mg = mg := by rfl) (hb : X.base = base := by rfl) (hbb : attributeBase e f X.env (eval e X.env) = eval e X.env := by rfl) :
    PE X (.Attribute e f pos) (tPropSl C (spOf K dsp) E0 te) := by
  subst hP hw hK hm hb
  exact pe_propD c F (hr.mono hj) he hbb
theorem ke_join {o e : Expr} {to te : TE} {apos pos : Pos} (ho : PE X o to) (he : PE X e te) (hK : X.K = K := by rfl) (hs : starEach [e] X.env = [(false, eval e X.env)] := by rfl) (hbase : attributeBase o "join" X.env (eval o X.env) = eval o X.env := by rfl) (hline : (apos.endLine == pos.line) = true := by rfl) :
    PE X (.Call (.Attribute o "join" apos) [e] [] pos) (tM1 (fun x xs H Q => ∃ a p, ∃ ys : List Str, x = .str a ∧ xs = [.ref p] ∧ (SqL K H p (ys.map V.str) ∨ SqT K H p (ys.map V.str)) ∧ (ys.map (·.length)).sum + ys.length * a.length ≤ 16777216 ∧ Q (.str (Txt.join a ys)) H) to te) := by
  subst hK; exact pe_join ho he hs hbase hline
end
/-- a built-in by its name -/
theorem kb_call {X : Cx} {x : Str} {id : String} {r : List V → Hp → VK → Prop} {e : Expr} {es : List Expr} {t : TA} {p pos : Pos} {mg : Str → Option Value} (hc : CallR X (.builtin id) r) (hm : mg x = none) (ha : PA X (e :: es) t) (hg : Gl X x := by rfl) (hmg : X.mg = mg := by rfl) (hv : bootBuiltins x = some (.builtin id) := by decide +kernel)
    (hn : x ≠ "__name__" := by decide) (hdb : (x == ("__debug__" : Str)) = false := by decide) (he : starEach (e :: es) X.env = (false, eval e X.env) :: starEach es X.env := by rfl) (hpl : (backTo pos (starEach es X.env)).any (·.1) = false := by rfl) : PE X (.Call (.Name x p) (e :: es) [] pos) (tCB r t) := by
  subst hmg; exact pe_callB hc hg hm hv ha hn hdb he hpl
theorem kt_call {X : Cx} {x : Str} {T : String} {r : List V → Hp → VK → Prop} {e : Expr} {es : List Expr} {t : TA} {p pos : Pos} {mg : Str → Option Value} (hc : CallR X (.type T) r) (hm : mg x = none) (ha : PA X (e :: es) t) (hg : Gl X x := by rfl) (hmg : X.mg = mg := by rfl) (hv : bootBuiltins x = some (.type T) := by decide +kernel)
    (hn : x ≠ "__name__" := by decide) (hdb : (x == ("__debug__" : Str)) = false := by decide) (he : starEach (e :: es) X.env = (false, eval e X.env) :: starEach es X.env := by rfl) (hpl : (backTo pos (starEach es X.env)).any (·.1) = false := by rfl) : PE X (.Call (.Name x p) (e :: es) [] pos) (tCB r t) := by
  subst hmg; exact pe_callTy hc hg hm hv ha hn hdb he hpl
theorem kb_ty {X : Cx} {x : Str} {T : String} {pos : Pos} {mg : Str → Option Value} (hm : mg x = none) (hg : Gl X x := by rfl) (hmg : X.mg = mg := by rfl) (hv : bootBuiltins x = some (.type T) := by decide +kernel) (hn : x ≠ "__name__" := by decide) (hdb : (x == ("__debug__" : Str)) = false := by decide) : PE X (.Name x pos) (tC (.ty T)) := by
  subst hmg; exact pe_bltn hg hm hv rfl hn hdb
theorem kr_range1 {X : Cx} {tg a : Expr} {ta : TA} {p pos : Pos} {mg : Str → Option Value} (hm : mg "range" = none) (ha : PA X [a] ta) (hg : Gl X "range" := by rfl) (hmg : X.mg = mg := by rfl) (hs : starEach [a] X.env = [(false, eval a X.env)] := by rfl) : PI X tg (.Call (.Name "range" p) [a] [] pos) (iRng1 ta) := by
  subst hmg; exact pi_range1 hg hm ha hs
theorem kr_range2 {X : Cx} {tg a b : Expr} {ta : TA} {p pos : Pos} {mg : Str → Option Value} (hm : mg "range" = none) (ha : PA X [a, b] ta) (hg : Gl X "range" := by rfl) (hmg : X.mg = mg := by rfl) (hs : starEach [a, b] X.env = [(false, eval a X.env), (false, eval b X.env)] := by rfl) (hs2 : starEach [b] X.env = [(false, eval b X.env)] := by rfl) : PI X tg (.Call (.Name "range" p) [a, b] [] pos) (iRng2 ta) := by
  subst hmg; exact pi_range2 hg hm ha hs hs2
end DL


set_option Elab.async false
set_option linter.all false
set_option maxRecDepth 100000
set_option maxHeartbeats 4000000
/-! DLv: plain laws for what is to be shown of readings. -/
namespace DL
open PySem PySem.Spec PyProof.Rows L2 SlX

/-- the walk yields just these data -/
structure Src (it : DIt) (μ : Mu) (ds : List D) : Prop where
  len : it.n = ds.length
  at_ : ∀ i d, i < it.n → it.at_ i = some d → ds[i]? = some d
  ok : it.ok μ
theorem Src.l {μ : Mu} (ds : List D) : Src (itL ds) μ ds := ⟨rfl, fun _ _ _ h => h, trivial⟩
theorem Src.o {μ : Mu} {p : Addr} {ds : List D} (h : μ p = some (.l ds)) : Src (itO p ds) μ ds := ⟨rfl, fun _ _ _ h => h, h⟩
theorem Src.r {μ : Mu} (lo : Int) (n : Nat) : Src (itR lo n) μ ((List.range n).map fun i => .int (lo + (i : Nat))) := by
  refine ⟨by simp [itR], fun i d hi h => ?_, trivial⟩
  have hi : i < n := hi
  have h : some (D.int (lo + (i : Nat))) = some d := h
  rw [List.getElem?_map, List.getElem?_range hi]
  exact h
theorem Src.z {μ : Mu} {x y : D} {xs ys : List D} (h1 : asQ μ x = some xs) (h2 : asQ μ y = some ys) : Src (itZ x y xs ys) μ ((xs.zip ys).map fun q => .tup [q.1, q.2]) := by
  refine ⟨by simp [itZ], fun i d hi h => ?_, h1, h2⟩
  have hi : i < min xs.length ys.length := hi
  have hx : i < xs.length := by omega
  have hy : i < ys.length := by omega
  have h : pairD xs[i]? ys[i]? = some d := h
  have hz : i < (xs.zip ys).length := by rw [List.length_zip]; exact hi
  rw [List.getElem?_eq_getElem hx, List.getElem?_eq_getElem hy] at h
  rw [List.getElem?_map, List.getElem?_eq_getElem hz, List.getElem_zip]
  exact h
theorem Src.get {it : DIt} {μ : Mu} {α : Type} {e : α → D} {xs : List α} (s : Src it μ (xs.map e)) {i : Nat} {d : D} (hi : i < it.n) (h : it.at_ i = some d) : ∃ x, xs[i]? = some x ∧ d = e x := by
  have := s.at_ i d hi h
  rw [List.getElem?_map] at this
  cases q : xs[i]? with
  | none => rw [q] at this; cases this
  | some x => rw [q] at this; cases this; exact ⟨x, rfl, rfl⟩
theorem take_succ_of {α : Type} {xs : List α} {i : Nat} {x : α} (h : xs[i]? = some x) : xs.take (i + 1) = xs.take i ++ [x] := by
  have hi : i < xs.length := by
    by_cases hi : i < xs.length
    · exact hi
    · rw [List.getElem?_eq_none (by omega)] at h; cases h
  rw [List.getElem?_eq_getElem hi] at h
  cases h
  simp
/-- each element alone, nothing changes: kept by p, made by g -/
theorem lcW_filt {it : DIt} {rg : RG} {rt : RT} {re : RE} {vs : List Nat} {δ : Sl} {μ : Mu} {fin : List D → Mu → Prop} {α : Type} (xs : List α) (e g : α → D) (p : α → Bool) (s : Src it μ (xs.map e)) (hn : xs.length ≤ 1000000)
    (step : ∀ x ∈ xs, ∀ (kt : DK) (kf : Mu → Prop), (p x = true → kt (g x) μ) → (p x = false → kf μ) → rg (e x) (wipeD δ vs) μ fun δ2 μ2 => rt δ2 μ2 fun b μ3 => if b = true then re δ2 μ3 kt else kf μ3)
    (h : fin ((xs.filter p).map g) μ) : @rLcW it rg rt re vs δ μ fin := by
  refine ⟨by rw [s.len, List.length_map]; exact hn, fun i acc μ' => μ' = μ ∧ acc = ((xs.take i).filter p).map g, ⟨rfl, by simp⟩, fun i acc μ' q => q.1 ▸ s.ok, fun i acc μ' d hi hd q => ?_, fun acc μ' q => ?_⟩
  · obtain ⟨rfl, rfl⟩ := q
    obtain ⟨x, hx, rfl⟩ := s.get hi hd
    refine step x (List.mem_of_getElem? hx) _ _ (fun hp => ⟨rfl, ?_⟩) (fun hp => ⟨rfl, ?_⟩)
    · rw [take_succ_of hx, List.filter_append, List.map_append]; simp [hp]
    · rw [take_succ_of hx, List.filter_append, List.map_append]; simp [hp]
  · obtain ⟨rfl, rfl⟩ := q
    rw [s.len, List.length_map, List.take_length]
    exact h
theorem lcW_map {it : DIt} {rg : RG} {rt : RT} {re : RE} {vs : List Nat} {δ : Sl} {μ : Mu} {fin : List D → Mu → Prop} {α : Type} (xs : List α) (e g : α → D) (s : Src it μ (xs.map e)) (hn : xs.length ≤ 1000000)
    (step : ∀ x ∈ xs, ∀ (kt : DK) (kf : Mu → Prop), kt (g x) μ → rg (e x) (wipeD δ vs) μ fun δ2 μ2 => rt δ2 μ2 fun b μ3 => if b = true then re δ2 μ3 kt else kf μ3)
    (h : fin (xs.map g) μ) : @rLcW it rg rt re vs δ μ fin :=
  lcW_filt xs e g (fun _ => true) s hn (fun x hx kt kf h1 _ => step x hx kt kf (h1 rfl)) (by rw [List.filter_eq_self.mpr (fun _ _ => rfl)]; exact h)
/-- a walk that changes something: Inv by the turn -/
theorem lcW_inv {it : DIt} {rg : RG} {rt : RT} {re : RE} {vs : List Nat} {δ : Sl} {μ : Mu} {fin : List D → Mu → Prop} {α : Type} (xs : List α) (e : α → D) (s : Src it μ (xs.map e)) (hn : xs.length ≤ 1000000)
    (Inv : Nat → List D → Mu → Prop) (h0 : Inv 0 [] μ) (hok : ∀ i acc μ', Inv i acc μ' → it.ok μ')
    (step : ∀ i x acc μ', xs[i]? = some x → Inv i acc μ' → rg (e x) (wipeD δ vs) μ' fun δ2 μ2 => rt δ2 μ2 fun b μ3 => if b = true then re δ2 μ3 fun y μ4 => Inv (i + 1) (acc ++ [y]) μ4 else Inv (i + 1) acc μ3)
    (h : ∀ acc μ', Inv xs.length acc μ' → fin acc μ') : @rLcW it rg rt re vs δ μ fin := by
  have hl : it.n = xs.length := by rw [s.len, List.length_map]
  refine ⟨by rw [hl]; exact hn, Inv, h0, hok, fun i acc μ' d hi hd q => ?_, fun acc μ' q => h acc μ' (hl ▸ q)⟩
  obtain ⟨x, hx, rfl⟩ := s.get hi hd
  exact step i x acc μ' hx q
/-- the inner walk of two -/
theorem inW_map {it : DIt} {rg : RG} {rt : RT} {re : RE} {vs : List Nat} {δ : Sl} {μ : Mu} {acc0 : List D} {fin : List D → Mu → Prop} {α : Type} (xs : List α) (e g : α → D) (s : Src it μ (xs.map e)) (hn : acc0.length + xs.length < 1000000)
    (step : ∀ x ∈ xs, ∀ (kt : DK) (kf : Mu → Prop), kt (g x) μ → rg (e x) (wipeD δ vs) μ fun δ2 μ2 => rt δ2 μ2 fun b μ3 => if b = true then re δ2 μ3 kt else kf μ3)
    (h : fin (acc0 ++ xs.map g) μ) : @rInW it rg rt re vs δ μ acc0 fin := by
  refine ⟨fun i acc μ' => μ' = μ ∧ acc = acc0 ++ (xs.take i).map g, ⟨rfl, by simp⟩, fun i acc μ' q => ⟨q.1 ▸ s.ok, ?_⟩, fun i acc μ' d hi hd q => ?_, fun acc μ' q => ?_⟩
  · rw [q.2, List.length_append, List.length_map, List.length_take]
    omega
  · obtain ⟨rfl, rfl⟩ := q
    obtain ⟨x, hx, rfl⟩ := s.get hi hd
    refine step x (List.mem_of_getElem? hx) _ _ ⟨rfl, ?_⟩
    rw [take_succ_of hx, List.map_append]; simp
  · obtain ⟨rfl, rfl⟩ := q
    rw [s.len, List.length_map, List.take_length]
    exact h
theorem lc2_map {it : DIt} {rg : RG} {rt : RT} {ri1 : RI} {rg1 : RG} {rt1 : RT} {re : RE} {vs vs1 : List Nat} {δ : Sl} {μ : Mu} {fin : List D → Mu → Prop} {α : Type} (xs : List α) (e : α → D) (g : α → List D) (s : Src it μ (xs.map e)) (hn : xs.length ≤ 1000000)
    (step : ∀ x ∈ xs, ∀ (acc : List D) (kt : List D → Mu → Prop) (kf : Mu → Prop), (∃ i, acc = (xs.take i).flatMap g ∧ xs[i]? = some x) → kt (acc ++ g x) μ → rg (e x) (wipeD δ vs) μ fun δ2 μ2 => rt δ2 μ2 fun b μ3 => if b = true then ri1 δ2 μ3 fun it1 μ4 => @rInW it1 rg1 rt1 re vs1 δ2 μ4 acc kt else kf μ3)
    (h : fin (xs.flatMap g) μ) : @rLc2W it rg rt ri1 rg1 rt1 re vs vs1 δ μ fin := by
  refine ⟨by rw [s.len, List.length_map]; exact hn, fun i acc μ' => μ' = μ ∧ acc = (xs.take i).flatMap g, ⟨rfl, by simp⟩, fun i acc μ' q => q.1 ▸ s.ok, fun i acc μ' d hi hd q => ?_, fun acc μ' q => ?_⟩
  · obtain ⟨rfl, rfl⟩ := q
    obtain ⟨x, hx, rfl⟩ := s.get hi hd
    refine step x (List.mem_of_getElem? hx) _ _ _ ⟨i, rfl, hx⟩ ⟨rfl, ?_⟩
    rw [take_succ_of hx, List.flatMap_append]; simp
  · obtain ⟨rfl, rfl⟩ := q
    rw [s.len, List.length_map, List.take_length]
    exact h
/-- a for statement over known data -/
theorem for_inv {ri : RI} {rg : RG} {rb : RS} {DD : DEnds} {δ : Sl} {μ : Mu} {α : Type} (xs : List α) (e : α → D) (Inv : Nat → Sl → Mu → Prop)
    (s : ∀ k : DIt → Mu → Prop, (∀ it μ1, Src it μ1 (xs.map e) → Inv 0 δ μ1 → (∀ i δ μ, Inv i δ μ → it.ok μ) → k it μ1) → ri δ μ k)
    (step : ∀ i x δ μ, xs[i]? = some x → Inv i δ μ → rg (e x) δ μ fun δ2 μ2 => rb { nx := Inv (i + 1), ct := Inv (i + 1), bk := DD.nx, rt := DD.rt } δ2 μ2)
    (h : ∀ δ μ, Inv xs.length δ μ → DD.nx δ μ) : rFor ri rg rb DD δ μ := by
  refine s _ fun it μ1 sr h0 hok => ⟨Inv, h0, hok, fun i δ μ d hi hd q => ?_, fun δ μ q => h δ μ ?_⟩
  · obtain ⟨x, hx, rfl⟩ := sr.get hi hd
    exact step i x δ μ hx q
  · have hl : it.n = xs.length := by rw [sr.len, List.length_map]
    exact hl ▸ q
theorem forW_inv {rg : RG} {rb : RS} {DD : DEnds} {δ : Sl} {μ1 : Mu} {it : DIt} {α : Type} (xs : List α) (e : α → D) (sr : Src it μ1 (xs.map e)) (Inv : Nat → Sl → Mu → Prop) (h0 : Inv 0 δ μ1) (hok : ∀ i δ μ, Inv i δ μ → it.ok μ)
    (step : ∀ i x δ μ, xs[i]? = some x → Inv i δ μ → rg (e x) δ μ fun δ2 μ2 => rb { nx := Inv (i + 1), ct := Inv (i + 1), bk := DD.nx, rt := DD.rt } δ2 μ2)
    (h : ∀ δ μ, Inv xs.length δ μ → DD.nx δ μ) : rForW it rg rb DD δ μ1 := by
  refine ⟨Inv, h0, hok, fun i δ μ d hi hd q => ?_, fun δ μ q => h δ μ ?_⟩
  · obtain ⟨x, hx, rfl⟩ := sr.get hi hd
    exact step i x δ μ hx q
  · have hl : it.n = xs.length := by rw [sr.len, List.length_map]
    exact hl ▸ q
/-! ### equality of data -/
structure Cm {α : Type} [DecidableEq α] (e : α → D) (q : α → PyData) (n : Nat) : Prop where
  py : ∀ x, toPy (e x) = some (q x)
  own : ∀ x p, e x ≠ .own p
  eqv : ∀ x y, PyData.eqv (q x) (q y) = decide (x = y)
  lay : ∀ x, (q x).canLay0 = true
  dep : ∀ x, (q x).depth ≤ n
section
variable {α : Type} [DecidableEq α] {e : α → D} {q : α → PyData} {n : Nat}
theorem Cm.int : Cm D.int PyData.int 0 := ⟨fun _ => rfl, fun _ _ h => (by cases h), fun x y => by simp only [PyData.eqv]; rfl, fun _ => rfl, fun _ => Nat.le_refl _⟩
theorem Cm.bl : Cm D.bl PyData.bool 0 := ⟨fun _ => rfl, fun _ _ h => (by cases h), fun x y => by cases x <;> cases y <;> rfl, fun _ => rfl, fun _ => Nat.le_refl _⟩
theorem Cm.pyL (c : Cm e q n) : ∀ xs : List α, toPyL (xs.map e) = some (xs.map q)
  | [] => rfl
  | x :: xs => by
    simp only [List.map_cons]
    unfold toPyL
    rw [c.py x, Cm.pyL c xs]
theorem Cm.eqvAll (c : Cm e q n) : ∀ xs ys : List α, PyData.eqvAll (xs.map q) (ys.map q) = decide (xs = ys)
  | [], [] => rfl
  | [], y :: ys => by simp [PyData.eqvAll]
  | x :: xs, [] => by simp [PyData.eqvAll]
  | x :: xs, y :: ys => by
    simp only [List.map_cons, PyData.eqvAll]
    rw [c.eqv, Cm.eqvAll c xs ys, Bool.eq_iff_iff]
    simp
theorem Cm.layAll (c : Cm e q n) : ∀ xs : List α, PyData.canLayAll0 (xs.map q) = true
  | [] => rfl
  | x :: xs => by simp only [List.map_cons, PyData.canLayAll0, c.lay x, Cm.layAll c xs]; rfl
theorem Cm.depAll (c : Cm e q n) : ∀ xs : List α, PyData.depthAll (xs.map q) ≤ n
  | [] => by simp [PyData.depthAll]
  | x :: xs => by
    have h1 := c.dep x
    have h2 := Cm.depAll c xs
    simp only [List.map_cons, PyData.depthAll]
    omega
theorem Cm.tup (c : Cm e q n) : Cm (fun xs : List α => D.tup (xs.map e)) (fun xs => PyData.tuple (xs.map q)) (n + 1) :=
  ⟨fun xs => by unfold toPy; rw [c.pyL], fun _ _ h => (by cases h), fun xs ys => by simp only [PyData.eqv]; exact c.eqvAll xs ys, fun xs => by simp only [PyData.canLay0]; exact c.layAll xs, fun xs => by simp only [PyData.depth]; have := c.depAll xs; omega⟩
theorem Cm.lst (c : Cm e q n) : Cm (fun xs : List α => D.lst (xs.map e)) (fun xs => PyData.list (xs.map q)) (n + 1) :=
  ⟨fun xs => by unfold toPy; rw [c.pyL], fun _ _ h => (by cases h), fun xs ys => by simp only [PyData.eqv]; exact c.eqvAll xs ys, fun xs => by simp only [PyData.canLay0]; exact c.layAll xs, fun xs => by simp only [PyData.depth]; have := c.depAll xs; omega⟩
/-- the data d is what x stands for, an own list too -/
theorem Cm.as (c : Cm e q n) (μ : Mu) (x : α) : asPy μ (e x) = some (q x) := by
  unfold asPy
  split
  · rename_i p h; exact absurd h (c.own x p)
  · exact c.py x
theorem Cm.asO (c : Cm e q n) {μ : Mu} {p : Addr} {xs : List α} (h : μ p = some (.l (xs.map e))) : asPy μ (.own p) = some (.list (xs.map q)) := by
  unfold asPy
  simp only [lsAt_of h, c.pyL]
theorem Cm.sh (c : Cm e q n) (x : α) (hn : n ≤ 64) : SeqAt.shaped (q x) = true := by
  unfold SeqAt.shaped
  rw [c.lay x]
  have := c.dep x
  simp; omega
theorem Cm.toEq (c : Cm e q n) {a b : D} {x y : α} {μ : Mu} {k : DK} (h1 : asPy μ a = some (q x)) (h2 : asPy μ b = some (q y)) (hn : n ≤ 64) (h : k (.bl (decide (x = y))) μ) : oEq a b μ k :=
  ⟨_, _, h1, h2, c.sh x hn, c.sh y hn, by rw [c.eqv]; exact h⟩
theorem Cm.toNe (c : Cm e q n) {a b : D} {x y : α} {μ : Mu} {k : DK} (h1 : asPy μ a = some (q x)) (h2 : asPy μ b = some (q y)) (hn : n ≤ 64) (h : k (.bl (!decide (x = y))) μ) : oNe a b μ k :=
  ⟨_, _, h1, h2, c.sh x hn, c.sh y hn, by rw [c.eqv]; exact h⟩
end
/-- tuples of unlike things -/
structure CmL {α : Type} [DecidableEq α] (e : α → List D) (q : α → List PyData) (n : Nat) : Prop where
  py : ∀ x, toPyL (e x) = some (q x)
  eqv : ∀ x y, PyData.eqvAll (q x) (q y) = decide (x = y)
  lay : ∀ x, PyData.canLayAll0 (q x) = true
  dep : ∀ x, PyData.depthAll (q x) ≤ n
theorem CmL.nil : CmL (fun _ : Unit => []) (fun _ => []) 0 := ⟨fun _ => rfl, fun _ _ => rfl, fun _ => rfl, fun _ => by simp [PyData.depthAll]⟩
theorem CmL.cons {α β : Type} [DecidableEq α] [DecidableEq β] {e : α → D} {q : α → PyData} {e2 : β → List D} {q2 : β → List PyData} {n m : Nat} (c : Cm e q n) (d : CmL e2 q2 m) : CmL (fun t : α × β => e t.1 :: e2 t.2) (fun t => q t.1 :: q2 t.2) (max n m) := by
  refine ⟨fun x => ?_, fun x y => ?_, fun x => ?_, fun x => ?_⟩
  · unfold toPyL; rw [c.py, d.py]
  · simp only [PyData.eqvAll]; rw [c.eqv, d.eqv, Bool.eq_iff_iff]; simp [Prod.ext_iff]
  · simp only [PyData.canLayAll0, c.lay, d.lay]; rfl
  · simp only [PyData.depthAll]; have := c.dep x.1; have := d.dep x.2; omega
theorem CmL.tup {α : Type} [DecidableEq α] {e : α → List D} {q : α → List PyData} {n : Nat} (c : CmL e q n) : Cm (fun x => D.tup (e x)) (fun x => PyData.tuple (q x)) (n + 1) :=
  ⟨fun xs => by unfold toPy; rw [c.py], fun _ _ h => (by cases h), fun xs ys => by simp only [PyData.eqv]; exact c.eqv xs ys, fun xs => by simp only [PyData.canLay0]; exact c.lay xs, fun xs => by simp only [PyData.depth]; have := c.dep xs; omega⟩
theorem CmL.lst {α : Type} [DecidableEq α] {e : α → List D} {q : α → List PyData} {n : Nat} (c : CmL e q n) : Cm (fun x => D.lst (e x)) (fun x => PyData.list (q x)) (n + 1) :=
  ⟨fun xs => by unfold toPy; rw [c.py], fun _ _ h => (by cases h), fun xs ys => by simp only [PyData.eqv]; exact c.eqv xs ys, fun xs => by simp only [PyData.canLay0]; exact c.lay xs, fun xs => by simp only [PyData.depth]; have := c.dep xs; omega⟩
theorem py_int {i : Int} {μ : Mu} : asPy μ (.int i) = some (.int i) := Cm.int.as μ i
@[simp] theorem oEq_int {i j : Int} {μ : Mu} {k : DK} : @hEq (.int i) (.int j) μ k ↔ k (.bl (decide (i = j))) μ := by
  refine ⟨fun ⟨a, b, h1, h2, _, _, q⟩ => ?_, fun h => Cm.int.toEq (Cm.int.as μ i) (Cm.int.as μ j) (by decide) h⟩
  rw [py_int] at h1 h2; cases h1; cases h2
  rw [Cm.int.eqv] at q; exact q
@[simp] theorem oNe_int {i j : Int} {μ : Mu} {k : DK} : @hNe (.int i) (.int j) μ k ↔ k (.bl (!decide (i = j))) μ := by
  refine ⟨fun ⟨a, b, h1, h2, _, _, q⟩ => ?_, fun h => Cm.int.toNe (Cm.int.as μ i) (Cm.int.as μ j) (by decide) h⟩
  rw [py_int] at h1 h2; cases h1; cases h2
  rw [Cm.int.eqv] at q; exact q
theorem all_of {α : Type} {f : α → Bool} {xs : List α} {d : D} {μ : Mu} {k : DK} (hd : asL μ d = some (xs.map fun x => .bl (f x))) (h : k (.bl (xs.all f)) μ) : oAll [d] μ k := by
  refine ⟨xs.map f, by rw [hd, List.map_map]; rfl, ?_⟩
  have : (xs.map f).all id = xs.all f := by rw [List.all_map]; rfl
  rw [this]; exact h
theorem any_of {α : Type} {f : α → Bool} {xs : List α} {d : D} {μ : Mu} {k : DK} (hd : asL μ d = some (xs.map fun x => .bl (f x))) (h : k (.bl (xs.any f)) μ) : oAny [d] μ k := by
  refine ⟨xs.map f, by rw [hd, List.map_map]; rfl, ?_⟩
  have : (xs.map f).any id = xs.any f := by rw [List.any_map]; rfl
  rw [this]; exact h
theorem sum_of {α : Type} {f : α → Int} {xs : List α} {d : D} {μ : Mu} {k : DK} (hd : asL μ d = some (xs.map fun x => .int (f x))) (h : k (.int (xs.map f).sum) μ) : oSum [d] μ k :=
  ⟨xs.map f, by rw [hd, List.map_map]; rfl, h⟩
@[simp] theorem kitB_int : kitB "int" "int" = some true := by decide +kernel
@[simp] theorem kitB_intb : kitB "int" "bool" = some false := by decide +kernel
@[simp] theorem kitB_tup : kitB "tuple" "tuple" = some true := by decide +kernel
theorem py_str {x : Str} {μ : Mu} : asPy μ (.str x) = some (.str x) := rfl
theorem oNe_str {x y : Str} {μ : Mu} {k : DK} (hx : PyData.strOk x = true) (hy : PyData.strOk y = true) (h : k (.bl (!decide (x = y))) μ) : oNe (.str x) (.str y) μ k :=
  ⟨_, _, py_str, py_str, by simp [SeqAt.shaped, PyData.canLay0, hx, PyData.depth], by simp [SeqAt.shaped, PyData.canLay0, hy, PyData.depth], by
    have e : PyData.eqv (.str x) (.str y) = decide (x = y) := by simp only [PyData.eqv]; rw [Bool.eq_iff_iff]; simp
    rw [e]; exact h⟩
theorem oEq_str {x y : Str} {μ : Mu} {k : DK} (hx : PyData.strOk x = true) (hy : PyData.strOk y = true) (h : k (.bl (decide (x = y))) μ) : oEq (.str x) (.str y) μ k :=
  ⟨_, _, py_str, py_str, by simp [SeqAt.shaped, PyData.canLay0, hx, PyData.depth], by simp [SeqAt.shaped, PyData.canLay0, hy, PyData.depth], by
    have e : PyData.eqv (.str x) (.str y) = decide (x = y) := by simp only [PyData.eqv]; rw [Bool.eq_iff_iff]; simp
    rw [e]; exact h⟩
theorem Sub.refl (μ : Mu) : Sub μ μ := fun _ _ h => h
theorem Sub.set {μ : Mu} {p : Addr} {ds : Cnt} (h : μ p = none) : Sub μ (muSet μ p ds) := fun q es e => by
  rw [muSet_ne (fun z => by subst z; rw [h] at e; cases e)]; exact e
theorem Sub.trans {a b c : Mu} (h : Sub a b) (h' : Sub b c) : Sub a c := fun p ds e => h' p ds (h p ds e)
theorem Sub.up {μ μ' : Mu} {p : Addr} {ds : Cnt} (h : Sub μ μ') (hp : μ' p = none) : Sub μ (muSet μ' p ds) := Sub.trans h (Sub.set hp)
theorem Sub.upd {μ μ' : Mu} {p : Addr} {ds : Cnt} (h : Sub μ μ') (hp : μ p = none) : Sub μ (muSet μ' p ds) := fun q es e => by
  rw [muSet_ne (fun z => by subst z; rw [hp] at e; cases e)]; exact h q es e
theorem Sub.non {μ μ' : Mu} {p : Addr} (h : Sub μ μ') (hp : μ' p = none) : μ p = none := by
  cases e : μ p with
  | none => rfl
  | some d => rw [h p d e] at hp; cases hp
theorem Sub.del {μ μ' : Mu} {p : Addr} (h : Sub μ μ') (hp : μ p = none) : Sub μ (muDel μ' p) := fun q es e => by
  rw [muDel_ne (fun z => by subst z; rw [hp] at e; cases e)]; exact h q es e
theorem Sub.setBoth {μ μ' : Mu} {p : Addr} {a b : Cnt} (h : Sub (muSet μ p a) μ') : Sub (muSet μ p b) (muSet μ' p b) := fun q es e => by
  by_cases hq : q = p
  · subst hq; rw [muSet_same] at e ⊢; exact e
  · rw [muSet_ne hq] at e ⊢; exact h q es (by rw [muSet_ne hq]; exact e)
theorem Sub.at_ {μ μ' : Mu} {p : Addr} {a : Cnt} (h : Sub (muSet μ p a) μ') : μ' p = some a := h p a muSet_same
/-- one statement at a time: what follows stands under a name -/
theorem seq_gen {r s : RS} {DD : DEnds} {δ : Sl} {μ : Mu} (h : ∀ NX : Sl → Mu → Prop, NX = s DD → r { DD with nx := NX } δ μ) : rSeq r s DD δ μ := h _ rfl
end DL


set_option Elab.async false
set_option linter.all false
set_option maxRecDepth 100000
set_option maxHeartbeats 4000000
/-! DLo: own ==, != with any right side, str(x) of an instance with __str__, a slot as a target. -/
namespace DL
open PySem PySem.Spec PyProof.Rows L2 SlX
open Builtin Builtin.Str
section
variable {prog : Program} {w : World} {A : Around} {E : Value → Shared → Prop} {s : Shared} {K : PySem.W.Frag} {x C f : Addr} {ox : Obj} {od : Option Obj} {b tb : Value}
theorem ne_slot : Slot "object" "__ne__" "object.__ne__" := Slot.of (T := "object") (name := "__ne__") (owner := "object") (n := "__ne__") (by rw [typeLookup_type, builtinLookup_eq_fast]; kernel_rfl) (by decide +kernel) (by decide +kernel) (by decide +kernel)
    (.inl (by decide +kernel)) (by rw [isSubtype_type]; kernel_rfl)
theorem ne_entry (X : K.In s.heap) (I : PySem.W.InstAt s.heap x ox C od) (he : PySem.W.findIn K (.ref C) "__eq__" = some (some (.ref f))) (hf : PySem.W.isFn K (.ref f) = true) (hu : A.units < cLine) {Q : Fin → Shared → Prop}
    (h : wpAny (model prog w) A (call (.ref f) [.ref x, b]) (fun v s' => ∃ c, v = .bool c ∧ Q (.done (.ret (.bool (!c)))) s') E s) : wpAny (model prog w) A (Builtin.«object.__ne__» ⟨[.ref x, b], []⟩) Q E s := by
  unfold Builtin.«object.__ne__»
  repeat (first
    | with_reducible refine wpAny_cRoomFor hu ?_
    | (refine wpAny_bind (m := callSpecialIfBound? (.ref x) (Str.ofString "__eq__") [b])
        (PySem.W.ifBound_K X I he hf (wpAny_mono h (fun r s' hr => by
          obtain ⟨c, rfl, hq⟩ := hr
          repeat (first | exact hq | exact wpAny_pure hq | exact wpAny_truthy_bool hq | (refine wpAny_bind (m := truthy (.bool _)) (wpAny_truthy_bool ?_)) | wp_step)) fun _ _ e => e)))
    | wp_step)
theorem ifBound_ne {M : Model} {args : List Value} {Q : Option Value → Shared → Prop} (X : K.In s.heap) (I : PySem.W.InstAt s.heap x ox C od) (hs : PySem.W.findIn K (.ref C) "__ne__" = some (some (.builtin "object.__ne__")))
    (h : wpAny M A (call (.builtin "object.__ne__") (.ref x :: args)) (fun v => Q (some v)) E s) : wpAny M A (callSpecialIfBound? (.ref x) "__ne__" args) Q E s := by
  simp only [callSpecialIfBound?, bindSpecialIfBound?]
  refine wpAny_holding (wpAny_bind (wpAny_bind (wpAny_bind (I.type.here ((PySem.W.looks_findIn X hs).here ?_)))))
  simp only [ne_slot.bind]
  refine wpAny_bind (wpAny_askSetting (wpAny_ite ?_))
  have fin : wpAny M A (call (.builtin "object.__ne__") ([.ref x] ++ args) >>= fun v => pure (some v)) Q E s := wpAny_bind (wpAny_mono h (fun v s' h' => wpAny_pure h') fun _ _ h' => h')
  split
  · exact wpAny_bind (wpAny_pure (wpAny_pure fin))
  · exact wpAny_tryCatch (wpAny_bind (wpAny_pure (wpAny_pure fin)))
theorem ne_K {Q : Value → Shared → Prop} (hu : A.units + 1 < cLine) (X : K.In s.heap) (I : PySem.W.InstAt s.heap x ox C od) (hb : PySem.W.Looks (model prog w) s.heap (typeOf b) tb) (hn : PySem.W.notFirst K C tb = true)
    (hs : PySem.W.findIn K (.ref C) "__ne__" = some (some (.builtin "object.__ne__"))) (he : PySem.W.findIn K (.ref C) "__eq__" = some (some (.ref f))) (hf : PySem.W.isFn K (.ref f) = true) (ho : PySem.W.mroIn K C (.type "object") = some true)
    (h : wpAny (model prog w) A.in1 (call (.ref f) [.ref x, b]) (fun v s' => ∃ c, v = .bool c ∧ Q (.bool (!c)) s') E s) : wpAny (model prog w) A (richCompare .NotEq (.ref x) b) Q E s := by
  have one : wpAny (model prog w) A (tryCompare (.ref x) "__ne__" b) (fun r s' => ∃ v, r = some v ∧ Q v s') E s := by
    unfold tryCompare
    refine wpAny_bind (ifBound_ne X I hs (wpAny_call (codeAny_call_builtin ne_slot.plain F.cmpEntry_ne (PySem.W.check_slot F.cmpKind_ne F.cmpSplit_ne (I.type.andThen (PySem.W.looks_mroIn X ho)) (F.cmpArgs_ne _ _)
      (ne_entry (A := A.in1) X I he hf hu (wpAny_mono h (fun v s' hv => ?_) fun _ _ e => e))))))
    obtain ⟨c, rfl, hq⟩ := hv
    first | exact ⟨c, rfl, wpAny_pure ⟨_, rfl, hq⟩⟩ | exact ⟨c, rfl, wpAny_pure (wpAny_pure ⟨_, rfl, hq⟩)⟩
  unfold richCompare
  simp only [oneThing_ref]
  refine wpAny_holding (wpAny_bind (wpAny_cRoomFor (Nat.lt_of_succ_lt hu) ?_))
  rw [cmpInfo_NotEq]
  dsimp only
  refine wpAny_bind (I.type.here (wpAny_bind (hb.here ?_)))
  split
  · rename_i q
    have e : PySem.W.subIn K tb (.ref C) = some false := by
      rcases Bool.or_eq_true_iff.mp hn with e | e
      · rw [beq_iff_eq.mp e] at q; simp at q
      · exact beq_iff_eq.mp e
    refine wpAny_bind ((PySem.W.looks_subIn X e).here ?_)
    simp only [Bool.false_eq_true, if_false]
    refine wpAny_bind (wpAny_mono one (fun r s' z => ?_) fun _ _ e => e)
    obtain ⟨v, rfl, hq⟩ := z
    exact wpAny_pure hq
  · refine wpAny_bind (wpAny_pure ?_)
    simp only [Bool.false_eq_true, if_false]
    refine wpAny_bind (wpAny_mono one (fun r s' z => ?_) fun _ _ e => e)
    obtain ⟨v, rfl, hq⟩ := z
    exact wpAny_pure hq
/-- str(x) of an instance with a __str__ that hands out a str -/
theorem str_own {Q : Value → Shared → Prop} (X : K.In s.heap) (I : PySem.W.InstAt s.heap x ox C od) (hs : PySem.W.findIn K (.ref C) "__str__" = some (some (.ref f))) (hf : PySem.W.isFn K (.ref f) = true) (hu : A.in1.in1.units < cLine)
    (h : wpAny (model prog w) A.in1.in1 (call (.ref f) [.ref x]) (fun r s₁ => ∃ y u, r = Value.str y u ∧ Q r s₁) E s) : wpAny (model prog w) A (call (.type "str") [.ref x]) Q E s := by
  refine callType_codes (T := "str") (Bi := Builtin.«object.__init__») (Q₁ := fun r s₁ => ∃ y u, r = Value.str y u ∧ Q r s₁) PySem.F.called_str (PySem.F.typeCall_str_1 _) PySem.F.entry_object_init ?_ ?_
  · refine codeAny_of_tree ?_
    show wpAny _ A.in1.in1 (do checkBuiltinCall "str.__new__" ⟨[.type "str", .ref x], []⟩; again (.builtin "str.__new__" ⟨[.type "str", .ref x], []⟩)) _ _ s
    refine wpAny_bind (wpAny_of_eq (PySem.F.newCall_str_1 _) (wpAny_pure ⟨plainId_quiet (by decide +kernel) _, codeAny_builtin PySem.F.entry_str_new ?_⟩))
    rw [Around.under_plainId (by decide +kernel) _]
    rw [str_new_tree]
    refine wpAny_bind (wpAny_pure ?_)
    refine wpAny_bind (wpAny_of_eq isSubtype_str_str ?_)
    refine wpAny_bind ?_
    unfold Builtin.Str.strOf
    rw [show isExactStr (.ref x) = false from rfl]
    simp only [Bool.false_eq_true, if_false]
    refine wpAny_bind (wpAny_cRoomFor hu ?_)
    refine wpAny_bind (m := callSpecial? (.ref x) (Str.ofString "__str__")) (PySem.W.special_fn X I hs (beq_iff_eq.mp hf) (wpAny_mono h (fun r s' hr => ?_) fun _ _ y => y))
    obtain ⟨y, u, rfl, hq⟩ := hr
    exact wpAny_bind (wpAny_pure (wpAny_pure (wpAny_pure ⟨y, u, rfl, hq⟩)))
  · rintro obj s₁ ⟨y, u, rfl, hq⟩
    exact ⟨typeIs_str _ _ _, PySem.F.args_object_init_2 _ _, object_init_meets PySem.F.called_str.init.lookup PySem.F.called_str.made (by decide) prog w A.in1 _ s₁ ⟨typeIs_str _ _ _, rfl, hq⟩⟩
end
end DL


set_option Elab.async false
set_option linter.all false
set_option maxRecDepth 100000
set_option maxHeartbeats 4000000
/-! DLp: own classes with slots over data: made, compared, asked, told. -/
namespace DL
open PySem PySem.Spec PyProof.Rows L2 SlX

/-- any value's class, an instance with slots too -/
def TyA (K : PySem.W.Frag) (H : Hp) (y : V) (t : Value) : Prop := TyX K H y t ∨ ∃ b C' dy ws, y = .ref b ∧ Slt H b C' dy ws ∧ t = .ref C'
/-- what of the text a class with its own == must have -/
structure Cmp (K : PySem.W.Frag) (C : Addr) : Prop where
  cls : SCls K C
  isi : SIsi K C
  nNon : PySem.W.notFirst K C (.type "NoneType") = true
  nInt : PySem.W.notFirst K C (.type "int") = true
  nTup : PySem.W.notFirst K C (.type "tuple") = true
  kNon : PySem.W.kitOne K (.type "NoneType") (.ref C) = some false
  kInt : PySem.W.kitOne K (.type "int") (.ref C) = some false
  kTup : PySem.W.kitOne K (.type "tuple") (.ref C) = some false
  kOwn : PySem.W.kitOne K (.ref C) (.ref C) = some true
  ne : PySem.W.findIn K (.ref C) "__ne__" = some (some (.builtin "object.__ne__"))
/-- a special def of the class, and its promise -/
structure SpD (P : Program) (w : World) (K : PySem.W.Frag) (mg : Str → Option Value) (base : Heap) (C : Addr) (m : Str) (n : Nat) (dsp : DSp) : Prop where
  ex : ∃ g : Addr, PySem.W.findIn K (.ref C) m = some (some (.ref g)) ∧ PySem.W.isFn K (.ref g) = true ∧ FnR P w K mg base CX0 n g (spOf K dsp)
/-- a class that may be made by its name; sp: its __init__ -/
structure MakD (P : Program) (w : World) (K : PySem.W.Frag) (mg : Str → Option Value) (base : Heap) (k : Nat) (x : Str) (C : Addr) (sp : Sp) : Prop where
  ex : ∃ (f : Addr) (fd : FuncData) (ps : List Str), Mk K C f ∧ FnOk P w K mg base CX0 k f fd ps sp ∧ mg x = some (.ref C) ∧ Binds K fd ps []
def rEqA (K : PySem.W.Frag) (C : Addr) (sp : Sp) : R2 := fun x y H Q => ∃ a dx vs t, x = .ref a ∧ Slt H a C dx vs ∧ TyA K H y t ∧ PySem.W.notFirst K C t = true ∧ sp [x, y] H Q E0
def rNeA (K : PySem.W.Frag) (C : Addr) (sp : Sp) : R2 := fun x y H Q => ∃ a dx vs t, x = .ref a ∧ Slt H a C dx vs ∧ TyA K H y t ∧ PySem.W.notFirst K C t = true ∧ sp [x, y] H (fun z H' => ∃ c, z = .bl c ∧ Q (.bl (!c)) H') E0
section
variable {X : Cx} {C g : Addr} {n : Nat} {sp : Sp}
theorem looks_A {pins : List (Addr × Obj)} {σ : L2.St} {H : Hp} {s : Shared} {y : V} {u t : Value} (I : Inv X pins σ H s) (ry : RelV y u) (h : TyA X.K H y t) : PySem.W.Looks (model X.prog X.w) s.heap (typeOf u) t := by
  rcases h with h | ⟨b, C', dy, ws, rfl, hs, rfl⟩
  · obtain ⟨P, kx, hp, _⟩ := kit_of I ry h
    exact kx.ty _ _ I.kIn hp
  · cases (show u = Value.ref b from ry)
    obtain ⟨sl', od', _, J', _⟩ := slt_inst I hs
    exact J'.type
theorem op_eqA (hs : PySem.W.findIn X.K (.ref C) "__eq__" = some (some (.ref g))) (hf : PySem.W.isFn X.K (.ref g) = true) (F : FnR X.prog X.w X.K X.mg X.base CX0 n g sp) (hr : Room n X.A) : OpR X (compareOp .Eq) (rEqA X.K C sp) := by
  intro pins s σ H x y v u Q I rx ry h
  obtain ⟨a, dx, vs, t, rfl, ha, ht, hn, q⟩ := h
  cases (show v = Value.ref a from rx)
  obtain ⟨sl, od, _, J, _⟩ := slt_inst I ha
  obtain ⟨m, hF⟩ := I.fr
  show wpAny _ _ (richCompare .Eq _ _) _ _ _
  refine PySem.W.cmp_K (op := .Eq) (tb := t) hr.units0 hF I.ok.mod.kin J (looks_A I ry ht) hn hs hf ?_
  refine wpAny_mono (wpAny_call (run_fnR (us := [.ref a, u]) (vs := [.ref a, y]) F hr pass0 I (.cons rfl (.cons ry .nil)) q)) (fun w s' z => ?_) fun _ _ x => x
  obtain ⟨z', H', I', rz, qz⟩ := z
  exact cmpback rz ⟨z', H', I', rz, qz⟩
theorem op_neA (hs : PySem.W.findIn X.K (.ref C) "__eq__" = some (some (.ref g))) (hf : PySem.W.isFn X.K (.ref g) = true) (hne : PySem.W.findIn X.K (.ref C) "__ne__" = some (some (.builtin "object.__ne__"))) (ho : PySem.W.mroIn X.K C (.type "object") = some true)
    (F : FnR X.prog X.w X.K X.mg X.base CX0 n g sp) (hr : Room (n + 1) X.A) : OpR X (compareOp .NotEq) (rNeA X.K C sp) := by
  intro pins s σ H x y v u Q I rx ry h
  obtain ⟨a, dx, vs, t, rfl, ha, ht, hn, q⟩ := h
  cases (show v = Value.ref a from rx)
  obtain ⟨sl, od, _, J, _⟩ := slt_inst I ha
  show wpAny _ _ (richCompare .NotEq _ _) _ _ _
  refine ne_K (tb := t) (by have := hr.units; omega) I.kIn J (looks_A I ry ht) hn hne hs hf ho ?_
  refine wpAny_mono (wpAny_call (run_at (us := [.ref a, u]) (ws := [.ref a, y]) F hr.in1 I.env0.in1 pass0 I (.cons rfl (.cons ry .nil)) q)) (fun w s' z => ?_) fun _ _ x => x
  obtain ⟨z', H', I', rz, c, rfl, qz⟩ := z
  cases (show w = Value.bool c from rz)
  exact ⟨c, rfl, .bl (!c), H', I', rfl, qz⟩
def rStrA (C : Addr) (sp : Sp) : List V → Hp → VK → Prop := fun xs H Q => ∃ a dx vs, xs = [V.ref a] ∧ Slt H a C dx vs ∧ sp [.ref a] H (fun z H' => ∃ y, z = .str y ∧ Q z H') E0
theorem call_strA (hs : PySem.W.findIn X.K (.ref C) "__str__" = some (some (.ref g))) (hf : PySem.W.isFn X.K (.ref g) = true) (F : FnR X.prog X.w X.K X.mg X.base CX0 n g sp) (hr : Room (n + 2) X.A) : CallR X (.type "str") (rStrA C sp) := by
  intro pins s σ H xs us Q I r h
  obtain ⟨a, dx, vs, rfl, hsl, q⟩ := h
  obtain ⟨u, rfl, ru⟩ := r.one
  cases (show u = Value.ref a from ru)
  obtain ⟨sl, od, _, J, _⟩ := slt_inst I hsl
  have hr2 : Room n X.A.in1.in1 := (show Room (n + 1) X.A.in1 from Room.in1 hr).in1
  refine str_own I.kIn J hs hf hr2.units0 (wpAny_mono (wpAny_call (run_at (us := [.ref a]) (ws := [.ref a]) F hr2 I.env0.in1.in1 pass0 I (.cons rfl .nil) q)) (fun w s' z => ?_) fun _ _ x => x)
  obtain ⟨z', H', I', rz, y, ey, qz⟩ := z
  subst ey
  obtain ⟨t, e⟩ := (show ∃ t, w = Value.str y t from rz)
  cases e
  exact ⟨y, t, rfl, .str y, H', I', ⟨t, rfl⟩, qz⟩
theorem cr_or {f : Value} {r r' : List V → Hp → VK → Prop} (h : CallR X f r) (h' : CallR X f r') : CallR X f (fun xs H Q => r xs H Q ∨ r' xs H Q) := fun pins s σ H xs us Q I rr q => by
  rcases q with q | q
  · exact h pins s σ H xs us Q I rr q
  · exact h' pins s σ H xs us Q I rr q
/-- o.f = .. among other targets, a slot -/
def gSlA (K : PySem.W.Frag) (to : TE) (f : Str) : TG := fun v σ H Q => to σ H fun x H1 => ∃ a C dx p vs i, x = .ref a ∧ Slt H1 a C dx vs ∧ SCls K C ∧ Slot1 K C f p i ∧ Q σ (slH H1 a C dx (putS i v vs))
theorem pg_slA {o : Expr} {f : Str} {pos : Pos} {to : TE} (ho : PE X o to) : PG X (.Attribute o f pos) (gSlA X.K to f) := by
  refine ⟨fun pins s σ H v u Q I r h => ?_⟩
  rw [assign_Attribute]
  refine wpAny_bind (wpAny_holding (thn (ho.run pins s σ H _ I h) fun ov s1 ⟨x, H1, I1, r1, q1⟩ => ?_))
  obtain ⟨a, C, dx, p, vs, i, ex, hsl, c, t, q2⟩ := q1
  subst ex
  obtain rfl : ov = Value.ref a := r1
  refine wpAny_bind (wpAny_standAt (wpAny_bind (wpAny_holding (setslot_ok I1 hsl c t r fun s3 I3 => ?_))))
  exact wpAny_release ⟨σ, _, I3, q2⟩
end

/-! ### readings over data -/
section
variable {K : PySem.W.Frag} {C : Addr}
/-- what == may meet on its right side -/
def okR (C : Addr) : D → Prop
  | .obj C' _ => C' = C
  | .non => True
  | .int _ => True
  | .tup _ => True
  | _ => False
def isObj : D → Bool
  | .obj _ _ => true
  | _ => false
@[simp] theorem okR_obj {C' : Addr} {ds : List D} : okR C (.obj C' ds) ↔ C' = C := Iff.rfl
@[simp] theorem okR_non : okR C .non := trivial
@[simp] theorem okR_int {i : Int} : okR C (.int i) := trivial
@[simp] theorem okR_tup {ds : List D} : okR C (.tup ds) := trivial
@[simp] theorem isObj_obj {ds : List D} : isObj (.obj C ds) = true := rfl
theorem okR_out {μ : Mu} {G H : Hp} {y : V} {d : D} (c : Cmp K C) (w : Wd K G H μ) (r : Rep K G y d) (h : okR C d) : ∃ t, TyA K H y t ∧ PySem.W.notFirst K C t = true := by
  cases r with
  | non => exact ⟨_, .inl (tyN_out w .non rfl), c.nNon⟩
  | int i => exact ⟨_, .inl (tyN_out w (.int i) rfl), c.nInt⟩
  | tup h1 h2 => exact ⟨_, .inl (tyN_out w (.tup h1 h2) rfl), c.nTup⟩
  | obj h1 h2 =>
    have h : _ = C := h
    subst h
    exact ⟨_, .inr ⟨_, _, _, _, rfl, w.ex.slt h1, rfl⟩, by unfold PySem.W.notFirst; simp⟩
  | _ => exact h.elim
@[simp] def oEqC (C : Addr) (dsp : DSp) : F2 := fun x y μ k => (match x with | .obj C' _ => C' = C | _ => False) ∧ okR C y ∧ @dCall dsp [x, y] μ k
@[simp] def oNeC (C : Addr) (dsp : DSp) : F2 := fun x y μ k => (match x with | .obj C' _ => C' = C | _ => False) ∧ okR C y ∧ @dCall dsp [x, y] μ fun d μ' => asB d fun c => k (.bl (!c)) μ'
theorem okEqC {dsp : DSp} (c : Cmp K C) : OkOp K (rEqA K C (spOf K dsp)) (oEqC C dsp) := fun x y a b μ G H k Q w rx ry ⟨hx, hy, q⟩ th => by
  obtain ⟨t, ht, hn⟩ := okR_out c w ry hy
  cases rx with
  | obj h1 h2 =>
    have hx : _ = C := hx
    subst hx
    exact ⟨_, _, _, t, rfl, w.ex.slt h1, ht, hn, _, μ, G, k, w, .cons (.obj h1 h2) (.cons ry .nil), q, th⟩
  | _ => exact hx.elim
theorem okNeC {dsp : DSp} (c : Cmp K C) : OkOp K (rNeA K C (spOf K dsp)) (oNeC C dsp) := fun x y a b μ G H k Q w rx ry ⟨hx, hy, q⟩ th => by
  obtain ⟨t, ht, hn⟩ := okR_out c w ry hy
  cases rx with
  | obj h1 h2 =>
    have hx : _ = C := hx
    subst hx
    refine ⟨_, _, _, t, rfl, w.ex.slt h1, ht, hn, _, μ, G, _, w, .cons (.obj h1 h2) (.cons ry .nil), q, fun v d μ' G' H' qk w' g' r' => ?_⟩
    obtain ⟨c, rfl, qk⟩ := asB_out r' qk
    exact ⟨c, rfl, th _ _ μ' G' H' qk w' g' (.bl _)⟩
  | _ => exact hx.elim
/-- isinstance(x, C) -/
@[simp] def rIsiC (C : Addr) (re : RE) : RE := fun δ μ k => re δ μ fun x μ1 => okR C x ∧ k (.bl (isObj x)) μ1
theorem okE_isiC {te : TE} {re : RE} (c : Cmp K C) (h : OkE K te re) : OkE K (tCB (fun xs H Q => rIsi K xs H Q ∨ rIsiSl K (.ref C) xs H Q) (tCons te (tCons (tC (.ref C)) tNil))) (rIsiC C re) := fun σ δ μ G H k Q S w q b =>
  h σ δ μ G H _ _ S w q fun v d μ1 G1 H1 ⟨hd, q1⟩ w1 g1 r1 => by
    cases r1 with
    | non => exact .inl ⟨_, _, _, _, false, rfl, .own C, tyN_out w1 .non rfl, c.kNon, b _ _ μ1 G1 H1 q1 w1 g1 (.bl _)⟩
    | int i => exact .inl ⟨_, _, _, _, false, rfl, .own C, tyN_out w1 (.int i) rfl, c.kInt, b _ _ μ1 G1 H1 q1 w1 g1 (.bl _)⟩
    | tup h1 h2 => exact .inl ⟨_, _, _, _, false, rfl, .own C, tyN_out w1 (.tup h1 h2) rfl, c.kTup, b _ _ μ1 G1 H1 q1 w1 g1 (.bl _)⟩
    | obj h1 h2 =>
      have hd : _ = C := hd
      subst hd
      exact .inr ⟨_, _, _, _, _, true, rfl, rfl, fun w r => r, w1.ex.slt h1, c.cls, c.isi, c.kOwn, b _ _ μ1 G1 H1 q1 w1 g1 (.bl _)⟩
    | _ => exact hd.elim
/-- str(x) -/
@[simp] def rStrC (C : Addr) (dsp : DSp) (ra : RE) : RE := fun δ μ k => ra δ μ fun x μ1 => (match x with | .obj C' _ => C' = C | _ => False) ∧ @dCall dsp [x] μ1 fun d μ' => (match d with | .str _ => True | _ => False) ∧ k d μ'
theorem okE_strC {dsp : DSp} {te : TE} {ra : RE} (h : OkE K te ra) : OkE K (tCB (rStrA C (spOf K dsp)) (tCons te tNil)) (rStrC C dsp ra) := fun σ δ μ G H k Q S w q b =>
  h σ δ μ G H _ _ S w q fun v d μ1 G1 H1 ⟨hx, q1⟩ w1 g1 r1 => by
    cases r1 with
    | obj h1 h2 =>
      have hx : _ = C := hx
      subst hx
      refine ⟨_, _, _, rfl, w1.ex.slt h1, _, μ1, G1, _, w1, .cons (.obj h1 h2) .nil, q1, fun v d μ' G' H' ⟨hs, qk⟩ w' g' r' => ?_⟩
      cases r' with
      | str y => exact ⟨y, rfl, b _ _ μ' G' H' qk w' (g1.trans g') (.str y)⟩
      | _ => exact hs.elim
    | _ => exact hx.elim
/-! C(..): inm tells which arguments are let, and the slots -/
def spMk (K : PySem.W.Frag) (C : Addr) (inm : List D → List D → Prop) : Sp := fun vs H Q _ => ∃ (a dx : Addr) (ws : List V) (ds fs : List D) (μ : Mu) (G H1 : Hp) (k : DK), vs = .ref a :: ws ∧ H1 a = none ∧ H1 dx = none ∧ dx ≠ a ∧ H = upd (upd H1 dx (.own a)) a (.ins C dx []) ∧ Wd K G H1 μ ∧ RepL K G ws ds ∧ inm ds fs ∧
  k (.obj C fs) μ ∧ (∀ μ' G' H', k (.obj C fs) μ' → Wd K G' H' μ' → Go μ G H1 μ' G' H' → Rep K G' (.ref a) (.obj C fs) → Q .non H')
@[simp] def rMk (C : Addr) (inm : List D → List D → Prop) (ra : RA) : RE := fun δ μ k => ra δ μ fun ds μ1 => ∃ fs, inm ds fs ∧ k (.obj C fs) μ1
theorem okE_mk {inm : List D → List D → Prop} {t : TA} {ra : RA} (h : OkA K t ra) : OkE K (tMake C (spMk K C inm) [] E0 t) (rMk C inm ra) := fun σ δ μ G H k Q S w q b =>
  h σ δ μ G H _ _ S w q fun vs ds μ1 G1 H1 ⟨fs, hi, q1⟩ w1 g1 r1 x dx hx hd hne => by
    show spMk K C inm (.ref x :: (vs ++ [])) _ _ _
    rw [List.append_nil]
    exact ⟨x, dx, vs, ds, fs, μ1, G1, H1, k, rfl, hx, hd, hne, rfl, w1, r1, hi, q1, fun μ' G' H' qk w' g' r' => ⟨rfl, b _ _ μ' G' H' qk w' (g1.trans g') r'⟩⟩
/-- the heap in which __init__ begins -/
theorem wd_made {μ : Mu} {G H1 : Hp} {a dx : Addr} (w : Wd K G H1 μ) (ha : H1 a = none) (hd : H1 dx = none) : Wd K G (upd (upd H1 dx (.own a)) a (.ins C dx [])) μ := by
  refine ⟨fun b o e => ?_, fun p ds e => ?_⟩
  · have := w.ex _ _ e
    rw [upd_ne (ne_of_none this ha), upd_ne (ne_of_none this hd)]; exact this
  · obtain ⟨h1, vs, h2, h3⟩ := w.mu p ds e
    exact ⟨h1, vs, by rw [upd_ne (ne_of_none h2 ha), upd_ne (ne_of_none h2 hd)]; exact h2, h3⟩
/-- .. and at its end: H2 is the heap ahead of the stores -/
theorem mk_done {μ : Mu} {G H1 G2 H2 : Hp} {a dx : Addr} {vs : List V} {fs : List D} (w : Wd K G H1 μ) (ha : H1 a = none) (hd : H1 dx = none) (hne : dx ≠ a)
    (w2 : Wd K G2 H2 μ) (g2 : Go μ G (upd (upd H1 dx (.own a)) a (.ins C dx [])) μ G2 H2) (r : RepL K G2 vs fs) :
    ∃ G3, Wd K G3 (slH H2 a C dx (vs.map some)) μ ∧ Go μ G H1 μ G3 (slH H2 a C dx (vs.map some)) ∧ Rep K G3 (.ref a) (.obj C fs) := by
  have ma : μ a = none := w.mnone ha
  have md : μ dx = none := w.mnone hd
  have ia : (upd (upd H1 dx (.own a)) a (.ins C dx [])) a = some (.ins C dx []) := upd_same
  have id : (upd (upd H1 dx (.own a)) a (.ins C dx [])) dx = some (.own a) := by rw [upd_ne hne, upd_same]
  have fresh : ∀ {c : Addr} {u : HO}, (upd (upd H1 dx (.own a)) a (.ins C dx [])) c = some u → (∀ ts, u ≠ .tup ts) → G c = none → μ c = none → G2 c = none := fun {c u} h1 hu h2 h3 => by
    cases e : G2 c with
    | none => rfl
    | some o =>
      rcases g2.gf c (by rw [e]; simp) with z | z | z | ⟨ts, z⟩
      · exact absurd h2 z
      · exact absurd h3 z
      · rw [h1] at z; cases z
      · rw [h1] at z; exact absurd (Option.some.inj z) (hu ts)
  have ga : G2 a = none := fresh ia (fun _ z => nomatch z) (w.gnone ha) ma
  have gd : G2 dx = none := fresh id (fun _ z => nomatch z) (w.gnone hd) md
  have ex3 : Ex G2 (upd (upd G2 dx (.xd [])) a (SlO a C dx (vs.map some))) := fun b o e => by
    rw [upd_ne (ne_of_none e ga), upd_ne (ne_of_none e gd)]; exact e
  refine ⟨upd (upd G2 dx (.xd [])) a (SlO a C dx (vs.map some)), ⟨fun b o e => ?_, fun p ds e => ?_⟩, ⟨g2.eg.trans ex3, fun b o e hm => ?_, fun b e => ?_, fun b e => ?_⟩, .obj (.inr ⟨upd_same, by rw [upd_ne hne, upd_same]⟩) (r.mono ex3)⟩
  · unfold slH
    by_cases h1 : b = a
    · subst h1; rw [upd_same] at e ⊢; exact e
    · rw [upd_ne h1] at e ⊢
      by_cases h2 : b = dx
      · subst h2; rw [upd_same] at e ⊢; exact e
      · rw [upd_ne h2] at e ⊢; exact w2.ex _ _ e
  · obtain ⟨h1, xs, h2, h3⟩ := w2.mu p ds e
    have n1 : p ≠ a := fun z => by subst z; rw [ma] at e; cases e
    have n2 : p ≠ dx := fun z => by subst z; rw [md] at e; cases e
    exact ⟨by rw [upd_ne n1, upd_ne n2]; exact h1, xs, by rw [slH_ne n1 n2]; exact h2, h3.mono ex3⟩
  · have n1 : b ≠ a := ne_of_none e ha
    have n2 : b ≠ dx := ne_of_none e hd
    rw [slH_ne n1 n2]
    exact g2.kp b o (by rw [upd_ne n1, upd_ne n2]; exact e) hm
  · exact .inl e
  · by_cases h1 : b = a
    · subst h1; exact .inr (.inr (.inl ha))
    · by_cases h2 : b = dx
      · subst h2; exact .inr (.inr (.inl hd))
      · rw [upd_ne h1, upd_ne h2] at e
        rcases g2.gf b e with z | z | z | ⟨ts, z⟩
        · exact .inl z
        · exact .inr (.inl z)
        · rw [upd_ne h1, upd_ne h2] at z; exact .inr (.inr (.inl z))
        · rw [upd_ne h1, upd_ne h2] at z; exact .inr (.inr (.inr ⟨ts, z⟩))
end
/-! ### the rules with K said outright -/
section
variable {X : Cx} {K : PySem.W.Frag} {P : Program} {w : World} {mg : Str → Option Value} {base : Heap} {C : Addr}
theorem ko_eqC {n j : Nat} {dsp : DSp} (F : SpD P w K mg base C "__eq__" n dsp) (hr : Room j X.A) (hj : n ≤ j := by decide) (hP : X.prog = P := by rfl) (hw : X.w = w := by rfl) (hK : X.K = K := by rfl) (hm : X.mg = mg := by rfl) (hb : X.base = base := by rfl) : OpR X (compareOp .Eq) (rEqA K C (spOf K dsp)) := by
  subst hP hw hK hm hb
  obtain ⟨g, h1, h2, F⟩ := F.ex
  exact op_eqA h1 h2 F (hr.mono hj)
theorem ko_neC {n j : Nat} {dsp : DSp} (c : Cmp K C) (F : SpD P w K mg base C "__eq__" n dsp) (hr : Room j X.A) (hj : n + 1 ≤ j := by decide) (hP : X.prog = P := by rfl) (hw : X.w = w := by rfl) (hK : X.K = K := by rfl) (hm : X.mg = mg := by rfl) (hb : X.base = base := by rfl) : OpR X (compareOp .NotEq) (rNeA K C (spOf K dsp)) := by
  subst hP hw hK hm hb
  obtain ⟨g, h1, h2, F⟩ := F.ex
  exact op_neA h1 h2 c.ne c.isi.cm F (hr.mono hj)
theorem ke_strC {n j : Nat} {dsp : DSp} {e : Expr} {te : TE} {p pos : Pos} (F : SpD P w K mg base C "__str__" n dsp) (hr : Room j X.A) (hmS : mg "str" = none) (he : PE X e te) (hj : n + 2 ≤ j := by decide) (hg : Gl X "str" := by rfl) (hP : X.prog = P := by rfl) (hw : X.w = w := by rfl) (hK : X.K = K := by rfl) (hm : X.mg = mg := by rfl) (hb : X.base = base := by rfl)
    (hs : starEach [e] X.env = (false, eval e X.env) :: starEach [] X.env := by rfl) (hpl : (backTo pos (starEach [] X.env)).any (·.1) = false := by rfl) : PE X (.Call (.Name "str" p) [e] [] pos) (tCB (rStrA C (spOf K dsp)) (tCons te tNil)) := by
  subst hP hw hK hm hb
  obtain ⟨g, h1, h2, F⟩ := F.ex
  exact kt_call (call_strA h1 h2 F (hr.mono hj)) hmS (pa_cons he pa_nil hs) hg rfl (by decide +kernel) (by decide) (by decide) hs hpl
theorem ke_isiC {x : Str} {e : Expr} {te : TE} {p q pos : Pos} (hmI : mg "isinstance" = none) (hmC : mg x = some (.ref C)) (he : PE X e te) (hg : Gl X "isinstance" := by rfl) (hgx : Gl X x := by rfl) (hK : X.K = K := by rfl) (hm : X.mg = mg := by rfl) (hd : (x == ("__debug__" : Str)) = false := by decide)
    (hs : starEach [e, .Name x q] X.env = (false, eval e X.env) :: starEach [.Name x q] X.env := by rfl) (hs2 : starEach [.Name x q] X.env = (false, eval (.Name x q) X.env) :: starEach [] X.env := by rfl) (hpl : (backTo pos (starEach [.Name x q] X.env)).any (·.1) = false := by rfl) :
    PE X (.Call (.Name "isinstance" p) [e, .Name x q] [] pos) (tCB (fun xs H Q => rIsi K xs H Q ∨ rIsiSl K (.ref C) xs H Q) (tCons te (tCons (tC (.ref C)) tNil))) := by
  subst hK hm
  exact kb_call (cr_or call_isi (call_isiSl (.ref C))) hmI (pa_cons he (pa_cons (pe_glob hgx hmC rfl hd) pa_nil hs2) hs) hg rfl (by decide +kernel) (by decide) (by decide) hs hpl
theorem ke_mk {x : Str} {k j : Nat} {inm : List D → List D → Prop} {e : Expr} {es : List Expr} {p pos : Pos} {t : TA} (c : MakD P w K mg base k x C (spMk K C inm)) (hr : Room j X.A) (ha : PA X (e :: es) t) (hk : k + 1 ≤ j := by decide) (hg : Gl X x := by rfl) (hP : X.prog = P := by rfl) (hw : X.w = w := by rfl) (hK : X.K = K := by rfl) (hm : X.mg = mg := by rfl) (hb : X.base = base := by rfl)
    (hdb : (x == ("__debug__" : Str)) = false := by decide) (he : starEach (e :: es) X.env = (false, eval e X.env) :: starEach es X.env := by rfl) (hpl : (backTo pos (starEach es X.env)).any (·.1) = false := by rfl) : PE X (.Call (.Name x p) (e :: es) [] pos) (tMake C (spMk K C inm) [] E0 t) := by
  subst hP hw hK hm hb
  obtain ⟨f, fd, ps, M, F, h1, h2⟩ := c.ex
  exact pe_make M F (hr.mono hk) hg h1 h2 .nil pass0 ha hdb he hpl
theorem ke_meth0 {m : Str} {n j : Nat} {dsp : DSp} {o : Expr} {ta : TE} {apos pos : Pos} {pl : Sem Bool} (c : SCls K C) (F : MethD P w K mg base C m n dsp) (hr : Room j X.A) (he : PE X o ta) (hj : n ≤ j := by decide) (hP : X.prog = P := by rfl) (hw : X.w = w := by rfl) (hK : X.K = K := by rfl) (hm : X.mg = mg := by rfl) (hb : X.base = base := by rfl)
    (ht : eval (.Call (.Attribute o m apos) [] [] pos) X.env = (do
      let ov ← eval o X.env
      standAt apos.atName
      let (f, first) ← holding [ov] (getMethod ov m pl)
      callWith pos f first (backTo pos (starEach [] X.env)) (backToKw pos (keywordEach [] X.env))) := by rfl) :
    PE X (.Call (.Attribute o m apos) [] [] pos) (tMethSl C (spOf K dsp) E0 ta tNil) := by
  subst hP hw hK hm hb
  obtain ⟨g, h1, F⟩ := F.ex
  exact pe_methSl0 he c h1 F (hr.mono hj) pass0 ht
theorem kg_slA {o : Expr} {f : Str} {pos : Pos} {to : TE} (ho : PE X o to) (hK : X.K = K := by rfl) : PG X (.Attribute o f pos) (gSlA K to f) := by subst hK; exact pg_slA ho
end
/-! ### the defs of a class -/
def BindsF (x qual : Str) (st : Stmt) (ps : List Str) : Prop := ∀ (kV doc pm : Value) (an : Option Addr) (cdv ct : Value) (us : List Value), us.length = ps.length → bindArgs (PySem.W.fnOf x qual (defArgs st) (defBody st) (defScope st) .none kV doc pm an cdv ct) ⟨us, []⟩ = pure (ps.zip us)
/-- where a property's getter stands -/
structure AtP (K : PySem.W.Frag) (C : Addr) (f qual : Str) (st : Stmt) : Prop where
  ex : ∃ (p g : Addr) (fd : FuncData), PySem.W.findIn K (.ref C) f = some (some (.ref p)) ∧ PySem.W.specialIn K (.ref p) "__get__" = some (some (.builtin "property.__get__")) ∧ PySem.W.takesIn K (.ref p) = some true ∧
    (∃ rest, PySem.W.recIn K p "property" = some (.ref g :: rest)) ∧ Fun K f qual st g fd
/-- where a def of the class stands -/
structure AtM (K : PySem.W.Frag) (C : Addr) (f qual : Str) (st : Stmt) : Prop where
  ex : ∃ (g : Addr) (fd : FuncData), Meth K C f g ∧ Fun K f qual st g fd
section
variable {P : Program} {w : World} {K : PySem.W.Frag} {mg : Str → Option Value} {base : Heap} {C : Addr} {x qual : Str} {st : Stmt} {N ps : List Str} {k : Nat} {dsp : DSp} {r : RS}
theorem propD_of (a : AtP K C x qual st) (B : Body P w K mg base k qual st N r) (S : FnScope N ps (defScope st)) (hb : BindsF x qual st ps) (len : ∀ ds μ k, dsp ds μ k → ds.length = ps.length)
    (vc : ∀ ds μ k, dsp ds μ k → r { nx := fun _ μ' => k .non μ', rt := k } (startD N ds) μ) : PropD P w K mg base C x (k + 1) dsp := by
  obtain ⟨p, g, fd, h1, h2, h3, h4, F⟩ := a.ex
  exact ⟨p, g, h1, h2, h3, h4, FnOk.pos (fn_body B F S len vc) (F.binds hb)⟩
theorem methD_of (a : AtM K C x qual st) (B : Body P w K mg base k qual st N r) (S : FnScope N ps (defScope st)) (hb : BindsF x qual st ps) (len : ∀ ds μ k, dsp ds μ k → ds.length = ps.length)
    (vc : ∀ ds μ k, dsp ds μ k → r { nx := fun _ μ' => k .non μ', rt := k } (startD N ds) μ) : MethD P w K mg base C x (k + 1) dsp := by
  obtain ⟨g, fd, h1, F⟩ := a.ex
  exact ⟨g, h1, FnOk.pos (fn_body B F S len vc) (F.binds hb)⟩
theorem spD_of (a : AtM K C x qual st) (B : Body P w K mg base k qual st N r) (S : FnScope N ps (defScope st)) (hb : BindsF x qual st ps) (len : ∀ ds μ k, dsp ds μ k → ds.length = ps.length)
    (vc : ∀ ds μ k, dsp ds μ k → r { nx := fun _ μ' => k .non μ', rt := k } (startD N ds) μ) : SpD P w K mg base C x (k + 1) dsp := by
  obtain ⟨g, fd, h1, F⟩ := a.ex
  exact ⟨g, h1.at_, h1.fn, FnOk.pos (fn_body B F S len vc) (F.binds hb)⟩
end
end DL


set_option Elab.async false
set_option linter.all false
set_option maxRecDepth 100000
set_option maxHeartbeats 4000000
/-! DLt: texts. -/
namespace DL
open PySem PySem.Spec PyProof.Rows L2 SlX TL
theorem len_tl (x : Str) : x.length = (tl x).length := by
  show x.cps.size = x.cps.toList.length
  simp
theorem ok_tl (x : Str) : PyData.strOk x = true ↔ ∀ c ∈ tl x, c < 0x110000 := by
  unfold PyData.strOk
  rw [Array.all_eq_true']
  simp [tl]
theorem joinL_mem {S : List Nat} {c : Nat} : ∀ {ps : List (List Nat)}, c ∈ joinL S ps → c ∈ S ∨ ∃ p ∈ ps, c ∈ p
  | [], h => by simp [joinL] at h
  | [p], h => .inr ⟨p, by simp, h⟩
  | p :: q :: r, h => by
    simp only [joinL, List.mem_append] at h
    rcases h with h | h | h
    · exact .inr ⟨p, by simp, h⟩
    · exact .inl h
    · rcases joinL_mem h with z | ⟨p', h1, h2⟩
      · exact .inl z
      · exact .inr ⟨p', List.mem_cons_of_mem _ h1, h2⟩
theorem joinL_len {S : List Nat} {b : Nat} : ∀ {ps : List (List Nat)}, (∀ p ∈ ps, p.length ≤ b) → (joinL S ps).length ≤ ps.length * (b + S.length)
  | [], _ => by simp [joinL]
  | [p], h => by have := h p (by simp); simp [joinL]; omega
  | p :: q :: r, h => by
    have h1 := h p (by simp)
    have h2 := joinL_len (S := S) (ps := q :: r) (b := b) (fun z hz => h z (List.mem_cons_of_mem _ hz))
    have e : (p :: q :: r).length * (b + S.length) = (b + S.length) + (q :: r).length * (b + S.length) := by
      simp only [List.length_cons]
      rw [Nat.add_mul (r.length + 1) 1, Nat.one_mul, Nat.add_comm]
    rw [e]
    simp only [joinL, List.length_append]
    omega
theorem joinL_nil {S : List Nat} : ∀ {ps : List (List Nat)}, (∀ p ∈ ps, p ≠ []) → joinL S ps = [] → ps = []
  | [], _, _ => rfl
  | [p], h, e => absurd e (h p (by simp))
  | p :: q :: r, h, e => by
    simp only [joinL] at e
    exact absurd (List.append_eq_nil_iff.mp e).1 (h p (by simp))
theorem tl_joinT (y : Str) (ys : List Str) : tl (Txt.join y ys) = joinL (tl y) (ys.map tl) := by rw [join_eq, tl_join]
theorem len_app (x y : Str) : (x ++ y).length = x.length + y.length := by rw [len_tl, len_tl x, len_tl y, tl_append, List.length_append]
end DL


set_option Elab.async false
set_option linter.all false
set_option maxRecDepth 100000
set_option maxHeartbeats 4000000
/-! DLs: starred items of displays. -/
namespace DL
open PySem PySem.Spec PyProof.Rows L2 SlX StX
section
variable {K : PySem.W.Frag}
@[simp] def rStar (re : RE) (rr : RA) : RA := fun δ μ k => re δ μ fun x μ1 => ∃ ds, asQ μ1 x = some ds ∧ rr δ μ1 fun es μ2 => k (ds ++ es) μ2
theorem okA_star {te : TE} {re : RE} {tr : TA} {rr : RA} (he : OkE K te re) (hr : OkA K tr rr) : OkA K (tStar K te tr) (rStar re rr) := fun σ δ μ G H k Q S w q b =>
  he σ δ μ G H _ _ S w q fun x dx μ1 G1 H1 ⟨ds, e, q1⟩ w1 g1 r1 => by
    obtain ⟨a, vs, rfl, hs, rl⟩ := asQ_out w1 r1 e
    exact ⟨a, vs, rfl, hs.symm, hr σ δ μ1 G1 H1 _ _ (S.mono g1.eg) w1 q1 fun ys es μ2 G2 H2 q2 w2 g2 r2 => b (vs ++ ys) (ds ++ es) μ2 G2 H2 q2 w2 (g1.trans g2) ((rl.mono g2.eg).append r2)⟩
theorem ka_star (K : PySem.W.Frag) {X : Cx} {e : Expr} {es : List Expr} {te : TE} {t : TA} {p : Pos} (he : PE X e te) (hr : PA X es t) (hK : X.K = K := by rfl) (hs : starEach (.Starred e p :: es) X.env = (true, eval e X.env) :: starEach es X.env := by rfl) : PA X (.Starred e p :: es) (tStar K te t) := by
  subst hK; exact pa_star he hr hs
end
end DL


set_option Elab.async false
set_option linter.all false
set_option maxRecDepth 100000
set_option maxHeartbeats 4000000
/-! DLn: enumerate over a list or a tuple. -/
namespace DL
open PySem PySem.Spec PyProof.Rows L2 SlX
open Sem (wp)
set_option maxHeartbeats 8000000 in
theorem meets_enumerate_new1 {v : Value} {o : Obj} {H : Heap → Prop} (B : Begins v o H) :
    Meets (Builtin.«enumerate.__new__» ⟨[.type "enumerate", v], []⟩) (fun _ R s => H s.heap ∧
      R (.ok (.ret (.ref (s.heap.push o).objs.size))) { s with heap := (s.heap.push o).push { cls := .type "enumerate", data := .fields #[.none, .bool false, .ref s.heap.objs.size, rawInt 0, .none, .none] } }) :=
  .of_wp fun prog w A R s h => by
    obtain ⟨hp, g, d, tk, os⟩ := s; obtain ⟨h1, h⟩ := h
    have hsub := sub_enumerate
    have q1 : ∀ {A' : Around} {E : Value → Shared → Prop} {Q : Value → Shared → Prop}, Q (.ref hp.objs.size) ⟨hp.push o, g, d, tk, os⟩ → wpAny (model prog w) A' (pyIter v) Q E ⟨hp, g, d, tk, os⟩ :=
      fun q => B.iter prog w _ _ ⟨hp, g, d, tk, os⟩ _ h1 q
    wp_walk using q1
    refine wpAny_stack_any fun st => wpAny_pure ?_
    split
    · rename_i c _ _ _ _ _
      cases (c == Value.type "enumerate")
      · wp_walk using q1
        exact ⟨_, rfl, h⟩
      · wp_walk using q1
        exact ⟨_, rfl, h⟩
    · wp_walk using q1
      exact ⟨_, rfl, h⟩
theorem enum_begins1 {prog : Program} {w : World} {A : Around} {E : Value → Shared → Prop} {s : Shared} {v : Value} {o : Obj} {H : Heap → Prop} {Q : Value → Shared → Prop} (B : Begins v o H) (h1 : H s.heap)
    (h : ∀ h', IsEnum h' (s.heap.objs.size + 1) s.heap.objs.size 0 .none → h'.get? s.heap.objs.size = some o → h'.objs.size = s.heap.objs.size + 2 →
      (∀ b o, s.heap.get? b = some o → h'.get? b = some o) → Q (.ref (s.heap.objs.size + 1)) { s with heap := h' }) :
    wpAny (model prog w) A (call (.type "enumerate") [v]) Q E s := by
  refine callType_new F.called_enumerate (by decide) (F.typeCall_enumerate_1 _) (F.newCall_enumerate_1 _) (fun obj => F.args_object_init_2 obj _) F.entry_enumerate_new
    (meets_enumerate_new1 B) ⟨h1, ?_⟩
  have hz : (s.heap.push o).objs.size = s.heap.objs.size + 1 := Heap.size_push ..
  show _ ∧ _
  rw [hz]
  have he : IsEnum ((s.heap.push o).push { cls := .type "enumerate", data := .fields #[.none, .bool false, .ref s.heap.objs.size, rawInt 0, .none, .none] }) (s.heap.objs.size + 1) s.heap.objs.size 0 .none := by
    have := Heap.get?_push_size (s.heap.push o) (o := { cls := .type "enumerate", data := .fields #[.none, .bool false, .ref s.heap.objs.size, rawInt 0, .none, .none] }) rfl
    rw [hz] at this; exact this
  refine ⟨⟨_, he, rfl⟩, h _ he (Heap.get?_push_of_some _ (Heap.get?_push_size _ B.free)) (by rw [Heap.size_push, hz]) fun b o x => Heap.get?_push_of_some _ (Heap.get?_push_of_some _ x)⟩
/-- what enumerate over the sequence at a walks -/
def IteM (c : Bool) (K : PySem.W.Frag) (a : Addr) : It where
  go := fun i H => ∃ xs x, SqA c K H a xs ∧ xs[i]? = some x
  yld := fun i H v H' => ∃ T x, v = V.ref T ∧ H T = none ∧ H' = upd H T (.tup [.int (i : Nat), x]) ∧ ∀ xs, SqA c K H a xs → xs[i]? = some x
  stop := fun i H => ∃ xs, SqA c K H a xs ∧ i = xs.length
theorem turn_enumM {P : Program} {w : World} {K : PySem.W.Frag} {elts : List Expr} {kk : Nat} {tpos : Pos} {c : Bool} {a e it : Addr} (ha : a ≠ it) (hei : e ≠ it) (hea : e ≠ a) :
    Turn P w K (.Tuple elts kk tpos) (IteM c K a) [e, it] e
      (fun i h => (∃ old, IsEnum h e it (0 + (i : Int)) old) ∧ IterA c h it a i) where
  mem := by simp
  obj := fun i h ⟨⟨old, he⟩, h1⟩ c hc => by
    have q : c = e ∨ c = it := by simpa using hc
    rcases q with q | q
    · subst q; exact ⟨_, he, fun v e => nomatch e⟩
    · subst q; exact iterA_obj h1
  keep := fun i h h' ⟨⟨old, he⟩, h1⟩ k => ⟨⟨old, k e (by simp) _ he⟩, iterA_at h1 (k it (by simp))⟩
  item := by
    intro X hP hw hK hc i pins s σ H E I hf ⟨⟨old, he⟩, h1⟩ hg
    subst hP hw hK
    obtain ⟨xs, x, sx, ex⟩ := hg
    obtain ⟨its, rv, p1⟩ := inv_sqA I sx
    obtain ⟨u, hu, ru⟩ := rv.get ex
    have hh : X.A.in1.handled = none := I.ok.hd hc
    have W := WalksT.enumFrom (prog := X.prog) (w := X.w) (A := X.A) 0 (drawsA hh c it a ha its.toArray) e hei (by simp [hei, hea]) (by simp)
    have l1 : i < its.length := (List.getElem?_eq_some_iff.mp hu).1
    refine W.item i s _ _ (by simp; omega) ⟨⟨old, he⟩, ⟨h1, p1⟩⟩ fun T vals h' tk hv hT hIs mid hk => ?_
    obtain ⟨t, x1, e1, rfl⟩ := hv
    have e1 : x1 = u := by have e1 : its.toArray[i]? = some x1 := e1; rw [List.getElem?_toArray, hu] at e1; exact (Option.some.inj e1).symm
    subst e1
    have apart := W.apart i T h' mid
    refine ⟨_, rfl, W.go elts kk tpos i T { s with heap := h', toks := tk } _ _ mid fun h'' st hk2 => ?_⟩
    obtain ⟨⟨old', he'⟩, ⟨h1', _⟩⟩ := st
    have hTn : H T = none := I.hok.fresh hT
    have tneq : ∀ c, c ∈ [e, it] → c < T := fun c hm => by
      have q : c < s.heap.objs.size := by
        have q : c = e ∨ c = it := by simpa using hm
        rcases q with q | q
        · subst q; exact Heap.lt_size he
        · subst q; obtain ⟨_, e, _⟩ := iterA_obj h1; exact Heap.lt_size e
      exact Nat.lt_of_lt_of_le q hT
    obtain ⟨oT, eT, cT, nT, dT⟩ := id hIs
    have new : ObjOk X.prog X.w (upd H T (.tup [.int (i : Nat), x])) h'' T (.tup [.int (i : Nat), x]) :=
      ⟨by show 2 ≤ sizeLine; decide, [.int (0 + (i : Int)) t, x1], .cons ⟨t, by rw [Int.zero_add]⟩ (.cons ru .nil), ⟨oT, hk2 T oT apart eT, cT, nT, dT⟩⟩
    refine ⟨.ref T, _, I.turnedNew (t' := tk) (ch := [e, it]) (fun c o hb q => hk2 c o hb (hk c o hb q)) hf hT new, rfl, ⟨T, x, rfl, hTn, rfl, fun l hl => by rw [inv_injA I hl sx]; exact ex⟩,
      ⟨⟨old', he'⟩, h1'⟩, fun c hm => ?_⟩
    rw [upd_ne (Nat.ne_of_lt (tneq c hm))]
    exact (hf c hm).1
  done := by
    intro X hP hw hK hc i pins s σ H E I hf ⟨⟨old, he⟩, h1⟩ hg
    subst hP hw hK
    obtain ⟨xs, sx, hend⟩ := hg
    obtain ⟨its, rv, p1⟩ := inv_sqA I sx
    have hh : X.A.in1.handled = none := I.ok.hd hc
    have l1 := rv.length
    have W := WalksT.enumFrom (prog := X.prog) (w := X.w) (A := X.A) 0 (drawsA hh c it a ha its.toArray) e hei (by simp [hei, hea]) (by simp)
    have ei : i = its.toArray.size := by rw [hend, l1]; simp
    rw [ei] at h1 he
    exact W.done s _ _ ⟨⟨old, he⟩, ⟨h1, p1⟩⟩ fun h' tk hk => ⟨rfl, I.turnedL (t' := tk) (ch := [e, it]) (fun c o hb q => hk c o hb q) hf⟩
  self := fun A i s Q E st h => let ⟨⟨_, he⟩, _⟩ := st; wpAny_pyIter_enum he h
section
variable {K : PySem.W.Frag}
def iEnumM (K : PySem.W.Frag) (ta : TA) : TI := fun σ H R => ta σ H fun vs H1 => ∃ (c : Bool) (a : Addr) (xs : List V), vs = [V.ref a] ∧ SqA c K H1 a xs ∧ R (IteM c K a) H1
theorem pi_enumM {X : Cx} {e : Expr} {ta : TA} {p pos tpos : Pos} {elts : List Expr} {kk : Nat} (hg : Gl X "enumerate") (hm : X.mg "enumerate" = none) (ha : PA X [e] ta)
    (hs : starEach [e] X.env = [(false, eval e X.env)] := by rfl) :
    PI X (.Tuple elts kk tpos) (.Call (.Name "enumerate" p) [e] [] pos) (iEnumM X.K ta) := ⟨fun pins s σ H R I h => by
  refine Call_ (ld_blt I hg hm boot_enumerate (PyProof.Rows.callWith_type1 (thn (ha.run pos pins s σ H _ I h) fun us s1 ⟨vs, H1, I1, r1, q1⟩ => ?_) hs rfl))
  obtain ⟨c, a, xs, rfl, sx, q⟩ := q1
  cases r1 with
  | cons r rr =>
    cases rr
    cases r
    obtain ⟨its, rv, p1⟩ := inv_sqA I1 sx
    have la := isA_lt p1
    refine enum_begins1 (beginsA c a its.toArray) p1 fun h' he hit hsz hk => wpAny_pyIter_enum he ?_
    have I2 : Inv X pins σ H1 { s1 with heap := h' } := I1.kept (t' := s1.toks) hk
    have na : a ≠ s1.heap.objs.size := Nat.ne_of_lt la
    refine ⟨s1.heap.objs.size + 1, [s1.heap.objs.size + 1, s1.heap.objs.size], _, _, H1, rfl, I2, turn_enumM (c := c) na (Nat.succ_ne_self _) (Nat.ne_of_gt (Nat.lt_succ_of_lt la)), ⟨⟨.none, he⟩, iterA_0 hit⟩, fun b hb => ?_, q⟩
    have e' : b = s1.heap.objs.size + 1 ∨ b = s1.heap.objs.size := by simpa using hb
    have hle : s1.heap.objs.size ≤ b := by
      rcases e' with z | z
      · rw [z]; exact Nat.le_add_right _ _
      · rw [z]; exact Nat.le_refl _
    exact I1.fpOk hle (I1.hok.fresh hle)⟩
theorem ki_enum (K : PySem.W.Frag) {X : Cx} {e : Expr} {ta : TA} {p pos tpos : Pos} {elts : List Expr} {kk : Nat} (hg : Gl X "enumerate") (hm : X.mg "enumerate" = none) (ha : PA X [e] ta) (hK : X.K = K := by rfl)
    (hs : starEach [e] X.env = [(false, eval e X.env)] := by rfl) :
    PI X (.Tuple elts kk tpos) (.Call (.Name "enumerate" p) [e] [] pos) (iEnumM K ta) := by subst hK; exact pi_enumM hg hm ha hs
@[simp] def numD : Nat → Option D → Option D
  | i, some x => some (.tup [.int (i : Nat), x])
  | _, _ => none
def itE (x : D) (xs : List D) : DIt := ⟨xs.length, fun i => numD i xs[i]?, fun μ => asQ μ x = some xs⟩
@[simp] def rIE (ra : RA) : RI := fun δ μ k => ra δ μ fun ds μ1 => match ds with | [x] => ∃ xs, asQ μ1 x = some xs ∧ k (itE x xs) μ1 | _ => False
theorem itOk_enum {G : Hp} {va : Addr} {x : D} {xs : List D} (r1 : Rep K G (.ref va) x) : ItOk K G (IteM (kindA x) K va) (itE x xs) := fun i μ G1 H1 e w o1 => by
  obtain ⟨a, vs, ea, sa, ra⟩ := asQ_outA w (r1.mono e) o1
  cases ea
  refine ⟨fun hi => ⟨vs, sa, by rw [ra.length]; exact hi.symm⟩, fun hi => ?_⟩
  have hi : i < xs.length := hi
  have l1 : i < vs.length := by rw [ra.length]; omega
  refine ⟨⟨vs, vs[i], sa, List.getElem?_eq_getElem l1⟩, fun v H2 ⟨T, u, hv, hT, hH, h1⟩ => ?_⟩
  subst hv hH
  obtain ⟨d1, g1, q1⟩ := ra.get (h1 vs sa)
  refine ⟨.tup [.int (i : Nat), d1], upd G1 T (.tup [.int (i : Nat), u]), ?_, w.new hT, Go.new w hT, .tup upd_same (.cons (.int _) (.cons (q1.mono (Ex.new (w.gnone hT))) .nil))⟩
  show numD i xs[i]? = _
  rw [g1]
  rfl
theorem okI_enum {ta : TA} {ra : RA} (h : OkA K ta ra) : OkI K (iEnumM K ta) (rIE ra) := fun σ δ μ G H k R S w q b =>
  h σ δ μ G H _ _ S w q fun vs ds μ1 G1 H1 q1 w1 g1 r1 => by
    split at q1
    · rename_i x
      obtain ⟨xs, e1, q2⟩ := q1
      cases r1 with
      | cons a t =>
        cases t
        obtain ⟨p, vs1, rfl, s1, _⟩ := asQ_outA w1 a e1
        exact ⟨_, p, vs1, rfl, s1, b _ _ μ1 G1 H1 q2 w1 g1 (itOk_enum a)⟩
    · exact q1.elim
theorem Src.e {μ : Mu} {x : D} {xs : List D} (h1 : asQ μ x = some xs) : Src (itE x xs) μ (xs.zipIdx.map fun q => .tup [.int (q.2 : Nat), q.1]) := by
  refine ⟨by simp [itE], fun i d hi h => ?_, h1⟩
  have hi : i < xs.length := hi
  have h : numD i xs[i]? = some d := h
  rw [List.getElem?_eq_getElem hi] at h
  rw [List.getElem?_map, List.getElem?_zipIdx, List.getElem?_eq_getElem hi]
  simpa using h
end
end DL


set_option Elab.async false
set_option linter.all false
set_option maxRecDepth 100000
set_option maxHeartbeats 4000000
/-! DLk: dicts whose keys are ints and texts. -/
namespace DL
open PySem PySem.Spec PyProof.Rows L2 SlX
/-! ### tables over data -/
section
variable {κ α : Type} [DecidableEq κ]
def getG (kvs : List (κ × α)) (k : κ) : Option α := (kvs.find? fun kv => decide (kv.1 = k)).map (·.2)
def putG (kvs : List (κ × α)) (k : κ) (v : α) : List (κ × α) :=
  if (kvs.any fun kv => decide (kv.1 = k)) = true then kvs.map (fun kv => if kv.1 = k then (kv.1, v) else kv) else kvs ++ [(k, v)]
def mergeG (kvs more : List (κ × α)) : List (κ × α) := more.foldl (fun acc kv => putG acc kv.1 kv.2) kvs
theorem putG_len (kvs : List (κ × α)) (k : κ) (v : α) : (putG kvs k v).length ≤ kvs.length + 1 := by
  unfold putG; split <;> simp
theorem mergeG_len (more : List (κ × α)) : ∀ kvs : List (κ × α), (mergeG kvs more).length ≤ kvs.length + more.length := by
  induction more with
  | nil => intro kvs; simp [mergeG]
  | cons m more ih =>
    intro kvs
    have h1 := ih (putG kvs m.1 m.2)
    have h2 := putG_len kvs m.1 m.2
    have e : mergeG kvs (m :: more) = mergeG (putG kvs m.1 m.2) more := rfl
    rw [e, List.length_cons]; omega
end
theorem putV_eq {κ : Type} [DecidableEq κ] (kvs : List (κ × V)) (k : κ) (v : V) : putK kvs k v = putG kvs k v := rfl
theorem getV_eq {κ : Type} [DecidableEq κ] (kvs : List (κ × V)) (k : κ) : valV kvs k = getG kvs k := rfl
/-- a table of values, a table of data -/
structure RepT {κ : Type} (K : PySem.W.Frag) (G : Hp) (kvs : List (κ × V)) (kds : List (κ × D)) : Prop where
  ks : kvs.map (·.1) = kds.map (·.1)
  vs : RepL K G (kvs.map (·.2)) (kds.map (·.2))
section
variable {κ : Type} [DecidableEq κ] {K : PySem.W.Frag} {G G' : Hp}
theorem RepT.nil : RepT K G ([] : List (κ × V)) [] := ⟨rfl, .nil⟩
theorem RepT.cons {k : κ} {v : V} {d : D} {kvs : List (κ × V)} {kds : List (κ × D)} (r : Rep K G v d) (t : RepT K G kvs kds) : RepT K G ((k, v) :: kvs) ((k, d) :: kds) := ⟨by simp [t.ks], .cons r t.vs⟩
theorem RepT.rec' {P : List (κ × V) → List (κ × D) → Prop} (h0 : P [] []) (h1 : ∀ k v d kvs kds, Rep K G v d → RepT K G kvs kds → P kvs kds → P ((k, v) :: kvs) ((k, d) :: kds)) : ∀ {kvs : List (κ × V)} {kds : List (κ × D)}, RepT K G kvs kds → P kvs kds
  | [], [], _ => h0
  | [], _ :: _, r => by have := r.ks; simp at this
  | _ :: _, [], r => by have := r.ks; simp at this
  | (k, v) :: kvs, (k', d) :: kds, r => by
    obtain ⟨e1, e2⟩ : k = k' ∧ kvs.map (·.1) = kds.map (·.1) := by simpa using r.ks
    subst e1
    have := r.vs
    cases this with
    | cons a b => exact h1 k v d kvs kds a ⟨e2, b⟩ (RepT.rec' h0 h1 ⟨e2, b⟩)
theorem RepT.mono {kvs : List (κ × V)} {kds : List (κ × D)} (e : Ex G G') (r : RepT K G kvs kds) : RepT K G' kvs kds := ⟨r.ks, r.vs.mono e⟩
theorem RepT.length {kvs : List (κ × V)} {kds : List (κ × D)} (r : RepT K G kvs kds) : kvs.length = kds.length := by
  have := congrArg List.length r.ks
  simpa using this
theorem RepT.get {kvs : List (κ × V)} {kds : List (κ × D)} (r : RepT K G kvs kds) (k : κ) : (getG kvs k = none ∧ getG kds k = none) ∨ ∃ v d, getG kvs k = some v ∧ getG kds k = some d ∧ Rep K G v d := by
  refine RepT.rec' (P := fun kvs kds => (getG kvs k = none ∧ getG kds k = none) ∨ ∃ v d, getG kvs k = some v ∧ getG kds k = some d ∧ Rep K G v d) (.inl ⟨rfl, rfl⟩) (fun k' v d kvs kds a _ ih => ?_) r
  by_cases h : k' = k
  · right; exact ⟨v, d, by simp [getG, h], by simp [getG, h], a⟩
  · have e1 : ∀ {α : Type} (x : α) (l : List (κ × α)), getG ((k', x) :: l) k = getG l k := fun x l => by simp [getG, h]
    rw [e1, e1]; exact ih
theorem RepT.any {kvs : List (κ × V)} {kds : List (κ × D)} (r : RepT K G kvs kds) (k : κ) : (kvs.any fun kv => decide (kv.1 = k)) = (kds.any fun kv => decide (kv.1 = k)) := by
  have e : ∀ {α : Type} (l : List (κ × α)), (l.any fun kv => decide (kv.1 = k)) = ((l.map (·.1)).any fun x => decide (x = k)) := fun l => by rw [List.any_map]; rfl
  rw [e, e, r.ks]
theorem RepT.append {kvs kws : List (κ × V)} {kds kes : List (κ × D)} (r : RepT K G kvs kds) (s : RepT K G kws kes) : RepT K G (kvs ++ kws) (kds ++ kes) := ⟨by simp [r.ks, s.ks], by simpa using r.vs.append s.vs⟩
theorem RepT.put {kvs : List (κ × V)} {kds : List (κ × D)} (r : RepT K G kvs kds) (k : κ) {v : V} {d : D} (q : Rep K G v d) : RepT K G (putG kvs k v) (putG kds k d) := by
  unfold putG
  rw [r.any k]
  split
  · refine RepT.rec' (P := fun kvs kds => RepT K G (kvs.map fun kv => if kv.1 = k then (kv.1, v) else kv) (kds.map fun kv => if kv.1 = k then (kv.1, d) else kv)) .nil (fun k' v' d' kvs kds a _ ih => ?_) r
    by_cases h : k' = k
    · subst h; simpa using RepT.cons (k := k') q ih
    · simpa [h] using RepT.cons (k := k') a ih
  · exact r.append (.cons q .nil)
theorem RepT.merge {more : List (κ × V)} {mds : List (κ × D)} (s : RepT K G more mds) : ∀ {kvs : List (κ × V)} {kds : List (κ × D)}, RepT K G kvs kds → RepT K G (mergeG kvs more) (mergeG kds mds) :=
  RepT.rec' (P := fun more mds => ∀ {kvs : List (κ × V)} {kds : List (κ × D)}, RepT K G kvs kds → RepT K G (mergeG kvs more) (mergeG kds mds)) (fun r => r) (fun k v d more mds a _ ih => fun {kvs kds} r => by
    show RepT K G (mergeG (putG kvs k v) more) (mergeG (putG kds k d) mds)
    exact ih (r.put k a)) s
theorem RepT.back {kvs : List (κ × V)} {ks : List κ} {ds : List D} (h : kvs.map (·.1) = ks) (r : RepL K G (kvs.map (·.2)) ds) : RepT K G kvs (ks.zip ds) := by
  have hl : ks.length = ds.length := by have := r.length; rw [List.length_map] at this; rw [← h, List.length_map, this]
  refine ⟨?_, ?_⟩
  · rw [h, List.map_fst_zip (by omega)]
  · rw [List.map_snd_zip (by omega)]; exact r
end
@[simp] def keyD : D → Option Key
  | .int i => some (.inl i)
  | .str x => some (.inr x)
  | _ => none
theorem keyD_out {K : PySem.W.Frag} {G : Hp} {v : V} {d : D} {k : Key} (r : Rep K G v d) (e : keyD d = some k) : v = kV k := by
  cases r with
  | int i => cases e; rfl
  | str x => cases e; rfl
  | _ => cases e
/-- the own table at p -/
def kvAt (μ : Mu) (p : Addr) : Option (List (Key × D)) := match μ p with
  | some (.k kvs) => some kvs
  | _ => none
@[simp] theorem kvAt_iff {μ : Mu} {p : Addr} {kvs : List (Key × D)} : kvAt μ p = some kvs ↔ μ p = some (.k kvs) := by
  unfold kvAt
  constructor
  · intro h
    split at h
    · rename_i e; cases h; exact e
    · cases h
  · intro h; rw [h]
/-- a dict that is read -/
@[simp] def asK (μ : Mu) : D → Option (List (Key × D))
  | .dk ks ds => some (ks.zip ds)
  | .own p => kvAt μ p
  | _ => none
theorem asK_out {K : PySem.W.Frag} {μ : Mu} {G H : Hp} {v : V} {d : D} {kds : List (Key × D)} (w : Wd K G H μ) (r : Rep K G v d) (e : asK μ d = some kds) : ∃ a kvs, v = .ref a ∧ H a = some (.dK kvs) ∧ RepT K G kvs kds := by
  cases r with
  | @dk a ks vs ds h hl q =>
    cases e
    refine ⟨_, _, rfl, w.ex _ _ h, RepT.back ?_ ?_⟩
    · rw [List.map_fst_zip (by omega)]
    · rw [List.map_snd_zip (by omega)]; exact q
  | own p =>
    obtain ⟨_, kvs, h, e1, q⟩ := w.muK p _ (kvAt_iff.mp e)
    exact ⟨_, _, rfl, h, e1, q⟩
  | _ => cases e
section
variable {K : PySem.W.Frag}
/-- y in d -/
@[simp] def rDIn (ri ro : RE) : RE := fun δ μ k => ri δ μ fun y μ1 => ro δ μ1 fun d μ2 => ∃ kvs kk, asK μ2 d = some kvs ∧ keyD y = some kk ∧ k (.bl (getG kvs kk).isSome) μ2
@[simp] def rDNotIn (ri ro : RE) : RE := fun δ μ k => ri δ μ fun y μ1 => ro δ μ1 fun d μ2 => ∃ kvs kk, asK μ2 d = some kvs ∧ keyD y = some kk ∧ k (.bl (!(getG kvs kk).isSome)) μ2
theorem isSome_get {G : Hp} {kvs : List (Key × V)} {kds : List (Key × D)} (r : RepT K G kvs kds) (k : Key) : (valV kvs k).isSome = (getG kds k).isSome := by
  rw [getV_eq]
  rcases r.get k with ⟨a, b⟩ | ⟨v, d, a, b, _⟩ <;> rw [a, b] <;> rfl
theorem okE_din {ti to : TE} {ri ro : RE} (hi : OkE K ti ri) (ho : OkE K to ro) : OkE K (tDIn ti to) (rDIn ri ro) := fun σ δ μ G H k Q S w q b =>
  hi σ δ μ G H _ _ S w q fun y dy μ1 G1 H1 q1 w1 g1 r1 => ho σ δ μ1 G1 H1 _ _ (S.mono g1.eg) w1 q1 fun x dx μ2 G2 H2 ⟨kvs, kk, e, ek, q2⟩ w2 g2 r2 => by
    obtain ⟨a, vs, rfl, h, rt⟩ := asK_out w2 r2 e
    obtain rfl := keyD_out (r1.mono g2.eg) ek
    exact ⟨a, _, rfl, DGet.k h, by rw [isSome_get rt]; exact b _ _ μ2 G2 H2 q2 w2 (g1.trans g2) (.bl _)⟩
theorem okE_dnotin {ti to : TE} {ri ro : RE} (hi : OkE K ti ri) (ho : OkE K to ro) : OkE K (tDNotIn ti to) (rDNotIn ri ro) := fun σ δ μ G H k Q S w q b =>
  hi σ δ μ G H _ _ S w q fun y dy μ1 G1 H1 q1 w1 g1 r1 => ho σ δ μ1 G1 H1 _ _ (S.mono g1.eg) w1 q1 fun x dx μ2 G2 H2 ⟨kvs, kk, e, ek, q2⟩ w2 g2 r2 => by
    obtain ⟨a, vs, rfl, h, rt⟩ := asK_out w2 r2 e
    obtain rfl := keyD_out (r1.mono g2.eg) ek
    exact ⟨a, _, rfl, DGet.k h, by rw [isSome_get rt]; exact b _ _ μ2 G2 H2 q2 w2 (g1.trans g2) (.bl _)⟩
/-- d[y] -/
@[simp] def rDGet (ro ri : RE) : RE := fun δ μ k => ro δ μ fun d μ1 => ri δ μ1 fun y μ2 => ∃ kvs kk x, asK μ2 d = some kvs ∧ keyD y = some kk ∧ getG kvs kk = some x ∧ k x μ2
theorem okE_dget {ti to : TE} {ri ro : RE} (ho : OkE K to ro) (hi : OkE K ti ri) : OkE K (tDGet to ti) (rDGet ro ri) := fun σ δ μ G H k Q S w q b =>
  ho σ δ μ G H _ _ S w q fun x dx μ1 G1 H1 q1 w1 g1 r1 => hi σ δ μ1 G1 H1 _ _ (S.mono g1.eg) w1 q1 fun y dy μ2 G2 H2 ⟨kvs, kk, z, e, ek, eg, q2⟩ w2 g2 r2 => by
    obtain ⟨a, vs, rfl, h, rt⟩ := asK_out w2 (r1.mono g2.eg) e
    obtain rfl := keyD_out r2 ek
    rcases rt.get kk with ⟨_, b1⟩ | ⟨v, d, a1, b1, rv⟩
    · rw [b1] at eg; cases eg
    · rw [b1] at eg; cases eg
      refine ⟨a, v, rfl, ?_, b _ _ μ2 G2 H2 q2 w2 (g1.trans g2) rv⟩
      have := DGet.k (k := kk) h
      rw [getV_eq, a1] at this
      exact this
/-! ### comprehensions -/
set_option checkBinderAnnotations false in
def rDcW (it : DIt) (rg : RG) (rt : RT) (rk rv : RE) (vs : List Nat) (δ : Sl) (μ1 : Mu) [fin : List (Key × D) → Mu → Prop] : Prop :=
  it.n ≤ 1000000 ∧ ∃ Inv : Nat → List (Key × D) → Mu → Prop, Inv 0 [] μ1 ∧ (∀ i acc μ, Inv i acc μ → it.ok μ) ∧
    (∀ i acc μ d, i < it.n → it.at_ i = some d → Inv i acc μ → rg d (wipeD δ vs) μ fun δ2 μ2 => rt δ2 μ2 fun b μ3 => if b = true then rk δ2 μ3 fun y μ4 => rv δ2 μ4 fun z μ5 => ∃ k, keyD y = some k ∧ Inv (i + 1) (putG acc k z) μ5 else Inv (i + 1) acc μ3) ∧
    (∀ acc μ, Inv it.n acc μ → fin acc μ)
@[simp] def rDc (ri : RI) (rg : RG) (rt : RT) (rk rv : RE) (vs : List Nat) : RE := fun δ μ k => ri δ μ fun it μ1 => @rDcW it rg rt rk rv vs δ μ1 fun acc μ' => k (.dk (acc.map (·.1)) (acc.map (·.2))) μ'
@[simp] def rDcO (ri : RI) (rg : RG) (rt : RT) (rk rv : RE) (vs : List Nat) : RE := fun δ μ k => ri δ μ fun it μ1 => @rDcW it rg rt rk rv vs δ μ1 fun acc μ' => ∀ p, μ' p = none → k (.own p) (muSet μ' p (.k acc))
theorem dc_run {J : It} {it : DIt} {g : TG} {rg : RG} {tt : TT} {rt : RT} {tk tv : TE} {rk rv : RE} {vs js : List Nat} {fin : List (Key × D) → Mu → Prop} {σ : L2.St} {δ : Sl} {μ : Mu} {G H : Hp} {Dl : Addr} {Qd : Hp → Prop}
    (hg : OkG K g rg js) (ht : OkT K tt rt) (hk : OkE K tk rk) (he : OkE K tv rv) (hj : js.all (fun i => decide (i ∈ vs)) = true) (S : SlOk K G σ δ) (w : Wd K G H μ) (io : ItOk K G J it) (hD : H Dl = none) (q : @rDcW it rg rt rk rv vs δ μ fin)
    (b : ∀ acc μ' G' H' xs, fin acc μ' → Wd K G' H' μ' → Go μ G H μ' G' (fun a => if a = Dl then none else H' a) → H' Dl = some (.dK xs) → G' Dl = none → μ' Dl = none → RepT K G' xs acc → Qd H') :
    ∃ W : Nat → Nat → Hp → Prop, (∃ m, W 0 m (upd H Dl (.dK []))) ∧ ∀ i m H1, W i m H1 →
      (J.stop i H1 ∧ Qd H1) ∨ (J.go i H1 ∧ ∃ Nx : Hp → Prop, (∀ H', Nx H' → ∃ m', m' < m ∧ W (i + 1) m' H') ∧ ∀ x H', J.yld i H1 x H' → g x (L2.wipe σ vs) H' fun σ2 H2 => L2.wipe σ2 vs = L2.wipe σ vs ∧ tt σ2 H2 fun b H3 =>
        if b = true then tk σ2 H3 fun y H4 => tv σ2 H4 fun z H5 => ∃ kvs k, y = kV k ∧ H5 Dl = some (.dK kvs) ∧ kvs.length < sizeLine ∧ Nx (upd H5 Dl (.dK (putK kvs k z))) else Nx H3) := by
  obtain ⟨hn, Inv, i0, iok, istep, iend⟩ := q
  have gD : G Dl = none := w.gnone hD
  have mD : μ Dl = none := w.mnone hD
  have wD : Wd K G (upd H Dl (.dK [])) μ := ⟨fun a o e => by rw [upd_ne (ne_of_none (w.ex _ _ e) hD)]; exact w.ex _ _ e, fun p ds e => by
    obtain ⟨a1, vs', a2, a3⟩ := w.mu p ds e
    exact ⟨a1, vs', by rw [upd_ne (ne_of_none a2 hD)]; exact a2, a3⟩⟩
  refine ⟨fun i m H1 => m = it.n - i ∧ i ≤ it.n ∧ ∃ acc μ1 G1 xs, Inv i acc μ1 ∧ Wd K G1 H1 μ1 ∧ Go μ G (upd H Dl (.dK [])) μ1 G1 (fun a => if a = Dl then some (.dK []) else H1 a) ∧ H1 Dl = some (.dK xs) ∧ G1 Dl = none ∧ μ1 Dl = none ∧ RepT K G1 xs acc ∧ acc.length ≤ i,
    ⟨it.n, rfl, Nat.zero_le _, [], μ, G, [], i0, wD, ?_, upd_same, gD, mD, .nil, Nat.le_refl _⟩, ?_⟩
  · have e : (fun a => if a = Dl then some (HO.dK []) else upd H Dl (.dK []) a) = upd H Dl (.dK []) := by
      funext a
      by_cases h : a = Dl
      · simp only [h, if_true]; rw [upd_same]
      · simp only [h, if_false]
    rw [e]
    exact Go.refl _ _ _
  · rintro i m H1 ⟨hm, hi, acc, μ1, G1, xs, hI, w1, g1, hx, gx, mx, rl, la⟩
    have e1 : Ex G G1 := g1.eg
    obtain ⟨hstop, hgo⟩ := io i μ1 G1 H1 e1 w1 (iok i acc μ1 hI)
    by_cases hin : i = it.n
    · refine .inl ⟨hstop hin.symm, b acc μ1 G1 H1 xs (iend acc μ1 (hin ▸ hI)) w1 ⟨e1, fun a o e hm => ?_, fun a e => ?_, fun a e => ?_⟩ hx gx mx rl⟩
      · have hne : a ≠ Dl := ne_of_none e hD
        have := g1.kp a o (by rw [upd_ne hne]; exact e) hm
        simp only [hne, if_false] at this ⊢
        exact this
      · rcases g1.dm a e with z | z
        · exact .inl z
        · by_cases hne : a = Dl
          · subst hne; exact .inr hD
          · rw [upd_ne hne] at z; exact .inr z
      · rcases g1.gf a e with z | z | z | ⟨ts, z⟩
        · exact .inl z
        · exact .inr (.inl z)
        · by_cases hne : a = Dl
          · subst hne; exact .inr (.inr (.inl hD))
          · rw [upd_ne hne] at z; exact .inr (.inr (.inl z))
        · by_cases hne : a = Dl
          · subst hne; exact .inr (.inr (.inl hD))
          · rw [upd_ne hne] at z; exact .inr (.inr (.inr ⟨ts, z⟩))
    · have hlt : i < it.n := Nat.lt_of_le_of_ne hi hin
      obtain ⟨hgo, hy⟩ := hgo hlt
      refine .inr ⟨hgo, fun H' => ∃ acc' μ' G' xs', Inv (i + 1) acc' μ' ∧ Wd K G' H' μ' ∧ Go μ G (upd H Dl (.dK [])) μ' G' (fun a => if a = Dl then some (.dK []) else H' a) ∧ H' Dl = some (.dK xs') ∧ G' Dl = none ∧ μ' Dl = none ∧ RepT K G' xs' acc' ∧ acc'.length ≤ i + 1,
        fun H' hN => ⟨it.n - (i + 1), by omega, rfl, hlt, hN⟩, fun x H' hyl => ?_⟩
      obtain ⟨d, G2, ed, w2, g2, rd⟩ := hy x H' hyl
      have S1 : SlOk K G2 (L2.wipe σ vs) (wipeD δ vs) := (S.mono (e1.trans g2.eg)).wipe vs
      have keepD : ∀ {μa μb : Mu} {Ga Gb Ha Hb : Hp} {xs : List (Key × V)}, Go μa Ga Ha μb Gb Hb → Ha Dl = some (.dK xs) → Ga Dl = none → μa Dl = none → Hb Dl = some (.dK xs) ∧ Gb Dl = none ∧ μb Dl = none := fun g h1 h2 h3 => by
        refine ⟨g.kp _ _ h1 h3, ?_, g.none_mu h1 h3⟩
        rename_i μa μb Ga Gb Ha Hb xs
        cases e : Gb Dl with
        | none => rfl
        | some o =>
          rcases g.gf Dl (by rw [e]; simp) with z | z | z | ⟨ts, z⟩
          · exact absurd h2 z
          · exact absurd h3 z
          · rw [h1] at z; cases z
          · rw [h1] at z; cases z
      have hide : ∀ {μa μb : Mu} {Ga Gb Ha Hb : Hp} {xs : List (Key × V)}, Go μa Ga Ha μb Gb Hb → Ha Dl = some (.dK xs) → Go μa Ga (fun a => if a = Dl then some (.dK []) else Ha a) μb Gb (fun a => if a = Dl then some (.dK []) else Hb a) := fun g h1 => by
        refine ⟨g.eg, fun a o e hm => ?_, fun a e => ?_, fun a e => ?_⟩
        · by_cases hne : a = Dl
          · simp only [hne, if_true] at e ⊢; exact e
          · simp only [hne, if_false] at e ⊢; exact g.kp a o e hm
        · rcases g.dm a e with z | z
          · exact .inl z
          · by_cases hne : a = Dl
            · rw [hne, h1] at z; cases z
            · right; simp only [hne, if_false]; exact z
        · rcases g.gf a e with z | z | z | ⟨ts, z⟩
          · exact .inl z
          · exact .inr (.inl z)
          · by_cases hne : a = Dl
            · rw [hne, h1] at z; cases z
            · right; right; left; simp only [hne, if_false]; exact z
          · by_cases hne : a = Dl
            · rw [hne, h1] at z; cases z
            · right; right; right; refine ⟨ts, ?_⟩; simp only [hne, if_false]; exact z
      obtain ⟨hx2, gx2, mx2⟩ := keepD g2 hx gx mx
      have g12 := g1.trans (hide g2 hx)
      refine hg x d (L2.wipe σ vs) (wipeD δ vs) μ1 G2 H' _ _ S1 w2 rd (istep i acc μ1 d hlt ed hI) fun σ2 δ2 μ3 G3 H3 q3 S3 w3 g3 l3 => ⟨?_, ?_⟩
      · rw [← wipe_wipe σ vs]
        refine wipe_of l3.1 fun j hjv => l3.2 j fun z => hjv ?_
        have := List.all_eq_true.mp hj j z
        exact of_decide_eq_true this
      · obtain ⟨hx3, gx3, mx3⟩ := keepD g3 hx2 gx2 mx2
        refine ht σ2 δ2 μ3 G3 H3 _ _ S3 w3 q3 fun c μ4 G4 H4 q4 w4 g4 => ?_
        obtain ⟨hx4, gx4, mx4⟩ := keepD g4 hx3 gx3 mx3
        have g14 := (g12.trans (hide g3 hx2)).trans (hide g4 hx3)
        cases c with
        | true =>
          refine hk σ2 δ2 μ4 G4 H4 _ _ (S3.mono g4.eg) w4 q4 fun vk dk μ5 G5 H5 q5 w5 g5 r5 => ?_
          obtain ⟨hx5, gx5, mx5⟩ := keepD g5 hx4 gx4 mx4
          have g15 := g14.trans (hide g5 hx4)
          refine he σ2 δ2 μ5 G5 H5 _ _ ((S3.mono g4.eg).mono g5.eg) w5 q5 fun v y μ6 G6 H6 ⟨kk, ekk, q6⟩ w6 g6 r6 => ?_
          obtain ⟨hx6, gx6, mx6⟩ := keepD g6 hx5 gx5 mx5
          have g16 := g15.trans (hide g6 hx5)
          have rl6 := rl.mono (g2.eg.trans (g3.eg.trans (g4.eg.trans (g5.eg.trans g6.eg))))
          refine ⟨xs, kk, keyD_out r5 ekk, hx6, sz_lt (by rw [rl.length]; omega), putG acc kk y, μ6, G6, putK xs kk v, q6, ⟨fun a o e => ?_, fun p ds e => ?_⟩, ?_, upd_same, gx6, mx6, rl6.put kk r6, by have := putG_len acc kk y; omega⟩
          · have hne : a ≠ Dl := ne_of_none e gx6
            rw [upd_ne hne]; exact w6.ex _ _ e
          · obtain ⟨a1, vs', a2, a3⟩ := w6.mu p ds e
            have hne : p ≠ Dl := fun z => by subst z; rw [mx6] at e; cases e
            exact ⟨a1, vs', by rw [upd_ne hne]; exact a2, a3⟩
          · have e : (fun a => if a = Dl then some (HO.dK []) else upd H6 Dl (.dK (putK xs kk v)) a) = (fun a => if a = Dl then some (HO.dK []) else H6 a) := by
              funext a
              by_cases h : a = Dl
              · simp only [h, if_true]
              · simp only [h, if_false]; rw [upd_ne h]
            rw [e]
            exact g16
        | false =>
          exact ⟨acc, μ4, G4, xs, q4, w4, g14, hx4, gx4, mx4, rl.mono (g2.eg.trans (g3.eg.trans g4.eg)), by omega⟩
theorem okE_dc {wi : TI} {ri : RI} {g : TG} {rg : RG} {tt : TT} {rt : RT} {tk tv : TE} {rk rv : RE} {vs js : List Nat} (hi : OkI K wi ri) (hg : OkG K g rg js) (ht : OkT K tt rt) (hk : OkE K tk rk) (he : OkE K tv rv) (hj : js.all (fun i => decide (i ∈ vs)) = true) :
    OkE K (tDc wi g tt tk tv vs) (rDc ri rg rt rk rv vs) := fun σ δ μ G H k Q S w q b =>
  hi σ δ μ G H _ _ S w q fun J it μ1 G1 H1 q1 w1 g1 io Dl hD => dc_run hg ht hk he hj (S.mono g1.eg) w1 io hD q1 fun acc μ' G' H' xs fn w' g' hx gx mx rl => by
    have rp : Rep K (upd G' Dl (.dK xs)) (.ref Dl) (.dk (acc.map (·.1)) (acc.map (·.2))) := RepC.rep (c := .k acc) gx (.k rl.ks rl.vs) rfl
    refine b _ _ μ' (upd G' Dl (.dK xs)) H' fn ⟨fun a o e => ?_, fun p ds e => ?_⟩ ⟨g1.eg.trans (g'.eg.trans (Ex.new gx)), fun a o e hm => ?_, fun a e => ?_, fun a e => ?_⟩ rp
    · by_cases hne : a = Dl
      · subst hne; rw [upd_same] at e; rw [← e]; exact hx
      · rw [upd_ne hne] at e; exact w'.ex _ _ e
    · obtain ⟨a1, vs', a2, a3⟩ := w'.mu p ds e
      have hne : p ≠ Dl := fun z => by subst z; rw [mx] at e; cases e
      exact ⟨by rw [upd_ne hne]; exact a1, vs', a2, a3.mono (Ex.new gx)⟩
    · have e1 := (g1.trans g').kp a o e hm
      have hne : a ≠ Dl := fun z => by subst z; simp at e1
      simp only [hne, if_false] at e1
      exact e1
    · exact (g1.trans g').dm a e
    · by_cases hne : a = Dl
      · subst hne
        rcases g1.back hD with z | z
        · exact .inr (.inl z)
        · exact .inr (.inr (.inl z))
      · rw [upd_ne hne] at e; exact (g1.trans g').gf a e
theorem okE_dcO {wi : TI} {ri : RI} {g : TG} {rg : RG} {tt : TT} {rt : RT} {tk tv : TE} {rk rv : RE} {vs js : List Nat} (hi : OkI K wi ri) (hg : OkG K g rg js) (ht : OkT K tt rt) (hk : OkE K tk rk) (he : OkE K tv rv) (hj : js.all (fun i => decide (i ∈ vs)) = true) :
    OkE K (tDc wi g tt tk tv vs) (rDcO ri rg rt rk rv vs) := fun σ δ μ G H k Q S w q b =>
  hi σ δ μ G H _ _ S w q fun J it μ1 G1 H1 q1 w1 g1 io Dl hD => dc_run hg ht hk he hj (S.mono g1.eg) w1 io hD q1 fun acc μ' G' H' xs fn w' g' hx gx mx rl => by
    refine b _ _ (muSet μ' Dl (.k acc)) G' H' (fn Dl mx) ⟨w'.ex, fun p ds e => ?_⟩ ⟨g1.eg.trans g'.eg, fun a o e hm => ?_, fun a e => ?_, fun a e => (g1.trans g').gf a e⟩ (.own Dl)
    · by_cases hne : p = Dl
      · subst hne; rw [muSet_same] at e; cases e; exact ⟨gx, .dK xs, hx, .k rl.ks rl.vs⟩
      · rw [muSet_ne hne] at e; exact w'.mu p ds e
    · have e1 := (g1.trans g').kp a o e hm
      have hne : a ≠ Dl := fun z => by subst z; simp at e1
      simp only [hne, if_false] at e1
      exact e1
    · by_cases hne : a = Dl
      · subst hne
        exact g1.back hD
      · rw [muSet_ne hne] at e; exact (g1.trans g').dm a e
end
end DL


set_option Elab.async false
set_option linter.all false
set_option maxRecDepth 100000
set_option maxHeartbeats 4000000
/-! DLq: dicts: a name for a comprehension, update, sorted; ranges with a step; laws for comprehensions of dicts. -/
namespace DL
open PySem PySem.Spec PyProof.Rows L2 SlX
section
variable {X : Cx}
theorem swd_true {kx vx : Expr} {gs : List Comprehension} {scope : Scope} {pos py : Pos} {y : Str} {l : Nat} {env : Env} (hk : env.scope.kind = .function) (hy : env.scope.names.lookup y = some .local) (hl : (py.line == pos.line) = true)
    (ha : (scope.names.any fun (n, k) => n == y && (k == .local || k == .cell)) = false) : swapsWith (.DictComp kx vx gs scope pos) (some (.Name y py)) l env = pure true := by
  have ky : env.kindOf y = some .local := hy
  have hb : env.blockKind = .function := by unfold Env.blockKind; rw [hk]; rfl
  unfold swapsWith
  simp only [hb, ky, ha, Expr.pos, hl]
  rfl
theorem ps_setDc {i : Nat} {y : Str} {py : Pos} {kx vx tg iter : Expr} {ifs : List Expr} {scope : Scope} {own : List (Str × Nat)} {pos spos : Pos} {wi : TI} {g : TG} {tt : TT} {tk tv : TE} (hc : X.calm = true) (hN : X.N.Nodup) (hy : X.N[i]? = some y) (hyl : X.env.scope.names.lookup y = some .local)
    (hsw : swapsWith (.DictComp kx vx [⟨tg, iter, ifs, 0⟩] scope pos) (some (.Name y py)) spos.line X.env = pure true) (hi : PI X tg iter wi) (ok : BlkOk X.N X.env.scope scope own)
    (hg : ∀ (s : Shared) (H : Hp) (C : Addr) (cl : List (Str × Addr)) (fp : List Addr), PG (X.blk s H scope (compEnvC scope cl C X.env) fp) tg g) (ht : ∀ (s : Shared) (H : Hp) (C : Addr) (cl : List (Str × Addr)) (fp : List Addr), PTs (X.blk s H scope (compEnvC scope cl C X.env) fp) ifs tt)
    (hk : ∀ (s : Shared) (H : Hp) (C : Addr) (cl : List (Str × Addr)) (fp : List Addr), PE (X.blk s H scope (compEnvC scope cl C X.env) fp) kx tk)
    (he : ∀ (s : Shared) (H : Hp) (C : Addr) (cl : List (Str × Addr)) (fp : List Addr), PE (X.blk s H scope (compEnvC scope cl C X.env) fp) vx tv) (hs : ∀ x, foldedSetIterable iter X.env x = pure x := by intro _; rfl) :
    PS X (.Assign [.Name y py] (.DictComp kx vx [⟨tg, iter, ifs, 0⟩] scope pos) spos) (tAsg (tDc wi g tt tk tv (own.map (·.2))) (gName i)) := by
  refine ⟨fun pins s σ H D I h => ?_⟩
  rw [exec_Assign_Name_used _ _ _ _ hsw]
  refine wpAny_bind (wpAny_standAt (wpAny_bind ?_))
  have h : tDc wi g tt tk tv (own.map (·.2)) σ H (fun x H1 => gName i x σ H1 D.nx) := h
  refine wpAny_bind (thn (dc_core (Qf := fun _ s' => SP X pins D .next s') hc hN I hi ok hg ht hk he hs h fun L C s' m H' I' q hn f => ?_) fun _ s' hq => wpAny_pure (wpAny_pure hq))
  show wpAny _ _ (assign (.Name y py) X.env (.ref L)) _ _ _
  refine wpAny_assign_Name (store_ok2 (v := V.ref L) I' hN hy (.inl hyl) rfl (fun s2 I2 ⟨a, sb, ha⟩ => ?_) (.inr hyl))
  obtain ⟨f0, f1, f2, f3, f4, f5⟩ := f
  have haC : C ≠ a := by
    rcases ha with z | z
    · rw [z]; exact f1
    · exact fun e => f4 y a z e.symm
  refine ⟨m, hn.sameBut sb haC, fun h3 sb3 => ?_⟩
  exact ⟨_, H', I2.turned (t' := s2.toks) (fun b o hb e => (sb3.2 b hb).trans e) f0 f1 f3 f4 f5, q⟩
end
/-! ### d.update(e), e another dict -/
theorem KV.merge {κ : Type} [DecidableEq κ] {more : List (κ × V)} {ws : List (κ × Value)} (s : KV more ws) : ∀ {kvs : List (κ × V)} {vs : List (κ × Value)}, KV kvs vs → KV (mergeG kvs more) (merged vs ws) := by
  unfold KV at s
  induction s with
  | nil => intro kvs vs r; exact r
  | @cons p q ps qs h t ih =>
    intro kvs vs r
    have r1 := L2.KV.put r p.1 h.2
    rw [putV_eq] at r1
    show KV (mergeG (putG kvs p.1 p.2) ps) (merged (stored vs q.1 q.2) qs)
    rw [← h.1]
    exact ih r1
def rUpdK : V → List V → Hp → VK → Prop := fun x xs H Q => ∃ (a b : Addr) (kvs more : List (Key × V)), x = .ref a ∧ xs = [.ref b] ∧ a ≠ b ∧ H a = some (.dK kvs) ∧ H b = some (.dK more) ∧ kvs.length + more.length ≤ sizeLine ∧ Q .non (upd H a (.dK (mergeG kvs more)))
theorem mt_updK {X : Cx} : MtR X "dict.update" rUpdK := by
  intro pins s σ H x xs v us Q I rx rxs h
  obtain ⟨a, b, kvs, more, rfl, rfl, hne, ha, hb, hz, q⟩ := h
  cases rx
  obtain ⟨u1, rfl, r1⟩ := vals1 rxs
  cases r1
  obtain ⟨z, hd, vs, rel, dd⟩ := dk_of I.hok ha
  obtain ⟨z2, hd2, ws, rel2, dd2⟩ := dk_of I.hok hb
  have l1 : vs.length = kvs.length := by have := congrArg List.length rel.keys; simpa using this.symm
  have l2 : ws.length = more.length := by have := congrArg List.length rel2.keys; simpa using this.symm
  refine call_meetsIn PySem.F.slot_dict_update dd.typeIs PySem.F.entry_dict_update (PySem.F.args_dict_update_2 _ _) (meets_dict_update (mixKind X.prog X.w) a b hne hd2) ⟨vs, ws, dd, dd2, by omega, fun h' dd' _ hs => ?_⟩
  have he : ∃ q, h'.get? a = some q := let ⟨q, _, _, hq, _⟩ := dd'; ⟨q, hq⟩
  have hl : (mergeG kvs more).length ≤ sizeLine := by have := mergeG_len more kvs; omega
  exact ⟨.non, _, d_write I (by rw [ha]; exact True.intro) hs he (dk_new hl hd (KV.merge rel2 rel) dd'), rfl, q⟩
section
variable (K : PySem.W.Frag) {X : Cx}
theorem ke_updK {o e : Expr} {apos cpos : Pos} {to : TE} {t : TA} (ho : PE X o to) (ha : PA X [e] t) (hK : X.K = K := by rfl)
    (hbase : attributeBase o "update" X.env (eval o X.env) = eval o X.env := by rfl)
    (hfew : ((backTo cpos (starEach [e] X.env)).all (fun x => !x.1) && (backToKw cpos (keywordEach [] X.env)).all (fun x => x.1.isSome) && decide ([e].length + ([] : List Keyword).length + (if ([] : List Keyword).isEmpty then 0 else 1) < 30)) = true := by rfl)
    (hline : (apos.endLine == cpos.line) = true := by rfl) (hs : starEach [e] X.env = (false, eval e X.env) :: starEach [] X.env := by rfl) (hplain : (backTo cpos (starEach [] X.env)).any (·.1) = false := by rfl) :
    PE X (.Call (.Attribute o "update" apos) [e] [] cpos) (tBM K "dict" rUpdK to t) := by
  subst hK; exact pe_bm PySem.F.plainAttrs_dict PySem.F.slot_dict_update PySem.F.type_dict_update mt_updK ho ha hbase hfew hline hs hplain
theorem kc_sortedK (hc : X.calm = true := by rfl) (hK : X.K = K := by rfl) : CallR X (.builtin "sorted") (fun xs H Q => ∃ (a : Addr) (kvs : List (Key × V)) (ks : List Int), xs = [.ref a] ∧ L2.Rd H a (.dK kvs) ∧ kvs.map (·.1) = ks.map Sum.inl ∧ ks.length < 64 ∧
    ∀ (ys : List Int) (p : Addr), ys.Perm ks → ys.Pairwise (· ≤ ·) → H p = none → Q (.ref p) (upd H p (.lst (ys.map V.int)))) := call_sortedDI hc
theorem kc_sorted (hK : X.K = K := by rfl) : CallR X (.builtin "sorted") (rSorted K) := by subst hK; exact cr_sorted
end
theorem kr_range3 {X : Cx} {tg a b c : Expr} {ta : TA} {p pos : Pos} {mg : Str → Option Value} (hm : mg "range" = none) (ha : PA X [a, b, c] ta) (hg : Gl X "range" := by rfl) (hmg : X.mg = mg := by rfl) (hs : starEach [a, b, c] X.env = (false, eval a X.env) :: starEach [b, c] X.env := by rfl) (hpl : (backTo pos (starEach [b, c] X.env)).any (·.1) = false := by rfl) : PI X tg (.Call (.Name "range" p) [a, b, c] [] pos) (iRng3 ta) := by
  subst hmg; exact pi_range3 hg hm ha hs hpl
section
variable {K : PySem.W.Frag}
/-- d.update(e), e a dict that does not change -/
@[simp] def rUpd (ro re : RE) : RE := fun δ μ k => ro δ μ fun o μ1 => match o with
  | .own p => (∃ kvs, μ1 p = some (.k kvs)) ∧ re δ μ1 fun d μ2 => match d with
    | .dk ks ds => ∃ kvs, μ2 p = some (.k kvs) ∧ kvs.length + ks.length ≤ 1000000 ∧ k .non (muSet μ2 p (.k (mergeG kvs (ks.zip ds))))
    | _ => False
  | _ => False
theorem own_tyK {μ : Mu} {G H : Hp} {p : Addr} (w : Wd K G H μ) (h : ∃ kvs, μ p = some (.k kvs)) : tyV K "dict" (.ref p) H := by
  obtain ⟨kvs, e2⟩ := h
  obtain ⟨_, vs, h, _⟩ := w.muK p kvs e2
  exact .inr (.inr (.inl ⟨rfl, .inl ⟨_, h⟩⟩))
theorem okE_upd {to te : TE} {ro re : RE} (ho : OkE K to ro) (he : OkE K te re) : OkE K (tBM K "dict" rUpdK to (tCons te tNil)) (rUpd ro re) := fun σ δ μ G H k Q S w q b =>
  ho σ δ μ G H _ _ S w q fun x o μ1 G1 H1 q1 w1 g1 r1 => by
    cases r1 with
    | own p =>
      obtain ⟨hp, q1⟩ := q1
      refine ⟨own_tyK w1 hp, he σ δ μ1 G1 H1 _ _ (S.mono g1.eg) w1 q1 fun v d μ2 G2 H2 q2 w2 g2 r2 => ?_⟩
      cases r2 with
      | @dk a ks vs ds h hl rd =>
        obtain ⟨kvs, e, hz, q3⟩ := q2
        obtain ⟨gp, ws, hw, e1, rw⟩ := w2.muK p kvs e
        have rt : RepT K G2 ws kvs := ⟨e1, rw⟩
        have rm : RepT K G2 (ks.zip vs) (ks.zip ds) := RepT.back (by rw [List.map_fst_zip (by omega)]) (by rw [List.map_snd_zip (by omega)]; exact rd)
        have hne : p ≠ a := fun z => by subst z; rw [gp] at h; cases h
        have rr := rm.merge rt
        refine ⟨p, a, ws, ks.zip vs, rfl, rfl, hne, hw, w2.ex _ _ h, sz_of (by rw [rt.length, List.length_zip]; omega), b _ _ _ G2 _ q3 (w2.wrC (o := .dK (mergeG ws (ks.zip vs))) e (.k rr.ks rr.vs)) ((g1.trans g2).trans (Go.wrC e)) .non⟩
      | _ => exact q2.elim
    | _ => exact q1.elim
-- sorted(d), its keys ints
set_option checkBinderAnnotations false in
def hSortK (xs : List D) (μ : Mu) [k : DK] : Prop := match xs with | [x] => ∃ (kvs : List (Key × D)) (ks : List Int), asK μ x = some kvs ∧ kvs.map (·.1) = ks.map Sum.inl ∧ ks.length < 64 ∧ ∀ ys : List Int, ys.Perm ks → ys.Pairwise (· ≤ ·) → k (.lst (ys.map D.int)) μ | _ => False
@[simp] def oSortK : FL := fun xs μ k => @hSortK xs μ k
theorem okSortK : OkC K (fun xs H Q => ∃ (a : Addr) (kvs : List (Key × V)) (ks : List Int), xs = [.ref a] ∧ L2.Rd H a (.dK kvs) ∧ kvs.map (·.1) = ks.map Sum.inl ∧ ks.length < 64 ∧
    ∀ (ys : List Int) (p : Addr), ys.Perm ks → ys.Pairwise (· ≤ ·) → H p = none → Q (.ref p) (upd H p (.lst (ys.map V.int)))) oSortK := fun xs as μ G H k Q w r q t => by
  unfold oSortK hSortK at q
  split at q
  · obtain ⟨kvs, ks, e, e1, hl, q⟩ := q
    obtain ⟨v, rfl, rx⟩ := one_arg r
    obtain ⟨a, vs, rfl, h, rt⟩ := asK_out w rx e
    exact ⟨a, vs, ks, rfl, .inl h, rt.ks.trans e1, hl, fun ys p h1 h2 hp => mkLst w (RepL.of_ints ys) (q ys h1 h2) t p hp⟩
  · exact q.elim
-- sorted(xs), whole numbers
set_option checkBinderAnnotations false in
def hSortI (xs : List D) (μ : Mu) [k : DK] : Prop := match xs with | [x] => ∃ ks : List Int, asL μ x = some (ks.map D.int) ∧ ks.length < 64 ∧ ∀ ys : List Int, ys.Perm ks → ys.Pairwise (· ≤ ·) → k (.lst (ys.map D.int)) μ | _ => False
@[simp] def oSortI : FL := fun xs μ k => @hSortI xs μ k
theorem okSortI : OkC K (rSorted K) oSortI := fun xs as μ G H k Q w r q t => by
  unfold oSortI hSortI at q
  split at q
  · obtain ⟨ks, e, hl, q⟩ := q
    obtain ⟨v, rfl, rx⟩ := one_arg r
    obtain ⟨a, rfl, h⟩ := asI_out w rx e
    exact ⟨a, ks, rfl, SqL.of h, hl, fun ys p h1 h2 hp => mkLst w (RepL.of_ints ys) (q ys h1 h2) t p hp⟩
  · exact q.elim
end
theorem units1 {a : Nat} (h : a + 64 < cLine) : a + 1 < cLine := by omega
/-! ### laws -/
/-- each element alone, nothing changes: kept by p, with the key kk, the value g -/
theorem dcW_inv {it : DIt} {rg : RG} {rt : RT} {rk rv : RE} {vs : List Nat} {δ : Sl} {μ : Mu} {fin : List (Key × D) → Mu → Prop} {α : Type} (xs : List α) (e : α → D) (s : Src it μ (xs.map e)) (hn : xs.length ≤ 1000000)
    (Inv : Nat → List (Key × D) → Mu → Prop) (h0 : Inv 0 [] μ) (hok : ∀ i acc μ', Inv i acc μ' → it.ok μ')
    (step : ∀ i x acc μ', xs[i]? = some x → Inv i acc μ' → rg (e x) (wipeD δ vs) μ' fun δ2 μ2 => rt δ2 μ2 fun b μ3 => if b = true then rk δ2 μ3 fun y μ4 => rv δ2 μ4 fun z μ5 => ∃ k, keyD y = some k ∧ Inv (i + 1) (putG acc k z) μ5 else Inv (i + 1) acc μ3)
    (h : ∀ acc μ', Inv xs.length acc μ' → fin acc μ') : @rDcW it rg rt rk rv vs δ μ fin := by
  have hl : it.n = xs.length := by rw [s.len, List.length_map]
  refine ⟨by rw [hl]; exact hn, Inv, h0, hok, fun i acc μ' d hi hd q => ?_, fun acc μ' q => h acc μ' (hl ▸ q)⟩
  obtain ⟨x, hx, rfl⟩ := s.get hi hd
  exact step i x acc μ' hx q
theorem dcW_filt {it : DIt} {rg : RG} {rt : RT} {rk rv : RE} {vs : List Nat} {δ : Sl} {μ : Mu} {fin : List (Key × D) → Mu → Prop} {α : Type} (xs : List α) (e : α → D) (kk : α → Key) (g : α → D) (p : α → Bool) (s : Src it μ (xs.map e)) (hn : xs.length ≤ 1000000)
    (step : ∀ x ∈ xs, ∀ (kt : Key → DK) (kf : Mu → Prop), (p x = true → kt (kk x) (g x) μ) → (p x = false → kf μ) → rg (e x) (wipeD δ vs) μ fun δ2 μ2 => rt δ2 μ2 fun b μ3 => if b = true then rk δ2 μ3 fun y μ4 => rv δ2 μ4 fun z μ5 => ∃ k, keyD y = some k ∧ kt k z μ5 else kf μ3)
    (h : fin ((xs.filter p).foldl (fun acc x => putG acc (kk x) (g x)) []) μ) : @rDcW it rg rt rk rv vs δ μ fin := by
  refine dcW_inv xs e s hn (fun i acc μ' => μ' = μ ∧ acc = ((xs.take i).filter p).foldl (fun acc x => putG acc (kk x) (g x)) []) ⟨rfl, by simp⟩ (fun i acc μ' q => q.1 ▸ s.ok) (fun i x acc μ' hx q => ?_) (fun acc μ' q => ?_)
  · obtain ⟨rfl, rfl⟩ := q
    refine step x (List.mem_of_getElem? hx) (fun k z μ5 => μ5 = μ' ∧ putG _ k z = _) _ (fun hp => ⟨rfl, ?_⟩) (fun hp => ⟨rfl, ?_⟩)
    · rw [take_succ_of hx, List.filter_append, List.foldl_append]; simp [hp]
    · rw [take_succ_of hx, List.filter_append, List.foldl_append]; simp [hp]
  · obtain ⟨rfl, rfl⟩ := q
    rw [List.take_length]
    exact h
/-- new keys only: the entries one by one -/
theorem putG_new {κ α : Type} [DecidableEq κ] {kvs : List (κ × α)} {k : κ} (v : α) (h : ∀ kv ∈ kvs, kv.1 ≠ k) : putG kvs k v = kvs ++ [(k, v)] := by
  unfold putG
  rw [if_neg]
  rw [List.any_eq_true]
  rintro ⟨kv, hkv, e⟩
  exact h kv hkv (of_decide_eq_true e)
theorem fold_new {κ α β : Type} [DecidableEq κ] {kk : β → κ} {g : β → α} : ∀ {xs : List β} {kvs : List (κ × α)}, (xs.map kk).Nodup → (∀ x ∈ xs, ∀ kv ∈ kvs, kv.1 ≠ kk x) → xs.foldl (fun acc x => putG acc (kk x) (g x)) kvs = kvs ++ xs.map fun x => (kk x, g x)
  | [], kvs, _, _ => by simp
  | x :: xs, kvs, hn, hd => by
    rw [List.foldl_cons, putG_new _ (hd x (by simp))]
    have hn' := List.nodup_cons.mp (by simpa using hn : (kk x :: xs.map kk).Nodup)
    rw [fold_new (kvs := kvs ++ [(kk x, g x)]) hn'.2 (fun y hy kv hkv => ?_)]
    · simp
    · rcases List.mem_append.mp hkv with hkv | hkv
      · exact hd y (List.mem_cons_of_mem _ hy) kv hkv
      · rw [List.mem_singleton] at hkv
        subst hkv
        intro e
        exact hn'.1 (by rw [show kk x = kk y from e]; exact List.mem_map_of_mem hy)
section
variable {κ α : Type} [DecidableEq κ]
theorem getG_some {kvs : List (κ × α)} {k : κ} : (getG kvs k).isSome = true ↔ k ∈ kvs.map (·.1) := by
  unfold getG
  rw [Option.isSome_map, List.find?_isSome]
  simp
theorem putG_keys {kvs : List (κ × α)} {k : κ} {v : α} {x : κ} : x ∈ (putG kvs k v).map (·.1) ↔ x ∈ kvs.map (·.1) ∨ x = k := by
  unfold putG
  split
  · rename_i h
    have e : (kvs.map fun kv => if kv.1 = k then (kv.1, v) else kv).map (·.1) = kvs.map (·.1) := by
      rw [List.map_map]
      refine List.map_congr_left fun kv _ => ?_
      simp only [Function.comp_def]
      split <;> rfl
    rw [e]
    constructor
    · exact .inl
    · rintro (q | rfl)
      · exact q
      · obtain ⟨kv, h1, h2⟩ := List.any_eq_true.mp h
        exact List.mem_map.mpr ⟨kv, h1, of_decide_eq_true h2⟩
  · simp
theorem putG_nodup {kvs : List (κ × α)} {k : κ} {v : α} (h : (kvs.map (·.1)).Nodup) : ((putG kvs k v).map (·.1)).Nodup := by
  unfold putG
  split
  · have e : (kvs.map fun kv => if kv.1 = k then (kv.1, v) else kv).map (·.1) = kvs.map (·.1) := by
      rw [List.map_map]
      refine List.map_congr_left fun kv _ => ?_
      simp only [Function.comp_def]
      split <;> rfl
    rw [e]; exact h
  · rename_i hn
    rw [List.map_append, List.nodup_append]
    refine ⟨h, by simp, fun a ha b hb => ?_⟩
    have hb : b = k := by simpa using hb
    subst hb
    rintro rfl
    obtain ⟨kv, h1, h2⟩ := List.mem_map.mp ha
    exact hn (List.any_eq_true.mpr ⟨kv, h1, decide_eq_true h2⟩)
theorem mergeG_keys {more : List (κ × α)} : ∀ {kvs : List (κ × α)} {x : κ}, x ∈ (mergeG kvs more).map (·.1) ↔ x ∈ kvs.map (·.1) ∨ x ∈ more.map (·.1) := by
  induction more with
  | nil => intro kvs x; simp [mergeG]
  | cons m more ih =>
    intro kvs x
    have e : mergeG kvs (m :: more) = mergeG (putG kvs m.1 m.2) more := rfl
    rw [e, ih, putG_keys, List.map_cons, List.mem_cons]
    constructor
    · rintro ((a | b) | c)
      · exact .inl a
      · exact .inr (.inl b)
      · exact .inr (.inr c)
    · rintro (a | b | c)
      · exact .inl (.inl a)
      · exact .inl (.inr b)
      · exact .inr c
theorem mergeG_nodup {more : List (κ × α)} : ∀ {kvs : List (κ × α)}, (kvs.map (·.1)).Nodup → ((mergeG kvs more).map (·.1)).Nodup := by
  induction more with
  | nil => intro kvs h; exact h
  | cons m more ih => intro kvs h; exact ih (putG_nodup h)
theorem fold_merge {β : Type} {kk : β → κ} {g : β → α} : ∀ {xs : List β} {kvs : List (κ × α)}, xs.foldl (fun acc x => putG acc (kk x) (g x)) kvs = mergeG kvs (xs.map fun x => (kk x, g x))
  | [], _ => rfl
  | x :: xs, kvs => by
    rw [List.foldl_cons, fold_merge (xs := xs)]; rfl
end
theorem cast_sorted {ks : List Nat} {ys : List Int} (hk : ks.Pairwise (· < ·)) (hp : ys.Perm (ks.map fun a : Nat => (a : Int))) (hs : ys.Pairwise (· ≤ ·)) : ys = ks.map fun a : Nat => (a : Int) := by
  refine List.Perm.eq_of_pairwise (le := fun a b : Int => a ≤ b) (fun a b _ _ h1 h2 => by omega) hs ?_ hp
  rw [List.pairwise_map]
  exact hk.imp (fun h => by omega)
theorem lt_nodup {ks : List Nat} (hk : ks.Pairwise (· < ·)) : ks.Nodup := hk.imp (fun h => by omega)
/-- sorted(d), its keys just these numbers -/
theorem sorted_of {kvs : List (Key × D)} {kept : List Nat} (hn : (kvs.map (·.1)).Nodup) (hk : kept.Pairwise (· < ·)) (hm : ∀ x : Key, x ∈ kvs.map (·.1) ↔ ∃ a : Nat, x = .inl (a : Int) ∧ a ∈ kept) :
    ∃ ks : List Int, kvs.map (·.1) = ks.map Sum.inl ∧ ks.length = kept.length ∧ ∀ ys : List Int, ys.Perm ks → ys.Pairwise (· ≤ ·) → ys = kept.map fun a : Nat => (a : Int) := by
  obtain ⟨toI, htoI⟩ : ∃ toI : Key → Int, ∀ i, toI (.inl i) = i := ⟨fun k => match k with | .inl i => i | .inr _ => 0, fun _ => rfl⟩
  have h1 : kvs.map (·.1) = ((kvs.map (·.1)).map toI).map Sum.inl := by
    rw [List.map_map]
    conv => lhs; rw [← List.map_id (kvs.map (·.1))]
    refine List.map_congr_left fun x hx => ?_
    obtain ⟨a, rfl, _⟩ := (hm x).mp hx
    simp [htoI]
  have hp : (kvs.map (·.1)).Perm (kept.map fun a : Nat => (.inl (a : Int) : Key)) := by
    refine (List.perm_ext_iff_of_nodup hn ?_).mpr fun x => ?_
    · rw [List.nodup_iff_pairwise_ne, List.pairwise_map]
      exact hk.imp (fun {a b} h z => by have : (a : Int) = b := Sum.inl.inj z; omega)
    · rw [hm]
      constructor
      · rintro ⟨a, rfl, ha⟩; exact List.mem_map.mpr ⟨a, ha, rfl⟩
      · intro h; obtain ⟨a, ha, rfl⟩ := List.mem_map.mp h; exact ⟨a, rfl, ha⟩
  have hp2 : ((kvs.map (·.1)).map toI).Perm (kept.map fun a : Nat => (a : Int)) := by
    have := hp.map toI
    rw [List.map_map (l := kept)] at this
    refine this.trans ?_
    rw [show (toI ∘ fun a : Nat => (Sum.inl (a : Int) : Key)) = fun a : Nat => (a : Int) from by funext a; simp [htoI]]
  exact ⟨(kvs.map (·.1)).map toI, h1, by rw [hp2.length_eq, List.length_map], fun ys h2 h3 => cast_sorted hk (h2.trans hp2) h3⟩
/-- sorted(xs), just these numbers -/
theorem sorted_nats {S kept : List Nat} (hn : S.Nodup) (hk : kept.Pairwise (· < ·)) (hm : ∀ a, a ∈ S ↔ a ∈ kept) {ys : List Int} (hp : ys.Perm (S.map fun a : Nat => (a : Int))) (hs : ys.Pairwise (· ≤ ·)) : ys = kept.map fun a : Nat => (a : Int) :=
  cast_sorted hk (hp.trans (((List.perm_ext_iff_of_nodup hn (lt_nodup hk)).mpr hm).map _)) hs
/-- a walk with a step -/
theorem Src.c {μ : Mu} (lo c : Int) (n : Nat) : Src ⟨n, fun t => some (.int (lo + (t : Nat) * c)), fun _ => True⟩ μ ((List.range n).map fun i : Nat => .int (lo + (i : Nat) * c)) := by
  refine ⟨by simp, fun i d hi h => ?_, trivial⟩
  have hi : i < n := hi
  rw [List.getElem?_map, List.getElem?_range hi]
  exact h
end DL


set_option Elab.async false
set_option linter.all false
set_option maxRecDepth 100000
set_option maxHeartbeats 4000000
/-! DZ: zip of any number of lists, at the library's level. -/
namespace DL
open PySem PySem.Spec PyProof.Rows L2 SlX StX
theorem typeCall_zip (as : List Value) : checkTypeCall "zip" ⟨as, []⟩ = pure () := by kernel_rfl
theorem newCall_zip : ∀ (as : List Value), checkBuiltinCall "zip.__new__" ⟨.type "zip" :: as, []⟩ = pure ()
  | [] => by kernel_rfl
  | a :: as => by kernel_rfl
theorem args_object_init (as : List Value) (obj : Value) : argsOk "object.__init__" ⟨obj :: as, []⟩ := by
  unfold argsOk; rw [signature?_of (id := "object.__init__") (n := ['_', '_', 't', 'i', 'n', 'i', '_', '_']) (o := ['t', 'c', 'e', 'j', 'b', 'o']) (by kernel_rfl) PySem.F.owner_object]; kernel_rfl
def lstIt (l : Addr) : Obj := { cls := .type "list_iterator", data := .fields #[.ref l, .int 0 0] }
def refsN (N : Nat) : Nat → List Value
  | 0 => []
  | n + 1 => refsN N n ++ [.ref (N + n)]
theorem refsN_length (N : Nat) : ∀ n, (refsN N n).length = n
  | 0 => rfl
  | n + 1 => by rw [refsN, List.length_append, refsN_length N n]; rfl
theorem refsN_get (N : Nat) : ∀ n j, j < n → (refsN N n)[j]? = some (.ref (N + j))
  | 0, j, h => absurd h (Nat.not_lt_zero j)
  | n + 1, j, h => by
    rw [refsN]
    by_cases e : j < n
    · rw [List.getElem?_append_left (by rw [refsN_length]; exact e)]; exact refsN_get N n j e
    · have : j = n := by omega
      subst this
      rw [List.getElem?_append_right (by rw [refsN_length]; exact Nat.le_refl _), refsN_length, Nat.sub_self]; rfl
def pushIts (h : Heap) : List Addr → Heap
  | [] => h
  | l :: ls => pushIts (h.push (lstIt l)) ls
theorem pushIts_size : ∀ (ls : List Addr) (h : Heap), (pushIts h ls).objs.size = h.objs.size + ls.length
  | [], h => rfl
  | l :: ls, h => by rw [pushIts, pushIts_size, Heap.size_push, List.length_cons]; omega
theorem pushIts_keep : ∀ (ls : List Addr) (h : Heap) (c : Addr) (o : Obj), h.get? c = some o → (pushIts h ls).get? c = some o
  | [], h, c, o, e => e
  | l :: ls, h, c, o, e => pushIts_keep ls _ c o (Heap.get?_push_of_some _ e)
theorem pushIts_get : ∀ (ls : List Addr) (h : Heap) (j : Nat) (l : Addr), ls[j]? = some l → (pushIts h ls).get? (h.objs.size + j) = some (lstIt l)
  | [], h, j, l, e => by simp at e
  | l' :: ls, h, 0, l, e => by
    simp at e; subst e
    exact pushIts_keep ls _ _ _ (Heap.get?_push_size _ rfl)
  | l' :: ls, h, j + 1, l, e => by
    have := pushIts_get ls (h.push (lstIt l')) j l (by simpa using e)
    rw [Heap.size_push] at this
    rw [pushIts, show h.objs.size + (j + 1) = h.objs.size + 1 + j by omega]
    exact this
theorem pushIts_app : ∀ (ls ls' : List Addr) (h : Heap), pushIts h (ls ++ ls') = pushIts (pushIts h ls) ls'
  | [], ls', h => rfl
  | l :: ls, ls', h => by rw [List.cons_append, pushIts, pushIts, pushIts_app]
section
variable {prog : Program} {w : World} {A : Around} {E : Value → Shared → Prop} {s : Shared}
theorem iterAll_lists {ls : List Addr} {Q : List Value → Shared → Prop} (hl : ∀ l ∈ ls, ∃ its, s.heap.IsList l its) (h : Q (refsN s.heap.objs.size ls.length) { s with heap := pushIts s.heap ls }) :
    wpAny (model prog w) A (Builtin.SmallTypes.iterAll (ls.map Value.ref)) Q E s := by
  unfold Builtin.SmallTypes.iterAll
  refine wpAny_bind (wpAny_forIn_list _ (fun rest b s' => ∃ dn rs, ls = dn ++ rs ∧ rest = rs.map Value.ref ∧ b = (refsN s.heap.objs.size dn.length).toArray ∧ s' = { s with heap := pushIts s.heap dn }) _ ?_ ?_ _ _ ?_)
  · rintro x rest b s' ⟨dn, rs, e1, e2, e3, e4⟩
    cases rs with
    | nil => cases e2
    | cons r rs =>
      cases e2
      subst e3 e4
      obtain ⟨its, hi⟩ := hl r (by rw [e1]; simp)
      refine wpAny_bind (wpAny_holding ?_)
      have hi2 : (pushIts s.heap dn).IsList r its := hi.at fun o e => pushIts_keep _ _ _ _ e
      refine PySem.wpAny_pyIter_list (s := { s with heap := pushIts s.heap dn }) hi2 (wpAny_pure ?_)
      refine ⟨dn ++ [r], rs, by rw [e1, List.append_assoc]; rfl, rfl, ?_, ?_⟩
      · rw [List.length_append]
        show _ = (refsN s.heap.objs.size (dn.length + 1)).toArray
        rw [refsN]
        show ((refsN s.heap.objs.size dn.length).toArray).push (Value.ref (pushIts s.heap dn).objs.size) = _
        rw [pushIts_size]; simp
      · rw [pushIts_app]; rfl
  · rintro b s' ⟨dn, rs, e1, e2, e3, e4⟩
    cases rs with
    | cons r rs => cases e2
    | nil =>
      rw [List.append_nil] at e1
      subst e1 e3 e4
      exact wpAny_pure (by simpa using h)
  · exact ⟨[], ls, rfl, rfl, rfl, rfl⟩
abbrev tupO (as : List Value) : Obj := { cls := .type "tuple", data := .seq as.toArray }
abbrev zipO (f0 : Value) (fl : Bool) (TI TO : Addr) : Obj := { cls := .type "zip", dict := none, data := .fields #[f0, .bool fl, .bool false, .ref TI, .ref TO], slots := #[] }
abbrev hNT (h : Heap) (ls : List Addr) : Heap := (pushIts h ls).push (tupO (refsN h.objs.size ls.length))
abbrev hNO (h : Heap) (ls : List Addr) : Heap := (hNT h ls).push (tupO ((refsN h.objs.size ls.length).map fun _ => .none))
abbrev hNZ (h : Heap) (ls : List Addr) : Heap := (hNO h ls).push (zipO .none false (pushIts h ls).objs.size (hNT h ls).objs.size)
theorem meets_zip_newN (ls : List Addr) (hsz : ls.length ≤ sizeLine) :
    Meets (Builtin.«zip.__new__» ⟨.type "zip" :: ls.map Value.ref, []⟩) (fun _ R s => (∀ l ∈ ls, ∃ its, s.heap.IsList l its) ∧
      R (.ok (.ret (.ref (hNO s.heap ls).objs.size))) { s with heap := hNZ s.heap ls }) :=
  .of_wp fun prog w A R s h => by
    obtain ⟨hp, g, d, tk, os⟩ := s; obtain ⟨hl, h⟩ := h
    have hsub := PySem.sub_zip
    have q : ∀ {A' : Around} {E : Value → Shared → Prop} {Q : List Value → Shared → Prop}, Q (refsN hp.objs.size ls.length) ⟨pushIts hp ls, g, d, tk, os⟩ → wpAny (model prog w) A' (Builtin.SmallTypes.iterAll (ls.map Value.ref)) Q E ⟨hp, g, d, tk, os⟩ :=
      fun q => iterAll_lists (s := ⟨hp, g, d, tk, os⟩) hl q
    have l1 : (refsN hp.objs.size ls.length).length ≤ sizeLine := by rw [refsN_length]; exact hsz
    have l2 : ((refsN hp.objs.size ls.length).map fun _ => Value.none).length ≤ sizeLine := by rw [List.length_map]; exact l1
    wp_walk using q, wpAny_newTuple (items := refsN hp.objs.size ls.length) (hsz := l1), wpAny_newTuple (items := (refsN hp.objs.size ls.length).map fun _ => Value.none) (hsz := l2)
    exact ⟨_, rfl, h⟩
theorem called_zipN {ls : List Addr} {Q : Value → Shared → Prop} (hsz : ls.length ≤ sizeLine) (hl : ∀ l ∈ ls, ∃ its, s.heap.IsList l its)
    (h : ∀ h', h'.get? (s.heap.objs.size + ls.length + 2) = some (zipO .none false (s.heap.objs.size + ls.length) (s.heap.objs.size + ls.length + 1)) → h'.get? (s.heap.objs.size + ls.length) = some (tupO (refsN s.heap.objs.size ls.length)) →
      (∃ os : List Value, os.length = ls.length ∧ h'.get? (s.heap.objs.size + ls.length + 1) = some (tupO os)) → (∀ j l, ls[j]? = some l → h'.IsListIter (s.heap.objs.size + j) l 0) →
      (∀ c o, s.heap.get? c = some o → h'.get? c = some o) → Q (.ref (s.heap.objs.size + ls.length + 2)) { s with heap := h' }) :
    wpAny (model prog w) A (call (.type "zip") (ls.map Value.ref)) Q E s := by
  refine callType_new PySem.F.called_zip (by decide) (typeCall_zip _) (newCall_zip _) (fun obj => args_object_init _ obj) PySem.F.entry_zip_new (meets_zip_newN ls hsz) ⟨hl, ?_⟩
  have z1 : (pushIts s.heap ls).objs.size = s.heap.objs.size + ls.length := pushIts_size ls s.heap
  have z2 : (hNT s.heap ls).objs.size = s.heap.objs.size + ls.length + 1 := by rw [Heap.size_push, z1]
  have z3 : (hNO s.heap ls).objs.size = s.heap.objs.size + ls.length + 2 := by rw [Heap.size_push, z2]
  have gZ : (hNZ s.heap ls).get? (hNO s.heap ls).objs.size = some (zipO .none false (pushIts s.heap ls).objs.size (hNT s.heap ls).objs.size) := Heap.get?_push_size _ rfl
  have gO : (hNZ s.heap ls).get? (hNT s.heap ls).objs.size = some (tupO ((refsN s.heap.objs.size ls.length).map fun _ => .none)) := Heap.get?_push_of_some _ (Heap.get?_push_size _ rfl)
  have gT : (hNZ s.heap ls).get? (pushIts s.heap ls).objs.size = some (tupO (refsN s.heap.objs.size ls.length)) := Heap.get?_push_of_some _ (Heap.get?_push_of_some _ (Heap.get?_push_size _ rfl))
  have gk : ∀ c o, (pushIts s.heap ls).get? c = some o → (hNZ s.heap ls).get? c = some o := fun c o e => Heap.get?_push_of_some _ (Heap.get?_push_of_some _ (Heap.get?_push_of_some _ e))
  rw [z3, z1, z2] at gZ
  rw [z2] at gO
  rw [z1] at gT
  show _ ∧ _
  rw [z3]
  refine ⟨⟨_, gZ, rfl⟩, h _ gZ gT ⟨_, ?_, gO⟩ (fun j l e => ⟨lstIt l, gk _ _ (pushIts_get ls s.heap j l e), rfl, rfl⟩) fun c o e => gk _ _ (pushIts_keep ls _ _ _ e)⟩
  rw [List.length_map, refsN_length]
theorem addr_ne {a b : Nat} (h : a < b ∨ b < a) : a ≠ b := fun e => by subst e; rcases h with h | h <;> exact absurd h (Nat.lt_irrefl _)
theorem wpAny_ifAlive {M : Model} {a : Addr} {Q : Option Obj → Shared → Prop} (h : Q (s.heap.get? a) s) : wpAny M A (loadIfAlive a) Q E s := fun _ _ _ => h
/-- whether the tuple given out before is let go of -/
theorem owned_free {z TI TO : Addr} {f0 : Value} {fl : Bool} {Q : Bool → Shared → Prop} (hz : s.heap.get? z = some (zipO f0 fl TI TO)) (hf : f0 = .none ∨ ∃ T : Addr, f0 = rawInt T)
    (h : ∀ b fl' h', h'.get? z = some (zipO f0 fl' TI TO) → Heap.SameBut z s.heap h' → Q b { s with heap := h' }) : wpAny (model prog w) A (Builtin.SmallTypes.ownedTupleIsFree (.ref z)) Q E s := by
  unfold Builtin.SmallTypes.ownedTupleIsFree
  refine wpAny_bind (wpAny_field hz rfl (x := f0) rfl ?_)
  rcases hf with rfl | ⟨T, rfl⟩
  · exact wpAny_pure (h true fl s.heap hz (Heap.SameBut.refl _ _))
  · show wpAny _ _ (loadIfAlive ((T : Int).toNat) >>= _) _ _ _
    rw [Int.toNat_natCast]
    refine wpAny_bind (wpAny_ifAlive ?_)
    cases s.heap.get? T with
    | none =>
      simp only [Option.isNone_none, if_true]
      exact wpAny_pure (h true fl s.heap hz (Heap.SameBut.refl _ _))
    | some o =>
      simp only [Option.isNone_some, Bool.false_eq_true, if_false]
      refine wpAny_bind (wpAny_field hz rfl (x := .bool fl) rfl ?_)
      cases fl with
      | true =>
        rw [if_neg (show ¬ ((Value.bool true != Value.bool true) = true) from Bool.false_ne_true)]
        exact wpAny_pure (h false true s.heap hz (Heap.SameBut.refl _ _))
      | false =>
        rw [if_pos (show (Value.bool false != Value.bool true) = true from rfl)]
        exact wpAny_bind (wpAny_setField_rec hz (by simp) fun h₁ hz₁ hs₁ => wpAny_pure (h false true h₁ hz₁ hs₁))
/-- the iterators from the k-th on stand at i, those ahead at i + 1 -/
structure ZAt (h0 h : Heap) (N : Nat) (ls : List Addr) (i k : Nat) : Prop where
  sz : h.objs.size = h0.objs.size
  dn : ∀ j l, j < k → ls[j]? = some l → h.IsListIter (N + j) l (i + 1)
  td : ∀ j l, k ≤ j → ls[j]? = some l → h.IsListIter (N + j) l i
  kp : ∀ c o, c < N ∨ N + ls.length + 2 < c → h0.get? c = some o → h.get? c = some o
  ti : h.get? (N + ls.length) = some (tupO (refsN N ls.length))
theorem ZAt.one {h0 h h' : Heap} {N i k : Nat} {ls : List Addr} {l : Addr} (a : ZAt h0 h N ls i k) (hk : ls[k]? = some l) (it : h'.IsListIter (N + k) l (i + 1)) (sb : Heap.SameBut (N + k) h h') : ZAt h0 h' N ls i (k + 1) := by
  have kl : k < ls.length := by
    rcases Nat.lt_or_ge k ls.length with q | q
    · exact q
    · rw [List.getElem?_eq_none q] at hk; cases hk
  refine ⟨sb.1.trans a.sz, fun j l' hj hl => ?_, fun j l' hj hl => ?_, fun c o hc e => ?_, ?_⟩
  · by_cases e : j = k
    · subst e; rw [hk] at hl; cases hl; exact it
    · exact (a.dn j l' (by omega) hl).at fun o q => sb.extBut _ _ (addr_ne (by omega)) q
  · exact (a.td j l' (by omega) hl).at fun o q => sb.extBut _ _ (addr_ne (by omega)) q
  · exact sb.extBut _ _ (addr_ne (by omega)) (a.kp c o hc e)
  · exact sb.extBut _ _ (addr_ne (by omega)) a.ti
theorem ZAt.oth {h0 h h' : Heap} {N i k z : Nat} {ls : List Addr} (a : ZAt h0 h N ls i k) (hz : z = N + ls.length + 1 ∨ z = N + ls.length + 2) (sb : Heap.SameBut z h h') : ZAt h0 h' N ls i k := by
  refine ⟨sb.1.trans a.sz, fun j l' hj hl => ?_, fun j l' hj hl => ?_, fun c o hc e => ?_, ?_⟩
  · have : j < ls.length := by
      rcases Nat.lt_or_ge j ls.length with q | q
      · exact q
      · rw [List.getElem?_eq_none q] at hl; cases hl
    exact (a.dn j l' hj hl).at fun o q => sb.extBut _ _ (addr_ne (by omega)) q
  · have : j < ls.length := by
      rcases Nat.lt_or_ge j ls.length with q | q
      · exact q
      · rw [List.getElem?_eq_none q] at hl; cases hl
    exact (a.td j l' hj hl).at fun o q => sb.extBut _ _ (addr_ne (by omega)) q
  · exact sb.extBut _ _ (addr_ne (by omega)) (a.kp c o hc e)
  · exact sb.extBut _ _ (addr_ne (by omega)) a.ti
theorem zipIdx_drop {l : List Value} {k : Nat} {x : Value × Nat} {rest : List (Value × Nat)} (e : x :: rest = l.zipIdx.drop k) : k < l.length ∧ l[k]? = some x.1 ∧ x.2 = k ∧ rest = l.zipIdx.drop (k + 1) := by
  have hk : k < l.length := by
    rcases Nat.lt_or_ge k l.length with q | q
    · exact q
    · rw [List.drop_of_length_le (by rw [List.length_zipIdx]; exact q)] at e; cases e
  have hk' : k < l.zipIdx.length := by rw [List.length_zipIdx]; exact hk
  rw [List.drop_eq_getElem_cons hk'] at e
  injection e with e1 e2
  refine ⟨hk, ?_, ?_, e2⟩
  · rw [e1, List.getElem_zipIdx, List.getElem?_eq_getElem hk]
  · rw [e1, List.getElem_zipIdx]; simp
theorem set_ok {os ys : List Value} {k : Nat} {y : Value} (h : ∀ j, j < k → os[j]? = ys[j]?) (hk : k < os.length) (hy : ys[k]? = some y) : ∀ j, j < k + 1 → (os.set k y)[j]? = ys[j]? := fun j hj => by
  by_cases e : k = j
  · subst e; rw [List.getElem?_set_self hk, hy]
  · rw [List.getElem?_set_ne e]; exact h j (by omega)
theorem all_ok {os ys : List Value} (hl : os.length = ys.length) (h : ∀ j, j < ys.length → os[j]? = ys[j]?) : os = ys := by
  refine List.ext_getElem? fun j => ?_
  rcases Nat.lt_or_ge j ys.length with q | q
  · exact h j q
  · rw [List.getElem?_eq_none q, List.getElem?_eq_none (by rw [hl]; exact q)]
theorem zipN_item {N i : Nat} {f0 : Value} {fl : Bool} {ls : List Addr} {ys : List Value} {Q : Value → Shared → Prop} (hsz : ls.length ≤ sizeLine) (hne : ls ≠ []) (hlt : ∀ l ∈ ls, l < N)
    (hz : s.heap.get? (N + ls.length + 2) = some (zipO f0 fl (N + ls.length) (N + ls.length + 1))) (hf : f0 = .none ∨ ∃ T : Addr, f0 = rawInt T)
    (hTO : ∃ os : List Value, os.length = ls.length ∧ s.heap.get? (N + ls.length + 1) = some (tupO os)) (za : ZAt s.heap s.heap N ls i 0)
    (hy : ys.length = ls.length) (hL : ∀ (j : Nat) (l : Addr), ls[j]? = some l → ∃ its, s.heap.IsList l its ∧ ∃ y, its[i]? = some y ∧ ys[j]? = some y)
    (hQ : ∀ h' f0' fl', h'.get? (N + ls.length + 2) = some (zipO f0' fl' (N + ls.length) (N + ls.length + 1)) → (f0' = .none ∨ ∃ T : Addr, f0' = rawInt T) →
      (∃ os : List Value, os.length = ls.length ∧ h'.get? (N + ls.length + 1) = some (tupO os)) → ZAt h' h' N ls (i + 1) 0 →
      h'.get? s.heap.objs.size = some (tupO ys) → h'.objs.size = s.heap.objs.size + 1 → (∀ c o, c < N ∨ N + ls.length + 2 < c → s.heap.get? c = some o → h'.get? c = some o) → Q (.ref s.heap.objs.size) { s with heap := h' }) :
    wpAny (model prog w) A (Builtin.«zip.__next__» ⟨[.ref (N + ls.length + 2)], []⟩) (fun fin s' => ∃ v, fin = .done (.ret v) ∧ Q v s') E s := by
  have hfz := hz
  show wpAny _ _ (field (.ref _) 2 >>= _) _ _ _
  refine wpAny_bind (wpAny_field hz rfl (x := .bool false) rfl ?_)
  show wpAny _ _ (field (.ref _) 3 >>= _) _ _ _
  refine wpAny_bind (wpAny_field hz rfl (x := .ref (N + ls.length)) rfl ?_)
  refine wpAny_bind (wpAny_seqItems za.ti rfl ?_)
  have em : ((refsN N ls.length).toArray).isEmpty = false := by
    cases ls with
    | nil => exact absurd rfl hne
    | cons l ls => simp [refsN]
  simp only [em, Bool.false_eq_true, if_false]
  show wpAny _ _ (Builtin.SmallTypes.ownedTupleIsFree (.ref _) >>= _) _ _ _
  refine wpAny_bind (owned_free hz hf fun b fl' h₁ hz₁ hs₁ => ?_)
  have za1 := za.oth (.inr rfl) hs₁
  cases b with
  | true =>
    simp only [if_true]
    refine wpAny_bind (wpAny_rule ?_)
    refine wpAny_bind (wpAny_field hz₁ rfl (x := .ref (N + ls.length + 1)) rfl ?_)
    refine wpAny_bind (wpAny_setField_rec hz₁ (by simp) fun h₂ hz₂ hs₂ => ?_)
    replace hz₂ : h₂.get? (N + ls.length + 2) = some (zipO .ellipsis fl' (N + ls.length) (N + ls.length + 1)) := hz₂
    obtain ⟨os0, ho0, hg0⟩ := hTO
    have hg2 : h₂.get? (N + ls.length + 1) = some (tupO os0) := hs₂.extBut _ _ (addr_ne (by omega)) (hs₁.extBut _ _ (addr_ne (by omega)) hg0)
    have za2 := za1.oth (.inr rfl) hs₂
    refine wpAny_bind (wpAny_forIn_list _ (fun rest b s' => b = (none, ()) ∧ ∃ k h os, rest = (refsN N ls.length).zipIdx.drop k ∧ k ≤ ls.length ∧ s' = { s with heap := h } ∧ ZAt s.heap h N ls i k ∧
      h.get? (N + ls.length + 2) = some (zipO .ellipsis fl' (N + ls.length) (N + ls.length + 1)) ∧ os.length = ls.length ∧ h.get? (N + ls.length + 1) = some (tupO os) ∧ ∀ j, j < k → os[j]? = ys[j]?) _ ?_ ?_ _ _
      ⟨rfl, 0, h₂, os0, rfl, Nat.zero_le _, rfl, za2, hz₂, ho0, hg2, fun j hj => absurd hj (Nat.not_lt_zero j)⟩)
    · rintro x rest b s' ⟨rfl, k, h, os, e1, e2, rfl, z1, z2, z3, z4, z5⟩
      obtain ⟨k1, k2, k3, k4⟩ := zipIdx_drop e1
      rw [refsN_length] at k1
      rw [refsN_get _ _ _ k1] at k2
      obtain ⟨xv, xk⟩ := x
      have k3 : k = xk := k3.symm
      subst k3
      have k2 : some (Value.ref (N + k)) = some xv := k2
      cases k2
      obtain ⟨l, hl⟩ : ∃ l, ls[k]? = some l := ⟨ls[k], List.getElem?_eq_getElem k1⟩
      obtain ⟨its, hit, y, hy1, hy2⟩ := hL k l hl
      have hln : l < N := hlt l (List.mem_of_getElem? hl)
      refine wpAny_bind (wpAny_onRaise ?_)
      show wpAny _ _ (Builtin.SmallTypes.nextOf (.ref (N + k)) >>= _) _ _ _
      refine wpAny_bind (wpAny_nextOf_list_item (s := { s with heap := h }) (z1.td k l (Nat.le_refl _) hl) (hit.at fun o q => z1.kp _ _ (.inl hln) q) hy1 fun h₄ hi₄ hs₄ => wpAny_pure ?_)
      have z4' : h₄.get? (N + ls.length + 1) = some (tupO os) := hs₄.extBut _ _ (addr_ne (by omega)) z4
      have z2' : h₄.get? (N + ls.length + 2) = some (zipO .ellipsis fl' (N + ls.length) (N + ls.length + 1)) := hs₄.extBut _ _ (addr_ne (by omega)) z2
      refine wpAny_bind (wpAny_seqItems z4' rfl ?_)
      refine wpAny_bind (wpAny_updateSeq z4' rfl ?_)
      refine wpAny_bind (wpAny_letGo (wpAny_pure ?_))
      have sb5 : Heap.SameBut (N + ls.length + 1) h₄ (h₄.update (N + ls.length + 1) (Obj.mapSeq (·.setIfInBounds k y))) := Heap.SameBut.update ..
      refine ⟨rfl, k + 1, _, os.set k y, k4, k1, rfl, (z1.one hl hi₄ hs₄).oth (.inl rfl) sb5, ?_, by rw [List.length_set]; exact z3, ?_, set_ok z5 (by rw [z3]; exact k1) hy2⟩
      · exact sb5.extBut _ _ (addr_ne (by omega)) z2'
      · rw [Heap.get?_update_self _ z4' rfl]
        simp [Obj.mapSeq]
    · rintro b s' ⟨rfl, k, h, os, e1, e2, rfl, z1, z2, z3, z4, z5⟩
      have hk : k = ls.length := by
        have := congrArg List.length e1
        rw [List.length_drop, List.length_zipIdx, refsN_length] at this
        simp at this
        omega
      subst hk
      have eo : os = ys := all_ok (by rw [z3, hy]) fun j hj => z5 j (by rw [← hy]; exact hj)
      subst eo
      refine wpAny_bind (wpAny_seqItems z4 rfl ?_)
      refine wpAny_bind (wpAny_newTuple (items := os.toArray.toList) ?_ (by simpa [z3] using hsz))
      have hsz5 : h.objs.size = s.heap.objs.size := z1.sz
      show wpAny _ _ (Builtin.SmallTypes.ownedTupleHandOut (.ref _) (.ref h.objs.size) >>= _) _ _ _
      refine wpAny_bind ?_
      unfold Builtin.SmallTypes.ownedTupleHandOut
      have p2 : (h.push { cls := .type "tuple", data := .seq os.toArray.toList.toArray }).get? (N + ls.length + 2) = some (zipO .ellipsis fl' (N + ls.length) (N + ls.length + 1)) := Heap.get?_push_of_some _ z2
      refine wpAny_bind (wpAny_setField_rec p2 (by simp) fun h₇ hz₇ hs₇ => ?_)
      replace hz₇ : h₇.get? (N + ls.length + 2) = some (zipO (rawInt h.objs.size) fl' (N + ls.length) (N + ls.length + 1)) := hz₇
      refine wpAny_setField_rec hz₇ (by simp) fun h₈ hz₈ hs₈ => ?_
      replace hz₈ : h₈.get? (N + ls.length + 2) = some (zipO (rawInt h.objs.size) false (N + ls.length) (N + ls.length + 1)) := hz₈
      have hzl : N + ls.length + 2 < h.objs.size := Heap.lt_size z2
      have up : ∀ c o, c ≠ N + ls.length + 2 → h.get? c = some o → h₈.get? c = some o := fun c o c1 e => hs₈.extBut _ _ c1 (hs₇.extBut _ _ c1 (Heap.get?_push_of_some _ e))
      have hT₈ : h₈.get? h.objs.size = some (tupO os) := by
        have := hs₈.extBut _ _ (addr_ne (.inr hzl)) (hs₇.extBut _ _ (addr_ne (.inr hzl)) (Heap.get?_push_size (h := h) (o := { cls := .type "tuple", data := .seq os.toArray.toList.toArray }) rfl))
        simpa using this
      have hz8 : h₈.objs.size = h.objs.size + 1 := by rw [hs₈.1, hs₇.1, Heap.size_push]
      rw [hsz5] at hz₈ hT₈ hz8 hzl
      refine wpAny_pure ⟨_, rfl, ?_⟩
      show Q (.ref h.objs.size) _
      rw [hsz5]
      refine hQ h₈ _ _ hz₈ (.inr ⟨_, rfl⟩) ⟨os, z3, up _ _ (addr_ne (by omega)) z4⟩ ⟨rfl, fun j l hj => absurd hj (Nat.not_lt_zero j), fun j l _ hl => ?_, fun c o hc e => e, up _ _ (addr_ne (by omega)) z1.ti⟩ hT₈ hz8 fun c o hc e => up _ _ (addr_ne (by omega)) (z1.kp c o hc e)
      have hj : j < ls.length := by
        rcases Nat.lt_or_ge j ls.length with q | q
        · exact q
        · rw [List.getElem?_eq_none q] at hl; cases hl
      exact (z1.dn j l hj hl).at fun o q => up _ _ (addr_ne (by omega)) q
  | false =>
    simp only [Bool.false_eq_true, if_false]
    refine wpAny_bind ?_
    rw [← Array.forIn_toList]
    refine wpAny_forIn_list _ (fun rest b s' => ∃ k h, rest = (refsN N ls.length).drop k ∧ k ≤ ls.length ∧ s' = { s with heap := h } ∧ ZAt s.heap h N ls i k ∧
      h.get? (N + ls.length + 2) = some (zipO f0 fl' (N + ls.length) (N + ls.length + 1)) ∧ (∃ os : List Value, os.length = ls.length ∧ h.get? (N + ls.length + 1) = some (tupO os)) ∧ b = (none, (ys.take k).toArray)) _ ?_ ?_ _ _ ?_
    · rintro x rest b s' ⟨k, h, e1, e2, rfl, z1, z2, ⟨os, z3, z4⟩, rfl⟩
      have k1 : k < ls.length := by
        rcases Nat.lt_or_ge k ls.length with q | q
        · exact q
        · rw [List.drop_of_length_le (by rw [refsN_length]; exact q)] at e1; cases e1
      have k1' : k < (refsN N ls.length).length := by rw [refsN_length]; exact k1
      rw [List.drop_eq_getElem_cons k1'] at e1
      injection e1 with e3 e4
      have e5 : x = .ref (N + k) := by
        have := refsN_get N ls.length k k1
        rw [List.getElem?_eq_getElem k1'] at this
        rw [e3]; injection this
      subst e5
      obtain ⟨l, hl⟩ : ∃ l, ls[k]? = some l := ⟨ls[k], List.getElem?_eq_getElem k1⟩
      obtain ⟨its, hit, y, hy1, hy2⟩ := hL k l hl
      have hln : l < N := hlt l (List.mem_of_getElem? hl)
      refine wpAny_bind (wpAny_holding ?_)
      show wpAny _ _ (Builtin.SmallTypes.nextOf (.ref (N + k)) >>= _) _ _ _
      refine wpAny_bind (wpAny_nextOf_list_item (s := { s with heap := h }) (z1.td k l (Nat.le_refl _) hl) (hit.at fun o q => z1.kp _ _ (.inl hln) q) hy1 fun h₄ hi₄ hs₄ => wpAny_pure ?_)
      refine wpAny_pure ⟨k + 1, h₄, e4, k1, rfl, z1.one hl hi₄ hs₄, hs₄.extBut _ _ (addr_ne (by omega)) z2, ⟨os, z3, hs₄.extBut _ _ (addr_ne (by omega)) z4⟩, ?_⟩
      have : ys.take (k + 1) = ys.take k ++ [y] := by rw [List.take_succ, hy2]; rfl
      rw [this]
      simp
    · rintro b s' ⟨k, h, e1, e2, rfl, z1, z2, ⟨os, z3, z4⟩, rfl⟩
      have hk : k = ls.length := by
        have := congrArg List.length e1
        rw [List.length_drop, refsN_length] at this
        simp at this
        omega
      subst hk
      have et : ys.take ls.length = ys := by rw [← hy, List.take_length]
      rw [et]
      refine wpAny_bind (wpAny_newTuple (items := ys.toArray.toList) ?_ (by simpa [hy] using hsz))
      have hsz5 : h.objs.size = s.heap.objs.size := z1.sz
      have hzl : N + ls.length + 2 < h.objs.size := Heap.lt_size z2
      refine wpAny_pure ⟨_, rfl, ?_⟩
      show Q (.ref h.objs.size) _
      have hT₈ : (h.push { cls := .type "tuple", data := .seq ys.toArray.toList.toArray }).get? h.objs.size = some (tupO ys) := by
        have := (Heap.get?_push_size (h := h) (o := { cls := .type "tuple", data := .seq ys.toArray.toList.toArray }) rfl)
        simpa using this
      have hz8 : (h.push { cls := .type "tuple", data := .seq ys.toArray.toList.toArray }).objs.size = h.objs.size + 1 := Heap.size_push ..
      rw [hsz5] at hT₈ hz8 ⊢
      refine hQ _ _ _ (Heap.get?_push_of_some _ z2) hf ⟨os, z3, Heap.get?_push_of_some _ z4⟩ ⟨rfl, fun j l hj => absurd hj (Nat.not_lt_zero j), fun j l _ hl => ?_, fun c o hc e => e, Heap.get?_push_of_some _ z1.ti⟩ hT₈ hz8 fun c o hc e => Heap.get?_push_of_some _ (z1.kp c o hc e)
      have hj : j < ls.length := by
        rcases Nat.lt_or_ge j ls.length with q | q
        · exact q
        · rw [List.getElem?_eq_none q] at hl; cases hl
      exact (z1.dn j l hj hl).at fun o q => Heap.get?_push_of_some _ q
    · obtain ⟨os0, ho0, hg0⟩ := hTO
      exact ⟨0, h₁, by simp, Nat.zero_le _, rfl, za1, hz₁, ⟨os0, ho0, hs₁.extBut _ _ (addr_ne (by omega)) hg0⟩, by simp⟩
/-- the first list is at its end -/
theorem zipN_end {N i : Nat} {f0 : Value} {fl : Bool} {ls : List Addr} {l : Addr} {its : Array Value} {Q : Fin → Shared → Prop} (hh : A.handled = none) (hl0 : ls[0]? = some l) (hlt : l < N)
    (hz : s.heap.get? (N + ls.length + 2) = some (zipO f0 fl (N + ls.length) (N + ls.length + 1))) (hf : f0 = .none ∨ ∃ T : Addr, f0 = rawInt T)
    (hTO : ∃ os : List Value, os.length = ls.length ∧ s.heap.get? (N + ls.length + 1) = some (tupO os)) (za : ZAt s.heap s.heap N ls i 0) (hL : s.heap.IsList l its) (hx : its[i]? = none)
    (hE : ∀ h' e, (∀ c o, c < N ∨ N + ls.length + 2 < c → s.heap.get? c = some o → h'.get? c = some o) → (∃ o, h'.get? e = some o ∧ o.cls = .type "StopIteration") → E (.ref e) { s with heap := h' }) :
    wpAny (model prog w) A (Builtin.«zip.__next__» ⟨[.ref (N + ls.length + 2)], []⟩) Q E s := by
  have hfz := hz
  have hne : ls ≠ [] := fun e => by subst e; cases hl0
  show wpAny _ _ (field (.ref _) 2 >>= _) _ _ _
  refine wpAny_bind (wpAny_field hz rfl (x := .bool false) rfl ?_)
  show wpAny _ _ (field (.ref _) 3 >>= _) _ _ _
  refine wpAny_bind (wpAny_field hz rfl (x := .ref (N + ls.length)) rfl ?_)
  refine wpAny_bind (wpAny_seqItems za.ti rfl ?_)
  have n1 : 0 < ls.length := List.length_pos_iff.mpr hne
  have em : ((refsN N ls.length).toArray).isEmpty = false := by
    cases ls with
    | nil => exact absurd rfl hne
    | cons l ls => simp [refsN]
  obtain ⟨rr, hr⟩ : ∃ rr, refsN N ls.length = .ref N :: rr := by
    have := refsN_get N ls.length 0 n1
    cases e : refsN N ls.length with
    | nil => rw [e] at this; cases this
    | cons a rr => rw [e] at this; cases this; exact ⟨rr, rfl⟩
  simp only [em, Bool.false_eq_true, if_false]
  show wpAny _ _ (Builtin.SmallTypes.ownedTupleIsFree (.ref _) >>= _) _ _ _
  refine wpAny_bind (owned_free hz hf fun b fl' h₁ hz₁ hs₁ => ?_)
  have za1 := za.oth (.inr rfl) hs₁
  cases b with
  | true =>
    simp only [if_true]
    refine wpAny_bind (wpAny_rule ?_)
    refine wpAny_bind (wpAny_field hz₁ rfl (x := .ref (N + ls.length + 1)) rfl ?_)
    refine wpAny_bind (wpAny_setField_rec hz₁ (by simp) fun h₂ hz₂ hs₂ => ?_)
    replace hz₂ : h₂.get? (N + ls.length + 2) = some (zipO .ellipsis fl' (N + ls.length) (N + ls.length + 1)) := hz₂
    have za2 := za1.oth (.inr rfl) hs₂
    rw [hr]
    simp only [List.zipIdx_cons, List.forIn_cons]
    refine wpAny_bind (wpAny_bind (wpAny_bind (wpAny_onRaise ?_)))
    show wpAny _ _ (Builtin.SmallTypes.nextOf (.ref N) >>= _) _ _ _
    refine wpAny_bind (wpAny_nextOf_list_end (s := { s with heap := h₂ }) hh (za2.td 0 l (Nat.le_refl _) hl0) (hL.at fun o q => za2.kp _ _ (.inl hlt) q) hx fun h₃ e hs₃ he => ?_)
    obtain ⟨oe, hoe, hce⟩ := he
    have hz₃ : h₃.get? (N + ls.length + 2) = some (zipO .ellipsis fl' (N + ls.length) (N + ls.length + 1)) := hs₃ _ _ (addr_ne (by omega)) hz₂
    have hez : e ≠ N + ls.length + 2 := fun x => by subst x; rw [hz₃] at hoe; cases hoe; simp at hce
    refine wpAny_setField_rec hz₃ (by simp) fun h₄ _ hs₄ => hE h₄ e (fun c o hc x => hs₄.extBut _ _ (addr_ne (by omega)) (hs₃ _ _ (addr_ne (by omega)) (za2.kp c o hc x))) ⟨oe, hs₄.extBut _ _ hez hoe, hce⟩
  | false =>
    simp only [Bool.false_eq_true, if_false]
    refine wpAny_bind ?_
    rw [← Array.forIn_toList]
    rw [show (refsN N ls.length).toArray.toList = .ref N :: rr by rw [hr]]
    simp only [List.forIn_cons]
    refine wpAny_bind (wpAny_bind (wpAny_holding ?_))
    show wpAny _ _ (Builtin.SmallTypes.nextOf (.ref N) >>= _) _ _ _
    refine wpAny_bind (wpAny_nextOf_list_end (s := { s with heap := h₁ }) hh (za1.td 0 l (Nat.le_refl _) hl0) (hL.at fun o q => za1.kp _ _ (.inl hlt) q) hx fun h₂ e hs₂ he => ?_)
    exact hE h₂ e (fun c o hc x => hs₂ _ _ (addr_ne (by omega)) (za1.kp c o hc x)) he
theorem nextN_item {N i : Nat} {f0 : Value} {fl : Bool} {ls : List Addr} {ys : List Value} {Q : Option Value → Shared → Prop} (hsz : ls.length ≤ sizeLine) (hne : ls ≠ []) (hlt : ∀ l ∈ ls, l < N)
    (hz : s.heap.get? (N + ls.length + 2) = some (zipO f0 fl (N + ls.length) (N + ls.length + 1))) (hf : f0 = .none ∨ ∃ T : Addr, f0 = rawInt T)
    (hTO : ∃ os : List Value, os.length = ls.length ∧ s.heap.get? (N + ls.length + 1) = some (tupO os)) (za : ZAt s.heap s.heap N ls i 0)
    (hy : ys.length = ls.length) (hL : ∀ (j : Nat) (l : Addr), ls[j]? = some l → ∃ its, s.heap.IsList l its ∧ ∃ y, its[i]? = some y ∧ ys[j]? = some y)
    (hQ : ∀ h' f0' fl', h'.get? (N + ls.length + 2) = some (zipO f0' fl' (N + ls.length) (N + ls.length + 1)) → (f0' = .none ∨ ∃ T : Addr, f0' = rawInt T) →
      (∃ os : List Value, os.length = ls.length ∧ h'.get? (N + ls.length + 1) = some (tupO os)) → ZAt h' h' N ls (i + 1) 0 →
      h'.get? s.heap.objs.size = some (tupO ys) → h'.objs.size = s.heap.objs.size + 1 → (∀ c o, c < N ∨ N + ls.length + 2 < c → s.heap.get? c = some o → h'.get? c = some o) → Q (some (.ref s.heap.objs.size)) { s with heap := h' }) :
    wpAny (model prog w) A (pyNext (.ref (N + ls.length + 2))) Q E s := by
  have hTy : s.TypeIs (.ref (N + ls.length + 2)) "zip" := ⟨_, hz, rfl⟩
  unfold pyNext
  exact wpAny_bind (wpAny_attempt (wpAny_callSpecial?_slot (name := Str.ofString "__next__") hTy PySem.F.slot_zip_next
    (wpAny_call_entry PySem.F.slot_zip_next hTy PySem.F.entry_zip_next
      (zipN_item hsz hne hlt hz hf hTO za hy hL fun h' f0' fl' a1 a2 a3 a4 a5 a6 a7 => wpAny_pure (hQ h' f0' fl' a1 a2 a3 a4 a5 a6 a7)) (PySem.F.args_zip_next_1 _))))
theorem nextN_end {N i : Nat} {f0 : Value} {fl : Bool} {ls : List Addr} {l : Addr} {its : Array Value} {Q : Option Value → Shared → Prop} (hh : A.handled = none) (hl0 : ls[0]? = some l) (hlt : l < N)
    (hz : s.heap.get? (N + ls.length + 2) = some (zipO f0 fl (N + ls.length) (N + ls.length + 1))) (hf : f0 = .none ∨ ∃ T : Addr, f0 = rawInt T)
    (hTO : ∃ os : List Value, os.length = ls.length ∧ s.heap.get? (N + ls.length + 1) = some (tupO os)) (za : ZAt s.heap s.heap N ls i 0) (hL : s.heap.IsList l its) (hx : its[i]? = none)
    (hQ : ∀ h', (∀ c o, c < N ∨ N + ls.length + 2 < c → s.heap.get? c = some o → h'.get? c = some o) → Q none { s with heap := h' }) : wpAny (model prog w) A (pyNext (.ref (N + ls.length + 2))) Q E s := by
  have hTy : s.TypeIs (.ref (N + ls.length + 2)) "zip" := ⟨_, hz, rfl⟩
  unfold pyNext
  refine wpAny_bind (wpAny_attempt (wpAny_callSpecial?_slot (name := Str.ofString "__next__") hTy PySem.F.slot_zip_next
    (wpAny_call_entry PySem.F.slot_zip_next hTy PySem.F.entry_zip_next (zipN_end hh hl0 hlt hz hf hTO za hL hx fun h' e hk he => ?_) (PySem.F.args_zip_next_1 _))))
  obtain ⟨o, ho, hc⟩ := he
  refine wpAny_bind (wpAny_isInstance (T := "StopIteration") (b := true) ⟨o, ho, hc⟩ isSubtype_stop ?_)
  exact wpAny_pure (hQ _ hk)
end
end DL


set_option Elab.async false
set_option linter.all false
set_option maxRecDepth 100000
set_option maxHeartbeats 4000000
/-! DZb: zip(*rows) walked by one name. -/
namespace DL
open PySem PySem.Spec PyProof.Rows L2 SlX StX
def fpZ (N n : Nat) : List Addr := (List.range (n + 3)).map fun j => N + j
theorem fpZ_mem {N n : Nat} {b : Addr} : b ∈ fpZ N n ↔ ∃ j, j < n + 3 ∧ b = N + j := by
  unfold fpZ
  rw [List.mem_map]
  constructor
  · rintro ⟨j, h1, h2⟩; exact ⟨j, List.mem_range.mp h1, h2.symm⟩
  · rintro ⟨j, h1, h2⟩; exact ⟨j, List.mem_range.mpr h1, h2.symm⟩
theorem fpZ_not {N n : Nat} {c : Addr} (h : c ∉ fpZ N n) : (c : Nat) < N ∨ N + n + 2 < c := by
  rcases Nat.lt_or_ge c N with q | q
  · exact .inl q
  · rcases Nat.lt_or_ge (N + n + 2) c with z | z
    · exact .inr z
    · exact absurd (fpZ_mem.mpr ⟨c - N, by omega, show (c : Nat) = N + (c - N) from (Nat.add_sub_cancel' q).symm⟩) h
/-- what zip(*rows) walks, the rows at ls -/
def ItzN (K : PySem.W.Frag) (ls : List Addr) : It where
  go := fun i H => ∀ l ∈ ls, ∃ xs x, SqL K H l xs ∧ xs[i]? = some x
  yld := fun i H v H' => ∃ T ys, v = V.ref T ∧ H T = none ∧ H' = upd H T (.tup ys) ∧ ys.length = ls.length ∧ ∀ (j : Nat) (a : Addr) (xs : List V), ls[j]? = some a → SqL K H a xs → xs[i]? = ys[j]?
  stop := fun i H => ∃ a xs, ls[0]? = some a ∧ SqL K H a xs ∧ xs.length ≤ i
theorem pickN {X : Cx} {pins : List (Addr × Obj)} {σ : L2.St} {H : Hp} {s : Shared} {i : Nat} (I : Inv X pins σ H s) : ∀ ls : List Addr, (∀ l ∈ ls, ∃ xs x, SqL X.K H l xs ∧ xs[i]? = some x) →
    ∃ (ys : List V) (us : List Value), Vals ys us ∧ ys.length = ls.length ∧ (∀ (j : Nat) (a : Addr), ls[j]? = some a → ∃ xs, SqL X.K H a xs ∧ xs[i]? = ys[j]?) ∧
      ∀ (j : Nat) (a : Addr), ls[j]? = some a → ∃ its, s.heap.IsList a its ∧ ∃ u, its[i]? = some u ∧ us[j]? = some u
  | [], _ => ⟨[], [], .nil, rfl, fun j a e => by simp at e, fun j a e => by simp at e⟩
  | l :: ls, h => by
    obtain ⟨ys, us, r, e, h1, h2⟩ := pickN I ls fun l' hl => h l' (List.mem_cons_of_mem _ hl)
    obtain ⟨xs, x, hs, hx⟩ := h l List.mem_cons_self
    obtain ⟨its, rv, p, _⟩ := I.list hs
    obtain ⟨u, hu, ru⟩ := rv.get hx
    refine ⟨x :: ys, u :: us, .cons ru r, by rw [List.length_cons, List.length_cons, e], fun j a hj => ?_, fun j a hj => ?_⟩
    · cases j with
      | zero => simp at hj; subst hj; exact ⟨xs, hs, hx⟩
      | succ j => exact h1 j a (by simpa using hj)
    · cases j with
      | zero => simp at hj; subst hj; exact ⟨its.toArray, p.isList, u, by simpa using hu, rfl⟩
      | succ j => exact h2 j a (by simpa using hj)
theorem turn_zipN {P : Program} {w : World} {K : PySem.W.Frag} {x : Str} {tpos : Pos} {ls : List Addr} {N : Nat} (hsz : ls.length ≤ sizeLine) (hne : ls ≠ []) (hlt : ∀ l ∈ ls, l < N) :
    Turn P w K (.Name x tpos) (ItzN K ls) (fpZ N ls.length) (N + ls.length + 2)
      (fun i h => (∃ f0 fl, h.get? (N + ls.length + 2) = some (zipO f0 fl (N + ls.length) (N + ls.length + 1)) ∧ (f0 = .none ∨ ∃ T : Addr, f0 = rawInt T)) ∧
        (∃ os : List Value, os.length = ls.length ∧ h.get? (N + ls.length + 1) = some (tupO os)) ∧ ZAt h h N ls i 0) where
  mem := fpZ_mem.mpr ⟨ls.length + 2, by omega, rfl⟩
  obj := fun i h ⟨⟨f0, fl, hz, _⟩, ⟨os, _, ho⟩, za⟩ c hc => by
    obtain ⟨j, hj, rfl⟩ := fpZ_mem.mp hc
    rcases Nat.lt_or_ge j ls.length with q | q
    · obtain ⟨o, e, _, d⟩ := za.td j _ (Nat.zero_le _) (List.getElem?_eq_getElem q)
      exact ⟨o, e, fun v q => by rw [d] at q; cases q⟩
    · rcases (show j = ls.length ∨ j = ls.length + 1 ∨ j = ls.length + 2 by omega) with e | e | e
      · rw [e]; exact ⟨_, za.ti, fun v q => nomatch q⟩
      · rw [e]; exact ⟨_, ho, fun v q => nomatch q⟩
      · rw [e]; exact ⟨_, hz, fun v q => nomatch q⟩
  keep := fun i h h' ⟨⟨f0, fl, hz, hf⟩, ⟨os, e, ho⟩, za⟩ k => by
    refine ⟨⟨f0, fl, k _ (fpZ_mem.mpr ⟨ls.length + 2, by omega, rfl⟩) _ hz, hf⟩, ⟨os, e, k _ (fpZ_mem.mpr ⟨ls.length + 1, by omega, rfl⟩) _ ho⟩, ⟨rfl, fun j l hj => absurd hj (Nat.not_lt_zero j), fun j l _ hl => ?_, fun c o hc e => e, k _ (fpZ_mem.mpr ⟨ls.length, by omega, rfl⟩) _ za.ti⟩⟩
    have hj : j < ls.length := by
      rcases Nat.lt_or_ge j ls.length with q | q
      · exact q
      · rw [List.getElem?_eq_none q] at hl; cases hl
    exact (za.td j l (Nat.zero_le _) hl).at fun o q => k _ (fpZ_mem.mpr ⟨j, by omega, rfl⟩) o q
  item := by
    intro X hP hw hK hc i pins s σ H E I hf ⟨⟨f0, fl, hz, hf0⟩, hTO, za⟩ hg
    subst hP hw hK
    obtain ⟨ys, us, rv, ey, h1, h2⟩ := pickN I ls hg
    have hzl : N + ls.length + 2 < s.heap.objs.size := Heap.lt_size hz
    refine nextN_item (ys := us) hsz hne hlt hz hf0 hTO za (by rw [← ey]; exact rv.length.symm) h2 fun h' f0' fl' a1 a2 a3 a4 a5 a6 a7 => ?_
    refine ⟨_, rfl, ?_⟩
    show wpAny _ _ (pure ()) _ _ _
    refine wpAny_pure ?_
    have new : ObjOk X.prog X.w (upd H s.heap.objs.size (.tup ys)) h' s.heap.objs.size (.tup ys) :=
      ⟨by rw [ey]; exact hsz, us, rv, ⟨_, a5, rfl, _, rfl⟩⟩
    have I1 : Inv X pins σ (upd H s.heap.objs.size (.tup ys)) { s with heap := h' } :=
      I.turnedNew (t' := s.toks) (ch := fpZ N ls.length) (fun c o hb q => a7 c o (fpZ_not hb) q) hf (Nat.le_refl _) new
    refine ⟨.ref s.heap.objs.size, _, I1, rfl, ⟨_, ys, rfl, I.hok.fresh (Nat.le_refl _), rfl, ey, fun j a xs hj hs => ?_⟩, ⟨⟨f0', fl', a1, a2⟩, a3, a4⟩, fun c hm => ?_⟩
    · obtain ⟨xs', hs', e⟩ := h1 j a hj
      rw [I.list_inj hs hs']; exact e
    · obtain ⟨j, hj, rfl⟩ := fpZ_mem.mp hm
      rw [upd_ne (addr_ne (by omega))]
      exact (hf _ hm).1
  done := by
    intro X hP hw hK hc i pins s σ H E I hf ⟨⟨f0, fl, hz, hf0⟩, hTO, za⟩ hg
    subst hP hw hK
    obtain ⟨a, xs, e0, hs, hl⟩ := hg
    obtain ⟨its, rv, p, _⟩ := I.list hs
    have l1 := rv.length
    exact nextN_end (I.ok.hd hc) e0 (hlt a (List.mem_of_getElem? e0)) hz hf0 hTO za p.isList (by simp; omega) fun h' hk => ⟨rfl, I.turnedL (t' := s.toks) (ch := fpZ N ls.length) (fun c o hb q => hk c o (fpZ_not hb) q) hf⟩
  self := fun A i s Q E st h => by
    obtain ⟨⟨f0, fl, hz, _⟩, _⟩ := st
    have hT : s.TypeIs (.ref (N + ls.length + 2)) "zip" := ⟨_, hz, rfl⟩
    refine wpAny_pyIter_slot hT PySem.F.slot_zip_iter (wpAny_call_entry PySem.F.slot_zip_iter hT PySem.F.entry_zip_iter ?_ (PySem.F.args_zip_iter_1 _))
    show wpAny _ _ (ret (.ref _)) _ _ s
    exact wpAny_pure ⟨_, rfl, "zip", _, hT, PySem.F.slot_zip_next.lookup, h⟩
section
variable {M : Model} {A : Around} {E : Value → Shared → Prop} {s : Shared} {env : Env} {pos p : Pos} {Q : Value → Shared → Prop} {e : Expr}
theorem callWith_typeS {T : String} (h : wpAny M A (eval e env) (fun v s₁ => PySem.W.StarOf M A E v (fun vs s₂ => wpAny M A (call (.type T) vs) Q E s₂) s₁) E s)
    (he : starEach [.Starred e p] env = [(true, eval e env)] := by rfl) :
    wpAny M A (callWith pos (.type T) [] (backTo pos (starEach [.Starred e p] env)) []) Q E s := by
  rw [he]
  exact PySem.W.ks_call (P := fun _ => True) rfl (fun h _ => ⟨.machine, .inr (.inl rfl), PySem.W.Looks.now⟩) (PySem.W.ks_lone (wpAny_mono h (fun v s₁ h₁ => by
    unfold PySem.W.StarOf at h₁ ⊢
    exact wpAny_mono h₁ (fun b s₂ ⟨h2, h3⟩ => ⟨h2, wpAny_mono h3 (fun vs s₃ h4 => ⟨trivial, h4⟩) fun _ _ x => x⟩) fun _ _ x => x) fun _ _ x => x))
end
def iZipN (K : PySem.W.Frag) (te : TE) : TI := fun σ H R => te σ H fun y H1 => ∃ (a : Addr) (ls : List Addr), y = V.ref a ∧ (SqT K H1 a (ls.map V.ref) ∨ SqL K H1 a (ls.map V.ref)) ∧ ls.length ≤ 1000000 ∧ ls ≠ [] ∧ (∀ l ∈ ls, ∃ xs, SqL K H1 l xs) ∧ R (ItzN K ls) H1
theorem vals_refs : ∀ {ls : List Addr} {us : List Value}, Vals (ls.map V.ref) us → us = ls.map Value.ref
  | [], _, .nil => rfl
  | l :: ls, _, .cons r t => by rw [show _ = Value.ref l from r, vals_refs t]; rfl
theorem pi_zipN {X : Cx} {e : Expr} {te : TE} {x : Str} {p sp_ pos tpos : Pos} (hg : Gl X "zip") (hm : X.mg "zip" = none) (he : PE X e te)
    (hs : starEach [.Starred e sp_] X.env = [(true, eval e X.env)] := by rfl) :
    PI X (.Name x tpos) (.Call (.Name "zip" p) [.Starred e sp_] [] pos) (iZipN X.K te) := ⟨fun pins s σ H R I h => by
  refine Call_ (ld_blt I hg hm PyProof.Rows.boot_zip (callWith_typeS (thn (he.run pins s σ H _ I h) fun v s1 ⟨y, H1, I1, ry, a, ls, ey, ha, hl, hne, hr, q⟩ => ?_) hs))
  subst ey
  obtain rfl : v = Value.ref a := ry
  refine star_any I1 ha fun us s2 I2 rv => ?_
  rw [vals_refs rv]
  have hl' : ∀ l ∈ ls, ∃ its, s2.heap.IsList l its := fun l hl => by
    obtain ⟨xs, hs⟩ := hr l hl
    obtain ⟨its, _, p, _⟩ := I2.list hs
    exact ⟨_, p.isList⟩
  have hlt : ∀ l ∈ ls, l < s2.heap.objs.size := fun l hl => by
    obtain ⟨xs, hs⟩ := hr l hl
    obtain ⟨its, _, p, _⟩ := I2.list hs
    exact p.lt
  refine called_zipN (sz_of hl) hl' fun h' a1 a2 a3 a4 a5 => ?_
  have I3 : Inv X pins σ H1 { s2 with heap := h' } := I2.kept (t' := s2.toks) a5
  have T := turn_zipN (P := X.prog) (w := X.w) (K := X.K) (x := x) (tpos := tpos) (N := s2.heap.objs.size) (sz_of hl) hne hlt
  refine T.self X.A 0 { s2 with heap := h' } _ _ ⟨⟨_, _, a1, .inl rfl⟩, a3, ⟨rfl, fun j l hj => absurd hj (Nat.not_lt_zero j), fun j l _ hl => a4 j l hl, fun c o hc e => e, a2⟩⟩ ?_
  exact ⟨_, _, _, _, H1, rfl, I3, T, ⟨⟨_, _, a1, .inl rfl⟩, a3, ⟨rfl, fun j l hj => absurd hj (Nat.not_lt_zero j), fun j l _ hl => a4 j l hl, fun c o hc e => e, a2⟩⟩, fun b hb => by
    obtain ⟨j, _, rfl⟩ := fpZ_mem.mp hb
    exact I2.fpOk (Nat.le_add_right _ _) (I2.hok.fresh (Nat.le_add_right _ _)), q⟩⟩
theorem ki_zipN (K : PySem.W.Frag) {X : Cx} {e : Expr} {te : TE} {x : Str} {p sp_ pos tpos : Pos} (hg : Gl X "zip") (hm : X.mg "zip" = none) (he : PE X e te) (hK : X.K = K := by rfl)
    (hs : starEach [.Starred e sp_] X.env = [(true, eval e X.env)] := by rfl) :
    PI X (.Name x tpos) (.Call (.Name "zip" p) [.Starred e sp_] [] pos) (iZipN K te) := by subst hK; exact pi_zipN hg hm he hs
/-! ### over data -/
section
variable {K : PySem.W.Frag}
theorem RepL.of_get {G : Hp} : ∀ {vs : List V} {ds : List D}, vs.length = ds.length → (∀ (j : Nat) (v : V) (d : D), vs[j]? = some v → ds[j]? = some d → Rep K G v d) → RepL K G vs ds
  | [], [], _, _ => .nil
  | v :: vs, d :: ds, e, h => .cons (h 0 v d rfl rfl) (RepL.of_get (by simpa using e) fun j v d h1 h2 => h (j + 1) v d (by simpa using h1) (by simpa using h2))
  | [], _ :: _, e, _ => by simp at e
  | _ :: _, [], e, _ => by simp at e
def colD (rows : List (List D)) (i : Nat) : D := .tup (rows.map fun r => r.getD i .non)
def itZN (ds : List D) (rows : List (List D)) (m : Nat) : DIt := ⟨m, fun i => some (colD rows i), fun μ => ds.map (asL μ) = rows.map some⟩
@[simp] def rIZN (re : RE) : RI := fun δ μ k => re δ μ fun x μ1 => ∃ (ds : List D) (rows : List (List D)) (m : Nat), asQ μ1 x = some ds ∧ ds.map (asL μ1) = rows.map some ∧ ds ≠ [] ∧ ds.length ≤ 1000000 ∧ (∀ r ∈ rows, r.length = m) ∧ k (itZN ds rows m) μ1
theorem asL_get {μ : Mu} {ds : List D} {rows : List (List D)} (o : ds.map (asL μ) = rows.map some) {j : Nat} {d : D} (h : ds[j]? = some d) : ∃ r, rows[j]? = some r ∧ asL μ d = some r := by
  have e := congrArg (fun l => l[j]?) o
  simp only [List.getElem?_map, h, Option.map_some] at e
  cases q : rows[j]? with
  | none => rw [q] at e; simp at e
  | some r => rw [q] at e; simp at e; exact ⟨r, rfl, e⟩
theorem refs_of {μ : Mu} {G H : Hp} (w : Wd K G H μ) : ∀ {vs : List V} {ds : List D} {rows : List (List D)}, RepL K G vs ds → ds.map (asL μ) = rows.map some → ∃ ls : List Addr, vs = ls.map V.ref
  | _, _, _, .nil, _ => ⟨[], rfl⟩
  | _, _, [], .cons r t, o => by simp at o
  | _, _, row :: rows, .cons r t, o => by
    rw [List.map_cons, List.map_cons] at o
    injection o with o1 o2
    obtain ⟨a, _, e, _, _⟩ := asL_out w r o1
    obtain ⟨ls, e2⟩ := refs_of w t (rows := rows) o2
    exact ⟨a :: ls, by rw [e, e2]; rfl⟩
theorem itOk_zipN {G : Hp} {ls : List Addr} {ds : List D} {rows : List (List D)} {m : Nat} (rl : RepL K G (ls.map V.ref) ds) (hne : ds ≠ []) (hm : ∀ r ∈ rows, r.length = m) : ItOk K G (ItzN K ls) (itZN ds rows m) := fun i μ G1 H1 e w o => by
  have o : ds.map (asL μ) = rows.map some := o
  have rl := rl.mono e
  have len : ls.length = ds.length := by have := rl.length; rwa [List.length_map] at this
  have lr : ds.length = rows.length := by have := congrArg List.length o; rwa [List.length_map, List.length_map] at this
  have each : ∀ (j : Nat) (a : Addr), ls[j]? = some a → ∃ vs r, SqL K H1 a vs ∧ rows[j]? = some r ∧ RepL K G1 vs r ∧ r.length = m := fun j a hj => by
    obtain ⟨d, hd, rd⟩ := rl.get (i := j) (v := V.ref a) (by rw [List.getElem?_map, hj]; rfl)
    obtain ⟨r, hr, ed⟩ := asL_get o hd
    obtain ⟨a', vs, ea, hv, rv⟩ := asL_out w rd ed
    cases ea
    exact ⟨vs, r, SqL.of hv, hr, rv, hm r (List.mem_of_getElem? hr)⟩
  refine ⟨fun hi => ?_, fun hi => ?_⟩
  · have hi : m = i := hi
    have : 0 < ls.length := by rw [len]; exact List.length_pos_iff.mpr hne
    obtain ⟨vs, r, h1, _, h3, h4⟩ := each 0 _ (List.getElem?_eq_getElem this)
    exact ⟨_, vs, List.getElem?_eq_getElem this, h1, by rw [h3.length, h4, hi]; exact Nat.le_refl _⟩
  · have hi : i < m := hi
    refine ⟨fun l hl => ?_, fun v H2 ⟨T, ys, hv, hT, hH, h1, h2⟩ => ?_⟩
    · obtain ⟨j, hj⟩ := List.getElem?_of_mem hl
      obtain ⟨vs, r, h1, _, h3, h4⟩ := each j l hj
      have : i < vs.length := by rw [h3.length, h4]; exact hi
      exact ⟨vs, _, h1, List.getElem?_eq_getElem this⟩
    · subst hv hH
      refine ⟨colD rows i, upd G1 T (.tup ys), rfl, w.new hT, Go.new w hT, .tup upd_same (RepL.of_get (by rw [List.length_map, h1, len, lr]) fun j y d e1 e2 => ?_)⟩
      have hj : j < ls.length := by rw [← h1]; exact (List.getElem?_eq_some_iff.mp e1).1
      obtain ⟨vs, r, q1, q2, q3, q4⟩ := each j _ (List.getElem?_eq_getElem hj)
      have q5 := h2 j _ vs (List.getElem?_eq_getElem hj) q1
      rw [e1] at q5
      obtain ⟨d', z1, z2⟩ := q3.get q5
      rw [List.getElem?_map, q2] at e2
      simp [List.getD, z1] at e2
      subst e2
      exact z2.mono (Ex.new (w.gnone hT))
theorem okI_zipN {te : TE} {re : RE} (h : OkE K te re) : OkI K (iZipN K te) (rIZN re) := fun σ δ μ G H k R S w q b =>
  h σ δ μ G H _ _ S w q fun v x μ1 G1 H1 ⟨ds, rows, m, e1, o, hne, hl, hm, q2⟩ w1 g1 r1 => by
    obtain ⟨a, vs, rfl, hs, rl⟩ := asQ_out w1 r1 e1
    obtain ⟨ls, rfl⟩ := refs_of w1 rl o
    have len : ls.length = ds.length := by have := rl.length; rwa [List.length_map] at this
    refine ⟨a, ls, rfl, hs.symm, by rw [len]; exact hl, fun z => ?_, fun l hl => ?_, b _ _ μ1 G1 H1 q2 w1 g1 (itOk_zipN rl hne hm)⟩
    · subst z; exact hne (List.length_eq_zero_iff.mp len.symm)
    · obtain ⟨j, hj⟩ := List.getElem?_of_mem hl
      obtain ⟨d, hd, rd⟩ := rl.get (i := j) (v := V.ref l) (by rw [List.getElem?_map, hj]; rfl)
      obtain ⟨r, hr, ed⟩ := asL_get o hd
      obtain ⟨a', vs, ea, hv, rv⟩ := asL_out w1 rd ed
      cases ea
      exact ⟨vs, SqL.of hv⟩
theorem Src.zn {μ : Mu} {ds : List D} {rows : List (List D)} {m : Nat} (h : ds.map (asL μ) = rows.map some) : Src (itZN ds rows m) μ ((List.range m).map (colD rows)) := by
  refine ⟨by simp [itZN], fun i d hi e => ?_, h⟩
  have hi : i < m := hi
  have e : some (colD rows i) = some d := e
  rw [List.getElem?_map, List.getElem?_range hi]
  exact e
end
end DL


set_option Elab.async false
set_option linter.all false
set_option maxRecDepth 100000
set_option maxHeartbeats 4000000
/-! DLw: own instances that change: made, their slots read and stored, their methods. -/
namespace DL
open PySem PySem.Spec PyProof.Rows L2 SlX StX
def putD (i : Nat) (d : D) (ds : Sl) : Sl := (ds ++ List.replicate (i + 1 - ds.length) none).set i (some d)
section
variable {K : PySem.W.Frag}
theorem SlOk.put {G : Hp} {vs : L2.St} {ds : Sl} {v : V} {d : D} (S : SlOk K G vs ds) (r : Rep K G v d) (i : Nat) : SlOk K G (putS i v vs) (putD i d ds) := by
  have S2 : SlOk K G (vs ++ List.replicate (i + 1 - vs.length) none) (ds ++ List.replicate (i + 1 - ds.length) none) := by
    refine ⟨by rw [List.length_append, List.length_append, List.length_replicate, List.length_replicate, S.len], fun j e h => ?_⟩
    rcases Nat.lt_or_ge j ds.length with q | q
    · rw [List.getElem?_append_left q] at h
      obtain ⟨u, h1, h2⟩ := S.at_ j e h
      exact ⟨u, by rw [List.getElem?_append_left (by rw [S.len]; exact q)]; exact h1, h2⟩
    · rw [List.getElem?_append_right q, List.getElem?_replicate] at h
      split at h <;> cases h
  exact S2.set r i
theorem slH_set {H : Hp} {a C dx : Addr} {vs : L2.St} (h : H dx = some (.xd [])) : slH H a C dx vs = upd H a (SlO a C dx vs) := by
  have e : upd H dx (.xd []) = H := by
    funext b
    by_cases q : b = dx
    · rw [q, upd_same, h]
    · rw [upd_ne q]
  unfold slH
  rw [e]
/-- an own instance, as it stands -/
theorem own_slt {G H : Hp} {μ : Mu} {p a C : Addr} {ds : Sl} (w : Wd K G H μ) (e : μ p = some (.o a C ds)) (ha : a = p) : ∃ dx vs, Slt H p C dx vs ∧ dx ≠ p ∧ G dx = some (.xd []) ∧ H p = some (SlO p C dx vs) ∧ SlOk K G vs ds := by
  obtain ⟨h1, o, h2, h3⟩ := w.mu p _ e
  cases h3 with
  | o n h r => subst ha; exact ⟨_, _, .inr ⟨h2, w.ex _ _ h⟩, n, h, h2, r⟩
theorem own_new {G H : Hp} {μ : Mu} {p C dx : Addr} (w : Wd K G H μ) (e : μ p = some (.oi C dx)) : Slt H p C dx [] := by
  obtain ⟨h1, o, h2, h3⟩ := w.mu p _ e
  cases h3 with
  | oi => exact .inl ⟨h2, rfl⟩
/-- e.f, a slot of an own instance -/
@[simp] def rSlo (C : Addr) (i : Nat) (ra : RE) : RE := fun δ μ k => ra δ μ fun x μ1 => match x with
  | .own p => match μ1 p with
    | some (.o a C' fs) => a = p ∧ C' = C ∧ match fs[i]? with | some (some d) => k d μ1 | _ => False
    | _ => False
  | _ => False
theorem okE_slo {C p : Addr} {f : Str} {i : Nat} {te : TE} {ra : RE} (c : SCls K C) (s1 : Slot1 K C f p i) (h : OkE K te ra) : OkE K (SlX.tSl K te f) (rSlo C i ra) := fun σ δ μ G H k Q S w q b =>
  h σ δ μ G H _ _ S w q fun v d μ1 G1 H1 q1 w1 g1 r1 => by
    cases r1 with
    | own x =>
      simp only at q1
      split at q1
      · rename_i a C' fs e
        obtain ⟨ha, rfl, q1⟩ := q1
        split at q1
        · rename_i d e2
          obtain ⟨dx, vs, hs, _, _, _, S1⟩ := own_slt w1 e ha
          obtain ⟨u, h1, h2⟩ := S1.at_ i d e2
          exact ⟨x, C', dx, p, vs, i, u, rfl, hs, c, s1, h1, b u d μ1 G1 H1 q1 w1 g1 h2⟩
        · exact q1.elim
      · exact q1.elim
    | _ => exact q1.elim
/-- e.f = .. among other targets -/
@[simp] def rgSlo (C : Addr) (i : Nat) (re : RE) : RG := fun d δ μ k => re δ μ fun x μ1 => match x with
  | .own p => match μ1 p with
    | some (.o a C' fs) => a = p ∧ C' = C ∧ k δ (muSet μ1 p (.o p C (putD i d fs)))
    | some (.oi C' dx) => C' = C ∧ μ1 dx = some (.ox p) ∧ k δ (muDel (muSet μ1 p (.o p C (putD i d []))) dx)
    | _ => False
  | _ => False
theorem wd_first {G H : Hp} {μ : Mu} {p C dx : Addr} {vs : L2.St} {ds : Sl} (w : Wd K G H μ) (e : μ p = some (.oi C dx)) (e2 : μ dx = some (.ox p)) (S : SlOk K G vs ds) :
    Wd K (upd G dx (.xd [])) (slH H p C dx vs) (muDel (muSet μ p (.o p C ds)) dx) ∧ Go μ G H (muDel (muSet μ p (.o p C ds)) dx) (upd G dx (.xd [])) (slH H p C dx vs) := by
  have hne : dx ≠ p := fun z => by subst z; rw [e] at e2; cases e2
  have gp := (w.mu p _ e).1
  have gd := (w.mu dx _ e2).1
  refine ⟨⟨fun b o h => ?_, fun q c h => ?_⟩, Ex.new gd, fun b o h hm => ?_, fun b h => ?_, fun b h => ?_⟩
  · by_cases q : b = dx
    · subst q; rw [upd_same] at h; rw [slH, upd_ne hne, upd_same]; exact h
    · rw [upd_ne q] at h
      have : b ≠ p := fun z => by subst z; rw [gp] at h; cases h
      rw [slH_ne this q]; exact w.ex _ _ h
  · by_cases q1 : q = dx
    · subst q1; rw [muDel_same] at h; cases h
    · rw [muDel_ne q1] at h
      by_cases q2 : q = p
      · subst q2
        rw [muSet_same] at h
        cases h
        exact ⟨by rw [upd_ne q1]; exact gp, _, by rw [slH, upd_same], .o hne upd_same (S.mono0 (Ex.new gd))⟩
      · rw [muSet_ne q2] at h
        obtain ⟨h1, o, h2, h3⟩ := w.mu q c h
        exact ⟨by rw [upd_ne q1]; exact h1, o, by rw [slH_ne q2 q1]; exact h2, h3.mono (Ex.new gd)⟩
  · have n1 : b ≠ p := fun z => by subst z; rw [e] at hm; cases hm
    have n2 : b ≠ dx := fun z => by subst z; rw [e2] at hm; cases hm
    rw [slH_ne n1 n2]; exact h
  · by_cases q1 : b = dx
    · subst q1; rw [muDel_same] at h; exact absurd rfl h
    · rw [muDel_ne q1] at h
      by_cases q2 : b = p
      · subst q2; exact .inl (by rw [e]; simp)
      · rw [muSet_ne q2] at h; exact .inl h
  · by_cases q1 : b = dx
    · subst q1; exact .inr (.inl (by rw [e2]; simp))
    · rw [upd_ne q1] at h; exact .inl h
theorem okG_slo {C p : Addr} {f : Str} {i : Nat} {te : TE} {re : RE} (c : SCls K C) (s1 : Slot1 K C f p i) (h : OkE K te re) : OkG K (gSlA K te f) (rgSlo C i re) [] := fun v d σ δ μ G H k Q S w r q b =>
  h σ δ μ G H _ _ S w q fun u x μ1 G1 H1 q1 w1 g1 r1 => by
    cases r1 with
    | own y =>
      simp only at q1
      split at q1
      · rename_i a C' fs e
        obtain ⟨ha, rfl, q1⟩ := q1
        obtain ⟨dx, vs, hs, hne, hg, hp, S1⟩ := own_slt w1 e ha
        have S2 := S1.put (r.mono g1.eg) i
        refine ⟨y, C', dx, p, vs, i, rfl, hs, c, s1, ?_⟩
        rw [slH_set (w1.ex _ _ hg)]
        exact b σ δ _ G1 _ q1 (S.mono g1.eg) (w1.wrC e (.o hne hg S2)) (g1.trans (Go.wrC e)) ⟨rfl, fun _ _ => rfl⟩
      · rename_i C' dx e
        obtain ⟨rfl, e2, q1⟩ := q1
        have S2 : SlOk K G1 (putS i v []) (putD i d []) := SlOk.put ⟨rfl, fun j d h => by simp at h⟩ (r.mono g1.eg) i
        obtain ⟨w2, g2⟩ := wd_first w1 e e2 S2
        exact ⟨y, C', dx, p, [], i, rfl, own_new w1 e, c, s1, b σ δ _ _ _ q1 (S.mono (g1.eg.trans g2.eg)) w2 (g1.trans g2) ⟨rfl, fun _ _ => rfl⟩⟩
      · exact q1.elim
    | _ => exact q1.elim
/-- o.m(..), a method of an own instance -/
@[simp] def isOwn (C : Addr) (μ : Mu) (x : D) : Prop := match x with
  | .own p => match μ p with
    | some (.o a C' _) => a = p ∧ C' = C
    | some (.oi C' _) => C' = C
    | _ => False
  | _ => False
@[simp] def rMth (C : Addr) (dsp : DSp) (ra : RE) (rr : RA) : RE := fun δ μ k => ra δ μ fun x μ1 => isOwn C μ1 x ∧ rr δ μ1 fun ds μ2 => @dCall dsp (x :: ds) μ2 k
theorem isOwn_out {C : Addr} {G H : Hp} {μ : Mu} {v : V} {x : D} (w : Wd K G H μ) (r : Rep K G v x) (h : isOwn C μ x) : ∃ a dx vs, v = .ref a ∧ Slt H a C dx vs := by
  cases r with
  | own p =>
    unfold isOwn at h
    simp only at h
    split at h
    · rename_i a C' fs e
      obtain ⟨ha, rfl⟩ := h
      obtain ⟨dx, vs, hs, _⟩ := own_slt w e ha
      exact ⟨p, dx, vs, rfl, hs⟩
    · rename_i C' dx e
      subst h
      exact ⟨p, dx, [], rfl, own_new w e⟩
    · exact h.elim
  | _ => exact h.elim
theorem okE_mth {C : Addr} {dsp : DSp} {E : XK} {te : TE} {ra : RE} {tr : TA} {rr : RA} (h : OkE K te ra) (hr : OkA K tr rr) : OkE K (tMethSl C (spOf K dsp) E te tr) (rMth C dsp ra rr) := fun σ δ μ G H k Q S w q b =>
  h σ δ μ G H _ _ S w q fun v x μ1 G1 H1 ⟨q0, q1⟩ w1 g1 r1 => by
    obtain ⟨a, dx, vs, rfl, hs⟩ := isOwn_out w1 r1 q0
    exact ⟨a, dx, vs, rfl, hs, hr σ δ μ1 G1 H1 _ _ (S.mono g1.eg) w1 q1 fun us ds μ2 G2 H2 q2 w2 g2 r2 => ⟨x :: ds, μ2, G2, k, w2, .cons (r1.mono g2.eg) r2, q2, fun v d μ' G' H' qk w' g' r' => b v d μ' G' H' qk w' ((g1.trans g2).trans g') r'⟩⟩
theorem ke_meth (K : PySem.W.Frag) {X : Cx} {P : Program} {w : World} {mg : Str → Option Value} {base : Heap} {C : Addr} {m : Str} {n j : Nat} {dsp : DSp} {o e : Expr} {es : List Expr} {ta : TE} {t : TA} {apos pos : Pos} {pl : Sem Bool} (c : SCls K C) (F : MethD P w K mg base C m n dsp) (hr : Room j X.A) (he : PE X o ta) (ha : PA X (e :: es) t)
    (hj : n ≤ j := by decide) (hP : X.prog = P := by rfl) (hw : X.w = w := by rfl) (hK : X.K = K := by rfl) (hm : X.mg = mg := by rfl) (hb : X.base = base := by rfl)
    (hst : starEach (e :: es) X.env = (false, eval e X.env) :: starEach es X.env := by rfl) (hpl : (backTo pos (starEach es X.env)).any (·.1) = false := by rfl)
    (ht : eval (.Call (.Attribute o m apos) (e :: es) [] pos) X.env = (do
      let ov ← eval o X.env
      standAt apos.atName
      let (f, first) ← holding [ov] (getMethod ov m pl)
      callWith pos f first (backTo pos (starEach (e :: es) X.env)) (backToKw pos (keywordEach [] X.env))) := by rfl) :
    PE X (.Call (.Attribute o m apos) (e :: es) [] pos) (tMethSl C (spOf K dsp) E0 ta t) := by
  subst hP hw hK hm hb
  obtain ⟨g, h1, F⟩ := F.ex
  exact pe_methSl he c h1 F (hr.mono hj) pass0 ha hst hpl ht
/-! C(..): an own instance -/
@[simp] def rMkO (C : Addr) (dsp : DSp) (ra : RA) : RE := fun δ μ k => ra δ μ fun ds μ1 => ∀ p dx, μ1 p = none → μ1 dx = none → dx ≠ p → @dCall dsp (.own p :: ds) (muSet (muSet μ1 dx (.ox p)) p (.oi C dx)) fun z μ2 => z = .non ∧ k (.own p) μ2
theorem okE_mkO {C : Addr} {dsp : DSp} {t : TA} {ra : RA} (h : OkA K t ra) : OkE K (tMake C (spOf K dsp) [] E0 t) (rMkO C dsp ra) := fun σ δ μ G H k Q S w q b =>
  h σ δ μ G H _ _ S w q fun vs ds μ1 G1 H1 q1 w1 g1 r1 x dx hx hd hne => by
    show spOf K dsp (.ref x :: (vs ++ [])) _ _ _
    rw [List.append_nil]
    have w2 := w1.newC (o := .own x) (c := .ox x) hd .ox
    have g2 := Go.newC (o := .own x) (c := .ox x) w1 hd
    have hx2 : (upd H1 dx (.own x)) x = none := by rw [upd_ne (Ne.symm hne)]; exact hx
    have w3 := w2.newC (o := .ins C dx []) (c := .oi C dx) hx2 .oi
    have g3 := Go.newC (o := .ins C dx []) (c := .oi C dx) w2 hx2
    refine ⟨.own x :: ds, _, G1, _, w3, .cons (.own x) r1, q1 x dx (w1.mnone hx) (w1.mnone hd) hne, fun v d μ' G' H' ⟨hz, qk⟩ w' g' r' => ?_⟩
    subst hz
    cases r'
    exact ⟨rfl, b _ _ μ' G' H' qk w' (g1.trans ((g2.trans g3).trans g')) (.own x)⟩
theorem ke_mkO {X : Cx} {P : Program} {w : World} {mg : Str → Option Value} {base : Heap} {C : Addr} {x : Str} {k j : Nat} {dsp : DSp} {e : Expr} {es : List Expr} {p pos : Pos} {t : TA} (c : MakD P w K mg base k x C (spOf K dsp)) (hr : Room j X.A) (ha : PA X (e :: es) t) (hk : k + 1 ≤ j := by decide) (hg : Gl X x := by rfl) (hP : X.prog = P := by rfl) (hw : X.w = w := by rfl) (hK : X.K = K := by rfl) (hm : X.mg = mg := by rfl) (hb : X.base = base := by rfl)
    (hdb : (x == ("__debug__" : Str)) = false := by decide) (he : starEach (e :: es) X.env = (false, eval e X.env) :: starEach es X.env := by rfl) (hpl : (backTo pos (starEach es X.env)).any (·.1) = false := by rfl) : PE X (.Call (.Name x p) (e :: es) [] pos) (tMake C (spOf K dsp) [] E0 t) := by
  subst hP hw hK hm hb
  obtain ⟨f, fd, ps, M, F, h1, h2⟩ := c.ex
  exact pe_make M F (hr.mono hk) hg h1 h2 .nil pass0 ha hdb he hpl
/-- a class whose __init__ is one of the text's defs -/
theorem makD_of {P : Program} {w : World} {mg : Str → Option Value} {base : Heap} {C f : Addr} {fd : FuncData} {x qual : Str} {st : Stmt} {N ps : List Str} {k : Nat} {dsp : DSp} {r : RS} (M : Mk K C f) (F : Fun K "__init__" qual st f fd) (hm : mg x = some (.ref C)) (hb : BindsF "__init__" qual st ps)
    (B : Body P w K mg base k qual st N r) (S : FnScope N ps (defScope st)) (len : ∀ ds μ k, dsp ds μ k → ds.length = ps.length)
    (vc : ∀ ds μ k, dsp ds μ k → r { nx := fun _ μ' => k .non μ', rt := k } (startD N ds) μ) : MakD P w K mg base (k + 1) x C (spOf K dsp) :=
  ⟨f, fd, ps, M, fn_body B F S len vc, hm, F.binds hb⟩
end
end DL


set_option Elab.async false
set_option linter.all false
set_option maxRecDepth 100000
set_option maxHeartbeats 4000000
/-! DLx: x = enumerate(e), walked later by its name. -/
namespace DL
open PySem PySem.Spec PyProof.Rows L2 SlX StX ItX
section
variable {K : PySem.W.Frag}
def rEnN (K : PySem.W.Frag) (n : Nat) : List V → Hp → VK → Prop := fun xs H Q => ∃ (c : Bool) (a : Addr) (zs : List V), xs = [.ref a] ∧ SqA c K H a zs ∧ ∀ e it, H e = none → H it = none → e ≠ it → n ≤ e → n ≤ it → Q (.ref e) (upd (upd H it (LiO (objA c a) it)) e (EnO e it))
theorem call_enN {X : Cx} : CallR X (.type "enumerate") (rEnN X.K X.s_0.heap.objs.size) := by
  intro pins s σ H xs us Q I r h
  obtain ⟨c, a, zs, rfl, sx, q⟩ := h
  obtain ⟨u, rfl, ru⟩ := vals1 r
  cases ru
  obtain ⟨its, rv, p1⟩ := inv_sqA I sx
  refine enum_begins1 (beginsA c a its.toArray) p1 fun h' he hit hsz hk => ?_
  have n1 : H s.heap.objs.size = none := I.hok.fresh (Nat.le_refl _)
  have n2 : H (s.heap.objs.size + 1) = none := I.hok.fresh (Nat.le_succ _)
  have ne : s.heap.objs.size + 1 ≠ s.heap.objs.size := Nat.succ_ne_self _
  have st : ∀ b u, H b = some u → upd (upd H s.heap.objs.size (LiO (objA c a) s.heap.objs.size)) (s.heap.objs.size + 1) (EnO (s.heap.objs.size + 1) s.heap.objs.size) b = some u := fun b u e => by
    rw [upd_ne (ne_of_none e n2), upd_ne (ne_of_none e n1)]; exact e
  have un : Un X.fs [] H (upd (upd H s.heap.objs.size (LiO (objA c a) s.heap.objs.size)) (s.heap.objs.size + 1) (EnO (s.heap.objs.size + 1) s.heap.objs.size)) s.heap h' :=
    ⟨fun b u q _ _ _ => hk b u q, fun b u q _ _ _ => ⟨u.slots, hk b u q⟩, fun b u q n _ => by
      have z : (b : Nat) < s.heap.objs.size := Heap.lt_size q
      rw [upd_ne (addr_ne (.inl (Nat.lt_succ_of_lt z))), upd_ne (addr_ne (.inl z))]; exact n, fun b u q _ => ⟨u, hk b u q⟩, fun b xs q => st _ _ q, fun b u xs q => st _ _ q, fun b ps q => ⟨#[], by rw [st _ _ q]; simp⟩⟩
  have hok : HOk X.prog X.w (upd (upd H s.heap.objs.size (LiO (objA c a) s.heap.objs.size)) (s.heap.objs.size + 1) (EnO (s.heap.objs.size + 1) s.heap.objs.size)) h' := fun b u e => by
    by_cases h1 : b = s.heap.objs.size + 1
    · subst h1
      rw [upd_same] at e
      cases e
      exact ⟨he, ⟨_, he⟩, fun h1 h2 q k => k _ q⟩
    · rw [upd_ne h1] at e
      by_cases h2 : b = s.heap.objs.size
      · subst h2
        rw [upd_same] at e
        cases e
        exact ⟨hit, ⟨_, hit⟩, fun h1 h2 q k => k _ q⟩
      · rw [upd_ne h2] at e
        exact (I.hok b u e).stay (fun c v _ q => hk c v q) (fun c q => st _ _ q) fun c xs q => st _ _ q
  exact ⟨.ref (s.heap.objs.size + 1), _, I.un (t' := s.toks) un hok, rfl, q _ _ n2 n1 ne (Nat.le_succ_of_le I.sz) I.sz⟩
/-- x = enumerate(e) and what comes behind it -/
def tEnum (K : PySem.W.Frag) (j : Nat) (ta : TA) (u : Addr → Addr → TS) : TS := fun D σ H => ta σ H fun vs H1 => ∃ (c : Bool) (a : Addr) (zs : List V), vs = [.ref a] ∧ SqA c K H1 a zs ∧
  ∀ e it, H1 e = none → H1 it = none → e ≠ it → u e it D (σ.set j (some (.ref e))) (upd (upd H1 it (LiO (objA c a) it)) e (EnO e it))
theorem pss_enum {X : Cx} {j : Nat} {x : Str} {a : Expr} {ta : TA} {u : Addr → Addr → TS} {rest : List Stmt} {p pos pos' apos : Pos} (K : PySem.W.Frag) (hg : Gl X "enumerate" := by rfl) (hm : X.mg "enumerate" = none) (hN : X.N.Nodup) (hi : X.N[j]? = some x) (hx : Loc X.env.scope x) (ha : PA X [a] ta)
    (h : ∀ e it, X.s_0.heap.objs.size ≤ e → X.s_0.heap.objs.size ≤ it → PSs X rest (u e it)) (hK : X.K = K := by rfl)
    (he : starEach [a] X.env = (false, eval a X.env) :: starEach [] X.env := by rfl)
    (hs : swapsWith (.Call (.Name "enumerate" p) [a] [] apos) (some (.Name x pos')) pos.line X.env = pure false := by rfl) (hf : X.fn x = true ∨ X.env.scope.names.lookup x = some .local := by first | exact .inl rfl | exact .inr rfl | assumption) :
    PSs X (.Assign [.Name x pos'] (.Call (.Name "enumerate" p) [a] [] apos) pos :: rest) (tEnum K j ta u) := by
  subst hK
  refine ⟨fun pins s σ H D I q => ?_⟩
  refine wpAny_execs_cons ?_
  refine wpAny_Assign_Name ?_ hs
  refine wpAny_Call_Name_kw (ld_blt (u := .type "enumerate") I hg hm (by decide +kernel) ?_ (by decide) (by decide))
  refine PyProof.Rows.callWith_type1 (thn (ha.run apos pins s σ H _ I q) fun us s1 ⟨vs, H1, I1, r1, c, a', zs, ev, sx, q1⟩ => ?_) he rfl
  refine call_enN (X := X) pins s1 σ H1 vs us (fun v H2 => ∃ e it, v = .ref e ∧ X.s_0.heap.objs.size ≤ e ∧ X.s_0.heap.objs.size ≤ it ∧ u e it D (σ.set j (some (.ref e))) H2) I1 r1 ⟨c, a', zs, ev, sx, fun e it h1 h2 h3 h4 h5 => ⟨e, it, rfl, h4, h5, q1 e it h1 h2 h3⟩⟩ |> fun z => thn z fun v s2 ⟨y, H2, I2, r2, e, it, ey, h4, h5, q2⟩ => ?_
  subst ey
  exact store_ok I2 hN hi hx r2 (fun s3 I3 => (h e it h4 h5).run pins s3 _ H2 D I3 q2) hf
def iEnv (K : PySem.W.Frag) (e it : Addr) (j : Nat) : TI := fun σ H R => ∃ (c : Bool) (a : Addr) (zs : List V), σ[j]? = some (some (.ref e)) ∧ H e = some (EnO e it) ∧ H it = some (LiO (objA c a) it) ∧ e ≠ it ∧ SqA c K H a zs ∧ R (IteM c K a) (dropH (dropH H e) it)
theorem isA_cls {c : Bool} {h : Heap} {a : Addr} {its : Array Value} (x : IsA c h a its) : ∃ o, h.get? a = some o ∧ (o.cls = .type "list" ∨ o.cls = .type "tuple") := by
  cases c with
  | true => obtain ⟨o, e, h1, _⟩ := x; exact ⟨o, e, .inl h1⟩
  | false => obtain ⟨o, e, h1, _⟩ := x; exact ⟨o, e, .inr h1⟩
theorem objA_cls (c : Bool) (a : Addr) : (objA c a).cls ≠ .type "list" ∧ (objA c a).cls ≠ .type "tuple" := by
  cases c <;> exact ⟨fun h => by simp [objA] at h, fun h => by simp [objA] at h⟩
theorem pi_env {X : Cx} {e it : Addr} {j : Nat} {x : Str} {p tpos : Pos} {elts : List Expr} {kk : Nat} (h1 : X.s_0.heap.objs.size ≤ e) (h2 : X.s_0.heap.objs.size ≤ it) (hN : X.N[j]? = some x) (hv : Vis X.env.scope x) (hd : (x == ("__debug__" : Str)) = false := by decide) (hcd : (x == ("__classdict__" : Str)) = false := by decide) :
    PI X (.Tuple elts kk tpos) (.Name x p) (iEnv X.K e it j) := by
  refine ⟨fun pins s σ H R I h => ?_⟩
  obtain ⟨c, a, zs, hs, he, hi, hne, hq, q⟩ := h
  refine thn ((pe_var (pos := p) (i := j) hN hv hd hcd).run pins s σ H (fun v H1 => v = .ref e ∧ H1 = H) I ⟨.ref e, hs, rfl, rfl⟩) fun u s1 ⟨v, H1, I1, r1, ev, eH⟩ => ?_
  subst ev
  rw [eH] at I1
  cases r1
  have eE : IsEnum s1.heap e it 0 .none := (I1.hok e _ he).1
  have eI : s1.heap.get? it = some (objA c a) := (I1.hok it _ hi).1
  obtain ⟨its, rv, p1⟩ := inv_sqA I1 hq
  obtain ⟨oa, ea, ca⟩ := isA_cls p1
  have n1 : a ≠ it := fun z => by
    subst z
    rw [eI] at ea
    cases ea
    rcases ca with ca | ca
    · exact (objA_cls c a).1 ca
    · exact (objA_cls c a).2 ca
  have n2 : e ≠ a := fun z => by
    subst z
    rw [show s1.heap.get? e = _ from eE] at ea
    cases ea
    rcases ca with ca | ca <;> simp at ca
  have st : (∃ old, IsEnum s1.heap e it (0 + ((0 : Nat) : Int)) old) ∧ IterA c s1.heap it a 0 := ⟨⟨.none, eE⟩, iterA_0 eI⟩
  have T := turn_enumM (P := X.prog) (w := X.w) (K := X.K) (elts := elts) (kk := kk) (tpos := tpos) (c := c) n1 hne n2
  have he' := he
  unfold EnO at he'
  have I2 := inv_drop I1 he'
  have hi2 : dropH H e it = some (LiO (objA c a) it) := by rw [dropH_ne (Ne.symm hne)]; exact hi
  have hi' := hi2
  unfold LiO at hi'
  refine T.self X.A 0 s1 _ _ st ?_
  refine ⟨e, [e, it], _, _, dropH (dropH H e) it, rfl, inv_drop I2 hi', T, st, fun b hb => ?_, q⟩
  have z : b = e ∨ b = it := by simpa using hb
  rcases z with z | z
  · subst z
    have f := inv_fp I1 he h1
    exact ⟨by rw [dropH_ne hne]; exact f.1, f.2⟩
  · subst z
    exact inv_fp I2 hi2 h2
theorem ki_env (K : PySem.W.Frag) {X : Cx} {e it : Addr} {j : Nat} {x : Str} {p tpos : Pos} {elts : List Expr} {kk : Nat} (h1 : X.s_0.heap.objs.size ≤ e) (h2 : X.s_0.heap.objs.size ≤ it) (hN : X.N[j]? = some x) (hv : Vis X.env.scope x) (hK : X.K = K := by rfl) (hd : (x == ("__debug__" : Str)) = false := by decide) (hcd : (x == ("__classdict__" : Str)) = false := by decide) :
    PI X (.Tuple elts kk tpos) (.Name x p) (iEnv K e it j) := by subst hK; exact pi_env h1 h2 hN hv hd hcd
theorem wd_drop {G H : Hp} {μ : Mu} {a : Addr} {c : Cnt} (w : Wd K G H μ) (h : μ a = some c) : Wd K G (dropH H a) (muDel μ a) ∧ Go μ G H (muDel μ a) G (dropH H a) := by
  have ga := (w.mu a c h).1
  refine ⟨⟨fun b o e => ?_, fun q c' e => ?_⟩, Ex.refl G, fun b o e hm => ?_, fun b e => ?_, fun b e => .inl e⟩
  · rw [dropH_ne (fun z => by subst z; rw [ga] at e; cases e)]; exact w.ex _ _ e
  · by_cases z : q = a
    · subst z; rw [muDel_same] at e; cases e
    · rw [muDel_ne z] at e
      obtain ⟨h1, o, h2, h3⟩ := w.mu q c' e
      exact ⟨h1, o, by rw [dropH_ne z]; exact h2, h3⟩
  · rw [dropH_ne (fun z => by subst z; rw [h] at hm; cases hm)]; exact e
  · by_cases z : b = a
    · subst z; rw [muDel_same] at e; exact absurd rfl e
    · rw [muDel_ne z] at e; exact .inl e
@[simp] def rIEnv (e it : Addr) (j : Nat) : RI := fun δ μ k => δ[j]? = some (some (.own e)) ∧ μ e = some (.en e it) ∧ e ≠ it ∧ ∃ x xs, μ it = some (.ei it x) ∧ asQ μ x = some xs ∧ k (itE x xs) (muDel (muDel μ e) it)
theorem okI_env {e it : Addr} {j : Nat} : OkI K (iEnv K e it j) (rIEnv e it j) := fun σ δ μ G H k R S w ⟨h1, h2, h3, x, xs, h4, h5, q⟩ b => by
  obtain ⟨v, e1, r1⟩ := S.at_ j _ h1
  cases r1
  obtain ⟨g1, o1, o2, o3⟩ := w.mu e _ h2
  obtain ⟨g2, p1, p2, p3⟩ := w.mu it _ h4
  cases o3
  cases p3 with
  | ei rx =>
    obtain ⟨a, vs, ea, sa, ra⟩ := asQ_outA w rx h5
    cases ea
    obtain ⟨w1, z1⟩ := wd_drop w h2
    have h4' : muDel μ e it = some (.ei it x) := by rw [muDel_ne (Ne.symm h3)]; exact h4
    obtain ⟨w2, z2⟩ := wd_drop w1 h4'
    exact ⟨_, _, vs, e1, o2, p2, h3, sa, b _ _ _ G _ q w2 (z1.trans z2) (itOk_enum rx)⟩
@[simp] def rEnum (j : Nat) (ra : RA) (r : Addr → Addr → RS) : RS := fun DD δ μ => ra δ μ fun ds μ1 => match ds with
  | [x] => ∃ xs, asQ μ1 x = some xs ∧ ∀ e it, μ1 e = none → μ1 it = none → e ≠ it → r e it DD (δ.set j (some (.own e))) (muSet (muSet μ1 it (.ei it x)) e (.en e it))
  | _ => False
theorem okS_enum {j : Nat} {ta : TA} {ra : RA} {u : Addr → Addr → TS} {r : Addr → Addr → RS} (h : OkA K ta ra) (h2 : ∀ e it, OkS K (u e it) (r e it)) : OkS K (tEnum K j ta u) (rEnum j ra r) := fun σ δ μ G H DD D S w q b =>
  h σ δ μ G H _ _ S w q fun vs ds μ1 G1 H1 q1 w1 g1 r1 => by
    split at q1
    · rename_i x
      obtain ⟨xs, e1, q2⟩ := q1
      cases r1 with
      | cons rx t =>
        cases t
        obtain ⟨a, vs, rfl, sa, _⟩ := asQ_outA w1 rx e1
        refine ⟨_, a, vs, rfl, sa, fun e it hE hI hne => ?_⟩
        have w2 := w1.newC (o := LiO (objA (kindA x) a) it) (c := .ei it x) hI (.ei rx)
        have g2 := Go.newC (o := LiO (objA (kindA x) a) it) (c := .ei it x) w1 hI
        have hE2 : (upd H1 it (LiO (objA (kindA x) a) it)) e = none := by rw [upd_ne hne]; exact hE
        have w3 := w2.newC (o := EnO e it) (c := .en e it) hE2 .en
        have g3 := Go.newC (o := EnO e it) (c := .en e it) w2 hE2
        exact h2 e it _ _ _ G1 _ DD D ((S.mono g1.eg).set (.own e) j) w3 (q2 e it (w1.mnone hE) (w1.mnone hI) hne) (b.go (g1.trans (g2.trans g3)))
    · exact q1.elim
end
end DL


set_option Elab.async false
set_option linter.all false
set_option maxRecDepth 100000
set_option maxHeartbeats 4000000
/-! DLy: tuples of ints compared, summed up, their least; dicts with tuple keys. -/
namespace DL
open PySem PySem.Spec PyProof.Rows L2 SlX StX
open PySem.W (AlikeAll AllAlike alike min_tuple_data max_tuple_data minD maxD minD_ints maxD_ints)
section
variable {X : Cx}
theorem reads_ints {h : Heap} : ∀ {ns : List Int} {us : List Value}, Vals (ns.map V.int) us → ReadsAll h us (ns.map .int) []
  | [], _, .nil => .nil
  | n :: ns, _, .cons r t => by
    obtain ⟨t', rfl⟩ := (show ∃ t, _ = Value.int n t from r)
    exact .cons (as := []) (.int n t') (reads_ints t)
theorem depthAll_ints : ∀ xs : List Int, PyData.depthAll (xs.map .int) = 0
  | [] => by simp [PyData.depthAll]
  | x :: xs => by
    show PyData.depthAll (.int x :: xs.map .int) = 0
    rw [PyData.depthAll, depthAll_ints xs]
    simp [PyData.depth]
theorem foldl_min_mem (n : Int) : ∀ ns : List Int, ns.foldl min n ∈ n :: ns ∧ ∀ y ∈ n :: ns, ns.foldl min n ≤ y
  | [] => by simp
  | m :: ns => by
    obtain ⟨h1, h2⟩ := foldl_min_mem (min n m) ns
    refine ⟨?_, fun y hy => ?_⟩
    · rcases List.mem_cons.mp h1 with e | e
      · rw [List.foldl_cons, e]
        by_cases z : n ≤ m
        · rw [Int.min_eq_left z]; simp
        · rw [Int.min_eq_right (by omega)]; simp
      · exact List.mem_cons_of_mem _ (List.mem_cons_of_mem _ e)
    · have h0 := h2 (min n m) List.mem_cons_self
      rw [List.foldl_cons]
      rcases List.mem_cons.mp hy with e | e
      · subst e; omega
      · rcases List.mem_cons.mp e with e | e
        · subst e; omega
        · exact h2 y (List.mem_cons_of_mem _ e)
def rMinT (K : PySem.W.Frag) : List V → Hp → VK → Prop := fun vs H Q => ∃ (a : Addr) (ns : List Int), vs = [V.ref a] ∧ SqT K H a (ns.map V.int) ∧ 0 < ns.length ∧ ∀ m, m ∈ ns → (∀ y, y ∈ ns → m ≤ y) → Q (.int m) H
theorem alike_ints' (xs : List Int) : AlikeAll (xs.map PyData.int) := ⟨fun d hd d' hd' => by
  obtain ⟨n, _, rfl⟩ := List.mem_map.mp hd
  obtain ⟨m, _, rfl⟩ := List.mem_map.mp hd'
  simp [alike], fun d hd => by
  obtain ⟨n, _, rfl⟩ := List.mem_map.mp hd
  exact fun z => nomatch z⟩
theorem cr_minT (hc : X.calm = true) (hu : X.A.units + 1 < cLine) : CallR X (.builtin "min") (rMinT X.K) := by
  intro pins s σ H vs us Q I r h
  obtain ⟨a, ns, rfl, hs, hne, q⟩ := h
  obtain ⟨its, rv, hl, _⟩ := I.tuple hs
  rw [Vals.ref1 r]
  cases ns with
  | nil => simp at hne
  | cons n ns =>
    refine min_tuple_data (x := .int n) (xs := ns.map .int) (as := []) (I.ok.hd hc) hl (by simpa using reads_ints (h := s.heap) rv) (alike_ints' (n :: ns)) (by
      show X.A.units + 1 + PyData.depthAll ((n :: ns).map .int) < cLine
      rw [depthAll_ints]; exact hu) fun i v h' tk bs _ hr hk => ?_
    rw [minD_ints] at hr
    cases hr with
    | int i t =>
      obtain ⟨h1, h2⟩ := foldl_min_mem n ns
      exact ⟨.int _, H, I.kept (t' := tk) hk, ⟨t, rfl⟩, q _ h1 h2⟩
def rSumT (K : PySem.W.Frag) : List V → Hp → VK → Prop := fun vs H Q => ∃ (a : Addr) (ns : List Int), vs = [V.ref a] ∧ SqT K H a (ns.map V.int) ∧ Q (.int ns.sum) H
theorem cr_sumT (hc : X.calm = true) : CallR X (.builtin "sum") (rSumT X.K) := by
  intro pins s σ H vs us Q I r h
  obtain ⟨a, ns, rfl, hs, q⟩ := h
  obtain ⟨its, rv, hl, _⟩ := I.tuple hs
  rw [Vals.ref1 r]
  have hi : IntsAre its ns := rv.ints
  obtain ⟨xs, e⟩ := hi.allInts.items
  have hn : numsOf (intItems xs).toList = ns := by rw [← e]; exact hi.numsOf
  rw [nums_intItems] at hn
  rw [e] at hl
  refine PySem.W.ktm_sumG (I.ok.hd hc) hl fun h' tk t' hk => ⟨.int ns.sum, H, I.kept (t' := tk) hk, ⟨t', ?_⟩, q⟩
  rw [preSum_eq, List.take_of_length_le (by simp), hn]
end
section
variable (K : PySem.W.Frag) {X : Cx}
theorem kc_minT (hu : X.A.units + 1 < cLine) (hc : X.calm = true := by rfl) (hK : X.K = K := by rfl) : CallR X (.builtin "min") (rMinT K) := by subst hK; exact cr_minT hc hu
theorem kc_minL (hc : X.calm = true := by rfl) (hK : X.K = K := by rfl) : CallR X (.builtin "min") (rMin K) := by subst hK; exact cr_min hc
theorem kc_maxL (hc : X.calm = true := by rfl) (hK : X.K = K := by rfl) : CallR X (.builtin "max") (rMax K) := by subst hK; exact cr_max hc
theorem kc_sumT (hc : X.calm = true := by rfl) (hK : X.K = K := by rfl) : CallR X (.builtin "sum") (rSumT K) := by subst hK; exact cr_sumT hc
theorem ko_ltT (hu : X.A.units < cLine) (hK : X.K = K := by rfl) : OpR X (compareOp .Lt) (rLtT K) := by subst hK; exact op_ltT hu
end
/-! ### over data -/
section
variable {K : PySem.W.Frag}
@[simp] def oMinT : FL := fun ds μ k => ∃ ns : List Int, ds = [.tup (ns.map D.int)] ∧ 0 < ns.length ∧ ∀ m, m ∈ ns → (∀ y, y ∈ ns → m ≤ y) → k (.int m) μ
theorem okMinT : OkC K (rMinT K) oMinT := fun xs as μ G H k Q w r q t => by
  obtain ⟨ns, rfl, h0, q⟩ := q
  cases r with
  | cons r rr =>
    cases rr
    cases r with
    | tup h rl =>
      have := rl.ints
      subst this
      exact ⟨_, ns, rfl, SqT.of (w.ex _ _ h), h0, fun m h1 h2 => t _ _ μ G H (q m h1 h2) w (Go.refl _ _ _) (.int m)⟩
@[simp] def oSumT : FL := fun ds μ k => ∃ ns : List Int, ds = [.tup (ns.map D.int)] ∧ k (.int ns.sum) μ
theorem okSumT : OkC K (rSumT K) oSumT := fun xs as μ G H k Q w r q t => by
  obtain ⟨ns, rfl, q⟩ := q
  cases r with
  | cons r rr =>
    cases rr
    cases r with
    | tup h rl =>
      have := rl.ints
      subst this
      exact ⟨_, ns, rfl, SqT.of (w.ex _ _ h), t _ _ μ G H q w (Go.refl _ _ _) (.int _)⟩
theorem intsL {μ : Mu} {G H : Hp} {v : V} {d : D} {ns : List Int} (w : Wd K G H μ) (r : Rep K G v d) (e : asL μ d = some (ns.map D.int)) : ∃ a, v = .ref a ∧ SqL K H a (ns.map V.int) := by
  obtain ⟨a, vs, rfl, h, rl⟩ := asL_out w r e
  have := rl.ints
  subst this
  exact ⟨a, rfl, SqL.of h⟩
@[simp] def oMinL : FL := fun ds μ k => ∃ (x : D) (ns : List Int), ds = [x] ∧ asL μ x = some (ns.map D.int) ∧ 0 < ns.length ∧ ∀ m, m ∈ ns → (∀ y, y ∈ ns → m ≤ y) → k (.int m) μ
theorem okMinL : OkC K (rMin K) oMinL := fun xs as μ G H k Q w r q t => by
  obtain ⟨x, ns, rfl, e, h0, q⟩ := q
  cases r with
  | cons r rr =>
    cases rr
    obtain ⟨a, rfl, hs⟩ := intsL w r e
    exact ⟨a, ns, rfl, hs, h0, fun m h1 h2 => t _ _ μ G H (q m h1 h2) w (Go.refl _ _ _) (.int m)⟩
@[simp] def oMaxL : FL := fun ds μ k => ∃ (x : D) (ns : List Int), ds = [x] ∧ asL μ x = some (ns.map D.int) ∧ 0 < ns.length ∧ ∀ m, m ∈ ns → (∀ y, y ∈ ns → y ≤ m) → k (.int m) μ
theorem okMaxL : OkC K (rMax K) oMaxL := fun xs as μ G H k Q w r q t => by
  obtain ⟨x, ns, rfl, e, h0, q⟩ := q
  cases r with
  | cons r rr =>
    cases rr
    obtain ⟨a, rfl, hs⟩ := intsL w r e
    exact ⟨a, ns, rfl, hs, h0, fun m h1 h2 => t _ _ μ G H (q m h1 h2) w (Go.refl _ _ _) (.int m)⟩
@[simp] def oLtT : F2 := fun x y μ k => ∃ ns ms : List Int, x = .tup (ns.map D.int) ∧ y = .tup (ms.map D.int) ∧ k (.bl (HT.lexLt ns ms)) μ
theorem okLtT : OkOp K (rLtT K) oLtT := fun x y a b μ G H k Q w rx ry q t => by
  obtain ⟨ns, ms, rfl, rfl, q⟩ := q
  cases rx with
  | tup h1 r1 =>
    cases ry with
    | tup h2 r2 =>
      have := r1.ints
      subst this
      have := r2.ints
      subst this
      exact ⟨_, _, ns, ms, rfl, rfl, SqT.of (w.ex _ _ h1), SqT.of (w.ex _ _ h2), t _ _ μ G H q w (Go.refl _ _ _) (.bl _)⟩
/-! dicts with tuple keys -/
def keyT : List D → Option (List Key)
  | [] => some []
  | d :: ds => match keyD d, keyT ds with
    | some k, some ks => some (k :: ks)
    | _, _ => none
theorem keyT_out {G : Hp} : ∀ {ds : List D} {vs : List V} {ks : List Key}, RepL K G vs ds → keyT ds = some ks → vs = ks.map kV
  | _, _, _, .nil, e => by unfold keyT at e; cases e; rfl
  | _, _, _, .cons h t, e => by
    unfold keyT at e
    split at e
    · rename_i k ks q1 q2
      cases e
      rw [keyD_out h q1, keyT_out t q2]; rfl
    · cases e
@[simp] theorem keyT_ints (ns : List Int) : keyT (ns.map D.int) = some (ns.map Sum.inl) := by
  induction ns with
  | nil => rfl
  | cons n ns ih => simp [keyT, ih]
/-- {}, its keys tuples -/
@[simp] def rDNewT : RE := fun _ μ k => ∀ p, μ p = none → k (.own p) (muSet μ p (.t []))
theorem okE_dnewT : OkE K tDNewT rDNewT := fun σ δ μ G H k Q S w q b p hp => b _ _ _ G _ (q p (w.mnone hp)) (w.newC hp (.t (kvs := []) (kds := []) rfl .nil)) (Go.newC w hp) (.own p)
/-- d[t] = v -/
@[simp] def rDPutT (rd ry rv : RE) : RS := fun DD δ μ => rv δ μ fun v μ1 => rd δ μ1 fun o μ2 => ry δ μ2 fun y μ3 => match o, y with
  | .own p, .tup ds => ∃ kds key, μ3 p = some (.t kds) ∧ keyT ds = some key ∧ kds.length < 1000000 ∧ DD.nx δ (muSet μ3 p (.t (putG kds key v)))
  | _, _ => False
theorem okS_dputT {td ty tv : TE} {rd ry rv : RE} (hd : OkE K td rd) (hy : OkE K ty ry) (hv : OkE K tv rv) : OkS K (sDPut td ty tv) (rDPutT rd ry rv) := fun σ δ μ G H DD D S w q b =>
  hv σ δ μ G H _ _ S w q fun v dv μ1 G1 H1 q1 w1 g1 r1 => hd σ δ μ1 G1 H1 _ _ (S.mono g1.eg) w1 q1 fun o dO μ2 G2 H2 q2 w2 g2 r2 =>
  hy σ δ μ2 G2 H2 _ _ (S.mono (g1.eg.trans g2.eg)) w2 q2 fun y dy μ3 G3 H3 q3 w3 g3 r3 => by
    split at q3
    · rename_i p ds
      obtain ⟨kds, key, e1, e2, h3, q3⟩ := q3
      cases r2
      cases r3 with
      | tup ht rl =>
        obtain ⟨_, kvs, hp, ek, rv2⟩ := w3.muT p kds e1
        have := keyT_out rl e2
        subst this
        have hl : kvs.length = kds.length := by have := congrArg List.length ek; simpa using this
        have rt : RepT K G3 kvs kds := ⟨ek, rv2⟩
        have r4 := rt.put key (r1.mono (g2.eg.trans g3.eg))
        refine ⟨p, _, rfl, DPut.t hp (w3.ex _ _ ht) (sz_lt (by rw [hl]; exact h3)), ?_⟩
        rw [putV_eq]
        exact b.nx _ _ _ G3 _ q3 (S.mono (g1.eg.trans (g2.eg.trans g3.eg))) (w3.wrC e1 (.t r4.ks r4.vs)) ((g1.trans (g2.trans g3)).trans (Go.wrC e1))
    · exact q3.elim
end
theorem ks_dput {X : Cx} {o i value : Expr} {td ty tv : TE} {pos pos' : Pos} (hu : X.A.units + 1 < cLine) (ho : PE X o td) (hi : PE X i ty) (hv : PE X value tv) (hs : swapsWith value (some (.Subscript o i pos')) pos.line X.env = pure false := by rfl) :
    PS X (.Assign [.Subscript o i pos'] value pos) (sDPut td ty tv) := ps_dput hu ho hi hv hs
end DL


set_option Elab.async false
set_option linter.all false
set_option maxRecDepth 100000
set_option maxHeartbeats 4000000
/-! DLz: sorted(d), d a dict whose keys are tuples of ints. -/
namespace DL
open PySem PySem.Spec PyProof.Rows L2 SlX StX
open PySem.W (AllAlike Sortable EachIs dataLe sortVals dataKind SortsAt sortVals_data sortVals_length list_sort_vals sortingHeap alike)
def encT (n : List Int) : PyData := .tuple (n.map .int)
def leT : List Int → List Int → Bool := dataLe false encT
def rSortDT : List V → Hp → VK → Prop := fun xs H Q => ∃ (a : Addr) (kvs : List (List Key × V)) (ns : List (List Int)), xs = [.ref a] ∧ L2.Rd H a (.dT kvs) ∧ kvs.map (·.1) = ns.map (List.map Sum.inl) ∧ (∀ n ∈ ns, n ≠ []) ∧ ns.length ≤ 1000000 ∧
  ∀ (cs : List Addr) (p : Addr), H p = none → cs.length = ns.length → (∀ (j : Nat) (n : List Int), (ns.mergeSort leT)[j]? = some n → ∃ c, cs[j]? = some c ∧ H c = some (.tup (n.map V.int))) → Q (.ref p) (upd H p (.lst (cs.map V.ref)))
def RvT (H : Hp) (v : Value) (n : List Int) : Prop := ∃ a, v = .ref a ∧ H a = some (.tup (n.map V.int))
theorem reads_tup {P : Program} {w : World} {H : Hp} {h : Heap} {v : Value} {n : List Int} (ok : HOk P w H h) (r : RvT H v n) : ∃ as, Reads h v (encT n) as := by
  obtain ⟨a, rfl, e⟩ := r
  obtain ⟨_, its, rv, o, ho, hc, c, hd⟩ := ok a _ e
  exact ⟨[], .tuple ho hc hd (by simpa using reads_ints (h := h) rv)⟩
theorem each_get {α β : Type} {R : α → β → Prop} : ∀ {as : List α} {bs : List β}, EachIs R as bs → as.length = bs.length ∧ ∀ (j : Nat) (b : β), bs[j]? = some b → ∃ a, as[j]? = some a ∧ R a b
  | _, _, .nil => ⟨rfl, fun j b h => by simp at h⟩
  | _, _, .cons h t => by
    obtain ⟨h1, h2⟩ := each_get t
    refine ⟨by rw [List.length_cons, List.length_cons, h1], fun j b e => ?_⟩
    cases j with
    | zero => simp at e; subst e; exact ⟨_, rfl, h⟩
    | succ j => exact h2 j b (by simpa using e)
theorem each_of {α β : Type} {R : α → β → Prop} : ∀ {as : List α} {bs : List β}, as.length = bs.length → (∀ (j : Nat) (a : α) (b : β), as[j]? = some a → bs[j]? = some b → R a b) → EachIs R as bs
  | [], [], _, _ => .nil
  | a :: as, b :: bs, e, h => .cons (h 0 a b rfl rfl) (each_of (by simpa using e) fun j x y h1 h2 => h (j + 1) x y (by simpa using h1) (by simpa using h2))
  | [], _ :: _, e, _ => by simp at e
  | _ :: _, [], e, _ => by simp at e
theorem call_sortedDT {X : Cx} (hc : X.calm = true) (hu : X.A.units + 8 < cLine) : CallR X (.builtin "sorted") rSortDT := by
  intro pins s σ H xs us Q I r h
  obtain ⟨d, kvs, ns, rfl, hd, hk, hn, hz, q⟩ := h
  obtain ⟨u, rfl, rx⟩ := r.one
  cases rx
  obtain ⟨z, hs, ks, pr, o, es, ep, ho, hx, hdt, he, hnd⟩ := (show ObjOk X.prog X.w H s.heap d (.dT kvs) from hd.ok I.hok)
  have l1 : es.size = ks.length := size_of_entries he
  have l2 : kvs.length = ks.length := Paired.length pr
  have l3 : kvs.length = ns.length := by have := congrArg List.length hk; simpa using this
  refine Calls.call_function_entry PyProof.Rows.kind_sorted PyProof.Rows.plain_sorted PyProof.Rows.entry_sorted (PyProof.Rows.args_sorted1 _) ?_
  unfold Builtin.«sorted»
  refine wpAny_bind (m := checkCount "sorted" 1 1 _) (wpAny_pure ?_)
  refine wpAny_bind (PySem.W.kdu_collect (A := X.A.in1) (kdl_raw hs hx hdt) (I.ok.hd hc) ho (by omega) fun h' tk acc kp it => ?_)
  have ea : acc.toList = ks.map fun x => Value.ref x.2.1 := by
    have hl : acc.toList.length = ks.length := by rw [Array.length_toList, it.1]; exact l1
    apply List.ext_getElem?
    intro j
    rw [List.getElem?_map]
    cases hj : acc.toList[j]? with
    | none =>
      have h1 := List.getElem?_eq_none_iff.mp hj
      rw [List.getElem?_eq_none (by omega)]
      all_goals rfl
    | some v =>
      obtain ⟨en, hen, hv⟩ := it.2 j v (by rw [← Array.getElem?_toList]; exact hj)
      have qe := entry_at he j
      rw [hen] at qe
      cases hb : ks[j]? with
      | none =>
        rw [hb] at qe
        exact nomatch (show some en = none from qe)
      | some b =>
        rw [hb] at qe
        have e2 : en = entryOfKey (tupleKind (mixKind X.prog X.w)) b := Option.some.inj qe
        rw [hv, e2]
        all_goals rfl
  have hR : EachIs (RvT H) acc.toList ns := by
    refine each_of (by rw [ea, List.length_map]; omega) fun j v n hv hn => ?_
    rw [ea, List.getElem?_map] at hv
    cases hb : ks[j]? with
    | none => rw [hb] at hv; simp at hv
    | some b =>
      rw [hb] at hv
      simp at hv
      subst hv
      obtain ⟨p, hp, hp1, hp2, hp3⟩ : ∃ p, kvs[j]? = some p ∧ p.1 = b.1 ∧ H b.2.1 = some (.tup (p.1.map kV)) ∧ RelV p.2 b.2.2 := by
        have : ∀ {kvs : List (List Key × V)} {ks : List (List Key × Addr × Value)}, Paired (fun (p : List Key × V) (q : List Key × Addr × Value) => p.1 = q.1 ∧ H q.2.1 = some (.tup (p.1.map kV)) ∧ RelV p.2 q.2.2) kvs ks → ∀ {j : Nat} {b}, ks[j]? = some b → ∃ p, kvs[j]? = some p ∧ p.1 = b.1 ∧ H b.2.1 = some (.tup (p.1.map kV)) ∧ RelV p.2 b.2.2 := by
          intro kvs ks pr
          induction pr with
          | nil => intro j b e; simp at e
          | cons h t ih =>
            intro j b e
            cases j with
            | zero => simp at e; subst e; exact ⟨_, rfl, h.1, h.2.1, h.2.2⟩
            | succ j => exact ih (by simpa using e)
        exact this pr hb
      have e3 : p.1 = n.map Sum.inl := by
        have := congrArg (fun l => l[j]?) hk
        simp only [List.getElem?_map, hp, hn, Option.map_some] at this
        exact Option.some.inj this
      refine ⟨b.2.1, rfl, ?_⟩
      rw [hp2, e3, List.map_map]
      rfl
  have I1 : Inv X pins σ H { s with heap := h', toks := tk } := I.kept kp
  have hal : acc.toList.length = ns.length := (each_get hR).1
  refine wpAny_bind (wpAny_newList ?_ (by rw [hal]; exact sz_of hz))
  have hoL : (h'.push (seqObj "list" acc.toList.toArray 0)).get? h'.objs.size = some (seqObj "list" acc.toList.toArray 0) := Heap.get?_push_size _ rfl
  have kp2 : ∀ b u, h'.get? b = some u → (sortingHeap (h'.push (seqObj "list" acc.toList.toArray 0)) h'.objs.size acc.toList).get? b = some u := fun b u e =>
    PySem.W.sortingHeap_old (Nat.ne_of_lt (Heap.lt_size e)) (Heap.get?_push_of_some _ e)
  have er : EachIs (fun v b => ∃ as, Reads (sortingHeap (h'.push (seqObj "list" acc.toList.toArray 0)) h'.objs.size acc.toList) v (encT b) as) acc.toList ns :=
    hR.mono fun v n rt => let ⟨as, z⟩ := reads_tup I1.hok rt; ⟨as, PyProof.Rows.Reads.keeps kp2 z⟩
  have aal : AllAlike (ns.map encT) := AllAlike.of fun b b' => by
    show alike (.tuple (b.map .int)) (.tuple (b'.map .int)) = true
    simp [alike, PySem.W.alike_ints]
  have srt : Sortable (ns.map encT) := .inl fun d hd => by
    obtain ⟨n, hm, rfl⟩ := List.mem_map.mp hd
    cases n with
    | nil => exact absurd rfl (hn [] hm)
    | cons x n => exact ⟨.int x, n.map .int, rfl⟩
  show wpAny _ _ _ _ _ { s with heap := h'.push (seqObj "list" acc.toList.toArray 0), toks := tk }
  refine wpAny_bind (wpAny_holding (wpAny_call_entry PyProof.Rows.slot_list_sort ⟨_, hoL, rfl⟩ PyProof.Rows.entry_list_sort
    (list_sort_vals (κ := dataKind (sortingHeap (h'.push (seqObj "list" acc.toList.toArray 0)) h'.objs.size acc.toList) (ns.map encT)) (s := { s with heap := h'.push (seqObj "list" acc.toList.toArray 0), toks := tk }) hoL
      (SortsAt.data (PySem.W.each_map (R := fun v d => ∃ as, Reads (sortingHeap (h'.push (seqObj "list" acc.toList.toArray 0)) h'.objs.size acc.toList) v d as) encT er) aal srt (fun d hd => ?_)) (by rw [hal]; exact sz_of hz) ⟨_, rfl, ?_⟩) (PyProof.Rows.args_list_sort _)))
  · obtain ⟨n, hm, rfl⟩ := List.mem_map.mp hd
    have : (encT n).depth ≤ 1 := by
      show PyData.depth (.tuple (n.map .int)) ≤ 1
      simp [PyData.depth, depthAll_ints]
    show X.A.units + 1 + 1 + (encT n).depth < cLine
    omega
  · have ho2 := sortVals_data false hR er aal
    obtain ⟨e', he'⟩ := PyProof.Rows.sortedHeap_at (vs := acc.toList) (out := (sortVals (dataKind (sortingHeap (h'.push (seqObj "list" acc.toList.toArray 0)) h'.objs.size acc.toList) (ns.map encT)) false acc.toList acc.toList).toArray) hoL
    generalize hout : sortVals (dataKind (sortingHeap (h'.push (seqObj "list" acc.toList.toArray 0)) h'.objs.size acc.toList) (ns.map encT)) false acc.toList acc.toList = out at ho2 he'
    obtain ⟨g1, g2⟩ := each_get ho2
    have g3 : out.length = ns.length := by rw [g1, (List.mergeSort_perm _ _).length_eq]
    obtain ⟨cs, hcs⟩ : ∃ cs : List Addr, out = cs.map Value.ref := by
      have : ∀ {out : List Value} {ms : List (List Int)}, EachIs (RvT H) out ms → ∃ cs : List Addr, out = cs.map Value.ref := by
        intro out ms e
        induction e with
        | nil => exact ⟨[], rfl⟩
        | cons h t ih =>
          obtain ⟨a, rfl, _⟩ := h
          obtain ⟨cs, rfl⟩ := ih
          exact ⟨a :: cs, rfl⟩
      exact this ho2
    have hlen : cs.length = ns.length := by rw [← g3, hcs, List.length_map]
    refine wpAny_pure ⟨_, rfl, .ref h'.objs.size, upd H h'.objs.size (.lst (cs.map V.ref)), I1.laid (t' := tk) (fun b u e => ?_) (Nat.le_refl _)
      (show ObjOk X.prog X.w _ _ _ (.lst (cs.map V.ref)) from ⟨by rw [List.length_map, hlen]; exact sz_of hz, out, e', by rw [hcs]; exact L2.vals_refs cs, he'⟩), rfl, q cs _ (I1.hok.fresh (Nat.le_refl _)) hlen fun j n e => ?_⟩
    · have hb : b < h'.objs.size := Heap.lt_size e
      rw [PyProof.Rows.sortedHeap_old (Nat.ne_of_lt hb) (by rw [size_push']; exact Nat.lt_succ_of_lt hb)]
      exact Heap.get?_push_of_some _ e
    · obtain ⟨v, hv, a, rfl, ha⟩ := g2 j n e
      rw [hcs, List.getElem?_map] at hv
      cases qc : cs[j]? with
      | none => rw [qc] at hv; simp at hv
      | some c => rw [qc] at hv; simp at hv; subst hv; exact ⟨c, rfl, ha⟩
theorem leT_eq : leT = fun p q => decide (p ≤ q) := by
  funext p q
  show (!PySem.W.dataLt (.tuple (q.map .int)) (.tuple (p.map .int))) = _
  rw [PySem.W.dataLt_tuple]
  show (!PySem.W.rowLt (q.map .int) (p.map .int)) = _
  rw [PySem.W.dataLt_ints]
  by_cases h : q < p
  · have h' : ¬ p ≤ q := fun r => List.not_lt.mpr r h
    simp [h, h']
  · have h' : p ≤ q := List.not_lt.mp h
    simp [h, h']
theorem lexLt_eq : ∀ x y : List Int, HT.lexLt x y = decide (x < y)
  | [], [] => by simp [HT.lexLt]
  | [], _ :: _ => by simp [HT.lexLt]
  | _ :: _, [] => by simp [HT.lexLt]
  | x :: xs, y :: ys => by
    rw [HT.lexLt_cons, lexLt_eq xs ys]
    by_cases h : x = y
    · subst h; simp [List.cons_lt_cons_iff]
    · simp [h, List.cons_lt_cons_iff]
theorem sortT_perm (ns : List (List Int)) : (ns.mergeSort leT).Perm ns := List.mergeSort_perm _ _
theorem sortT_le (ns : List (List Int)) : (ns.mergeSort leT).Pairwise (fun p q => p ≤ q) := by
  have h := List.pairwise_mergeSort (le := leT) (fun a b c h1 h2 => by
    rw [leT_eq] at h1 h2 ⊢
    exact decide_eq_true (List.le_trans (of_decide_eq_true h1) (of_decide_eq_true h2))) (fun a b => by
    rw [leT_eq]
    rcases List.le_total a b with z | z
    · simp [z]
    · simp [z]) ns
  exact h.imp fun {a b} e => by rw [leT_eq] at e; exact of_decide_eq_true e
theorem sortT_lt {ns : List (List Int)} (nd : ns.Nodup) : (ns.mergeSort leT).Pairwise (fun p q => p < q) := by
  have h1 := sortT_le ns
  have h2 : (ns.mergeSort leT).Nodup := (sortT_perm ns).nodup_iff.mpr nd
  exact (h1.and h2).imp fun {a b} ⟨x, y⟩ => by
    rcases Classical.em (a < b) with z | z
    · exact z
    · exact absurd (List.le_antisymm x (List.not_lt.mp z)) y
/-! ### over data -/
section
variable {K : PySem.W.Frag}
theorem tup_own {G H : Hp} {μ : Mu} {a : Addr} {vs : List V} (w : Wd K G H μ) (h : H a = some (.tup vs)) : μ a = none := by
  cases e : μ a with
  | none => rfl
  | some c =>
    obtain ⟨_, o, h2, h3⟩ := w.mu a c e
    rw [h] at h2
    cases h2
    cases h3
/-- a tuple that stands is data -/
theorem wd_tup {G H : Hp} {μ : Mu} {a : Addr} {vs : List V} {ds : List D} (w : Wd K G H μ) (h : H a = some (.tup vs)) (r : RepL K G vs ds) : ∃ G', Wd K G' H μ ∧ Go μ G H μ G' H ∧ Rep K G' (.ref a) (.tup ds) := by
  cases e : G a with
  | some o =>
    have := w.ex _ _ e
    rw [h] at this
    cases this
    exact ⟨G, w, Go.refl _ _ _, .tup e r⟩
  | none =>
    have hm := tup_own w h
    refine ⟨upd G a (.tup vs), ⟨fun b o q => ?_, fun q c hq => ?_⟩, ⟨Ex.new e, fun _ _ h _ => h, fun _ h => .inl h, fun b hb => ?_⟩, .tup upd_same (r.mono (Ex.new e))⟩
    · by_cases z : b = a
      · subst z; rw [upd_same] at q; cases q; exact h
      · rw [upd_ne z] at q; exact w.ex _ _ q
    · obtain ⟨h1, o, h2, h3⟩ := w.mu q c hq
      have z : q ≠ a := fun z => by subst z; rw [hm] at hq; cases hq
      exact ⟨by rw [upd_ne z]; exact h1, o, h2, h3.mono (Ex.new e)⟩
    · by_cases z : b = a
      · subst z; exact .inr (.inr (.inr ⟨vs, h⟩))
      · rw [upd_ne z] at hb; exact .inl hb
abbrev rowI (n : List Int) : D := .tup (n.map D.int)
theorem wd_tups {H : Hp} {μ : Mu} : ∀ {cs : List Addr} {ys : List (List Int)} {G : Hp}, Wd K G H μ → cs.length = ys.length → (∀ (j : Nat) (n : List Int), ys[j]? = some n → ∃ c, cs[j]? = some c ∧ H c = some (.tup (n.map V.int))) →
    ∃ G', Wd K G' H μ ∧ Go μ G H μ G' H ∧ RepL K G' (cs.map V.ref) (ys.map rowI)
  | [], [], G, w, _, _ => ⟨G, w, Go.refl _ _ _, .nil⟩
  | c :: cs, y :: ys, G, w, e, h => by
    obtain ⟨c', hc, ht⟩ := h 0 y rfl
    cases hc
    obtain ⟨G1, w1, g1, r1⟩ := wd_tup w ht (RepL.of_ints y)
    obtain ⟨G2, w2, g2, r2⟩ := wd_tups (cs := cs) (ys := ys) w1 (by simpa using e) fun j n hn => h (j + 1) n (by simpa using hn)
    exact ⟨G2, w2, g1.trans g2, .cons (r1.mono g2.eg) r2⟩
  | [], _ :: _, _, _, e, _ => by simp at e
  | _ :: _, [], _, _, e, _ => by simp at e
/-- a dict with tuple keys that is read -/
def tAt (μ : Mu) (p : Addr) : Option (List (List Key × D)) := match μ p with
  | some (.t kvs) => some kvs
  | _ => none
@[simp] theorem tAt_iff {μ : Mu} {p : Addr} {kvs : List (List Key × D)} : tAt μ p = some kvs ↔ μ p = some (.t kvs) := by
  unfold tAt
  constructor
  · intro h
    split at h
    · rename_i e; cases h; exact e
    · cases h
  · intro h; rw [h]
@[simp] def asT (μ : Mu) : D → Option (List (List Key × D))
  | .dt ks ds => some (ks.zip ds)
  | .own p => tAt μ p
  | _ => none
theorem asT_out {μ : Mu} {G H : Hp} {v : V} {d : D} {kds : List (List Key × D)} (w : Wd K G H μ) (r : Rep K G v d) (e : asT μ d = some kds) : ∃ a kvs, v = .ref a ∧ H a = some (.dT kvs) ∧ RepT K G kvs kds := by
  cases r with
  | @dt a ks vs ds h hl q =>
    cases e
    refine ⟨_, _, rfl, w.ex _ _ h, RepT.back ?_ ?_⟩
    · rw [List.map_fst_zip (by omega)]
    · rw [List.map_snd_zip (by omega)]; exact q
  | own p =>
    obtain ⟨_, kvs, h, e1, q⟩ := w.muT p _ (tAt_iff.mp e)
    exact ⟨_, _, rfl, h, e1, q⟩
  | _ => cases e
@[simp] def oSortT : FL := fun ds μ k => ∃ (x : D) (kds : List (List Key × D)) (ns : List (List Int)), ds = [x] ∧ asT μ x = some kds ∧ kds.map (·.1) = ns.map (List.map Sum.inl) ∧ (∀ n ∈ ns, n ≠ []) ∧ ns.length ≤ 1000000 ∧ k (.lst ((ns.mergeSort leT).map rowI)) μ
theorem okSortT : OkC K rSortDT oSortT := fun xs as μ G H k Q w r q t => by
  obtain ⟨x, kds, ns, rfl, e, hk, hn, hz, q⟩ := q
  cases r with
  | cons r rr =>
    cases rr
    obtain ⟨a, kvs, rfl, ha, rt⟩ := asT_out w r e
    refine ⟨a, kvs, ns, rfl, .inl ha, by rw [rt.ks]; exact hk, hn, hz, fun cs p hp hl hc => ?_⟩
    obtain ⟨G', w', g', r'⟩ := wd_tups (cs := cs) (ys := ns.mergeSort leT) w (by rw [hl, (sortT_perm ns).length_eq]) hc
    exact mkLst w' r' q (fun v d μ2 G2 H2 qk w2 g2 r2 => t v d μ2 G2 H2 qk w2 (g'.trans g2) r2) p hp
theorem kc_sortDT {X : Cx} (hu : X.A.units + 8 < cLine) (hc : X.calm = true := by rfl) : CallR X (.builtin "sorted") rSortDT := call_sortedDT hc hu
end
theorem units0 {a : Nat} (h : a + 64 < cLine) : a < cLine := by omega
theorem units8 {a : Nat} (h : a + 64 < cLine) : a + 8 < cLine := by omega
theorem ke_globS {X : Cx} {x y : Str} {pos : Pos} {mg : Str → Option Value} (h : ∃ t, mg x = some (.str y t)) (hm : X.mg = mg := by rfl) (hg : Gl X x := by rfl) (hd : (x == ("__debug__" : Str)) = false := by decide) : PE X (.Name x pos) (tC (.str y)) := by
  subst hm
  obtain ⟨t, h⟩ := h
  exact pe_glob hg h ⟨_, rfl⟩ hd
section
variable {K : PySem.W.Frag} {C : Addr}
theorem slo {f : Str} {i : Nat} {te : TE} {ra : RE} (c : SCls K C) (s : ∃ p, Slot1 K C f p i) (h : OkE K te ra) : OkE K (SlX.tSl K te f) (rSlo C i ra) := by
  obtain ⟨p, s⟩ := s
  exact okE_slo c s h
theorem gslo {f : Str} {i : Nat} {te : TE} {re : RE} (c : SCls K C) (s : ∃ p, Slot1 K C f p i) (h : OkE K te re) : OkG K (gSlA K te f) (rgSlo C i re) [] := by
  obtain ⟨p, s⟩ := s
  exact okG_slo c s h
end
def isNon : D → Bool
  | .non => true
  | .pd .none => true
  | _ => false
@[simp] def oIsN : F2 := fun x y μ k => y = .non ∧ k (.bl (isNon x)) μ
@[simp] def oNotN : F2 := fun x y μ k => y = .non ∧ k (.bl (!isNon x)) μ
section
variable {K : PySem.W.Frag}
theorem isNon_rep {G : Hp} {v : V} {d : D} (r : Rep K G v d) : decide (v = .non) = isNon d := by
  cases r with
  | pd h => cases h <;> simp [isNon]
  | _ => simp [isNon]
theorem okIsN : OkOp K (fun x y H Q => y = .non ∧ Q (.bl (decide (x = .non))) H) oIsN := fun x y a b μ G H k Q w rx ry ⟨e, q⟩ t => by
  subst e
  cases ry
  exact ⟨rfl, by rw [isNon_rep rx]; exact t _ _ μ G H q w (Go.refl _ _ _) (.bl _)⟩
theorem okNotN : OkOp K (fun x y H Q => y = .non ∧ Q (.bl (!decide (x = .non))) H) oNotN := fun x y a b μ G H k Q w rx ry ⟨e, q⟩ t => by
  subst e
  cases ry
  exact ⟨rfl, by rw [isNon_rep rx]; exact t _ _ μ G H q w (Go.refl _ _ _) (.bl _)⟩
end
section
variable {K : PySem.W.Frag}
/-- xs * n, a list that will change -/
@[simp] def oRepO : F2 := fun x y μ k => ∃ xs, asL μ x = some xs ∧ ∃ j, y = .int j ∧ xs.length ≤ 1000 ∧ j ≤ 1000 ∧ -1000 ≤ j ∧ ∀ p, μ p = none → k (.own p) (muSet μ p (.l (List.replicate j.toNat xs).flatten))
theorem okRepO : OkOp K rRep oRepO := fun x y a b μ G H k Q w rx ry ⟨xs, e1, j, e2, hl, h1, h0, q⟩ t => by
  obtain ⟨p, vs, rfl, hp, r1⟩ := asL_out w rx e1
  subst e2
  cases ry
  refine ⟨p, j, vs, rfl, rfl, hp, by omega, by omega, ?_, fun l hl => mkOwn w (r1.flat _) q t l hl⟩
  rw [r1.length]
  exact Nat.le_trans (Nat.mul_le_mul hl (show j.toNat ≤ 1000 by omega)) (by decide)
end
end DL


set_option Elab.async false
set_option linter.all false
set_option maxRecDepth 100000
set_option maxHeartbeats 4000000
/-! DU: a tuple read backwards, t[::-1]. -/
namespace DL
open PySem PySem.Spec PyProof.Rows L2 SlX StX
/-- the slice's object asks all, from the end on -/
theorem back_applied {prog : Program} {w : World} {A : Around} {E : Value → Shared → Prop} {s : Shared} {sl : Addr} {vk : Value} {n : Nat} {Q : Int × Int × Nat → Shared → Prop} (hs : s.heap.IsSliceOf sl .none .none vk) (pk : IsPart vk (some (-1)))
    (h : Q ((n : Int) - 1, -1, n) s) : wpAny (model prog w) A (Builtin.Slice.sliceApplied (.ref sl) (pure (n : Int))) Q E s := by
  obtain ⟨os, ho, _, hd⟩ := id hs
  unfold Builtin.Slice.sliceApplied Builtin.Slice.sliceFields
  refine wpAny_bind (wpAny_bind ?_)
  refine wpAny_field ho hd (x := .none) rfl (wpAny_bind ?_)
  refine wpAny_field ho hd (x := .none) rfl (wpAny_bind ?_)
  refine wpAny_field ho hd (x := vk) rfl (wpAny_bind (wpAny_pure (wpAny_pure ?_)))
  refine wpAny_bind (HT.slicePart_ pk ?_)
  show wpAny _ _ (if ((-1 : Int) == 0) = true then _ else _) _ _ s
  rw [if_neg (by decide)]
  refine wpAny_bind (HT.slicePart_ .none (wpAny_bind (HT.slicePart_ .none (wpAny_bind (wpAny_pure ?_)))))
  have e : Builtin.Slice.slicePlaces ((n : Int) - 1) (-1) (-1) = n := by
    unfold Builtin.Slice.slicePlaces
    rw [if_neg (by decide)]
    split
    · have : ((n : Int) - 1 - -1 - 1) / (- -1) + 1 = n := by
        rw [show (- -1 : Int) = 1 by rfl, Int.ediv_one]; omega
      rw [this]; rfl
    · have : n = 0 := by omega
      subst this; rfl
  show wpAny _ _ (pure ((n : Int) - 1, (-1 : Int), Builtin.Slice.slicePlaces ((n : Int) - 1) (-1) (-1))) _ _ s
  rw [e]
  exact wpAny_pure h
theorem back_items (xs : Array Value) : ((List.range xs.size).filterMap fun (k : Nat) => xs[((xs.size : Int) - 1 + (k : Int) * -1).toNat]?) = xs.toList.reverse := by
  apply List.ext_getElem?
  intro j
  have e : (List.range xs.size).filterMap (fun (k : Nat) => xs[((xs.size : Int) - 1 + (k : Int) * -1).toNat]?) = (List.range xs.size).map fun k => xs.getD (xs.size - 1 - k) default := by
    have hg : ∀ k ∈ List.range xs.size, xs[((xs.size : Int) - 1 + (k : Int) * -1).toNat]? = some (xs.getD (xs.size - 1 - k) default) := fun k hk => by
      have hk := List.mem_range.mp hk
      have e1 : ((xs.size : Int) - 1 + (k : Int) * -1).toNat = xs.size - 1 - k := by omega
      have h1 : xs.size - 1 - k < xs.size := by omega
      rw [e1]
      simp [Array.getD, h1]
    generalize List.range xs.size = l at hg
    induction l with
    | nil => rfl
    | cons k l ih =>
      rw [List.filterMap_cons, hg k (by simp), List.map_cons, ih fun j hj => hg j (List.mem_cons_of_mem _ hj)]
  rw [e]
  by_cases hj : j < xs.size
  · have h1 : xs.size - 1 - j < xs.size := by omega
    rw [List.getElem?_map, List.getElem?_range hj, List.getElem?_reverse (by simpa using hj)]
    simp [Array.getD, h1]
  · rw [List.getElem?_eq_none (by simpa using hj), List.getElem?_eq_none (by simpa using hj)]
theorem back_tuple {prog : Program} {w : World} {A : Around} {E : Value → Shared → Prop} {s : Shared} {t sl : Addr} {items : Array Value} {vk : Value} {Q : Value → Shared → Prop} (ht : PyProof.Rows.IsTup s.heap t items) (hs : s.heap.IsSliceOf sl .none .none vk) (pk : IsPart vk (some (-1)))
    (h : Q (.ref s.heap.objs.size) { s with heap := s.heap.push { cls := .type "tuple", data := .seq items.toList.reverse.toArray } }) (hz : items.size ≤ sizeLine) : wpAny (model prog w) A (getItem (.ref t) (.ref sl)) Q E s := by
  have ok : sizeOk (.seq items.toList.reverse.toArray) := by
    show items.toList.reverse.toArray.size ≤ sizeLine
    simpa using hz
  obtain ⟨os, ho, hc, _⟩ := id hs
  have tySl : s.TypeIs (.ref sl) "slice" := ⟨os, ho, hc⟩
  unfold getItem
  try with_reducible refine wpAny_holding ?_
  first | refine wpAny_bind (wpAny_pure ?_) | skip
  refine wpAny_bind (wpAny_sequenceKey ht.typeIs (by decide) ?_)
  refine wpAny_bind (wpAny_callSpecial?_slot (name := Str.ofString "__getitem__") ht.typeIs PyProof.Rows.slot_tuple_getitem ?_)
  refine wpAny_call_entry PyProof.Rows.slot_tuple_getitem ht.typeIs entry_tuple_getitem ?_ (args_tuple_getitem _ _)
  show wpAny _ _ (Builtin.Tuple.tupleItemsOf (.ref t) >>= _) _ _ s
  refine wpAny_bind (PyProof.Rows.tupleItemsOf_ ht (wpAny_bind (wpAny_typeOf tySl ?_)))
  rw [if_pos (by decide)]
  refine wpAny_bind (back_applied hs pk ?_)
  show wpAny _ _ (if (((items.size : Int) - 1 == 0 && (-1 : Int) == 1 && items.size == items.size) = true) then _ else _) _ _ s
  rw [if_neg (by simp), back_items]
  first
    | exact wpAny_bind (m := Builtin.Tuple.tupleExact _) (wpAny_newObj_type (wpAny_pure ⟨_, rfl, wpAny_pure h⟩) ok)
    | exact wpAny_bind (m := Builtin.Tuple.tupleExact _) (wpAny_newObj_type (wpAny_bind (wpAny_pure (wpAny_pure ⟨_, rfl, wpAny_pure h⟩))) ok)
    | exact wpAny_bind (wpAny_bind (m := Builtin.Tuple.tupleExact _) (wpAny_newObj_type (wpAny_pure (wpAny_pure ⟨_, rfl, wpAny_pure h⟩)) ok))
    | exact wpAny_bind (wpAny_bind (m := Builtin.Tuple.tupleExact _) (wpAny_newObj_type (wpAny_pure ⟨_, rfl, wpAny_pure h⟩) ok))
theorem vals_reverse {xs : List V} {us : List Value} (r : Vals xs us) : Vals xs.reverse us.reverse := by
  induction r with
  | nil => exact .nil
  | cons h t ih =>
    rw [List.reverse_cons, List.reverse_cons]
    exact Vals.append ih (.cons h .nil)
def tBackT (K : PySem.W.Frag) (te : TE) (ts : TO) : TE := fun σ H Q => te σ H fun x H1 => ts σ H1 fun l H2 => l = some (-1) ∧ ∃ (a : Addr) (xs : List V), x = .ref a ∧ SqT K H2 a xs ∧ ∀ p, H2 p = none → Q (.ref p) (upd H2 p (.tup xs.reverse))
theorem pe_backT {X : Cx} {e st : Expr} {te : TE} {ts : TO} {pos p2 : Pos} (he : PE X e te) (hs : PO X (some st) ts) : PE X (.Subscript e (.Slice none none (some st) p2) pos) (tBackT X.K te ts) := by
  refine ⟨fun pins s σ H Q I h => ?_⟩
  refine subD_of PyProof.Rows.slot_tuple_getitem.lookup (fun _ _ => rfl) (thn (he.run pins s σ H _ I h) fun v t1 ⟨x, H1, J1, rx, q1⟩ => wpAny_Slice ?_)
  rw [evalPart_none]
  refine wpAny_pure (wpAny_pure (thn (hs.run pins t1 σ H1 _ J1 q1) fun vk t2 ⟨l, H2, J2, pk, el, a, xs, ex, sx, q2⟩ => ?_))
  subst el ex
  cases rx
  have J3 : Inv X pins σ H2 { t2 with heap := t2.heap.push { cls := .type "slice", data := .fields #[.none, .none, vk] } } := J2.kept (t' := t2.toks) fun b ob z => Heap.get?_push_of_some _ z
  obtain ⟨its, rv, ht, hz⟩ := J3.tuple sx
  have lz : its.toArray.size ≤ sizeLine := by rw [List.size_toArray, ← rv.length]; exact hz
  refine ⟨ht.typeIs, back_tuple ht (Heap.IsSliceOf.new ..) pk ?_ lz⟩
  refine ⟨.ref _, _, J3.laid (t' := t2.toks) (o := .tup xs.reverse) (fun b ob z => Heap.get?_push_of_some _ z) (Nat.le_refl _) ?_, rfl, q2 _ (J3.hok.fresh (Nat.le_refl _))⟩
  exact ⟨by rw [List.length_reverse]; exact hz, _, vals_reverse rv, PyProof.Rows.IsTup.new _ _⟩
theorem ke_backT (K : PySem.W.Frag) {X : Cx} {e st : Expr} {te : TE} {ts : TO} {pos p2 : Pos} (he : PE X e te) (hs : PO X (some st) ts) (hK : X.K = K := by rfl) : PE X (.Subscript e (.Slice none none (some st) p2) pos) (tBackT K te ts) := by subst hK; exact pe_backT he hs
section
variable {K : PySem.W.Frag}
/-- t[::-1] -/
@[simp] def rBackT (re : RE) (ro : RO) : RE := fun δ μ k => re δ μ fun x μ1 => ro δ μ1 fun l μ2 => l = some (-1) ∧ match x with | .tup ds => k (.tup ds.reverse) μ2 | _ => False
theorem RepL.reverse {G : Hp} : ∀ {ds : List D} {vs : List V}, RepL K G vs ds → RepL K G vs.reverse ds.reverse
  | _, _, .nil => .nil
  | _, _, .cons h t => by
    rw [List.reverse_cons, List.reverse_cons]
    exact (RepL.reverse t).append (.cons h .nil)
theorem okE_backT {te : TE} {ts : TO} {re : RE} {ro : RO} (he : OkE K te re) (ho : OkO K ts ro) : OkE K (tBackT K te ts) (rBackT re ro) := fun σ δ μ G H k Q S w q b =>
  he σ δ μ G H _ _ S w q fun x d μ1 G1 H1 q1 w1 g1 r1 => ho σ δ μ1 G1 H1 _ _ (S.mono g1.eg) w1 q1 fun l μ2 G2 H2 ⟨el, q2⟩ w2 g2 => by
    cases r1 with
    | tup h r =>
      exact ⟨el, _, _, rfl, SqT.of (w2.ex _ _ (g2.eg _ _ h)), mkTup w2 (r.mono g2.eg).reverse q2 (fun v d' μ3 G3 H3 qk w3 g3 r3 => b v d' μ3 G3 H3 qk w3 ((g1.trans g2).trans g3) r3)⟩
    | _ => exact q2.elim
end
/-- a def that keeps nothing: a promise that nobody can ask -/
theorem fnD_never {P : Program} {w : World} {K : PySem.W.Frag} {mg : Str → Option Value} {base : Heap} {x : Str} {st : Stmt} {ps : List Str} {k : Nat} (a : At K mg x st)
    (hb : ∀ (kV doc pm : Value) (an : Option Addr) (cdv ct : Value) (us : List Value), us.length = ps.length → bindArgs (PySem.W.fnOf x x (defArgs st) (defBody st) (defScope st) .none kV doc pm an cdv ct) ⟨us, []⟩ = pure (ps.zip us)) : FnD P w K mg base x k (fun _ _ _ => False) := by
  obtain ⟨f, fd, F, hm, hk⟩ := a.ex
  exact ⟨f, fd, ps, ⟨fun vs H Q E h => let ⟨_, _, _, _, _, _, z, _⟩ := h; z.elim, fun A outer s H args us vs Q E _ _ _ _ h => let ⟨_, _, _, _, _, _, z, _⟩ := h; z.elim⟩, hm, hk, F.binds hb⟩
end DL


set_option Elab.async false
set_option linter.all false
set_option maxRecDepth 100000
set_option maxHeartbeats 4000000
/-! DUb: xs.pop(i) of an own list; what the written part holds as data. -/
namespace DL
open PySem PySem.Spec PyProof.Rows L2 SlX
section
variable {K : PySem.W.Frag}
@[simp] def rPopI (ro re : RE) : RE := fun δ μ k => ro δ μ fun o μ1 => match o with
  | .own p => (∃ ds, μ1 p = some (.l ds)) ∧ re δ μ1 fun d μ2 => ∃ (ds : List D) (j : Nat) (y : D), μ2 p = some (.l ds) ∧ d = .int (j : Nat) ∧ j < 1000000 ∧ ds[j]? = some y ∧ k y (muSet μ2 p (ds.eraseIdx j))
  | _ => False
theorem RepL.erase {G : Hp} : ∀ {ds : List D} {vs : List V} (j : Nat), RepL K G vs ds → RepL K G (vs.eraseIdx j) (ds.eraseIdx j)
  | _, _, _, .nil => .nil
  | _, _, 0, .cons _ t => t
  | _, _, j + 1, .cons h t => .cons h (RepL.erase j t)
theorem okE_popI {to te : TE} {ro re : RE} (ho : OkE K to ro) (he : OkE K te re) : OkE K (tBM K "list" rPopAt to (tCons te tNil)) (rPopI ro re) := fun σ δ μ G H k Q S w q b =>
  ho σ δ μ G H _ _ S w q fun x o μ1 G1 H1 q1 w1 g1 r1 => by
    cases r1 with
    | own p =>
      obtain ⟨hp, q1⟩ := q1
      refine ⟨own_ty w1 hp, he σ δ μ1 G1 H1 _ _ (S.mono g1.eg) w1 q1 fun v d μ2 G2 H2 ⟨ds, j, y, e, ed, hj, hy, q2⟩ w2 g2 r2 => ?_⟩
      subst ed
      cases r2
      obtain ⟨_, vs, h, rl⟩ := w2.muL p ds e
      obtain ⟨u, hu, ru⟩ := rl.getD' hy
      have lt : j < vs.length := (List.getElem?_eq_some_iff.mp hu).1
      refine ⟨p, vs, (j : Nat), j, u, rfl, rfl, h, by omega, by omega, ?_, hu, b _ _ _ G2 _ q2 (w2.wr e (rl.erase j)) ((g1.trans g2).trans (Go.wr e)) ru⟩
      unfold seqIndex?
      simp
      omega
    | _ => exact q1.elim
theorem ke_popI {X : Cx} {o e : Expr} {apos cpos : Pos} {to : TE} {t : TA} (K : PySem.W.Frag) (ho : PE X o to) (ha : PA X [e] t) (hK : X.K = K := by rfl)
    (hbase : attributeBase o "pop" X.env (eval o X.env) = eval o X.env := by rfl)
    (hfew : ((backTo cpos (starEach [e] X.env)).all (fun x => !x.1) && (backToKw cpos (keywordEach [] X.env)).all (fun x => x.1.isSome) && decide ([e].length + ([] : List Keyword).length + (if ([] : List Keyword).isEmpty then 0 else 1) < 30)) = true := by rfl)
    (hline : (apos.endLine == cpos.line) = true := by rfl) (hs : starEach [e] X.env = (false, eval e X.env) :: starEach [] X.env := by rfl) (hplain : (backTo cpos (starEach [] X.env)).any (·.1) = false := by rfl) :
    PE X (.Call (.Attribute o "pop" apos) [e] [] cpos) (tBM K "list" rPopAt to t) := by
  subst hK; exact pe_bm PySem.F.plainAttrs_list PySem.F.slot_list_pop PySem.F.type_list_pop mt_popAt ho ha hbase hfew hline hs hplain
/-- a name of the module that holds data -/
theorem ke_globP {X : Cx} {x : Str} {v : V} {u : Value} {pos : Pos} {mg : Str → Option Value} (h : mg x = some u) (r : RelV v u) (hm : X.mg = mg := by rfl) (hg : Gl X x := by rfl) (hd : (x == ("__debug__" : Str)) = false := by decide) : PE X (.Name x pos) (tC v) := by
  subst hm; exact pe_glob hg h r hd
theorem okE_P {v : V} {x : PyData} (h : ∀ G, Dp K G v x) : OkE K (tC v) (rC (.pd x)) := okE_C fun G => .pd (h G)
end
end DL


set_option Elab.async false
set_option linter.all false
set_option maxRecDepth 100000
set_option maxHeartbeats 4000000
/-! EXa: an own exception class over any of the built-in ones whose __init__ says super().__init__(f); self.f = f. -/
namespace EX
open PySem PySem.W PySem.Calls PyProof.Rows PySem.HandSPX
/-! ### the text of __init__ -/
def iA (f : Str) (p1 p2 : Pos) : Arguments := { posonlyargs := [], args := [{ arg := "self", annotation := none, pos := p1 }, { arg := f, annotation := none, pos := p2 }], vararg := none, kwonlyargs := [], kw_defaults := [], kwarg := none, defaults := [] }
def iB (f : Str) (q1 q2 q3 q4 q5 q6 q7 q8 q9 q10 : Pos) : List Stmt :=
  [.Expr (.Call (.Attribute (.Call (.Name "super" q1) [] [] q2) "__init__" q3) [.Name f q4] [] q5) q6, .Assign [.Attribute (.Name "self" q7) f q8] (.Name f q9) q10]
def iS (f : Str) : Scope := { kind := .function, names := [(PySem.Str.ofString "self", .local), (f, .local), (PySem.Str.ofString "__class__", .free), (PySem.Str.ofString "super", .globalImplicit)], isGenerator := false, isCoroutine := false, more := [] }
/-- the field's name is no other one -/
structure FldOk (f : Str) : Prop where
  loc : (iS f).names.lookup f = some .local
  self : (iS f).names.lookup ("self" : Str) = some .local
  sup : (iS f).names.lookup ("super" : Str) = some .globalImplicit
  cl : (iS f).names.lookup ("__class__" : Str) = some .free
  nd : (f == ("__debug__" : Str)) = false
  ns : (("self" : Str) == f) = false
  cell : ∀ y ∈ (iS f).names, y.2 ≠ .cell
  bd : ∀ (q : Str) (p1 p2 : Pos) (body : List Stmt) (doc pm cdv ct : Value) (an : Option Addr) (cc x : Addr) (v : Value), bindArgs (ksFn "__init__" q (iA f p1 p2) body (iS f) .none .none doc pm an cdv ct cc) ⟨[.ref x, v], []⟩ = pure [(("self" : Str), .ref x), (f, v)]
/-- what the written part says of the class nm, at C, and of its __init__, at fI -/
structure ExTxt (K : Frag) (mg : Str → Option Value) (prog : Program) (nm f : Str) (B newId initId : String) (bmB : List Value) (C fI : Addr) : Prop where
  ok : FldOk f
  gC : mg nm = some (.ref C)
  gS : mg "super" = none
  cls : excInitIn K C bmB newId = true
  ov : excOver K C bmB = true
  sup : ks_superIn K C C "__init__" = some (some (.builtin initId))
  sa : findIn K (.ref C) "__setattr__" = some (some (.builtin "object.__setattr__"))
  ga : findIn K (.ref C) "__getattribute__" = some (some (.builtin "BaseException.__getattribute__"))
  gg : findIn K (.ref C) "__getattr__" = some none
  noN : findIn K (.ref C) f = some none
  iC : findIn K (.ref C) "__init__" = some (some (.ref fI))
  tC : typeIn K (.ref fI) = some (.type "function")
  kC : keepIn K (.ref C) = true
  exC : subIn K (.ref C) (.type "BaseException") = some true
  tyC : typeIn K (.ref C) = some (.type "type")
  hdC : hasDictIn K C = true
  st : nsIn K cStatics "thirdparty.any" = some none
  me : mroIn K C (.ref C) = some true
  inB : subIn K (.ref C) (.type B) = some true
  fn : ∃ (oc : Value) (od : Option Addr) (doc pm : Value) (an : Option Addr) (cda : Addr) (ct : Value) (osl : Array (Option Value)) (cc : Addr) (q : Str) (p1 p2 q1 q2 q3 q4 q5 q6 q7 q8 q9 q10 : Pos),
    K.lookup fI = some ⟨oc, od, .func (ksFn "__init__" q (iA f p1 p2) (iB f q1 q2 q3 q4 q5 q6 q7 q8 q9 q10) (iS f) .none .none doc pm an (.ref cda) ct cc), osl⟩ ∧ codeIn K (.ref cda) q = true ∧ (q3.endLine == q5.line) = true ∧
    (∃ (ccl : Value) (cdd : Option Addr) (vs : Array Value) (ccs : Array (Option Value)) (file : Str) (tf : Tok), K.lookup cda = some ⟨ccl, cdd, .fields vs, ccs⟩ ∧ vs[2]? = some (.str file tf) ∧ ((prog.main.file : Str) == file) = true) ∧
    ∃ (cl : Value) (cld : Option Addr) (csl : Array (Option Value)), K.lookup cc = some ⟨cl, cld, .cell (some (.ref C)), csl⟩
  top : (prog.main.scope.names.lookup ("super" : Str)).isSome = false
/-- the facts of a built-in base -/
structure BaseF (B newId initId : String) (bmB : List Value) : Prop where
  F : ExcBaseFacts B newId initId bmB
  KF : KxsFacts B initId
  SF : StoreFacts B bmB "object.__setattr__" "object"
/-- what __init__ leaves of a fresh exception at x -/
structure InitEnd (f : Str) (h h' : Heap) (x C dx : Addr) (v : Value) : Prop where
  keep : ∀ b o, b ≠ x → h.get? b = some o → h'.get? b = some o
  obj : ∃ t1 : Addr, h'.get? x = some (excObj C t1 (some dx) .none)
  dbig : h.objs.size ≤ dx
  dne : dx ≠ x
  ns : h'.Ns1 dx (fun y => if y = f then some v else none)
theorem fits1 (v : Value) : [v].length ≤ sizeLine := by
  show 1 ≤ sizeLine
  rw [sizeLine_eq]
  omega
/-- how the two parameters are bound -/
abbrev bd2 (f : Str) (x : Addr) (v : Value) : List (Str × Value) := [(("self" : Str), .ref x), (f, v)]
/-- o.name(f), written in one row of the program -/
theorem mcall_eq {o : Expr} {name f : Str} {q4 apos pos : Pos} {env : Env} (hline : (apos.endLine == pos.line) = true) :
    eval (.Call (.Attribute o name apos) [.Name f q4] [] pos) env = (attributeBase o name env (eval o env) >>= fun ov => standAt apos.atName >>= fun _ =>
      holding [ov] (getMethod ov name (importBound o env >>= fun b => pure (b.getD true))) >>= fun r => callWith pos r.1 r.2 (backTo pos (starEach [.Name f q4] env)) []) := by
  have hf : methodCallForm ([Expr.Name f q4].length + ([] : List Keyword).length) (backTo pos (starEach [.Name f q4] env)) (backToKw pos (keywordEach [] env)) = true := rfl
  rw [arm_eval_Call]
  congr
  funext ov
  congr
  funext _
  unfold methodCall methodCallPos
  rw [hf]
  simp only [hline, Bool.or_true, if_true]
  rfl
section
variable {prog : Program} {w : World} {A : Around} {R : Result → Shared → Prop} {s : Shared} {K : Frag} {mg : Str → Option Value} {nm f : Str} {B newId initId : String} {bmB : List Value} {C fI : Addr}
open Builtin Builtin.ObjectAttr in
/-- self.f = v, where self is an exception that has no dict yet -/
theorem put_first {E : Value → Shared → Prop} {Q : Unit → Shared → Prop} {x t1 : Addr} {v : Value} (BF : BaseF B newId initId bmB) (T : ExTxt K mg prog nm f B newId initId bmB C fI) (X : K.In s.heap) (hx : s.heap.get? x = some (excObj C t1 none .none))
    (hq : ∀ h' tk dx, InitEnd f s.heap h' x C dx v → Q () { s with heap := h', toks := tk }) : wpAny (model prog w) A (setAttr (.ref x) f v) Q E s := by
  obtain ⟨cd, hc, hd⟩ := any_some T.hdC
  have J : InstAt s.heap x (excObj C t1 none .none) C none := ⟨hx, rfl, rfl, trivial⟩
  have tk0 : takerIn K C f = some none := by unfold takerIn; rw [T.noN]; rfl
  have x0 : x < s.heap.objs.size := Heap.lt_size hx
  refine set_plain (od := none) X J T.sa (osa_openX (od := none) (s := { s with toks := s.toks + 1 }) BF.SF X J T.ov tk0 fun b => ?_)
  show wpAny _ _ (storeInOwnDict (.ref x) (.ref C) (.str f s.toks) f v b) _ _ _
  unfold storeInOwnDict ownDictForStores
  refine wpAny_bind (wpAny_pure ?_)
  refine wpAny_bind (instanceDict_exc (s := { s with toks := s.toks + 1 }) hx (looks_clsIn X hc) hd ?_)
  have e1 : (s.heap.push (dictOf [] 0)).get? x = some (excObj C t1 none .none) := Heap.get?_push_of_some _ hx
  refine store_in_new (dx := s.heap.objs.size) ?_ fun h' tk' hn hs => hq h' tk' s.heap.objs.size ⟨fun b o hb e => ?_, ⟨t1, ?_⟩, Nat.le_refl _, Nat.ne_of_gt x0, hn⟩
  · refine ⟨dictOf [] 0, #[], _, ?_, rfl, fun e he => absurd he (by simp), fun _ => rfl⟩
    rw [Heap.get?_update_ne _ _ _ _ (Nat.ne_of_gt x0)]
    exact Heap.get?_push_at rfl rfl
  · rw [hs.2 b (Nat.ne_of_lt (Heap.lt_size e)), Heap.get?_update_ne _ _ _ _ hb]
    exact Heap.get?_push_of_some _ e
  · rw [hs.2 x (Nat.ne_of_lt x0), Heap.get?_update_self _ e1 rfl]
theorem sup_init (BF : BaseF B newId initId bmB) (T : ExTxt K mg prog nm f B newId initId bmB C fI) {x t0 : Addr} {v : Value} (X : K.In s.heap) (hlim : s.heap.NoLimit) (hG : s.heap.Ns mainGlobals mg)
    (hB : ∃ mb, s.heap.Ns builtinsNs mb ∧ mb "super" = some (.type "super")) (hx : s.heap.get? x = some (excObj C t0 none .none)) (hnx : K.lookup x = none) (hroom : A.depth < recursionLimit)
    (hq : ∀ h' tk dx, InitEnd f s.heap h' x C dx v → R (.ok (.ret .none)) { s with heap := h', toks := tk }) :
    codeAny (model prog w) A (.call (.ref fI) ⟨[.ref x, v], []⟩) R s := by
  obtain ⟨oc, od, doc, pm, an, cda, ct, osl, cc, q, p1, p2, q1, q2, q3, q4, q5, q6, q7, q8, q9, q10, ho, hcd, hline, ⟨ccl, cdd, vs, ccs, file, tf, hcode, hvs, hfile⟩, ⟨cl, cld, csl, hcell⟩⟩ := T.fn
  obtain ⟨mb, hBn, hBs⟩ := hB
  obtain ⟨cd, hcl, hdct⟩ := any_some T.hdC
  have two : ∀ y ∈ bd2 f x v, (iS f).names.lookup y.1 = some .local := fun y hy => by
    cases hy with
    | head => exact T.ok.self
    | tail _ hy => cases List.mem_singleton.mp hy; exact T.ok.loc
  have see1 : (bd2 f x v).reverse.lookup ("self" : Str) = some (.ref x) := by simp [bd2, List.lookup, T.ok.ns]
  have see2 : (bd2 f x v).reverse.lookup f = some v := by simp [bd2, List.lookup]
  have lx : x < s.heap.objs.size := Heap.lt_size hx
  obtain ⟨hh, g, d, t, os⟩ := s
  refine ks_codeAny_call_defAt (binds := bd2 f x v) hroom (X _ _ ho) rfl hlim (codeRec_of X hcd) rfl (BindsTo.of_eq (T.ok.bd q p1 p2 _ doc pm (.ref cda) ct an cc x v)) T.ok.cell two (fun h₁ hn k => ?_) rfl rfl rfl
  -- what is ahead of the call but for the exception itself; the frame; what is new
  have X₀ : K.In (hideAll hh [x]) := fun a o e => hideAll_get [x] (X a o e) (by simp; intro z; rw [z, hnx] at e; cases e)
  have F1 : Fr (hideAll hh [x]) hh.objs.size h₁ (fun y => (bd2 f x v).reverse.lookup y) := ⟨hn, fun b o e => k b o (of_hideAll [x] e), Nat.le_of_eq (hideAll_size [x] hh)⟩
  have N1 : News (hideAll hh [x]) hh.objs.size h₁ [(x, excObj C t0 none .none)] := fun p hp => by
    cases List.mem_singleton.mp hp
    exact ⟨k _ _ hx, Nat.ne_of_lt lx, hideAll_none [x] (by simp)⟩
  have X1 : K.In h₁ := X₀.keeps F1.keep
  have inst : ∀ {h' : Heap} {t' : Addr}, h'.get? x = some (excObj C t' none .none) → InstAt h' x (excObj C t' none .none) C none := fun e => ⟨e, rfl, rfl, trivial⟩
  obtain ⟨oD, hD1, hD2⟩ : ∃ oD, h₁.get? C = some oD ∧ oD.data = .cls cd := by
    unfold clsIn at hcl
    split at hcl
    · rename_i eo
      cases hcl
      exact ⟨_, X1 _ _ eo, rfl⟩
    · cases hcl
  show PySem.wpAt _ (A.deeper (ksEnv q (iS f) hh.objs.size fI (.ref cda) cc)) _ (execs (iB f q1 q2 q3 q4 q5 q6 q7 q8 q9 q10) (ksEnv q (iS f) hh.objs.size fI (.ref cda) cc)) _ _ _
  -- super()
  have base := @ks_wpAt_super_base prog w (A.deeper (ksEnv q (iS f) hh.objs.size fI (.ref cda) cc))
  refine ks_wpAt_execs_cons (ks_wpAt_Expr_any (ks_wpAt_MethodCall (base T.ok.sup T.ok.cl (by decide) rfl (X1 _ _ ho) rfl rfl rfl (X1 _ _ hcode) rfl hvs hfile T.top ?_) (mcall_eq hline)))
  have glob : ∀ {Q : Value → Shared → Prop} {E : Value → Shared → Prop} {s' : Shared}, s'.heap = h₁ → Q (.type "super") s' → wpAny (model prog w) (A.deeper (ksEnv q (iS f) hh.objs.size fI (.ref cda) cc)) (loadName (ksEnv q (iS f) hh.objs.size fI (.ref cda) cc) "super") Q E s' := fun e hQ =>
    ks_loadName_global rfl T.ok.sup (loadGlobal_builtin (by rw [e]; exact hG.keeps k) T.gS (by rw [e]; exact hBn.keeps k) hBs hQ)
  refine glob rfl ⟨rfl, wpAny_loadName_free rfl T.ok.cl rfl ⟨_, X1 _ _ hcell, rfl⟩ (wpAny_loadName_local rfl T.ok.self hn see1 (ks_wpAny_isType_cls hD1 hD2 ⟨rfl, ?_⟩))⟩
  refine ks_wpAny_call_super hD1 hD2 (k _ _ hx) rfl (fun c z => by cases z) (looks_mroIn X1 T.me) fun h2 e2 kk => ?_
  obtain ⟨F2, N2, lt2⟩ := ks_newsPush (s := ⟨h₁, g, d, t + (bd2 f x v).length, os⟩) F1 N1 rfl e2 kk
  -- .__init__
  refine kxs_method BF.KF F2 X₀ N2 (.head _) (inst (N2 _ (.tail _ (.head _))).1) T.st T.sup T.inB (by decide) fun u h3 F3 N3 lt3 => ?_
  refine kxs_callWith1 N3 (.head _) ?_
  show wpAny _ _ (spliced ((false, eval (.Name f q4) _) :: backTo q5 (starEach [] _))) _ _ _
  refine Calls.spliced_cons (ESX.ldL (v := v) F3.ns see2 (Calls.spliced_nil ⟨kxs_at N3 (.head _), ?_⟩) rfl T.ok.loc T.ok.nd)
  have ne1 : h₁.objs.size ≠ x := Nat.ne_of_gt (lt2 _ (.head _))
  have ne2 : u ≠ x := Nat.ne_of_gt (lt3 _ (.tail _ (.head _)))
  refine kxs_call F3 X₀ N3 BF.F T.cls (.head _) (.tail ne2 (.tail ne1 (.head fun p hp => nomatch hp))) (fits1 v) fun t' h4 F4 N4 _ => ?_
  have hx4 : h4.get? x = some (excObj C t' none .none) := (N4 _ (.tail _ (.tail _ (.tail _ (.head _))))).1
  have old : ∀ b o, b ≠ x → hh.get? b = some o → h4.get? b = some o := fun b o hb e => F4.keep b o (hideAll_get [x] e (by simpa using hb))
  -- self.f = f
  refine wpAt_of_wpAny (wpAny_execs_cons (plainObj_wpAny_Assign_Attribute (ESX.ldL (v := v) F4.ns see2 (ESX.ldL (v := .ref x) F4.ns see1 ?_ rfl T.ok.self) rfl T.ok.loc T.ok.nd)))
  refine put_first BF T (X₀.keeps F4.keep) hx4 fun h5 tk5 dx M => ?_
  exact wpAny_execs_nil (hq h5 tk5 dx ⟨fun b o hb e => M.keep b o hb (old b o hb e), M.obj, Nat.le_trans (Nat.le_of_lt F4.ns.lt) M.dbig, M.dne, M.ns⟩)
/-- a made one -/
structure OwnMade (f : Str) (h h' : Heap) (e C d : Addr) (v : Value) : Prop where
  keep : ∀ b o, h.get? b = some o → h'.get? b = some o
  new : h.objs.size ≤ e
  obj : ∃ oe vs, h'.get? e = some oe ∧ oe.cls = .ref C ∧ oe.dict = some d ∧ oe.data = .fields vs ∧ vs[1]? = some .none
  dbig : h.objs.size ≤ d
  dne : d ≠ e
  ns : h'.Ns1 d (fun y => if y = f then some v else none)
theorem sup_made (BF : BaseF B newId initId bmB) (T : ExTxt K mg prog nm f B newId initId bmB C fI) {v : Value} (X : K.In s.heap) (hlim : s.heap.NoLimit) (hG : s.heap.Ns mainGlobals mg)
    (hB : ∃ mb, s.heap.Ns builtinsNs mb ∧ mb "super" = some (.type "super")) (hroom : A.depth + 1 < recursionLimit)
    (hq : ∀ h' tk e d, OwnMade f s.heap h' e C d v → R (.ok (.ret (.ref e))) { s with heap := h', toks := tk }) :
    codeAny (model prog w) A (.call (.ref C) ⟨[v], []⟩) R s := by
  obtain ⟨n2, N, q, bs, bm, hdct, sn, sub, ab, col, dd, k0, k1, k2, k3, k5, hC, hT⟩ := excInit_of X T.cls
  obtain ⟨mb, hB1, hB2⟩ := hB
  obtain ⟨hp, g, dr, tk, os⟩ := s
  have k : ∀ b o, hp.get? b = some o → ((hp.push (kdv_tup [v])).push (excO C hp.objs.size)).get? b = some o := fun b o e => Heap.get?_push_of_some _ (Heap.get?_push_of_some _ e)
  have hget : ((hp.push (kdv_tup [v])).push (excO C hp.objs.size)).get? (hp.objs.size + 1) = some (excO C hp.objs.size) := by heap_get
  have hnx : K.lookup (hp.objs.size + 1) = none := by
    cases e : K.lookup (hp.objs.size + 1) with
    | none => rfl
    | some o =>
      have z : hp.get? (hp.objs.size + 1) = some o := X _ _ e
      exact absurd (Nat.lt_of_succ_lt (Heap.lt_size z)) (Nat.lt_irrefl _)
  refine call_own BF.F hT hC (looks_findIn X T.iC) (fun self => bind_fn X self T.tC) (fits1 v) ?_
  refine sup_init (s := ⟨(hp.push (kdv_tup [v])).push (excO C hp.objs.size), g, dr, tk, os⟩) BF T (X.keeps k) (hlim.keeps k) (hG.keeps k) ⟨mb, hB1.keeps k, hB2⟩ hget hnx hroom fun h' tk' dx M => ?_
  obtain ⟨t1, hx⟩ := M.obj
  have z : hp.objs.size + 1 + 1 ≤ dx := by
    have q := M.dbig
    rw [Heap.size_push, Heap.size_push] at q
    exact q
  exact ⟨rfl, hq h' tk' (hp.objs.size + 1) dx ⟨fun b o e => M.keep b o (Nat.ne_of_lt (Nat.lt_succ_of_lt (Heap.lt_size e))) (k b o e), Nat.le_succ _, ⟨_, _, hx, rfl, rfl, rfl, rfl⟩, Nat.le_trans (Nat.le_trans (Nat.le_succ _) (Nat.le_succ _)) z, M.dne, M.ns⟩⟩
end
end EX
namespace EX
open PySem PySem.Spec PyProof.Rows L2
theorem relO_f {f0 : Str} {v : V} {v' : Value} (r : RelV v v') (f : Str) : RelO (List.lookup f [(f0, v)]) (if f = f0 then some v' else none) := by
  by_cases hw : f = f0
  · rw [if_pos hw, hw, show List.lookup f0 [(f0, v)] = some v by simp [List.lookup]]
    exact r
  · rw [if_neg hw, show List.lookup f [(f0, v)] = none by simp [List.lookup, show (f == f0) = false by simpa using hw]]
    trivial
section
variable {X : Cx} {nm f : Str} {B newId initId : String} {bmB : List Value} {C fI : Addr}
/-- X(e) -/
def tMk (C : Addr) (f : Str) (te : TE) : L2.St → Hp → XK → Prop := fun σ H Q => te σ H fun v H1 => ∀ d, H1 d = none → Q (.ref C) (some d) (upd H1 d (.xd [(f, v)]))
theorem pmk_sup {a : Expr} {ta : TE} {p pos : Pos} {k : Nat} (BF : BaseF B newId initId bmB) (T : ExTxt X.K X.mg X.prog nm f B newId initId bmB C fI) (hr : Room k X.A) (ha : PE X a ta) (hg : Gl X nm) (hdb : (nm == ("__debug__" : Str)) = false := by decide)
    (he : starEach (a :: []) X.env = (false, eval a X.env) :: starEach [] X.env := by rfl) (hpl : (backTo pos (starEach [] X.env)).any (·.1) = false := by rfl) :
    PMk X (.Call (.Name nm p) [a] [] pos) (tMk C f ta) := by
  intro pins s σ H Q I h
  have one : PA X [a] (tCons ta tNil) := pa_cons ha pa_nil he
  refine wpAny_Call_Name_kw (ld_glob I hg T.gC ?_ hdb)
  refine PySem.W.callWith_K (h₀ := X.base) I.ok.mod.kin T.kC (thn (one.run pos pins s σ H (fun vs H1 => ∃ v, vs = [v] ∧ ∀ d, H1 d = none → Q (.ref C) (some d) (upd H1 d (.xd [(f, v)]))) I ?_) fun us s1 hh => ?_) he hpl
  · show ta σ H _
    have q : ta σ H fun v H1 => ∀ d, H1 d = none → Q (.ref C) (some d) (upd H1 d (.xd [(f, v)])) := h
    refine cast ?_ q
    congr 1
    funext v H1
    simp [tNil]
  obtain ⟨vs, H1, I1, r1, v, ev, q1⟩ := hh
  subst ev
  refine ⟨I1.kIn, ?_⟩
  cases r1 with
  | cons rv rn =>
    rename_i v' us'
    cases rn
    show wpAny _ _ (call (.ref C) [v']) _ _ _
    have hlim := I1.nolimit
    have hG := I1.mod.glob.keeps I1.bk
    obtain ⟨mb, b1, b2⟩ := I1.mod.blt
    have hB : ∃ mb, s1.heap.Ns builtinsNs mb ∧ mb "super" = some (.type "super") := ⟨mb, b1.keeps I1.bk, (b2 "super" (by decide)).trans (by decide +kernel)⟩
    obtain ⟨hp, g, dr, tk, os⟩ := s1
    refine wpAny_call (sup_made BF T I1.kIn hlim hG hB (by have := hr.dp; omega) fun h' tk' e d M => ?_)
    show MkP X pins σ Q (.ref e) ⟨h', g, dr, tk', os⟩
    obtain ⟨oe, fv, hoe, hc, hd, hdat, h1⟩ := M.obj
    have hns := M.ns
    obtain ⟨G', g1, g2⟩ := restrict h' fun b => decide (b ≠ e)
    have gk : ∀ b, b ≠ e → G'.get? b = h'.get? b := fun b hb => g1 b (decide_eq_true hb)
    have ge : G'.get? e = none := g2 e (by simp)
    have old : ∀ b o, hp.get? b = some o → G'.get? b = some o := fun b o q => (gk b (Nat.ne_of_lt (Nat.lt_of_lt_of_le (Heap.lt_size q) M.new))).trans (M.keep b o q)
    have ob : ObjOk X.prog X.w (upd H1 d (.xd [(f, v)])) G' d (.xd [(f, v)]) := ⟨_, hns.at (fun o q => (gk d M.dne).trans q), fun g => relO_f rv g⟩
    have J : Inv X pins σ (upd H1 d (.xd [(f, v)])) ⟨G', g, dr, tk', os⟩ := I1.laid (t' := tk') old M.dbig ob
    refine ⟨e, oe, fv, ⟨G', g, dr, tk', os⟩, _, .ref C, some d, rfl, J, fun b o q => ?_, ge, hoe, ⟨hc, hd⟩, hdat, h1, ?_, rfl, I1.bare, raises_own T.exC T.tyC, q1 d (I1.hok.fresh M.dbig)⟩
    · by_cases hb : b = e
      · have q' : G'.get? b = some o := q
        rw [hb, ge] at q'; cases q'
      · exact (gk b hb).symm.trans q
    · rw [upd_ne (Ne.symm M.dne)]
      exact I1.hok.fresh M.new
end
/-! ### the bases -/
theorem base_ValueError : BaseF "ValueError" "ValueError.__new__" "ValueError.__init__" [.type "ValueError", .type "Exception", .type "BaseException", .type "object"] := ⟨PySem.F.excBase_ValueError, PySem.W.kxs_ValueError, PySem.F.store_ValueError⟩
theorem base_IndexError : BaseF "IndexError" "IndexError.__new__" "IndexError.__init__" [.type "IndexError", .type "LookupError", .type "Exception", .type "BaseException", .type "object"] := ⟨PySem.F.excBase_IndexError, PySem.W.kxs_IndexError, PySem.F.store_IndexError⟩
theorem base_LookupError : BaseF "LookupError" "LookupError.__new__" "LookupError.__init__" [.type "LookupError", .type "Exception", .type "BaseException", .type "object"] := ⟨PySem.F.excBase_LookupError, PySem.W.kxs_LookupError, PySem.F.store_LookupError⟩
theorem base_ArithmeticError : BaseF "ArithmeticError" "ArithmeticError.__new__" "ArithmeticError.__init__" [.type "ArithmeticError", .type "Exception", .type "BaseException", .type "object"] := ⟨PySem.F.excBase_ArithmeticError, PySem.W.kxs_ArithmeticError, PySem.F.store_ArithmeticError⟩
theorem base_OverflowError : BaseF "OverflowError" "OverflowError.__new__" "OverflowError.__init__" [.type "OverflowError", .type "ArithmeticError", .type "Exception", .type "BaseException", .type "object"] := ⟨PySem.F.excBase_OverflowError, PySem.W.kxs_OverflowError, PySem.F.store_OverflowError⟩
end EX


set_option Elab.async false
set_option linter.all false
set_option maxRecDepth 100000
set_option maxHeartbeats 4000000
/-! EXb: try with several clauses, some of them with a name. -/
namespace EX
open PySem PySem.Spec PyProof.Rows L2
/-- clauses: the class, the slot of the name if there is one, the suite's reading -/
abbrev Clause := Value × Option Nat × (Addr → Value → Option Addr → TS)
/-- the ends of a suite behind which the name in slot i goes -/
def endsAs (i : Nat) (D : Ends) : Ends := { nx := fun σ' H' => D.nx (σ'.set i none) H', rt := D.rt, bk := fun σ' H' => D.bk (σ'.set i none) H', ct := fun σ' H' => D.ct (σ'.set i none) H' }
/-- what the clauses wish of an error: the first one whose class it is of has it -/
def wTry (K : PySem.W.Frag) (Wout : WX) (D : Ends) : List Clause → WX
  | [] => Wout
  | (c, none, ts) :: r => fun cls d σ H => ∃ b, PySem.W.exmOne K cls c = some b ∧ (b = true → ∀ a, H a = none → ts a cls d D σ H) ∧ (b = false → wTry K Wout D r cls d σ H)
  | (c, some i, ts) :: r => fun cls d σ H => ∃ b, PySem.W.exmOne K cls c = some b ∧ (b = true → ∀ a, H a = none → ts a cls d (endsAs i D) (σ.set i (some (.ref a))) H) ∧ (b = false → wTry K Wout D r cls d σ H)
/-- a suite's rule: it holds whatever the error's object is -/
def Suite (X : Cx) (sts : List Stmt) (ts : Addr → Value → Option Addr → TS) : Prop :=
  ∀ (a : Addr) (oe : Obj) (cls : Value) (d : Option Addr) (pn : List (Addr × Obj)), Zc cls d oe → (∃ vs, oe.data = .fields vs) → PSs (X.suite a ((a, oe) :: pn)) sts (ts a cls d)
inductive HdsG (X : Cx) : List ExceptHandler → List Clause → Prop
  | nil : HdsG X [] []
  | bare {x : Str} {c : Value} {ts : Addr → Value → Option Addr → TS} {b₀ : Stmt} {more : List Stmt} {np hp : Pos} {hds : List ExceptHandler} {l : List Clause} (hc : Names X x c) (su : Suite X (b₀ :: more) ts) (r : HdsG X hds l) :
      HdsG X (.ExceptHandler (some (.Name x np)) none (b₀ :: more) hp :: hds) ((c, none, ts) :: l)
  | named {x n : Str} {i : Nat} {c : Value} {ts : Addr → Value → Option Addr → TS} {b₀ : Stmt} {more : List Stmt} {np hp : Pos} {hds : List ExceptHandler} {l : List Clause} (hi : X.N[i]? = some n) (hl : X.env.kindOf n = some .local) (hc : Names X x c)
      (su : Suite X (b₀ :: more) ts) (r : HdsG X hds l) : HdsG X (.ExceptHandler (some (.Name x np)) (some n) (b₀ :: more) hp :: hds) ((c, some i, ts) :: l)
/-- the error at a is caught by the frame of X and looked at, clause by clause; all else is as it was where it was raised -/
structure Rest (X : Cx) (pins : List (Addr × Obj)) (a : Addr) (cls : Value) (d : Option Addr) (σ : L2.St) (H : Hp) (s : Shared) : Prop where
  at_ : ∃ (B : Heap) (sI : Shared), Inv X pins σ H sI ∧ (∀ b o, sI.heap.get? b = some o → b ∉ frs X.stack → B.get? b = some o) ∧ sI.heap.UpToSlots s.heap ∧ HandSPX.FlyingZ B X.stack a (Zc cls d) s.heap ∧ s.os = sI.os ∧ AllBare s.gens
  new : H a = none
section
variable {X : Cx} {pins : List (Addr × Obj)} {a : Addr} {cls : Value} {d : Option Addr} {σ : L2.St} {H : Hp} {s : Shared}
theorem Rest.inv (R : Rest X pins a cls d σ H s) : Inv X pins σ H s := by
  obtain ⟨B, sI, J, nb, up, fl, os, ag⟩ := R.at_
  exact J.landed nb fl.1 up os ag
/-- the flight is ended once more -/
theorem Rest.down {M : Model} {A : Around} {E : Value → Shared → Prop} {Q : Unit → Shared → Prop} (R : Rest X pins a cls d σ H s) (h : ∀ s', Rest X pins a cls d σ H s' → Q () s') : wpAny M A (setFlight (.ref a) none) Q E s := by
  obtain ⟨B, sI, J, nb, up, fl, os, ag⟩ := R.at_
  exact HandSPX.lands_againZ fl fun hp fl' up' => h { s with heap := hp } ⟨⟨B, sI, J, nb, up.trans up', fl', os, ag⟩, R.new⟩
/-- the state in which a suite begins -/
theorem Rest.suite (hs : X.stack = X.env :: X.outer) (hf : X.env.frame = some X.env.locals) (R : Rest X pins a cls d σ H s) :
    ∃ oe, Zc cls d oe ∧ (∃ vs, oe.data = .fields vs) ∧ Inv (X.suite a ((a, oe) :: (X.pn ++ pins))) [] σ H s := by
  have I := R.inv
  obtain ⟨B, sI, J, nb, up, fl, os, ag⟩ := R.at_
  obtain ⟨oe, vs, there, hz, hv⟩ := fl.there
  have out : a ∉ frs X.stack := fun hm => by
    obtain ⟨_, o', e', no⟩ := fl.2.2.1.mem hm
    exact no vs (by rw [← Option.some.inj (there.symm.trans e')]; exact hv)
  have all : frs X.stack = X.env.locals :: X.fs := by rw [hs]; show List.filterMap _ _ = _; rw [List.filterMap_cons, hf]; rfl
  rw [all, List.mem_cons, not_or] at out
  exact ⟨oe, hz, ⟨vs, hv⟩, I.suite there hv R.new out.1 out.2⟩
/-- no clause has it: it goes on its way -/
theorem Rest.on {W : WX} {what : String} {Q : Flow → Shared → Prop} (hs : X.stack = X.env :: X.outer) (hf : X.env.frame = some X.env.locals) (tk : Takes X W) (R : Rest X pins a cls d σ H s) (w : W cls d σ H) :
    wpAny (model X.prog X.w) X.A (passOn what (.ref a) X.env : Sem Flow) Q X.xe s := by
  obtain ⟨B, sI, J, nb, up, fl, os, ag⟩ := R.at_
  have tr := fl.2.2.2
  obtain ⟨oe, vs, T, oT, tb, there, _, hv, one, _⟩ := tr
  have thr : wpAny (model X.prog X.w) X.A (setFlight (.ref a) X.env.frame >>= fun _ => (throw (.ref a) : Sem Flow)) Q X.xe s := by
    rw [hf]
    exact wpAny_bind (HandSPX.setFlight_upZ fl fun hp held up' => wpAny_throw (tk _ _ ⟨a, B, sI, pins, σ, H, cls, d, rfl, J, nb, up.trans up', .inr (.inr held), R.new, os, ag, w⟩))
  refine wpAny_bind (wpAny_field there hv one ?_)
  have ne : ((Value.ref T == Value.none) = true) = False := by simp
  simp only [ne, if_false]
  first
    | exact thr
    | exact wpAny_bind (wpAny_pure thr)
/-- is it of the class that the clause names? -/
theorem Rest.ask {M : Model} {x : Str} {c : Value} {np : Pos} {b : Bool} {hp : Pos} {R' : Result → Shared → Prop} (hs : X.stack = X.env :: X.outer) (hf : X.env.frame = some X.env.locals) (hc : Names X x c) (hb : PySem.W.exmOne X.K cls c = some b)
    (R : Rest X pins a cls d σ H s) (h : R' (.ok (if b then .brk else .next)) s) :
    codeAny (model X.prog X.w) (X.A.mark (some (.ref a))) (.handlers (.ref a) [.ExceptHandler (some (.Name x np)) none [] hp] X.env) R' s := by
  obtain ⟨oe, hz, _, S⟩ := R.suite hs hf
  obtain ⟨there, _⟩ := S.pin (a, oe) (.head _)
  have cl : PySem.W.Looks (model X.prog X.w) s.heap (typeOf (.ref a)) cls := fun A Q E s' k q => wpAny_typeOf_ref (k _ _ there) (hz.1.symm ▸ q)
  refine codeAny_handlers_test ?_
  obtain ⟨hg, hd, inM | ⟨inM, inB, nn⟩⟩ := hc
  · exact ld_glob S hg inM ((PySem.W.exm_one (M := model X.prog X.w) S.kIn cl hb).here h) hd
  · exact ld_blt S hg inM inB ((PySem.W.exm_one (M := model X.prog X.w) S.kIn cl hb).here h) nn hd
end
section
variable {X : Cx} {pins : List (Addr × Obj)} {a : Addr} {q : Addr × Obj} {D : Ends} {s : Shared}
theorem sp_leave (ok : X.Ok) : ∀ {f : Flow}, SP (X.suite a (q :: (X.pn ++ pins))) [] D f s → SP X pins D f s
  | .next, ⟨σ, H, S, w⟩ => ⟨σ, H, S.unsuite ok, w⟩
  | .brk, ⟨σ, H, S, w⟩ => ⟨σ, H, S.unsuite ok, w⟩
  | .cont, ⟨σ, H, S, w⟩ => ⟨σ, H, S.unsuite ok, w⟩
  | .ret _, ⟨v, σ, H, S, r, w⟩ => ⟨v, σ, H, S.unsuite ok, r, w⟩
theorem sp_drop {i : Nat} {n : Str} {pos : Pos} (ok : X.Ok) (hN : X.N.Nodup) (hi : X.N[i]? = some n) (hl : X.env.kindOf n = some .local) : ∀ {f : Flow}, SP (X.suite a (q :: (X.pn ++ pins))) [] (endsAs i D) f s →
    wpAny (model X.prog X.w) X.A (do bindName X.env n .none; unbindBehindTheSuite X.env n pos) (fun _ s' => SP X pins D f s') X.xe s
  | .next, ⟨_, _, S, w⟩ => gone_ok (S.unsuite ok) hN hi hl fun _ J => ⟨_, _, J, w⟩
  | .brk, ⟨_, _, S, w⟩ => gone_ok (S.unsuite ok) hN hi hl fun _ J => ⟨_, _, J, w⟩
  | .cont, ⟨_, _, S, w⟩ => gone_ok (S.unsuite ok) hN hi hl fun _ J => ⟨_, _, J, w⟩
  | .ret _, ⟨_, _, _, S, r, w⟩ => gone_ok (S.unsuite ok) hN hi hl fun _ J => ⟨_, _, _, J, r, w⟩
theorem sp_untry {xe : Value → Shared → Prop} (ok : X.Ok) : ∀ {f : Flow}, SP (X.tr (X.pn ++ pins) xe) [] D f s → SP X pins D f s
  | .next, ⟨σ, H, J, w⟩ => ⟨σ, H, J.ofTry ok, w⟩
  | .brk, ⟨σ, H, J, w⟩ => ⟨σ, H, J.ofTry ok, w⟩
  | .cont, ⟨σ, H, J, w⟩ => ⟨σ, H, J.ofTry ok, w⟩
  | .ret _, ⟨v, σ, H, J, r, w⟩ => ⟨v, σ, H, J.ofTry ok, r, w⟩
end
section
variable {X : Cx} {pins : List (Addr × Obj)} {a : Addr} {cls : Value} {d : Option Addr} {σ : L2.St} {H : Hp} {Wout : WX} {D : Ends}
theorem clauses (hs : X.stack = X.env :: X.outer) (hf : X.env.frame = some X.env.locals) (hN : X.N.Nodup) (ok : X.Ok) (tk : Takes X Wout) : ∀ {hds : List ExceptHandler} {l : List Clause}, HdsG X hds l → ∀ {s : Shared}, Rest X pins a cls d σ H s → wTry X.K Wout D l cls d σ H →
    wpAny (model X.prog X.w) X.A (handleBy (.ref a) X.env hds) (SP X pins D) X.xe s
  | _, _, .nil, _, R, w => wpAny_handleBy_nil (R.on hs hf tk w)
  | _, _, .bare hc su r, _, R, ⟨true, e, yes, _⟩ => wpAny_handleBy_cons (R.ask (M := model X.prog X.w) hs hf hc e (codeAny_handlers_suite (R.down fun s' R' => by
      obtain ⟨oe, hz, hv, S⟩ := R'.suite hs hf
      exact wpAny_mono ((su a oe cls d (X.pn ++ pins) hz hv).run [] s' σ H D S (yes rfl a R'.new)) (fun f s2 w2 => sp_leave ok w2) fun _ _ z => z.elim))) (fun z => nomatch z)
  | _, _, .bare hc su r, _, R, ⟨false, e, _, no⟩ => wpAny_handleBy_cons (R.ask (M := model X.prog X.w) hs hf hc e (clauses hs hf hN ok tk r R (no rfl))) (fun z => nomatch z)
  | _, _, .named hi hl hc su r, _, R, ⟨true, e, yes, _⟩ => wpAny_handleBy_cons (R.ask (M := model X.prog X.w) hs hf hc e (codeAny_handlers_suite_as (R.down fun s' R' => by
      obtain ⟨oe, hz, hv, S⟩ := R'.suite hs hf
      refine store_ok (X := X.suite a ((a, oe) :: (X.pn ++ pins))) (v := .ref a) S hN hi (.inl hl) rfl (fun s2 S2 => ?_) (.inr hl)
      exact wpAny_mono ((su a oe cls d (X.pn ++ pins) hz hv).run [] s2 _ H (endsAs _ D) S2 (yes rfl a R'.new)) (fun f s3 w3 => sp_drop ok hN hi hl w3) fun _ _ z => z.elim))) (fun z => nomatch z)
  | _, _, .named hi hl hc su r, _, R, ⟨false, e, _, no⟩ => wpAny_handleBy_cons (R.ask (M := model X.prog X.w) hs hf hc e (clauses hs hf hN ok tk r R (no rfl))) (fun z => nomatch z)
end
section
variable {X : Cx} {body : List Stmt} {h₀ : ExceptHandler} {hds : List ExceptHandler} {l : List Clause} {pos : Pos} {tb : WX → TS} {Wout : WX}
/-- what comes of an error of the body: noted, landed, the clauses asked -/
abbrev seen (X : Cx) (pins : List (Addr × Obj)) (D : Ends) (hds : List ExceptHandler) : Value → Shared → Prop := fun e s1 =>
  wpAny (model X.prog X.w) X.A (noteFrame e X.env) (fun _ s2 => wpAny (model X.prog X.w) X.A (setFlight e none) (fun _ s3 => wpAny (model X.prog X.w) X.A (handleBy e X.env hds) (SP X pins D) X.xe s3) X.xe s2) X.xe s1
theorem ps_try_gen (hs : X.stack = X.env :: X.outer) (hf : X.env.frame = some X.env.locals) (hN : X.N.Nodup) (tk : Takes X Wout)
    (hb : ∀ (W : WX) (pn : List (Addr × Obj)) (xe : Value → Shared → Prop), Takes (X.tr pn xe) W → PassesOwn (model X.prog X.w) X.A X.env xe → PSs (X.tr pn xe) body (tb W))
    (hh : HdsG X (h₀ :: hds) l) : PS X (.Try body (h₀ :: hds) [] [] pos) (fun D σ H => tb (wTry X.K Wout D l) D σ H) := ⟨fun pins s σ H D I h => by
  have ok := I.ok
  have fr : X.A.frames = some (X.env :: X.outer) := by rw [ok.frames, hs]
  -- behind the body: the error is noted, its flight ended, the clauses asked
  refine wpAny_Try_except (wpAny_mono ((hb (wTry X.K Wout D l) (X.pn ++ pins) (seen X pins D (h₀ :: hds)) ?_ PassesOwn.looking).run [] s σ H D (I.toTry _) h) (fun f s1 w => ?_) fun _ _ z => z)
  rotate_left
  · have w := sp_untry ok w
    cases f with
    | next => exact wpAny_execs_nil w
    | _ => exact w
  · intro u s1 x
    obtain ⟨a, B, sI, pins', σ', H', cls, d, rfl, J, nb, up, sky, na, os, ag, w⟩ := x
    have sky : Sky B (X.env :: X.outer) a (Zc cls d) X.env.locals s1.heap := by rw [← hs]; exact sky
    exact Sky.land Zc.steady fr hf sky fun h3 fl up3 => clauses hs hf hN ok tk hh ⟨⟨B, sI, J.ofTry ok, nb, up.trans up3, by rw [hs]; exact fl, os, ag⟩, na⟩ w⟩
end
end EX


set_option Elab.async false
set_option linter.all false
set_option maxRecDepth 100000
set_option maxHeartbeats 4000000
/-! EXc: errors over data: raised, let through, caught. -/
namespace DL
open PySem PySem.Spec PyProof.Rows L2 SlX

/-- the error classes: where they stand, the names of their fields, which is caught as which -/
structure ExMap where
  at_ : Str → Addr
  fld : Str → Str
  is : Str → Str → Option Bool
def ExOk (K : PySem.W.Frag) (ex : ExMap) : Prop := ∀ nm cn b, ex.is nm cn = some b → PySem.W.exmOne K (.ref (ex.at_ nm)) (.ref (ex.at_ cn)) = some b
/-- what is wished of an error that leaves an expression, a statement: its class, its field's value -/
abbrev DX := Str → Option D → Mu → Prop
abbrev SX := Str → Option D → Sl → Mu → Prop
abbrev REX := DX → RE
abbrev RSX := SX → RS
def XRep (K : PySem.W.Frag) (ex : ExMap) (G : Hp) (nm : Str) (d : Option Addr) : Option D → Prop
  | none => d = none
  | some x => ∃ dd v, d = some dd ∧ G dd = some (.xd [(ex.fld nm, v)]) ∧ Rep K G v x
abbrev ThenX (K : PySem.W.Frag) (ex : ExMap) (μ : Mu) (G H : Hp) (kx : DX) (E : XK) : Prop := ∀ nm fo d μ' G' H', kx nm fo μ' → Wd K G' H' μ' → Go μ G H μ' G' H' → XRep K ex G' nm d fo → E (.ref (ex.at_ nm)) d H'
abbrev BackX (K : PySem.W.Frag) (ex : ExMap) (μ : Mu) (G H : Hp) (kx : SX) (W : WX) : Prop := ∀ nm fo d σ' δ' μ' G' H', kx nm fo δ' μ' → SlOk K G' σ' δ' → Wd K G' H' μ' → Go μ G H μ' G' H' → XRep K ex G' nm d fo → W (.ref (ex.at_ nm)) d σ' H'
theorem BackX.go {K : PySem.W.Frag} {ex : ExMap} {μ μ1 : Mu} {G H G1 H1 : Hp} {kx : SX} {W : WX} (b : BackX K ex μ G H kx W) (g : Go μ G H μ1 G1 H1) : BackX K ex μ1 G1 H1 kx W :=
  fun nm fo d σ' δ' μ' G' H' q S w x r => b nm fo d σ' δ' μ' G' H' q S w (g.trans x) r
def OkEX (K : PySem.W.Frag) (ex : ExMap) (W : WX) (t : TE) (r : REX) : Prop := ∀ (σ : L2.St) (δ : Sl) (μ : Mu) (G H : Hp) (k : DK) (kx : DX) (Q : VK), SlOk K G σ δ → Wd K G H μ → r kx δ μ k → Then K μ G H k Q →
  ThenX K ex μ G H kx (fun c d H' => W c d σ H') → t σ H Q
def OkSX (K : PySem.W.Frag) (ex : ExMap) (W : WX) (t : TS) (r : RSX) : Prop := ∀ (σ : L2.St) (δ : Sl) (μ : Mu) (G H : Hp) (DD : DEnds) (D : Ends) (kx : SX), SlOk K G σ δ → Wd K G H μ → r kx DD δ μ → Back K μ G H DD D →
  BackX K ex μ G H kx W → t D σ H
structure DSsX (X : Cx) (ex : ExMap) (W : WX) (st : List Stmt) (t : TS) (r : RSX) : Prop where
  p : PSs X st t
  o : OkSX X.K ex W t r
section
variable {K : PySem.W.Frag} {ex : ExMap} {W : WX} {t u : TS} {r s : RSX} {te : TE} {re : REX} {tt : TT} {rt : RT}
@[simp] def rLift (r : RS) : RSX := fun _ => r
@[simp] def rLiftE (r : RE) : REX := fun _ => r
theorem okSX_of {r : RS} (h : OkS K t r) : OkSX K ex W t (rLift r) := fun σ δ μ G H DD D kx S w q b _ => h σ δ μ G H DD D S w q b
theorem okEX_of {r : RE} (h : OkE K te r) : OkEX K ex W te (rLiftE r) := fun σ δ μ G H k kx Q S w q b _ => h σ δ μ G H k Q S w q b
@[simp] def rSeqX (r s : RSX) : RSX := fun kx DD δ μ => r kx { DD with nx := s kx DD } δ μ
theorem okSX_seq (h : OkSX K ex W t r) (h' : OkSX K ex W u s) : OkSX K ex W (tSeq t u) (rSeqX r s) := fun σ δ μ G H DD D kx S w q b x =>
  h σ δ μ G H _ _ kx S w q ⟨fun σ1 δ1 μ1 G1 H1 q1 S1 w1 g1 => h' σ1 δ1 μ1 G1 H1 DD D kx S1 w1 q1 (b.go g1) (BackX.go x g1), b.bk, b.ct, b.rt⟩ x
@[simp] def rIfX (rt : RT) (r s : RSX) : RSX := fun kx DD δ μ => rt δ μ fun b μ1 => if b = true then r kx DD δ μ1 else s kx DD δ μ1
theorem okSX_if (h : OkT K tt rt) (h1 : OkSX K ex W t r) (h2 : OkSX K ex W u s) : OkSX K ex W (tIfS tt t u) (rIfX rt r s) := fun σ δ μ G H DD D kx S w q b x => h σ δ μ G H _ _ S w q fun c μ1 G1 H1 q1 w1 g1 => by
  cases c with
  | true => exact h1 σ δ μ1 G1 H1 DD D kx (S.mono g1.eg) w1 q1 (b.go g1) (BackX.go x g1)
  | false => exact h2 σ δ μ1 G1 H1 DD D kx (S.mono g1.eg) w1 q1 (b.go g1) (BackX.go x g1)
/-- an expression's errors leave at the statement's slots -/
@[simp] def atSl (kx : SX) (δ : Sl) : DX := fun nm fo μ => kx nm fo δ μ
theorem back_then {σ : L2.St} {δ : Sl} {μ : Mu} {G H : Hp} {kx : SX} (S : SlOk K G σ δ) (x : BackX K ex μ G H kx W) : ThenX K ex μ G H (atSl kx δ) (fun c d H' => W c d σ H') :=
  fun nm fo d μ' G' H' q w g xr => x nm fo d σ δ μ' G' H' q (S.mono g.eg) w g xr
@[simp] def rDropX (re : REX) : RSX := fun kx DD δ μ => re (atSl kx δ) δ μ fun _ μ1 => DD.nx δ μ1
theorem okSX_drop (h : OkEX K ex W te re) : OkSX K ex W (tDrop te) (rDropX re) := fun σ δ μ G H DD D kx S w q b x =>
  h σ δ μ G H _ _ _ S w q (fun v d μ1 G1 H1 q1 w1 g1 r1 => b.nx σ δ μ1 G1 H1 q1 (S.mono g1.eg) w1 g1) (back_then S x)
@[simp] def rRetX (re : REX) : RSX := fun kx DD δ μ => re (atSl kx δ) δ μ DD.rt
theorem okSX_ret (h : OkEX K ex W te re) : OkSX K ex W (tRet te) (rRetX re) := fun σ δ μ G H DD D kx S w q b x =>
  h σ δ μ G H _ _ _ S w q (fun v d μ1 G1 H1 q1 w1 g1 r1 => b.rt v d μ1 G1 H1 q1 w1 g1 r1) (back_then S x)
@[simp] def rAsgX (re : REX) (rg : RG) : RSX := fun kx DD δ μ => re (atSl kx δ) δ μ fun d μ1 => rg d δ μ1 DD.nx
theorem okSX_asg {g : TG} {rg : RG} {js : List Nat} (h : OkEX K ex W te re) (hg : OkG K g rg js) : OkSX K ex W (tAsg te g) (rAsgX re rg) := fun σ δ μ G H DD D kx S w q b x =>
  h σ δ μ G H _ _ _ S w q (fun v d μ1 G1 H1 q1 w1 g1 r1 => hg v d σ δ μ1 G1 H1 _ _ (S.mono g1.eg) w1 r1 q1 fun σ2 δ2 μ2 G2 H2 q2 S2 w2 g2 _ => b.nx σ2 δ2 μ2 G2 H2 q2 S2 w2 (g1.trans g2)) (back_then S x)
/-! raise -/
def tRaise (W : WX) (t : L2.St → Hp → XK → Prop) : TS := fun _ σ H => t σ H fun cls d H' => W cls d σ H'
@[simp] def rRaise0 (nm : Str) (re : RE) : RSX := fun kx _ δ μ => re δ μ fun _ μ1 => kx nm none δ μ1
theorem okSX_raise0 {nm : Str} {re : RE} (h : OkE K te re) : OkSX K ex W (tRaise W fun σ H Q => te σ H fun _ H1 => Q (.ref (ex.at_ nm)) none H1) (rRaise0 nm re) := fun σ δ μ G H DD D kx S w q b x =>
  h σ δ μ G H _ _ S w q fun v d μ1 G1 H1 q1 w1 g1 r1 => x nm none none σ δ μ1 G1 H1 q1 (S.mono g1.eg) w1 g1 rfl
@[simp] def rRaise1 (nm : Str) (re : RE) : RSX := fun kx _ δ μ => re δ μ fun y μ1 => kx nm (some y) δ μ1
theorem okSX_raise1 {nm f : Str} {re : RE} (hf : ex.fld nm = f) (h : OkE K te re) : OkSX K ex W (tRaise W (EX.tMk (ex.at_ nm) f te)) (rRaise1 nm re) := by
  subst hf
  exact fun σ δ μ G H DD D kx S w q b x => h σ δ μ G H _ _ S w q fun v d μ1 G1 H1 q1 w1 g1 r1 dd hd => by
    have e1 : Ex G1 (upd G1 dd (.xd [(ex.fld nm, v)])) := Ex.new (w1.gnone hd)
    exact x nm (some d) (some dd) σ δ μ1 _ _ q1 (S.mono (g1.eg.trans e1)) (w1.new hd) (g1.trans (Go.new w1 hd)) ⟨dd, v, rfl, upd_same, r1.mono e1⟩
/-! for, while -/
def rForWX (it : DIt) (rg : RG) (rb : RSX) (kx : SX) (DD : DEnds) (δ : Sl) (μ1 : Mu) : Prop := ∃ Inv : Nat → Sl → Mu → Prop, Inv 0 δ μ1 ∧ (∀ i δ μ, Inv i δ μ → it.ok μ) ∧
  (∀ i δ μ d, i < it.n → it.at_ i = some d → Inv i δ μ → rg d δ μ fun δ2 μ2 => rb kx { nx := Inv (i + 1), ct := Inv (i + 1), bk := DD.nx, rt := DD.rt } δ2 μ2) ∧ (∀ δ μ, Inv it.n δ μ → DD.nx δ μ)
def rForX (ri : RI) (rg : RG) (rb : RSX) : RSX := fun kx DD δ μ => ri δ μ fun it μ1 => rForWX it rg rb kx DD δ μ1
theorem okSX_for {wi : TI} {ri : RI} {g : TG} {rg : RG} {js : List Nat} (hi : OkI K wi ri) (hg : OkG K g rg js) (hb : OkSX K ex W t r) : OkSX K ex W (tFor wi g t) (rForX ri rg r) := fun σ δ μ G H DD D kx S w q b bx =>
  hi σ δ μ G H _ _ S w q fun J it μ1 G1 H1 ⟨Iv, i0, iok, istep, iend⟩ w1 g1 io => by
    refine ⟨fun i m σ2 H2 => m = it.n - i ∧ i ≤ it.n ∧ ∃ δ2 μ2 G2, Iv i δ2 μ2 ∧ SlOk K G2 σ2 δ2 ∧ Wd K G2 H2 μ2 ∧ Go μ1 G1 H1 μ2 G2 H2, ⟨it.n, rfl, Nat.zero_le _, δ, μ1, G1, i0, S.mono g1.eg, w1, Go.refl _ _ _⟩, ?_⟩
    rintro i m σ2 H2 ⟨hm, hi, δ2, μ2, G2, hI, S2, w2, g2⟩
    obtain ⟨hstop, hgo⟩ := io i μ2 G2 H2 g2.eg w2 (iok i δ2 μ2 hI)
    by_cases hin : i = it.n
    · exact .inl ⟨hstop hin.symm, b.nx σ2 δ2 μ2 G2 H2 (iend δ2 μ2 (hin ▸ hI)) S2 w2 (g1.trans g2)⟩
    · have hlt : i < it.n := Nat.lt_of_le_of_ne hi hin
      obtain ⟨hgo, hy⟩ := hgo hlt
      refine .inr ⟨hgo, fun σ3 H3 => ∃ δ3 μ3 G3, Iv (i + 1) δ3 μ3 ∧ SlOk K G3 σ3 δ3 ∧ Wd K G3 H3 μ3 ∧ Go μ1 G1 H1 μ3 G3 H3, fun σ3 H3 hN => ⟨it.n - (i + 1), by omega, rfl, hlt, hN⟩, fun x H3 hyl => ?_⟩
      obtain ⟨d, G3, ed, w3, g3, rd⟩ := hy x H3 hyl
      refine hg x d σ2 δ2 μ2 G3 H3 _ _ (S2.mono g3.eg) w3 rd (istep i δ2 μ2 d hlt ed hI) fun σ4 δ4 μ4 G4 H4 q4 S4 w4 g4 _ => ?_
      have g14 := (g2.trans g3).trans g4
      exact hb σ4 δ4 μ4 G4 H4 _ _ kx S4 w4 q4 ⟨fun σ5 δ5 μ5 G5 H5 q5 S5 w5 g5 => ⟨δ5, μ5, G5, q5, S5, w5, g14.trans g5⟩, fun σ5 δ5 μ5 G5 H5 q5 S5 w5 g5 => b.nx σ5 δ5 μ5 G5 H5 q5 S5 w5 ((g1.trans g14).trans g5),
        fun σ5 δ5 μ5 G5 H5 q5 S5 w5 g5 => ⟨δ5, μ5, G5, q5, S5, w5, g14.trans g5⟩, fun v d μ5 G5 H5 q5 w5 g5 r5 => b.rt v d μ5 G5 H5 q5 w5 ((g1.trans g14).trans g5) r5⟩ (BackX.go bx (g1.trans g14))
def rWhileX (rc : RT) (rb : RSX) : RSX := fun kx DD δ μ => ∃ Inv : Nat → Sl → Mu → Prop, (∃ m, Inv m δ μ) ∧ ∀ m δ μ, Inv m δ μ → rc δ μ fun b μ1 => if b = true then
  rb kx { nx := fun δ μ => ∃ m', m' < m ∧ Inv m' δ μ, ct := fun δ μ => ∃ m', m' < m ∧ Inv m' δ μ, bk := DD.nx, rt := DD.rt } δ μ1 else DD.nx δ μ1
theorem okSX_while (hc : OkT K tt rt) (hb : OkSX K ex W t r) : OkSX K ex W (tWhile tt t) (rWhileX rt r) := fun σ δ μ G H DD D kx S w ⟨Iv, ⟨m0, i0⟩, istep⟩ b bx => by
  refine ⟨fun m σ2 H2 => ∃ δ2 μ2 G2, Iv m δ2 μ2 ∧ SlOk K G2 σ2 δ2 ∧ Wd K G2 H2 μ2 ∧ Go μ G H μ2 G2 H2, ⟨m0, δ, μ, G, i0, S, w, Go.refl _ _ _⟩, ?_⟩
  rintro m σ2 H2 ⟨δ2, μ2, G2, hI, S2, w2, g2⟩
  refine hc σ2 δ2 μ2 G2 H2 _ _ S2 w2 (istep m δ2 μ2 hI) fun c μ3 G3 H3 q3 w3 g3 => ?_
  cases c with
  | false => exact b.nx σ2 δ2 μ3 G3 H3 q3 (S2.mono g3.eg) w3 (g2.trans g3)
  | true =>
    refine ⟨fun σ4 H4 => ∃ m', m' < m ∧ ∃ δ4 μ4 G4, Iv m' δ4 μ4 ∧ SlOk K G4 σ4 δ4 ∧ Wd K G4 H4 μ4 ∧ Go μ G H μ4 G4 H4, fun σ4 H4 h => h, ?_⟩
    exact hb σ2 δ2 μ3 G3 H3 _ _ kx (S2.mono g3.eg) w3 q3 ⟨fun σ5 δ5 μ5 G5 H5 ⟨m', hm, q5⟩ S5 w5 g5 => ⟨m', hm, δ5, μ5, G5, q5, S5, w5, (g2.trans g3).trans g5⟩, fun σ5 δ5 μ5 G5 H5 q5 S5 w5 g5 => b.nx σ5 δ5 μ5 G5 H5 q5 S5 w5 ((g2.trans g3).trans g5),
      fun σ5 δ5 μ5 G5 H5 ⟨m', hm, q5⟩ S5 w5 g5 => ⟨m', hm, δ5, μ5, G5, q5, S5, w5, (g2.trans g3).trans g5⟩, fun v d μ5 G5 H5 q5 w5 g5 r5 => b.rt v d μ5 G5 H5 q5 w5 ((g2.trans g3).trans g5) r5⟩ (BackX.go bx (g2.trans g3))
/-! calls -/
abbrev DSpX := List D → Mu → DK → DX → Prop
def spX (K : PySem.W.Frag) (ex : ExMap) (dsp : DSpX) : Sp := fun vs H Q E => ∃ ds μ G k kx, Wd K G H μ ∧ RepL K G vs ds ∧ dsp ds μ k kx ∧ Then K μ G H k Q ∧ ThenX K ex μ G H kx E
@[simp] def rCallX (dsp : DSpX) (ra : RA) : REX := fun kx δ μ k => ra δ μ fun ds μ1 => dsp ds μ1 k kx
theorem okEX_call {dsp : DSpX} {ta : TA} {ra : RA} (h : OkA K ta ra) : OkEX K ex W (tCallS (spX K ex dsp) (WE W) ta) (rCallX dsp ra) := fun σ δ μ G H k kx Q S w q b x =>
  h σ δ μ G H _ _ S w q fun vs ds μ1 G1 H1 q1 w1 g1 r1 =>
    ⟨ds, μ1, G1, k, kx, w1, r1, q1, fun v d μ' G' H' qk w' g' r' => b v d μ' G' H' qk w' (g1.trans g') r', fun nm fo d μ' G' H' qk w' g' xr => x nm fo d μ' G' H' qk w' (g1.trans g') xr⟩
end
/-- a def that may raise, as its callers want it -/
structure FnX (P : Program) (w : World) (K : PySem.W.Frag) (mg : Str → Option Value) (base : Heap) (ex : ExMap) (x : Str) (k : Nat) (dsp : DSpX) : Prop where
  ex : ∃ (f : Addr) (fd : FuncData) (ps : List Str), FnOk P w K mg base (L2.CX P w) k f fd ps (spX K ex dsp) ∧ mg x = some (.ref f) ∧ PySem.W.keepIn K (.ref f) = true ∧ Binds K fd ps []
theorem kx_call {X : Cx} (K : PySem.W.Frag) {ex : ExMap} {x : Str} {k j : Nat} {dsp : DSpX} {e : Expr} {es : List Expr} {p pos : Pos} {t : TA} {P : Program} {w : World} {mg : Str → Option Value} {base : Heap} {W : WX} (F : FnX P w K mg base ex x k dsp) (hr : Room j X.A) (tk : Takes X W) (ha : PA X (e :: es) t)
    (hj : k ≤ j := by first | decide | omega) (hg : Gl X x := by rfl) (hP : X.prog = P := by rfl) (hw : X.w = w := by rfl) (hK : X.K = K := by rfl) (hm : X.mg = mg := by rfl) (hb : X.base = base := by rfl)
    (hdb : (x == ("__debug__" : Str)) = false := by decide) (he : starEach (e :: es) X.env = (false, eval e X.env) :: starEach es X.env := by rfl) (hpl : (backTo pos (starEach es X.env)).any (·.1) = false := by rfl) :
    PE X (.Call (.Name x p) (e :: es) [] pos) (tCallS (spX K ex dsp) (WE W) t) := by
  subst hP hw hK hm hb
  obtain ⟨f, fd, ps, G, hm, hk, hb⟩ := F.ex
  exact pe_callS G (hr.mono hj) hg hm hk hb (fun σ => passAt tk σ) ha hdb he hpl
/-! ### classes -/
/-- an error class without a field -/
structure Err0 (K : PySem.W.Frag) (mg : Str → Option Value) (nm : Str) (C : Addr) : Prop where
  ex : ∃ (bmB : List Value) (B newId initId : String), ExcBaseFacts B newId initId bmB ∧ PySem.W.excIn K C bmB newId = true
  gC : mg nm = some (.ref C)
  kC : PySem.W.keepIn K (.ref C) = true
  sb : PySem.W.subIn K (.ref C) (.type "BaseException") = some true
  ty : PySem.W.typeIn K (.ref C) = some (.type "type")
/-- an error class with a field -/
structure Err1 (K : PySem.W.Frag) (mg : Str → Option Value) (P : Program) (nm f : Str) (C : Addr) : Prop where
  ex : ∃ (B newId initId : String) (bmB : List Value) (fI : Addr), EX.BaseF B newId initId bmB ∧ EX.ExTxt K mg P nm f B newId initId bmB C fI
theorem kx_raise0 {X : Cx} {nm : Str} {C : Addr} {e : Expr} {te : TE} {W : WX} {p pos pos2 : Pos} {K : PySem.W.Frag} {mg : Str → Option Value} (T : Err0 K mg nm C) (tk : Takes X W) (he : PE X e te) (hc : X.calm = true := by rfl) (hg : Gl X nm := by rfl) (hK : X.K = K := by rfl) (hm : X.mg = mg := by rfl)
    (hs : starEach [e] X.env = (false, eval e X.env) :: starEach [] X.env := by rfl) (hdb : (nm == ("__debug__" : Str)) = false := by decide) :
    PS X (.Raise (some (.Call (.Name nm p) [e] [] pos)) none pos2) (tRaise W fun σ H Q => te σ H fun _ H1 => Q (.ref C) none H1) := by
  subst hK hm
  obtain ⟨bmB, B, newId, initId, F, q⟩ := T.ex
  exact ps_raise hc tk (SkE.pmk_own1 F q T.gC T.kC (raises_own T.sb T.ty) hg he hs hdb)
theorem kx_raise1 {X : Cx} {nm f : Str} {C : Addr} {e : Expr} {te : TE} {W : WX} {k : Nat} {p pos pos2 : Pos} {K : PySem.W.Frag} {mg : Str → Option Value} {P : Program} (T : Err1 K mg P nm f C) (hr : Room k X.A) (tk : Takes X W) (he : PE X e te) (hc : X.calm = true := by rfl) (hg : Gl X nm := by rfl) (hK : X.K = K := by rfl) (hm : X.mg = mg := by rfl) (hP : X.prog = P := by rfl)
    (hs : starEach [e] X.env = (false, eval e X.env) :: starEach [] X.env := by rfl) (hdb : (nm == ("__debug__" : Str)) = false := by decide) :
    PS X (.Raise (some (.Call (.Name nm p) [e] [] pos)) none pos2) (tRaise W (EX.tMk C f te)) := by
  subst hK hm hP
  obtain ⟨B, newId, initId, bmB, fI, BF, T⟩ := T.ex
  exact ps_raise hc tk (EX.pmk_sup BF T hr he hg hdb hs)
/-! ### a def's body -/
def BodyX (P : Program) (w : World) (K : PySem.W.Frag) (mg : Str → Option Value) (base : Heap) (ex : ExMap) (k : Nat) (qual : Str) (st : Stmt) (N : List Str) (r : RSX) : Prop :=
  ∀ (f : Addr) (E : XK), ∃ t : TS, ∀ (cdv : Value) (A : Around) (outer : List Env) (s : Shared) (H : Hp), Room k (A.deeper (envOfC qual (defScope st) s.heap.objs.size f cdv)) →
    DSsX (cxOf (L2.CX P w) P w K mg base N qual (defScope st) f cdv A outer s H E) ex (fun cls d _ H => E cls d H) (defBody st) t r
section
variable {P : Program} {w : World} {K : PySem.W.Frag} {mg : Str → Option Value} {base : Heap} {ex : ExMap}
theorem fnx_body {x qual : Str} {st : Stmt} {f : Addr} {fd : FuncData} {N ps : List Str} {k : Nat} {dsp : DSpX} {r : RSX} (B : BodyX P w K mg base ex k qual st N r) (F : Fun K x qual st f fd) (S : FnScope N ps (defScope st))
    (len : ∀ ds μ k kx, dsp ds μ k kx → ds.length = ps.length)
    (vc : ∀ ds μ k kx, dsp ds μ k kx → r (fun nm fo _ μ' => ∃ μ'', Sub μ'' μ' ∧ kx nm fo μ'') { nx := fun _ μ' => ∃ μ'', Sub μ'' μ' ∧ k .non μ'', rt := fun d μ' => ∃ μ'', Sub μ'' μ' ∧ k d μ'' } (startD N ds) μ) :
    FnOk P w K mg base (L2.CX P w) (k + 1) f fd ps (spX K ex dsp) := by
  refine F.okX S (fun vs H Q E h => ?_) (fun cdv A outer s H vs Q E hr h => ?_)
  · obtain ⟨ds, μ, G, k, kx, _, rl, hd, _⟩ := h
    rw [rl.length]
    exact len ds μ k kx hd
  · obtain ⟨ds, μ, G, k', kx, wd, rl, hd, th, tx⟩ := h
    obtain ⟨t, B⟩ := B f E
    have B := B cdv A outer s H hr
    refine ⟨t, B.p, B.o (L2.start N vs) (startD N ds) μ G H _ _ _ (start_ok rl) wd (vc ds μ k' kx hd) ⟨fun σ' δ' μ' G' H' ⟨μ'', hs, h⟩ S' w' g' => th _ _ μ'' G' H' h (w'.sub hs) (g'.sub hs) .non, fun _ _ _ _ _ h => h.elim, fun _ _ _ _ _ h => h.elim,
      fun v d μ' G' H' ⟨μ'', hs, h⟩ w' g' r' => th v d μ'' G' H' h (w'.sub hs) (g'.sub hs) r'⟩ fun nm fo d σ' δ' μ' G' H' ⟨μ'', hs, h⟩ S' w' g' xr => tx nm fo d μ'' G' H' h (w'.sub hs) (g'.sub hs) xr⟩
theorem fnX_of {x : Str} {st : Stmt} {N ps : List Str} {k : Nat} {dsp : DSpX} {r : RSX} (a : At K mg x st) (B : BodyX P w K mg base ex k x st N r) (S : FnScope N ps (defScope st))
    (hb : ∀ (kV doc pm : Value) (an : Option Addr) (cdv ct : Value) (us : List Value), us.length = ps.length → bindArgs (PySem.W.fnOf x x (defArgs st) (defBody st) (defScope st) .none kV doc pm an cdv ct) ⟨us, []⟩ = pure (ps.zip us))
    (len : ∀ ds μ k kx, dsp ds μ k kx → ds.length = ps.length)
    (vc : ∀ ds μ k kx, dsp ds μ k kx → r (fun nm fo _ μ' => ∃ μ'', Sub μ'' μ' ∧ kx nm fo μ'') { nx := fun _ μ' => ∃ μ'', Sub μ'' μ' ∧ k .non μ'', rt := fun d μ' => ∃ μ'', Sub μ'' μ' ∧ k d μ'' } (startD N ds) μ) :
    FnX P w K mg base ex x (k + 1) dsp := by
  obtain ⟨f, fd, F, hm, hk⟩ := a.ex
  exact ⟨f, fd, ps, fnx_body B F S len vc, hm, hk, F.binds hb⟩
end
/-! ### try -/
/-- the error that the suite's name holds -/
def errD (ex : ExMap) (nm : Str) (a : Addr) : Option Addr → Option D → D
  | some dd, some x => .err a dd (ex.fld nm) x
  | _, _ => .own a
/-- clauses: the class by name, the name's slot, the suite -/
abbrev DClause := Str × Option Nat × (Str → Addr → Option Addr → RS)
@[simp] def endsAsD (i : Nat) (DD : DEnds) : DEnds := { nx := fun δ' μ' => DD.nx (δ'.set i none) μ', rt := DD.rt, bk := fun δ' μ' => DD.bk (δ'.set i none) μ', ct := fun δ' μ' => DD.ct (δ'.set i none) μ' }
@[simp] def wTryD (ex : ExMap) (kx : SX) (DD : DEnds) : List DClause → SX
  | [] => kx
  | (cn, none, rs) :: l => fun nm fo δ μ => ∃ b, ex.is nm cn = some b ∧ (b = true → ∀ a d, (d.isSome = fo.isSome) → rs nm a d DD δ μ) ∧ (b = false → wTryD ex kx DD l nm fo δ μ)
  | (cn, some i, rs) :: l => fun nm fo δ μ => ∃ b, ex.is nm cn = some b ∧ (b = true → ∀ a d, (d.isSome = fo.isSome) → rs nm a d (endsAsD i DD) (δ.set i (some (errD ex nm a d fo))) μ) ∧ (b = false → wTryD ex kx DD l nm fo δ μ)
inductive OkCl (K : PySem.W.Frag) (ex : ExMap) : List EX.Clause → List DClause → Prop
  | nil : OkCl K ex [] []
  | cons {cn : Str} {o : Option Nat} {ts : Addr → Value → Option Addr → TS} {rs : Str → Addr → Option Addr → RS} {l : List EX.Clause} {dl : List DClause} (h : ∀ nm a d, OkS K (ts a (.ref (ex.at_ nm)) d) (rs nm a d)) (r : OkCl K ex l dl) :
      OkCl K ex ((.ref (ex.at_ cn), o, ts) :: l) ((cn, o, rs) :: dl)
@[simp] def rTryX (ex : ExMap) (rb : RSX) (dl : List DClause) : RSX := fun kx DD δ μ => rb (wTryD ex kx DD dl) DD δ μ
theorem XRep.isSome {K : PySem.W.Frag} {ex : ExMap} {G : Hp} {nm : Str} {d : Option Addr} {fo : Option D} (h : XRep K ex G nm d fo) : d.isSome = fo.isSome := by
  cases fo with
  | none => rw [show d = none from h]; rfl
  | some x => obtain ⟨dd, v, e, _⟩ := h; rw [e]; rfl
theorem XRep.err {K : PySem.W.Frag} {ex : ExMap} {G : Hp} {nm : Str} {d : Option Addr} {fo : Option D} (h : XRep K ex G nm d fo) (a : Addr) : Rep K G (.ref a) (errD ex nm a d fo) := by
  cases fo with
  | none => rw [show d = none from h]; exact .own a
  | some x => obtain ⟨dd, v, rfl, h1, h2⟩ := h; exact .err h1 h2
section
variable {K : PySem.W.Frag} {ex : ExMap} {W : WX} {tb : WX → TS} {rb : RSX}
theorem try_back (hx : ExOk K ex) {kx : SX} {DD : DEnds} {D : Ends} {l : List EX.Clause} {dl : List DClause} (hl : OkCl K ex l dl) {μ : Mu} {G H : Hp} (b : Back K μ G H DD D) (x : BackX K ex μ G H kx W) : BackX K ex μ G H (wTryD ex kx DD dl) (EX.wTry K W D l) := by
  induction hl with
  | nil => exact x
  | @cons cn o ts rs l dl h r ih =>
    intro nm fo d σ' δ' μ' G' H' q S w g xr
    cases o with
    | none =>
      obtain ⟨c, e, q1, q2⟩ := q
      exact ⟨c, hx _ _ _ e, fun hc a na => h nm a d σ' δ' μ' G' H' DD D S w (q1 hc a d xr.isSome) (b.go g), fun hc => ih nm fo d σ' δ' μ' G' H' (q2 hc) S w g xr⟩
    | some i =>
      obtain ⟨c, e, q1, q2⟩ := q
      have b' := b.go g
      exact ⟨c, hx _ _ _ e, fun hc a na => h nm a d _ _ μ' G' H' (endsAsD i DD) (EX.endsAs i D) (S.set (xr.err a) i) w (q1 hc a d xr.isSome)
        ⟨fun σ2 δ2 μ2 G2 H2 q S w g => b'.nx _ _ μ2 G2 H2 q (S.unset i _) w g, fun σ2 δ2 μ2 G2 H2 q S w g => b'.bk _ _ μ2 G2 H2 q (S.unset i _) w g, fun σ2 δ2 μ2 G2 H2 q S w g => b'.ct _ _ μ2 G2 H2 q (S.unset i _) w g, b'.rt⟩,
        fun hc => ih nm fo d σ' δ' μ' G' H' (q2 hc) S w g xr⟩
theorem okSX_try (hx : ExOk K ex) {l : List EX.Clause} {dl : List DClause} (hb : ∀ W', OkSX K ex W' (tb W') rb) (hl : OkCl K ex l dl) : OkSX K ex W (fun D σ H => tb (EX.wTry K W D l) D σ H) (rTryX ex rb dl) := fun σ δ μ G H DD D kx S w q b x =>
  hb (EX.wTry K W D l) σ δ μ G H DD D _ S w q b (try_back hx hl b x)
/-- nothing leaves the try -/
@[simp] def rTry0 (ex : ExMap) (rb : RSX) (dl : List DClause) : RS := fun DD δ μ => rb (wTryD ex (fun _ _ _ _ => False) DD dl) DD δ μ
theorem okS_try0 (hx : ExOk K ex) {l : List EX.Clause} {dl : List DClause} (hb : ∀ W', OkSX K ex W' (tb W') rb) (hl : OkCl K ex l dl) : OkS K (fun D σ H => tb (EX.wTry K (fun _ _ _ _ => False) D l) D σ H) (rTry0 ex rb dl) := fun σ δ μ G H DD D S w q b =>
  hb (EX.wTry K (fun _ _ _ _ => False) D l) σ δ μ G H DD D _ S w q b (try_back (W := fun _ _ _ _ => False) hx hl b fun _ _ _ _ _ _ _ _ h => h.elim)
/-- error.f in the suite of nm's errors -/
@[simp] def rErr (ex : ExMap) (cn : Str) (nm : Str) (a : Addr) (d : Option Addr) (ra : RE) : RE := fun δ μ k => ra δ μ fun y μ1 => match y with | .err a' dd f x => a' = a ∧ d = some dd ∧ nm = cn ∧ f = ex.fld cn ∧ k x μ1 | _ => False
theorem okE_err {cn nm f0 : Str} {a : Addr} {d : Option Addr} {te : TE} {ra : RE} (hf : ex.fld cn = f0) (h : OkE K te ra) : OkE K (tXf a (.ref (ex.at_ nm)) d (ex.at_ cn) f0 te) (rErr ex cn nm a d ra) := by
  subst hf
  exact fun σ δ μ G H k Q S w q b => h σ δ μ G H _ _ S w q fun v y μ1 G1 H1 q1 w1 g1 r1 => by
    cases r1 with
    | @err a' dd f v0 x hd hv =>
      obtain ⟨ea, ed, en, ef, q2⟩ := q1
      subst ea ed en ef
      exact ⟨rfl, rfl, dd, _, v0, rfl, w1.ex _ _ hd, by simp [List.lookup], b v0 x μ1 G1 H1 q2 w1 g1 hv⟩
    | _ => exact q1.elim
end
end DL


set_option Elab.async false
set_option linter.all false
set_option maxRecDepth 100000
set_option maxHeartbeats 4000000
/-! EXd: a lambda without parameters handed to a def that calls it; just what its making changes, and its errors at the caller's slots. -/
namespace EX
open PySem PySem.Spec PyProof.Rows
open L2 LamX
/-- a lambda's text: no parameters -/
structure LamTxt (X : Cx) (params : Arguments) (body : Expr) (scope : Scope) : Prop where
  sc : LamS X.env.scope scope
  defs : defaultsOf params X.env = ([], [])
  bind : ∀ (name : Str) (cells : List (Str × Addr)) (m code consts : Value), bindArgs (PySem.W.kla_fn "<lambda>" name params body scope cells m code consts) ⟨[], []⟩ = pure []
/-- its body's rule, whatever calls it -/
def LamRuns (X : Cx) (scope : Scope) (body : Expr) (k : Nat) (tb : XK → TE) (f c' : Addr) : Prop :=
  ∀ (A : Around) (frames : List Env) (at_ : Shared) (Hp0 : Hp) (E : XK), Room k (A.deeper (lamEnv X scope at_.heap.objs.size f c')) → PE (lamCx X A frames at_ Hp0 E scope f c') body (tb E)
/-- a name like any other -/
structure Plainly (x : Str) : Prop where
  dbg : (x == ("__debug__" : Str)) = false
  cdt : (x == ("__classdict__" : Str)) = false
/-- what the making of a lambda does: nothing, or one new code object at c', told by the table at P too -/
inductive Made (P : Addr) (q : Str) (H : Hp) : Hp → Prop
  | old : Made P q H H
  | more {c' : Addr} {ps new : Array Value} (fresh : H c' = none) (tab : H P = some (.tbl ps)) (tri : TriplesOk (ps ++ new).toList) (tell : ∀ (pos : Pos) (cv : Value), codeAmong pos (ps ++ new).toList = some cv → codeAmong pos ps.toList = some cv ∨ cv = .ref c') :
      Made P q H (upd (upd H P (.tbl (ps ++ new))) c' (CodeO c' q))
/-- a lambda of X's def, made: the function at f, its code object at c' -/
structure LamAt (X : Cx) (params : Arguments) (body : Expr) (scope : Scope) (f c' : Addr) (pm ctv : Value) (H : Hp) (s : Shared) : Prop where
  obj : s.heap.get? f = some (PySem.W.kla_obj "<lambda>" (X.env.qual ++ "<lambda>") params body scope (cloFrom X.env.cells scope.names []) pm c' ctv)
  loose : H f = none
  off : f ∉ frs X.stack
  code : H c' = some (CodeO c' (X.env.qual ++ "<lambda>"))
section
variable {X : Cx} {pins : List (Addr × Obj)} {σ : L2.St} {H : Hp} {s : Shared} {c P : Addr} {params : Arguments} {body : Expr} {scope : Scope} {pos : Pos}
theorem new_off (I : Inv X pins σ H s) {f : Addr} (hf : s.heap.objs.size ≤ f) : f ∉ frs X.stack := fun hm => by
  cases List.mem_cons.mp (I.stkSub _ hm) with
  | inl e => rw [e] at hf; exact Nat.lt_irrefl _ (Nat.lt_of_lt_of_le I.lt hf)
  | inr e => exact I.nofs hf e
theorem lam_value (I : Inv X pins σ H s) (TB : TabB X.base X.mg c P) (hcode : X.env.code = .ref c) (hT : TabS H P (X.env.qual ++ "<lambda>")) (T : LamTxt X params body scope) {E : Value → Shared → Prop} :
    wpAny (model X.prog X.w) X.A (eval (.Lambda params body scope pos) X.env) (fun u s' => ∃ f c' pm ctv H1, u = .ref f ∧ Inv X pins σ H1 s' ∧ Made P (X.env.qual ++ "<lambda>") H H1 ∧ LamAt X params body scope f c' pm ctv H1 s') E s := by
  obtain ⟨ps, tab, tri, told⟩ := hT
  have row := I.hok P _ tab
  have blt := TB.bm.keeps I.bk
  have hd := TB.code.keeps I.bk
  have glb := I.mod.glob.keeps I.bk
  have clo := closure_ok (T.sc.has I.ok)
  refine PySem.W.kla_eval (T.defs) ?_
  match hc : codeAmong pos ps.toList with
  | some cv =>
    obtain ⟨c', rfl, known⟩ := told pos cv hc
    exact PySem.W.kla_makeFunctionHit clo I.ok.glob glb hcode hd row tri hc blt fun ctv h' tk hx hsz =>
      ⟨_, c', _, ctv, H, rfl, I.kept fun b o e => Heap.get?_push_of_some _ (hx b o e), .old, Heap.get?_push_size _ rfl, I.hok.fresh hsz, new_off I hsz, known⟩
  | none =>
    refine PySem.W.kla_makeFunction clo I.ok.glob glb hcode hd row tri hc TB.gP blt fun c' ctv h' tk hx hge hlt hrec htb => ?_
    obtain ⟨_, oc, vs, t, e2, hoc, hdat, hv⟩ := hrec
    cases e2
    have free := I.hok.fresh hge
    have big : s.heap.objs.size ≤ h'.objs.size := Nat.le_trans hge (Nat.le_of_lt hlt)
    have J := inv_table (t' := tk) I tab (fun b o hb e => Heap.get?_push_of_some (PySem.W.kla_obj "<lambda>" (X.env.qual ++ "<lambda>") params body scope (cloFrom X.env.cells scope.names []) ((X.mg "__name__").getD .none) c' ctv) (hx b o hb e))
      (Heap.get?_push_of_some _ htb) hge ⟨oc, vs, t, Heap.get?_push_of_some _ hoc, hdat, hv⟩
    have app : (ps ++ #[rawInt pos.line, rawInt pos.col, .ref c']).toList = ps.toList ++ [rawInt pos.line, rawInt pos.col, .ref c'] := by simp
    refine ⟨_, c', _, ctv, _, rfl, J, .more free tab ?_ (fun p' cv' q => ?_), Heap.get?_push_size _ rfl, ?_, new_off I big, upd_same⟩
    · rw [app]; exact TriplesOk_snoc _ _ _ _ tri
    · rw [app] at q; exact among_app _ tri q
    · rw [upd_ne (Nat.ne_of_gt hlt), upd_ne (Nat.ne_of_gt (Nat.lt_of_lt_of_le (Heap.lt_size row) big))]
      exact I.hok.fresh big
end
section
variable {X : Cx} {pins : List (Addr × Obj)} {σ : L2.St} {H HZ : Hp} {s s1 : Shared} {params : Arguments} {body : Expr} {scope : Scope} {f c' : Addr} {pm ctv : Value} {k : Nat} {tb : XK → TE}
/-- the lambda called, from anywhere behind its making -/
theorem lam_code {A : Around} {outer : List Env} {Q : VK} {E : XK} (I : Inv X pins σ H s) (T : LamTxt X params body scope) (M : LamAt X params body scope f c' pm ctv H s) (hr : Room (k + 1) A) (e0 : Env0 X.prog X.w X.K X.mg X.base A outer s1 HZ)
    (un : Un (frs X.stack) [] H HZ s.heap s1.heap) (lim : s1.heap.NoLimit) (hc : HZ c' = some (CodeO c' (X.env.qual ++ "<lambda>")))
    (run : LamRuns X scope body k tb f c') (h : tb E σ HZ Q) :
    codeAny (model X.prog X.w) A (.call (.ref f) ⟨[], []⟩) (CR (L2.CX X.prog X.w) outer X.prog X.w HZ s1 Q E) s1 := by
  have still := un.keep f _ M.obj M.loose M.off (fun z => nomatch z)
  obtain ⟨⟨oc, vs, t, o1, o2, o3⟩, _, _⟩ := e0.hok c' _ hc
  refine PySem.W.kla_callFunE hr.depth still rfl T.sc.co T.sc.gen rfl ⟨c', oc, vs, t, rfl, o1, o2, o3⟩ ?_
  rw [T.bind]
  refine wpAny_pure (wpAny_newFunctionEnv (fun y hy => (T.sc.own y hy).2) (fun y hy => nomatch hy) (fun hN nsN sb => ⟨lim.fresh _ sb, ?_⟩) T.sc.kind)
  have up : ∀ b o, s1.heap.get? b = some o → hN.get? b = some o := fun b o e => sb.extBut b o (Nat.ne_of_lt (Heap.lt_size e)) (Heap.get?_push_of_some _ e)
  have J := lam_start2 (tk := s1.toks + ([] : List (Str × Value)).length) (E := E) (f := f) (c' := c') I T.sc e0 hr.hd un nsN up
  exact PySem.W.kla_codeExpr (wpAny_mono ((run A outer s1 HZ E (hr.deeper _)).run [] _ _ HZ Q J h) (fun u s' ⟨v, H', J', r, w⟩ => ⟨v, H', J'.os, J'.bare, J'.base, J'.hok, r, w⟩) fun _ _ z => z)
/-- x(), in the def that got it -/
theorem pe_actS {CXg : CXT} {Eg : XK} {Ng : List Str} {qg : Str} {sg : Scope} {g : Addr} {cdg : Value} {i : Nat} {a : Str} {pn : List (Addr × Obj)} {xe : Value → Shared → Prop} {W : WX} {p1 p2 : Pos} (I : Inv X pins σ H s) (T : LamTxt X params body scope) (M : LamAt X params body scope f c' pm ctv H s)
    (tk : Takes ((cxOf CXg X.prog X.w X.K X.mg X.base Ng qg sg g cdg X.A X.stack s H Eg).tr pn xe) W) (hr : Room (k + 1) (X.A.deeper (envOfC qg sg s.heap.objs.size g cdg))) (run : LamRuns X scope body k tb f c') (slot : Ng[i]? = some a) (seen : Vis sg a) (pl : Plainly a) :
    PE ((cxOf CXg X.prog X.w X.K X.mg X.base Ng qg sg g cdg X.A X.stack s H Eg).tr pn xe) (.Call (.Name a p1) [] [] p2) (fun σZ HZ Q => σZ[i]? = some (some (.ref f)) ∧ HZ c' = some (CodeO c' (X.env.qual ++ "<lambda>")) ∧ tb (WE W σZ) σ HZ Q) :=
  ⟨fun pinsZ sZ σZ HZ Q IZ ⟨held, known, want⟩ => by
    have name := (pe_var (X := (cxOf CXg X.prog X.w X.K X.mg X.base Ng qg sg g cdg X.A X.stack s H Eg).tr pn xe) (pos := p1) (i := i) slot seen pl.dbg pl.cdt).run pinsZ sZ σZ HZ (fun v H1 => v = .ref f ∧ H1 = HZ) IZ ⟨.ref f, held, rfl, rfl⟩
    refine wpAny_Call_Name_kw (thn name fun u s2 ⟨v, H1, I2, rv, ev, eH⟩ => ?_)
    subst ev eH
    cases (show u = Value.ref f from rv)
    have un : Un (frs X.stack) [] H H1 s.heap s2.heap := I2.base
    refine PySem.W.callWith_F0 ⟨_, _, _, _, un.keep f _ M.obj M.loose M.off (fun z => nomatch z)⟩ ?_
    have code := lam_code (E := WE W σZ) (Q := Q) (s1 := s2) I T M hr I2.env0 un I2.nolimit known run want
    refine wpAny_call (codeAny_mono code fun r s3 w => ?_)
    match r, w with
    | .ok (.ret _), w => exact I2.after w
    | .error e, w => exact passAt tk σZ pinsZ H1 s2 e s3 I2 w⟩
end
/-- the def that calls what it got: TT tells what it makes of the call's reading tl -/
def GivesS (X : Cx) (k : Nat) (Ng : List Str) (x : Str) (sg : Scope) (g : Addr) (cdg : Value) (bg : List Stmt) (a : Str) (q : Str) (TT : (XK → Hp → VK → Prop) → Hp → VK → Prop) : Prop :=
  ∀ (f c' : Addr) (s : Shared) (H : Hp) (Q : VK) (tl : XK → Hp → VK → Prop), Room k (X.A.deeper (envOfC x sg s.heap.objs.size g cdg)) →
    (∀ (W : WX) (pn : List (Addr × Obj)) (xe : Value → Shared → Prop) (p1 p2 : Pos), Takes ((cxOf C8.CX0 X.prog X.w X.K X.mg X.base Ng x sg g cdg X.A X.stack s H C8.E0).tr pn xe) W →
      PE ((cxOf C8.CX0 X.prog X.w X.K X.mg X.base Ng x sg g cdg X.A X.stack s H C8.E0).tr pn xe) (.Call (.Name a p1) [] [] p2) (fun σZ HZ Q => σZ[0]? = some (some (.ref f)) ∧ HZ c' = some (CodeO c' q) ∧ tl (WE W σZ) HZ Q)) →
    H c' = some (CodeO c' q) → TT tl H Q → ∃ t, PSs (cxOf C8.CX0 X.prog X.w X.K X.mg X.base Ng x sg g cdg X.A X.stack s H C8.E0).nox bg t ∧ t { nx := fun _ H' => Q .non H', rt := Q } (L2.start Ng [.ref f]) H
def tLamM (P : Addr) (q : Str) (TT : (XK → Hp → VK → Prop) → Hp → VK → Prop) (t : XK → TE) : TE := fun σ H Q => TabS H P q ∧ ∀ H1 c', Made P q H H1 → H1 c' = some (CodeO c' q) → TT (fun E H' Q' => t E σ H' Q') H1 Q
/-- x(lambda: body) -/
theorem pe_lamM {X : Cx} {TT : (XK → Hp → VK → Prop) → Hp → VK → Prop} {x a : Str} {g c P : Addr} {k : Nat} {pg : Arguments} {bg : List Stmt} {sg : Scope} {dV kV doc pm cdv ct oc : Value} {an od : Option Addr} {osl : Array (Option Value)} {Ng : List Str} {params : Arguments} {body : Expr} {scope : Scope} {t : XK → TE} {p lpos pos : Pos}
    (hg : Gl X x) (hm : X.mg x = some (.ref g)) (hk : PySem.W.keepIn X.K (.ref g) = true) (lk : X.K.lookup g = some ⟨oc, od, .func (PySem.W.fnOf x x pg bg sg dV kV doc pm an cdv ct), osl⟩) (hcg : PySem.W.codeIn X.K cdv x = true)
    (hb : L2.Binds X.K (PySem.W.fnOf x x pg bg sg dV kV doc pm an cdv ct) [a] []) (Sg : FnScope Ng [a] sg) (hNg : Ng[0]? = some a) (hva : Vis sg a) (hG : GivesS X (k + 1) Ng x sg g cdv bg a (X.env.qual ++ "<lambda>") TT)
    (TB : TabB X.base X.mg c P) (hcode : X.env.code = .ref c) (hr : Room (k + 2) X.A) (T : LamTxt X params body scope) (run : ∀ f c', LamRuns X scope body k t f c') (px : Plainly x) (pa : Plainly a) :
    PE X (.Call (.Name x p) [.Lambda params body scope lpos] [] pos) (tLamM P (X.env.qual ++ "<lambda>") TT t) := ⟨fun pins s σ H Q I ⟨tab, want⟩ => by
  refine wpAny_Call_Name_kw (ld_glob I hg hm (PySem.W.callWith_K (h₀ := X.base) I.ok.mod.kin hk ?_ (by rfl) (by rfl)) px.dbg)
  refine Calls.spliced_cons (wpAny_mono (lam_value I TB hcode tab T) (fun u s2 ⟨f, c', pm', ctv, H1, eu, J, made, M⟩ => ?_) fun _ _ z => z)
  subst eu
  refine Calls.spliced_nil ⟨J.kIn, wpAny_call (codeAny_mono (run_ofS (N := Ng) (ps := [a]) (us := [.ref f]) (vs := [.ref f]) (Q := Q) (CX := C8.CX0) (E := C8.E0) lk hcg Sg hr J.env0 (hb s2 [.ref f] J.kIn rfl) (.cons rfl .nil) rfl fun hr2 => ?_) fun r s3 w => ?_)⟩
  · obtain ⟨t2, rule, goal⟩ := hG f c' s2 H1 Q (fun E H' Q' => t E σ H' Q') hr2 (fun W pn xe p1 p2 tk => pe_actS (i := 0) J T M tk hr2 (run f c') hNg hva pa) M.code (want H1 c' made M.code)
    exact ⟨t2, rule.nox, goal⟩
  · match r, w with
    | .ok (.ret _), w => exact J.after w
    | .error e, w => exact (show False from w).elim⟩
end EX


set_option Elab.async false
set_option linter.all false
set_option maxRecDepth 100000
set_option maxHeartbeats 4000000
/-! EXe: lambdas, the def that tries them, repr and errors' fields, over data. -/
namespace DL
open PySem PySem.Spec PyProof.Rows L2 SlX
open LamX (CodeO TabS)
/-! ### a lambda handed to a def -/
/-- what the call of a lambda is, its maker's slots known -/
abbrev RC := DX → Mu → DK → Prop
/-- tl stands for rc from G on -/
def OkL (K : PySem.W.Frag) (ex : ExMap) (G0 : Hp) (tl : XK → Hp → VK → Prop) (rc : RC) : Prop :=
  ∀ (μ : Mu) (G H : Hp) (k : DK) (kx : DX) (Q : VK) (E : XK), Ex G0 G → Wd K G H μ → rc kx μ k → Then K μ G H k Q → ThenX K ex μ G H kx E → tl E H Q
/-- the reading of the def that is handed the lambda, by the lambda's call -/
abbrev RM := RC → RS
def TTD (K : PySem.W.Frag) (ex : ExMap) (N : List Str) (rm : RM) : (XK → Hp → VK → Prop) → Hp → VK → Prop := fun tl H Q =>
  ∃ (rc : RC) (μ : Mu) (G : Hp) (k : DK), Wd K G H μ ∧ OkL K ex G tl rc ∧ (∀ f, rm rc { nx := fun _ μ' => k .non μ', rt := k } (startD N [.own f]) μ) ∧ Then K μ G H k Q
/-- x(lambda: body): P the maker's table -/
def rLam (P : Addr) (q : Str) (N : List Str) (rm : RM) (rb : REX) : RE := fun δ μ k => μ P = some (.tb q) ∧ ∀ f, rm (fun kx μ1 k1 => rb kx δ μ1 k1) { nx := fun _ μ' => k .non μ', rt := k } (startD N [.own f]) μ
theorem tab_of {K : PySem.W.Frag} {G H : Hp} {μ : Mu} {P : Addr} {q : Str} (w : Wd K G H μ) (h : μ P = some (.tb q)) : TabS H P q := by
  obtain ⟨_, o, e, r⟩ := w.mu P _ h
  cases r with
  | tb h1 h2 => exact ⟨_, e, h1, fun pos cv hc => let ⟨c, e1, e2⟩ := h2 pos cv hc; ⟨c, e1, w.ex _ _ e2⟩⟩
theorem made_go {K : PySem.W.Frag} {G H H1 : Hp} {μ : Mu} {P : Addr} {q : Str} (w : Wd K G H μ) (h : μ P = some (.tb q)) (m : EX.Made P q H H1) : ∃ G1, Wd K G1 H1 μ ∧ Go μ G H μ G1 H1 := by
  cases m with
  | old => exact ⟨G, w, Go.refl _ _ _⟩
  | @more c' ps nw fresh tab tri tell =>
    obtain ⟨gP, o, e, r⟩ := w.mu P _ h
    rw [tab] at e
    cases e
    cases r with
    | tb h1 h2 =>
      have nP : P ≠ c' := ne_of_none tab fresh
      have w1 := w.new (o := CodeO c' q) fresh
      have g1 : Go μ G H μ (upd G c' (CodeO c' q)) (upd H c' (CodeO c' q)) := Go.new w fresh
      have rc : RepC K (upd G c' (CodeO c' q)) (.tbl (ps ++ nw)) (.tb q) := .tb tri fun pos cv hc => by
        rcases tell pos cv hc with z | z
        · obtain ⟨c, e1, e2⟩ := h2 pos cv z
          exact ⟨c, e1, Ex.new (w.gnone fresh) _ _ e2⟩
        · exact ⟨c', z, upd_same⟩
      have w2 := w1.wrC h rc
      have g2 : Go μ (upd G c' (CodeO c' q)) (upd H c' (CodeO c' q)) (muSet μ P (.tb q)) (upd G c' (CodeO c' q)) (upd (upd H c' (CodeO c' q)) P (.tbl (ps ++ nw))) := Go.wrC h
      have eμ : muSet μ P (.tb q) = μ := by
        funext b; unfold muSet
        by_cases hb : b = P
        · rw [if_pos hb, hb, h]
        · rw [if_neg hb]
      have eH : upd (upd H c' (CodeO c' q)) P (.tbl (ps ++ nw)) = upd (upd H P (.tbl (ps ++ nw))) c' (CodeO c' q) := by
        funext b
        by_cases hb : b = P
        · subst hb; rw [upd_same, upd_ne nP, upd_same]
        · rw [upd_ne hb]
          by_cases hc : b = c'
          · subst hc; rw [upd_same, upd_same]
          · rw [upd_ne hc, upd_ne hc, upd_ne hb]
      rw [eμ, eH] at w2 g2
      exact ⟨_, w2, g1.trans g2⟩
theorem okE_lam {K : PySem.W.Frag} {ex : ExMap} {P : Addr} {q : Str} {N : List Str} {rm : RM} {t : XK → TE} {rb : REX} (h : ∀ E : XK, OkEX K ex (fun c d _ H => E c d H) (t E) rb) : OkE K (EX.tLamM P q (TTD K ex N rm) t) (rLam P q N rm rb) := fun σ δ μ G H k Q S w ⟨tab, goal⟩ b =>
  ⟨tab_of w tab, fun H1 c' m _ => by
    obtain ⟨G1, w1, g1⟩ := made_go w tab m
    exact ⟨fun kx μ1 k1 => rb kx δ μ1 k1, μ, G1, k, w1, fun μ2 G2 H2 k2 kx2 Q2 E2 e w2 q2 b2 x2 => h E2 σ δ μ2 G2 H2 k2 kx2 Q2 (S.mono (g1.eg.trans e)) w2 q2 b2 x2, goal,
      fun v d μ' G' H' qk w' g' r' => b v d μ' G' H' qk w' (g1.trans g') r'⟩⟩
/-- try: a() except ..; rest -/
def rMetS (ex : ExMap) (dl : List DClause) (ru : RS) : RM := fun rc DD δ μ => rc (atSl (wTryD ex (fun _ _ _ _ => False) { DD with nx := ru DD } dl) δ) μ fun _ μ1 => ru DD δ μ1
/-- try: return a() except .. -/
def rMetR (ex : ExMap) (dl : List DClause) : RM := fun rc DD δ μ => rc (atSl (wTryD ex (fun _ _ _ _ => False) DD dl) δ) μ DD.rt
section
variable {X : Cx} {K : PySem.W.Frag} {ex : ExMap} {k : Nat} {Ng : List Str} {x a q : Str} {sg : Scope} {g : Addr} {cdg : Value} {h₀ : ExceptHandler} {hds : List ExceptHandler} {rest : List Stmt} {l : List EX.Clause} {dl : List DClause} {u : TS} {ru : RS} {p1 p2 p3 p4 : Pos}
theorem lam_slot {G : Hp} {f : Addr} {N : List Str} : SlOk K G (L2.start N [V.ref f]) (startD N [.own f]) := start_ok (.cons (.own f) .nil)
theorem lam_back {μ : Mu} {G H : Hp} {k' : DK} {Q : VK} (th : Then K μ G H k' Q) : Back K μ G H { nx := fun _ μ' => k' .non μ', rt := k' } { nx := fun _ H' => Q .non H', rt := Q } :=
  ⟨fun σ' δ' μ' G' H' h S' w' g' => th _ _ μ' G' H' h w' g' .non, fun _ _ _ _ _ h => h.elim, fun _ _ _ _ _ h => h.elim, fun v d μ' G' H' h w' g' r' => th v d μ' G' H' h w' g' r'⟩
theorem met_stmt (hx : ExOk K ex) (hl : OkCl K ex l dl) (hu : OkS K u ru) (nd : Ng.Nodup) (h0 : ∀ f : Addr, (L2.start Ng [V.ref f])[0]? = some (some (V.ref f)))
    (hds_ok : ∀ (s : Shared) (H : Hp), Room k (X.A.deeper (envOfC x sg s.heap.objs.size g cdg)) → EX.HdsG (cxOf C8.CX0 X.prog X.w X.K X.mg X.base Ng x sg g cdg X.A X.stack s H C8.E0).nox (h₀ :: hds) l)
    (rest_ok : ∀ (s : Shared) (H : Hp), Room k (X.A.deeper (envOfC x sg s.heap.objs.size g cdg)) → PSs (cxOf C8.CX0 X.prog X.w X.K X.mg X.base Ng x sg g cdg X.A X.stack s H C8.E0).nox rest u) (hK : X.K = K := by rfl)
    (hsw : ∀ (s : Shared) (H : Hp), swapsWith (.Call (.Name a p1) [] [] p2) none p3.line (cxOf C8.CX0 X.prog X.w X.K X.mg X.base Ng x sg g cdg X.A X.stack s H C8.E0).env = pure false := by intro _ _; rfl) :
    EX.GivesS X k Ng x sg g cdg (.Try [.Expr (.Call (.Name a p1) [] [] p2) p3] (h₀ :: hds) [] [] p4 :: rest) a q (TTD K ex Ng (rMetS ex dl ru)) := by
  subst hK
  intro f c' s H Q tl hr act hc ⟨rc, μ, G, k', w, ok, goal, th⟩
  have body := EX.ps_try_gen (pos := p4) (tb := fun W => tDrop fun σZ HZ Q => σZ[0]? = some (some (.ref f)) ∧ HZ c' = some (CodeO c' q) ∧ tl (WE W σZ) HZ Q) (Wout := fun _ _ _ _ => False)
    (X := (cxOf C8.CX0 X.prog X.w X.K X.mg X.base Ng x sg g cdg X.A X.stack s H C8.E0).nox) rfl rfl nd LamX.takes0 (fun W pn xe tk _ => pss_one (ps_expr (act W pn xe p1 p2 tk) (hsw s H))) (hds_ok s H hr)
  refine ⟨_, pss_cons body (rest_ok s H hr), h0 f, hc, ?_⟩
  have b := lam_back th
  refine ok μ G H _ _ _ _ (Ex.refl _) w (goal f) (fun v d μ1 G1 H1 q1 w1 g1 r1 => ?_) ?_
  · exact hu _ _ μ1 G1 H1 _ _ (lam_slot.mono g1.eg) w1 q1 (b.go g1)
  · refine back_then lam_slot (try_back (W := fun _ _ _ _ => False) hx hl ⟨fun σ1 δ1 μ1 G1 H1 q1 S1 w1 g1 => hu _ _ μ1 G1 H1 _ _ S1 w1 q1 (b.go g1), b.bk, b.ct, b.rt⟩ fun _ _ _ _ _ _ _ _ h => h.elim)
theorem met_ret (hx : ExOk K ex) (hl : OkCl K ex l dl) (nd : Ng.Nodup) (h0 : ∀ f : Addr, (L2.start Ng [V.ref f])[0]? = some (some (V.ref f)))
    (hds_ok : ∀ (s : Shared) (H : Hp), Room k (X.A.deeper (envOfC x sg s.heap.objs.size g cdg)) → EX.HdsG (cxOf C8.CX0 X.prog X.w X.K X.mg X.base Ng x sg g cdg X.A X.stack s H C8.E0).nox (h₀ :: hds) l) (hK : X.K = K := by rfl) :
    EX.GivesS X k Ng x sg g cdg [.Try [.Return (some (.Call (.Name a p1) [] [] p2)) p3] (h₀ :: hds) [] [] p4] a q (TTD K ex Ng (rMetR ex dl)) := by
  subst hK
  intro f c' s H Q tl hr act hc ⟨rc, μ, G, k', w, ok, goal, th⟩
  have body := EX.ps_try_gen (pos := p4) (tb := fun W => tRet fun σZ HZ Q => σZ[0]? = some (some (.ref f)) ∧ HZ c' = some (CodeO c' q) ∧ tl (WE W σZ) HZ Q) (Wout := fun _ _ _ _ => False)
    (X := (cxOf C8.CX0 X.prog X.w X.K X.mg X.base Ng x sg g cdg X.A X.stack s H C8.E0).nox) rfl rfl nd LamX.takes0 (fun W pn xe tk _ => pss_one (ps_ret (pos := p3) (act W pn xe p1 p2 tk))) (hds_ok s H hr)
  refine ⟨_, pss_one body, h0 f, hc, ?_⟩
  have b := lam_back th
  exact ok μ G H _ _ _ _ (Ex.refl _) w (goal f) th (back_then lam_slot (try_back (W := fun _ _ _ _ => False) hx hl b fun _ _ _ _ _ _ _ _ h => h.elim))
end
end DL


set_option Elab.async false
set_option linter.all false
set_option maxRecDepth 100000
set_option maxHeartbeats 4000000
/-! EXf: repr of data (guards known), calls of local names that may raise, defs run with no guard around. -/
namespace DL
open PySem PySem.Spec PyProof.Rows L2 SlX
/-! ### repr -/
/-- repr(x), x plain data without dicts -/
def rRepr (K : PySem.W.Frag) : List V → Hp → VK → Prop := fun xs H Q => ∃ v x, xs = [v] ∧ Dp K H v x ∧ x.showable = true ∧ x.hasDict = false ∧ x.depth ≤ 8 ∧ x.shown.length ≤ sizeLine ∧ Q (.str x.shown) H
theorem kc_repr {X : Cx} (K : PySem.W.Frag) (hG : X.A.guards = some []) (hu : X.A.units + 64 < cLine) (hK : X.K = K := by rfl) : CallR X (.builtin "repr") (rRepr K) := by
  subst hK
  intro pins s σ H xs us Q I r ⟨v, x, e, dp, hs, hd, hl, hz, q⟩
  subst e
  obtain ⟨u, rfl, ru⟩ := r.one
  have str : ∀ {t : Tok} {s' : Shared}, (∀ b o, s.heap.get? b = some o → s'.heap.get? b = some o) → s' = { s with heap := s'.heap, toks := s'.toks } → EP X pins σ Q (.str x.shown t) s' := fun {t s'} k e => by
    rw [e]
    exact ⟨.str _, H, I.kept (t' := s'.toks) k, ⟨_, rfl⟩, q⟩
  have ref : ∀ {a : Addr}, u = .ref a → wpAny (model X.prog X.w) X.A (call (.builtin "repr") [u]) (EP X pins σ Q) X.xe s := fun {a} e => by
    obtain ⟨as, rd⟩ := Dp.reads I x v u dp ru
    rw [e] at rd ⊢
    exact PySem.repr_of_reads' rd hs (PyData.noDict_hsm hd) hG (by omega) (fun _ _ e => e) (fun h' t tk k => str (s' := { s with heap := h', toks := tk }) k rfl) hz
  cases dp with
  | non =>
    cases (show u = Value.none from ru)
    exact PySem.P.repr_of_none (by have := str (t := s.toks) (s' := { s with toks := s.toks + 1 }) (fun _ _ e => e) rfl; rwa [PyData.shown_none] at this)
  | bl b =>
    cases (show u = Value.bool b from ru)
    exact PySem.P.repr_of_bool (by have := str (t := s.toks) (s' := { s with toks := s.toks + 1 }) (fun _ _ e => e) rfl; rwa [PyData.shown_bool] at this)
  | int i =>
    obtain ⟨t, rfl⟩ := (show ∃ t, u = Value.int i t from ru)
    have hb : i.natAbs.log2 < 1920 := by simpa [PyData.showable] using hs
    exact PySem.P.repr_of_int hb (by have := str (t := s.toks) (s' := { s with toks := s.toks + 1 }) (fun _ _ e => e) rfl; rwa [PyData.shown_int] at this)
  | str y =>
    obtain ⟨t, rfl⟩ := (show ∃ t, u = Value.str y t from ru)
    exact PySem.P.repr_of_str (by have := str (t := s.toks) (s' := { s with toks := s.toks + 1 }) (fun _ _ e => e) rfl; rwa [PyData.shown_str] at this) (by rw [PyData.shown_str] at hz; exact hz)
  | lst h r => exact ref (show u = Value.ref _ from ru)
  | tup h r => exact ref (show u = Value.ref _ from ru)
@[simp] def oRepr : FL := fun xs μ k => match xs with | [x] => ∃ a, asPy μ x = some a ∧ a.showable = true ∧ a.hasDict = false ∧ a.depth ≤ 8 ∧ a.shown.length ≤ 1000000 ∧ k (.str a.shown) μ | _ => False
theorem okRepr {K : PySem.W.Frag} : OkC K (rRepr K) oRepr := fun xs as μ G H k Q w r q t => by
  unfold oRepr at q
  split at q
  · obtain ⟨a, e, h1, h2, h3, h4, q⟩ := q
    obtain ⟨v, rfl, rx⟩ := one_arg r
    exact ⟨v, a, rfl, asPy_out w rx e, h1, h2, h3, sz_of h4, t _ _ μ G H q w (Go.refl _ _ _) (.str _)⟩
  · exact q.elim
/-! ### a local name that holds one of several defs -/
section
variable {K : PySem.W.Frag} {ex : ExMap} {W : WX}
def tCallV (i : Nat) (sps : Addr → Sp → Prop) (W : WX) (t : TA) : TE := fun σ H Q => ∃ f sp, σ[i]? = some (some (.ref f)) ∧ sps f sp ∧ t σ H fun vs H1 => sp vs H1 Q (WE W σ)
/-- the defs that the name may hold: by their names; fa: where they stand -/
abbrev Calls := Str → Option DSpX
def spsOf (K : PySem.W.Frag) (ex : ExMap) (fa : Str → Addr) (cs : Calls) : Addr → Sp → Prop := fun f sp => ∃ x dsp, cs x = some dsp ∧ f = fa x ∧ sp = spX K ex dsp
@[simp] def rCallV (i : Nat) (fa : Str → Addr) (cs : Calls) (ra : RA) : REX := fun kx δ μ k => ∃ x dsp, δ[i]? = some (some (.own (fa x))) ∧ cs x = some dsp ∧ ra δ μ fun ds μ1 => dsp ds μ1 k kx
theorem okEX_callV {i : Nat} {fa : Str → Addr} {cs : Calls} {ta : TA} {ra : RA} (h : OkA K ta ra) : OkEX K ex W (tCallV i (spsOf K ex fa cs) W ta) (rCallV i fa cs ra) := fun σ δ μ G H k kx Q S w ⟨x, dsp, e1, e2, q⟩ b tx => by
  obtain ⟨v, s1, s2⟩ := S.at_ i _ e1
  cases s2
  exact ⟨_, _, s1, ⟨x, dsp, e2, rfl, rfl⟩, h σ δ μ G H _ _ S w q fun vs ds μ1 G1 H1 q1 w1 g1 r1 =>
    ⟨ds, μ1, G1, k, kx, w1, r1, q1, fun v d μ' G' H' qk w' g' r' => b v d μ' G' H' qk w' (g1.trans g') r', fun nm fo d μ' G' H' qk w' g' xr => tx nm fo d μ' G' H' qk w' (g1.trans g') xr⟩⟩
/-- where the defs stand -/
def HoldsX (P : Program) (w : World) (K : PySem.W.Frag) (mg : Str → Option Value) (base : Heap) (ex : ExMap) (k : Nat) (fa : Str → Addr) (cs : Calls) : Prop := ∀ x dsp, cs x = some dsp → FnX P w K mg base ex x k dsp ∧ mg x = some (.ref (fa x))
theorem kx_callV {X : Cx} {i : Nat} {fa : Str → Addr} {cs : Calls} {x : Str} {k j : Nat} {e : Expr} {es : List Expr} {p pos : Pos} {t : TA} {P : Program} {w : World} {mg : Str → Option Value} {base : Heap} (F : HoldsX P w K mg base ex k fa cs) (hr : Room j X.A) (tk : Takes X W) (ha : PA X (e :: es) t)
    (hj : k ≤ j := by first | decide | omega) (slot : X.N[i]? = some x := by rfl) (seen : Vis X.env.scope x := by first | exact Or.inl rfl | exact Or.inr (Or.inl rfl) | exact Or.inr (Or.inr rfl)) (hP : X.prog = P := by rfl) (hw : X.w = w := by rfl) (hK : X.K = K := by rfl) (hm : X.mg = mg := by rfl) (hb : X.base = base := by rfl)
    (px : EX.Plainly x := by exact ⟨by decide, by decide⟩) (he : starEach (e :: es) X.env = (false, eval e X.env) :: starEach es X.env := by rfl) (hpl : (backTo pos (starEach es X.env)).any (·.1) = false := by rfl) :
    PE X (.Call (.Name x p) (e :: es) [] pos) (tCallV i (spsOf K ex fa cs) W t) := ⟨fun pins s σ H Q I ⟨f, sp, held, ⟨y, dsp, hy, ef, esp⟩, want⟩ => by
  subst hP hw hK hm hb ef esp
  obtain ⟨⟨f, fd, ps, F, hm, kp, bd⟩, at_⟩ := F y dsp hy
  have same : fa y = f := by rw [hm] at at_; cases at_; rfl
  have name := (pe_var (pos := p) slot seen px.dbg px.cdt).run pins s σ H (fun v H1 => v = .ref (fa y) ∧ H1 = H) I ⟨.ref (fa y), held, rfl, rfl⟩
  refine wpAny_Call_Name_kw (thn name fun u s1 ⟨v, H1, I1, rv, ev, eH⟩ => ?_)
  subst ev eH
  cases (show u = Value.ref (fa y) from rv)
  rw [same]
  exact PySem.W.callWith_K (h₀ := X.base) I1.ok.mod.kin kp (thn (ha.run pos pins s1 σ H1 _ I1 want) fun us s2 ⟨vs, H2, I2, r2, goal⟩ => ⟨I2.kIn, run_fnS F (hr.mono hj) bd (passAt tk σ) I2 r2 goal⟩) he hpl⟩
end
end DL


set_option Elab.async false
set_option linter.all false
set_option maxRecDepth 100000
set_option maxHeartbeats 4000000
/-! EXg: defs around which no guard runs (what repr asks), their code objects known (what lambdas ask); the law's end for such. -/
namespace DL
open PySem PySem.Spec PyProof.Rows L2 SlX
open LamX (TabB)
/-- a def's promise where no guard is around -/
structure FnOkG (P : Program) (w : World) (K : PySem.W.Frag) (mg : Str → Option Value) (base : Heap) (k : Nat) (f : Addr) (fd : FuncData) (ps : List Str) (sp : Sp) : Prop where
  len : ∀ vs H Q, sp vs H Q E0 → vs.length = ps.length
  run : ∀ (A : Around) (frames : List Env) (s : Shared) (H : Hp) (args : Args) (us : List Value) (vs : List V) (Q : VK), Room k A → A.guards = some [] → Env0 P w K mg base A frames s H → BindsTo s fd args (ps.zip us) → Vals vs us → sp vs H Q E0 →
    codeAny (model P w) A (.call (.ref f) args) (CR CX0 frames P w H s Q E0) s
structure FnG (P : Program) (w : World) (K : PySem.W.Frag) (mg : Str → Option Value) (base : Heap) (x : Str) (k : Nat) (dsp : DSp) : Prop where
  ex : ∃ (f : Addr) (fd : FuncData) (ps : List Str), FnOkG P w K mg base k f fd ps (spOf K dsp) ∧ mg x = some (.ref f) ∧ PySem.W.keepIn K (.ref f) = true ∧ Binds K fd ps []
theorem kg_call {X : Cx} (K : PySem.W.Frag) {x : Str} {k j : Nat} {dsp : DSp} {e : Expr} {es : List Expr} {p pos : Pos} {t : TA} {P : Program} {w : World} {mg : Str → Option Value} {base : Heap} (F : FnG P w K mg base x k dsp) (hr : Room j X.A) (hG : X.A.guards = some []) (ha : PA X (e :: es) t)
    (hj : k ≤ j := by first | decide | omega) (hg : Gl X x := by rfl) (hP : X.prog = P := by rfl) (hw : X.w = w := by rfl) (hK : X.K = K := by rfl) (hm : X.mg = mg := by rfl) (hb : X.base = base := by rfl)
    (hdb : (x == ("__debug__" : Str)) = false := by decide) (he : starEach (e :: es) X.env = (false, eval e X.env) :: starEach es X.env := by rfl) (hpl : (backTo pos (starEach es X.env)).any (·.1) = false := by rfl) :
    PE X (.Call (.Name x p) (e :: es) [] pos) (tCall (spOf K dsp) [] E0 t) := ⟨fun pins s σ H Q I want => by
  subst hP hw hK hm hb
  obtain ⟨f, fd, ps, F, at_, kp, bd⟩ := F.ex
  refine wpAny_Call_Name_kw (ld_glob I hg at_ (PySem.W.callWith_K (h₀ := X.base) I.ok.mod.kin kp (thn (ha.run pos pins s σ H _ I want) fun us s1 ⟨vs, H1, I1, r1, goal⟩ => ⟨I1.kIn, ?_⟩) he hpl) hdb)
  have goal : spOf X.K dsp vs H1 Q E0 := by
    have z : spOf X.K dsp (vs ++ []) H1 Q E0 := goal
    rwa [List.append_nil] at z
  have n : us.length = ps.length := r1.length.symm.trans (F.len _ _ _ goal)
  have bds := bd s1 us I1.kIn (by rw [List.append_nil]; exact n)
  rw [List.append_nil] at bds
  refine wpAny_call (codeAny_mono (F.run X.A X.stack s1 H1 ⟨us, []⟩ us vs Q (hr.mono hj) hG I1.env0 bds r1 goal) fun r s2 c => ?_)
  match r, c with
  | .ok (.ret _), c => exact I1.after c⟩
/-- where a def of the module stands, its code object at c -/
structure AtC (K : PySem.W.Frag) (mg : Str → Option Value) (x : Str) (st : Stmt) (c : Addr) : Prop where
  ex : ∃ (f : Addr) (oc : Value) (od : Option Addr) (kV doc pm : Value) (an : Option Addr) (ct : Value) (osl : Array (Option Value)), K.lookup f = some ⟨oc, od, .func (PySem.W.fnOf x x (defArgs st) (defBody st) (defScope st) .none kV doc pm an (.ref c) ct), osl⟩ ∧
    PySem.W.codeIn K (.ref c) x = true ∧ mg x = some (.ref f) ∧ PySem.W.keepIn K (.ref f) = true
def BodyG (P : Program) (w : World) (K : PySem.W.Frag) (mg : Str → Option Value) (base : Heap) (c : Addr) (k : Nat) (qual : Str) (st : Stmt) (N : List Str) (r : RS) : Prop :=
  ∀ f : Addr, ∃ t : TS, ∀ (A : Around) (frames : List Env) (s : Shared) (H : Hp), Room k (A.deeper (envOfC qual (defScope st) s.heap.objs.size f (.ref c))) → A.guards = some [] →
    DSs (cxOf CX0 P w K mg base N qual (defScope st) f (.ref c) A frames s H E0).nox (defBody st) t r
section
variable {P : Program} {w : World} {K : PySem.W.Frag} {mg : Str → Option Value} {base : Heap}
theorem okG_of {x : Str} {st : Stmt} {N ps : List Str} {k : Nat} {dsp : DSp} {r : RS} {c f : Addr} {oc : Value} {od : Option Addr} {kV doc pm : Value} {an : Option Addr} {ct : Value} {osl : Array (Option Value)} (lk : K.lookup f = some ⟨oc, od, .func (PySem.W.fnOf x x (defArgs st) (defBody st) (defScope st) .none kV doc pm an (.ref c) ct), osl⟩)
    (hc : PySem.W.codeIn K (.ref c) x = true) (B : BodyG P w K mg base c k x st N r) (S : FnScope N ps (defScope st)) (len : ∀ ds μ k, dsp ds μ k → ds.length = ps.length)
    (vc : ∀ ds μ k, dsp ds μ k → r { nx := fun _ μ' => ∃ μ'', Sub μ'' μ' ∧ k .non μ'', rt := fun d μ' => ∃ μ'', Sub μ'' μ' ∧ k d μ'' } (startD N ds) μ) :
    FnOkG P w K mg base (k + 1) f (PySem.W.fnOf x x (defArgs st) (defBody st) (defScope st) .none kV doc pm an (.ref c) ct) ps (spOf K dsp) where
  len := fun vs H Q ⟨ds, μ, G, k, _, rl, hd, _⟩ => by rw [rl.length]; exact len ds μ k hd
  run := fun A frames s H args us vs Q hr hG e0 bd rv ⟨ds, μ, G, k', wd, rl, hd, th⟩ => by
    refine LamX.run_ofS lk hc S hr e0 bd rv (by rw [rl.length]; exact len ds μ k' hd) fun hr2 => ?_
    obtain ⟨t, B⟩ := B f
    have D := B A frames s H hr2 hG
    refine ⟨t, D.p.nox, D.o (L2.start N vs) (startD N ds) μ G H _ _ (start_ok rl) wd (vc ds μ k' hd) ⟨fun σ' δ' μ' G' H' ⟨μ'', hs, h⟩ S' w' g' => th _ _ μ'' G' H' h (w'.sub hs) (g'.sub hs) .non, fun _ _ _ _ _ h => h.elim, fun _ _ _ _ _ h => h.elim, fun v d μ' G' H' ⟨μ'', hs, h⟩ w' g' r' => th v d μ'' G' H' h (w'.sub hs) (g'.sub hs) r'⟩⟩
theorem fnG_of {x : Str} {st : Stmt} {N ps : List Str} {k : Nat} {dsp : DSp} {r : RS} {c : Addr} (a : AtC K mg x st c) (B : BodyG P w K mg base c k x st N r) (S : FnScope N ps (defScope st))
    (hb : ∀ (kV doc pm : Value) (an : Option Addr) (cdv ct : Value) (us : List Value), us.length = ps.length → bindArgs (PySem.W.fnOf x x (defArgs st) (defBody st) (defScope st) .none kV doc pm an cdv ct) ⟨us, []⟩ = pure (ps.zip us))
    (len : ∀ ds μ k, dsp ds μ k → ds.length = ps.length)
    (vc : ∀ ds μ k, dsp ds μ k → r { nx := fun _ μ' => ∃ μ'', Sub μ'' μ' ∧ k .non μ'', rt := fun d μ' => ∃ μ'', Sub μ'' μ' ∧ k d μ'' } (startD N ds) μ) : FnG P w K mg base x (k + 1) dsp := by
  obtain ⟨f, oc, od, kV, doc, pm, an, ct, osl, lk, hc, hm, hk⟩ := a.ex
  exact ⟨f, _, ps, okG_of lk hc B S len vc, hm, hk, .all (hb kV doc pm an (.ref c) ct)⟩
end
/-! ### the law's end -/
section
variable {P : Program} {w : World} {K : PySem.W.Frag} {mg mb : Str → Option Value} {s : Shared} {a : Addr} {vs : List Value} {ns : List Int} {cs : List (Addr × Addr)}
/-- where the law is called: nothing is tracked but its list and the tables of code objects cs -/
structure AtLaw (K : PySem.W.Frag) (mg mb : Str → Option Value) (s : Shared) (a : Addr) (vs : List Value) (ns : List Int) (cs : List (Addr × Addr)) : Prop where
  kin : K.In s.heap
  glob : s.heap.Ns mainGlobals mg
  blt : s.heap.Ns builtinsNs mb
  boot : ∀ x : Str, x ≠ "__name__" → mb x = bootBuiltins x
  lim : s.heap.NoLimit
  gens : s.gens = #[]
  tabs : ∀ p ∈ cs, s.heap.get? p.2 = some { cls := .none, data := .fields #[] }
  offK : ∀ p ∈ cs, K.lookup p.2 = none
  codes : ∀ p ∈ cs, PySem.W.CodeHd s.heap p.1 p.2
  bmod : ∃ (bm : Addr) (ob : Obj), mg "__builtins__" = some (.ref bm) ∧ bm ≠ builtinsNs ∧ s.heap.get? bm = some ob ∧ ob.cls = .type "module" ∧ ob.dict = some builtinsNs ∧ ob.data = .plain
  list : s.heap.get? a = some { cls := .type "list", data := .seq vs.toArray }
  nums : IntsAre vs ns
  few : ns.length ≤ sizeLine
/-- what is tracked -/
def lawH (K : PySem.W.Frag) (a : Addr) (vs : List Value) (ns : List Int) (cs : List (Addr × Addr)) : Hp := fun b =>
  if b ∈ cs.map (·.2) then some (.tbl #[]) else if b = a ∧ K.lookup a = none then some (.frz { cls := .type "list", data := .seq vs.toArray } (.lst (ns.map V.int))) else none
theorem AtLaw.tab (L : AtLaw K mg mb s a vs ns cs) {b : Addr} (h : b ∈ cs.map (·.2)) : s.heap.get? b = some { cls := .none, data := .fields #[] } := by
  obtain ⟨p, hp, rfl⟩ := List.mem_map.mp h
  exact L.tabs p hp
theorem AtLaw.aOff (L : AtLaw K mg mb s a vs ns cs) : a ∉ cs.map (·.2) := fun h => by
  have := (L.tab h).symm.trans L.list
  cases this
theorem AtLaw.hTab (L : AtLaw K mg mb s a vs ns cs) : ∀ p ∈ cs, lawH K a vs ns cs p.2 = some (.tbl #[]) := fun p hp => if_pos (List.mem_map.mpr ⟨p, hp, rfl⟩)
theorem AtLaw.sq (L : AtLaw K mg mb s a vs ns cs) : SqL K (lawH K a vs ns cs) a (ns.map V.int) := by
  cases e : K.lookup a with
  | none => exact .inl (.inr ⟨_, by unfold lawH; rw [if_neg L.aOff, if_pos ⟨rfl, e⟩]⟩)
  | some o =>
    have := (L.kin a o e).symm.trans L.list
    cases this
    exact .inr ⟨_, vs.toArray, _, e, rfl, rfl, rfl, by rw [List.size_toArray, L.nums.length]; exact L.few, by simpa using vals_ints L.nums⟩
/-- what an object that is tracked looks like -/
theorem AtLaw.tracked (L : AtLaw K mg mb s a vs ns cs) {b : Addr} (h : lawH K a vs ns cs b ≠ none) : K.lookup b = none ∧ (s.heap.get? b = some { cls := .none, data := .fields #[] } ∨ s.heap.get? b = some { cls := .type "list", data := .seq vs.toArray }) := by
  unfold lawH at h
  by_cases h1 : b ∈ cs.map (·.2)
  · refine ⟨?_, .inl (L.tab h1)⟩
    obtain ⟨p, hp, rfl⟩ := List.mem_map.mp h1
    exact L.offK p hp
  · rw [if_neg h1] at h
    by_cases h2 : b = a ∧ K.lookup a = none
    · obtain ⟨rfl, h3⟩ := h2
      exact ⟨h3, .inr L.list⟩
    · rw [if_neg h2] at h; exact absurd rfl h
/-- the heap without what is tracked -/
def lawB (s : Shared) (a : Addr) (K : PySem.W.Frag) (cs : List (Addr × Addr)) : Heap := PySem.W.hideAll s.heap (cs.map (·.2) ++ if K.lookup a = none then [a] else [])
theorem lawB_keep {H : Hp} (hH : H = lawH K a vs ns cs) {b : Addr} {o : Obj} (e : s.heap.get? b = some o) (n : H b = none) : (lawB s a K cs).get? b = some o := by
  refine PySem.W.hideAll_get _ e fun h => ?_
  rw [hH] at n
  unfold lawH at n
  rcases List.mem_append.mp h with h | h
  · rw [if_pos h] at n; cases n
  · by_cases h1 : b ∈ cs.map (·.2)
    · rw [if_pos h1] at n; cases n
    · rw [if_neg h1] at n
      split at h
      · rename_i hk
        rw [List.mem_singleton.mp h, if_pos ⟨rfl, hk⟩] at n; cases n
      · cases h
theorem lawB_old {b : Addr} {o : Obj} (e : (lawB s a K cs).get? b = some o) : s.heap.get? b = some o ∧ lawH K a vs ns cs b = none := by
  refine ⟨PySem.W.of_hideAll _ e, ?_⟩
  unfold lawH
  have out : ∀ {l : List Addr}, b ∈ l → l = (cs.map (·.2) ++ if K.lookup a = none then [a] else []) → False := fun h el => by
    subst el
    have z : (lawB s a K cs).get? b = none := PySem.W.hideAll_none _ h
    rw [e] at z; cases z
  have n1 : b ∉ cs.map (·.2) := fun h => out (List.mem_append.mpr (.inl h)) rfl
  rw [if_neg n1]
  by_cases h2 : b = a ∧ K.lookup a = none
  · exact (out (List.mem_append.mpr (.inr (by rw [if_pos h2.2, h2.1]; exact List.mem_singleton.mpr rfl))) rfl).elim
  · rw [if_neg h2]
/-- objects of other kinds are not tracked -/
theorem AtLaw.loose (L : AtLaw K mg mb s a vs ns cs) {b : Addr} {o : Obj} (e : s.heap.get? b = some o) (h1 : o.data ≠ .fields #[]) (h2 : ∀ us n, o.data ≠ .seq us n) : lawH K a vs ns cs b = none := by
  cases q : lawH K a vs ns cs b with
  | none => rfl
  | some u =>
    obtain ⟨_, z | z⟩ := L.tracked (b := b) (by rw [q]; simp)
    · rw [e] at z; cases z; exact absurd rfl h1
    · rw [e] at z; cases z; exact absurd rfl (h2 _ _)
theorem AtLaw.nsB (L : AtLaw K mg mb s a vs ns cs) {b : Addr} {m : Str → Option Value} (h : s.heap.Ns b m) : (lawB s a K cs).Ns b m := by
  obtain ⟨o, es, ep, e, hd, r⟩ := h
  exact ⟨o, es, ep, lawB_keep rfl e (L.loose e (by rw [hd]; intro z; cases z) (by rw [hd]; intro us n z; cases z)), hd, r⟩
theorem AtLaw.kIn (L : AtLaw K mg mb s a vs ns cs) : K.In (lawB s a K cs) := fun b o e => lawB_keep rfl (L.kin b o e) (by
  cases q : lawH K a vs ns cs b with
  | none => rfl
  | some u => have := (L.tracked (b := b) (by rw [q]; simp)).1; rw [e] at this; cases this)
theorem AtLaw.mod (L : AtLaw K mg mb s a vs ns cs) : Mod K mg (lawB s a K cs) := by
  obtain ⟨mc, h1, h2⟩ := L.lim
  exact ⟨L.kIn, L.nsB L.glob, ⟨mb, L.nsB L.blt, L.boot⟩, ⟨mc, L.nsB h1, h2⟩⟩
theorem AtLaw.tabB (L : AtLaw K mg mb s a vs ns cs) {p : Addr × Addr} (hp : p ∈ cs) : TabB (lawB s a K cs) mg p.1 p.2 := by
  have tp := L.tabs p hp
  obtain ⟨og, eg, epg, g1, g2, _⟩ := L.glob
  have gP : mainGlobals ≠ p.2 := fun z => by rw [z, tp] at g1; cases g1; cases g2
  obtain ⟨bm, ob, b1, b2, b3, b4, b5, b6⟩ := L.bmod
  obtain ⟨o, us, file, tf, flags, tg, inF, text, tt, e1, r1, r2, r3, rest⟩ := L.codes p hp
  refine ⟨⟨o, us, file, tf, flags, tg, inF, text, tt, lawB_keep rfl e1 (L.loose e1 (fun z => ?_) fun vs n z => ?_), r1, r2, r3, rest⟩, ⟨bm, ob, b1, b2, fun z => ?_, fun z => ?_, lawB_keep rfl b3 (L.loose b3 (by rw [b6]; intro z; cases z) (by rw [b6]; intro us n z; cases z)), b4, b5, b6⟩, gP⟩
  · rw [r2] at z; cases z; simp at r3
  · rw [r2] at z; cases z
  · rw [z, g1] at b3; cases b3; rw [g2] at b6; cases b6
  · rw [z, tp] at b3; cases b3; cases b6
theorem AtLaw.env0 (L : AtLaw K mg mb s a vs ns cs) : Env0 P w K mg (lawB s a K cs) callerA [] s (lawH K a vs ns cs) where
  frames := rfl
  mod := L.mod
  bs := fun b o e => lawB_old e
  bsz := Nat.le_of_eq (PySem.W.hideAll_size _ _)
  funs := trivial
  frf := fun b hb => nomatch hb
  hok := fun b u e => by
    unfold lawH at e
    by_cases h1 : b ∈ cs.map (·.2)
    · rw [if_pos h1] at e; cases e; exact L.tab h1
    · rw [if_neg h1] at e
      by_cases h2 : b = a ∧ K.lookup a = none
      · rw [if_pos h2] at e
        cases e
        rw [h2.1]
        exact ⟨L.list, by rw [List.length_map]; exact L.few, vs, _, vals_ints L.nums, L.list⟩
      · rw [if_neg h2] at e; cases e
  bare := .of_eq L.gens
/-- the law's call tells True, and what was there is as it was -/
theorem AtLaw.call (L : AtLaw K mg mb s a vs ns cs) {fa : Addr} {fd : FuncData} {x : Str} {sp : Sp} {k : Nat} (hr : Room k callerA) (F : FnOkG P w K mg (lawB s a K cs) k fa fd [x] sp) (bd : BindsTo s fd ⟨[.ref a], []⟩ [(x, .ref a)])
    (goal : sp [.ref a] (lawH K a vs ns cs) (fun v _ => v = .bl true) E0) :
    codeAny (model P w) callerA (.call (.ref fa) ⟨[.ref a], []⟩) (fun r s' => r = .ok (.ret (.bool true)) ∧ OldK s.heap s'.heap ∧ s'.os = s.os ∧ AllBare s'.gens) s := by
  refine codeAny_mono (F.run callerA [] s _ ⟨[.ref a], []⟩ [.ref a] [.ref a] _ hr rfl L.env0 bd (.cons rfl .nil) goal) fun r s' h => ?_
  match r, h with
  | .ok (.ret u), ⟨v, H', os, bare, un, ok, rv, ev⟩ =>
    subst ev
    cases (show u = Value.bool true from rv)
    have stay : ∀ b o, b ∉ cs.map (·.2) → s.heap.get? b = some o → s'.heap.get? b = some o := fun b o nb e => by
      cases q : lawH K a vs ns cs b with
      | none => exact un.keep b o e q (fun z => nomatch z) (fun z => nomatch z)
      | some u =>
        have q' := q
        unfold lawH at q'
        rw [if_neg nb] at q'
        by_cases h2 : b = a ∧ K.lookup a = none
        · rw [if_pos h2] at q'
          cases q'
          have e2 := (ok b _ (un.frzs b _ _ q)).1
          have e1 := L.list
          rw [← h2.1, e] at e1
          cases e1
          exact e2
        · rw [if_neg h2] at q'; cases q'
    have grew : ∀ p ∈ cs, ∃ more : Array Value, s'.heap.get? p.2 = some { cls := .none, data := .fields more } := fun p hp => by
      obtain ⟨more, z⟩ := un.tbls p.2 #[] (L.hTab p hp)
      exact ⟨_, ok p.2 _ z⟩
    have each : ∀ b o, s.heap.get? b = some o → asItWas s.heap s'.heap b o ∧ ∃ o', s'.heap.get? b = some o' := fun b o e => by
      by_cases inT : b ∈ cs.map (·.2)
      · obtain ⟨⟨c, P⟩, hp, eP⟩ := List.mem_map.mp inT
        subst eP
        obtain ⟨more, hm⟩ := grew _ hp
        cases (L.tabs _ hp).symm.trans e
        exact ⟨.inr (.inl ⟨((L.codes _ hp).tab (L.tabs _ hp)).isCodeTable, rfl, #[], more, rfl, by rw [Array.empty_append]; exact hm⟩), _, hm⟩
      · exact ⟨.inl (stay b o inT e), o, stay b o inT e⟩
    exact ⟨rfl, ⟨fun b o e => (each b o e).1, fun b o e => (each b o e).2⟩, os, bare⟩
end
end DL


set_option Elab.async false
set_option linter.all false
set_option maxRecDepth 100000
set_option maxHeartbeats 4000000
/-! EXh: the rules for lambdas and errors' fields with the written part said outright. -/
namespace DL
open PySem PySem.Spec PyProof.Rows L2 SlX
open LamX (TabB)
/-- where the def stands that is handed lambdas: at g, its code object's value cdv -/
structure MetTxt (K : PySem.W.Frag) (mg : Str → Option Value) (x : Str) (st : Stmt) (g : Addr) (cdv : Value) : Prop where
  ex : ∃ (oc : Value) (od : Option Addr) (kV doc pm : Value) (an : Option Addr) (ct : Value) (osl : Array (Option Value)), K.lookup g = some ⟨oc, od, .func (PySem.W.fnOf x x (defArgs st) (defBody st) (defScope st) .none kV doc pm an cdv ct), osl⟩
  code : PySem.W.codeIn K cdv x = true
  at_ : mg x = some (.ref g)
  kp : PySem.W.keepIn K (.ref g) = true
/-- the name under which a def's lambdas go -/
def lamQ (qual : Str) : Str := (envOfC qual { kind := .function, names := [], isGenerator := false, isCoroutine := false, more := [] } 0 0 .none).qual ++ "<lambda>"
theorem kx_lam {X : Cx} {K : PySem.W.Frag} {ex : ExMap} {x a q : Str} {g c P : Addr} {cdv : Value} {j : Nat} {st : Stmt} {Ng : List Str} {rm : RM} {params : Arguments} {body : Expr} {scope : Scope} {t : XK → TE} {p lpos pos : Pos} {mg : Str → Option Value} {base : Heap}
    (M : MetTxt K mg x st g cdv) (bd : BindsF x x st [a]) (Sg : FnScope Ng [a] (defScope st)) (hG : EX.GivesS X (j + 1) Ng x (defScope st) g cdv (defBody st) a q (TTD K ex Ng rm)) (TB : TabB base mg c P) (hr : Room (j + 2) X.A)
    (run : ∀ (f c' : Addr), EX.LamRuns X scope body j t f c') (T : EX.LamTxt X params body scope) (hg : Gl X x := by rfl) (hK : X.K = K := by rfl) (hm : X.mg = mg := by rfl) (hb : X.base = base := by rfl) (hcode : X.env.code = .ref c := by rfl) (hq : X.env.qual ++ "<lambda>" = q := by rfl)
    (slot : Ng[0]? = some a := by rfl) (seen : Vis (defScope st) a := by first | exact Or.inl rfl | exact Or.inr (Or.inl rfl)) (px : EX.Plainly x := by exact ⟨by decide, by decide⟩) (pa : EX.Plainly a := by exact ⟨by decide, by decide⟩) :
    PE X (.Call (.Name x p) [.Lambda params body scope lpos] [] pos) (EX.tLamM P q (TTD K ex Ng rm) t) := by
  subst hK hm hb hq
  obtain ⟨oc, od, kV, doc, pm, an, ct, osl, lk⟩ := M.ex
  exact EX.pe_lamM hg M.at_ M.kp lk M.code (.all (bd kV doc pm an cdv ct)) Sg slot seen hG TB hcode hr T run px pa
theorem kx_err {X : Cx} {K : PySem.W.Frag} {mg : Str → Option Value} {P : Program} {nm f : Str} {C a : Addr} {oe : Obj} {cls : Value} {d : Option Addr} {pn : List (Addr × Obj)} {e : Expr} {te : TE} {pos : Pos} (T : Err1 K mg P nm f C) (hz : Zc cls d oe) (hf : ∃ vs, oe.data = .fields vs)
    (he : PE (X.suite a ((a, oe) :: pn)) e te) (hK : X.K = K := by rfl) (hb : attributeBase e f X.env (eval e X.env) = eval e X.env := by rfl) : PE (X.suite a ((a, oe) :: pn)) (.Attribute e f pos) (tXf a cls d C f te) := by
  subst hK
  obtain ⟨B, newId, initId, bmB, fI, BF, T⟩ := T.ex
  exact pe_xf ⟨T.ga, T.gg, T.exC, T.hdC⟩ T.noN hz hf he hb
/-- {} that does not change -/
@[simp] def rDNewF : RE := fun _ μ k => k (.dt [] []) μ
theorem okE_dnewF {K : PySem.W.Frag} : OkE K tDNewT rDNewF := fun σ δ μ G H k Q S w q b p hp => b _ _ μ _ _ q (w.new hp) (Go.new w hp) (.dt (ks := []) (vs := []) upd_same rfl .nil)
end DL


set_option Elab.async false
set_option linter.all false
set_option maxRecDepth 100000
set_option maxHeartbeats 4000000
/-! EXi: min of a list of alike data (pairs of numbers). -/
namespace DL
open PySem PySem.Spec PyProof.Rows L2 SlX
open PySem.W (AlikeAll alike minD min_list_data alike_unique dataLt reads_keeps)
/-- min(a), a a list of data that can be compared: an item that is the first of the least -/
def rMinP (K : PySem.W.Frag) : List V → Hp → VK → Prop := fun vs H Q => ∃ (a : Addr) (ws : List V) (x : PyData) (xs : List PyData), vs = [V.ref a] ∧ SqL K H a ws ∧ DpAll K H ws (x :: xs) ∧ AlikeAll (x :: xs) ∧ PyData.depthAll (x :: xs) ≤ 8 ∧ ∀ (i : Nat) (v : V), ws[i]? = some v → (x :: xs)[i]? = some (minD x xs) → Q v H
theorem dpAll_at {K : PySem.W.Frag} {H : Hp} {ws : List V} {ds : List PyData} (h : DpAll K H ws ds) : ∀ (i : Nat) (v : V), ws[i]? = some v → ∃ d, ds[i]? = some d ∧ Dp K H v d := by
  intro i v hv
  induction i generalizing ws ds with
  | zero => cases h with
    | nil => simp at hv
    | cons h1 _ => simp at hv; subst hv; exact ⟨_, rfl, h1⟩
  | succ i ih => cases h with
    | nil => simp at hv
    | cons _ h2 => simpa using ih h2 (by simpa using hv)
theorem vals_back {ws : List V} {us : List Value} (r : Vals ws us) : ∀ (i : Nat) (u : Value), us[i]? = some u → ∃ w, ws[i]? = some w ∧ RelV w u := by
  intro i u hu
  have hl : i < ws.length := by
    have := (List.getElem?_eq_some_iff.mp hu).1
    have := r.length
    omega
  obtain ⟨u', h1, h2⟩ := r.get (List.getElem?_eq_getElem hl)
  rw [hu] at h1
  cases h1
  exact ⟨_, List.getElem?_eq_getElem hl, h2⟩
theorem minD_in (x : PyData) (xs : List PyData) : minD x xs ∈ x :: xs := by
  unfold minD
  induction xs generalizing x with
  | nil => simp
  | cons y ys ih =>
    rw [List.foldl_cons]
    by_cases z : dataLt y x = true
    · simp only [z, if_true]; exact List.mem_cons_of_mem _ (ih y)
    · simp only [z]; rcases List.mem_cons.mp (ih x) with e | e
      · rw [if_neg (by simp), e]; exact List.mem_cons_self
      · rw [if_neg (by simp)]; exact List.mem_cons_of_mem _ (List.mem_cons_of_mem _ e)
theorem kc_minP {X : Cx} (K : PySem.W.Frag) (hu : X.A.units + 64 < cLine) (hc : X.calm = true := by rfl) (hK : X.K = K := by rfl) : CallR X (.builtin "min") (rMinP K) := by
  subst hK
  intro pins s σ H xs us Q I r ⟨a, ws, x, ys, e, hl, hd, ha, hz, q⟩
  subst e
  rw [Vals.ref1 r]
  obtain ⟨its, rv, hp, _⟩ := I.list hl
  obtain ⟨as, ra⟩ := Dp.readsAll I _ _ _ hd rv
  refine min_list_data (I.ok.hd hc) hp.isList (by simpa using ra) ha (by omega) fun i v h' tk bs hi rd hk => ?_
  have hi' : its[i]? = some v := by simpa using hi
  obtain ⟨w, hw, rw'⟩ := vals_back rv i v hi'
  obtain ⟨d, hd1, hd2⟩ := dpAll_at hd i w hw
  obtain ⟨cs, rd2⟩ := Dp.reads I d w v hd2 rw'
  have em : d ∈ x :: ys := List.mem_of_getElem? hd1
  have eq := alike_unique d (minD x ys) v cs bs (ha.1 d em _ (minD_in x ys)) (reads_keeps hk rd2) rd
  subst eq
  exact ⟨w, H, I.kept (t' := tk) hk, rw', q i w hw hd1⟩
/-- over data: the least pair's item -/
@[simp] def oMinP : FL := fun ds μ k => ∃ (x : D) (ws : List D) (y : PyData) (ys : List PyData), ds = [x] ∧ asL μ x = some ws ∧ toPyL ws = some (y :: ys) ∧ AlikeAll (y :: ys) ∧ PyData.depthAll (y :: ys) ≤ 8 ∧ ∀ (i : Nat) (d : D), ws[i]? = some d → (y :: ys)[i]? = some (minD y ys) → k d μ
theorem okMinP {K : PySem.W.Frag} : OkC K (rMinP K) oMinP := fun xs as μ G H k Q w r q t => by
  obtain ⟨x, ws, y, ys, rfl, e, ep, ha, hz, q⟩ := q
  cases r with
  | cons r rr =>
    cases rr
    obtain ⟨a, vs, rfl, h, rl⟩ := asL_out w r e
    refine ⟨a, vs, y, ys, rfl, SqL.of h, dpAll_mono w.ex (toPyL_dp rl ep), ha, hz, fun i v hv hm => ?_⟩
    obtain ⟨d, hd, rd⟩ := rl.get hv
    exact t _ _ μ G H (q i d hd hm) w (Go.refl _ _ _) rd
end DL


set_option Elab.async false
set_option linter.all false
set_option maxRecDepth 100000
set_option maxHeartbeats 4000000
/-! EXj: a def that may raise, called where it does not. -/
namespace DL
open PySem PySem.Spec PyProof.Rows L2 SlX
def noX (dsp : DSpX) : DSp := fun ds μ k => dsp ds μ k fun _ _ _ => False
theorem okE_call0 {K : PySem.W.Frag} {ex : ExMap} {dsp : DSpX} {ta : TA} {ra : RA} (h : OkA K ta ra) : OkE K (tCallS (spX K ex dsp) (WE fun _ _ _ _ => False) ta) (rCall (noX dsp) ra) := fun σ δ μ G H k Q S w q b =>
  h σ δ μ G H _ _ S w q fun vs ds μ1 G1 H1 q1 w1 g1 r1 => ⟨ds, μ1, G1, k, fun _ _ _ => False, w1, r1, q1, fun v d μ' G' H' qk w' g' r' => b v d μ' G' H' qk w' (g1.trans g') r', fun nm fo d μ' G' H' z w' g' xr => z.elim⟩
end DL


set_option Elab.async false
set_option linter.all false
set_option maxRecDepth 100000
set_option maxHeartbeats 4000000
/-! EXk: the end of a law whose defs hand out lambdas; promises lifted; classes of errors put together. -/
namespace DL
open PySem PySem.Spec PyProof.Rows L2 SlX
open LamX (TabB CodeO)
section
variable {P : Program} {w : World} {K : PySem.W.Frag} {mg : Str → Option Value} {base : Heap} {ex : ExMap}
theorem FnX.up {x : Str} {j k : Nat} {dsp : DSpX} (F : FnX P w K mg base ex x j dsp) (h : j ≤ k) : FnX P w K mg base ex x k dsp := by
  obtain ⟨f, fd, ps, G, r⟩ := F.ex
  exact ⟨f, fd, ps, G.mono h, r⟩
theorem FnD.up {x : Str} {j k : Nat} {dsp : DSp} (F : FnD P w K mg base x j dsp) (h : j ≤ k) : FnD P w K mg base x k dsp := by
  obtain ⟨f, fd, ps, G, r⟩ := F.ex
  exact ⟨f, fd, ps, G.mono h, r⟩
/-- one error class seen by a clause -/
theorem exm_by {Ci Cj : Addr} {b : Bool} (eb : PySem.W.subIn K (.ref Cj) (.type "BaseException") = some true) (ic : PySem.W.isClsIn K Cj = true) (ty : PySem.W.typeIn K (.ref Cj) = some (.type "type")) (s : PySem.W.subIn K (.ref Ci) (.ref Cj) = some b) : PySem.W.exmOne K (.ref Ci) (.ref Cj) = some b := by
  have cls : (PySem.W.clsIn K Cj).isSome = true := ic
  unfold PySem.W.exmOne PySem.W.kitCls
  simp [eb, cls, ty, s]
end
/-- the tables of the module's defs are empty where the law is called -/
def TabsAt (q : Program) (K : PySem.W.Frag) (mg : Str → Option Value) (h : Heap) : Prop :=
  ∀ (y : Str) (f c P : Addr) (fd : FuncData) (us : Array Value) (oc e : Value) (od dd : Option Addr) (osl sl : Array (Option Value)), ((recsOf q).any fun r => r.name == y) = true → mg y = some (.ref f) → K.lookup f = some ⟨oc, od, .func fd, osl⟩ → fd.code = .ref c →
    K.lookup c = some ⟨e, dd, .fields us, sl⟩ → us[11]? = some (.ref P) → h.get? P = some { cls := .none, data := .fields #[] } ∧ PySem.W.CodeHd h c P
theorem tabs_at {q : Program} {loose : List Str} {mean : ExcName → Option Value} {mg mb : Str → Option Value} {h : Heap} {K : PySem.W.Frag} (T : Top q loose mean mg mb h) (X : K.In h) : TabsAt q K mg h := by
  intro y f c P fd us oc e od dd osl sl rec at_ lk hc lc h11
  obtain ⟨r, hr, hy⟩ := List.any_eq_true.mp rec
  obtain ⟨f', o', fd', c', P', m1, g1, d1, co, isC, tab⟩ := T.tab r hr
  rw [beq_iff_eq.mp hy, at_] at m1
  cases m1
  rw [X _ _ lk] at g1
  cases g1
  cases d1
  rw [hc] at co
  cases co
  obtain ⟨⟨o2, u2, g2, _, d2, p2⟩, free⟩ := tab
  have hd := PySem.W.CodeHd.of isC ⟨⟨o2, u2, g2, ‹_›, d2, p2⟩, free⟩
  rw [X _ _ lc] at g2
  cases g2
  cases d2
  rw [h11] at p2
  cases p2
  exact ⟨free, hd⟩
/-- what is known of the law where it is called: tabs the code objects, their tables, the names under which their lambdas go -/
structure LawG (l : PySem.W.OpenLaw) (w : World) (K : PySem.W.Frag) (k n : Nat) (x : Str) (mg : Str → Option Value) (fa : Addr) (h : Heap) : Prop where
  ex : ∃ (fd : FuncData) (tabs : List ((Addr × Addr) × Str)) (dsp : DSp), (tabs.map (·.1.2)).Nodup ∧ (∀ t ∈ tabs, K.lookup t.1.2 = none) ∧ (∀ t ∈ tabs, h.get? t.1.2 = some { cls := .none, data := .fields #[] } ∧ PySem.W.CodeHd h t.1.1 t.1.2) ∧ (∀ (s : Shared) (u : Value), BindsTo s fd ⟨[u], []⟩ [(x, u)]) ∧
    (∀ (ns : List Int) (μ : Mu) (k : DK), ns.length ≤ n → (∀ t ∈ tabs, μ t.1.2 = some (.tb t.2)) → (∀ μ', k (.bl true) μ') → dsp [.scr ns] μ k) ∧
    ∀ base : Heap, K.In base → base.Ns mainGlobals mg → (∀ t ∈ tabs, TabB base mg t.1.1 t.1.2) → FnOkG l.prog w K mg base k fa fd [x] (spOf K dsp)
def tabMu (tabs : List ((Addr × Addr) × Str)) : Mu := fun b => (tabs.find? fun t => t.1.2 == b).map fun t => .tb t.2
theorem tabMu_at : ∀ {tabs : List ((Addr × Addr) × Str)}, (tabs.map (·.1.2)).Nodup → ∀ t ∈ tabs, tabMu tabs t.1.2 = some (.tb t.2)
  | u :: r, nd, t, ht => by
    rw [List.map_cons, List.nodup_cons] at nd
    unfold tabMu
    rcases List.mem_cons.mp ht with rfl | ht
    · rw [List.find?_cons_of_pos (by simp)]; rfl
    · rw [List.find?_cons_of_neg (by simp; exact fun z => nd.1 (z ▸ List.mem_map.mpr ⟨t, ht, rfl⟩))]
      exact tabMu_at nd.2 t ht
theorem tabMu_mem {tabs : List ((Addr × Addr) × Str)} {b : Addr} {c : Cnt} (h : tabMu tabs b = some c) : ∃ t ∈ tabs, t.1.2 = b ∧ c = .tb t.2 := by
  unfold tabMu at h
  obtain ⟨t, ht, rfl⟩ := Option.map_eq_some_iff.mp h
  exact ⟨t, List.mem_of_find?_eq_some ht, by simpa using List.find?_some ht, rfl⟩
/-- the goal of the law's call -/
theorem goal_G {K : PySem.W.Frag} {mg mb : Str → Option Value} {s : Shared} {a : Addr} {vs : List Value} {ns : List Int} {tabs : List ((Addr × Addr) × Str)} {n : Nat} {dsp : DSp} (L : AtLaw K mg mb s a vs ns (tabs.map (·.1))) (nd : (tabs.map (·.1.2)).Nodup) (hn : ns.length ≤ n)
    (goal : ∀ (ns : List Int) (μ : Mu) (k : DK), ns.length ≤ n → (∀ t ∈ tabs, μ t.1.2 = some (.tb t.2)) → (∀ μ', k (.bl true) μ') → dsp [.scr ns] μ k) : spOf K dsp [.ref a] (lawH K a vs ns (tabs.map (·.1))) (fun v _ => v = .bl true) E0 := by
  have inT : ∀ {b : Addr} {c : Cnt}, tabMu tabs b = some c → b ∈ (tabs.map (·.1)).map (·.2) := fun h => by
    obtain ⟨t, ht, rfl, _⟩ := tabMu_mem h
    exact List.mem_map.mpr ⟨t.1, List.mem_map.mpr ⟨t, ht, rfl⟩, rfl⟩
  -- what is frozen: all but the tables
  let G : Hp := fun b => if b ∈ (tabs.map (·.1)).map (·.2) then none else lawH K a vs ns (tabs.map (·.1)) b
  have ga : G a = lawH K a vs ns (tabs.map (·.1)) a := if_neg L.aOff
  refine ⟨[.scr ns], tabMu tabs, G, fun d _ => d = .bl true, ⟨fun b o e => ?_, fun b c e => ?_⟩, .cons (.scr ?_) .nil, goal ns _ _ hn (tabMu_at nd) fun _ => rfl, fun v d μ' G' H' hd w' g' r => by subst hd; cases r; rfl⟩
  · by_cases hb : b ∈ (tabs.map (·.1)).map (·.2)
    · rw [show G b = none from if_pos hb] at e; cases e
    · rw [show G b = _ from if_neg hb] at e; exact e
  · obtain ⟨t, ht, rfl, rfl⟩ := tabMu_mem e
    refine ⟨if_pos (inT e), _, L.hTab t.1 (List.mem_map.mpr ⟨t, ht, rfl⟩), .tb True.intro fun pos cv hc => ?_⟩
    simp [codeAmong] at hc
  · rcases L.sq with h | h
    · rcases h with h | ⟨o, h⟩
      · exact .inl (.inl (by rw [ga]; exact h))
      · exact .inl (.inr ⟨o, by rw [ga]; exact h⟩)
    · exact .inr h
theorem walk_G {l : PySem.W.OpenLaw} {n k : Nat} {q : Program} {loose : List Str} {XP : (Str → Option Value) → Heap → Prop} {YP : World → Heap → Prop} {d : DefRec} {K : Params → PySem.W.Frag} {x : Str}
    (most : l.most = some n) (few : n ≤ sizeLine) (noDef : d.params.defaults = []) (room : Room k callerA) (part : ∀ (w : World) (h : Heap), YP w h → (K w.params).In h)
    (F : ∀ (w : World) (mg : Str → Option Value) (fa : Addr) (h : Heap), (∃ h0, XP mg h0) → (K w.params).In h → h.Ns mainGlobals mg → mg d.name = some (.ref fa) → TabsAt q (K w.params) mg h → LawG l w (K w.params) k n x mg fa h) :
    PySem.W.WalkO q loose XP YP l.row.toRowW d [] (fun f vs => PySem.call f vs) := by
  refine Att.attach_call most noDef fun w s₀ s₁ mg mb fa o pm cd doc a vs ns G Y ho hd hcd at_ list nums short gens => ?_
  have X := part w _ Y
  obtain ⟨fd, tabs, dsp, nd, off, tb, bd, goal, body⟩ := (F w mg fa _ ⟨_, G.X⟩ X G.T.g at_ (tabs_at G.T X)).ex
  have L : AtLaw (K w.params) mg mb s₁ a vs ns (tabs.map (·.1)) := by
    have each : ∀ p ∈ tabs.map (·.1), ∃ t ∈ tabs, t.1 = p := fun p hp => List.mem_map.mp hp
    refine ⟨X, G.T.g, G.T.b, G.T.builtins, G.T.nolimit, gens, fun p hp => ?_, fun p hp => ?_, fun p hp => ?_, G.T.bmain, list, nums, Nat.le_trans short few⟩
    · obtain ⟨t, ht, rfl⟩ := each p hp; exact (tb t ht).1
    · obtain ⟨t, ht, rfl⟩ := each p hp; exact off t ht
    · obtain ⟨t, ht, rfl⟩ := each p hp; exact (tb t ht).2
  exact L.call room (body _ L.kIn (L.nsB L.glob) fun t ht => L.tabB (List.mem_map.mpr ⟨t, ht, rfl⟩)) (bd _ _) (goal_G L nd short goal)
end DL


set_option Elab.async false
set_option linter.all false
set_option maxRecDepth 100000
set_option maxHeartbeats 4000000
/-! EXl: defs called without arguments. -/
namespace DL
open PySem PySem.Spec PyProof.Rows L2 SlX
theorem ke_call0 {X : Cx} (K : PySem.W.Frag) {x : Str} {k : Nat} {dsp : DSp} {p pos : Pos} {P : Program} {w : World} {mg : Str → Option Value} {base : Heap} (F : FnD P w K mg base x k dsp) {j : Nat} (hr : Room j X.A)
    (hj : k ≤ j := by first | decide | omega) (hg : Gl X x := by rfl) (hP : X.prog = P := by rfl) (hw : X.w = w := by rfl) (hK : X.K = K := by rfl) (hm : X.mg = mg := by rfl) (hb : X.base = base := by rfl) (hdb : (x == ("__debug__" : Str)) = false := by decide) :
    PE X (.Call (.Name x p) [] [] pos) (tCall (spOf K dsp) [] E0 tNil) := by
  subst hP hw hK hm hb
  obtain ⟨f, fd, ps, F, at_, kp, bd⟩ := F.ex
  exact pe_call0 F (hr.mono hj) hg at_ kp bd .nil pass0 hdb
/-- of a def around which no guard runs -/
theorem kg_call0 {X : Cx} (K : PySem.W.Frag) {x : Str} {k j : Nat} {dsp : DSp} {p pos : Pos} {P : Program} {w : World} {mg : Str → Option Value} {base : Heap} (F : FnG P w K mg base x k dsp) (hr : Room j X.A) (hG : X.A.guards = some [])
    (hj : k ≤ j := by first | decide | omega) (hg : Gl X x := by rfl) (hP : X.prog = P := by rfl) (hw : X.w = w := by rfl) (hK : X.K = K := by rfl) (hm : X.mg = mg := by rfl) (hb : X.base = base := by rfl) (hdb : (x == ("__debug__" : Str)) = false := by decide) :
    PE X (.Call (.Name x p) [] [] pos) (tCall (spOf K dsp) [] E0 tNil) := ⟨fun pins s σ H Q I want => by
  subst hP hw hK hm hb
  obtain ⟨f, fd, ps, F, at_, kp, bd⟩ := F.ex
  have goal : spOf X.K dsp [] H Q E0 := want
  refine wpAny_Call_Name_kw (ld_glob I hg at_ (PySem.W.callWith_K0 I.kIn kp (wpAny_call ?_)) hdb)
  have n : ([] : List Value).length = ps.length := F.len _ _ _ goal
  have bds := bd s [] I.kIn n
  refine codeAny_mono (F.run X.A X.stack s H ⟨[], []⟩ [] [] Q (hr.mono hj) hG I.env0 bds .nil goal) fun r s2 c => ?_
  match r, c with
  | .ok (.ret _), c => exact I.after c⟩
end DL


set_option Elab.async false
set_option linter.all false
set_option maxRecDepth 100000
set_option maxHeartbeats 4000000
/-! EXm: instances of an own class whose __init__ may raise; made, they do not change. -/
namespace DL
open PySem PySem.Spec PyProof.Rows L2 SlX
/-- what __init__ makes of the arguments: the slots, or an error -/
abbrev MkSp := List D → Mu → (List D → Mu → Prop) → DX → Prop
def spMkX (K : PySem.W.Frag) (ex : ExMap) (C : Addr) (md : MkSp) : Sp := fun vs H Q E => ∃ (a dx : Addr) (ws : List V) (ds : List D) (μ : Mu) (G H1 : Hp) (k : List D → Mu → Prop) (kx : DX), vs = .ref a :: ws ∧ H1 a = none ∧ H1 dx = none ∧ dx ≠ a ∧ H = upd (upd H1 dx (.own a)) a (.ins C dx []) ∧
  Wd K G H1 μ ∧ RepL K G ws ds ∧ md ds μ k kx ∧ (∀ fs μ' G' H', k fs μ' → Wd K G' H' μ' → Go μ G H1 μ' G' H' → Rep K G' (.ref a) (.obj C fs) → Q .non H') ∧ ThenX K ex μ G H1 kx E
@[simp] def rMkX (C : Addr) (md : MkSp) (ra : RA) : REX := fun kx δ μ k => ra δ μ fun ds μ1 => md ds μ1 (fun fs μ2 => k (.obj C fs) μ2) kx
/-- .. where it does not raise -/
@[simp] def rMk0 (C : Addr) (md : MkSp) (ra : RA) : RE := fun δ μ k => ra δ μ fun ds μ1 => md ds μ1 (fun fs μ2 => k (.obj C fs) μ2) fun _ _ _ => False
section
variable {K : PySem.W.Frag} {ex : ExMap} {C : Addr} {md : MkSp} {t : TA} {ra : RA}
theorem okEX_mk {E : XK} (h : OkA K t ra) : OkEX K ex (fun c d _ H => E c d H) (tMake C (spMkX K ex C md) [] E t) (rMkX C md ra) := fun σ δ μ G H k kx Q S w q b x =>
  h σ δ μ G H _ _ S w q fun vs ds μ1 G1 H1 q1 w1 g1 r1 a dx ha hd hne => by
    show spMkX K ex C md (.ref a :: (vs ++ [])) _ _ _
    rw [List.append_nil]
    exact ⟨a, dx, vs, ds, μ1, G1, H1, _, kx, rfl, ha, hd, hne, rfl, w1, r1, q1, fun fs μ' G' H' qk w' g' r' => ⟨rfl, b _ _ μ' G' H' qk w' (g1.trans g') r'⟩, fun nm fo d μ' G' H' qk w' g' xr => x nm fo d μ' G' H' qk w' (g1.trans g') xr⟩
theorem okE_mk0 (h : OkA K t ra) : OkE K (tMake C (spMkX K ex C md) [] E0 t) (rMk0 C md ra) := fun σ δ μ G H k Q S w q b =>
  okEX_mk (ex := ex) (E := E0) h σ δ μ G H k (fun _ _ _ => False) Q S w q b fun _ _ _ _ _ _ h => h.elim
end
structure MakX (P : Program) (w : World) (K : PySem.W.Frag) (mg : Str → Option Value) (base : Heap) (ex : ExMap) (k : Nat) (x : Str) (C : Addr) (md : MkSp) : Prop where
  ex : ∃ (f : Addr) (fd : FuncData) (ps : List Str), Mk K C f ∧ FnOk P w K mg base (L2.CX P w) k f fd ps (spMkX K ex C md) ∧ mg x = some (.ref C) ∧ Binds K fd ps []
theorem kx_mk {X : Cx} (K : PySem.W.Frag) {ex : ExMap} {C : Addr} {md : MkSp} {E : XK} {x : Str} {k j : Nat} {e : Expr} {es : List Expr} {p pos : Pos} {t : TA} {P : Program} {w : World} {mg : Str → Option Value} {base : Heap} (c : MakX P w K mg base ex k x C md) (hr : Room j X.A) (tk : Takes X (fun c d _ H => E c d H)) (ha : PA X (e :: es) t)
    (hk : k + 1 ≤ j := by first | decide | omega) (hg : Gl X x := by rfl) (hP : X.prog = P := by rfl) (hw : X.w = w := by rfl) (hK : X.K = K := by rfl) (hm : X.mg = mg := by rfl) (hb : X.base = base := by rfl)
    (hdb : (x == ("__debug__" : Str)) = false := by decide) (he : starEach (e :: es) X.env = (false, eval e X.env) :: starEach es X.env := by rfl) (hpl : (backTo pos (starEach es X.env)).any (·.1) = false := by rfl) : PE X (.Call (.Name x p) (e :: es) [] pos) (tMake C (spMkX K ex C md) [] E t) := by
  subst hP hw hK hm hb
  obtain ⟨f, fd, ps, M, F, at_, bd⟩ := c.ex
  exact pe_make M F (hr.mono hk) hg at_ bd .nil (passes_call tk fun _ _ _ _ z => z) ha hdb he hpl
/-! ### isinstance(x, C) of any data -/
def someT : List String := ["NoneType", "bool", "int", "str", "tuple", "list", "dict"]
structure CmpI (K : PySem.W.Frag) (C : Addr) : Prop where
  cls : SCls K C
  isi : SIsi K C
  off : ∀ T ∈ someT, PySem.W.kitOne K (.type T) (.ref C) = some false
  kOwn : PySem.W.kitOne K (.ref C) (.ref C) = some true
def okIn (C : Addr) (μ : Mu) (x : D) : Prop := (∃ ds, x = .obj C ds) ∨ (isObj x = false ∧ ∃ T, tyN μ x = some T ∧ T ∈ someT)
@[simp] def rIsiD (C : Addr) (re : RE) : RE := fun δ μ k => re δ μ fun x μ1 => okIn C μ1 x ∧ k (.bl (isObj x)) μ1
theorem okE_isiD {K : PySem.W.Frag} {C : Addr} {te : TE} {re : RE} (c : CmpI K C) (h : OkE K te re) : OkE K (tCB (fun xs H Q => rIsi K xs H Q ∨ rIsiSl K (.ref C) xs H Q) (tCons te (tCons (tC (.ref C)) tNil))) (rIsiD C re) := fun σ δ μ G H k Q S w q b =>
  h σ δ μ G H _ _ S w q fun v d μ1 G1 H1 ⟨hd, q1⟩ w1 g1 r1 => by
    rcases hd with ⟨ds, rfl⟩ | ⟨hn, T, hT, hm⟩
    · cases r1 with
      | obj h1 h2 => exact .inr ⟨_, _, _, _, _, true, rfl, rfl, fun w r => r, w1.ex.slt h1, c.cls, c.isi, c.kOwn, b _ _ μ1 G1 H1 q1 w1 g1 (.bl _)⟩
    · rw [hn] at q1
      exact .inl ⟨_, _, _, _, false, rfl, .own C, tyN_out w1 r1 hT, c.off T hm, b _ _ μ1 G1 H1 q1 w1 g1 (.bl _)⟩
end DL


set_option Elab.async false
set_option linter.all false
set_option maxRecDepth 100000
set_option maxHeartbeats 4000000
/-! EXn: texts over data: sign by sign, cut, split, times a number; own classes made without arguments. -/
namespace DL
open PySem PySem.Spec PyProof.Rows L2 SlX
section
variable {K : PySem.W.Frag}
/-- the sign of a code -/
def signD (c : Nat) : D := .str ⟨#[c]⟩
/-- a text's walk, sign by sign -/
def itS (x : Str) : DIt := ⟨x.cps.size, fun i => (x.cps[i]?).map signD, fun _ => True⟩
theorem itOk_str {G : Hp} {x : Str} : ItOk K G (Its x) (itS x) := fun i μ1 G1 H1 e1 w1 _ =>
  ⟨fun hi => Nat.le_of_eq hi, fun hi => ⟨hi, fun v H2 ⟨hH, c, hc, hv⟩ => by
    subst hH hv
    exact ⟨signD c, G1, by show (x.cps[i]?).map signD = _; rw [hc]; rfl, w1, Go.refl _ _ _, .str _⟩⟩⟩
@[simp] def rIS (re : RE) : RI := fun δ μ k => re δ μ fun d μ1 => match d with | .str x => k (itS x) μ1 | _ => False
theorem okI_str {te : TE} {re : RE} (h : OkE K te re) : OkI K (iStr te) (rIS re) := fun σ δ μ G H k R S w q b =>
  h σ δ μ G H _ _ S w q fun v d μ1 G1 H1 q1 w1 g1 r1 => by
    cases r1 with
    | str x => exact ⟨x, rfl, b _ _ μ1 G1 H1 q1 w1 g1 itOk_str⟩
    | _ => exact q1.elim
theorem Src.s {μ : Mu} (x : Str) : Src (itS x) μ (x.cps.toList.map signD) :=
  ⟨by rw [List.length_map, Array.length_toList]; rfl, fun i d _ h => by
    rw [List.getElem?_map, Array.getElem?_toList]; exact h, trivial⟩
/-- texts in order -/
@[simp] def oLeS : F2 := fun x y μ k => match x, y with | .str i, .str j => k (.bl (!decide (j.cps.toList < i.cps.toList))) μ | _, _ => False
theorem okLeS : OkOp K (fun x y H Q => ∃ i j, x = .str i ∧ y = .str j ∧ Q (.bl (!decide (j.cps.toList < i.cps.toList))) H) oLeS := fun x y a b μ G H k Q w rx ry q t => by
  cases rx with
  | str i =>
    cases ry with
    | str j => exact ⟨i, j, rfl, rfl, t _ _ μ G H q w (Go.refl _ _ _) (.bl _)⟩
    | _ => exact q.elim
  | _ => exact q.elim
/-- a part of a text -/
@[simp] def oSlS : D → Option Int → Option Int → Mu → DK → Prop := fun x lo hi μ k => match x with | .str z => z.length ≤ 1000000 ∧ k (.str (cutS z lo hi)) μ | _ => False
theorem okSlS : OkSl K rSlS oSlS := fun x a lo hi μ G H k Q w rx q t => by
  cases rx with
  | str z => exact ⟨z, rfl, sz_of q.1, t _ _ μ G H q.2 w (Go.refl _ _ _) (.str _)⟩
  | _ => exact q.elim
/-- x.split(y) -/
@[simp] def rSplit (ro re : RE) : RE := fun δ μ k => ro δ μ fun x μ1 => match x with
  | .str a => re δ μ1 fun y μ2 => match y with
    | .str b => (b.length == 0) = false ∧ a.length ≤ 900000 ∧ k (.lst ((Txt.split a b).map D.str)) μ2
    | _ => False
  | _ => False
theorem repL_strs {G : Hp} : ∀ ys : List Str, RepL K G (ys.map V.str) (ys.map D.str)
  | [] => .nil
  | y :: ys => .cons (.str y) (repL_strs ys)
theorem okE_split {to te : TE} {ro re : RE} (h : OkE K to ro) (h' : OkE K te re) :
    OkE K (tM1 (fun x xs H Q => ∃ a b, x = .str a ∧ xs = [.str b] ∧ (b.length == 0) = false ∧ a.length + 2 ≤ sizeLine ∧ rNewStrs (Txt.split a b) H Q) to te) (rSplit ro re) := fun σ δ μ G H k Q S w q b =>
  h σ δ μ G H _ _ S w q fun v x μ1 G1 H1 q1 w1 g1 r1 => by
    cases r1 with
    | str a =>
      refine ⟨⟨a, rfl⟩, h' σ δ μ1 G1 H1 _ _ (S.mono g1.eg) w1 q1 fun u y μ2 G2 H2 q2 w2 g2 r2 => ?_⟩
      cases r2 with
      | str c =>
        obtain ⟨h1, h2, q3⟩ := q2
        exact ⟨a, c, rfl, rfl, h1, Nat.le_trans (Nat.add_le_add_right h2 2) (by decide), fun p hp => mkLst w2 (repL_strs _) q3 (fun v d μ' G' H' qk w' g' r' => b v d μ' G' H' qk w' ((g1.trans g2).trans g') r') p hp⟩
      | _ => exact q2.elim
    | _ => exact q1.elim
/-- x * n -/
def rMulS : R2 := fun x y H Q => ∃ (a : Str) (n : Int), x = .str a ∧ y = .int n ∧ MulOk a n ∧ Q (.str (Txt.mul a n)) H
theorem op_mulS {X : Cx} : OpR X (binaryOp .Mult) rMulS := by
  intro pins s σ H x y v u Q I rx ry ⟨a, n, hx, hy, ok, q⟩
  subst hx hy
  obtain ⟨t, rfl⟩ := rx
  obtain ⟨t', rfl⟩ := ry
  exact SB.mul ok fun _ _ => ⟨.str _, H, I.tok _, ⟨_, rfl⟩, q⟩
@[simp] def oMulS : F2 := fun x y μ k => match x, y with | .str a, .int n => MulOk a n ∧ k (.str (Txt.mul a n)) μ | _, _ => False
theorem okMulS : OkOp K rMulS oMulS := fun x y a b μ G H k Q w rx ry q t => by
  cases rx with
  | str i =>
    cases ry with
    | int j => exact ⟨i, j, rfl, rfl, q.1, t _ _ μ G H q.2 w (Go.refl _ _ _) (.str _)⟩
    | _ => exact q.elim
  | _ => exact q.elim
end
/-- an own instance that changes, made without arguments -/
theorem ke_mkO0 {K : PySem.W.Frag} {X : Cx} {P : Program} {w : World} {mg : Str → Option Value} {base : Heap} {C : Addr} {x : Str} {k j : Nat} {dsp : DSp} {p pos : Pos} (c : MakD P w K mg base k x C (spOf K dsp)) (hr : Room j X.A) (hk : k + 1 ≤ j := by decide) (hg : Gl X x := by rfl) (hP : X.prog = P := by rfl) (hw : X.w = w := by rfl) (hK : X.K = K := by rfl) (hm : X.mg = mg := by rfl) (hb : X.base = base := by rfl)
    (hdb : (x == ("__debug__" : Str)) = false := by decide) : PE X (.Call (.Name x p) [] [] pos) (tMake C (spOf K dsp) [] E0 tNil) := by
  subst hP hw hK hm hb
  obtain ⟨f, fd, ps, M, F, h1, h2⟩ := c.ex
  exact pe_make0 M F (hr.mono hk) hg h1 h2 .nil pass0 hdb
end DL


set_option Elab.async false
set_option linter.all false
set_option maxRecDepth 100000
set_option maxHeartbeats 4000000
/-! EXo: more of texts over data: a sign in a text, a text in a tuple of texts, int(text), <= of tuples. -/
namespace DL
open PySem PySem.Spec PyProof.Rows L2 SlX
section
variable {K : PySem.W.Frag}
/-- one sign in a text -/
@[simp] def oInSign : F2 := fun x y μ k => ∃ (c : Nat) (z : Str), x = .str ⟨#[c]⟩ ∧ y = .str z ∧ k (.bl (decide (c ∈ z.cps.toList))) μ
theorem okInSign : OkOp K (fun x y H Q => ∃ (c : Nat) (z : Str), x = .str ⟨#[c]⟩ ∧ y = .str z ∧ Q (.bl (decide (c ∈ z.cps.toList))) H) oInSign := fun x y a b μ G H k Q w rx ry ⟨c, z, e1, e2, q⟩ t => by
  subst e1 e2
  cases rx
  cases ry
  exact ⟨c, z, rfl, rfl, t _ _ μ G H q w (Go.refl _ _ _) (.bl _)⟩
/-- a text among texts -/
@[simp] def oInT : F2 := fun x y μ k => ∃ (a : Str) (ws : List Str), x = .str a ∧ y = .tup (ws.map D.str) ∧ k (.bl (decide (a ∈ ws))) μ
theorem inV_strs (a : Str) : ∀ ws : List Str, inV (.str a) (ws.map V.str) = decide (a ∈ ws)
  | [] => rfl
  | w :: ws => by
    have ih := inV_strs a ws
    unfold inV at ih ⊢
    rw [List.map_cons, List.any_cons, ih]
    by_cases h : a = w
    · subst h
      simp [eqV]
    · have h' : ¬ w = a := fun e => h e.symm
      simp [eqV, h, h']
theorem flat_strs' (ws : List Str) : (ws.map V.str).all flatV = true := by
  rw [List.all_eq_true]
  intro x hx
  obtain ⟨w, _, rfl⟩ := List.mem_map.mp hx
  rfl
theorem repL_strs_out {G : Hp} : ∀ {ws : List Str} {vs : List V}, RepL K G vs (ws.map D.str) → vs = ws.map V.str
  | [], _, .nil => rfl
  | w :: ws, _, .cons h r => by cases h; rw [List.map_cons, repL_strs_out r]
theorem okInT : OkOp K (rIn K false) oInT := fun x y a b μ G H k Q w rx ry ⟨c, ws, e1, e2, q⟩ t => by
  subst e1 e2
  cases rx
  cases ry with
  | tup h r =>
    refine ⟨_, ws.map V.str, rfl, .inr (by rw [← repL_strs_out r]; exact SqT.of (w.ex _ _ h)), rfl, flat_strs' ws, ?_⟩
    rw [inV_strs]
    exact t _ _ μ G H q w (Go.refl _ _ _) (.bl _)
/-- int of a text -/
@[simp] def oIntS : FL := fun xs μ k => ∃ (a : Str) (n : Int), xs = [.str a] ∧ PySem.intText? a = some n ∧ a.length ≤ 640 ∧ k (.int n) μ
theorem okIntS : OkC K (fun xs H Q => ∃ a n, xs = [.str a] ∧ PySem.intText? a = some n ∧ a.length ≤ 640 ∧ Q (.int n) H) oIntS := fun xs as μ G H k Q w r ⟨a, n, e, h1, h2, q⟩ t => by
  subst e
  cases r with
  | cons r1 r2 =>
    cases r1
    cases r2
    exact ⟨a, n, rfl, h1, h2, t _ _ μ G H q w (Go.refl _ _ _) (.int _)⟩
/-- tuples of ints in order -/
def leTB (ns ms : List Int) : Bool := Ob.lexAt (fun j => decide (ns.getD j 0 = ms.getD j 0)) (fun j => decide (ns.getD j 0 ≤ ms.getD j 0)) (decide (ns.length ≤ ms.length)) 0 (min ns.length ms.length)
@[simp] def oLeT : F2 := fun x y μ k => ∃ ns ms : List Int, x = .tup (ns.map D.int) ∧ y = .tup (ms.map D.int) ∧ k (.bl (leTB ns ms)) μ
theorem repL_ints_out {G : Hp} : ∀ {ns : List Int} {vs : List V}, RepL K G vs (ns.map D.int) → vs = ns.map V.int
  | [], _, .nil => rfl
  | n :: ns, _, .cons h r => by cases h; rw [List.map_cons, repL_ints_out r]
theorem okLeT : OkOp K (rLeT K) oLeT := fun x y a b μ G H k Q w rx ry ⟨ns, ms, e1, e2, q⟩ t => by
  subst e1 e2
  cases rx with
  | tup h1 r1 =>
    cases ry with
    | tup h2 r2 =>
      exact ⟨_, _, ns, ms, rfl, rfl, by rw [← repL_ints_out r1]; exact SqT.of (w.ex _ _ h1), by rw [← repL_ints_out r2]; exact SqT.of (w.ex _ _ h2), t _ _ μ G H q w (Go.refl _ _ _) (.bl _)⟩
theorem ko_leT {X : Cx} (hu : X.A.units < cLine) (hK : X.K = K := by rfl) : OpR X (compareOp .LtE) (rLeT K) := by subst hK; exact op_leT hu
theorem ko_inT {X : Cx} (hK : X.K = K := by rfl) : OpR X (compareOp .In) (rIn K false) := by subst hK; exact op_in_seq
/-- a sign of a text by its place -/
@[simp] def oIxT : F2 := fun x y μ k => ∃ (z : Str) (i : Int) (c : Nat), x = .str z ∧ y = .int i ∧ z.length ≤ 1000000 ∧ atI z.cps.toList i = some c ∧ k (.str ⟨#[c]⟩) μ
theorem okIxT : OkOp K rIxS oIxT := fun x y a b μ G H k Q w rx ry ⟨z, i, c, e1, e2, hl, h, q⟩ t => by
  subst e1 e2
  cases rx
  cases ry
  exact ⟨z, i, c, rfl, rfl, sz_of hl, h, t _ _ μ G H q w (Go.refl _ _ _) (.str _)⟩
end
end DL


set_option Elab.async false
set_option linter.all false
set_option maxRecDepth 100000
set_option maxHeartbeats 4000000
/-! EXu: an own exception class over KeyError, whose __new__ is LookupError's. -/
namespace EX
open PySem PySem.W PySem.Calls PySem.HandSPX
abbrev keyMro : List Value := [.type "KeyError", .type "LookupError", .type "Exception", .type "BaseException", .type "object"]
abbrev LE := PySem.F.excBase_LookupError
section
variable {prog : Program} {w : World} {A : Around} {R : Result → Shared → Prop} {h : Heap} {g : Array GenState} {d : Drawn} {t : Nat} {os : OsState}
variable {nm q : Str} {C N : Addr} {bs bm : List Value} {hd : Bool} {sn : List Str} {sb : List Value} {ab : Bool} {co : Option Bool} {dd : Option Addr} {s0 s1 s2 s3 s5 : Option Value}
/-- what the class's ancestors must say -/
structure KeyTail (bm : List Value) : Prop where
  le : bm.contains (.type "LookupError") = true
  na : bm.contains (.type "AttributeError") = false
  nn : bm.contains (.type "NameError") = false
theorem KeyTail.of (hT : ∀ X : String, bm.contains (.type X) = keyMro.contains (.type X)) : KeyTail bm := ⟨by rw [hT]; decide +kernel, by rw [hT]; decide +kernel, by rw [hT]; decide +kernel⟩
theorem KeyTail.all (T : KeyTail bm) (C : Addr) : (Value.ref C :: bm).contains (.type "LookupError") = true ∧ (Value.ref C :: bm).contains (.type "AttributeError") = false ∧ (Value.ref C :: bm).contains (.type "NameError") = false := by
  simp only [List.contains_cons, T.le, T.na, T.nn]
  exact ⟨by simp, by rfl, by rfl⟩
abbrev bare (C : Addr) (n : Nat) : Obj := excO C n
theorem key_new (T : KeyTail bm) {xs : List Value} (at_ : h.get? C = some (excClassObj nm q C N bs bm hd sn sb ab co dd s0 s1 s2 s3 s5 "LookupError.__new__")) (few : xs.length ≤ sizeLine)
    (k : R (.ok (.ret (.ref (h.objs.size + 1)))) ⟨(h.push (kdv_tup xs)).push (bare C h.objs.size), g, d, t, os⟩) :
    codeAny (model prog w) A (.builtin "LookupError.__new__" ⟨.ref C :: xs, []⟩) R ⟨h, g, d, t, os⟩ := by
  obtain ⟨c1, c2, c3⟩ := T.all C
  have e1 := LE.ends
  refine codeAny_builtinAt LE.entry ?_
  unfold Builtin.«BaseException.__new__»
  refine wpAt_bind (show wpAt _ _ _ (stack >>= _) _ _ _ from wpAt_bind (wpAt_stack fun p b => wpAt_of_wpAny ?_))
  wp_walk
  refine wpAt_of_wpAny ?_
  rw [LE.owner]
  repeat (first
    | with_reducible refine wpAny_madeHere_exc LE.canon at_ ?_
    | with_reducible refine wpAny_loadPart_at at_ ?_
    | (with_reducible refine wpAny_isSubtype_exc at_ ?_
       first | rw [c1] | rw [c2] | rw [c3])
    | wp_step)
  show R _ _
  rw [Heap.size_push]
  exact k
/-- type.__call__ of the class: a bare exception, then the class's own __init__ at I -/
theorem key_type (T : KeyTail bm) {xs : List Value} {I : Addr} {E : Value → Shared → Prop} {Z : Fin → Shared → Prop} (at_ : h.get? C = some (excClassObj nm q C N bs bm hd sn sb ab co dd s0 s1 s2 s3 s5 "LookupError.__new__"))
    (look : Looks (model prog w) h (typeLookup (.ref C) "__init__") (some (.ref I))) (bound : ∀ x, Looks (model prog w) h (bindSpecial (.ref I) x) (.ref I, [x])) (few : xs.length ≤ sizeLine)
    (k : codeAny (model prog w) A (.call (.ref I) ⟨.ref (h.objs.size + 1) :: xs, []⟩)
      (fun r s' => match r with | .error e => E e s' | .ok (.ret v) => v = .none ∧ Z (.done (.ret (.ref (h.objs.size + 1)))) s' | .ok _ => False) ⟨(h.push (kdv_tup xs)).push (bare C h.objs.size), g, d, t, os⟩) :
    wpAny (model prog w) A (Builtin.«type.__call__» ⟨.ref C :: xs, []⟩) Z E ⟨h, g, d, t, os⟩ := by
  repeat (first
    | with_reducible refine wpAny_madeBy_exc at_ ?_
    | with_reducible refine wpAny_loadPart_at at_ ?_
    | wp_step)
  refine codeAny_call_builtin_code (Code.quiet_builtin _ LE.quiet) (wpAny_check_new_subU (bmB := bm) LE T.le .base at_ (key_new T at_ few ?_))
  have old : ∀ b o, h.get? b = some o → ((h.push (kdv_tup xs)).push (bare C h.objs.size)).get? b = some o := fun b o e =>
    Heap.get?_push_of_some _ (Heap.get?_push_of_some _ e)
  have fresh : ((h.push (kdv_tup xs)).push (bare C h.objs.size)).get? (h.objs.size + 1) = some (bare C h.objs.size) := by heap_get
  have self_ : (Value.ref C :: bm).contains (.ref C) = true := by simp
  have at2 := old _ _ at_
  show wpAny _ _ _ _ _ _
  unfold isInstance
  repeat (first
    | with_reducible refine wpAny_loadPart_at fresh ?_
    | (with_reducible refine wpAny_isSubtype_exc at2 ?_
       rw [self_])
    | wp_step)
  refine (look.keeps old).at (wpAny_holding (wpAny_bind (((bound _).keeps old).at (wpAny_bind (wpAny_call (codeAny_mono k fun r s' z => ?_))))))
  match r, z with
  | .error _, z => exact z
  | .ok (.ret _), ⟨e, z⟩ =>
    subst e
    first
      | exact wpAny_pure (wpAny_pure z)
      | (wp_walk; exact z)
theorem key_call (hT : ∀ X : String, bm.contains (.type X) = keyMro.contains (.type X)) {xs : List Value} {I : Addr} (at_ : h.get? C = some (excClassObj nm q C N bs bm hd sn sb ab co dd s0 s1 s2 s3 s5 "LookupError.__new__"))
    (look : Looks (model prog w) h (typeLookup (.ref C) "__init__") (some (.ref I))) (bound : ∀ x, Looks (model prog w) h (bindSpecial (.ref I) x) (.ref I, [x])) (few : xs.length ≤ sizeLine)
    (k : codeAny (model prog w) (A.under (.builtin "type.__call__" ⟨.ref C :: xs, []⟩)) (.call (.ref I) ⟨.ref (h.objs.size + 1) :: xs, []⟩) (InitBack (h.objs.size + 1) R) ⟨(h.push (kdv_tup xs)).push (bare C h.objs.size), g, d, t, os⟩) :
    codeAny (model prog w) A (.call (.ref C) ⟨xs, []⟩) R ⟨h, g, d, t, os⟩ := by
  have a1 := tc_lookup
  have a2 := tc_bind (.ref C)
  have a3 : (⟨h, g, d, t, os⟩ : Shared).TypeIs (.ref C) "type" := ⟨_, at_, rfl⟩
  refine codeAny_of_tree (show wpAny _ _ (callAny (.ref C) _) _ _ _ from ?_)
  repeat (any_goals (first
    | assumption
    | with_reducible refine wpAny_loadPart_at at_ ?_
    | wp_step))
  refine ⟨rfl, codeAny_call_builtin_at (Code.quiet_builtin _ (by decide +kernel)) entry_typeCall (wpAny_check_type_call_sub at_ ?_)⟩
  refine key_type (KeyTail.of hT) at_ look bound few (codeAny_mono k fun r s' z => ?_)
  match r, z with
  | .error _, z => exact z
  | .ok (.ret _), z => exact z
end
end EX
namespace EX
open PySem PySem.W PySem.Calls PyProof.Rows PySem.HandSPX
abbrev KeyTxt (K : Frag) (mg : Str → Option Value) (prog : Program) (nm f : Str) (C fI : Addr) : Prop := ExTxt K mg prog nm f "KeyError" "LookupError.__new__" "KeyError.__init__" keyMro C fI
/-- what is asked of the base's __init__ -/
structure InitF (B i : String) : Prop where
  star : (B != "*") = true
  kind : builtinKind i = some .slot
  row : Manifest.signature? i = some ⟨.positional, "*", B, .self, [⟨"args", .varPos, false⟩]⟩
  slot : Slot B "__init__" i
  entry : entryFor table i = some Builtin.«BaseException.__init__»
theorem init_KeyError : InitF "KeyError" "KeyError.__init__" where
  star := by decide +kernel
  kind := by kernel_rfl
  row := by kernel_rfl
  slot := Slot.of (owner := "KeyError") (n := "__init__") (by rw [typeLookup_type, builtinLookup_eq_fast]; kernel_rfl) (by decide +kernel) (by decide +kernel)
    (by decide +kernel) (by first | exact .inr (by decide +kernel) | exact .inl (by decide +kernel)) (by rw [isSubtype_type]; kernel_rfl)
  entry := entryFor_alias (id' := "BaseException.__init__") (by rw [fastTable_eq_tree]; kernel_rfl) (by first | decide +kernel | rfl) (by decide +kernel) (by rw [fastTable_eq_tree]; kernel_rfl)
theorem kxs_KeyError : KxsFacts "KeyError" "KeyError.__init__" where
  typ := by show builtinType _ = _; rw [builtinType_eq_fast]; kernel_rfl
  nac := by first | rfl | kernel_rfl
theorem store_KeyError : StoreFacts "KeyError" keyMro "object.__setattr__" "object" := { PySem.F.store_LookupError with
  mro := by kernel_rfl
  slot := Slot.of (owner := "object") (n := "__setattr__") (by rw [typeLookup_type, builtinLookup_eq_fast]; kernel_rfl) (by decide +kernel) (by decide +kernel)
    (by decide +kernel) (by first | exact .inr (by decide +kernel) | exact .inl (by decide +kernel)) (by rw [isSubtype_type]; kernel_rfl)
  hasOwner := by decide +kernel
  passes := fun x => by kernel_rfl }
section
variable {prog : Program} {w : World} {A : Around} {R : Result → Shared → Prop} {s : Shared} {K : Frag} {mg : Str → Option Value} {nm f : Str} {C fI : Addr} {B newId initId : String} {bmB : List Value}
open Builtin Builtin.ObjectAttr in
/-- self.f = v, where self is an exception that has no dict yet -/
theorem put_firstS {E : Value → Shared → Prop} {Q : Unit → Shared → Prop} {x t1 : Addr} {v : Value} (SF : StoreFacts B bmB "object.__setattr__" "object") (T : ExTxt K mg prog nm f B newId initId bmB C fI) (X : K.In s.heap) (hx : s.heap.get? x = some (excObj C t1 none .none))
    (hq : ∀ h' tk dx, InitEnd f s.heap h' x C dx v → Q () { s with heap := h', toks := tk }) : wpAny (model prog w) A (setAttr (.ref x) f v) Q E s := by
  obtain ⟨cd, hc, hd⟩ := any_some T.hdC
  have J : InstAt s.heap x (excObj C t1 none .none) C none := ⟨hx, rfl, rfl, trivial⟩
  have tk0 : takerIn K C f = some none := by unfold takerIn; rw [T.noN]; rfl
  have x0 : x < s.heap.objs.size := Heap.lt_size hx
  refine set_plain (od := none) X J T.sa (osa_openX (od := none) (s := { s with toks := s.toks + 1 }) SF X J T.ov tk0 fun b => ?_)
  show wpAny _ _ (storeInOwnDict (.ref x) (.ref C) (.str f s.toks) f v b) _ _ _
  unfold storeInOwnDict ownDictForStores
  refine wpAny_bind (wpAny_pure ?_)
  refine wpAny_bind (instanceDict_exc (s := { s with toks := s.toks + 1 }) hx (looks_clsIn X hc) hd ?_)
  have e1 : (s.heap.push (dictOf [] 0)).get? x = some (excObj C t1 none .none) := Heap.get?_push_of_some _ hx
  refine store_in_new (dx := s.heap.objs.size) ?_ fun h' tk' hn hs => hq h' tk' s.heap.objs.size ⟨fun b o hb e => ?_, ⟨t1, ?_⟩, Nat.le_refl _, Nat.ne_of_gt x0, hn⟩
  · refine ⟨dictOf [] 0, #[], _, ?_, rfl, fun e he => absurd he (by simp), fun _ => rfl⟩
    rw [Heap.get?_update_ne _ _ _ _ (Nat.ne_of_gt x0)]
    exact Heap.get?_push_at rfl rfl
  · rw [hs.2 b (Nat.ne_of_lt (Heap.lt_size e)), Heap.get?_update_ne _ _ _ _ hb]
    exact Heap.get?_push_of_some _ e
  · rw [hs.2 x (Nat.ne_of_lt x0), Heap.get?_update_self _ e1 rfl]

section
variable {q : Str} {N : Addr} {bs bm : List Value} {hd : Bool} {sn : List Str} {sb : List Value} {ab : Bool} {co : Option Bool} {dd : Option Addr} {s0 s1 s2 s3 s5 : Option Value}
/-- the wrapper that super() has told is called -/
theorem sup_call {i : String} (F : InitF B i) {u x t : Addr} {v : Value} {Q E : Value → Shared → Prop} (hC : s.heap.get? C = some (excClassObj nm q C N bs bm hd sn sb ab co dd s0 s1 s2 s3 s5 newId)) (hu : s.heap.get? u = some (kxs_mw i x))
    (hx : s.heap.get? x = some (excObj C t none .none)) (few : [v].length ≤ sizeLine)
    (k : ∀ t' h', (∀ b o, b ≠ x → s.heap.get? b = some o → h'.get? b = some o) → h'.get? x = some (excObj C t' none .none) → Q .none { s with heap := h' }) : wpAny (model prog w) A (call (.ref u) [v]) Q E s := by
  obtain ⟨hh, g, d, tk, os⟩ := s
  refine wpAny_call (codeAny_of_tree (show wpAny _ A.in1 (callAny (.ref u) ⟨[v], []⟩) _ _ _ from ?_))
  unfold callAny
  refine wpAny_bind (wpAny_load hu ?_)
  dsimp only [kxs_mw]
  refine KFB.if_so (by decide) (wpAny_bind ?_)
  have st := F.star
  simp only [checkBoundCall, F.kind, F.row]
  repeat (first
    | (with_reducible refine wpAny_loadPart_at hx ?_)
    | with_reducible refine wpAny_loadPart_at hC ?_
    | wp_step)
  refine ⟨plainId_quiet F.slot.plain _, codeAny_builtin F.entry (exc_init_tree (cls := .ref C) (t0 := t) (dv := none) (c2 := .none) (c3 := .none) (b4 := .bool false) hx few fun h' k1 k2 _ => k _ h' k1 k2)⟩
end
theorem sup_initK (T : KeyTxt K mg prog nm f C fI) {x t0 : Addr} {v : Value} (X : K.In s.heap) (hlim : s.heap.NoLimit) (hG : s.heap.Ns mainGlobals mg)
    (hB : ∃ mb, s.heap.Ns builtinsNs mb ∧ mb "super" = some (.type "super")) (hx : s.heap.get? x = some (excObj C t0 none .none)) (hnx : K.lookup x = none) (hroom : A.depth < recursionLimit)
    (hq : ∀ h' tk dx, InitEnd f s.heap h' x C dx v → R (.ok (.ret .none)) { s with heap := h', toks := tk }) :
    codeAny (model prog w) A (.call (.ref fI) ⟨[.ref x, v], []⟩) R s := by
  obtain ⟨oc, od, doc, pm, an, cda, ct, osl, cc, q, p1, p2, q1, q2, q3, q4, q5, q6, q7, q8, q9, q10, ho, hcd, hline, ⟨ccl, cdd, vs, ccs, file, tf, hcode, hvs, hfile⟩, ⟨cl, cld, csl, hcell⟩⟩ := T.fn
  obtain ⟨mb, hBn, hBs⟩ := hB
  obtain ⟨cd, hcl, hdct⟩ := any_some T.hdC
  have two : ∀ y ∈ bd2 f x v, (iS f).names.lookup y.1 = some .local := fun y hy => by
    cases hy with
    | head => exact T.ok.self
    | tail _ hy => cases List.mem_singleton.mp hy; exact T.ok.loc
  have see1 : (bd2 f x v).reverse.lookup ("self" : Str) = some (.ref x) := by simp [bd2, List.lookup, T.ok.ns]
  have see2 : (bd2 f x v).reverse.lookup f = some v := by simp [bd2, List.lookup]
  have lx : x < s.heap.objs.size := Heap.lt_size hx
  obtain ⟨hh, g, d, t, os⟩ := s
  refine ks_codeAny_call_defAt (binds := bd2 f x v) hroom (X _ _ ho) rfl hlim (codeRec_of X hcd) rfl (BindsTo.of_eq (T.ok.bd q p1 p2 _ doc pm (.ref cda) ct an cc x v)) T.ok.cell two (fun h₁ hn k => ?_) rfl rfl rfl
  -- what is ahead of the call but for the exception itself; the frame; what is new
  have X₀ : K.In (hideAll hh [x]) := fun a o e => hideAll_get [x] (X a o e) (by simp; intro z; rw [z, hnx] at e; cases e)
  have F1 : Fr (hideAll hh [x]) hh.objs.size h₁ (fun y => (bd2 f x v).reverse.lookup y) := ⟨hn, fun b o e => k b o (of_hideAll [x] e), Nat.le_of_eq (hideAll_size [x] hh)⟩
  have N1 : News (hideAll hh [x]) hh.objs.size h₁ [(x, excObj C t0 none .none)] := fun p hp => by
    cases List.mem_singleton.mp hp
    exact ⟨k _ _ hx, Nat.ne_of_lt lx, hideAll_none [x] (by simp)⟩
  have X1 : K.In h₁ := X₀.keeps F1.keep
  have inst : ∀ {h' : Heap} {t' : Addr}, h'.get? x = some (excObj C t' none .none) → InstAt h' x (excObj C t' none .none) C none := fun e => ⟨e, rfl, rfl, trivial⟩
  obtain ⟨oD, hD1, hD2⟩ : ∃ oD, h₁.get? C = some oD ∧ oD.data = .cls cd := by
    unfold clsIn at hcl
    split at hcl
    · rename_i eo
      cases hcl
      exact ⟨_, X1 _ _ eo, rfl⟩
    · cases hcl
  show PySem.wpAt _ (A.deeper (ksEnv q (iS f) hh.objs.size fI (.ref cda) cc)) _ (execs (iB f q1 q2 q3 q4 q5 q6 q7 q8 q9 q10) (ksEnv q (iS f) hh.objs.size fI (.ref cda) cc)) _ _ _
  -- super()
  have base := @ks_wpAt_super_base prog w (A.deeper (ksEnv q (iS f) hh.objs.size fI (.ref cda) cc))
  refine ks_wpAt_execs_cons (ks_wpAt_Expr_any (ks_wpAt_MethodCall (base T.ok.sup T.ok.cl (by decide) rfl (X1 _ _ ho) rfl rfl rfl (X1 _ _ hcode) rfl hvs hfile T.top ?_) (mcall_eq hline)))
  have glob : ∀ {Q : Value → Shared → Prop} {E : Value → Shared → Prop} {s' : Shared}, s'.heap = h₁ → Q (.type "super") s' → wpAny (model prog w) (A.deeper (ksEnv q (iS f) hh.objs.size fI (.ref cda) cc)) (loadName (ksEnv q (iS f) hh.objs.size fI (.ref cda) cc) "super") Q E s' := fun e hQ =>
    ks_loadName_global rfl T.ok.sup (loadGlobal_builtin (by rw [e]; exact hG.keeps k) T.gS (by rw [e]; exact hBn.keeps k) hBs hQ)
  refine glob rfl ⟨rfl, wpAny_loadName_free rfl T.ok.cl rfl ⟨_, X1 _ _ hcell, rfl⟩ (wpAny_loadName_local rfl T.ok.self hn see1 (ks_wpAny_isType_cls hD1 hD2 ⟨rfl, ?_⟩))⟩
  refine ks_wpAny_call_super hD1 hD2 (k _ _ hx) rfl (fun c z => by cases z) (looks_mroIn X1 T.me) fun h2 e2 kk => ?_
  obtain ⟨F2, N2, lt2⟩ := ks_newsPush (s := ⟨h₁, g, d, t + (bd2 f x v).length, os⟩) F1 N1 rfl e2 kk
  -- .__init__
  refine kxs_method kxs_KeyError F2 X₀ N2 (.head _) (inst (N2 _ (.tail _ (.head _))).1) T.st T.sup T.inB (by decide) fun u h3 F3 N3 lt3 => ?_
  refine kxs_callWith1 N3 (.head _) ?_
  show wpAny _ _ (spliced ((false, eval (.Name f q4) _) :: backTo q5 (starEach [] _))) _ _ _
  refine Calls.spliced_cons (ESX.ldL (v := v) F3.ns see2 (Calls.spliced_nil ⟨kxs_at N3 (.head _), ?_⟩) rfl T.ok.loc T.ok.nd)
  have ne1 : h₁.objs.size ≠ x := Nat.ne_of_gt (lt2 _ (.head _))
  have ne2 : u ≠ x := Nat.ne_of_gt (lt3 _ (.tail _ (.head _)))
  obtain ⟨_, _, _, _, _, _, _, _, _, _, _, _, _, _, _, _, hC3, _⟩ := excInit_of (X₀.keeps F3.keep) T.cls
  have hu3 := (N3 _ (.head _)).1
  have hx3 := (N3 _ (.tail _ (.tail _ (.head _)))).1
  have Lx : hh.objs.size ≠ x := Nat.ne_of_gt lx
  refine sup_call init_KeyError hC3 hu3 hx3 (fits1 v) fun t' h4 k4 hx4 => ?_
  have F4 : Fr (hideAll hh [x]) hh.objs.size h4 (fun y => (bd2 f x v).reverse.lookup y) := by
    obtain ⟨oL, es, ep, e1, e2⟩ := F3.ns
    exact ⟨⟨oL, es, ep, k4 _ _ Lx e1, e2⟩, fun b o z => k4 b o (fun y => by rw [y, hideAll_none [x] (by simp)] at z; cases z) (F3.keep b o z), F3.above⟩
  have old : ∀ b o, b ≠ x → hh.get? b = some o → h4.get? b = some o := fun b o hb e => F4.keep b o (hideAll_get [x] e (by simpa using hb))
  -- self.f = f
  refine wpAt_of_wpAny (wpAny_execs_cons (plainObj_wpAny_Assign_Attribute (ESX.ldL (v := v) F4.ns see2 (ESX.ldL (v := .ref x) F4.ns see1 ?_ rfl T.ok.self) rfl T.ok.loc T.ok.nd)))
  refine put_firstS store_KeyError T (X₀.keeps F4.keep) hx4 fun h5 tk5 dx M => ?_
  exact wpAny_execs_nil (hq h5 tk5 dx ⟨fun b o hb e => M.keep b o hb (old b o hb e), M.obj, Nat.le_trans (Nat.le_of_lt F4.ns.lt) M.dbig, M.dne, M.ns⟩)
theorem sup_madeK (T : KeyTxt K mg prog nm f C fI) {v : Value} (X : K.In s.heap) (hlim : s.heap.NoLimit) (hG : s.heap.Ns mainGlobals mg)
    (hB : ∃ mb, s.heap.Ns builtinsNs mb ∧ mb "super" = some (.type "super")) (hroom : A.depth + 1 < recursionLimit)
    (hq : ∀ h' tk e d, OwnMade f s.heap h' e C d v → R (.ok (.ret (.ref e))) { s with heap := h', toks := tk }) :
    codeAny (model prog w) A (.call (.ref C) ⟨[v], []⟩) R s := by
  obtain ⟨n2, N, q, bs, bm, hdct, sn, sub, ab, col, dd, k0, k1, k2, k3, k5, hC, hT⟩ := excInit_of X T.cls
  obtain ⟨mb, hB1, hB2⟩ := hB
  obtain ⟨hp, g, dr, tk, os⟩ := s
  have k : ∀ b o, hp.get? b = some o → ((hp.push (kdv_tup [v])).push (excO C hp.objs.size)).get? b = some o := fun b o e => Heap.get?_push_of_some _ (Heap.get?_push_of_some _ e)
  have hget : ((hp.push (kdv_tup [v])).push (excO C hp.objs.size)).get? (hp.objs.size + 1) = some (excO C hp.objs.size) := by heap_get
  have hnx : K.lookup (hp.objs.size + 1) = none := by
    cases e : K.lookup (hp.objs.size + 1) with
    | none => rfl
    | some o =>
      have z : hp.get? (hp.objs.size + 1) = some o := X _ _ e
      exact absurd (Nat.lt_of_succ_lt (Heap.lt_size z)) (Nat.lt_irrefl _)
  refine key_call hT hC (looks_findIn X T.iC) (fun self => bind_fn X self T.tC) (fits1 v) ?_
  refine sup_initK (s := ⟨(hp.push (kdv_tup [v])).push (excO C hp.objs.size), g, dr, tk, os⟩) T (X.keeps k) (hlim.keeps k) (hG.keeps k) ⟨mb, hB1.keeps k, hB2⟩ hget hnx hroom fun h' tk' dx M => ?_
  obtain ⟨t1, hx⟩ := M.obj
  have z : hp.objs.size + 1 + 1 ≤ dx := by
    have q := M.dbig
    rw [Heap.size_push, Heap.size_push] at q
    exact q
  exact ⟨rfl, hq h' tk' (hp.objs.size + 1) dx ⟨fun b o e => M.keep b o (Nat.ne_of_lt (Nat.lt_succ_of_lt (Heap.lt_size e))) (k b o e), Nat.le_succ _, ⟨_, _, hx, rfl, rfl, rfl, rfl⟩, Nat.le_trans (Nat.le_trans (Nat.le_succ _) (Nat.le_succ _)) z, M.dne, M.ns⟩⟩
end
end EX
namespace EX
open PySem PySem.Spec PyProof.Rows L2
section
variable {X : Cx} {nm f : Str} {C fI : Addr}
theorem pmk_key {a : Expr} {ta : TE} {p pos : Pos} {k : Nat} (T : KeyTxt X.K X.mg X.prog nm f C fI) (hr : Room k X.A) (ha : PE X a ta) (hg : Gl X nm) (hdb : (nm == ("__debug__" : Str)) = false := by decide)
    (he : starEach (a :: []) X.env = (false, eval a X.env) :: starEach [] X.env := by rfl) (hpl : (backTo pos (starEach [] X.env)).any (·.1) = false := by rfl) :
    PMk X (.Call (.Name nm p) [a] [] pos) (tMk C f ta) := by
  intro pins s σ H Q I h
  have one : PA X [a] (tCons ta tNil) := pa_cons ha pa_nil he
  refine wpAny_Call_Name_kw (ld_glob I hg T.gC ?_ hdb)
  refine PySem.W.callWith_K (h₀ := X.base) I.ok.mod.kin T.kC (thn (one.run pos pins s σ H (fun vs H1 => ∃ v, vs = [v] ∧ ∀ d, H1 d = none → Q (.ref C) (some d) (upd H1 d (.xd [(f, v)]))) I ?_) fun us s1 hh => ?_) he hpl
  · show ta σ H _
    have q : ta σ H fun v H1 => ∀ d, H1 d = none → Q (.ref C) (some d) (upd H1 d (.xd [(f, v)])) := h
    refine cast ?_ q
    congr 1
    funext v H1
    simp [tNil]
  obtain ⟨vs, H1, I1, r1, v, ev, q1⟩ := hh
  subst ev
  refine ⟨I1.kIn, ?_⟩
  cases r1 with
  | cons rv rn =>
    rename_i v' us'
    cases rn
    show wpAny _ _ (call (.ref C) [v']) _ _ _
    have hlim := I1.nolimit
    have hG := I1.mod.glob.keeps I1.bk
    obtain ⟨mb, b1, b2⟩ := I1.mod.blt
    have hB : ∃ mb, s1.heap.Ns builtinsNs mb ∧ mb "super" = some (.type "super") := ⟨mb, b1.keeps I1.bk, (b2 "super" (by decide)).trans (by decide +kernel)⟩
    obtain ⟨hp, g, dr, tk, os⟩ := s1
    refine wpAny_call (sup_madeK T I1.kIn hlim hG hB (by have := hr.dp; omega) fun h' tk' e d M => ?_)
    show MkP X pins σ Q (.ref e) ⟨h', g, dr, tk', os⟩
    obtain ⟨oe, fv, hoe, hc, hd, hdat, h1⟩ := M.obj
    have hns := M.ns
    obtain ⟨G', g1, g2⟩ := restrict h' fun b => decide (b ≠ e)
    have gk : ∀ b, b ≠ e → G'.get? b = h'.get? b := fun b hb => g1 b (decide_eq_true hb)
    have ge : G'.get? e = none := g2 e (by simp)
    have old : ∀ b o, hp.get? b = some o → G'.get? b = some o := fun b o q => (gk b (Nat.ne_of_lt (Nat.lt_of_lt_of_le (Heap.lt_size q) M.new))).trans (M.keep b o q)
    have ob : ObjOk X.prog X.w (upd H1 d (.xd [(f, v)])) G' d (.xd [(f, v)]) := ⟨_, hns.at (fun o q => (gk d M.dne).trans q), fun g => relO_f rv g⟩
    have J : Inv X pins σ (upd H1 d (.xd [(f, v)])) ⟨G', g, dr, tk', os⟩ := I1.laid (t' := tk') old M.dbig ob
    refine ⟨e, oe, fv, ⟨G', g, dr, tk', os⟩, _, .ref C, some d, rfl, J, fun b o q => ?_, ge, hoe, ⟨hc, hd⟩, hdat, h1, ?_, rfl, I1.bare, raises_own T.exC T.tyC, q1 d (I1.hok.fresh M.dbig)⟩
    · by_cases hb : b = e
      · have q' : G'.get? b = some o := q
        rw [hb, ge] at q'; cases q'
      · exact (gk b hb).symm.trans q
    · rw [upd_ne (Ne.symm M.dne)]
      exact I1.hok.fresh M.new
end
end EX


set_option Elab.async false
set_option linter.all false
set_option maxRecDepth 100000
set_option maxHeartbeats 4000000
/-! EXv: a def that an except suite hands its error to, isinstance of that error. -/
namespace DL
open PySem PySem.Spec PyProof.Rows L2 SlX L2H
/-! ### one object more is fixed -/
section
variable {g h : Heap} {a : Addr}
theorem base_more (k : ∀ b o, g.get? b = some o → h.get? b = some o) : ∃ b' : Heap, (∀ b o, g.get? b = some o → b'.get? b = some o) ∧ (∀ o, h.get? a = some o → b'.get? a = some o) ∧
    (∀ b o, b'.get? b = some o → h.get? b = some o ∧ (b = a ∨ g.get? b = some o)) ∧ b'.objs.size = h.objs.size := by
  let l : List Addr := (List.range h.objs.size).filter fun b => !((g.get? b).isSome || b == a)
  have off : ∀ b o, (b = a ∨ g.get? b = some o) → b ∉ l := fun b o z m => by
    have := (List.mem_filter.mp m).2
    rcases z with z | z
    · simp [z] at this
    · simp [z] at this
  refine ⟨PySem.W.hideAll h l, fun b o e => PySem.W.hideAll_get l (k b o e) (off b o (.inr e)), fun o e => PySem.W.hideAll_get l e (off a o (.inl rfl)), fun b o e => ?_, PySem.W.hideAll_size l h⟩
  have e2 := PySem.W.of_hideAll l e
  refine ⟨e2, ?_⟩
  by_cases hb : b = a
  · exact .inl hb
  · cases q : g.get? b with
    | some u =>
      have := k b u q
      rw [e2] at this
      cases this
      exact .inr rfl
    | none =>
      have : b ∈ l := List.mem_filter.mpr ⟨List.mem_range.mpr (Heap.lt_size e2), by simp [q, hb]⟩
      rw [PySem.W.hideAll_none l this] at e
      cases e
theorem frames_more {b' : Heap} {oe : Obj} {fs : Array Value} (n : ∀ b o, b'.get? b = some o → h.get? b = some o ∧ (b = a ∨ g.get? b = some o)) (ha : h.get? a = some oe) (hd : oe.data = .fields fs) : ∀ {l : List Env}, h.FunFrames g l → h.FunFrames b' l
  | [], _ => trivial
  | e :: l, ⟨k1, ⟨L, o, f1, f2, f3, f4⟩, r⟩ => by
    refine ⟨k1, ⟨L, o, f1, ?_, f3, f4⟩, frames_more n ha hd r⟩
    cases q : b'.get? L with
    | none => rfl
    | some u =>
      obtain ⟨_, z | z⟩ := n L u q
      · subst z
        rw [ha] at f3
        cases f3
        exact absurd hd (f4 fs)
      · rw [f2] at z
        cases z
end
/-! ### the def runs, whatever is handled -/
section
variable {CX : CXT} {P : Program} {w : World} {K : PySem.W.Frag} {mg : Str → Option Value} {base : Heap} {k : Nat} {f : Addr} {x qual : Str} {st : Stmt} {fd : FuncData} {N ps : List Str}
theorem run_suite (F : Fun K x qual st f fd) (S : FnScope N ps (defScope st)) (loc : ∀ n ∈ ps, (defScope st).names.lookup n = some .local) {A : Around} {frames : List Env} {s : Shared} {H : Hp} {args : Args} {us : List Value} {vs : List V} {Q : VK} {E : XK} {p : Addr × Obj}
    (hr : RoomH (k + 1) A) (pin : PinOk frames H s p) (e0 : Env0 P w K mg base A frames s H) (bd : BindsTo s fd args (ps.zip us)) (rv : Vals vs us) (n : vs.length = ps.length)
    (body : ∀ cdv, RoomH k (A.deeper (envOfC qual (defScope st) s.heap.objs.size f cdv)) → ∃ t, PSs (cxH CX P w K mg base N qual (defScope st) f cdv A frames s H E p) (defBody st) t ∧ t { nx := fun _ H' => Q .non H', rt := Q } (L2.start N vs) H) :
    codeAny (model P w) A (.call (.ref f) args) (CR CX frames P w H s Q E) s := by
  obtain ⟨oc, od, kV, doc, pm, an, cdv, ct, osl, rfl, lk, cd⟩ := F.ex
  have up : ∀ b o, base.get? b = some o → s.heap.get? b = some o := fun b o e => (e0.bs b o e).1
  have X := e0.mod.kin.keeps up
  refine codeAny_call_function hr.depth (X _ _ lk) rfl S.co S.gen rfl (PySem.W.codeRec_of X cd) (bd _ _ _ _ (wpAny_newFunctionEnv_cells S.kind (fun y hy => .inl (loc _ (List.of_mem_zip hy).1)) fun env he s1 z => ?_))
  subst he
  refine ⟨(e0.mod.nolimit.keeps up).keeps z.toInCall.keep, codeAny_func ?_⟩
  obtain ⟨t, ht, want⟩ := body cdv (hr.deeper _)
  refine wpAny_mono (ht.run [] s1 (L2.start N vs) H _ (inv_startH S pin e0 n rv z) want) (fun fl s2 c => ?_) fun _ _ c => c
  match fl, c with
  | .ret _, ⟨v, _, H', J, r, q⟩ => exact ⟨v, H', J.os, J.bare, J.base, J.hok, r, q⟩
  | .next, ⟨_, H', J, q⟩ => exact ⟨V.non, H', J.os, J.bare, J.base, J.hok, rfl, q⟩
  | .brk, ⟨_, _, _, q⟩ => exact q.elim
  | .cont, ⟨_, _, _, q⟩ => exact q.elim
end
/-! ### isinstance(error, c), the error's object fixed -/
section
variable {X : Cx} {K : PySem.W.Frag} {C a : Addr} {dd : Option Addr}
/-- what isinstance tells of it -/
def rIsQ (K : PySem.W.Frag) (C a : Addr) (dd : Option Addr) : List V → Hp → VK → Prop := fun xs H Q => ∃ (c : V) (cv : Value) (b : Bool), xs = [.ref a, c] ∧ (∀ u, RelV c u → u = cv) ∧ PySem.W.kitOne K (.ref C) cv = some b ∧ (∀ d, dd = some d → ∃ fs, H d = some (.xd fs)) ∧ Q (.bl b) H
theorem kc_isQ {oe : Obj} {fs : Array Value} (E : ExcC X.K C) (at_ : X.base.get? a = some oe) (hc : oe.cls = .ref C) (hdd : oe.dict = dd) (hf : oe.data = .fields fs) (hK : X.K = K := by rfl) : CallR X (.builtin "isinstance") (rIsQ K C a dd) := by
  subst hK
  intro pins s σ H xs us Q I r ⟨c, cv, b, e, tell, kit, dict, q⟩
  subst e
  obtain ⟨cd, isC, _⟩ := PySem.W.any_some E.hd
  obtain ⟨od, J⟩ : ∃ od, PySem.W.InstAt s.heap a oe C od := by
    have no : PySem.W.notCls oe = true := by unfold PySem.W.notCls; rw [hf]
    cases dd with
    | none => exact ⟨none, I.bk _ _ at_, hc, no, by rw [hdd]; trivial⟩
    | some d =>
      obtain ⟨es, ed⟩ := dict d rfl
      obtain ⟨_, ⟨o, _, _, ho, _⟩, _⟩ := I.hok d _ ed
      exact ⟨some o, I.bk _ _ at_, hc, no, by rw [hdd]; exact ho⟩
  cases r with
  | cons r1 r2 =>
    cases r2 with
    | cons r2 r3 =>
      cases r3
      cases r1
      cases tell _ r2
      exact PySem.W.kia_one (PySem.W.kitx_exc (by rw [isC]; rfl) E.hg E.hk E.hs E.ha E.hn E.ht E.hm) I.kIn J kit (fun z => nomatch z) fun tk => ⟨.bl b, H, I.kept (t' := tk) fun _ _ z => z, rfl, q⟩
end
/-! ### over data -/
/-- the data is the error at a, dd its dict -/
def isErr (a : Addr) (dd : Option Addr) (x : D) : Prop := match dd with
  | none => x = .own a
  | some d => ∃ f y, x = .err a d f y
/-- isinstance(error, c) -/
@[simp] def rIsX (a : Addr) (dd : Option Addr) (b : Bool) (ra : RE) : RE := fun δ μ k => ra δ μ fun x μ1 => isErr a dd x ∧ k (.bl b) μ1
theorem okE_isX {K : PySem.W.Frag} {C a : Addr} {dd : Option Addr} {c : V} {cv : Value} {b : Bool} {te : TE} {ra : RE} (kit : PySem.W.kitOne K (.ref C) cv = some b) (tell : ∀ u, RelV c u → u = cv) (h : OkE K te ra) :
    OkE K (tCB (rIsQ K C a dd) (tCons te (tCons (tC c) tNil))) (rIsX a dd b ra) := fun σ δ μ G H k Q S w q t =>
  h σ δ μ G H _ _ S w q fun v x μ1 G1 H1 ⟨e, q1⟩ w1 g1 r1 => by
    cases dd with
    | none =>
      cases (show x = .own a from e)
      cases r1
      exact ⟨c, cv, b, rfl, tell, kit, (fun d z => nomatch z), t _ _ μ1 G1 H1 q1 w1 g1 (.bl b)⟩
    | some d =>
      obtain ⟨f, y, rfl⟩ := (show ∃ f y, x = .err a d f y from e)
      cases r1 with
      | err hd hv => exact ⟨c, cv, b, rfl, tell, kit, (fun d' z => by cases z; exact ⟨_, w1.ex _ _ hd⟩), t _ _ μ1 G1 H1 q1 w1 g1 (.bl b)⟩
/-- what the def that is handed the error promises -/
def dErr (a : Addr) (dd : Option Addr) (d : D) : DSp := fun ds μ k => ∃ x, ds = [x] ∧ isErr a dd x ∧ k d μ
/-- its body, the error's object fixed -/
def BodyQ (P : Program) (w : World) (K : PySem.W.Frag) (mg : Str → Option Value) (k : Nat) (x : Str) (st : Stmt) (N : List Str) (C a : Addr) (dd : Option Addr) (r : RS) : Prop :=
  ∀ (f : Addr), ∃ t : TS, ∀ (base : Heap) (oe : Obj) (fs : Array Value) (cdv : Value) (A : Around) (frames : List Env) (s : Shared) (H : Hp) (p : Addr × Obj), base.get? a = some oe → oe.cls = .ref C → oe.dict = dd → oe.data = .fields fs →
    RoomH k (A.deeper (envOfC x (defScope st) s.heap.objs.size f cdv)) → DSs (cxH CX0 P w K mg base N x (defScope st) f cdv A frames s H E0 p) (defBody st) t r
theorem ke_errcall {X0 : Cx} {K : PySem.W.Frag} {mg : Str → Option Value} {P : Program} {w : World} {x n : Str} {st : Stmt} {N : List Str} {k j : Nat} {C a : Addr} {dd : Option Addr} {oe : Obj} {pn : List (Addr × Obj)} {r : RS} {d : D} {e : Expr} {te : TE} {p pos : Pos}
    (at_ : At K mg x st) (B : BodyQ P w K mg k x st N C a dd r) (S : FnScope N [n] (defScope st)) (loc : (defScope st).names.lookup n = some .local)
    (hb : ∀ (kV doc pm : Value) (an : Option Addr) (cdv ct : Value) (us : List Value), us.length = 1 → bindArgs (PySem.W.fnOf x x (defArgs st) (defBody st) (defScope st) .none kV doc pm an cdv ct) ⟨us, []⟩ = pure (([n] : List Str).zip us))
    (vc : ∀ (y : D) μ (k' : DK), isErr a dd y → k' d μ → r { nx := fun _ μ' => k' .non μ', rt := k' } (startD N [y]) μ)
    (hz : Zc (.ref C) dd oe) (hf : ∃ vs, oe.data = .fields vs) (hr : Room j X0.A) (he : PE (X0.suite a ((a, oe) :: pn)) e te) (hj : k + 1 ≤ j := by first | decide | omega) (hg : Gl X0 x := by rfl) (hP : X0.prog = P := by rfl) (hw : X0.w = w := by rfl) (hK : X0.K = K := by rfl) (hm : X0.mg = mg := by rfl)
    (hdb : (x == ("__debug__" : Str)) = false := by decide) (hs : starEach [e] X0.env = (false, eval e X0.env) :: starEach [] X0.env := by rfl) (hpl : (backTo pos (starEach [] X0.env)).any (·.1) = false := by rfl) :
    PE (X0.suite a ((a, oe) :: pn)) (.Call (.Name x p) [e] [] pos) (tCall (spOf K (dErr a dd d)) [] E0 (tCons te tNil)) := ⟨fun pins s σ H Q I want => by
  subst hP hw hK hm
  obtain ⟨f, fd, F, nm, kp⟩ := at_.ex
  obtain ⟨fs, hfs⟩ := hf
  refine wpAny_Call_Name_kw (ld_glob I hg nm (PySem.W.callWith_K (h₀ := X0.base) I.ok.mod.kin kp (thn ((pa_cons he pa_nil hs).run pos pins s σ H _ I want) fun us s1 ⟨vs, H1, I1, r1, goal⟩ => ⟨I1.kIn, ?_⟩) hs hpl) hdb)
  have goal : spOf X0.K (dErr a dd d) vs H1 Q E0 := by
    have z : spOf X0.K (dErr a dd d) (vs ++ []) H1 Q E0 := goal
    rwa [List.append_nil] at z
  obtain ⟨ds, μ, G, k', wd, rl, ⟨y, rfl, iy, want⟩, th⟩ := goal
  have e0 := I1.env0
  have pin := I1.pin (a, oe) (List.mem_append_left _ List.mem_cons_self)
  have pin' : PinOk (X0.suite a ((a, oe) :: pn)).stack H1 s1 (a, oe) := ⟨pin.1, pin.2.1, fun z => (List.mem_cons.mp (I1.stkSub a z)).elim pin.2.2.1 pin.2.2.2.1, pin.2.2.2.2⟩
  obtain ⟨b', b1, b2, b3, b4⟩ := base_more (g := X0.base) (h := s1.heap) (a := a) fun b o z => (e0.bs b o z).1
  have e1 : Env0 X0.prog X0.w X0.K X0.mg b' (X0.suite a ((a, oe) :: pn)).A (X0.suite a ((a, oe) :: pn)).stack s1 H1 := by
    obtain ⟨mb, bl1, bl2⟩ := e0.mod.blt
    refine ⟨e0.frames, ⟨e0.mod.kin.keeps b1, e0.mod.glob.keeps b1, ⟨mb, bl1.keeps b1, bl2⟩, e0.mod.nolimit.keeps b1⟩, fun b o z => ?_, Nat.le_of_eq b4, frames_more b3 pin.1 hfs e0.funs, e0.frf, e0.hok, e0.bare⟩
    obtain ⟨z1, z2 | z2⟩ := b3 b o z
    · subst z2; exact ⟨z1, pin.2.1⟩
    · exact ⟨z1, (e0.bs b o z2).2⟩
  have n1 : vs.length = 1 := rl.length
  have bds := (F.binds (ps := [n]) hb) s1 us I1.kIn (by rw [List.append_nil, ← r1.length, n1]; rfl)
  rw [List.append_nil] at bds
  refine wpAny_call (codeAny_mono (run_suite (CX := CX0) (E := E0) (Q := Q) (k := k) F S (fun m hm => by cases List.mem_singleton.mp hm; exact loc) ⟨by have := hr.dp; show X0.A.depth + _ + 5 < _; omega, by have := hr.un; show X0.A.units + _ + 200 < _; omega⟩ pin' e1 bds r1 n1 fun cdv room => ?_) fun r s2 c => ?_)
  · obtain ⟨t, B⟩ := B f
    have D := B b' oe fs cdv (X0.suite a ((a, oe) :: pn)).A (X0.suite a ((a, oe) :: pn)).stack s1 H1 (a, oe) (b2 _ pin.1) hz.1 hz.2 hfs room
    exact ⟨t, D.p, D.o (L2.start N vs) (startD N [y]) μ G H1 _ _ (start_ok rl) wd (vc y μ k' iy want) ⟨fun σ' δ' μ' G' H' h S' w' g' => th _ _ μ' G' H' h w' g' .non, fun _ _ _ _ _ h => h.elim, fun _ _ _ _ _ h => h.elim, fun v d' μ' G' H' h w' g' r' => th v d' μ' G' H' h w' g' r'⟩⟩
  · match r, c with
    | .ok (.ret _), c => exact I1.after c⟩
end DL


set_option Elab.async false
set_option linter.all false
set_option maxRecDepth 100000
set_option maxHeartbeats 4000000
/-! EXw: repr of data and of {}, {text: e, ..}, sorted of a dict of texts, an int in a tuple of ints. -/
namespace DL
open PySem PySem.Spec PyProof.Rows L2 SlX
section
variable {K : PySem.W.Frag}
/-! ### repr -/
def rReprE (K : PySem.W.Frag) : List V → Hp → VK → Prop := fun xs H Q => rRepr K xs H Q ∨ ∃ a, xs = [.ref a] ∧ H a = some (.dT []) ∧ Q (.str "{}") H
theorem kc_reprE {X : Cx} (K : PySem.W.Frag) (hG : X.A.guards = some []) (hu : X.A.units + 64 < cLine) (hK : X.K = K := by rfl) : CallR X (.builtin "repr") (rReprE K) := by
  subst hK
  rintro pins s σ H xs us Q I r (h | ⟨a, rfl, e, q⟩)
  · exact kc_repr X.K hG hu rfl pins s σ H xs us Q I r h
  · obtain ⟨u, rfl, ru⟩ := r.one
    cases (show u = Value.ref a from ru)
    obtain ⟨_, off, xs, pr, o, es, ep, h1, h2, h3, h4, _⟩ := (show ObjOk X.prog X.w H s.heap a (.dT []) from I.hok a _ e)
    cases pr
    have he : es.toList = [] := h4
    have rd : Reads s.heap (.ref a) (.dict []) (a :: [] ++ []) := .dict h1 h2.1 h3 (by rw [he]; exact .nil) (by rw [he]; exact .nil)
    refine PySem.repr_of_reads' rd rfl (fun _ m => ?_) hG (by show X.A.units + (1 + 1) < cLine; omega) (fun _ _ e => e) (fun h' t tk k => ?_) (by decide)
    · have z : sysModules = a := by simpa using m
      rw [z] at off
      simp at off
    · exact ⟨.str "{}", H, I.kept (t' := tk) k, ⟨_, rfl⟩, q⟩
@[simp] def oReprE : FL := fun xs μ k => match xs with
  | [.dt [] []] => k (.str "{}") μ
  | xs => oRepr xs μ k
theorem okReprE : OkC K (rReprE K) oReprE := fun xs as μ G H k Q w r q t => by
  unfold oReprE at q
  split at q
  · obtain ⟨v, rfl, rx⟩ := one_arg r
    cases rx with
    | dt h hl rl =>
      cases rl
      exact .inr ⟨_, rfl, w.ex _ _ h, t _ _ μ G H q w (Go.refl _ _ _) (.str _)⟩
  · exact .inl (okRepr xs as μ G H k Q w r q t)
/-! ### an int in a tuple of ints -/
@[simp] def oInI : F2 := fun x y μ k => ∃ (a : Int) (ws : List Int), x = .int a ∧ y = .tup (ws.map D.int) ∧ k (.bl (decide (a ∈ ws))) μ
theorem inV_ints (a : Int) : ∀ ws : List Int, inV (.int a) (ws.map V.int) = decide (a ∈ ws)
  | [] => rfl
  | w :: ws => by
    have ih := inV_ints a ws
    unfold inV at ih ⊢
    rw [List.map_cons, List.any_cons, ih]
    by_cases h : a = w
    · subst h; simp [eqV]
    · have h' : ¬ w = a := fun e => h e.symm
      simp [eqV, h, h']
theorem okInI : OkOp K (rIn K false) oInI := fun x y a b μ G H k Q w rx ry ⟨c, ws, e1, e2, q⟩ t => by
  subst e1 e2
  cases rx
  cases ry with
  | tup h r =>
    refine ⟨_, ws.map V.int, rfl, .inr (by rw [← RepL.ints r]; exact SqT.of (w.ex _ _ h)), rfl, by simp [flatV], ?_⟩
    rw [inV_ints]
    exact t _ _ μ G H q w (Go.refl _ _ _) (.bl _)
/-! ### sorted(d), its keys texts -/
theorem kc_sortedKS {X : Cx} (hc : X.calm = true := by rfl) : CallR X (.builtin "sorted") (fun xs H Q => ∃ (a : Addr) (kvs : List (Key × V)) (ks : List Str), xs = [.ref a] ∧ L2.Rd H a (.dK kvs) ∧ kvs.map (·.1) = ks.map Sum.inr ∧ ks.length < 64 ∧
    ∀ ys p, ys.Perm ks → sortedS ys = true → H p = none → Q (.ref p) (upd H p (.lst (ys.map V.str)))) := call_sortedD hc
@[simp] def oSortKS : FL := fun xs μ k => match xs with
  | [.dk ks ds] => ∃ ss : List Str, ks = ss.map Sum.inr ∧ ss.length < 64 ∧ ∀ ys : List Str, ys.Perm ss → k (.lst (ys.map D.str)) μ
  | _ => False
theorem okSortKS : OkC K (fun xs H Q => ∃ (a : Addr) (kvs : List (Key × V)) (ks : List Str), xs = [.ref a] ∧ L2.Rd H a (.dK kvs) ∧ kvs.map (·.1) = ks.map Sum.inr ∧ ks.length < 64 ∧
    ∀ ys p, ys.Perm ks → sortedS ys = true → H p = none → Q (.ref p) (upd H p (.lst (ys.map V.str)))) oSortKS := fun xs as μ G H k Q w r q t => by
  unfold oSortKS at q
  split at q
  · obtain ⟨ss, e, few, q⟩ := q
    obtain ⟨v, rfl, rx⟩ := one_arg r
    cases rx with
    | dk h hl rl =>
      refine ⟨_, _, ss, rfl, .inl (w.ex _ _ h), by rw [← e, List.map_fst_zip (Nat.le_of_eq hl)], few, fun ys p pm _ hp => ?_⟩
      exact mkLst w (repL_strs ys) (q ys pm) t p hp
  · exact q.elim
/-! ### {text: e, ..} -/
def rPrs : List (Str × RE) → Sl → Mu → (List D → Mu → Prop) → Prop
  | [], _, μ, k => k [] μ
  | (_, re) :: l, δ, μ, k => re δ μ fun d μ1 => rPrs l δ μ1 fun ds μ2 => k (d :: ds) μ2
def rDisp (l : List (Str × RE)) : RE := fun δ μ k => (l.map (·.1)).Nodup ∧ l.length ≤ 15 ∧ rPrs l δ μ fun ds μ1 => k (.dk (l.map fun p => .inr p.1) ds) μ1
def OkPrs (K : PySem.W.Frag) : List (TE × TE) → List (Str × RE) → Prop
  | [], [] => True
  | (tk, tv) :: ts, (x, re) :: l => tk = tC (.str x) ∧ OkE K tv re ∧ OkPrs K ts l
  | _, _ => False
theorem prs_ok : ∀ {ts : List (TE × TE)} {l : List (Str × RE)}, OkPrs K ts l → ∀ (σ : L2.St) (δ : Sl) (μ : Mu) (G H : Hp) (k : List D → Mu → Prop) (Q : List (V × V) → Hp → Prop), SlOk K G σ δ → Wd K G H μ → rPrs l δ μ k →
    (∀ vs ds μ' G' H', vs.length = l.length → k ds μ' → Wd K G' H' μ' → Go μ G H μ' G' H' → RepL K G' vs ds → Q ((l.map fun p => V.str p.1).zip vs) H') → tPairs ts σ H Q
  | [], [], _, σ, δ, μ, G, H, k, Q, S, w, q, t => t [] [] μ G H rfl q w (Go.refl _ _ _) .nil
  | (tk, tv) :: ts, (x, re) :: l, ⟨e, ok, rest⟩, σ, δ, μ, G, H, k, Q, S, w, q, t => by
    subst e
    show tv σ H _
    refine ok σ δ μ G H _ _ S w q fun v d μ1 G1 H1 q1 w1 g1 r1 => ?_
    refine prs_ok rest σ δ μ1 G1 H1 _ _ (S.mono g1.eg) w1 q1 fun vs ds μ2 G2 H2 n q2 w2 g2 r2 => ?_
    exact t (v :: vs) (d :: ds) μ2 G2 H2 (by rw [List.length_cons, List.length_cons, n]) q2 w2 (g1.trans g2) (.cons (r1.mono g2.eg) r2)
theorem merge_new : ∀ (more acc : List (Key × V)), (more.map (·.1)).Nodup → (∀ p ∈ more, ∀ q ∈ acc, q.1 ≠ p.1) → mergeK acc more = acc ++ more
  | [], acc, _, _ => by simp [mergeK]
  | p :: r, acc, nd, ap => by
    rw [List.map_cons, List.nodup_cons] at nd
    have e : putK acc p.1 p.2 = acc ++ [p] := by
      unfold putK
      rw [if_neg]
      rw [List.any_eq_true]
      rintro ⟨q, hq, hp⟩
      exact ap p List.mem_cons_self q hq (of_decide_eq_true hp)
    show mergeK (putK acc p.1 p.2) r = _
    rw [e, merge_new r (acc ++ [p]) nd.2, List.append_assoc]
    · rfl
    · intro a ha q hq
      rcases List.mem_append.mp hq with hq | hq
      · exact ap a (List.mem_cons_of_mem _ ha) q hq
      · cases List.mem_singleton.mp hq
        exact fun z => nd.1 (List.mem_map.mpr ⟨a, ha, z.symm⟩)
theorem zip_strs : ∀ (l : List (Str × RE)) (vs : List V), ((l.map fun p => V.str p.1).zip vs) = ((l.map fun p => (Sum.inr p.1 : Key)).zip vs).map fun kv => (kV kv.1, kv.2)
  | [], _ => rfl
  | _ :: _, [] => rfl
  | p :: l, v :: vs => by
    have ih := zip_strs l vs
    simp only [List.map_cons, List.zip_cons_cons, ih]
    rfl
theorem okE_disp {ts : List (TE × TE)} {l : List (Str × RE)} (h : OkPrs K ts l) : OkE K (tDisp ts) (rDisp l) := fun σ δ μ G H k Q S w ⟨nd, few, q⟩ t => by
  intro p hp
  have mp : μ p = none := w.mnone hp
  have w0 : Wd K G (upd H p (.dK [])) μ := (w.newC (c := .k []) hp (.k (kvs := []) rfl .nil)).sub fun a c e => by rw [muSet_ne (fun z => by rw [z, mp] at e; cases e)]; exact e
  refine prs_ok h σ δ μ G _ _ _ S w0 q fun vs ds μ2 G2 H2 n q2 w2 g2 r2 => ?_
  have m2 : μ2 p = none := g2.none_mu upd_same mp
  have h2 : H2 p = some (.dK []) := g2.kp p _ upd_same mp
  have gp : G2 p = none := by
    cases e : G2 p with
    | none => rfl
    | some o =>
      rcases g2.gf p (by rw [e]; simp) with z | z | z | ⟨xs, z⟩
      · exact absurd (w.gnone hp) z
      · exact absurd mp z
      · rw [upd_same] at z; cases z
      · rw [upd_same] at z; cases z
  let kvs : List (Key × V) := (l.map fun p => (Sum.inr p.1 : Key)).zip vs
  have keys : kvs.map (·.1) = l.map fun p => (Sum.inr p.1 : Key) := List.map_fst_zip (by rw [List.length_map, n]; exact Nat.le_refl _)
  have mk : mergeK [] kvs = kvs := by
    rw [merge_new kvs [] ?_ (fun _ _ _ h => nomatch h)]
    · rfl
    · rw [keys]
      have e : (l.map fun p => (Sum.inr p.1 : Key)) = (l.map (·.1)).map Sum.inr := by rw [List.map_map]; rfl
      rw [e]
      exact List.Pairwise.map _ (fun a b hab z => hab (Sum.inr.inj z)) nd
  refine ⟨h2, kvs, ?_, by show (List.zip _ _).length ≤ 15; rw [List.length_zip, List.length_map, n]; omega, ?_⟩
  · show ((l.map fun p => V.str p.1).zip vs) = ((l.map fun p => (Sum.inr p.1 : Key)).zip vs).map _
    exact zip_strs l vs
  · rw [mk]
    have w3 : Wd K (upd G2 p (.dK kvs)) (upd H2 p (.dK kvs)) μ2 := by
      refine ⟨fun a o e => ?_, fun a c e => ?_⟩
      · by_cases ha : a = p
        · subst ha; rw [upd_same] at e ⊢; exact e
        · rw [upd_ne ha] at e ⊢; exact w2.ex _ _ e
      · have ha : a ≠ p := fun z => by rw [z, m2] at e; cases e
        obtain ⟨z1, o, z2, z3⟩ := w2.mu a c e
        exact ⟨by rw [upd_ne ha]; exact z1, o, by rw [upd_ne ha]; exact z2, z3.mono (Ex.new gp)⟩
    refine t (.ref p) _ μ2 (upd G2 p (.dK kvs)) _ q2 w3 ⟨g2.eg.trans (Ex.new gp), fun a o e m => ?_, fun a e => ?_, fun a e => ?_⟩ (.dk upd_same (by rw [List.length_map, n]) (r2.mono (Ex.new gp)))
    · have ha : a ≠ p := ne_of_none e hp
      rw [upd_ne ha]
      exact g2.kp a o (by rw [upd_ne ha]; exact e) m
    · by_cases ha : a = p
      · subst ha; exact .inr hp
      · rcases g2.dm a e with z | z
        · exact .inl z
        · rw [upd_ne ha] at z; exact .inr z
    · by_cases ha : a = p
      · subst ha; exact .inr (.inr (.inl hp))
      · rw [upd_ne ha] at e
        rcases g2.gf a e with z | z | z | ⟨xs, z⟩
        · exact .inl z
        · exact .inr (.inl z)
        · rw [upd_ne ha] at z; exact .inr (.inr (.inl z))
        · rw [upd_ne ha] at z; exact .inr (.inr (.inr ⟨xs, z⟩))
end
end DL


set_option Elab.async false
set_option linter.all false
set_option maxRecDepth 100000
set_option maxHeartbeats 4000000
/-! EXx: an own error class over KeyError: raised, its field read. -/
namespace DL
open PySem PySem.Spec PyProof.Rows L2 SlX
/-- an error class over KeyError with a field -/
structure ErrK (K : PySem.W.Frag) (mg : Str → Option Value) (P : Program) (nm f : Str) (C : Addr) : Prop where
  ex : ∃ fI : Addr, EX.KeyTxt K mg P nm f C fI
theorem ErrK.gC {K : PySem.W.Frag} {mg : Str → Option Value} {P : Program} {nm f : Str} {C : Addr} (T : ErrK K mg P nm f C) : mg nm = some (.ref C) := by
  obtain ⟨_, T⟩ := T.ex
  exact T.gC
theorem Err1.gC {K : PySem.W.Frag} {mg : Str → Option Value} {P : Program} {nm f : Str} {C : Addr} (T : Err1 K mg P nm f C) : mg nm = some (.ref C) := by
  obtain ⟨_, _, _, _, _, _, T⟩ := T.ex
  exact T.gC
theorem kx_raiseK {X : Cx} {nm f : Str} {C : Addr} {e : Expr} {te : TE} {W : WX} {k : Nat} {p pos pos2 : Pos} {K : PySem.W.Frag} {mg : Str → Option Value} {P : Program} (T : ErrK K mg P nm f C) (hr : Room k X.A) (tk : Takes X W) (he : PE X e te) (hc : X.calm = true := by rfl) (hg : Gl X nm := by rfl) (hK : X.K = K := by rfl) (hm : X.mg = mg := by rfl) (hP : X.prog = P := by rfl)
    (hs : starEach [e] X.env = (false, eval e X.env) :: starEach [] X.env := by rfl) (hdb : (nm == ("__debug__" : Str)) = false := by decide) :
    PS X (.Raise (some (.Call (.Name nm p) [e] [] pos)) none pos2) (tRaise W (EX.tMk C f te)) := by
  subst hK hm hP
  obtain ⟨fI, T⟩ := T.ex
  exact ps_raise hc tk (EX.pmk_key T hr he hg hdb hs)
theorem kx_errK {X : Cx} {K : PySem.W.Frag} {mg : Str → Option Value} {P : Program} {nm f : Str} {C a : Addr} {oe : Obj} {cls : Value} {d : Option Addr} {pn : List (Addr × Obj)} {e : Expr} {te : TE} {pos : Pos} (T : ErrK K mg P nm f C) (hz : Zc cls d oe) (hf : ∃ vs, oe.data = .fields vs)
    (he : PE (X.suite a ((a, oe) :: pn)) e te) (hK : X.K = K := by rfl) (hb : attributeBase e f X.env (eval e X.env) = eval e X.env := by rfl) : PE (X.suite a ((a, oe) :: pn)) (.Attribute e f pos) (tXf a cls d C f te) := by
  subst hK
  obtain ⟨fI, T⟩ := T.ex
  exact pe_xf ⟨T.ga, T.gg, T.exC, T.hdC⟩ T.noN hz hf he hb
end DL


set_option Elab.async false
set_option linter.all false
set_option maxRecDepth 100000
set_option maxHeartbeats 4000000
namespace K00
open PySem PySem.Spec PyProof.Rows L2 SlX DL
def topS (i : Nat) : Stmt := PySem.Challenge.pw_rampworks_k00_errors_and_what_they_keep.main.body.getD i (.Pass ⟨0, 0, 0, 0⟩)
def lamQ (x : Str) : Str := x ++ ".<locals>.<lambda>"
/-- the error classes, in the order of the clauses -/
abbrev errs : List Str := ["InvalidRow", "InvalidLot", "InvalidReading", "InvalidNetwork", "InvalidGrowth", "InvalidOperation", "InvalidText", "InvalidClaim", "ParseError", "RampError", "InvalidNumber", "UnknownName", "NothingToUndo", "TooMany", "Refused"]
/-- those from ValueError on -/
abbrev ramps : List Str := ["InvalidRow", "InvalidLot", "InvalidReading", "InvalidNetwork", "InvalidGrowth", "InvalidOperation", "InvalidText", "InvalidClaim", "ParseError", "RampError"]
/-- which error is caught by which clause -/
def isB (a b : Str) : Bool := decide (a = b ∨ (b = "RampError" ∧ a ∈ ramps))
def isF (a b : Str) : Option Bool := if a ∈ errs ∧ b ∈ errs then some (isB a b) else none
/-- as which errors of the language an error counts, and whether as the package's -/
def rootsOf (a : Str) : List Bool :=
  if a ∈ ramps then [true, false, false, false, false, false, true] else
  if a = "InvalidNumber" then [false, true, false, false, false, true, false] else
  if a = "UnknownName" then [false, false, true, false, false, true, false] else
  if a = "TooMany" then [false, false, false, true, true, false, false] else
  if a = "NothingToUndo" then [false, false, false, false, false, true, false] else [false, false, false, false, true, false, false]
/-- words: the class, whether it keeps its value -/
abbrev words : List (Str × Str × Bool) := [("row", "InvalidRow", false), ("lot", "InvalidLot", false), ("reading", "InvalidReading", false), ("network", "InvalidNetwork", false), ("growth", "InvalidGrowth", false), ("operation", "InvalidOperation", false), ("text", "InvalidText", false), ("claim", "InvalidClaim", false), ("parse", "ParseError", true), ("ramp", "RampError", false), ("number", "InvalidNumber", true), ("unknown", "UnknownName", true), ("undo", "NothingToUndo", true), ("many", "TooMany", true), ("refused", "Refused", true)]
/-- what the module's names hold -/
structure Txt (P : Program) (K : PySem.W.Frag) (mg : Str → Option Value) (ex : ExMap) : Prop where
  b_isinstance : mg "isinstance" = none
  b_int : mg "int" = none
  b_len : mg "len" = none
  b_range : mg "range" = none
  b_max : mg "max" = none
  b_min : mg "min" = none
  b_abs : mg "abs" = none
  b_sorted : mg "sorted" = none
  b_repr : mg "repr" = none
  b_ValueError : mg "ValueError" = none
  b_IndexError : mg "IndexError" = none
  b_KeyError : mg "KeyError" = none
  b_OverflowError : mg "OverflowError" = none
  b_ArithmeticError : mg "ArithmeticError" = none
  b_LookupError : mg "LookupError" = none
  x_InvalidRow : Err0 K mg "InvalidRow" (ex.at_ "InvalidRow")
  x_InvalidLot : Err0 K mg "InvalidLot" (ex.at_ "InvalidLot")
  x_InvalidReading : Err0 K mg "InvalidReading" (ex.at_ "InvalidReading")
  x_InvalidNetwork : Err0 K mg "InvalidNetwork" (ex.at_ "InvalidNetwork")
  x_InvalidGrowth : Err0 K mg "InvalidGrowth" (ex.at_ "InvalidGrowth")
  x_InvalidOperation : Err0 K mg "InvalidOperation" (ex.at_ "InvalidOperation")
  x_InvalidText : Err0 K mg "InvalidText" (ex.at_ "InvalidText")
  x_InvalidClaim : Err0 K mg "InvalidClaim" (ex.at_ "InvalidClaim")
  x_ParseError : Err1 K mg P "ParseError" "spot" (ex.at_ "ParseError")
  f_ParseError : ex.fld "ParseError" = "spot"
  x_RampError : Err0 K mg "RampError" (ex.at_ "RampError")
  x_InvalidNumber : Err1 K mg P "InvalidNumber" "given" (ex.at_ "InvalidNumber")
  f_InvalidNumber : ex.fld "InvalidNumber" = "given"
  x_UnknownName : ErrK K mg P "UnknownName" "wanted" (ex.at_ "UnknownName")
  f_UnknownName : ex.fld "UnknownName" = "wanted"
  x_NothingToUndo : Err1 K mg P "NothingToUndo" "done" (ex.at_ "NothingToUndo")
  f_NothingToUndo : ex.fld "NothingToUndo" = "done"
  x_TooMany : Err1 K mg P "TooMany" "limit" (ex.at_ "TooMany")
  f_TooMany : ex.fld "TooMany" = "limit"
  x_Refused : Err1 K mg P "Refused" "reason" (ex.at_ "Refused")
  f_Refused : ex.fld "Refused" = "reason"
  is_ : ex.is = isF
  hx : ExOk K ex
  exc : ∀ nm ∈ errs, ExcC K (ex.at_ nm)
  kit0 : ∀ nm ∈ errs, PySem.W.kitOne K (.ref (ex.at_ nm)) (.type "ValueError") = some ((rootsOf nm).getD 0 false)
  kit1 : ∀ nm ∈ errs, PySem.W.kitOne K (.ref (ex.at_ nm)) (.type "IndexError") = some ((rootsOf nm).getD 1 false)
  kit2 : ∀ nm ∈ errs, PySem.W.kitOne K (.ref (ex.at_ nm)) (.type "KeyError") = some ((rootsOf nm).getD 2 false)
  kit3 : ∀ nm ∈ errs, PySem.W.kitOne K (.ref (ex.at_ nm)) (.type "OverflowError") = some ((rootsOf nm).getD 3 false)
  kit4 : ∀ nm ∈ errs, PySem.W.kitOne K (.ref (ex.at_ nm)) (.type "ArithmeticError") = some ((rootsOf nm).getD 4 false)
  kit5 : ∀ nm ∈ errs, PySem.W.kitOne K (.ref (ex.at_ nm)) (.type "LookupError") = some ((rootsOf nm).getD 5 false)
  kit6 : ∀ nm ∈ errs, PySem.W.kitOne K (.ref (ex.at_ nm)) (.ref (ex.at_ "RampError")) = some ((rootsOf nm).getD 6 false)
/-! ### what is raised -/
def d__law_raise_kept : DSpX := fun ds μ _ kx => ∃ w nm v, ds = [.str w, v] ∧ (w, nm, true) ∈ words.drop 10 ∧ kx nm (some v) μ
def d__law_raise : DSpX := fun ds μ _ kx => ∃ w nm b v, ds = [.str w, v] ∧ (w, nm, b) ∈ words ∧ kx nm (if b = true then some v else none) μ
section
variable {P : Program} {w : World} {K : PySem.W.Frag} {mg : Str → Option Value} {base : Heap} {ex : ExMap}
theorem ifX_no {a b : Str} {r s : RSX} {kx : SX} {DD : DEnds} {δ : Sl} {μ : Mu} (h0 : δ[0]? = some (some (.str a))) (ha : PyData.strOk a = true) (hb : PyData.strOk b = true) (ne : a ≠ b) (h : s kx DD δ μ) : rSeqX (rIfX (rB (rOp oEq (rVar 0) (rC (.str b)))) r (rLift rNext)) s kx DD δ μ := by
  simp only [rSeqX, rIfX, rB, rOp, rVar, rC, h0]
  exact oEq_str ha hb (by rw [decide_eq_false ne]; exact h)
theorem ifX_yes {a : Str} {r s : RSX} {kx : SX} {DD : DEnds} {δ : Sl} {μ : Mu} (h0 : δ[0]? = some (some (.str a))) (ha : PyData.strOk a = true) (h : r kx { DD with nx := s kx DD } δ μ) : rSeqX (rIfX (rB (rOp oEq (rVar 0) (rC (.str a)))) r (rLift rNext)) s kx DD δ μ := by
  simp only [rSeqX, rIfX, rB, rOp, rVar, rC, h0]
  exact oEq_str ha ha (by rw [decide_eq_true rfl]; exact h)
abbrev s__law_raise_kept : Stmt := topS 21
abbrev N__law_raise_kept : List Str := ["_law_word", "_law_value"]
theorem sc__law_raise_kept : FnScope N__law_raise_kept ["_law_word", "_law_value"] (defScope s__law_raise_kept) := ⟨rfl, rfl, rfl, by decide +kernel, rfl, by decide +kernel, by decide +kernel⟩
def r__law_raise_kept : RSX :=
  (rSeqX (rIfX (rB (rOp oEq (rVar 0) (rC (.str "number")))) (rRaise1 "InvalidNumber" (rVar 1)) (rLift rNext))
  (rSeqX (rIfX (rB (rOp oEq (rVar 0) (rC (.str "unknown")))) (rRaise1 "UnknownName" (rVar 1)) (rLift rNext))
  (rSeqX (rIfX (rB (rOp oEq (rVar 0) (rC (.str "many")))) (rRaise1 "TooMany" (rVar 1)) (rLift rNext))
  (rSeqX (rIfX (rB (rOp oEq (rVar 0) (rC (.str "undo")))) (rRaise1 "NothingToUndo" (rVar 1)) (rLift rNext))
  (rRaise1 "Refused" (rVar 1))))))
theorem b__law_raise_kept (T : Txt P K mg ex) : BodyX P w K mg base ex 3 "_law_raise_kept" s__law_raise_kept N__law_raise_kept (r__law_raise_kept) := by
  refine fun f E => ⟨_, fun cdv A outer s H hr => ⟨(pss_cons (ps_if (pt_cmpR (ko_eqD K hr.units) (pv 0) pe_str (nomark _)) (pss_one (kx_raise1 T.x_InvalidNumber hr (takes_of rfl rfl rfl rfl) (pv 1))) pss_nil)
      (pss_cons (ps_if (pt_cmpR (ko_eqD K hr.units) (pv 0) pe_str (nomark _)) (pss_one (kx_raiseK T.x_UnknownName hr (takes_of rfl rfl rfl rfl) (pv 1))) pss_nil)
      (pss_cons (ps_if (pt_cmpR (ko_eqD K hr.units) (pv 0) pe_str (nomark _)) (pss_one (kx_raise1 T.x_TooMany hr (takes_of rfl rfl rfl rfl) (pv 1))) pss_nil)
      (pss_cons (ps_if (pt_cmpR (ko_eqD K hr.units) (pv 0) pe_str (nomark _)) (pss_one (kx_raise1 T.x_NothingToUndo hr (takes_of rfl rfl rfl rfl) (pv 1))) pss_nil)
      (pss_one (kx_raise1 T.x_Refused hr (takes_of rfl rfl rfl rfl) (pv 1))))))),
    (okSX_seq (okSX_if (okT_test (okE_op okEq (okE_var 0) (okE_C fun _ => .str _))) (okSX_raise1 T.f_InvalidNumber (okE_var 1)) (okSX_of okS_next))
      (okSX_seq (okSX_if (okT_test (okE_op okEq (okE_var 0) (okE_C fun _ => .str _))) (okSX_raise1 T.f_UnknownName (okE_var 1)) (okSX_of okS_next))
      (okSX_seq (okSX_if (okT_test (okE_op okEq (okE_var 0) (okE_C fun _ => .str _))) (okSX_raise1 T.f_TooMany (okE_var 1)) (okSX_of okS_next))
      (okSX_seq (okSX_if (okT_test (okE_op okEq (okE_var 0) (okE_C fun _ => .str _))) (okSX_raise1 T.f_NothingToUndo (okE_var 1)) (okSX_of okS_next))
      (okSX_raise1 T.f_Refused (okE_var 1))))))⟩⟩

abbrev s__law_raise : Stmt := topS 20
abbrev N__law_raise : List Str := ["_law_word", "_law_value"]
theorem sc__law_raise : FnScope N__law_raise ["_law_word", "_law_value"] (defScope s__law_raise) := ⟨rfl, rfl, rfl, by decide +kernel, rfl, by decide +kernel, by decide +kernel⟩
def r__law_raise : RSX :=
  (rSeqX (rIfX (rB (rOp oEq (rVar 0) (rC (.str "row")))) (rRaise0 "InvalidRow" (rVar 1)) (rLift rNext))
  (rSeqX (rIfX (rB (rOp oEq (rVar 0) (rC (.str "lot")))) (rRaise0 "InvalidLot" (rVar 1)) (rLift rNext))
  (rSeqX (rIfX (rB (rOp oEq (rVar 0) (rC (.str "reading")))) (rRaise0 "InvalidReading" (rVar 1)) (rLift rNext))
  (rSeqX (rIfX (rB (rOp oEq (rVar 0) (rC (.str "network")))) (rRaise0 "InvalidNetwork" (rVar 1)) (rLift rNext))
  (rSeqX (rIfX (rB (rOp oEq (rVar 0) (rC (.str "growth")))) (rRaise0 "InvalidGrowth" (rVar 1)) (rLift rNext))
  (rSeqX (rIfX (rB (rOp oEq (rVar 0) (rC (.str "operation")))) (rRaise0 "InvalidOperation" (rVar 1)) (rLift rNext))
  (rSeqX (rIfX (rB (rOp oEq (rVar 0) (rC (.str "text")))) (rRaise0 "InvalidText" (rVar 1)) (rLift rNext))
  (rSeqX (rIfX (rB (rOp oEq (rVar 0) (rC (.str "claim")))) (rRaise0 "InvalidClaim" (rVar 1)) (rLift rNext))
  (rSeqX (rIfX (rB (rOp oEq (rVar 0) (rC (.str "parse")))) (rRaise1 "ParseError" (rVar 1)) (rLift rNext))
  (rSeqX (rIfX (rB (rOp oEq (rVar 0) (rC (.str "ramp")))) (rRaise0 "RampError" (rVar 1)) (rLift rNext))
  (rDropX (rCallX d__law_raise_kept (rCons (rVar 0) (rCons (rVar 1) rNil))))))))))))))
theorem b__law_raise (X__law_raise_kept : FnX P w K mg base ex "_law_raise_kept" 4 d__law_raise_kept) (T : Txt P K mg ex) : BodyX P w K mg base ex 4 "_law_raise" s__law_raise N__law_raise (r__law_raise) := by
  refine fun f E => ⟨_, fun cdv A outer s H hr => ⟨(pss_cons (ps_if (pt_cmpR (ko_eqD K hr.units) (pv 0) pe_str (nomark _)) (pss_one (kx_raise0 T.x_InvalidRow (takes_of rfl rfl rfl rfl) (pv 1))) pss_nil)
      (pss_cons (ps_if (pt_cmpR (ko_eqD K hr.units) (pv 0) pe_str (nomark _)) (pss_one (kx_raise0 T.x_InvalidLot (takes_of rfl rfl rfl rfl) (pv 1))) pss_nil)
      (pss_cons (ps_if (pt_cmpR (ko_eqD K hr.units) (pv 0) pe_str (nomark _)) (pss_one (kx_raise0 T.x_InvalidReading (takes_of rfl rfl rfl rfl) (pv 1))) pss_nil)
      (pss_cons (ps_if (pt_cmpR (ko_eqD K hr.units) (pv 0) pe_str (nomark _)) (pss_one (kx_raise0 T.x_InvalidNetwork (takes_of rfl rfl rfl rfl) (pv 1))) pss_nil)
      (pss_cons (ps_if (pt_cmpR (ko_eqD K hr.units) (pv 0) pe_str (nomark _)) (pss_one (kx_raise0 T.x_InvalidGrowth (takes_of rfl rfl rfl rfl) (pv 1))) pss_nil)
      (pss_cons (ps_if (pt_cmpR (ko_eqD K hr.units) (pv 0) pe_str (nomark _)) (pss_one (kx_raise0 T.x_InvalidOperation (takes_of rfl rfl rfl rfl) (pv 1))) pss_nil)
      (pss_cons (ps_if (pt_cmpR (ko_eqD K hr.units) (pv 0) pe_str (nomark _)) (pss_one (kx_raise0 T.x_InvalidText (takes_of rfl rfl rfl rfl) (pv 1))) pss_nil)
      (pss_cons (ps_if (pt_cmpR (ko_eqD K hr.units) (pv 0) pe_str (nomark _)) (pss_one (kx_raise0 T.x_InvalidClaim (takes_of rfl rfl rfl rfl) (pv 1))) pss_nil)
      (pss_cons (ps_if (pt_cmpR (ko_eqD K hr.units) (pv 0) pe_str (nomark _)) (pss_one (kx_raise1 T.x_ParseError hr (takes_of rfl rfl rfl rfl) (pv 1))) pss_nil)
      (pss_cons (ps_if (pt_cmpR (ko_eqD K hr.units) (pv 0) pe_str (nomark _)) (pss_one (kx_raise0 T.x_RampError (takes_of rfl rfl rfl rfl) (pv 1))) pss_nil)
      (pss_one (ps_expr (kx_call K X__law_raise_kept hr (takes_of rfl rfl rfl rfl) (pa_cons (pv 0) (pa_cons (pv 1) pa_nil))))))))))))))),
    (okSX_seq (okSX_if (okT_test (okE_op okEq (okE_var 0) (okE_C fun _ => .str _))) (okSX_raise0 (nm := "InvalidRow") (okE_var 1)) (okSX_of okS_next))
      (okSX_seq (okSX_if (okT_test (okE_op okEq (okE_var 0) (okE_C fun _ => .str _))) (okSX_raise0 (nm := "InvalidLot") (okE_var 1)) (okSX_of okS_next))
      (okSX_seq (okSX_if (okT_test (okE_op okEq (okE_var 0) (okE_C fun _ => .str _))) (okSX_raise0 (nm := "InvalidReading") (okE_var 1)) (okSX_of okS_next))
      (okSX_seq (okSX_if (okT_test (okE_op okEq (okE_var 0) (okE_C fun _ => .str _))) (okSX_raise0 (nm := "InvalidNetwork") (okE_var 1)) (okSX_of okS_next))
      (okSX_seq (okSX_if (okT_test (okE_op okEq (okE_var 0) (okE_C fun _ => .str _))) (okSX_raise0 (nm := "InvalidGrowth") (okE_var 1)) (okSX_of okS_next))
      (okSX_seq (okSX_if (okT_test (okE_op okEq (okE_var 0) (okE_C fun _ => .str _))) (okSX_raise0 (nm := "InvalidOperation") (okE_var 1)) (okSX_of okS_next))
      (okSX_seq (okSX_if (okT_test (okE_op okEq (okE_var 0) (okE_C fun _ => .str _))) (okSX_raise0 (nm := "InvalidText") (okE_var 1)) (okSX_of okS_next))
      (okSX_seq (okSX_if (okT_test (okE_op okEq (okE_var 0) (okE_C fun _ => .str _))) (okSX_raise0 (nm := "InvalidClaim") (okE_var 1)) (okSX_of okS_next))
      (okSX_seq (okSX_if (okT_test (okE_op okEq (okE_var 0) (okE_C fun _ => .str _))) (okSX_raise1 T.f_ParseError (okE_var 1)) (okSX_of okS_next))
      (okSX_seq (okSX_if (okT_test (okE_op okEq (okE_var 0) (okE_C fun _ => .str _))) (okSX_raise0 (nm := "RampError") (okE_var 1)) (okSX_of okS_next))
      (okSX_drop (okEX_call (okA_cons (okE_var 0) (okA_cons (okE_var 1) okA_nil))))))))))))))⟩⟩


theorem ok__law_raise_kept (a : At K mg "_law_raise_kept" s__law_raise_kept) (T : Txt P K mg ex) : FnX P w K mg base ex "_law_raise_kept" 4 d__law_raise_kept := by
  refine fnX_of a (b__law_raise_kept T) sc__law_raise_kept (fun _ _ _ _ _ _ us hl => match us, hl with | [_, _], _ => rfl) ?_ ?_
  · rintro ds μ k kx ⟨w, nm, v, rfl, _⟩; rfl
  · rintro ds μ k kx ⟨w, nm, v, rfl, hw, h⟩
    simp only [words, List.drop_succ_cons, List.drop_zero, List.mem_cons, List.not_mem_nil, or_false, Prod.mk.injEq, and_true] at hw
    rcases hw with ⟨rfl, rfl⟩ | ⟨rfl, rfl⟩ | ⟨rfl, rfl⟩ | ⟨rfl, rfl⟩ | ⟨rfl, rfl⟩ 
    all_goals
      unfold r__law_raise_kept
      repeat (first | refine ifX_yes rfl (by decide +kernel) ?_ | refine ifX_no rfl (by decide +kernel) (by decide +kernel) (by decide) ?_)
      exact ⟨_, Sub.refl _, h⟩
theorem ok__law_raise (a : At K mg "_law_raise" s__law_raise) (X1 : FnX P w K mg base ex "_law_raise_kept" 4 d__law_raise_kept) (T : Txt P K mg ex) : FnX P w K mg base ex "_law_raise" 5 d__law_raise := by
  refine fnX_of a (b__law_raise X1 T) sc__law_raise (fun _ _ _ _ _ _ us hl => match us, hl with | [_, _], _ => rfl) ?_ ?_
  · rintro ds μ k kx ⟨w, nm, b, v, rfl, _⟩; rfl
  · rintro ds μ k kx ⟨w, nm, b, v, rfl, hw, h⟩
    simp only [words, List.mem_cons, List.not_mem_nil, or_false, Prod.mk.injEq] at hw
    rcases hw with ⟨rfl, rfl, rfl⟩ | ⟨rfl, rfl, rfl⟩ | ⟨rfl, rfl, rfl⟩ | ⟨rfl, rfl, rfl⟩ | ⟨rfl, rfl, rfl⟩ | ⟨rfl, rfl, rfl⟩ | ⟨rfl, rfl, rfl⟩ | ⟨rfl, rfl, rfl⟩ | ⟨rfl, rfl, rfl⟩ | ⟨rfl, rfl, rfl⟩ | ⟨rfl, rfl, rfl⟩ | ⟨rfl, rfl, rfl⟩ | ⟨rfl, rfl, rfl⟩ | ⟨rfl, rfl, rfl⟩ | ⟨rfl, rfl, rfl⟩
    all_goals
      unfold r__law_raise
      repeat (first | refine ifX_yes rfl (by decide +kernel) ?_ | refine ifX_no rfl (by decide +kernel) (by decide +kernel) (by decide) ?_)
      first
        | exact ⟨_, Sub.refl _, h⟩
        | exact ⟨_, _, _, rfl, by simp, _, Sub.refl _, h⟩
end
end K00


set_option Elab.async false
set_option linter.all false
set_option maxRecDepth 100000
set_option maxHeartbeats 4000000
namespace K00
open PySem PySem.Spec PyProof.Rows L2 SlX DL
/-! the law's draws -/
def Sm (b : Nat) (x : Int) : Prop := x.natAbs < 2 ^ b
theorem Sm.mono {a b : Nat} {x : Int} (h : Sm a x) (l : a ≤ b) : Sm b x := Nat.lt_of_lt_of_le h (Nat.pow_le_pow_right (by decide) l)
theorem sm_mulW {a b : Nat} {x y : Int} (hx : Sm a x) (hy : Sm b y) (ha : 0 < a) (hb : 0 < b) (h : a + b ≤ 1000000) : CMulW x y := by
  have h1 := PySem.Flt.log2_lt_of ha hx
  have h2 := PySem.Flt.log2_lt_of hb hy
  unfold CMulW
  omega
theorem sm_mod {i j : Int} {b : Nat} (hj : 0 < j) (h : j ≤ 2 ^ b) : Sm b (i % j) := by
  have h1 := Int.emod_nonneg i (by omega : j ≠ 0)
  have h2 := Int.emod_lt_of_pos i hj
  unfold Sm
  have e : ((2 : Int) ^ b) = ((2 ^ b : Nat) : Int) := by simp
  omega
theorem sm_le {b : Nat} {i j : Int} (h0 : 0 ≤ i) (h : i ≤ j) (hj : Sm b j) : Sm b i := by unfold Sm at *; omega
theorem ixN_nat {p m : Nat} (h : p < m) : ixN m (p : Int) = some p := by
  unfold ixN
  rw [if_pos (by omega), if_pos (by omega)]
  simp
/-- the pail: the drawn numbers are any -/
def VOk (vs : List D) (N : Nat) : Prop := ∃ a b c : Int, vs = [.int a, .int b, .int c] ∧ 0 ≤ a ∧ Sm 2000 a ∧ Sm 100 b ∧ 0 ≤ c ∧ c ≤ N
theorem VOk.mono {vs : List D} {N M : Nat} (h : VOk vs N) (l : N ≤ M) : VOk vs M := by
  obtain ⟨a, b, c, h1, h2, h3, h4, h5, h6⟩ := h
  exact ⟨a, b, c, h1, h2, h3, h4, h5, by omega⟩
def d__law_pail : DSp := fun ds μ k => ∃ ns i, ds = [.scr ns, .int i] ∧ 0 ≤ i ∧ i < 1000 ∧ ∀ p vs, μ p = none → VOk vs 0 → k (.own p) (muSet μ p (.l vs))
def d__law_scooped : DSp := fun ds μ k => ∃ p t N vs, ds = [.own p, .int t] ∧ μ p = some (.l vs) ∧ VOk vs N ∧ 0 < t ∧ Sm 1000 t ∧ N < 2 ^ 30 ∧ ∀ r vs', 0 ≤ r → r < t → VOk vs' (N + 1) → k (.int r) (muSet μ p (.l vs'))
def d__law_any_of : DSp := fun ds μ k => ∃ p is N vs, ds = [.own p, .lst is] ∧ μ p = some (.l vs) ∧ VOk vs N ∧ is ≠ [] ∧ is.length ≤ 1000 ∧ N < 2 ^ 30 ∧ ∀ d vs', d ∈ is → VOk vs' (N + 1) → k d (muSet μ p (.l vs'))
section
variable {P : Program} {w : World} {K : PySem.W.Frag} {mg : Str → Option Value} {base : Heap} {ex : ExMap}
abbrev s__law_pail : Stmt := topS 17
abbrev N__law_pail : List Str := ["_law_script", "_law_spot", "_law_cell", "_law_great", "_law_seed"]
theorem sc__law_pail : FnScope N__law_pail ["_law_script", "_law_spot"] (defScope s__law_pail) := ⟨rfl, rfl, rfl, by decide +kernel, rfl, by decide +kernel, by decide +kernel⟩
def r__law_pail : RS :=
  (rSeq (rAsg (rIf (rB (rOp (oB (fun i j => decide (i < j))) (rVar 1) (rCB oLen (rCons (rVar 0) rNil)))) (rCB oInt (rCons (rOp oIxS (rVar 0) (rVar 1)) rNil)) (rOp (oI fun i j => i + j) (rOp (oIc CMulW fun i j => i * j) (rC (.int 167)) (rVar 1)) (rC (.int 59)))) (rgName 2))
  (rSeq (rAsg (rOp (oIc (fun _ j => 0 < j) fun i j => i % j) (rCB oAbs (rCons (rVar 2) rNil)) (rOp (oIc CPowW fun i j => i ^ j.toNat) (rOp (oIc CPowW fun i j => i ^ j.toNat) (rC (.int 10)) (rC (.int 57))) (rC (.int 7)))) (rgName 3))
  (rSeq (rAsg (rCB oInt (rCons (rOp (oI fun i j => i + j) (rOp (oI fun i j => i + j) (rOp (oI fun i j => i + j) (rOp (oIc CMulW fun i j => i * j) (rOp (oIc (fun _ j => 0 < j) fun i j => i % j) (rVar 3) (rC (.int 2305843009213693921))) (rC (.int 61))) (rOp (oIc CMulW fun i j => i * j) (rC (.int 6473)) (rVar 1))) (rOp (oIc CMulW fun i j => i * j) (rC (.int 31)) (rCB oInt (rCons (rOp (oB (fun i j => decide (i < j))) (rVar 2) (rC (.int 0))) rNil)))) (rC (.int 89))) rNil)) (rgName 4))
  (rRet (rLstO (rCons (rCB (o2I fun i j => if j > i then j else i) (rCons (rC (.int 0)) (rCons (rOp (oI fun i j => i - j) (rVar 3) (rOp (oIc CPowW fun i j => i ^ j.toNat) (rC (.int 10)) (rC (.int 16)))) rNil))) (rCons (rOp (oIc (fun _ j => 0 < j) fun i j => i % j) (rVar 4) (rC (.int 2305843009213693951))) (rCons (rC (.int 0)) rNil))))))))
theorem b__law_pail (T : Txt P K mg ex) : Body P w K mg base 0 "_law_pail" s__law_pail N__law_pail (r__law_pail) := by
  refine fun f => ⟨_, fun cdv A outer s H E hr => ⟨(pss_cons (ps_set (i := 2) sc__law_pail.nd rfl (Or.inl rfl) (pe_ifExp (pt_cmpR op_lt (pv 1) (kb_call (kc_len K) T.b_len (pa_cons (pv 0) pa_nil)) (nomark _)) (kt_call call_int1 T.b_int (pa_cons (pe_ix (kx_list K) (pv 0) (pv 1) (fun _ _ => rfl)) pa_nil)) (pe_op op_add (pe_op op_mulW pe_int (pv 1)) pe_int)))
      (pss_cons (ps_set (i := 3) sc__law_pail.nd rfl (Or.inl rfl) (pe_op op_mod (kb_call call_abs T.b_abs (pa_cons (pv 2) pa_nil)) (pe_op op_powW (pe_op op_powW pe_int pe_int) pe_int)))
      (pss_cons (ps_set (i := 4) sc__law_pail.nd rfl (Or.inl rfl) (kt_call call_int1 T.b_int (pa_cons (pe_op op_add (pe_op op_add (pe_op op_add (pe_op op_mulW (pe_op op_mod (pv 3) pe_int) pe_int) (pe_op op_mulW pe_int (pv 1))) (pe_op op_mulW pe_int (kt_call call_int1 T.b_int (pa_cons (pe_cmpR op_lt (pv 2) pe_int (nomark _)) pa_nil)))) pe_int) pa_nil)))
      (pss_one (ps_ret (pe_lst (pa_cons (kb_call (call_max2 rfl) T.b_max (pa_cons pe_int (pa_cons (pe_op op_sub (pv 3) (pe_op op_powW pe_int pe_int)) pa_nil))) (pa_cons (pe_op op_mod (pv 4) pe_int) (pa_cons pe_int pa_nil))))))))),
    (okS_seq (okS_asg (okE_if (okT_test (okE_op okB (okE_var 1) (okE_CB okLen (okA_cons (okE_var 0) okA_nil)))) (okE_CB okInt (okA_cons (okE_op okIxS (okE_var 0) (okE_var 1)) okA_nil)) (okE_op okI (okE_op okIc (okE_C fun _ => .int _) (okE_var 1)) (okE_C fun _ => .int _))) (okG_name 2))
      (okS_seq (okS_asg (okE_op okIc (okE_CB okAbs (okA_cons (okE_var 2) okA_nil)) (okE_op okIc (okE_op okIc (okE_C fun _ => .int _) (okE_C fun _ => .int _)) (okE_C fun _ => .int _))) (okG_name 3))
      (okS_seq (okS_asg (okE_CB okInt (okA_cons (okE_op okI (okE_op okI (okE_op okI (okE_op okIc (okE_op okIc (okE_var 3) (okE_C fun _ => .int _)) (okE_C fun _ => .int _)) (okE_op okIc (okE_C fun _ => .int _) (okE_var 1))) (okE_op okIc (okE_C fun _ => .int _) (okE_CB okInt (okA_cons (okE_op okB (okE_var 2) (okE_C fun _ => .int _)) okA_nil)))) (okE_C fun _ => .int _)) okA_nil)) (okG_name 4))
      (okS_ret (okE_lstO (okA_cons (okE_CB ok2I (okA_cons (okE_C fun _ => .int _) (okA_cons (okE_op okI (okE_var 3) (okE_op okIc (okE_C fun _ => .int _) (okE_C fun _ => .int _))) okA_nil))) (okA_cons (okE_op okIc (okE_var 4) (okE_C fun _ => .int _)) (okA_cons (okE_C fun _ => .int _) okA_nil))))))))⟩⟩

abbrev s__law_scooped : Stmt := topS 18
abbrev N__law_scooped : List Str := ["_law_pail_here", "_law_total", "_law_one", "_law_two", "_law_found"]
theorem sc__law_scooped : FnScope N__law_scooped ["_law_pail_here", "_law_total"] (defScope s__law_scooped) := ⟨rfl, rfl, rfl, by decide +kernel, rfl, by decide +kernel, by decide +kernel⟩
def r__law_scooped : RS :=
  (rSeq (rIfS (rB (rOp (oB (fun i j => decide (j < i))) (rOp oIx (rVar 0) (rC (.int 0))) (rC (.int 0)))) (rSeq (rAsg (rOp (oIc (fun _ j => 0 < j) fun i j => i % j) (rCB oInt (rCons (rOp oIx (rVar 0) (rC (.int 0))) rNil)) (rVar 1)) (rgName 4))
  (rSeq (rAsg (rOp (oIc CDivW fun i j => i / j) (rOp oIx (rVar 0) (rC (.int 0))) (rVar 1)) (rgSetL (rVar 0) (rC (.int 0))))
  (rRet (rVar 4)))) rNext)
  (rSeq (rAsg (rOp (oI fun i j => i + j) (rOp oIx (rVar 0) (rC (.int 2))) (rC (.int 1))) (rgSetL (rVar 0) (rC (.int 2))))
  (rSeq (rAsg (rOp (oIc (fun _ j => 0 < j) fun i j => i % j) (rCB oInt (rCons (rOp (oI fun i j => i + j) (rOp oIx (rVar 0) (rC (.int 1))) (rOp (oIc CMulW fun i j => i * j) (rC (.int 67867979)) (rOp oIx (rVar 0) (rC (.int 2))))) rNil)) (rC (.int 2305843009213693951))) (rgName 2))
  (rSeq (rAsg (rOp (oI fun i j => i + j) (rOp (oI fun i j => i + j) (rOp (oIc CMulW fun i j => i * j) (rOp (oIc (fun _ j => 0 < j) fun i j => i % j) (rCB oInt (rCons (rOp (oI fun i j => i + j) (rOp (oIc CMulW fun i j => i * j) (rVar 2) (rVar 2)) (rC (.int 49979687))) rNil)) (rC (.int 2305843009213693907))) (rC (.int 86028121))) (rVar 2)) (rOp (oIc CMulW fun i j => i * j) (rC (.int 23)) (rOp oIx (rVar 0) (rC (.int 2))))) (rgName 3))
  (rRet (rOp (oIc (fun _ j => 0 < j) fun i j => i % j) (rCB oInt (rCons (rOp (oIc CDivW fun i j => i / j) (rVar 3) (rC (.int 65537))) rNil)) (rVar 1)))))))
theorem b__law_scooped (T : Txt P K mg ex) : Body P w K mg base 1 "_law_scooped" s__law_scooped N__law_scooped (r__law_scooped) := by
  refine fun f => ⟨_, fun cdv A outer s H E hr => ⟨(pss_cons (ps_if (pt_cmpR op_gt (pe_ix (kx_seq K) (pv 0) pe_int (fun _ _ => rfl)) pe_int (nomark _)) (pss_cons (ps_set (i := 4) sc__law_scooped.nd rfl (Or.inl rfl) (pe_op op_mod (kt_call call_int1 T.b_int (pa_cons (pe_ix (kx_seq K) (pv 0) pe_int (fun _ _ => rfl)) pa_nil)) (pv 1)))
      (pss_cons (ps_asg (pe_op op_fdivW (pe_ix (kx_seq K) (pv 0) pe_int (fun _ _ => rfl)) (pv 1)) (pg_sub (pv 0) pe_int set_list))
      (pss_one (ps_ret (pv 4))))) pss_nil)
      (pss_cons (ps_asg (pe_op op_add (pe_ix (kx_seq K) (pv 0) pe_int (fun _ _ => rfl)) pe_int) (pg_sub (pv 0) pe_int set_list))
      (pss_cons (ps_set (i := 2) sc__law_scooped.nd rfl (Or.inl rfl) (pe_op op_mod (kt_call call_int1 T.b_int (pa_cons (pe_op op_add (pe_ix (kx_seq K) (pv 0) pe_int (fun _ _ => rfl)) (pe_op op_mulW pe_int (pe_ix (kx_seq K) (pv 0) pe_int (fun _ _ => rfl)))) pa_nil)) pe_int))
      (pss_cons (ps_set (i := 3) sc__law_scooped.nd rfl (Or.inl rfl) (pe_op op_add (pe_op op_add (pe_op op_mulW (pe_op op_mod (kt_call call_int1 T.b_int (pa_cons (pe_op op_add (pe_op op_mulW (pv 2) (pv 2)) pe_int) pa_nil)) pe_int) pe_int) (pv 2)) (pe_op op_mulW pe_int (pe_ix (kx_seq K) (pv 0) pe_int (fun _ _ => rfl)))))
      (pss_one (ps_ret (pe_op op_mod (kt_call call_int1 T.b_int (pa_cons (pe_op op_fdivW (pv 3) pe_int) pa_nil)) (pv 1)))))))),
    (okS_seq (okS_if (okT_test (okE_op okB (okE_op okIx (okE_var 0) (okE_C fun _ => .int _)) (okE_C fun _ => .int _))) (okS_seq (okS_asg (okE_op okIc (okE_CB okInt (okA_cons (okE_op okIx (okE_var 0) (okE_C fun _ => .int _)) okA_nil)) (okE_var 1)) (okG_name 4))
      (okS_seq (okS_asg (okE_op okIc (okE_op okIx (okE_var 0) (okE_C fun _ => .int _)) (okE_var 1)) (okG_setL (okE_var 0) (okE_C fun _ => .int _)))
      (okS_ret (okE_var 4)))) okS_next)
      (okS_seq (okS_asg (okE_op okI (okE_op okIx (okE_var 0) (okE_C fun _ => .int _)) (okE_C fun _ => .int _)) (okG_setL (okE_var 0) (okE_C fun _ => .int _)))
      (okS_seq (okS_asg (okE_op okIc (okE_CB okInt (okA_cons (okE_op okI (okE_op okIx (okE_var 0) (okE_C fun _ => .int _)) (okE_op okIc (okE_C fun _ => .int _) (okE_op okIx (okE_var 0) (okE_C fun _ => .int _)))) okA_nil)) (okE_C fun _ => .int _)) (okG_name 2))
      (okS_seq (okS_asg (okE_op okI (okE_op okI (okE_op okIc (okE_op okIc (okE_CB okInt (okA_cons (okE_op okI (okE_op okIc (okE_var 2) (okE_var 2)) (okE_C fun _ => .int _)) okA_nil)) (okE_C fun _ => .int _)) (okE_C fun _ => .int _)) (okE_var 2)) (okE_op okIc (okE_C fun _ => .int _) (okE_op okIx (okE_var 0) (okE_C fun _ => .int _)))) (okG_name 3))
      (okS_ret (okE_op okIc (okE_CB okInt (okA_cons (okE_op okIc (okE_var 3) (okE_C fun _ => .int _)) okA_nil)) (okE_var 1)))))))⟩⟩

abbrev s__law_any_of : Stmt := topS 19
abbrev N__law_any_of : List Str := ["_law_pail_here", "_law_items"]
theorem sc__law_any_of : FnScope N__law_any_of ["_law_pail_here", "_law_items"] (defScope s__law_any_of) := ⟨rfl, rfl, rfl, by decide +kernel, rfl, by decide +kernel, by decide +kernel⟩
def r__law_any_of : RS :=
  (rRet (rOp oIx (rVar 1) (rCall d__law_scooped (rCons (rVar 0) (rCons (rCB oLen (rCons (rVar 1) rNil)) rNil)))))
theorem b__law_any_of (F__law_scooped : FnD P w K mg base "_law_scooped" 2 d__law_scooped) (T : Txt P K mg ex) : Body P w K mg base 2 "_law_any_of" s__law_any_of N__law_any_of (r__law_any_of) := by
  refine fun f => ⟨_, fun cdv A outer s H E hr => ⟨(pss_one (ps_ret (pe_ix (kx_seq K) (pv 1) (ke_call K F__law_scooped hr (pa_cons (pv 0) (pa_cons (kb_call (kc_len K) T.b_len (pa_cons (pv 1) pa_nil)) pa_nil))) (fun _ _ => rfl)))),
    (okS_ret (okE_op okIx (okE_var 1) (okE_call (okA_cons (okE_var 0) (okA_cons (okE_CB okLen (okA_cons (okE_var 1) okA_nil)) okA_nil)))))⟩⟩



/-- the pail's making, whichever constants it has -/
theorem pail_fin {G c1 c2 c3 c4 M Z T : Int} (n i : Int) (hG : 0 < G) (hG2 : G ≤ 2 ^ 1400) (hM : 0 < M) (hM2 : M ≤ 2 ^ 62) (hZ : 0 < Z) (hZ2 : Z ≤ 2 ^ 62) (hT : 0 < T) (h1 : 0 ≤ c1 ∧ c1 < 2 ^ 20) (h2 : 0 ≤ c2 ∧ c2 < 2 ^ 20) (h3 : 0 ≤ c3 ∧ c3 < 2 ^ 20) (i0 : 0 ≤ i) (i1 : i < 1000) :
    CMulW ((if n < 0 then -n else n) % G % M) c1 ∧ CMulW c2 i ∧ CMulW c3 (if n < 0 then 1 else 0) ∧
    ∀ q : Int, VOk [D.int (if T < (if n < 0 then -n else n) % G then (if n < 0 then -n else n) % G - T else 0), D.int (q % Z), D.int 0] 0 := by
  have g0 : 0 ≤ (if n < 0 then -n else n) % G := Int.emod_nonneg _ (by omega)
  have g1 : Sm 1400 ((if n < 0 then -n else n) % G) := sm_mod hG hG2
  generalize (if n < 0 then -n else n) % G = y at g0 g1 ⊢
  have m2 : Sm 62 (y % M) := sm_mod hM hM2
  have q1 : Sm 10 i := by unfold Sm; omega
  have s1 : Sm 1 (if n < 0 then (1 : Int) else 0) := by unfold Sm; split <;> decide
  have k1 : Sm 20 c1 := by unfold Sm; omega
  have k2 : Sm 20 c2 := by unfold Sm; omega
  have k3 : Sm 20 c3 := by unfold Sm; omega
  refine ⟨sm_mulW m2 k1 (by omega) (by omega) (by omega), sm_mulW k2 q1 (by omega) (by omega) (by omega), sm_mulW k3 s1 (by omega) (by omega) (by omega), fun q => ⟨_, _, _, rfl, ?_, ?_, ?_, by omega, by omega⟩⟩
  · split <;> omega
  · have g2 := g1.mono (b := 2000) (by omega)
    split
    · exact sm_le (by omega) (by omega) g2
    · unfold Sm; exact Nat.pos_of_ne_zero (by simp)
  · exact (sm_mod hZ hZ2).mono (by omega)
theorem pail_use {X : Prop} {G c1 c2 c3 c4 M Z T : Int} {μ : Mu} {k : DK} (n i : Int) (hX : X) (i0 : 0 ≤ i) (i1 : i < 1000) (h : ∀ p vs, μ p = none → VOk vs 0 → k (.own p) (muSet μ p (.l vs))) (hG : 0 < G) (hG2 : G ≤ 2 ^ 1400) (hM : 0 < M) (hM2 : M ≤ 2 ^ 62) (hZ : 0 < Z) (hZ2 : Z ≤ 2 ^ 62) (hT : 0 < T) (h1 : 0 ≤ c1 ∧ c1 < 2 ^ 20) (h2 : 0 ≤ c2 ∧ c2 < 2 ^ 20) (h3 : 0 ≤ c3 ∧ c3 < 2 ^ 20) :
    CMulW ((if n < 0 then -n else n) % G % M) c1 ∧ CMulW c2 i ∧ CMulW c3 (if n < 0 then 1 else 0) ∧ X ∧ ∀ p, μ p = none → k (.own p) (muSet μ p (.l [D.int (if T < (if n < 0 then -n else n) % G then (if n < 0 then -n else n) % G - T else 0),
      D.int (((if n < 0 then -n else n) % G % M * c1 + c2 * i + c3 * (if n < 0 then 1 else 0) + c4) % Z), D.int 0])) := by
  obtain ⟨a1, a2, a3, a4⟩ := pail_fin (c4 := c4) n i hG hG2 hM hM2 hZ hZ2 hT h1 h2 h3 i0 i1
  exact ⟨a1, a2, a3, hX, fun p hp => h p _ hp (a4 _)⟩
theorem ok__law_pail (a : At K mg "_law_pail" s__law_pail) (T : Txt P K mg ex) : FnD P w K mg base "_law_pail" 1 d__law_pail := by
  refine fnD_of a (b__law_pail T) sc__law_pail (fun _ _ _ _ _ _ us hl => match us, hl with | [_, _], _ => rfl) ?_ ?_
  · rintro ds μ k ⟨ns, i, rfl, _⟩; rfl
  · rintro ds μ k ⟨ns, i, rfl, h0, h1, h⟩
    have p1 : CPowW 10 57 := ⟨by decide, by decide, by decide +kernel⟩
    have p2 : CPowW 1000000000000000000000000000000000000000000000000000000000 7 := ⟨by decide, by decide, by decide +kernel⟩
    have p3 : CPowW 10 16 := ⟨by decide, by decide, by decide +kernel⟩
    simp [r__law_pail]
    split
    · rename_i hi
      obtain ⟨j, rfl⟩ : ∃ j : Nat, i = (j : Int) := ⟨i.toNat, by omega⟩
      have hj : j < ns.length := by omega
      refine ⟨ns[j], by unfold atI; rw [ixN_nat hj]; simp, p1, p2, ?_⟩
      apply pail_use ns[j] j p3 h0 h1 h
      all_goals first | decide | decide +kernel
    · have i1 : Sm 10 i := by unfold Sm; omega
      refine ⟨sm_mulW (a := 20) (by unfold Sm; decide) i1 (by omega) (by omega) (by omega), p1, p2, ?_⟩
      apply pail_use _ i p3 h0 h1 h
      all_goals first | decide | decide +kernel
@[simp] theorem at3_0 {α : Type} {x y z : α} : atI [x, y, z] 0 = some x := rfl
@[simp] theorem at3_1 {α : Type} {x y z : α} : atI [x, y, z] 1 = some y := rfl
@[simp] theorem at3_2 {α : Type} {x y z : α} : atI [x, y, z] 2 = some z := rfl
@[simp] theorem ix3_0 : ixN 3 0 = some 0 := rfl
@[simp] theorem ix3_2 : ixN 3 2 = some 2 := rfl
theorem ok__law_scooped (a : At K mg "_law_scooped" s__law_scooped) (T : Txt P K mg ex) : FnD P w K mg base "_law_scooped" 2 d__law_scooped := by
  refine fnD_of a (b__law_scooped T) sc__law_scooped (fun _ _ _ _ _ _ us hl => match us, hl with | [_, _], _ => rfl) ?_ ?_
  · rintro ds μ k ⟨p, t, N, vs, rfl, _⟩; rfl
  · rintro ds μ k ⟨p, t, N, vs, rfl, hp, ⟨a, b, c, rfl, v1, v2, v3, v4, v5⟩, t0, t1, hN, h⟩
    simp [r__law_scooped, hp, muSet_same]
    have dt : CDivW a t := ⟨t0, by have := PySem.Flt.log2_lt_of (by decide : 0 < 1000) t1; omega⟩
    split
    · refine ⟨t0, dt, h _ _ (Int.emod_nonneg _ (by omega)) (Int.emod_lt_of_pos _ t0) ⟨_, _, _, rfl, Int.ediv_nonneg v1 (by omega), sm_le (Int.ediv_nonneg v1 (by omega)) (Int.ediv_le_self _ v1) v2, v3, v4, by omega⟩⟩
    · have c1 : Sm 31 (c + 1) := by unfold Sm; omega
      have q1 : Sm 61 ((b + 67867979 * (c + 1)) % 2305843009213693951) := sm_mod (by decide) (by decide)
      have q2 : ∀ z : Int, Sm 61 (z % 2305843009213693907) := fun z => sm_mod (by decide) (by decide)
      refine ⟨sm_mulW (a := 30) (by unfold Sm; decide) c1 (by omega) (by omega) (by omega), sm_mulW q1 q1 (by omega) (by omega) (by omega),
        sm_mulW (b := 30) (q2 _) (by unfold Sm; decide) (by omega) (by omega) (by omega), sm_mulW (a := 30) (by unfold Sm; decide) c1 (by omega) (by omega) (by omega), ⟨by decide, by decide +kernel⟩, t0, h _ _ (Int.emod_nonneg _ (by omega)) (Int.emod_lt_of_pos _ t0) ⟨_, _, _, rfl, v1, v2, v3, by omega, by omega⟩⟩
theorem ok__law_any_of (a : At K mg "_law_any_of" s__law_any_of) (F : FnD P w K mg base "_law_scooped" 2 d__law_scooped) (T : Txt P K mg ex) : FnD P w K mg base "_law_any_of" 3 d__law_any_of := by
  refine fnD_of a (b__law_any_of F T) sc__law_any_of (fun _ _ _ _ _ _ us hl => match us, hl with | [_, _], _ => rfl) ?_ ?_
  · rintro ds μ k ⟨p, is, N, vs, rfl, _⟩; rfl
  · rintro ds μ k ⟨p, is, N, vs, rfl, hp, hv, h1, h2, hN, h⟩
    have hl : 0 < is.length := List.length_pos_iff.mpr h1
    have hs : Sm 1000 (is.length : Int) := by
      have : Sm 20 (is.length : Int) := by unfold Sm; omega
      exact this.mono (by omega)
    simp [-List.map_map, r__law_any_of]
    refine ⟨p, _, N, vs, rfl, hp, hv, by omega, hs, hN, fun r vs' r0 r1 hv' => ?_⟩
    obtain ⟨j, rfl⟩ : ∃ j : Nat, r = (j : Int) := ⟨r.toNat, by omega⟩
    have hj : j < is.length := by omega
    exact ⟨is[j], ⟨_, rfl, by unfold atI; rw [ixN_nat hj]; simp⟩, h _ _ (List.getElem_mem hj) hv'⟩
end
end K00


set_option Elab.async false
set_option linter.all false
set_option maxRecDepth 100000
set_option maxHeartbeats 4000000
namespace K00
open PySem PySem.Spec PyProof.Rows L2 SlX DL L2H
/-! ### the def that the suites hand their errors to -/
abbrev s__law_roots : Stmt := topS 22
abbrev N__law_roots : List Str := ["_law_error", "_law_found"]
theorem sc__law_roots : FnScope N__law_roots ["_law_error"] (defScope s__law_roots) := ⟨rfl, rfl, rfl, by decide +kernel, rfl, by decide +kernel, by decide +kernel⟩
/-- what it tells -/
def told (nm : Str) : D := .lst ((rootsOf nm).map D.bl)
def bit (nm : Str) (i : Nat) : Bool := (rootsOf nm).getD i false
def r__law_roots (a : Addr) (dd : Option Addr) (nm : Str) : RS :=
  (rSeq (rAsg (rLst (rCons (rIsX a dd (bit nm 0) (rVar 0)) (rCons (rIsX a dd (bit nm 1) (rVar 0)) (rCons (rIsX a dd (bit nm 2) (rVar 0)) rNil)))) (rgName 1))
  (rSeq (rAsg (rOp oCat (rVar 1) (rLst (rCons (rIsX a dd (bit nm 3) (rVar 0)) (rCons (rIsX a dd (bit nm 4) (rVar 0)) rNil)))) (rgName 1))
  (rRet (rOp oCat (rVar 1) (rLst (rCons (rIsX a dd (bit nm 5) (rVar 0)) (rCons (rIsX a dd (bit nm 6) (rVar 0)) rNil)))))))
section
variable {P : Program} {w : World} {K : PySem.W.Frag} {mg : Str → Option Value} {base : Heap} {ex : ExMap}
theorem tellT {n : String} : ∀ u, RelV (.ty n) u → u = .type n := fun _ h => h
theorem tellR {a : Addr} : ∀ u, RelV (.ref a) u → u = .ref a := fun _ h => h
theorem b__law_roots (T : Txt P K mg ex) {nm : Str} (hn : nm ∈ errs) {a : Addr} {dd : Option Addr} : BodyQ P w K mg 5 "_law_roots" s__law_roots N__law_roots (ex.at_ nm) a dd (r__law_roots a dd nm) := by
  refine fun f => ⟨_, fun base oe fs cdv A frames s H p at_ hc hd hf room => ⟨(pss_cons (ps_set (i := 1) sc__law_roots.nd rfl (Or.inl rfl) (pe_lst (pa_cons (kb_call (kc_isQ (T.exc nm hn) at_ hc hd hf) T.b_isinstance (pa_cons (pv 0) (pa_cons (kb_ty (T := "ValueError") T.b_ValueError) pa_nil))) (pa_cons (kb_call (kc_isQ (T.exc nm hn) at_ hc hd hf) T.b_isinstance (pa_cons (pv 0) (pa_cons (kb_ty (T := "IndexError") T.b_IndexError) pa_nil))) (pa_cons (kb_call (kc_isQ (T.exc nm hn) at_ hc hd hf) T.b_isinstance (pa_cons (pv 0) (pa_cons (kb_ty (T := "KeyError") T.b_KeyError) pa_nil))) pa_nil)))))
      (pss_cons (ps_set (i := 1) sc__law_roots.nd rfl (Or.inl rfl) (pe_op op_cat (pv 1) (pe_lst (pa_cons (kb_call (kc_isQ (T.exc nm hn) at_ hc hd hf) T.b_isinstance (pa_cons (pv 0) (pa_cons (kb_ty (T := "OverflowError") T.b_OverflowError) pa_nil))) (pa_cons (kb_call (kc_isQ (T.exc nm hn) at_ hc hd hf) T.b_isinstance (pa_cons (pv 0) (pa_cons (kb_ty (T := "ArithmeticError") T.b_ArithmeticError) pa_nil))) pa_nil)))))
      (pss_one (ps_ret (pe_op op_cat (pv 1) (pe_lst (pa_cons (kb_call (kc_isQ (T.exc nm hn) at_ hc hd hf) T.b_isinstance (pa_cons (pv 0) (pa_cons (kb_ty (T := "LookupError") T.b_LookupError) pa_nil))) (pa_cons (kb_call (kc_isQ (T.exc nm hn) at_ hc hd hf) T.b_isinstance (pa_cons (pv 0) (pa_cons (ke_globP T.x_RampError.gC (v := .ref (ex.at_ "RampError")) rfl) pa_nil))) pa_nil)))))))),
    (okS_seq (okS_asg (okE_lst (okA_cons (okE_isX (T.kit0 nm hn) tellT (okE_var 0)) (okA_cons (okE_isX (T.kit1 nm hn) tellT (okE_var 0)) (okA_cons (okE_isX (T.kit2 nm hn) tellT (okE_var 0)) okA_nil)))) (okG_name 1))
      (okS_seq (okS_asg (okE_op okCat (okE_var 1) (okE_lst (okA_cons (okE_isX (T.kit3 nm hn) tellT (okE_var 0)) (okA_cons (okE_isX (T.kit4 nm hn) tellT (okE_var 0)) okA_nil)))) (okG_name 1))
      (okS_ret (okE_op okCat (okE_var 1) (okE_lst (okA_cons (okE_isX (T.kit5 nm hn) tellT (okE_var 0)) (okA_cons (okE_isX (T.kit6 nm hn) tellR (okE_var 0)) okA_nil)))))))⟩⟩
theorem roots_bits {nm : Str} (hn : nm ∈ errs) : [D.bl (bit nm 0), .bl (bit nm 1), .bl (bit nm 2), .bl (bit nm 3), .bl (bit nm 4), .bl (bit nm 5), .bl (bit nm 6)] = (rootsOf nm).map D.bl := by
  have all : ∀ x ∈ errs, (rootsOf x) = [bit x 0, bit x 1, bit x 2, bit x 3, bit x 4, bit x 5, bit x 6] := by decide +kernel
  rw [all nm hn]
  rfl
theorem vc__law_roots {nm : Str} (hn : nm ∈ errs) {a : Addr} {dd : Option Addr} (y : D) (μ : Mu) (k : DK) (iy : isErr a dd y) (h : k (told nm) μ) : r__law_roots a dd nm { nx := fun _ μ' => k .non μ', rt := k } (startD N__law_roots [y]) μ := by
  unfold told at h
  rw [← roots_bits hn] at h
  simp [r__law_roots, iy]
  exact h
end
end K00


set_option Elab.async false
set_option linter.all false
set_option maxRecDepth 100000
set_option maxHeartbeats 4000000
namespace K00
open PySem PySem.Spec PyProof.Rows L2 SlX DL L2H
/-! ### what is caught -/
/-- the text that repr tells -/
def Shows (v : D) (s : Str) : Prop := ∀ (μ : Mu) (k : DK), k (.str s) μ → oReprE [v] μ k
def d__law_caught : DSp := fun ds μ k => ∃ w nm b v s, ds = [.str w, v] ∧ (w, nm, b) ∈ words ∧ (if b = true then Shows v s else s = "") ∧ k (.tup [.str w, .str s, told nm]) μ
abbrev s__law_caught : Stmt := topS 23
abbrev N__law_caught : List Str := ["_law_word", "_law_value", "_law_error"]
theorem sc__law_caught : FnScope N__law_caught ["_law_word", "_law_value"] (defScope s__law_caught) := ⟨rfl, rfl, rfl, by decide +kernel, rfl, by decide +kernel, by decide +kernel⟩
def rRts (nm : Str) (a : Addr) (d : Option Addr) : RE := fun δ μ k => nm ∈ errs ∧ rCall (dErr a d (told nm)) (rCons (rVar 2) rNil) δ μ k
def suZ (w nm : Str) (a : Addr) (d : Option Addr) : RS := rRet (rTup (rCons (rC (.str w)) (rCons (rC (.str "")) (rCons (rRts nm a d) rNil))))
def suF (ex : ExMap) (w cn nm : Str) (a : Addr) (d : Option Addr) : RS := rRet (rTup (rCons (rC (.str w)) (rCons (rCB oReprE (rCons (rErr ex cn nm a d (rVar 2)) rNil)) (rCons (rRts nm a d) rNil))))
def cls (ex : ExMap) : List DClause := [("InvalidRow", some 2, suZ "row"), ("InvalidLot", some 2, suZ "lot"), ("InvalidReading", some 2, suZ "reading"), ("InvalidNetwork", some 2, suZ "network"), ("InvalidGrowth", some 2, suZ "growth"), ("InvalidOperation", some 2, suZ "operation"), ("InvalidText", some 2, suZ "text"), ("InvalidClaim", some 2, suZ "claim"), ("ParseError", some 2, suF ex "parse" "ParseError"), ("RampError", some 2, suZ "ramp"), ("InvalidNumber", some 2, suF ex "number" "InvalidNumber"), ("UnknownName", some 2, suF ex "unknown" "UnknownName"), ("NothingToUndo", some 2, suF ex "undo" "NothingToUndo"), ("TooMany", some 2, suF ex "many" "TooMany"), ("Refused", some 2, suF ex "refused" "Refused")]
def tRts (K : PySem.W.Frag) (ex : ExMap) (a : Addr) (cls : Value) (d : Option Addr) : TE := fun σ H Q => ∃ nm, nm ∈ errs ∧ cls = .ref (ex.at_ nm) ∧ tCall (spOf K (dErr a d (told nm))) [] E0 (tCons (tVar 2) tNil) σ H Q
def tZ (K : PySem.W.Frag) (ex : ExMap) (w : Str) (a : Addr) (cls : Value) (d : Option Addr) : TS := tRet (tTup (tCons (tC (.str w)) (tCons (tC (.str "")) (tCons (tRts K ex a cls d) tNil))))
def tF (K : PySem.W.Frag) (ex : ExMap) (w cn f : Str) (a : Addr) (cls : Value) (d : Option Addr) : TS := tRet (tTup (tCons (tC (.str w)) (tCons (tCB (rReprE K) (tCons (tXf a cls d (ex.at_ cn) f (tVar 2)) tNil)) (tCons (tRts K ex a cls d) tNil))))
def clT (K : PySem.W.Frag) (ex : ExMap) : List EX.Clause := [(.ref (ex.at_ "InvalidRow"), some 2, tZ K ex "row"), (.ref (ex.at_ "InvalidLot"), some 2, tZ K ex "lot"), (.ref (ex.at_ "InvalidReading"), some 2, tZ K ex "reading"), (.ref (ex.at_ "InvalidNetwork"), some 2, tZ K ex "network"), (.ref (ex.at_ "InvalidGrowth"), some 2, tZ K ex "growth"), (.ref (ex.at_ "InvalidOperation"), some 2, tZ K ex "operation"), (.ref (ex.at_ "InvalidText"), some 2, tZ K ex "text"), (.ref (ex.at_ "InvalidClaim"), some 2, tZ K ex "claim"), (.ref (ex.at_ "ParseError"), some 2, tF K ex "parse" "ParseError" "spot"), (.ref (ex.at_ "RampError"), some 2, tZ K ex "ramp"), (.ref (ex.at_ "InvalidNumber"), some 2, tF K ex "number" "InvalidNumber" "given"), (.ref (ex.at_ "UnknownName"), some 2, tF K ex "unknown" "UnknownName" "wanted"), (.ref (ex.at_ "NothingToUndo"), some 2, tF K ex "undo" "NothingToUndo" "done"), (.ref (ex.at_ "TooMany"), some 2, tF K ex "many" "TooMany" "limit"), (.ref (ex.at_ "Refused"), some 2, tF K ex "refused" "Refused" "reason")]
section
variable {P : Program} {w : World} {K : PySem.W.Frag} {mg : Str → Option Value} {base : Heap} {ex : ExMap} {c : Addr}
theorem ok_rts {nm : Str} {a : Addr} {d : Option Addr} : OkE K (tRts K ex a (.ref (ex.at_ nm)) d) (rRts nm a d) := fun σ δ μ G H k Q S w ⟨hn, q⟩ b =>
  ⟨nm, hn, rfl, okE_call (okA_cons (okE_var 2) okA_nil) σ δ μ G H k Q S w q b⟩
theorem ok_tZ {w nm : Str} {a : Addr} {d : Option Addr} : OkS K (tZ K ex w a (.ref (ex.at_ nm)) d) (suZ w nm a d) := okS_ret (okE_tup (okA_cons (okE_C fun _ => .str _) (okA_cons (okE_C fun _ => .str _) (okA_cons ok_rts okA_nil))))
theorem ok_tF {w cn f nm : Str} {a : Addr} {d : Option Addr} (h : ex.fld cn = f) : OkS K (tF K ex w cn f a (.ref (ex.at_ nm)) d) (suF ex w cn nm a d) :=
  okS_ret (okE_tup (okA_cons (okE_C fun _ => .str _) (okA_cons (okE_CB okReprE (okA_cons (okE_err h (okE_var 2)) okA_nil)) (okA_cons ok_rts okA_nil))))
theorem ok_clT (T : Txt P K mg ex) : OkCl K ex (clT K ex) (cls ex) :=
  .cons (fun nm a d => ok_tZ) (.cons (fun nm a d => ok_tZ) (.cons (fun nm a d => ok_tZ) (.cons (fun nm a d => ok_tZ) (.cons (fun nm a d => ok_tZ) (.cons (fun nm a d => ok_tZ) (.cons (fun nm a d => ok_tZ) (.cons (fun nm a d => ok_tZ) (.cons (fun nm a d => ok_tF T.f_ParseError) (.cons (fun nm a d => ok_tZ) (.cons (fun nm a d => ok_tF T.f_InvalidNumber) (.cons (fun nm a d => ok_tF T.f_UnknownName) (.cons (fun nm a d => ok_tF T.f_NothingToUndo) (.cons (fun nm a d => ok_tF T.f_TooMany) (.cons (fun nm a d => ok_tF T.f_Refused) (.nil)))))))))))))))
theorem pe_rts {X0 : Cx} (A1 : At K mg "_law_roots" s__law_roots) (T : Txt P K mg ex) {a : Addr} {oe : Obj} {cls : Value} {d : Option Addr} {pn : List (Addr × Obj)} {p p2 pos : Pos} {j : Nat} (hz : Zc cls d oe) (hf : ∃ vs, oe.data = .fields vs) (hr : Room j X0.A)
    (he : PE (X0.suite a ((a, oe) :: pn)) (.Name "_law_error" p2) (tVar 2)) (hj : 6 ≤ j := by first | decide | omega) (hg : Gl X0 "_law_roots" := by rfl) (hP : X0.prog = P := by rfl) (hK : X0.K = K := by rfl) (hm : X0.mg = mg := by rfl) (hs : starEach [.Name "_law_error" p2] X0.env = (false, eval (.Name "_law_error" p2) X0.env) :: starEach [] X0.env := by rfl)
    (hpl : (backTo pos (starEach [] X0.env)).any (·.1) = false := by rfl) :
    PE (X0.suite a ((a, oe) :: pn)) (.Call (.Name "_law_roots" p) [.Name "_law_error" p2] [] pos) (tRts K ex a cls d) := ⟨fun pins s σ H Q I ⟨nm, hn, e, q⟩ => by
  subst e
  exact (ke_errcall (w := X0.w) A1 (b__law_roots (w := X0.w) T hn) sc__law_roots (by decide +kernel) (fun _ _ _ _ _ _ us hl => match us, hl with | [_], _ => rfl) (vc__law_roots hn) hz hf hr he hj hg hP rfl hK hm (by decide) hs hpl).run pins s σ H Q I q⟩
def r__law_caught (ex : ExMap) : RS := rTry0 ex (rDropX (rCallX d__law_raise (rCons (rVar 0) (rCons (rVar 1) rNil)))) (cls ex)
theorem b__law_caught (X1 : FnX P w K mg base ex "_law_raise" 5 d__law_raise) (A1 : At K mg "_law_roots" s__law_roots) (T : Txt P K mg ex) : BodyG P w K mg base c 6 "_law_caught" s__law_caught N__law_caught (r__law_caught ex) := by
  refine fun f => ⟨_, fun A frames s H hr hG => ⟨pss_one (EX.ps_try_gen (tb := fun W => tDrop (tCallS (spX K ex d__law_raise) (WE W) (tCons (tVar 0) (tCons (tVar 1) tNil)))) (Wout := fun _ _ _ _ => False) (l := clT K ex) rfl rfl sc__law_caught.nd LamX.takes0
      (fun W pn xe tk _ => pss_one (ps_expr (kx_call K X1 hr tk (pa_cons (pv 0) (pa_cons (pv 1) pa_nil)))))
      (by exact .named rfl rfl ⟨rfl, by decide, .inl T.x_InvalidRow.gC⟩ (fun a oe cls d pn hz hf => pss_one (ps_ret (pe_tup (pa_cons pe_str (pa_cons pe_str (pa_cons (pe_rts A1 T hz hf hr (pv 2)) pa_nil)))))) (.named rfl rfl ⟨rfl, by decide, .inl T.x_InvalidLot.gC⟩ (fun a oe cls d pn hz hf => pss_one (ps_ret (pe_tup (pa_cons pe_str (pa_cons pe_str (pa_cons (pe_rts A1 T hz hf hr (pv 2)) pa_nil)))))) (.named rfl rfl ⟨rfl, by decide, .inl T.x_InvalidReading.gC⟩ (fun a oe cls d pn hz hf => pss_one (ps_ret (pe_tup (pa_cons pe_str (pa_cons pe_str (pa_cons (pe_rts A1 T hz hf hr (pv 2)) pa_nil)))))) (.named rfl rfl ⟨rfl, by decide, .inl T.x_InvalidNetwork.gC⟩ (fun a oe cls d pn hz hf => pss_one (ps_ret (pe_tup (pa_cons pe_str (pa_cons pe_str (pa_cons (pe_rts A1 T hz hf hr (pv 2)) pa_nil)))))) (.named rfl rfl ⟨rfl, by decide, .inl T.x_InvalidGrowth.gC⟩ (fun a oe cls d pn hz hf => pss_one (ps_ret (pe_tup (pa_cons pe_str (pa_cons pe_str (pa_cons (pe_rts A1 T hz hf hr (pv 2)) pa_nil)))))) (.named rfl rfl ⟨rfl, by decide, .inl T.x_InvalidOperation.gC⟩ (fun a oe cls d pn hz hf => pss_one (ps_ret (pe_tup (pa_cons pe_str (pa_cons pe_str (pa_cons (pe_rts A1 T hz hf hr (pv 2)) pa_nil)))))) (.named rfl rfl ⟨rfl, by decide, .inl T.x_InvalidText.gC⟩ (fun a oe cls d pn hz hf => pss_one (ps_ret (pe_tup (pa_cons pe_str (pa_cons pe_str (pa_cons (pe_rts A1 T hz hf hr (pv 2)) pa_nil)))))) (.named rfl rfl ⟨rfl, by decide, .inl T.x_InvalidClaim.gC⟩ (fun a oe cls d pn hz hf => pss_one (ps_ret (pe_tup (pa_cons pe_str (pa_cons pe_str (pa_cons (pe_rts A1 T hz hf hr (pv 2)) pa_nil)))))) (.named rfl rfl ⟨rfl, by decide, .inl T.x_ParseError.gC⟩ (fun a oe cls d pn hz hf => pss_one (ps_ret (pe_tup (pa_cons pe_str (pa_cons (kb_call (kc_reprE K hG hr.units) T.b_repr (pa_cons (kx_err T.x_ParseError hz hf (pv 2)) pa_nil)) (pa_cons (pe_rts A1 T hz hf hr (pv 2)) pa_nil)))))) (.named rfl rfl ⟨rfl, by decide, .inl T.x_RampError.gC⟩ (fun a oe cls d pn hz hf => pss_one (ps_ret (pe_tup (pa_cons pe_str (pa_cons pe_str (pa_cons (pe_rts A1 T hz hf hr (pv 2)) pa_nil)))))) (.named rfl rfl ⟨rfl, by decide, .inl T.x_InvalidNumber.gC⟩ (fun a oe cls d pn hz hf => pss_one (ps_ret (pe_tup (pa_cons pe_str (pa_cons (kb_call (kc_reprE K hG hr.units) T.b_repr (pa_cons (kx_err T.x_InvalidNumber hz hf (pv 2)) pa_nil)) (pa_cons (pe_rts A1 T hz hf hr (pv 2)) pa_nil)))))) (.named rfl rfl ⟨rfl, by decide, .inl T.x_UnknownName.gC⟩ (fun a oe cls d pn hz hf => pss_one (ps_ret (pe_tup (pa_cons pe_str (pa_cons (kb_call (kc_reprE K hG hr.units) T.b_repr (pa_cons (kx_errK T.x_UnknownName hz hf (pv 2)) pa_nil)) (pa_cons (pe_rts A1 T hz hf hr (pv 2)) pa_nil)))))) (.named rfl rfl ⟨rfl, by decide, .inl T.x_NothingToUndo.gC⟩ (fun a oe cls d pn hz hf => pss_one (ps_ret (pe_tup (pa_cons pe_str (pa_cons (kb_call (kc_reprE K hG hr.units) T.b_repr (pa_cons (kx_err T.x_NothingToUndo hz hf (pv 2)) pa_nil)) (pa_cons (pe_rts A1 T hz hf hr (pv 2)) pa_nil)))))) (.named rfl rfl ⟨rfl, by decide, .inl T.x_TooMany.gC⟩ (fun a oe cls d pn hz hf => pss_one (ps_ret (pe_tup (pa_cons pe_str (pa_cons (kb_call (kc_reprE K hG hr.units) T.b_repr (pa_cons (kx_err T.x_TooMany hz hf (pv 2)) pa_nil)) (pa_cons (pe_rts A1 T hz hf hr (pv 2)) pa_nil)))))) (.named rfl rfl ⟨rfl, by decide, .inl T.x_Refused.gC⟩ (fun a oe cls d pn hz hf => pss_one (ps_ret (pe_tup (pa_cons pe_str (pa_cons (kb_call (kc_reprE K hG hr.units) T.b_repr (pa_cons (kx_err T.x_Refused hz hf (pv 2)) pa_nil)) (pa_cons (pe_rts A1 T hz hf hr (pv 2)) pa_nil)))))) .nil)))))))))))))))),
    okS_try0 T.hx (fun W' => okSX_drop (okEX_call (okA_cons (okE_var 0) (okA_cons (okE_var 1) okA_nil)))) (ok_clT T)⟩⟩
end
end K00


set_option Elab.async false
set_option linter.all false
set_option maxRecDepth 100000
set_option maxHeartbeats 4000000
namespace K00
open PySem PySem.Spec PyProof.Rows L2 SlX DL L2H
section
variable {P : Program} {w : World} {K : PySem.W.Frag} {mg : Str → Option Value} {base : Heap} {ex : ExMap} {c : Addr}
theorem isF_no {a b : Str} (h : isF a b = some false) : isF a b = some false := h
/-- the suite of a class without a field -/
theorem su_Z {w nm : Str} {a : Addr} {DD : DEnds} {δ : Sl} {μ : Mu} (hn : nm ∈ errs) (h2 : δ[2]? = some (some (.own a))) (h : DD.rt (.tup [.str w, .str "", told nm]) μ) : suZ w nm a none DD δ μ := by
  simp [suZ, rRts, h2, -List.mem_cons]
  exact ⟨hn, _, rfl, rfl, h⟩
theorem su_F {w cn nm s : Str} {a d : Addr} {v : D} {DD : DEnds} {δ : Sl} {μ : Mu} (hn : nm ∈ errs) (e : nm = cn) (h2 : δ[2]? = some (some (.err a d (ex.fld nm) v))) (sh : Shows v s) (h : DD.rt (.tup [.str w, .str s, told nm]) μ) : suF ex w cn nm a (some d) DD δ μ := by
  subst e
  simp only [suF, rRet, rTup, rCons, rC, rCB, rErr, rVar, h2, rNil, true_and]
  refine sh μ _ ?_
  simp [rRts, h2, -List.mem_cons]
  exact ⟨hn, _, rfl, ⟨_, _, rfl⟩, h⟩
theorem step_no {cn : Str} {i : Nat} {rs : Str → Addr → Option Addr → RS} {l : List DClause} {kx : SX} {DD : DEnds} {nm : Str} {fo : Option D} {δ : Sl} {μ : Mu} (is : ex.is nm cn = some false) (h : wTryD ex kx DD l nm fo δ μ) : wTryD ex kx DD ((cn, some i, rs) :: l) nm fo δ μ :=
  ⟨false, is, (fun z => by cases z), fun _ => h⟩
theorem step_Z {cn w : Str} {l : List DClause} {kx : SX} {DD : DEnds} {nm : Str} {δ : Sl} {μ : Mu} (is : ex.is nm cn = some true) (hn : nm ∈ errs) (hl : 2 < δ.length) (h : DD.rt (.tup [.str w, .str "", told nm]) μ) : wTryD ex kx DD ((cn, some 2, suZ w) :: l) nm none δ μ :=
  ⟨true, is, fun _ a d hd => by
    cases d with
    | some _ => cases hd
    | none => exact su_Z hn (by simp [errD, hl]) h, fun z => by cases z⟩
theorem step_F {cn w s : Str} {l : List DClause} {kx : SX} {DD : DEnds} {nm : Str} {v : D} {δ : Sl} {μ : Mu} (is : ex.is nm cn = some true) (hn : nm ∈ errs) (e : nm = cn) (hl : 2 < δ.length) (sh : Shows v s) (h : DD.rt (.tup [.str w, .str s, told nm]) μ) : wTryD ex kx DD ((cn, some 2, suF ex w cn) :: l) nm (some v) δ μ :=
  ⟨true, is, fun _ a d hd => by
    cases d with
    | none => cases hd
    | some d => exact su_F hn e (by simp [errD, hl]) sh h, fun z => by cases z⟩
theorem vc__law_caught (T : Txt P K mg ex) {ds : List D} {μ : Mu} {k : DK} (h : d__law_caught ds μ k) : r__law_caught ex { nx := fun _ μ' => ∃ μ'', DL.Sub μ'' μ' ∧ k .non μ'', rt := fun d μ' => ∃ μ'', DL.Sub μ'' μ' ∧ k d μ'' } (startD N__law_caught ds) μ := by
  obtain ⟨w, nm, b, v, s, rfl, hw, sh, h⟩ := h
  unfold r__law_caught rTry0
  simp only [rDropX, rCallX, rCons, rVar, rNil, startD, List.map_cons, List.map_nil, List.cons_append, List.nil_append, List.getElem?_cons_zero, List.getElem?_cons_succ]
  refine ⟨w, nm, b, v, rfl, hw, ?_⟩
  have hw' := hw
  simp only [words, List.mem_cons, List.not_mem_nil, or_false, Prod.mk.injEq] at hw'
  unfold atSl cls
  rcases hw' with ⟨rfl, rfl, rfl⟩ | ⟨rfl, rfl, rfl⟩ | ⟨rfl, rfl, rfl⟩ | ⟨rfl, rfl, rfl⟩ | ⟨rfl, rfl, rfl⟩ | ⟨rfl, rfl, rfl⟩ | ⟨rfl, rfl, rfl⟩ | ⟨rfl, rfl, rfl⟩ | ⟨rfl, rfl, rfl⟩ | ⟨rfl, rfl, rfl⟩ | ⟨rfl, rfl, rfl⟩ | ⟨rfl, rfl, rfl⟩ | ⟨rfl, rfl, rfl⟩ | ⟨rfl, rfl, rfl⟩ | ⟨rfl, rfl, rfl⟩
  all_goals
    simp only [if_true, if_false, Bool.false_eq_true] at sh ⊢
    repeat refine step_no (by rw [T.is_]; decide +kernel) ?_
    first
      | (subst sh
         refine step_Z (by rw [T.is_]; decide +kernel) (by decide) (by show 2 < 3; decide) ⟨μ, Sub.refl _, h⟩)
      | exact step_F (by rw [T.is_]; decide +kernel) (by decide) rfl (by show 2 < 3; decide) sh ⟨μ, Sub.refl _, h⟩
theorem ok__law_caught (a : AtC K mg "_law_caught" s__law_caught c) (X1 : FnX P w K mg base ex "_law_raise" 5 d__law_raise) (A1 : At K mg "_law_roots" s__law_roots) (T : Txt P K mg ex) : FnG P w K mg base "_law_caught" 7 d__law_caught :=
  fnG_of a (b__law_caught X1 A1 T) sc__law_caught (fun _ _ _ _ _ _ us hl => match us, hl with | [_, _], _ => rfl) (fun ds μ k h => by obtain ⟨_, _, _, _, _, rfl, _⟩ := h; rfl) fun ds μ k h => vc__law_caught T h
end
end K00


set_option Elab.async false
set_option linter.all false
set_option maxRecDepth 100000
set_option maxHeartbeats 4000000
namespace K00
open PySem PySem.Spec PyProof.Rows L2 SlX DL L2H
def d__law_right : DSp := fun ds μ k => ∃ p vs N, ds = [.own p] ∧ μ p = some (.l vs) ∧ VOk vs N ∧ N ≤ 1000 ∧ ∀ vs', VOk vs' (N + 10) → k (.bl true) (muSet μ p (.l vs'))
section
variable {P : Program} {w : World} {K : PySem.W.Frag} {mg : Str → Option Value} {base : Heap} {ex : ExMap} {c PT : Addr}
abbrev s__law_right : Stmt := topS 24
abbrev N__law_right : List Str := ["_law_pail_here", "_law_word", "_law_value", "_law_roots_here", "_law_due", "_law_place"]
theorem sc__law_right : FnScope N__law_right ["_law_pail_here"] (defScope s__law_right) := ⟨rfl, rfl, rfl, by decide +kernel, rfl, by decide +kernel, by decide +kernel⟩
def r__law_right : RS :=
  (rSeq (rFor (rIT (rTup (rCons (rC (.str "row")) (rCons (rC (.str "lot")) (rCons (rC (.str "reading")) (rCons (rC (.str "network")) (rCons (rC (.str "growth")) (rCons (rC (.str "operation")) (rCons (rC (.str "text")) (rCons (rC (.str "claim")) (rCons (rC (.str "ramp")) rNil))))))))))) (rgName 1) (rSeq (rAsg (rTup (rCons (rVar 1) (rCons (rC (.str "")) (rCons (rLc (rIR1 (rCons (rC (.int 7)) rNil)) (rgName 5) rYes (rOp oInI (rVar 5) (rTup (rCons (rC (.int 0)) (rCons (rC (.int 6)) rNil)))) [5]) rNil)))) (rgName 4))
  (rIfS (rB (rOp oNe (rCall d__law_caught (rCons (rVar 1) (rCons (rCall d__law_any_of (rCons (rVar 0) (rCons (rLst (rCons (rC (.str "")) (rCons (rC (.str "a")) (rCons (rC (.str "said")) rNil)))) rNil))) rNil))) (rVar 4))) (rRet (rC (.bl false))) rNext)))
  (rSeq (rAsg (rCall d__law_any_of (rCons (rVar 0) (rCons (rLst (rCons (rC .non) (rCons (rC (.int 0)) (rCons (rC (.str "a")) (rCons (rTup (rCons (rC (.int 1)) (rCons (rC (.str "b")) rNil))) (rCons (rLst (rCons (rC (.int 3)) rNil)) (rCons rDNewF (rCons (rC (.bl true)) (rCons (rOp (oI fun i j => i - j) (rC (.int 0)) (rOp (oIc CPowW fun i j => i ^ j.toNat) (rC (.int 10)) (rC (.int 60)))) (rCons (rTup (rCons (rC (.str "zero")) rNil)) rNil)))))))))) rNil))) (rgName 2))
  (rSeq (rAsg (rDisp [("parse", (rTup (rCons (rC (.int 0)) (rCons (rC (.int 6)) rNil)))), ("number", (rTup (rCons (rC (.int 1)) (rCons (rC (.int 5)) rNil)))), ("unknown", (rTup (rCons (rC (.int 2)) (rCons (rC (.int 5)) rNil)))), ("many", (rTup (rCons (rC (.int 3)) (rCons (rC (.int 4)) rNil)))), ("refused", (rTup (rCons (rC (.int 4)) rNil))), ("undo", (rTup (rCons (rC (.int 5)) rNil)))]) (rgName 3))
  (rSeq (rFor (rIL (rCB oSortKS (rCons (rVar 3) rNil))) (rgName 1) (rIfS (rB (rOp oNe (rCall d__law_caught (rCons (rVar 1) (rCons (rVar 2) rNil))) (rTup (rCons (rVar 1) (rCons (rCB oReprE (rCons (rVar 2) rNil)) (rCons (rLc (rIR1 (rCons (rC (.int 7)) rNil)) (rgName 5) rYes (rOp oInI (rVar 5) (rDGet (rVar 3) (rVar 1))) [5]) rNil)))))) (rRet (rC (.bl false))) rNext))
  (rRet (rC (.bl true)))))))
theorem b__law_right (G__law_caught : FnG P w K mg base "_law_caught" 7 d__law_caught) (F__law_any_of : FnD P w K mg base "_law_any_of" 3 d__law_any_of) (T : Txt P K mg ex) (TB : LamX.TabB base mg c PT) : BodyG P w K mg base c 7 "_law_right" s__law_right N__law_right (r__law_right) := by
  refine fun f => ⟨_, fun A outer s H hr hG => ⟨(pss_cons (ps_for PassesOwn.never rfl (ki_tup K (pe_tup (pa_cons pe_str (pa_cons pe_str (pa_cons pe_str (pa_cons pe_str (pa_cons pe_str (pa_cons pe_str (pa_cons pe_str (pa_cons pe_str (pa_cons pe_str pa_nil))))))))))) (pg_name (i := 1) sc__law_right.nd rfl (Or.inr rfl)) (pss_cons (ps_set (i := 4) sc__law_right.nd rfl (Or.inl rfl) (pe_tup (pa_cons (pv 1) (pa_cons pe_str (pa_cons (pe_lc (own := [("_law_place", 5)]) rfl sc__law_right.nd (kr_range1 T.b_range (pa_cons pe_int pa_nil)) (blkOk_by (own := [("_law_place", 5)]) (N := N__law_right) (sc := defScope s__law_right) (by decide +kernel)) (fun _ _ _ _ _ => (pg_name (i := 5) sc__law_right.nd rfl (by first | exact Or.inl rfl | exact Or.inr rfl))) (fun _ _ _ _ _ => pts_nil) (fun _ _ _ _ _ => (pe_cmpR (ko_inT (K := K)) (pv 5) (pe_tup (pa_cons pe_int (pa_cons pe_int pa_nil))) (by rfl)))) pa_nil)))))
      (pss_one (ps_if (pt_cmpR (ko_neD K hr.units) (kg_call K G__law_caught hr hG (pa_cons (pv 1) (pa_cons (ke_call K F__law_any_of hr (pa_cons (pv 0) (pa_cons (pe_lst (pa_cons pe_str (pa_cons pe_str (pa_cons pe_str pa_nil)))) pa_nil))) pa_nil))) (pv 4) (nomark _)) (pss_one (ps_ret pe_bl)) pss_nil))))
      (pss_cons (ps_set (i := 2) sc__law_right.nd rfl (Or.inl rfl) (ke_call K F__law_any_of hr (pa_cons (pv 0) (pa_cons (pe_lst (pa_cons pe_non (pa_cons pe_int (pa_cons pe_str (pa_cons (pe_tup (pa_cons pe_int (pa_cons pe_str pa_nil))) (pa_cons (pe_lst (pa_cons pe_int pa_nil)) (pa_cons pe_dnewT (pa_cons pe_bl (pa_cons (pe_op op_sub pe_int (pe_op op_powW pe_int pe_int)) (pa_cons (pe_tup (pa_cons pe_str pa_nil)) pa_nil)))))))))) pa_nil))))
      (pss_cons (ps_set (i := 3) sc__law_right.nd rfl (Or.inr rfl) (pe_disp (pps_cons pe_str (pe_tup (pa_cons pe_int (pa_cons pe_int pa_nil))) (pps_cons pe_str (pe_tup (pa_cons pe_int (pa_cons pe_int pa_nil))) (pps_cons pe_str (pe_tup (pa_cons pe_int (pa_cons pe_int pa_nil))) (pps_cons pe_str (pe_tup (pa_cons pe_int (pa_cons pe_int pa_nil))) (pps_cons pe_str (pe_tup (pa_cons pe_int pa_nil)) (pps_cons pe_str (pe_tup (pa_cons pe_int pa_nil)) pps_nil)))))) (by rfl) (by rfl) (fun z => by cases z) (by decide)))
      (pss_cons (ps_for PassesOwn.never rfl (ki_list K (kb_call kc_sortedKS T.b_sorted (pa_cons (pv 3) pa_nil))) (pg_name (i := 1) sc__law_right.nd rfl (Or.inr rfl)) (pss_one (ps_if (pt_cmpR (ko_neD K hr.units) (kg_call K G__law_caught hr hG (pa_cons (pv 1) (pa_cons (pv 2) pa_nil))) (pe_tup (pa_cons (pv 1) (pa_cons (kb_call (kc_reprE K hG hr.units) T.b_repr (pa_cons (pv 2) pa_nil)) (pa_cons (pe_lc (own := [("_law_place", 5)]) rfl sc__law_right.nd (kr_range1 T.b_range (pa_cons pe_int pa_nil)) (blkOk_by (own := [("_law_place", 5)]) (N := N__law_right) (sc := defScope s__law_right) (by decide +kernel)) (fun _ _ _ _ _ => (pg_name (i := 5) sc__law_right.nd rfl (by first | exact Or.inl rfl | exact Or.inr rfl))) (fun _ _ _ _ _ => pts_nil) (fun _ _ _ _ _ => (pe_cmpR (ko_inT (K := K)) (pv 5) (pe_dget (units1 hr.units) (pv 3) (pv 1) (fun _ _ => rfl)) (by rfl)))) pa_nil)))) (nomark _)) (pss_one (ps_ret pe_bl)) pss_nil)))
      (pss_one (ps_ret pe_bl)))))),
    (okS_seq (okS_for (okI_tup (okE_tup (okA_cons (okE_C fun _ => .str _) (okA_cons (okE_C fun _ => .str _) (okA_cons (okE_C fun _ => .str _) (okA_cons (okE_C fun _ => .str _) (okA_cons (okE_C fun _ => .str _) (okA_cons (okE_C fun _ => .str _) (okA_cons (okE_C fun _ => .str _) (okA_cons (okE_C fun _ => .str _) (okA_cons (okE_C fun _ => .str _) okA_nil))))))))))) (okG_name 1) (okS_seq (okS_asg (okE_tup (okA_cons (okE_var 1) (okA_cons (okE_C fun _ => .str _) (okA_cons (okE_lc (okI_range1 (okA_cons (okE_C fun _ => .int _) okA_nil)) (okG_name 5) okT_yes (okE_op okInI (okE_var 5) (okE_tup (okA_cons (okE_C fun _ => .int _) (okA_cons (okE_C fun _ => .int _) okA_nil)))) (by decide)) okA_nil)))) (okG_name 4))
      (okS_if (okT_test (okE_op okNe (okE_call (okA_cons (okE_var 1) (okA_cons (okE_call (okA_cons (okE_var 0) (okA_cons (okE_lst (okA_cons (okE_C fun _ => .str _) (okA_cons (okE_C fun _ => .str _) (okA_cons (okE_C fun _ => .str _) okA_nil)))) okA_nil))) okA_nil))) (okE_var 4))) (okS_ret (okE_C fun _ => .bl _)) okS_next)))
      (okS_seq (okS_asg (okE_call (okA_cons (okE_var 0) (okA_cons (okE_lst (okA_cons (okE_C fun _ => .non) (okA_cons (okE_C fun _ => .int _) (okA_cons (okE_C fun _ => .str _) (okA_cons (okE_tup (okA_cons (okE_C fun _ => .int _) (okA_cons (okE_C fun _ => .str _) okA_nil))) (okA_cons (okE_lst (okA_cons (okE_C fun _ => .int _) okA_nil)) (okA_cons okE_dnewF (okA_cons (okE_C fun _ => .bl _) (okA_cons (okE_op okI (okE_C fun _ => .int _) (okE_op okIc (okE_C fun _ => .int _) (okE_C fun _ => .int _))) (okA_cons (okE_tup (okA_cons (okE_C fun _ => .str _) okA_nil)) okA_nil)))))))))) okA_nil))) (okG_name 2))
      (okS_seq (okS_asg (okE_disp ⟨rfl, (okE_tup (okA_cons (okE_C fun _ => .int _) (okA_cons (okE_C fun _ => .int _) okA_nil))), ⟨rfl, (okE_tup (okA_cons (okE_C fun _ => .int _) (okA_cons (okE_C fun _ => .int _) okA_nil))), ⟨rfl, (okE_tup (okA_cons (okE_C fun _ => .int _) (okA_cons (okE_C fun _ => .int _) okA_nil))), ⟨rfl, (okE_tup (okA_cons (okE_C fun _ => .int _) (okA_cons (okE_C fun _ => .int _) okA_nil))), ⟨rfl, (okE_tup (okA_cons (okE_C fun _ => .int _) okA_nil)), ⟨rfl, (okE_tup (okA_cons (okE_C fun _ => .int _) okA_nil)), trivial⟩⟩⟩⟩⟩⟩) (okG_name 3))
      (okS_seq (okS_for (okI_list (okE_CB okSortKS (okA_cons (okE_var 3) okA_nil))) (okG_name 1) (okS_if (okT_test (okE_op okNe (okE_call (okA_cons (okE_var 1) (okA_cons (okE_var 2) okA_nil))) (okE_tup (okA_cons (okE_var 1) (okA_cons (okE_CB okReprE (okA_cons (okE_var 2) okA_nil)) (okA_cons (okE_lc (okI_range1 (okA_cons (okE_C fun _ => .int _) okA_nil)) (okG_name 5) okT_yes (okE_op okInI (okE_var 5) (okE_dget (okE_var 3) (okE_var 1))) (by decide)) okA_nil)))))) (okS_ret (okE_C fun _ => .bl _)) okS_next))
      (okS_ret (okE_C fun _ => .bl _))))))⟩⟩

abbrev s_law : Stmt := topS 25
abbrev N_law : List Str := ["_law_script", "_law_spot", "_law_pail_here"]
theorem sc_law : FnScope N_law ["_law_script"] (defScope s_law) := ⟨rfl, rfl, rfl, by decide +kernel, rfl, by decide +kernel, by decide +kernel⟩
def r_law : RS :=
  (rSeq (rFor (rIR1 (rCons (rCB (o2I fun i j => if j > i then j else i) (rCons (rC (.int 1)) (rCons (rCB (o2I fun i j => if j < i then j else i) (rCons (rC (.int 4)) (rCons (rCB oLen (rCons (rVar 0) rNil)) rNil))) rNil))) rNil)) (rgName 1) (rSeq (rAsg (rCall d__law_pail (rCons (rVar 0) (rCons (rVar 1) rNil))) (rgName 2))
  (rIfS (rOr (rNot (rB (rCall d__law_right (rCons (rVar 2) rNil)))) (rNot (rB (rCall d__law_right (rCons (rVar 2) rNil))))) (rRet (rC (.bl false))) rNext)))
  (rRet (rAndV (rOp oEq (rOp oIx (rCall d__law_caught (rCons (rC (.str "number")) (rCons (rC (.bl true)) rNil))) (rC (.int 1))) (rC (.str "True"))) (rOp oEq (rOp oIx (rCall d__law_caught (rCons (rC (.str "refused")) (rCons (rTup (rCons (rC (.str "zero")) rNil)) rNil))) (rC (.int 1))) (rC (.str "('zero',)"))))))
theorem b_law (F__law_pail : FnD P w K mg base "_law_pail" 1 d__law_pail) (G__law_right : FnG P w K mg base "_law_right" 8 d__law_right) (G__law_caught : FnG P w K mg base "_law_caught" 7 d__law_caught) (T : Txt P K mg ex) (TB : LamX.TabB base mg c PT) : BodyG P w K mg base c 8 "law" s_law N_law (r_law) := by
  refine fun f => ⟨_, fun A outer s H hr hG => ⟨(pss_cons (ps_for PassesOwn.never rfl (kr_range1 T.b_range (pa_cons (kb_call (call_max2 rfl) T.b_max (pa_cons pe_int (pa_cons (kb_call (call_min2 rfl) T.b_min (pa_cons pe_int (pa_cons (kb_call (kc_len K) T.b_len (pa_cons (pv 0) pa_nil)) pa_nil))) pa_nil))) pa_nil)) (pg_name (i := 1) sc_law.nd rfl (Or.inl rfl)) (pss_cons (ps_set (i := 2) sc_law.nd rfl (Or.inl rfl) (ke_call K F__law_pail hr (pa_cons (pv 0) (pa_cons (pv 1) pa_nil))))
      (pss_one (ps_if (PW.pt (pw_or (pt_not (pt_val (kg_call K G__law_right hr hG (pa_cons (pv 2) pa_nil)))) (pw_or1 (pt_not (pt_val (kg_call K G__law_right hr hG (pa_cons (pv 2) pa_nil))))))) (pss_one (ps_ret pe_bl)) pss_nil))))
      (pss_one (ps_ret (pe_and (pe_cmpR (ko_eqD K hr.units) (pe_ix (kx_seq K) (kg_call K G__law_caught hr hG (pa_cons pe_str (pa_cons pe_bl pa_nil))) pe_int (fun _ _ => rfl)) pe_str (nomark _)) (pe_one (pe_cmpR (ko_eqD K hr.units) (pe_ix (kx_seq K) (kg_call K G__law_caught hr hG (pa_cons pe_str (pa_cons (pe_tup (pa_cons pe_str pa_nil)) pa_nil))) pe_int (fun _ _ => rfl)) pe_str (nomark _))))))),
    (okS_seq (okS_for (okI_range1 (okA_cons (okE_CB ok2I (okA_cons (okE_C fun _ => .int _) (okA_cons (okE_CB ok2I (okA_cons (okE_C fun _ => .int _) (okA_cons (okE_CB okLen (okA_cons (okE_var 0) okA_nil)) okA_nil))) okA_nil))) okA_nil)) (okG_name 1) (okS_seq (okS_asg (okE_call (okA_cons (okE_var 0) (okA_cons (okE_var 1) okA_nil))) (okG_name 2))
      (okS_if (okT_or (okT_not (okT_B (okE_call (okA_cons (okE_var 2) okA_nil)))) (okT_not (okT_B (okE_call (okA_cons (okE_var 2) okA_nil))))) (okS_ret (okE_C fun _ => .bl _)) okS_next)))
      (okS_ret (okE_andV (okE_op okEq (okE_op okIx (okE_call (okA_cons (okE_C fun _ => .str _) (okA_cons (okE_C fun _ => .bl _) okA_nil))) (okE_C fun _ => .int _)) (okE_C fun _ => .str _)) (okE_op okEq (okE_op okIx (okE_call (okA_cons (okE_C fun _ => .str _) (okA_cons (okE_tup (okA_cons (okE_C fun _ => .str _) okA_nil)) okA_nil))) (okE_C fun _ => .int _)) (okE_C fun _ => .str _)))))⟩⟩


end
/-! ### values and what repr tells of them -/
def vals : List (D × Str) := [(.non, "None"), (.int 0, "0"), (.str "a", "'a'"), (.tup [.int 1, .str "b"], "(1, 'b')"), (.lst [.int 3], "[3]"), (.dt [] [], "{}"), (.bl true, "True"), (.int (0 - 10 ^ 60), "-1000000000000000000000000000000000000000000000000000000000000"), (.tup [.str "zero"], "('zero',)")]
theorem shows_py {v : D} {s : Str} (a : PyData) (h : ∀ μ, asPy μ v = some a) (e : ∀ μ k, oReprE [v] μ k = oRepr [v] μ k) (h1 : a.showable = true := by decide +kernel) (h2 : a.hasDict = false := by decide +kernel) (h3 : a.depth ≤ 8 := by decide +kernel) (h4 : a.shown.length ≤ 1000000 := by decide +kernel) (h5 : a.shown = s := by decide +kernel) : Shows v s := fun μ k q => by
  rw [e]
  exact ⟨a, h μ, h1, h2, h3, h4, by rw [h5]; exact q⟩
theorem shows_vals : ∀ p ∈ vals, Shows p.1 p.2 := by
  intro p hp
  simp only [vals, List.mem_cons, List.not_mem_nil, or_false] at hp
  rcases hp with rfl | rfl | rfl | rfl | rfl | rfl | rfl | rfl | rfl
  · exact shows_py .none (fun _ => rfl) (fun _ _ => rfl)
  · exact shows_py (.int 0) (fun _ => rfl) (fun _ _ => rfl)
  · exact shows_py (.str "a") (fun _ => rfl) (fun _ _ => rfl)
  · exact shows_py (.tuple [.int 1, .str "b"]) (fun _ => rfl) (fun _ _ => rfl)
  · exact shows_py (.list [.int 3]) (fun _ => rfl) (fun _ _ => rfl)
  · exact fun μ k q => q
  · exact shows_py (.bool true) (fun _ => rfl) (fun _ _ => rfl)
  · exact shows_py (.int (0 - 10 ^ 60)) (fun _ => rfl) (fun _ _ => rfl)
  · exact shows_py (.tuple [.str "zero"]) (fun _ => rfl) (fun _ _ => rfl)
/-! ### both sides are the same -/
def pyT (w s : Str) (bs : List Bool) : PyData := .tuple [.str w, .str s, .list (bs.map .bool)]
theorem py_bools : ∀ bs : List Bool, toPyL (bs.map D.bl) = some (bs.map .bool)
  | [] => rfl
  | b :: bs => by simp [toPyL, toPy, py_bools bs]
theorem py_T {μ : Mu} {w s : Str} {bs : List Bool} : asPy μ (.tup [.str w, .str s, .lst (bs.map D.bl)]) = some (pyT w s bs) := by
  simp [asPy, toPy, toPyL, py_bools, pyT]
theorem fine_kept : ∀ p ∈ words, ∀ q ∈ vals, SeqAt.shaped (pyT p.1 q.2 (rootsOf p.2.1)) = true ∧ PyData.eqv (pyT p.1 q.2 (rootsOf p.2.1)) (pyT p.1 q.2 (rootsOf p.2.1)) = true := by decide +kernel
theorem fine_bare : ∀ p ∈ words, SeqAt.shaped (pyT p.1 "" (rootsOf p.2.1)) = true ∧ PyData.eqv (pyT p.1 "" (rootsOf p.2.1)) (pyT p.1 "" (rootsOf p.2.1)) = true := by decide +kernel
theorem same_ne {w s nm : Str} {μ : Mu} {k : DK} (h : SeqAt.shaped (pyT w s (rootsOf nm)) = true ∧ PyData.eqv (pyT w s (rootsOf nm)) (pyT w s (rootsOf nm)) = true) (q : k (.bl false) μ) : oNe (.tup [.str w, .str s, told nm]) (.tup [.str w, .str s, .lst ((rootsOf nm).map D.bl)]) μ k :=
  ⟨_, _, py_T, py_T, h.1, h.1, by rw [h.2]; exact q⟩
/-! ### the lists of seven -/
theorem comp7 {re : RE} {ws : List Int} {a b c d e f : Option D} {μ : Mu} {k : DK} (hre : ∀ (x : D) (kk : DK), kk (.tup (ws.map D.int)) μ → re [a, b, c, d, e, some x] μ kk) (h : k (.lst ((List.range 7).map fun i : Nat => D.bl (decide ((0 + (i : Int)) ∈ ws)))) μ) :
    rLc (rIR1 (rCons (rC (.int 7)) rNil)) (rgName 5) rYes (rOp oInI (rVar 5) re) [5] [a, b, c, d, e, f] μ k := by
  simp only [rLc, rIR1, rCons, rC, rNil]
  refine ⟨⟨by decide, by decide⟩, ?_⟩
  refine lcW_map (List.range 7) (fun i : Nat => .int (0 + (i : Nat))) (fun i : Nat => D.bl (decide ((0 + (i : Int)) ∈ ws))) (.r 0 7) (by decide) (fun x hx kt kf hk => ?_) h
  simp only [wipeD, List.foldl_cons, List.foldl_nil, List.set_cons_succ, List.set_cons_zero, rgName, rYes, if_true, rOp, rVar, List.getElem?_cons_succ, List.getElem?_cons_zero]
  exact hre _ _ ⟨_, ws, rfl, rfl, hk⟩
def bits7 (ws : List Int) : List Bool := (List.range 7).map fun i : Nat => decide ((0 + (i : Int)) ∈ ws)
theorem bits7_map (ws : List Int) : ((List.range 7).map fun i : Nat => D.bl (decide ((0 + (i : Int)) ∈ ws))) = (bits7 ws).map D.bl := by
  unfold bits7
  rw [List.map_map]
  rfl
end K00


set_option Elab.async false
set_option linter.all false
set_option maxRecDepth 100000
set_option maxHeartbeats 4000000
namespace K00
open PySem PySem.Spec PyProof.Rows L2 SlX DL L2H
section
variable {P : Program} {w : World} {K : PySem.W.Frag} {mg : Str → Option Value} {base : Heap} {ex : ExMap} {c PT : Addr}
def nine : List Str := ["row", "lot", "reading", "network", "growth", "operation", "text", "claim", "ramp"]
theorem nine_ok : ∀ x ∈ nine, ∃ nm, (x, nm, false) ∈ words ∧ rootsOf nm = bits7 [0, 6] := by
  intro x hx
  simp only [nine, List.mem_cons, List.not_mem_nil, or_false] at hx
  rcases hx with rfl | rfl | rfl | rfl | rfl | rfl | rfl | rfl | rfl
  · exact ⟨"InvalidRow", by decide, by decide +kernel⟩
  · exact ⟨"InvalidLot", by decide, by decide +kernel⟩
  · exact ⟨"InvalidReading", by decide, by decide +kernel⟩
  · exact ⟨"InvalidNetwork", by decide, by decide +kernel⟩
  · exact ⟨"InvalidGrowth", by decide, by decide +kernel⟩
  · exact ⟨"InvalidOperation", by decide, by decide +kernel⟩
  · exact ⟨"InvalidText", by decide, by decide +kernel⟩
  · exact ⟨"InvalidClaim", by decide, by decide +kernel⟩
  · exact ⟨"RampError", by decide, by decide +kernel⟩
def six : List (Str × List Int) := [("parse", [0, 6]), ("number", [1, 5]), ("unknown", [2, 5]), ("many", [3, 4]), ("refused", [4]), ("undo", [5])]
def sixD : D := .dk (six.map fun p => .inr p.1) (six.map fun p => .tup (p.2.map D.int))
theorem six_ok : ∀ x ∈ six.map (·.1), ∃ nm ws, (x, nm, true) ∈ words ∧ rootsOf nm = bits7 ws ∧ ∃ kvs, (∀ μ, asK μ sixD = some kvs) ∧ getG kvs (.inr x) = some (.tup (ws.map D.int)) := by
  intro x hx
  simp only [six, List.map_cons, List.map_nil, List.mem_cons, List.not_mem_nil, or_false] at hx
  rcases hx with rfl | rfl | rfl | rfl | rfl | rfl
  · exact ⟨"ParseError", [0, 6], by decide, by decide +kernel, _, fun _ => rfl, rfl⟩
  · exact ⟨"InvalidNumber", [1, 5], by decide, by decide +kernel, _, fun _ => rfl, rfl⟩
  · exact ⟨"UnknownName", [2, 5], by decide, by decide +kernel, _, fun _ => rfl, rfl⟩
  · exact ⟨"TooMany", [3, 4], by decide, by decide +kernel, _, fun _ => rfl, rfl⟩
  · exact ⟨"Refused", [4], by decide, by decide +kernel, _, fun _ => rfl, rfl⟩
  · exact ⟨"NothingToUndo", [5], by decide, by decide +kernel, _, fun _ => rfl, rfl⟩
theorem caught_bare {x nm : Str} {v : D} {μ : Mu} {k : DK} (h : (x, nm, false) ∈ words) (q : k (.tup [.str x, .str "", told nm]) μ) : d__law_caught [.str x, v] μ k := ⟨x, nm, false, v, "", rfl, h, rfl, q⟩
theorem caught_kept {x nm s : Str} {v : D} {μ : Mu} {k : DK} (h : (x, nm, true) ∈ words) (sh : Shows v s) (q : k (.tup [.str x, .str s, told nm]) μ) : d__law_caught [.str x, v] μ k := ⟨x, nm, true, v, s, rfl, h, sh, q⟩
theorem vc__law_right {p : Addr} {vs : List D} {N : Nat} {μ : Mu} {k : DK} (hp : μ p = some (.l vs)) (hv : VOk vs N) (hN : N ≤ 1000) (h : ∀ vs', VOk vs' (N + 10) → k (.bl true) (muSet μ p (.l vs'))) :
    r__law_right { nx := fun _ μ' => ∃ μ'', DL.Sub μ'' μ' ∧ k .non μ'', rt := fun d μ' => ∃ μ'', DL.Sub μ'' μ' ∧ k d μ'' } (startD N__law_right [.own p]) μ := by
  unfold r__law_right
  refine seq_gen fun NX hNX => ?_
  simp only [rFor, rIT, rTup, rCons, rC, rNil, startD, List.map_cons, List.map_nil, List.cons_append, List.nil_append]
  refine ⟨by decide, ?_⟩
  refine forW_inv nine D.str (.l _) (fun i δ μ' => ∃ x4 x5 vs', δ = [some (.own p), x4, none, none, x5, none] ∧ VOk vs' (N + i) ∧ μ' = muSet μ p (.l vs')) ?h0 (fun _ _ _ _ => trivial) (fun i x δ μ' hx z => ?step) (fun δ μ' z => ?fin)
  case h0 =>
    refine ⟨none, none, vs, rfl, hv, ?_⟩
    funext a
    unfold muSet
    by_cases ha : a = p
    · rw [if_pos ha, ha, hp]
    · rw [if_neg ha]
  case step =>
    obtain ⟨x4, x5, vs', rfl, hv', rfl⟩ := z
    obtain ⟨nm, hw, hb⟩ := nine_ok x (List.mem_of_getElem? hx)
    have hi : i < 9 := (List.getElem?_eq_some_iff.mp hx).1
    simp only [rgName, List.set_cons_succ, List.set_cons_zero]
    refine seq_gen fun NY hNY => ?_
    simp only [rAsg, rTup, rCons, rVar, List.getElem?_cons_succ, List.getElem?_cons_zero, rC, rNil]
    refine comp7 (ws := [0, 6]) (fun y kk hk => ?_) ?_
    · exact ⟨by decide, hk⟩
    rw [bits7_map, ← hb]
    refine ⟨Nat.le_of_ble_eq_true rfl, ?_⟩
    simp only [rgName, List.set_cons_succ, List.set_cons_zero]
    subst hNY
    simp only [rIfS, rB, rOp, rCall, rCons, rVar, List.getElem?_cons_succ, List.getElem?_cons_zero, rLst, rC, rNil, dCall]
    refine ⟨by decide, p, _, N + i, vs', rfl, muSet_same, hv', by simp, by decide, by omega, fun d v2 hd h2 => ?_⟩
    refine caught_bare hw ?_
    refine same_ne (fine_bare _ hw) ?_
    simp only [asB, Bool.false_eq_true, if_false, rNext]
    exact ⟨_, _, v2, rfl, h2.mono (by omega), by rw [muSet_set]⟩
  case fin =>
    obtain ⟨x4, x5, vs', rfl, hv', rfl⟩ := z
    subst hNX
    dsimp only
    refine seq_gen fun NX hNX => ?_
    have pw : CPowW 10 60 := ⟨by decide, by decide, by decide +kernel⟩
    simp only [rAsg, rCall, rCons, rVar, List.getElem?_cons_succ, List.getElem?_cons_zero, rLst, rC, rNil, rTup, rDNewF, rOp, oI, oIc, dCall]
    refine ⟨by decide, by decide, pw, by decide, by decide, p, _, N + 9, vs', rfl, muSet_same, hv', by simp, by decide, by omega, fun d v2 hd h2 => ?_⟩
    obtain ⟨s, hs⟩ : ∃ s, (d, s) ∈ vals := by
      simp only [List.mem_cons, List.not_mem_nil, or_false] at hd
      rcases hd with rfl | rfl | rfl | rfl | rfl | rfl | rfl | rfl | rfl
      all_goals first
        | exact ⟨_, .head _⟩
        | exact ⟨_, .tail _ (.head _)⟩
        | exact ⟨_, .tail _ (.tail _ (.head _))⟩
        | exact ⟨_, .tail _ (.tail _ (.tail _ (.head _)))⟩
        | exact ⟨_, .tail _ (.tail _ (.tail _ (.tail _ (.head _))))⟩
        | exact ⟨_, .tail _ (.tail _ (.tail _ (.tail _ (.tail _ (.head _)))))⟩
        | exact ⟨_, .tail _ (.tail _ (.tail _ (.tail _ (.tail _ (.tail _ (.head _))))))⟩
        | exact ⟨_, .tail _ (.tail _ (.tail _ (.tail _ (.tail _ (.tail _ (.tail _ (.head _)))))))⟩
        | exact ⟨_, .tail _ (.tail _ (.tail _ (.tail _ (.tail _ (.tail _ (.tail _ (.tail _ (.head _))))))))⟩
    have sh := shows_vals _ hs
    simp only [rgName, List.set_cons_succ, List.set_cons_zero]
    subst hNX
    refine seq_gen fun NX hNX => ?_
    simp only [rAsg, rDisp, rPrs, rTup, rCons, rC, rNil]
    refine ⟨by decide, by decide, by decide, by decide, by decide, by decide, by decide, by decide, ?_⟩
    simp only [rgName, List.set_cons_succ, List.set_cons_zero]
    subst hNX
    refine seq_gen fun NX hNX => ?_
    simp only [rFor, rIL, rCB, rCons, rVar, List.getElem?_cons_succ, List.getElem?_cons_zero, rNil]
    refine ⟨six.map (·.1), rfl, by decide, fun ys pm => ⟨_, rfl, ?_⟩⟩
    refine forW_inv ys D.str (.l _) (fun i δ μ' => ∃ x4, δ = [some (.own p), x4, some d, some sixD, x5, none] ∧ μ' = muSet μ p (.l v2)) ⟨_, rfl, muSet_set⟩ (fun _ _ _ _ => trivial) (fun i x δ μ' hx z => ?_) (fun δ μ' z => ?_)
    · obtain ⟨x4, rfl, rfl⟩ := z
      obtain ⟨nm, ws, hw, hb, kvs, ek, eg⟩ := six_ok x (pm.mem_iff.mp (List.mem_of_getElem? hx))
      simp only [rgName, List.set_cons_succ, List.set_cons_zero, rIfS, rB, rOp, rCall, rCons, rVar, List.getElem?_cons_succ, List.getElem?_cons_zero, rNil, dCall]
      refine caught_kept hw sh ?_
      simp only [rTup, rCons, rVar, List.getElem?_cons_succ, List.getElem?_cons_zero, rCB, rNil]
      refine sh _ _ ?_
      refine comp7 (ws := ws) (fun y kk hk => ?_) ?_
      · simp only [rDGet, rVar, List.getElem?_cons_succ, List.getElem?_cons_zero]
        exact ⟨kvs, .inr x, _, ek _, rfl, eg, hk⟩
      rw [bits7_map, ← hb]
      refine ⟨Nat.le_of_ble_eq_true rfl, same_ne (fine_kept _ hw _ hs) ?_⟩
      simp only [asB, Bool.false_eq_true, if_false, rNext]
      exact ⟨_, rfl, trivial⟩
    · obtain ⟨x4, rfl, rfl⟩ := z
      subst hNX
      exact ⟨_, Sub.refl _, h _ (h2.mono (by omega))⟩
theorem ok__law_right (a : AtC K mg "_law_right" s__law_right c) (G1 : FnG P w K mg base "_law_caught" 7 d__law_caught) (F1 : FnD P w K mg base "_law_any_of" 3 d__law_any_of) (T : Txt P K mg ex) (TB : LamX.TabB base mg c PT) : FnG P w K mg base "_law_right" 8 d__law_right :=
  fnG_of a (b__law_right G1 F1 T TB) sc__law_right (fun _ _ _ _ _ _ us hl => match us, hl with | [_], _ => rfl) (fun ds μ k h => by obtain ⟨_, _, _, rfl, _⟩ := h; rfl) fun ds μ k h => by
    obtain ⟨p, vs, N, rfl, hp, hv, hN, h⟩ := h
    exact vc__law_right hp hv hN h
end
end K00


set_option Elab.async false
set_option linter.all false
set_option maxRecDepth 100000
set_option maxHeartbeats 4000000
namespace K00
open PySem PySem.Spec PyProof.Rows L2 SlX DL L2H
section
variable {P : Program} {w : World} {K : PySem.W.Frag} {mg : Str → Option Value} {base : Heap} {ex : ExMap} {c PT : Addr}
def d_law : DSp := fun ds μ k => ∃ ns, ds = [.scr ns] ∧ ns.length ≤ 63 ∧ ∀ μ', k (.bl true) μ'
theorem shows_true : Shows (.bl true) "True" := shows_vals (.bl true, "True") (by simp [vals])
theorem shows_zero : Shows (.tup [.str "zero"]) "('zero',)" := shows_vals (.tup [.str "zero"], "('zero',)") (by simp [vals])
theorem at1 {a b c : D} {μ : Mu} {k : DK} (h : k b μ) : oIx (.tup [a, b, c]) (.int 1) μ k := by
  simp
  exact h
theorem vc_law {ns : List Int} {μ : Mu} {k : DK} (hl : ns.length ≤ 63) (h : ∀ μ', k (.bl true) μ') :
    r_law { nx := fun _ μ' => ∃ μ'', DL.Sub μ'' μ' ∧ k .non μ'', rt := fun d μ' => ∃ μ'', DL.Sub μ'' μ' ∧ k d μ'' } (startD N_law [.scr ns]) μ := by
  unfold r_law
  refine seq_gen fun NX hNX => ?_
  simp only [rFor, rIR1, rCons, rCB, rC, rNil, o2I, oLen, rVar, startD, List.map_cons, List.map_nil, List.cons_append, List.nil_append, List.getElem?_cons_zero]
  refine ⟨ns.length, rfl, ?_⟩
  generalize hm : (if (if (ns.length : Int) < 4 then (ns.length : Int) else 4) > 1 then (if (ns.length : Int) < 4 then (ns.length : Int) else 4) else 1) = m
  have hm4 : m ≤ 4 ∧ 1 ≤ m := by
    subst hm
    split <;> split <;> omega
  refine ⟨⟨by omega, by omega⟩, ?_⟩
  refine forW_inv (List.range m.toNat) (fun i : Nat => .int (0 + (i : Nat))) (.r 0 m.toNat) (fun i δ μ' => ∃ x1 x2, δ = [some (.scr ns), x1, x2]) ⟨none, none, rfl⟩ (fun _ _ _ _ => trivial) (fun i x δ μ' hx z => ?_) (fun δ μ' z => ?_)
  · obtain ⟨x1, x2, rfl⟩ := z
    have hi : x < 4 := by
      obtain ⟨h1, h2⟩ := List.getElem?_eq_some_iff.mp hx
      rw [List.getElem_range] at h2
      rw [List.length_range] at h1
      omega
    simp only [rgName, List.set_cons_succ, List.set_cons_zero]
    clear hNX
    refine seq_gen fun NY hNY => ?_
    simp only [rAsg, rCall, rCons, rVar, List.getElem?_cons_succ, List.getElem?_cons_zero, rNil, dCall]
    refine ⟨ns, _, rfl, by omega, by omega, fun p vs hp hv => ?_⟩
    simp only [rgName, List.set_cons_succ, List.set_cons_zero]
    subst hNY
    simp only [rIfS, rOr, rNot, rB, rCall, rCons, rVar, List.getElem?_cons_succ, List.getElem?_cons_zero, rNil, dCall]
    refine ⟨p, vs, 0, rfl, muSet_same, hv, by omega, fun v1 hv1 => ?_⟩
    simp only [asB, Bool.not_true, Bool.false_eq_true, if_false]
    refine ⟨p, v1, 10, rfl, muSet_same, hv1, by omega, fun v2 hv2 => ?_⟩
    simp only [asB, Bool.not_true, Bool.false_eq_true, if_false, rNext]
    exact ⟨_, _, rfl⟩
  · obtain ⟨x1, x2, rfl⟩ := z
    subst hNX
    dsimp only
    have o1 : PyData.strOk "True" = true := by decide +kernel
    have o2 : PyData.strOk "('zero',)" = true := by decide +kernel
    simp only [rRet, rAndV, rOp, rCall, rCons, rC, rNil, rTup, dCall]
    refine caught_kept (nm := "InvalidNumber") (by decide) shows_true (at1 (oEq_str o1 o1 ?_))
    simp only [decide_true, asB, if_true]
    refine ⟨by decide, caught_kept (nm := "Refused") (by decide) shows_zero (at1 (oEq_str o2 o2 ?_))⟩
    simp only [decide_true]
    exact ⟨_, Sub.refl _, h _⟩
theorem ok_law {f : Addr} {oc : Value} {od : Option Addr} {kV doc pm : Value} {an : Option Addr} {ct : Value} {osl : Array (Option Value)} (lk : K.lookup f = some ⟨oc, od, .func (PySem.W.fnOf "law" "law" (defArgs s_law) (defBody s_law) (defScope s_law) .none kV doc pm an (.ref c) ct), osl⟩) (hc : PySem.W.codeIn K (.ref c) "law" = true)
    (F1 : FnD P w K mg base "_law_pail" 1 d__law_pail) (G1 : FnG P w K mg base "_law_right" 8 d__law_right) (G2 : FnG P w K mg base "_law_caught" 7 d__law_caught) (T : Txt P K mg ex) (TB : LamX.TabB base mg c PT) :
    FnOkG P w K mg base 9 f (PySem.W.fnOf "law" "law" (defArgs s_law) (defBody s_law) (defScope s_law) .none kV doc pm an (.ref c) ct) ["_law_script"] (spOf K d_law) :=
  okG_of lk hc (b_law F1 G1 G2 T TB) sc_law (fun ds μ k h => by obtain ⟨_, rfl, _⟩ := h; rfl) fun ds μ k h => by
    obtain ⟨ns, rfl, hl, h⟩ := h
    exact vc_law hl h
end
end K00


set_option Elab.async false
set_option linter.all false
set_option maxRecDepth 100000
set_option maxHeartbeats 8000000
set_option autoImplicit false
namespace K00
open PySem PySem.Spec PyProof.Rows L2 SlX DL
/-! ### all put together -/

theorem kit_T {K : PySem.W.Frag} {C : Addr} {T : String} {b c : Bool} (u : PySem.W.subIn K (.ref C) (.type T) = some b) (m : PySem.W.kitMeta T = true) (e : b = c) : PySem.W.kitOne K (.ref C) (.type T) = some c := by
  subst e
  unfold PySem.W.kitOne
  rw [show (Value.ref C == Value.type T) = false from rfl]
  unfold PySem.W.kitCls
  simp [m, u]
theorem kit_C {K : PySem.W.Frag} {C R : Addr} {b c : Bool} (u : PySem.W.subIn K (.ref C) (.ref R) = some b) (r : PySem.W.subIn K (.ref R) (.ref R) = some true) (i : PySem.W.isClsIn K R = true) (t : PySem.W.typeIn K (.ref R) = some (.type "type")) (e : b = c) : PySem.W.kitOne K (.ref C) (.ref R) = some c := by
  subst e
  unfold PySem.W.kitOne
  by_cases h : C = R
  · subst h
    rw [if_pos (by simp), ← u, r]
  · rw [if_neg (by simp [h])]
    unfold PySem.W.kitCls
    simp [show (PySem.W.clsIn K R).isSome = true from i, t, u]
theorem fld_done : EX.FldOk "done" := ⟨rfl, rfl, rfl, rfl, by decide, by decide, by decide, fun _ _ _ _ _ _ _ _ _ _ _ _ => rfl⟩
theorem fld_given : EX.FldOk "given" := ⟨rfl, rfl, rfl, rfl, by decide, by decide, by decide, fun _ _ _ _ _ _ _ _ _ _ _ _ => rfl⟩
theorem fld_limit : EX.FldOk "limit" := ⟨rfl, rfl, rfl, rfl, by decide, by decide, by decide, fun _ _ _ _ _ _ _ _ _ _ _ _ => rfl⟩
theorem fld_reason : EX.FldOk "reason" := ⟨rfl, rfl, rfl, rfl, by decide, by decide, by decide, fun _ _ _ _ _ _ _ _ _ _ _ _ => rfl⟩
theorem fld_spot : EX.FldOk "spot" := ⟨rfl, rfl, rfl, rfl, by decide, by decide, by decide, fun _ _ _ _ _ _ _ _ _ _ _ _ => rfl⟩
theorem fld_wanted : EX.FldOk "wanted" := ⟨rfl, rfl, rfl, rfl, by decide, by decide, by decide, fun _ _ _ _ _ _ _ _ _ _ _ _ => rfl⟩
theorem all_mk {l : PySem.W.OpenLaw} {q : Program} {w : World} {K : PySem.W.Frag} {h : Heap} {mg : Str → Option Value} {fl f_0 f_1 f_2 f_3 f_4 f_5 f_6 co_6 tp_6 f_7 co_7 tp_7 f_8 co_8 tp_8 C_InvalidRow C_InvalidLot C_InvalidReading C_InvalidNetwork C_InvalidGrowth C_InvalidOperation C_InvalidText C_InvalidClaim C_RampError C_ParseError I_ParseError J_ParseError L_ParseError C_InvalidNumber I_InvalidNumber J_InvalidNumber L_InvalidNumber C_UnknownName I_UnknownName J_UnknownName L_UnknownName C_NothingToUndo I_NothingToUndo J_NothingToUndo L_NothingToUndo C_TooMany I_TooMany J_TooMany L_TooMany C_Refused I_Refused J_Refused L_Refused : Addr} (X : K.In h) (G : h.Ns mainGlobals mg) (hfa : mg "law" = some (.ref fl)) (TT : TabsAt q K mg h) 
    {od_0 an_0 od_1 an_1 od_2 an_2 od_3 an_3 od_4 an_4 od_5 an_5 od_6 an_6 cx_6 od_7 an_7 cx_7 od_8 an_8 cx_8 iod_ParseError ian_ParseError jd_ParseError ld_ParseError iod_InvalidNumber ian_InvalidNumber jd_InvalidNumber ld_InvalidNumber iod_UnknownName ian_UnknownName jd_UnknownName ld_UnknownName iod_NothingToUndo ian_NothingToUndo jd_NothingToUndo ld_NothingToUndo iod_TooMany ian_TooMany jd_TooMany ld_TooMany iod_Refused ian_Refused jd_Refused ld_Refused : Option Addr} {sl_0 sl_1 sl_2 sl_3 sl_4 sl_5 sl_6 cs_6 sl_7 cs_7 sl_8 cs_8 isl_ParseError js_ParseError ls_ParseError isl_InvalidNumber js_InvalidNumber ls_InvalidNumber isl_UnknownName js_UnknownName ls_UnknownName isl_NothingToUndo js_NothingToUndo ls_NothingToUndo isl_TooMany js_TooMany ls_TooMany isl_Refused js_Refused ls_Refused : Array (Option Value)} {oc_0 kV_0 dc_0 pm_0 ct_0 cd_0 oc_1 kV_1 dc_1 pm_1 ct_1 cd_1 oc_2 kV_2 dc_2 pm_2 ct_2 cd_2 oc_3 kV_3 dc_3 pm_3 ct_3 cd_3 oc_4 kV_4 dc_4 pm_4 ct_4 cd_4 oc_5 kV_5 dc_5 pm_5 ct_5 cd_5 oc_6 kV_6 dc_6 pm_6 ct_6 ce_6 oc_7 kV_7 dc_7 pm_7 ct_7 ce_7 oc_8 kV_8 dc_8 pm_8 ct_8 ce_8 io_ParseError idc_ParseError ipm_ParseError ict_ParseError jc_ParseError lc_ParseError io_InvalidNumber idc_InvalidNumber ipm_InvalidNumber ict_InvalidNumber jc_InvalidNumber lc_InvalidNumber io_UnknownName idc_UnknownName ipm_UnknownName ict_UnknownName jc_UnknownName lc_UnknownName io_NothingToUndo idc_NothingToUndo ipm_NothingToUndo ict_NothingToUndo jc_NothingToUndo lc_NothingToUndo io_TooMany idc_TooMany ipm_TooMany ict_TooMany jc_TooMany lc_TooMany io_Refused idc_Refused ipm_Refused ict_Refused jc_Refused lc_Refused : Value} {cu_6 cu_7 cu_8 ju_ParseError ju_InvalidNumber ju_UnknownName ju_NothingToUndo ju_TooMany ju_Refused : Array Value} {iq_ParseError fl_ParseError iq_InvalidNumber fl_InvalidNumber iq_UnknownName fl_UnknownName iq_NothingToUndo fl_NothingToUndo iq_TooMany fl_TooMany iq_Refused fl_Refused : Str} {tf_ParseError tf_InvalidNumber tf_UnknownName tf_NothingToUndo tf_TooMany tf_Refused : Tok} {p1_ParseError p2_ParseError p3_ParseError p4_ParseError p5_ParseError p6_ParseError p7_ParseError p8_ParseError p9_ParseError p10_ParseError p11_ParseError p12_ParseError p1_InvalidNumber p2_InvalidNumber p3_InvalidNumber p4_InvalidNumber p5_InvalidNumber p6_InvalidNumber p7_InvalidNumber p8_InvalidNumber p9_InvalidNumber p10_InvalidNumber p11_InvalidNumber p12_InvalidNumber p1_UnknownName p2_UnknownName p3_UnknownName p4_UnknownName p5_UnknownName p6_UnknownName p7_UnknownName p8_UnknownName p9_UnknownName p10_UnknownName p11_UnknownName p12_UnknownName p1_NothingToUndo p2_NothingToUndo p3_NothingToUndo p4_NothingToUndo p5_NothingToUndo p6_NothingToUndo p7_NothingToUndo p8_NothingToUndo p9_NothingToUndo p10_NothingToUndo p11_NothingToUndo p12_NothingToUndo p1_TooMany p2_TooMany p3_TooMany p4_TooMany p5_TooMany p6_TooMany p7_TooMany p8_TooMany p9_TooMany p10_TooMany p11_TooMany p12_TooMany p1_Refused p2_Refused p3_Refused p4_Refused p5_Refused p6_Refused p7_Refused p8_Refused p9_Refused p10_Refused p11_Refused p12_Refused : Pos}
    (a_0 : PySem.W.nsIn K mainGlobals "_law_pail" = some (some (.ref f_0)))
    (l_0 : K.lookup f_0 = some ⟨oc_0, od_0, .func (PySem.W.fnOf "_law_pail" "_law_pail" (defArgs s__law_pail) (defBody s__law_pail) (defScope s__law_pail) .none kV_0 dc_0 pm_0 an_0 cd_0 ct_0), sl_0⟩)
    (c_0 : PySem.W.codeIn K cd_0 "_law_pail" = true)
    (k_0 : PySem.W.keepIn K (.ref f_0) = true)
    (a_1 : PySem.W.nsIn K mainGlobals "_law_scooped" = some (some (.ref f_1)))
    (l_1 : K.lookup f_1 = some ⟨oc_1, od_1, .func (PySem.W.fnOf "_law_scooped" "_law_scooped" (defArgs s__law_scooped) (defBody s__law_scooped) (defScope s__law_scooped) .none kV_1 dc_1 pm_1 an_1 cd_1 ct_1), sl_1⟩)
    (c_1 : PySem.W.codeIn K cd_1 "_law_scooped" = true)
    (k_1 : PySem.W.keepIn K (.ref f_1) = true)
    (a_2 : PySem.W.nsIn K mainGlobals "_law_any_of" = some (some (.ref f_2)))
    (l_2 : K.lookup f_2 = some ⟨oc_2, od_2, .func (PySem.W.fnOf "_law_any_of" "_law_any_of" (defArgs s__law_any_of) (defBody s__law_any_of) (defScope s__law_any_of) .none kV_2 dc_2 pm_2 an_2 cd_2 ct_2), sl_2⟩)
    (c_2 : PySem.W.codeIn K cd_2 "_law_any_of" = true)
    (k_2 : PySem.W.keepIn K (.ref f_2) = true)
    (a_3 : PySem.W.nsIn K mainGlobals "_law_raise_kept" = some (some (.ref f_3)))
    (l_3 : K.lookup f_3 = some ⟨oc_3, od_3, .func (PySem.W.fnOf "_law_raise_kept" "_law_raise_kept" (defArgs s__law_raise_kept) (defBody s__law_raise_kept) (defScope s__law_raise_kept) .none kV_3 dc_3 pm_3 an_3 cd_3 ct_3), sl_3⟩)
    (c_3 : PySem.W.codeIn K cd_3 "_law_raise_kept" = true)
    (k_3 : PySem.W.keepIn K (.ref f_3) = true)
    (a_4 : PySem.W.nsIn K mainGlobals "_law_raise" = some (some (.ref f_4)))
    (l_4 : K.lookup f_4 = some ⟨oc_4, od_4, .func (PySem.W.fnOf "_law_raise" "_law_raise" (defArgs s__law_raise) (defBody s__law_raise) (defScope s__law_raise) .none kV_4 dc_4 pm_4 an_4 cd_4 ct_4), sl_4⟩)
    (c_4 : PySem.W.codeIn K cd_4 "_law_raise" = true)
    (k_4 : PySem.W.keepIn K (.ref f_4) = true)
    (a_5 : PySem.W.nsIn K mainGlobals "_law_roots" = some (some (.ref f_5)))
    (l_5 : K.lookup f_5 = some ⟨oc_5, od_5, .func (PySem.W.fnOf "_law_roots" "_law_roots" (defArgs s__law_roots) (defBody s__law_roots) (defScope s__law_roots) .none kV_5 dc_5 pm_5 an_5 cd_5 ct_5), sl_5⟩)
    (c_5 : PySem.W.codeIn K cd_5 "_law_roots" = true)
    (k_5 : PySem.W.keepIn K (.ref f_5) = true)
    (a_6 : PySem.W.nsIn K mainGlobals "_law_caught" = some (some (.ref f_6)))
    (l_6 : K.lookup f_6 = some ⟨oc_6, od_6, .func (PySem.W.fnOf "_law_caught" "_law_caught" (defArgs s__law_caught) (defBody s__law_caught) (defScope s__law_caught) .none kV_6 dc_6 pm_6 an_6 (.ref co_6) ct_6), sl_6⟩)
    (c_6 : PySem.W.codeIn K (.ref co_6) "_law_caught" = true)
    (k_6 : PySem.W.keepIn K (.ref f_6) = true)
    (q_6 : K.lookup co_6 = some ⟨ce_6, cx_6, .fields cu_6, cs_6⟩)
    (u_6 : cu_6[11]? = some (.ref tp_6))
    (o_6 : K.lookup tp_6 = none)
    (r_6 : ((recsOf q).any fun r => r.name == ("_law_caught" : Str)) = true)
    (a_7 : PySem.W.nsIn K mainGlobals "_law_right" = some (some (.ref f_7)))
    (l_7 : K.lookup f_7 = some ⟨oc_7, od_7, .func (PySem.W.fnOf "_law_right" "_law_right" (defArgs s__law_right) (defBody s__law_right) (defScope s__law_right) .none kV_7 dc_7 pm_7 an_7 (.ref co_7) ct_7), sl_7⟩)
    (c_7 : PySem.W.codeIn K (.ref co_7) "_law_right" = true)
    (k_7 : PySem.W.keepIn K (.ref f_7) = true)
    (q_7 : K.lookup co_7 = some ⟨ce_7, cx_7, .fields cu_7, cs_7⟩)
    (u_7 : cu_7[11]? = some (.ref tp_7))
    (o_7 : K.lookup tp_7 = none)
    (r_7 : ((recsOf q).any fun r => r.name == ("_law_right" : Str)) = true)
    (a_8 : PySem.W.nsIn K mainGlobals "law" = some (some (.ref f_8)))
    (l_8 : K.lookup f_8 = some ⟨oc_8, od_8, .func (PySem.W.fnOf "law" "law" (defArgs s_law) (defBody s_law) (defScope s_law) .none kV_8 dc_8 pm_8 an_8 (.ref co_8) ct_8), sl_8⟩)
    (c_8 : PySem.W.codeIn K (.ref co_8) "law" = true)
    (k_8 : PySem.W.keepIn K (.ref f_8) = true)
    (q_8 : K.lookup co_8 = some ⟨ce_8, cx_8, .fields cu_8, cs_8⟩)
    (u_8 : cu_8[11]? = some (.ref tp_8))
    (o_8 : K.lookup tp_8 = none)
    (r_8 : ((recsOf q).any fun r => r.name == ("law" : Str)) = true)
    (nd : ([tp_6, tp_7, tp_8] : List Addr).Nodup)
    (ca_InvalidRow : PySem.W.nsIn K mainGlobals "InvalidRow" = some (some (.ref C_InvalidRow)))
    (cx_InvalidRow : PySem.W.excIn K C_InvalidRow [.type "ValueError", .type "Exception", .type "BaseException", .type "object"] "ValueError.__new__" = true)
    (ck_InvalidRow : PySem.W.keepIn K (.ref C_InvalidRow) = true)
    (cb_InvalidRow : PySem.W.subIn K (.ref C_InvalidRow) (.type "BaseException") = some true)
    (ct_InvalidRow : PySem.W.typeIn K (.ref C_InvalidRow) = some (.type "type"))
    (ci_InvalidRow : PySem.W.isClsIn K C_InvalidRow = true)
    (ca_InvalidLot : PySem.W.nsIn K mainGlobals "InvalidLot" = some (some (.ref C_InvalidLot)))
    (cx_InvalidLot : PySem.W.excIn K C_InvalidLot [.type "ValueError", .type "Exception", .type "BaseException", .type "object"] "ValueError.__new__" = true)
    (ck_InvalidLot : PySem.W.keepIn K (.ref C_InvalidLot) = true)
    (cb_InvalidLot : PySem.W.subIn K (.ref C_InvalidLot) (.type "BaseException") = some true)
    (ct_InvalidLot : PySem.W.typeIn K (.ref C_InvalidLot) = some (.type "type"))
    (ci_InvalidLot : PySem.W.isClsIn K C_InvalidLot = true)
    (ca_InvalidReading : PySem.W.nsIn K mainGlobals "InvalidReading" = some (some (.ref C_InvalidReading)))
    (cx_InvalidReading : PySem.W.excIn K C_InvalidReading [.type "ValueError", .type "Exception", .type "BaseException", .type "object"] "ValueError.__new__" = true)
    (ck_InvalidReading : PySem.W.keepIn K (.ref C_InvalidReading) = true)
    (cb_InvalidReading : PySem.W.subIn K (.ref C_InvalidReading) (.type "BaseException") = some true)
    (ct_InvalidReading : PySem.W.typeIn K (.ref C_InvalidReading) = some (.type "type"))
    (ci_InvalidReading : PySem.W.isClsIn K C_InvalidReading = true)
    (ca_InvalidNetwork : PySem.W.nsIn K mainGlobals "InvalidNetwork" = some (some (.ref C_InvalidNetwork)))
    (cx_InvalidNetwork : PySem.W.excIn K C_InvalidNetwork [.type "ValueError", .type "Exception", .type "BaseException", .type "object"] "ValueError.__new__" = true)
    (ck_InvalidNetwork : PySem.W.keepIn K (.ref C_InvalidNetwork) = true)
    (cb_InvalidNetwork : PySem.W.subIn K (.ref C_InvalidNetwork) (.type "BaseException") = some true)
    (ct_InvalidNetwork : PySem.W.typeIn K (.ref C_InvalidNetwork) = some (.type "type"))
    (ci_InvalidNetwork : PySem.W.isClsIn K C_InvalidNetwork = true)
    (ca_InvalidGrowth : PySem.W.nsIn K mainGlobals "InvalidGrowth" = some (some (.ref C_InvalidGrowth)))
    (cx_InvalidGrowth : PySem.W.excIn K C_InvalidGrowth [.type "ValueError", .type "Exception", .type "BaseException", .type "object"] "ValueError.__new__" = true)
    (ck_InvalidGrowth : PySem.W.keepIn K (.ref C_InvalidGrowth) = true)
    (cb_InvalidGrowth : PySem.W.subIn K (.ref C_InvalidGrowth) (.type "BaseException") = some true)
    (ct_InvalidGrowth : PySem.W.typeIn K (.ref C_InvalidGrowth) = some (.type "type"))
    (ci_InvalidGrowth : PySem.W.isClsIn K C_InvalidGrowth = true)
    (ca_InvalidOperation : PySem.W.nsIn K mainGlobals "InvalidOperation" = some (some (.ref C_InvalidOperation)))
    (cx_InvalidOperation : PySem.W.excIn K C_InvalidOperation [.type "ValueError", .type "Exception", .type "BaseException", .type "object"] "ValueError.__new__" = true)
    (ck_InvalidOperation : PySem.W.keepIn K (.ref C_InvalidOperation) = true)
    (cb_InvalidOperation : PySem.W.subIn K (.ref C_InvalidOperation) (.type "BaseException") = some true)
    (ct_InvalidOperation : PySem.W.typeIn K (.ref C_InvalidOperation) = some (.type "type"))
    (ci_InvalidOperation : PySem.W.isClsIn K C_InvalidOperation = true)
    (ca_InvalidText : PySem.W.nsIn K mainGlobals "InvalidText" = some (some (.ref C_InvalidText)))
    (cx_InvalidText : PySem.W.excIn K C_InvalidText [.type "ValueError", .type "Exception", .type "BaseException", .type "object"] "ValueError.__new__" = true)
    (ck_InvalidText : PySem.W.keepIn K (.ref C_InvalidText) = true)
    (cb_InvalidText : PySem.W.subIn K (.ref C_InvalidText) (.type "BaseException") = some true)
    (ct_InvalidText : PySem.W.typeIn K (.ref C_InvalidText) = some (.type "type"))
    (ci_InvalidText : PySem.W.isClsIn K C_InvalidText = true)
    (ca_InvalidClaim : PySem.W.nsIn K mainGlobals "InvalidClaim" = some (some (.ref C_InvalidClaim)))
    (cx_InvalidClaim : PySem.W.excIn K C_InvalidClaim [.type "ValueError", .type "Exception", .type "BaseException", .type "object"] "ValueError.__new__" = true)
    (ck_InvalidClaim : PySem.W.keepIn K (.ref C_InvalidClaim) = true)
    (cb_InvalidClaim : PySem.W.subIn K (.ref C_InvalidClaim) (.type "BaseException") = some true)
    (ct_InvalidClaim : PySem.W.typeIn K (.ref C_InvalidClaim) = some (.type "type"))
    (ci_InvalidClaim : PySem.W.isClsIn K C_InvalidClaim = true)
    (ca_RampError : PySem.W.nsIn K mainGlobals "RampError" = some (some (.ref C_RampError)))
    (cx_RampError : PySem.W.excIn K C_RampError [.type "ValueError", .type "Exception", .type "BaseException", .type "object"] "ValueError.__new__" = true)
    (ck_RampError : PySem.W.keepIn K (.ref C_RampError) = true)
    (cb_RampError : PySem.W.subIn K (.ref C_RampError) (.type "BaseException") = some true)
    (ct_RampError : PySem.W.typeIn K (.ref C_RampError) = some (.type "type"))
    (ci_RampError : PySem.W.isClsIn K C_RampError = true)
    (ca_ParseError : PySem.W.nsIn K mainGlobals "ParseError" = some (some (.ref C_ParseError)))
    (ck_ParseError : PySem.W.keepIn K (.ref C_ParseError) = true)
    (cb_ParseError : PySem.W.subIn K (.ref C_ParseError) (.type "BaseException") = some true)
    (ct_ParseError : PySem.W.typeIn K (.ref C_ParseError) = some (.type "type"))
    (ci_ParseError : PySem.W.isClsIn K C_ParseError = true)
    (ei_ParseError : PySem.W.excInitIn K C_ParseError [.type "ValueError", .type "Exception", .type "BaseException", .type "object"] "ValueError.__new__" = true)
    (eo_ParseError : PySem.W.excOver K C_ParseError [.type "ValueError", .type "Exception", .type "BaseException", .type "object"] = true)
    (es_ParseError : PySem.W.ks_superIn K C_ParseError C_ParseError "__init__" = some (some (.builtin "ValueError.__init__")))
    (e1_ParseError : PySem.W.findIn K (.ref C_ParseError) "__setattr__" = some (some (.builtin "object.__setattr__")))
    (e2_ParseError : PySem.W.findIn K (.ref C_ParseError) "__getattribute__" = some (some (.builtin "BaseException.__getattribute__")))
    (e3_ParseError : PySem.W.findIn K (.ref C_ParseError) "__getattr__" = some none)
    (e4_ParseError : PySem.W.findIn K (.ref C_ParseError) "spot" = some none)
    (e5_ParseError : PySem.W.findIn K (.ref C_ParseError) "__init__" = some (some (.ref I_ParseError)))
    (e6_ParseError : PySem.W.typeIn K (.ref I_ParseError) = some (.type "function"))
    (e7_ParseError : PySem.W.hasDictIn K C_ParseError = true)
    (e8_ParseError : PySem.W.mroIn K C_ParseError (.ref C_ParseError) = some true)
    (e9_ParseError : PySem.W.subIn K (.ref C_ParseError) (.type "ValueError") = some true)
    (il_ParseError : K.lookup I_ParseError = some ⟨io_ParseError, iod_ParseError, .func (PySem.W.ksFn "__init__" iq_ParseError (EX.iA "spot" p1_ParseError p2_ParseError) (EX.iB "spot" p3_ParseError p4_ParseError p5_ParseError p6_ParseError p7_ParseError p8_ParseError p9_ParseError p10_ParseError p11_ParseError p12_ParseError) (EX.iS "spot") .none .none idc_ParseError ipm_ParseError ian_ParseError (.ref J_ParseError) ict_ParseError L_ParseError), isl_ParseError⟩)
    (ic_ParseError : PySem.W.codeIn K (.ref J_ParseError) iq_ParseError = true)
    (ip_ParseError : (p5_ParseError.endLine == p7_ParseError.line) = true)
    (jl_ParseError : K.lookup J_ParseError = some ⟨jc_ParseError, jd_ParseError, .fields ju_ParseError, js_ParseError⟩)
    (ju2_ParseError : ju_ParseError[2]? = some (.str fl_ParseError tf_ParseError))
    (jf_ParseError : ((l.prog.main.file : Str) == fl_ParseError) = true)
    (ll_ParseError : K.lookup L_ParseError = some ⟨lc_ParseError, ld_ParseError, .cell (some (.ref C_ParseError)), ls_ParseError⟩)
    (ca_InvalidNumber : PySem.W.nsIn K mainGlobals "InvalidNumber" = some (some (.ref C_InvalidNumber)))
    (ck_InvalidNumber : PySem.W.keepIn K (.ref C_InvalidNumber) = true)
    (cb_InvalidNumber : PySem.W.subIn K (.ref C_InvalidNumber) (.type "BaseException") = some true)
    (ct_InvalidNumber : PySem.W.typeIn K (.ref C_InvalidNumber) = some (.type "type"))
    (ci_InvalidNumber : PySem.W.isClsIn K C_InvalidNumber = true)
    (ei_InvalidNumber : PySem.W.excInitIn K C_InvalidNumber [.type "IndexError", .type "LookupError", .type "Exception", .type "BaseException", .type "object"] "IndexError.__new__" = true)
    (eo_InvalidNumber : PySem.W.excOver K C_InvalidNumber [.type "IndexError", .type "LookupError", .type "Exception", .type "BaseException", .type "object"] = true)
    (es_InvalidNumber : PySem.W.ks_superIn K C_InvalidNumber C_InvalidNumber "__init__" = some (some (.builtin "IndexError.__init__")))
    (e1_InvalidNumber : PySem.W.findIn K (.ref C_InvalidNumber) "__setattr__" = some (some (.builtin "object.__setattr__")))
    (e2_InvalidNumber : PySem.W.findIn K (.ref C_InvalidNumber) "__getattribute__" = some (some (.builtin "BaseException.__getattribute__")))
    (e3_InvalidNumber : PySem.W.findIn K (.ref C_InvalidNumber) "__getattr__" = some none)
    (e4_InvalidNumber : PySem.W.findIn K (.ref C_InvalidNumber) "given" = some none)
    (e5_InvalidNumber : PySem.W.findIn K (.ref C_InvalidNumber) "__init__" = some (some (.ref I_InvalidNumber)))
    (e6_InvalidNumber : PySem.W.typeIn K (.ref I_InvalidNumber) = some (.type "function"))
    (e7_InvalidNumber : PySem.W.hasDictIn K C_InvalidNumber = true)
    (e8_InvalidNumber : PySem.W.mroIn K C_InvalidNumber (.ref C_InvalidNumber) = some true)
    (e9_InvalidNumber : PySem.W.subIn K (.ref C_InvalidNumber) (.type "IndexError") = some true)
    (il_InvalidNumber : K.lookup I_InvalidNumber = some ⟨io_InvalidNumber, iod_InvalidNumber, .func (PySem.W.ksFn "__init__" iq_InvalidNumber (EX.iA "given" p1_InvalidNumber p2_InvalidNumber) (EX.iB "given" p3_InvalidNumber p4_InvalidNumber p5_InvalidNumber p6_InvalidNumber p7_InvalidNumber p8_InvalidNumber p9_InvalidNumber p10_InvalidNumber p11_InvalidNumber p12_InvalidNumber) (EX.iS "given") .none .none idc_InvalidNumber ipm_InvalidNumber ian_InvalidNumber (.ref J_InvalidNumber) ict_InvalidNumber L_InvalidNumber), isl_InvalidNumber⟩)
    (ic_InvalidNumber : PySem.W.codeIn K (.ref J_InvalidNumber) iq_InvalidNumber = true)
    (ip_InvalidNumber : (p5_InvalidNumber.endLine == p7_InvalidNumber.line) = true)
    (jl_InvalidNumber : K.lookup J_InvalidNumber = some ⟨jc_InvalidNumber, jd_InvalidNumber, .fields ju_InvalidNumber, js_InvalidNumber⟩)
    (ju2_InvalidNumber : ju_InvalidNumber[2]? = some (.str fl_InvalidNumber tf_InvalidNumber))
    (jf_InvalidNumber : ((l.prog.main.file : Str) == fl_InvalidNumber) = true)
    (ll_InvalidNumber : K.lookup L_InvalidNumber = some ⟨lc_InvalidNumber, ld_InvalidNumber, .cell (some (.ref C_InvalidNumber)), ls_InvalidNumber⟩)
    (ca_UnknownName : PySem.W.nsIn K mainGlobals "UnknownName" = some (some (.ref C_UnknownName)))
    (ck_UnknownName : PySem.W.keepIn K (.ref C_UnknownName) = true)
    (cb_UnknownName : PySem.W.subIn K (.ref C_UnknownName) (.type "BaseException") = some true)
    (ct_UnknownName : PySem.W.typeIn K (.ref C_UnknownName) = some (.type "type"))
    (ci_UnknownName : PySem.W.isClsIn K C_UnknownName = true)
    (ei_UnknownName : PySem.W.excInitIn K C_UnknownName [.type "KeyError", .type "LookupError", .type "Exception", .type "BaseException", .type "object"] "LookupError.__new__" = true)
    (eo_UnknownName : PySem.W.excOver K C_UnknownName [.type "KeyError", .type "LookupError", .type "Exception", .type "BaseException", .type "object"] = true)
    (es_UnknownName : PySem.W.ks_superIn K C_UnknownName C_UnknownName "__init__" = some (some (.builtin "KeyError.__init__")))
    (e1_UnknownName : PySem.W.findIn K (.ref C_UnknownName) "__setattr__" = some (some (.builtin "object.__setattr__")))
    (e2_UnknownName : PySem.W.findIn K (.ref C_UnknownName) "__getattribute__" = some (some (.builtin "BaseException.__getattribute__")))
    (e3_UnknownName : PySem.W.findIn K (.ref C_UnknownName) "__getattr__" = some none)
    (e4_UnknownName : PySem.W.findIn K (.ref C_UnknownName) "wanted" = some none)
    (e5_UnknownName : PySem.W.findIn K (.ref C_UnknownName) "__init__" = some (some (.ref I_UnknownName)))
    (e6_UnknownName : PySem.W.typeIn K (.ref I_UnknownName) = some (.type "function"))
    (e7_UnknownName : PySem.W.hasDictIn K C_UnknownName = true)
    (e8_UnknownName : PySem.W.mroIn K C_UnknownName (.ref C_UnknownName) = some true)
    (e9_UnknownName : PySem.W.subIn K (.ref C_UnknownName) (.type "KeyError") = some true)
    (il_UnknownName : K.lookup I_UnknownName = some ⟨io_UnknownName, iod_UnknownName, .func (PySem.W.ksFn "__init__" iq_UnknownName (EX.iA "wanted" p1_UnknownName p2_UnknownName) (EX.iB "wanted" p3_UnknownName p4_UnknownName p5_UnknownName p6_UnknownName p7_UnknownName p8_UnknownName p9_UnknownName p10_UnknownName p11_UnknownName p12_UnknownName) (EX.iS "wanted") .none .none idc_UnknownName ipm_UnknownName ian_UnknownName (.ref J_UnknownName) ict_UnknownName L_UnknownName), isl_UnknownName⟩)
    (ic_UnknownName : PySem.W.codeIn K (.ref J_UnknownName) iq_UnknownName = true)
    (ip_UnknownName : (p5_UnknownName.endLine == p7_UnknownName.line) = true)
    (jl_UnknownName : K.lookup J_UnknownName = some ⟨jc_UnknownName, jd_UnknownName, .fields ju_UnknownName, js_UnknownName⟩)
    (ju2_UnknownName : ju_UnknownName[2]? = some (.str fl_UnknownName tf_UnknownName))
    (jf_UnknownName : ((l.prog.main.file : Str) == fl_UnknownName) = true)
    (ll_UnknownName : K.lookup L_UnknownName = some ⟨lc_UnknownName, ld_UnknownName, .cell (some (.ref C_UnknownName)), ls_UnknownName⟩)
    (ca_NothingToUndo : PySem.W.nsIn K mainGlobals "NothingToUndo" = some (some (.ref C_NothingToUndo)))
    (ck_NothingToUndo : PySem.W.keepIn K (.ref C_NothingToUndo) = true)
    (cb_NothingToUndo : PySem.W.subIn K (.ref C_NothingToUndo) (.type "BaseException") = some true)
    (ct_NothingToUndo : PySem.W.typeIn K (.ref C_NothingToUndo) = some (.type "type"))
    (ci_NothingToUndo : PySem.W.isClsIn K C_NothingToUndo = true)
    (ei_NothingToUndo : PySem.W.excInitIn K C_NothingToUndo [.type "LookupError", .type "Exception", .type "BaseException", .type "object"] "LookupError.__new__" = true)
    (eo_NothingToUndo : PySem.W.excOver K C_NothingToUndo [.type "LookupError", .type "Exception", .type "BaseException", .type "object"] = true)
    (es_NothingToUndo : PySem.W.ks_superIn K C_NothingToUndo C_NothingToUndo "__init__" = some (some (.builtin "LookupError.__init__")))
    (e1_NothingToUndo : PySem.W.findIn K (.ref C_NothingToUndo) "__setattr__" = some (some (.builtin "object.__setattr__")))
    (e2_NothingToUndo : PySem.W.findIn K (.ref C_NothingToUndo) "__getattribute__" = some (some (.builtin "BaseException.__getattribute__")))
    (e3_NothingToUndo : PySem.W.findIn K (.ref C_NothingToUndo) "__getattr__" = some none)
    (e4_NothingToUndo : PySem.W.findIn K (.ref C_NothingToUndo) "done" = some none)
    (e5_NothingToUndo : PySem.W.findIn K (.ref C_NothingToUndo) "__init__" = some (some (.ref I_NothingToUndo)))
    (e6_NothingToUndo : PySem.W.typeIn K (.ref I_NothingToUndo) = some (.type "function"))
    (e7_NothingToUndo : PySem.W.hasDictIn K C_NothingToUndo = true)
    (e8_NothingToUndo : PySem.W.mroIn K C_NothingToUndo (.ref C_NothingToUndo) = some true)
    (e9_NothingToUndo : PySem.W.subIn K (.ref C_NothingToUndo) (.type "LookupError") = some true)
    (il_NothingToUndo : K.lookup I_NothingToUndo = some ⟨io_NothingToUndo, iod_NothingToUndo, .func (PySem.W.ksFn "__init__" iq_NothingToUndo (EX.iA "done" p1_NothingToUndo p2_NothingToUndo) (EX.iB "done" p3_NothingToUndo p4_NothingToUndo p5_NothingToUndo p6_NothingToUndo p7_NothingToUndo p8_NothingToUndo p9_NothingToUndo p10_NothingToUndo p11_NothingToUndo p12_NothingToUndo) (EX.iS "done") .none .none idc_NothingToUndo ipm_NothingToUndo ian_NothingToUndo (.ref J_NothingToUndo) ict_NothingToUndo L_NothingToUndo), isl_NothingToUndo⟩)
    (ic_NothingToUndo : PySem.W.codeIn K (.ref J_NothingToUndo) iq_NothingToUndo = true)
    (ip_NothingToUndo : (p5_NothingToUndo.endLine == p7_NothingToUndo.line) = true)
    (jl_NothingToUndo : K.lookup J_NothingToUndo = some ⟨jc_NothingToUndo, jd_NothingToUndo, .fields ju_NothingToUndo, js_NothingToUndo⟩)
    (ju2_NothingToUndo : ju_NothingToUndo[2]? = some (.str fl_NothingToUndo tf_NothingToUndo))
    (jf_NothingToUndo : ((l.prog.main.file : Str) == fl_NothingToUndo) = true)
    (ll_NothingToUndo : K.lookup L_NothingToUndo = some ⟨lc_NothingToUndo, ld_NothingToUndo, .cell (some (.ref C_NothingToUndo)), ls_NothingToUndo⟩)
    (ca_TooMany : PySem.W.nsIn K mainGlobals "TooMany" = some (some (.ref C_TooMany)))
    (ck_TooMany : PySem.W.keepIn K (.ref C_TooMany) = true)
    (cb_TooMany : PySem.W.subIn K (.ref C_TooMany) (.type "BaseException") = some true)
    (ct_TooMany : PySem.W.typeIn K (.ref C_TooMany) = some (.type "type"))
    (ci_TooMany : PySem.W.isClsIn K C_TooMany = true)
    (ei_TooMany : PySem.W.excInitIn K C_TooMany [.type "OverflowError", .type "ArithmeticError", .type "Exception", .type "BaseException", .type "object"] "OverflowError.__new__" = true)
    (eo_TooMany : PySem.W.excOver K C_TooMany [.type "OverflowError", .type "ArithmeticError", .type "Exception", .type "BaseException", .type "object"] = true)
    (es_TooMany : PySem.W.ks_superIn K C_TooMany C_TooMany "__init__" = some (some (.builtin "OverflowError.__init__")))
    (e1_TooMany : PySem.W.findIn K (.ref C_TooMany) "__setattr__" = some (some (.builtin "object.__setattr__")))
    (e2_TooMany : PySem.W.findIn K (.ref C_TooMany) "__getattribute__" = some (some (.builtin "BaseException.__getattribute__")))
    (e3_TooMany : PySem.W.findIn K (.ref C_TooMany) "__getattr__" = some none)
    (e4_TooMany : PySem.W.findIn K (.ref C_TooMany) "limit" = some none)
    (e5_TooMany : PySem.W.findIn K (.ref C_TooMany) "__init__" = some (some (.ref I_TooMany)))
    (e6_TooMany : PySem.W.typeIn K (.ref I_TooMany) = some (.type "function"))
    (e7_TooMany : PySem.W.hasDictIn K C_TooMany = true)
    (e8_TooMany : PySem.W.mroIn K C_TooMany (.ref C_TooMany) = some true)
    (e9_TooMany : PySem.W.subIn K (.ref C_TooMany) (.type "OverflowError") = some true)
    (il_TooMany : K.lookup I_TooMany = some ⟨io_TooMany, iod_TooMany, .func (PySem.W.ksFn "__init__" iq_TooMany (EX.iA "limit" p1_TooMany p2_TooMany) (EX.iB "limit" p3_TooMany p4_TooMany p5_TooMany p6_TooMany p7_TooMany p8_TooMany p9_TooMany p10_TooMany p11_TooMany p12_TooMany) (EX.iS "limit") .none .none idc_TooMany ipm_TooMany ian_TooMany (.ref J_TooMany) ict_TooMany L_TooMany), isl_TooMany⟩)
    (ic_TooMany : PySem.W.codeIn K (.ref J_TooMany) iq_TooMany = true)
    (ip_TooMany : (p5_TooMany.endLine == p7_TooMany.line) = true)
    (jl_TooMany : K.lookup J_TooMany = some ⟨jc_TooMany, jd_TooMany, .fields ju_TooMany, js_TooMany⟩)
    (ju2_TooMany : ju_TooMany[2]? = some (.str fl_TooMany tf_TooMany))
    (jf_TooMany : ((l.prog.main.file : Str) == fl_TooMany) = true)
    (ll_TooMany : K.lookup L_TooMany = some ⟨lc_TooMany, ld_TooMany, .cell (some (.ref C_TooMany)), ls_TooMany⟩)
    (ca_Refused : PySem.W.nsIn K mainGlobals "Refused" = some (some (.ref C_Refused)))
    (ck_Refused : PySem.W.keepIn K (.ref C_Refused) = true)
    (cb_Refused : PySem.W.subIn K (.ref C_Refused) (.type "BaseException") = some true)
    (ct_Refused : PySem.W.typeIn K (.ref C_Refused) = some (.type "type"))
    (ci_Refused : PySem.W.isClsIn K C_Refused = true)
    (ei_Refused : PySem.W.excInitIn K C_Refused [.type "ArithmeticError", .type "Exception", .type "BaseException", .type "object"] "ArithmeticError.__new__" = true)
    (eo_Refused : PySem.W.excOver K C_Refused [.type "ArithmeticError", .type "Exception", .type "BaseException", .type "object"] = true)
    (es_Refused : PySem.W.ks_superIn K C_Refused C_Refused "__init__" = some (some (.builtin "ArithmeticError.__init__")))
    (e1_Refused : PySem.W.findIn K (.ref C_Refused) "__setattr__" = some (some (.builtin "object.__setattr__")))
    (e2_Refused : PySem.W.findIn K (.ref C_Refused) "__getattribute__" = some (some (.builtin "BaseException.__getattribute__")))
    (e3_Refused : PySem.W.findIn K (.ref C_Refused) "__getattr__" = some none)
    (e4_Refused : PySem.W.findIn K (.ref C_Refused) "reason" = some none)
    (e5_Refused : PySem.W.findIn K (.ref C_Refused) "__init__" = some (some (.ref I_Refused)))
    (e6_Refused : PySem.W.typeIn K (.ref I_Refused) = some (.type "function"))
    (e7_Refused : PySem.W.hasDictIn K C_Refused = true)
    (e8_Refused : PySem.W.mroIn K C_Refused (.ref C_Refused) = some true)
    (e9_Refused : PySem.W.subIn K (.ref C_Refused) (.type "ArithmeticError") = some true)
    (il_Refused : K.lookup I_Refused = some ⟨io_Refused, iod_Refused, .func (PySem.W.ksFn "__init__" iq_Refused (EX.iA "reason" p1_Refused p2_Refused) (EX.iB "reason" p3_Refused p4_Refused p5_Refused p6_Refused p7_Refused p8_Refused p9_Refused p10_Refused p11_Refused p12_Refused) (EX.iS "reason") .none .none idc_Refused ipm_Refused ian_Refused (.ref J_Refused) ict_Refused L_Refused), isl_Refused⟩)
    (ic_Refused : PySem.W.codeIn K (.ref J_Refused) iq_Refused = true)
    (ip_Refused : (p5_Refused.endLine == p7_Refused.line) = true)
    (jl_Refused : K.lookup J_Refused = some ⟨jc_Refused, jd_Refused, .fields ju_Refused, js_Refused⟩)
    (ju2_Refused : ju_Refused[2]? = some (.str fl_Refused tf_Refused))
    (jf_Refused : ((l.prog.main.file : Str) == fl_Refused) = true)
    (ll_Refused : K.lookup L_Refused = some ⟨lc_Refused, ld_Refused, .cell (some (.ref C_Refused)), ls_Refused⟩)
    (s_InvalidRow_InvalidRow : PySem.W.subIn K (.ref C_InvalidRow) (.ref C_InvalidRow) = some true)
    (s_InvalidRow_InvalidLot : PySem.W.subIn K (.ref C_InvalidRow) (.ref C_InvalidLot) = some false)
    (s_InvalidRow_InvalidReading : PySem.W.subIn K (.ref C_InvalidRow) (.ref C_InvalidReading) = some false)
    (s_InvalidRow_InvalidNetwork : PySem.W.subIn K (.ref C_InvalidRow) (.ref C_InvalidNetwork) = some false)
    (s_InvalidRow_InvalidGrowth : PySem.W.subIn K (.ref C_InvalidRow) (.ref C_InvalidGrowth) = some false)
    (s_InvalidRow_InvalidOperation : PySem.W.subIn K (.ref C_InvalidRow) (.ref C_InvalidOperation) = some false)
    (s_InvalidRow_InvalidText : PySem.W.subIn K (.ref C_InvalidRow) (.ref C_InvalidText) = some false)
    (s_InvalidRow_InvalidClaim : PySem.W.subIn K (.ref C_InvalidRow) (.ref C_InvalidClaim) = some false)
    (s_InvalidRow_RampError : PySem.W.subIn K (.ref C_InvalidRow) (.ref C_RampError) = some true)
    (s_InvalidRow_ParseError : PySem.W.subIn K (.ref C_InvalidRow) (.ref C_ParseError) = some false)
    (s_InvalidRow_InvalidNumber : PySem.W.subIn K (.ref C_InvalidRow) (.ref C_InvalidNumber) = some false)
    (s_InvalidRow_UnknownName : PySem.W.subIn K (.ref C_InvalidRow) (.ref C_UnknownName) = some false)
    (s_InvalidRow_NothingToUndo : PySem.W.subIn K (.ref C_InvalidRow) (.ref C_NothingToUndo) = some false)
    (s_InvalidRow_TooMany : PySem.W.subIn K (.ref C_InvalidRow) (.ref C_TooMany) = some false)
    (s_InvalidRow_Refused : PySem.W.subIn K (.ref C_InvalidRow) (.ref C_Refused) = some false)
    (s_InvalidLot_InvalidRow : PySem.W.subIn K (.ref C_InvalidLot) (.ref C_InvalidRow) = some false)
    (s_InvalidLot_InvalidLot : PySem.W.subIn K (.ref C_InvalidLot) (.ref C_InvalidLot) = some true)
    (s_InvalidLot_InvalidReading : PySem.W.subIn K (.ref C_InvalidLot) (.ref C_InvalidReading) = some false)
    (s_InvalidLot_InvalidNetwork : PySem.W.subIn K (.ref C_InvalidLot) (.ref C_InvalidNetwork) = some false)
    (s_InvalidLot_InvalidGrowth : PySem.W.subIn K (.ref C_InvalidLot) (.ref C_InvalidGrowth) = some false)
    (s_InvalidLot_InvalidOperation : PySem.W.subIn K (.ref C_InvalidLot) (.ref C_InvalidOperation) = some false)
    (s_InvalidLot_InvalidText : PySem.W.subIn K (.ref C_InvalidLot) (.ref C_InvalidText) = some false)
    (s_InvalidLot_InvalidClaim : PySem.W.subIn K (.ref C_InvalidLot) (.ref C_InvalidClaim) = some false)
    (s_InvalidLot_RampError : PySem.W.subIn K (.ref C_InvalidLot) (.ref C_RampError) = some true)
    (s_InvalidLot_ParseError : PySem.W.subIn K (.ref C_InvalidLot) (.ref C_ParseError) = some false)
    (s_InvalidLot_InvalidNumber : PySem.W.subIn K (.ref C_InvalidLot) (.ref C_InvalidNumber) = some false)
    (s_InvalidLot_UnknownName : PySem.W.subIn K (.ref C_InvalidLot) (.ref C_UnknownName) = some false)
    (s_InvalidLot_NothingToUndo : PySem.W.subIn K (.ref C_InvalidLot) (.ref C_NothingToUndo) = some false)
    (s_InvalidLot_TooMany : PySem.W.subIn K (.ref C_InvalidLot) (.ref C_TooMany) = some false)
    (s_InvalidLot_Refused : PySem.W.subIn K (.ref C_InvalidLot) (.ref C_Refused) = some false)
    (s_InvalidReading_InvalidRow : PySem.W.subIn K (.ref C_InvalidReading) (.ref C_InvalidRow) = some false)
    (s_InvalidReading_InvalidLot : PySem.W.subIn K (.ref C_InvalidReading) (.ref C_InvalidLot) = some false)
    (s_InvalidReading_InvalidReading : PySem.W.subIn K (.ref C_InvalidReading) (.ref C_InvalidReading) = some true)
    (s_InvalidReading_InvalidNetwork : PySem.W.subIn K (.ref C_InvalidReading) (.ref C_InvalidNetwork) = some false)
    (s_InvalidReading_InvalidGrowth : PySem.W.subIn K (.ref C_InvalidReading) (.ref C_InvalidGrowth) = some false)
    (s_InvalidReading_InvalidOperation : PySem.W.subIn K (.ref C_InvalidReading) (.ref C_InvalidOperation) = some false)
    (s_InvalidReading_InvalidText : PySem.W.subIn K (.ref C_InvalidReading) (.ref C_InvalidText) = some false)
    (s_InvalidReading_InvalidClaim : PySem.W.subIn K (.ref C_InvalidReading) (.ref C_InvalidClaim) = some false)
    (s_InvalidReading_RampError : PySem.W.subIn K (.ref C_InvalidReading) (.ref C_RampError) = some true)
    (s_InvalidReading_ParseError : PySem.W.subIn K (.ref C_InvalidReading) (.ref C_ParseError) = some false)
    (s_InvalidReading_InvalidNumber : PySem.W.subIn K (.ref C_InvalidReading) (.ref C_InvalidNumber) = some false)
    (s_InvalidReading_UnknownName : PySem.W.subIn K (.ref C_InvalidReading) (.ref C_UnknownName) = some false)
    (s_InvalidReading_NothingToUndo : PySem.W.subIn K (.ref C_InvalidReading) (.ref C_NothingToUndo) = some false)
    (s_InvalidReading_TooMany : PySem.W.subIn K (.ref C_InvalidReading) (.ref C_TooMany) = some false)
    (s_InvalidReading_Refused : PySem.W.subIn K (.ref C_InvalidReading) (.ref C_Refused) = some false)
    (s_InvalidNetwork_InvalidRow : PySem.W.subIn K (.ref C_InvalidNetwork) (.ref C_InvalidRow) = some false)
    (s_InvalidNetwork_InvalidLot : PySem.W.subIn K (.ref C_InvalidNetwork) (.ref C_InvalidLot) = some false)
    (s_InvalidNetwork_InvalidReading : PySem.W.subIn K (.ref C_InvalidNetwork) (.ref C_InvalidReading) = some false)
    (s_InvalidNetwork_InvalidNetwork : PySem.W.subIn K (.ref C_InvalidNetwork) (.ref C_InvalidNetwork) = some true)
    (s_InvalidNetwork_InvalidGrowth : PySem.W.subIn K (.ref C_InvalidNetwork) (.ref C_InvalidGrowth) = some false)
    (s_InvalidNetwork_InvalidOperation : PySem.W.subIn K (.ref C_InvalidNetwork) (.ref C_InvalidOperation) = some false)
    (s_InvalidNetwork_InvalidText : PySem.W.subIn K (.ref C_InvalidNetwork) (.ref C_InvalidText) = some false)
    (s_InvalidNetwork_InvalidClaim : PySem.W.subIn K (.ref C_InvalidNetwork) (.ref C_InvalidClaim) = some false)
    (s_InvalidNetwork_RampError : PySem.W.subIn K (.ref C_InvalidNetwork) (.ref C_RampError) = some true)
    (s_InvalidNetwork_ParseError : PySem.W.subIn K (.ref C_InvalidNetwork) (.ref C_ParseError) = some false)
    (s_InvalidNetwork_InvalidNumber : PySem.W.subIn K (.ref C_InvalidNetwork) (.ref C_InvalidNumber) = some false)
    (s_InvalidNetwork_UnknownName : PySem.W.subIn K (.ref C_InvalidNetwork) (.ref C_UnknownName) = some false)
    (s_InvalidNetwork_NothingToUndo : PySem.W.subIn K (.ref C_InvalidNetwork) (.ref C_NothingToUndo) = some false)
    (s_InvalidNetwork_TooMany : PySem.W.subIn K (.ref C_InvalidNetwork) (.ref C_TooMany) = some false)
    (s_InvalidNetwork_Refused : PySem.W.subIn K (.ref C_InvalidNetwork) (.ref C_Refused) = some false)
    (s_InvalidGrowth_InvalidRow : PySem.W.subIn K (.ref C_InvalidGrowth) (.ref C_InvalidRow) = some false)
    (s_InvalidGrowth_InvalidLot : PySem.W.subIn K (.ref C_InvalidGrowth) (.ref C_InvalidLot) = some false)
    (s_InvalidGrowth_InvalidReading : PySem.W.subIn K (.ref C_InvalidGrowth) (.ref C_InvalidReading) = some false)
    (s_InvalidGrowth_InvalidNetwork : PySem.W.subIn K (.ref C_InvalidGrowth) (.ref C_InvalidNetwork) = some false)
    (s_InvalidGrowth_InvalidGrowth : PySem.W.subIn K (.ref C_InvalidGrowth) (.ref C_InvalidGrowth) = some true)
    (s_InvalidGrowth_InvalidOperation : PySem.W.subIn K (.ref C_InvalidGrowth) (.ref C_InvalidOperation) = some false)
    (s_InvalidGrowth_InvalidText : PySem.W.subIn K (.ref C_InvalidGrowth) (.ref C_InvalidText) = some false)
    (s_InvalidGrowth_InvalidClaim : PySem.W.subIn K (.ref C_InvalidGrowth) (.ref C_InvalidClaim) = some false)
    (s_InvalidGrowth_RampError : PySem.W.subIn K (.ref C_InvalidGrowth) (.ref C_RampError) = some true)
    (s_InvalidGrowth_ParseError : PySem.W.subIn K (.ref C_InvalidGrowth) (.ref C_ParseError) = some false)
    (s_InvalidGrowth_InvalidNumber : PySem.W.subIn K (.ref C_InvalidGrowth) (.ref C_InvalidNumber) = some false)
    (s_InvalidGrowth_UnknownName : PySem.W.subIn K (.ref C_InvalidGrowth) (.ref C_UnknownName) = some false)
    (s_InvalidGrowth_NothingToUndo : PySem.W.subIn K (.ref C_InvalidGrowth) (.ref C_NothingToUndo) = some false)
    (s_InvalidGrowth_TooMany : PySem.W.subIn K (.ref C_InvalidGrowth) (.ref C_TooMany) = some false)
    (s_InvalidGrowth_Refused : PySem.W.subIn K (.ref C_InvalidGrowth) (.ref C_Refused) = some false)
    (s_InvalidOperation_InvalidRow : PySem.W.subIn K (.ref C_InvalidOperation) (.ref C_InvalidRow) = some false)
    (s_InvalidOperation_InvalidLot : PySem.W.subIn K (.ref C_InvalidOperation) (.ref C_InvalidLot) = some false)
    (s_InvalidOperation_InvalidReading : PySem.W.subIn K (.ref C_InvalidOperation) (.ref C_InvalidReading) = some false)
    (s_InvalidOperation_InvalidNetwork : PySem.W.subIn K (.ref C_InvalidOperation) (.ref C_InvalidNetwork) = some false)
    (s_InvalidOperation_InvalidGrowth : PySem.W.subIn K (.ref C_InvalidOperation) (.ref C_InvalidGrowth) = some false)
    (s_InvalidOperation_InvalidOperation : PySem.W.subIn K (.ref C_InvalidOperation) (.ref C_InvalidOperation) = some true)
    (s_InvalidOperation_InvalidText : PySem.W.subIn K (.ref C_InvalidOperation) (.ref C_InvalidText) = some false)
    (s_InvalidOperation_InvalidClaim : PySem.W.subIn K (.ref C_InvalidOperation) (.ref C_InvalidClaim) = some false)
    (s_InvalidOperation_RampError : PySem.W.subIn K (.ref C_InvalidOperation) (.ref C_RampError) = some true)
    (s_InvalidOperation_ParseError : PySem.W.subIn K (.ref C_InvalidOperation) (.ref C_ParseError) = some false)
    (s_InvalidOperation_InvalidNumber : PySem.W.subIn K (.ref C_InvalidOperation) (.ref C_InvalidNumber) = some false)
    (s_InvalidOperation_UnknownName : PySem.W.subIn K (.ref C_InvalidOperation) (.ref C_UnknownName) = some false)
    (s_InvalidOperation_NothingToUndo : PySem.W.subIn K (.ref C_InvalidOperation) (.ref C_NothingToUndo) = some false)
    (s_InvalidOperation_TooMany : PySem.W.subIn K (.ref C_InvalidOperation) (.ref C_TooMany) = some false)
    (s_InvalidOperation_Refused : PySem.W.subIn K (.ref C_InvalidOperation) (.ref C_Refused) = some false)
    (s_InvalidText_InvalidRow : PySem.W.subIn K (.ref C_InvalidText) (.ref C_InvalidRow) = some false)
    (s_InvalidText_InvalidLot : PySem.W.subIn K (.ref C_InvalidText) (.ref C_InvalidLot) = some false)
    (s_InvalidText_InvalidReading : PySem.W.subIn K (.ref C_InvalidText) (.ref C_InvalidReading) = some false)
    (s_InvalidText_InvalidNetwork : PySem.W.subIn K (.ref C_InvalidText) (.ref C_InvalidNetwork) = some false)
    (s_InvalidText_InvalidGrowth : PySem.W.subIn K (.ref C_InvalidText) (.ref C_InvalidGrowth) = some false)
    (s_InvalidText_InvalidOperation : PySem.W.subIn K (.ref C_InvalidText) (.ref C_InvalidOperation) = some false)
    (s_InvalidText_InvalidText : PySem.W.subIn K (.ref C_InvalidText) (.ref C_InvalidText) = some true)
    (s_InvalidText_InvalidClaim : PySem.W.subIn K (.ref C_InvalidText) (.ref C_InvalidClaim) = some false)
    (s_InvalidText_RampError : PySem.W.subIn K (.ref C_InvalidText) (.ref C_RampError) = some true)
    (s_InvalidText_ParseError : PySem.W.subIn K (.ref C_InvalidText) (.ref C_ParseError) = some false)
    (s_InvalidText_InvalidNumber : PySem.W.subIn K (.ref C_InvalidText) (.ref C_InvalidNumber) = some false)
    (s_InvalidText_UnknownName : PySem.W.subIn K (.ref C_InvalidText) (.ref C_UnknownName) = some false)
    (s_InvalidText_NothingToUndo : PySem.W.subIn K (.ref C_InvalidText) (.ref C_NothingToUndo) = some false)
    (s_InvalidText_TooMany : PySem.W.subIn K (.ref C_InvalidText) (.ref C_TooMany) = some false)
    (s_InvalidText_Refused : PySem.W.subIn K (.ref C_InvalidText) (.ref C_Refused) = some false)
    (s_InvalidClaim_InvalidRow : PySem.W.subIn K (.ref C_InvalidClaim) (.ref C_InvalidRow) = some false)
    (s_InvalidClaim_InvalidLot : PySem.W.subIn K (.ref C_InvalidClaim) (.ref C_InvalidLot) = some false)
    (s_InvalidClaim_InvalidReading : PySem.W.subIn K (.ref C_InvalidClaim) (.ref C_InvalidReading) = some false)
    (s_InvalidClaim_InvalidNetwork : PySem.W.subIn K (.ref C_InvalidClaim) (.ref C_InvalidNetwork) = some false)
    (s_InvalidClaim_InvalidGrowth : PySem.W.subIn K (.ref C_InvalidClaim) (.ref C_InvalidGrowth) = some false)
    (s_InvalidClaim_InvalidOperation : PySem.W.subIn K (.ref C_InvalidClaim) (.ref C_InvalidOperation) = some false)
    (s_InvalidClaim_InvalidText : PySem.W.subIn K (.ref C_InvalidClaim) (.ref C_InvalidText) = some false)
    (s_InvalidClaim_InvalidClaim : PySem.W.subIn K (.ref C_InvalidClaim) (.ref C_InvalidClaim) = some true)
    (s_InvalidClaim_RampError : PySem.W.subIn K (.ref C_InvalidClaim) (.ref C_RampError) = some true)
    (s_InvalidClaim_ParseError : PySem.W.subIn K (.ref C_InvalidClaim) (.ref C_ParseError) = some false)
    (s_InvalidClaim_InvalidNumber : PySem.W.subIn K (.ref C_InvalidClaim) (.ref C_InvalidNumber) = some false)
    (s_InvalidClaim_UnknownName : PySem.W.subIn K (.ref C_InvalidClaim) (.ref C_UnknownName) = some false)
    (s_InvalidClaim_NothingToUndo : PySem.W.subIn K (.ref C_InvalidClaim) (.ref C_NothingToUndo) = some false)
    (s_InvalidClaim_TooMany : PySem.W.subIn K (.ref C_InvalidClaim) (.ref C_TooMany) = some false)
    (s_InvalidClaim_Refused : PySem.W.subIn K (.ref C_InvalidClaim) (.ref C_Refused) = some false)
    (s_RampError_InvalidRow : PySem.W.subIn K (.ref C_RampError) (.ref C_InvalidRow) = some false)
    (s_RampError_InvalidLot : PySem.W.subIn K (.ref C_RampError) (.ref C_InvalidLot) = some false)
    (s_RampError_InvalidReading : PySem.W.subIn K (.ref C_RampError) (.ref C_InvalidReading) = some false)
    (s_RampError_InvalidNetwork : PySem.W.subIn K (.ref C_RampError) (.ref C_InvalidNetwork) = some false)
    (s_RampError_InvalidGrowth : PySem.W.subIn K (.ref C_RampError) (.ref C_InvalidGrowth) = some false)
    (s_RampError_InvalidOperation : PySem.W.subIn K (.ref C_RampError) (.ref C_InvalidOperation) = some false)
    (s_RampError_InvalidText : PySem.W.subIn K (.ref C_RampError) (.ref C_InvalidText) = some false)
    (s_RampError_InvalidClaim : PySem.W.subIn K (.ref C_RampError) (.ref C_InvalidClaim) = some false)
    (s_RampError_RampError : PySem.W.subIn K (.ref C_RampError) (.ref C_RampError) = some true)
    (s_RampError_ParseError : PySem.W.subIn K (.ref C_RampError) (.ref C_ParseError) = some false)
    (s_RampError_InvalidNumber : PySem.W.subIn K (.ref C_RampError) (.ref C_InvalidNumber) = some false)
    (s_RampError_UnknownName : PySem.W.subIn K (.ref C_RampError) (.ref C_UnknownName) = some false)
    (s_RampError_NothingToUndo : PySem.W.subIn K (.ref C_RampError) (.ref C_NothingToUndo) = some false)
    (s_RampError_TooMany : PySem.W.subIn K (.ref C_RampError) (.ref C_TooMany) = some false)
    (s_RampError_Refused : PySem.W.subIn K (.ref C_RampError) (.ref C_Refused) = some false)
    (s_ParseError_InvalidRow : PySem.W.subIn K (.ref C_ParseError) (.ref C_InvalidRow) = some false)
    (s_ParseError_InvalidLot : PySem.W.subIn K (.ref C_ParseError) (.ref C_InvalidLot) = some false)
    (s_ParseError_InvalidReading : PySem.W.subIn K (.ref C_ParseError) (.ref C_InvalidReading) = some false)
    (s_ParseError_InvalidNetwork : PySem.W.subIn K (.ref C_ParseError) (.ref C_InvalidNetwork) = some false)
    (s_ParseError_InvalidGrowth : PySem.W.subIn K (.ref C_ParseError) (.ref C_InvalidGrowth) = some false)
    (s_ParseError_InvalidOperation : PySem.W.subIn K (.ref C_ParseError) (.ref C_InvalidOperation) = some false)
    (s_ParseError_InvalidText : PySem.W.subIn K (.ref C_ParseError) (.ref C_InvalidText) = some false)
    (s_ParseError_InvalidClaim : PySem.W.subIn K (.ref C_ParseError) (.ref C_InvalidClaim) = some false)
    (s_ParseError_RampError : PySem.W.subIn K (.ref C_ParseError) (.ref C_RampError) = some true)
    (s_ParseError_ParseError : PySem.W.subIn K (.ref C_ParseError) (.ref C_ParseError) = some true)
    (s_ParseError_InvalidNumber : PySem.W.subIn K (.ref C_ParseError) (.ref C_InvalidNumber) = some false)
    (s_ParseError_UnknownName : PySem.W.subIn K (.ref C_ParseError) (.ref C_UnknownName) = some false)
    (s_ParseError_NothingToUndo : PySem.W.subIn K (.ref C_ParseError) (.ref C_NothingToUndo) = some false)
    (s_ParseError_TooMany : PySem.W.subIn K (.ref C_ParseError) (.ref C_TooMany) = some false)
    (s_ParseError_Refused : PySem.W.subIn K (.ref C_ParseError) (.ref C_Refused) = some false)
    (s_InvalidNumber_InvalidRow : PySem.W.subIn K (.ref C_InvalidNumber) (.ref C_InvalidRow) = some false)
    (s_InvalidNumber_InvalidLot : PySem.W.subIn K (.ref C_InvalidNumber) (.ref C_InvalidLot) = some false)
    (s_InvalidNumber_InvalidReading : PySem.W.subIn K (.ref C_InvalidNumber) (.ref C_InvalidReading) = some false)
    (s_InvalidNumber_InvalidNetwork : PySem.W.subIn K (.ref C_InvalidNumber) (.ref C_InvalidNetwork) = some false)
    (s_InvalidNumber_InvalidGrowth : PySem.W.subIn K (.ref C_InvalidNumber) (.ref C_InvalidGrowth) = some false)
    (s_InvalidNumber_InvalidOperation : PySem.W.subIn K (.ref C_InvalidNumber) (.ref C_InvalidOperation) = some false)
    (s_InvalidNumber_InvalidText : PySem.W.subIn K (.ref C_InvalidNumber) (.ref C_InvalidText) = some false)
    (s_InvalidNumber_InvalidClaim : PySem.W.subIn K (.ref C_InvalidNumber) (.ref C_InvalidClaim) = some false)
    (s_InvalidNumber_RampError : PySem.W.subIn K (.ref C_InvalidNumber) (.ref C_RampError) = some false)
    (s_InvalidNumber_ParseError : PySem.W.subIn K (.ref C_InvalidNumber) (.ref C_ParseError) = some false)
    (s_InvalidNumber_InvalidNumber : PySem.W.subIn K (.ref C_InvalidNumber) (.ref C_InvalidNumber) = some true)
    (s_InvalidNumber_UnknownName : PySem.W.subIn K (.ref C_InvalidNumber) (.ref C_UnknownName) = some false)
    (s_InvalidNumber_NothingToUndo : PySem.W.subIn K (.ref C_InvalidNumber) (.ref C_NothingToUndo) = some false)
    (s_InvalidNumber_TooMany : PySem.W.subIn K (.ref C_InvalidNumber) (.ref C_TooMany) = some false)
    (s_InvalidNumber_Refused : PySem.W.subIn K (.ref C_InvalidNumber) (.ref C_Refused) = some false)
    (s_UnknownName_InvalidRow : PySem.W.subIn K (.ref C_UnknownName) (.ref C_InvalidRow) = some false)
    (s_UnknownName_InvalidLot : PySem.W.subIn K (.ref C_UnknownName) (.ref C_InvalidLot) = some false)
    (s_UnknownName_InvalidReading : PySem.W.subIn K (.ref C_UnknownName) (.ref C_InvalidReading) = some false)
    (s_UnknownName_InvalidNetwork : PySem.W.subIn K (.ref C_UnknownName) (.ref C_InvalidNetwork) = some false)
    (s_UnknownName_InvalidGrowth : PySem.W.subIn K (.ref C_UnknownName) (.ref C_InvalidGrowth) = some false)
    (s_UnknownName_InvalidOperation : PySem.W.subIn K (.ref C_UnknownName) (.ref C_InvalidOperation) = some false)
    (s_UnknownName_InvalidText : PySem.W.subIn K (.ref C_UnknownName) (.ref C_InvalidText) = some false)
    (s_UnknownName_InvalidClaim : PySem.W.subIn K (.ref C_UnknownName) (.ref C_InvalidClaim) = some false)
    (s_UnknownName_RampError : PySem.W.subIn K (.ref C_UnknownName) (.ref C_RampError) = some false)
    (s_UnknownName_ParseError : PySem.W.subIn K (.ref C_UnknownName) (.ref C_ParseError) = some false)
    (s_UnknownName_InvalidNumber : PySem.W.subIn K (.ref C_UnknownName) (.ref C_InvalidNumber) = some false)
    (s_UnknownName_UnknownName : PySem.W.subIn K (.ref C_UnknownName) (.ref C_UnknownName) = some true)
    (s_UnknownName_NothingToUndo : PySem.W.subIn K (.ref C_UnknownName) (.ref C_NothingToUndo) = some false)
    (s_UnknownName_TooMany : PySem.W.subIn K (.ref C_UnknownName) (.ref C_TooMany) = some false)
    (s_UnknownName_Refused : PySem.W.subIn K (.ref C_UnknownName) (.ref C_Refused) = some false)
    (s_NothingToUndo_InvalidRow : PySem.W.subIn K (.ref C_NothingToUndo) (.ref C_InvalidRow) = some false)
    (s_NothingToUndo_InvalidLot : PySem.W.subIn K (.ref C_NothingToUndo) (.ref C_InvalidLot) = some false)
    (s_NothingToUndo_InvalidReading : PySem.W.subIn K (.ref C_NothingToUndo) (.ref C_InvalidReading) = some false)
    (s_NothingToUndo_InvalidNetwork : PySem.W.subIn K (.ref C_NothingToUndo) (.ref C_InvalidNetwork) = some false)
    (s_NothingToUndo_InvalidGrowth : PySem.W.subIn K (.ref C_NothingToUndo) (.ref C_InvalidGrowth) = some false)
    (s_NothingToUndo_InvalidOperation : PySem.W.subIn K (.ref C_NothingToUndo) (.ref C_InvalidOperation) = some false)
    (s_NothingToUndo_InvalidText : PySem.W.subIn K (.ref C_NothingToUndo) (.ref C_InvalidText) = some false)
    (s_NothingToUndo_InvalidClaim : PySem.W.subIn K (.ref C_NothingToUndo) (.ref C_InvalidClaim) = some false)
    (s_NothingToUndo_RampError : PySem.W.subIn K (.ref C_NothingToUndo) (.ref C_RampError) = some false)
    (s_NothingToUndo_ParseError : PySem.W.subIn K (.ref C_NothingToUndo) (.ref C_ParseError) = some false)
    (s_NothingToUndo_InvalidNumber : PySem.W.subIn K (.ref C_NothingToUndo) (.ref C_InvalidNumber) = some false)
    (s_NothingToUndo_UnknownName : PySem.W.subIn K (.ref C_NothingToUndo) (.ref C_UnknownName) = some false)
    (s_NothingToUndo_NothingToUndo : PySem.W.subIn K (.ref C_NothingToUndo) (.ref C_NothingToUndo) = some true)
    (s_NothingToUndo_TooMany : PySem.W.subIn K (.ref C_NothingToUndo) (.ref C_TooMany) = some false)
    (s_NothingToUndo_Refused : PySem.W.subIn K (.ref C_NothingToUndo) (.ref C_Refused) = some false)
    (s_TooMany_InvalidRow : PySem.W.subIn K (.ref C_TooMany) (.ref C_InvalidRow) = some false)
    (s_TooMany_InvalidLot : PySem.W.subIn K (.ref C_TooMany) (.ref C_InvalidLot) = some false)
    (s_TooMany_InvalidReading : PySem.W.subIn K (.ref C_TooMany) (.ref C_InvalidReading) = some false)
    (s_TooMany_InvalidNetwork : PySem.W.subIn K (.ref C_TooMany) (.ref C_InvalidNetwork) = some false)
    (s_TooMany_InvalidGrowth : PySem.W.subIn K (.ref C_TooMany) (.ref C_InvalidGrowth) = some false)
    (s_TooMany_InvalidOperation : PySem.W.subIn K (.ref C_TooMany) (.ref C_InvalidOperation) = some false)
    (s_TooMany_InvalidText : PySem.W.subIn K (.ref C_TooMany) (.ref C_InvalidText) = some false)
    (s_TooMany_InvalidClaim : PySem.W.subIn K (.ref C_TooMany) (.ref C_InvalidClaim) = some false)
    (s_TooMany_RampError : PySem.W.subIn K (.ref C_TooMany) (.ref C_RampError) = some false)
    (s_TooMany_ParseError : PySem.W.subIn K (.ref C_TooMany) (.ref C_ParseError) = some false)
    (s_TooMany_InvalidNumber : PySem.W.subIn K (.ref C_TooMany) (.ref C_InvalidNumber) = some false)
    (s_TooMany_UnknownName : PySem.W.subIn K (.ref C_TooMany) (.ref C_UnknownName) = some false)
    (s_TooMany_NothingToUndo : PySem.W.subIn K (.ref C_TooMany) (.ref C_NothingToUndo) = some false)
    (s_TooMany_TooMany : PySem.W.subIn K (.ref C_TooMany) (.ref C_TooMany) = some true)
    (s_TooMany_Refused : PySem.W.subIn K (.ref C_TooMany) (.ref C_Refused) = some false)
    (s_Refused_InvalidRow : PySem.W.subIn K (.ref C_Refused) (.ref C_InvalidRow) = some false)
    (s_Refused_InvalidLot : PySem.W.subIn K (.ref C_Refused) (.ref C_InvalidLot) = some false)
    (s_Refused_InvalidReading : PySem.W.subIn K (.ref C_Refused) (.ref C_InvalidReading) = some false)
    (s_Refused_InvalidNetwork : PySem.W.subIn K (.ref C_Refused) (.ref C_InvalidNetwork) = some false)
    (s_Refused_InvalidGrowth : PySem.W.subIn K (.ref C_Refused) (.ref C_InvalidGrowth) = some false)
    (s_Refused_InvalidOperation : PySem.W.subIn K (.ref C_Refused) (.ref C_InvalidOperation) = some false)
    (s_Refused_InvalidText : PySem.W.subIn K (.ref C_Refused) (.ref C_InvalidText) = some false)
    (s_Refused_InvalidClaim : PySem.W.subIn K (.ref C_Refused) (.ref C_InvalidClaim) = some false)
    (s_Refused_RampError : PySem.W.subIn K (.ref C_Refused) (.ref C_RampError) = some false)
    (s_Refused_ParseError : PySem.W.subIn K (.ref C_Refused) (.ref C_ParseError) = some false)
    (s_Refused_InvalidNumber : PySem.W.subIn K (.ref C_Refused) (.ref C_InvalidNumber) = some false)
    (s_Refused_UnknownName : PySem.W.subIn K (.ref C_Refused) (.ref C_UnknownName) = some false)
    (s_Refused_NothingToUndo : PySem.W.subIn K (.ref C_Refused) (.ref C_NothingToUndo) = some false)
    (s_Refused_TooMany : PySem.W.subIn K (.ref C_Refused) (.ref C_TooMany) = some false)
    (s_Refused_Refused : PySem.W.subIn K (.ref C_Refused) (.ref C_Refused) = some true)
    (oc_n : PySem.W.specialIn K (.builtin "object.__class__") "__get__" = some (some (.builtin "getset_descriptor.__get__")))
    (oc_t : PySem.W.takesIn K (.builtin "object.__class__") = some true)
    (oc_InvalidRow : PySem.W.findIn K (.ref C_InvalidRow) "__class__" = some (some (.builtin "object.__class__")))
    (om_InvalidRow : PySem.W.mroIn K C_InvalidRow (.type "object") = some true)
    (e2_InvalidRow : PySem.W.findIn K (.ref C_InvalidRow) "__getattribute__" = some (some (.builtin "BaseException.__getattribute__")))
    (e3_InvalidRow : PySem.W.findIn K (.ref C_InvalidRow) "__getattr__" = some none)
    (e7_InvalidRow : PySem.W.hasDictIn K C_InvalidRow = true)
    (t_InvalidRow_ValueError : PySem.W.subIn K (.ref C_InvalidRow) (.type "ValueError") = some true)
    (t_InvalidRow_IndexError : PySem.W.subIn K (.ref C_InvalidRow) (.type "IndexError") = some false)
    (t_InvalidRow_KeyError : PySem.W.subIn K (.ref C_InvalidRow) (.type "KeyError") = some false)
    (t_InvalidRow_OverflowError : PySem.W.subIn K (.ref C_InvalidRow) (.type "OverflowError") = some false)
    (t_InvalidRow_ArithmeticError : PySem.W.subIn K (.ref C_InvalidRow) (.type "ArithmeticError") = some false)
    (t_InvalidRow_LookupError : PySem.W.subIn K (.ref C_InvalidRow) (.type "LookupError") = some false)
    (oc_InvalidLot : PySem.W.findIn K (.ref C_InvalidLot) "__class__" = some (some (.builtin "object.__class__")))
    (om_InvalidLot : PySem.W.mroIn K C_InvalidLot (.type "object") = some true)
    (e2_InvalidLot : PySem.W.findIn K (.ref C_InvalidLot) "__getattribute__" = some (some (.builtin "BaseException.__getattribute__")))
    (e3_InvalidLot : PySem.W.findIn K (.ref C_InvalidLot) "__getattr__" = some none)
    (e7_InvalidLot : PySem.W.hasDictIn K C_InvalidLot = true)
    (t_InvalidLot_ValueError : PySem.W.subIn K (.ref C_InvalidLot) (.type "ValueError") = some true)
    (t_InvalidLot_IndexError : PySem.W.subIn K (.ref C_InvalidLot) (.type "IndexError") = some false)
    (t_InvalidLot_KeyError : PySem.W.subIn K (.ref C_InvalidLot) (.type "KeyError") = some false)
    (t_InvalidLot_OverflowError : PySem.W.subIn K (.ref C_InvalidLot) (.type "OverflowError") = some false)
    (t_InvalidLot_ArithmeticError : PySem.W.subIn K (.ref C_InvalidLot) (.type "ArithmeticError") = some false)
    (t_InvalidLot_LookupError : PySem.W.subIn K (.ref C_InvalidLot) (.type "LookupError") = some false)
    (oc_InvalidReading : PySem.W.findIn K (.ref C_InvalidReading) "__class__" = some (some (.builtin "object.__class__")))
    (om_InvalidReading : PySem.W.mroIn K C_InvalidReading (.type "object") = some true)
    (e2_InvalidReading : PySem.W.findIn K (.ref C_InvalidReading) "__getattribute__" = some (some (.builtin "BaseException.__getattribute__")))
    (e3_InvalidReading : PySem.W.findIn K (.ref C_InvalidReading) "__getattr__" = some none)
    (e7_InvalidReading : PySem.W.hasDictIn K C_InvalidReading = true)
    (t_InvalidReading_ValueError : PySem.W.subIn K (.ref C_InvalidReading) (.type "ValueError") = some true)
    (t_InvalidReading_IndexError : PySem.W.subIn K (.ref C_InvalidReading) (.type "IndexError") = some false)
    (t_InvalidReading_KeyError : PySem.W.subIn K (.ref C_InvalidReading) (.type "KeyError") = some false)
    (t_InvalidReading_OverflowError : PySem.W.subIn K (.ref C_InvalidReading) (.type "OverflowError") = some false)
    (t_InvalidReading_ArithmeticError : PySem.W.subIn K (.ref C_InvalidReading) (.type "ArithmeticError") = some false)
    (t_InvalidReading_LookupError : PySem.W.subIn K (.ref C_InvalidReading) (.type "LookupError") = some false)
    (oc_InvalidNetwork : PySem.W.findIn K (.ref C_InvalidNetwork) "__class__" = some (some (.builtin "object.__class__")))
    (om_InvalidNetwork : PySem.W.mroIn K C_InvalidNetwork (.type "object") = some true)
    (e2_InvalidNetwork : PySem.W.findIn K (.ref C_InvalidNetwork) "__getattribute__" = some (some (.builtin "BaseException.__getattribute__")))
    (e3_InvalidNetwork : PySem.W.findIn K (.ref C_InvalidNetwork) "__getattr__" = some none)
    (e7_InvalidNetwork : PySem.W.hasDictIn K C_InvalidNetwork = true)
    (t_InvalidNetwork_ValueError : PySem.W.subIn K (.ref C_InvalidNetwork) (.type "ValueError") = some true)
    (t_InvalidNetwork_IndexError : PySem.W.subIn K (.ref C_InvalidNetwork) (.type "IndexError") = some false)
    (t_InvalidNetwork_KeyError : PySem.W.subIn K (.ref C_InvalidNetwork) (.type "KeyError") = some false)
    (t_InvalidNetwork_OverflowError : PySem.W.subIn K (.ref C_InvalidNetwork) (.type "OverflowError") = some false)
    (t_InvalidNetwork_ArithmeticError : PySem.W.subIn K (.ref C_InvalidNetwork) (.type "ArithmeticError") = some false)
    (t_InvalidNetwork_LookupError : PySem.W.subIn K (.ref C_InvalidNetwork) (.type "LookupError") = some false)
    (oc_InvalidGrowth : PySem.W.findIn K (.ref C_InvalidGrowth) "__class__" = some (some (.builtin "object.__class__")))
    (om_InvalidGrowth : PySem.W.mroIn K C_InvalidGrowth (.type "object") = some true)
    (e2_InvalidGrowth : PySem.W.findIn K (.ref C_InvalidGrowth) "__getattribute__" = some (some (.builtin "BaseException.__getattribute__")))
    (e3_InvalidGrowth : PySem.W.findIn K (.ref C_InvalidGrowth) "__getattr__" = some none)
    (e7_InvalidGrowth : PySem.W.hasDictIn K C_InvalidGrowth = true)
    (t_InvalidGrowth_ValueError : PySem.W.subIn K (.ref C_InvalidGrowth) (.type "ValueError") = some true)
    (t_InvalidGrowth_IndexError : PySem.W.subIn K (.ref C_InvalidGrowth) (.type "IndexError") = some false)
    (t_InvalidGrowth_KeyError : PySem.W.subIn K (.ref C_InvalidGrowth) (.type "KeyError") = some false)
    (t_InvalidGrowth_OverflowError : PySem.W.subIn K (.ref C_InvalidGrowth) (.type "OverflowError") = some false)
    (t_InvalidGrowth_ArithmeticError : PySem.W.subIn K (.ref C_InvalidGrowth) (.type "ArithmeticError") = some false)
    (t_InvalidGrowth_LookupError : PySem.W.subIn K (.ref C_InvalidGrowth) (.type "LookupError") = some false)
    (oc_InvalidOperation : PySem.W.findIn K (.ref C_InvalidOperation) "__class__" = some (some (.builtin "object.__class__")))
    (om_InvalidOperation : PySem.W.mroIn K C_InvalidOperation (.type "object") = some true)
    (e2_InvalidOperation : PySem.W.findIn K (.ref C_InvalidOperation) "__getattribute__" = some (some (.builtin "BaseException.__getattribute__")))
    (e3_InvalidOperation : PySem.W.findIn K (.ref C_InvalidOperation) "__getattr__" = some none)
    (e7_InvalidOperation : PySem.W.hasDictIn K C_InvalidOperation = true)
    (t_InvalidOperation_ValueError : PySem.W.subIn K (.ref C_InvalidOperation) (.type "ValueError") = some true)
    (t_InvalidOperation_IndexError : PySem.W.subIn K (.ref C_InvalidOperation) (.type "IndexError") = some false)
    (t_InvalidOperation_KeyError : PySem.W.subIn K (.ref C_InvalidOperation) (.type "KeyError") = some false)
    (t_InvalidOperation_OverflowError : PySem.W.subIn K (.ref C_InvalidOperation) (.type "OverflowError") = some false)
    (t_InvalidOperation_ArithmeticError : PySem.W.subIn K (.ref C_InvalidOperation) (.type "ArithmeticError") = some false)
    (t_InvalidOperation_LookupError : PySem.W.subIn K (.ref C_InvalidOperation) (.type "LookupError") = some false)
    (oc_InvalidText : PySem.W.findIn K (.ref C_InvalidText) "__class__" = some (some (.builtin "object.__class__")))
    (om_InvalidText : PySem.W.mroIn K C_InvalidText (.type "object") = some true)
    (e2_InvalidText : PySem.W.findIn K (.ref C_InvalidText) "__getattribute__" = some (some (.builtin "BaseException.__getattribute__")))
    (e3_InvalidText : PySem.W.findIn K (.ref C_InvalidText) "__getattr__" = some none)
    (e7_InvalidText : PySem.W.hasDictIn K C_InvalidText = true)
    (t_InvalidText_ValueError : PySem.W.subIn K (.ref C_InvalidText) (.type "ValueError") = some true)
    (t_InvalidText_IndexError : PySem.W.subIn K (.ref C_InvalidText) (.type "IndexError") = some false)
    (t_InvalidText_KeyError : PySem.W.subIn K (.ref C_InvalidText) (.type "KeyError") = some false)
    (t_InvalidText_OverflowError : PySem.W.subIn K (.ref C_InvalidText) (.type "OverflowError") = some false)
    (t_InvalidText_ArithmeticError : PySem.W.subIn K (.ref C_InvalidText) (.type "ArithmeticError") = some false)
    (t_InvalidText_LookupError : PySem.W.subIn K (.ref C_InvalidText) (.type "LookupError") = some false)
    (oc_InvalidClaim : PySem.W.findIn K (.ref C_InvalidClaim) "__class__" = some (some (.builtin "object.__class__")))
    (om_InvalidClaim : PySem.W.mroIn K C_InvalidClaim (.type "object") = some true)
    (e2_InvalidClaim : PySem.W.findIn K (.ref C_InvalidClaim) "__getattribute__" = some (some (.builtin "BaseException.__getattribute__")))
    (e3_InvalidClaim : PySem.W.findIn K (.ref C_InvalidClaim) "__getattr__" = some none)
    (e7_InvalidClaim : PySem.W.hasDictIn K C_InvalidClaim = true)
    (t_InvalidClaim_ValueError : PySem.W.subIn K (.ref C_InvalidClaim) (.type "ValueError") = some true)
    (t_InvalidClaim_IndexError : PySem.W.subIn K (.ref C_InvalidClaim) (.type "IndexError") = some false)
    (t_InvalidClaim_KeyError : PySem.W.subIn K (.ref C_InvalidClaim) (.type "KeyError") = some false)
    (t_InvalidClaim_OverflowError : PySem.W.subIn K (.ref C_InvalidClaim) (.type "OverflowError") = some false)
    (t_InvalidClaim_ArithmeticError : PySem.W.subIn K (.ref C_InvalidClaim) (.type "ArithmeticError") = some false)
    (t_InvalidClaim_LookupError : PySem.W.subIn K (.ref C_InvalidClaim) (.type "LookupError") = some false)
    (oc_RampError : PySem.W.findIn K (.ref C_RampError) "__class__" = some (some (.builtin "object.__class__")))
    (om_RampError : PySem.W.mroIn K C_RampError (.type "object") = some true)
    (e2_RampError : PySem.W.findIn K (.ref C_RampError) "__getattribute__" = some (some (.builtin "BaseException.__getattribute__")))
    (e3_RampError : PySem.W.findIn K (.ref C_RampError) "__getattr__" = some none)
    (e7_RampError : PySem.W.hasDictIn K C_RampError = true)
    (t_RampError_ValueError : PySem.W.subIn K (.ref C_RampError) (.type "ValueError") = some true)
    (t_RampError_IndexError : PySem.W.subIn K (.ref C_RampError) (.type "IndexError") = some false)
    (t_RampError_KeyError : PySem.W.subIn K (.ref C_RampError) (.type "KeyError") = some false)
    (t_RampError_OverflowError : PySem.W.subIn K (.ref C_RampError) (.type "OverflowError") = some false)
    (t_RampError_ArithmeticError : PySem.W.subIn K (.ref C_RampError) (.type "ArithmeticError") = some false)
    (t_RampError_LookupError : PySem.W.subIn K (.ref C_RampError) (.type "LookupError") = some false)
    (oc_ParseError : PySem.W.findIn K (.ref C_ParseError) "__class__" = some (some (.builtin "object.__class__")))
    (om_ParseError : PySem.W.mroIn K C_ParseError (.type "object") = some true)
    (t_ParseError_ValueError : PySem.W.subIn K (.ref C_ParseError) (.type "ValueError") = some true)
    (t_ParseError_IndexError : PySem.W.subIn K (.ref C_ParseError) (.type "IndexError") = some false)
    (t_ParseError_KeyError : PySem.W.subIn K (.ref C_ParseError) (.type "KeyError") = some false)
    (t_ParseError_OverflowError : PySem.W.subIn K (.ref C_ParseError) (.type "OverflowError") = some false)
    (t_ParseError_ArithmeticError : PySem.W.subIn K (.ref C_ParseError) (.type "ArithmeticError") = some false)
    (t_ParseError_LookupError : PySem.W.subIn K (.ref C_ParseError) (.type "LookupError") = some false)
    (oc_InvalidNumber : PySem.W.findIn K (.ref C_InvalidNumber) "__class__" = some (some (.builtin "object.__class__")))
    (om_InvalidNumber : PySem.W.mroIn K C_InvalidNumber (.type "object") = some true)
    (t_InvalidNumber_ValueError : PySem.W.subIn K (.ref C_InvalidNumber) (.type "ValueError") = some false)
    (t_InvalidNumber_IndexError : PySem.W.subIn K (.ref C_InvalidNumber) (.type "IndexError") = some true)
    (t_InvalidNumber_KeyError : PySem.W.subIn K (.ref C_InvalidNumber) (.type "KeyError") = some false)
    (t_InvalidNumber_OverflowError : PySem.W.subIn K (.ref C_InvalidNumber) (.type "OverflowError") = some false)
    (t_InvalidNumber_ArithmeticError : PySem.W.subIn K (.ref C_InvalidNumber) (.type "ArithmeticError") = some false)
    (t_InvalidNumber_LookupError : PySem.W.subIn K (.ref C_InvalidNumber) (.type "LookupError") = some true)
    (oc_UnknownName : PySem.W.findIn K (.ref C_UnknownName) "__class__" = some (some (.builtin "object.__class__")))
    (om_UnknownName : PySem.W.mroIn K C_UnknownName (.type "object") = some true)
    (t_UnknownName_ValueError : PySem.W.subIn K (.ref C_UnknownName) (.type "ValueError") = some false)
    (t_UnknownName_IndexError : PySem.W.subIn K (.ref C_UnknownName) (.type "IndexError") = some false)
    (t_UnknownName_KeyError : PySem.W.subIn K (.ref C_UnknownName) (.type "KeyError") = some true)
    (t_UnknownName_OverflowError : PySem.W.subIn K (.ref C_UnknownName) (.type "OverflowError") = some false)
    (t_UnknownName_ArithmeticError : PySem.W.subIn K (.ref C_UnknownName) (.type "ArithmeticError") = some false)
    (t_UnknownName_LookupError : PySem.W.subIn K (.ref C_UnknownName) (.type "LookupError") = some true)
    (oc_NothingToUndo : PySem.W.findIn K (.ref C_NothingToUndo) "__class__" = some (some (.builtin "object.__class__")))
    (om_NothingToUndo : PySem.W.mroIn K C_NothingToUndo (.type "object") = some true)
    (t_NothingToUndo_ValueError : PySem.W.subIn K (.ref C_NothingToUndo) (.type "ValueError") = some false)
    (t_NothingToUndo_IndexError : PySem.W.subIn K (.ref C_NothingToUndo) (.type "IndexError") = some false)
    (t_NothingToUndo_KeyError : PySem.W.subIn K (.ref C_NothingToUndo) (.type "KeyError") = some false)
    (t_NothingToUndo_OverflowError : PySem.W.subIn K (.ref C_NothingToUndo) (.type "OverflowError") = some false)
    (t_NothingToUndo_ArithmeticError : PySem.W.subIn K (.ref C_NothingToUndo) (.type "ArithmeticError") = some false)
    (t_NothingToUndo_LookupError : PySem.W.subIn K (.ref C_NothingToUndo) (.type "LookupError") = some true)
    (oc_TooMany : PySem.W.findIn K (.ref C_TooMany) "__class__" = some (some (.builtin "object.__class__")))
    (om_TooMany : PySem.W.mroIn K C_TooMany (.type "object") = some true)
    (t_TooMany_ValueError : PySem.W.subIn K (.ref C_TooMany) (.type "ValueError") = some false)
    (t_TooMany_IndexError : PySem.W.subIn K (.ref C_TooMany) (.type "IndexError") = some false)
    (t_TooMany_KeyError : PySem.W.subIn K (.ref C_TooMany) (.type "KeyError") = some false)
    (t_TooMany_OverflowError : PySem.W.subIn K (.ref C_TooMany) (.type "OverflowError") = some true)
    (t_TooMany_ArithmeticError : PySem.W.subIn K (.ref C_TooMany) (.type "ArithmeticError") = some true)
    (t_TooMany_LookupError : PySem.W.subIn K (.ref C_TooMany) (.type "LookupError") = some false)
    (oc_Refused : PySem.W.findIn K (.ref C_Refused) "__class__" = some (some (.builtin "object.__class__")))
    (om_Refused : PySem.W.mroIn K C_Refused (.type "object") = some true)
    (t_Refused_ValueError : PySem.W.subIn K (.ref C_Refused) (.type "ValueError") = some false)
    (t_Refused_IndexError : PySem.W.subIn K (.ref C_Refused) (.type "IndexError") = some false)
    (t_Refused_KeyError : PySem.W.subIn K (.ref C_Refused) (.type "KeyError") = some false)
    (t_Refused_OverflowError : PySem.W.subIn K (.ref C_Refused) (.type "OverflowError") = some false)
    (t_Refused_ArithmeticError : PySem.W.subIn K (.ref C_Refused) (.type "ArithmeticError") = some true)
    (t_Refused_LookupError : PySem.W.subIn K (.ref C_Refused) (.type "LookupError") = some false)
    (z_super : PySem.W.nsIn K mainGlobals "super" = some none)
    (st : PySem.W.nsIn K cStatics "thirdparty.any" = some none)
    (tops : (l.prog.main.scope.names.lookup ("super" : Str)).isSome = false)
    (z_isinstance : PySem.W.nsIn K mainGlobals "isinstance" = some none)
    (z_int : PySem.W.nsIn K mainGlobals "int" = some none)
    (z_len : PySem.W.nsIn K mainGlobals "len" = some none)
    (z_range : PySem.W.nsIn K mainGlobals "range" = some none)
    (z_max : PySem.W.nsIn K mainGlobals "max" = some none)
    (z_min : PySem.W.nsIn K mainGlobals "min" = some none)
    (z_abs : PySem.W.nsIn K mainGlobals "abs" = some none)
    (z_sorted : PySem.W.nsIn K mainGlobals "sorted" = some none)
    (z_repr : PySem.W.nsIn K mainGlobals "repr" = some none)
    (z_ValueError : PySem.W.nsIn K mainGlobals "ValueError" = some none)
    (z_IndexError : PySem.W.nsIn K mainGlobals "IndexError" = some none)
    (z_KeyError : PySem.W.nsIn K mainGlobals "KeyError" = some none)
    (z_OverflowError : PySem.W.nsIn K mainGlobals "OverflowError" = some none)
    (z_ArithmeticError : PySem.W.nsIn K mainGlobals "ArithmeticError" = some none)
    (z_LookupError : PySem.W.nsIn K mainGlobals "LookupError" = some none) :
    LawG l w K 9 63 "_law_script" mg fl h := by
  have e := hfa.symm.trans (PySem.W.mg_of X G a_8)
  cases e
  have E_ParseError : Err1 K mg l.prog "ParseError" "spot" C_ParseError := ⟨⟨"ValueError", "ValueError.__new__", "ValueError.__init__", [.type "ValueError", .type "Exception", .type "BaseException", .type "object"], I_ParseError, EX.base_ValueError, { ok := fld_spot, gC := PySem.W.mg_of X G ca_ParseError, gS := PySem.W.mg_none_of X G z_super, cls := ei_ParseError, ov := eo_ParseError, sup := es_ParseError, sa := e1_ParseError, ga := e2_ParseError, gg := e3_ParseError, noN := e4_ParseError, iC := e5_ParseError, tC := e6_ParseError, kC := ck_ParseError, exC := cb_ParseError, tyC := ct_ParseError, hdC := e7_ParseError, st := st, me := e8_ParseError, inB := e9_ParseError, fn := ⟨_, _, _, _, _, _, _, _, _, _, _, _, _, _, _, _, _, _, _, _, _, _, il_ParseError, ic_ParseError, ip_ParseError, ⟨_, _, _, _, _, _, jl_ParseError, ju2_ParseError, jf_ParseError⟩, _, _, _, ll_ParseError⟩, top := tops }⟩⟩
  have E_InvalidNumber : Err1 K mg l.prog "InvalidNumber" "given" C_InvalidNumber := ⟨⟨"IndexError", "IndexError.__new__", "IndexError.__init__", [.type "IndexError", .type "LookupError", .type "Exception", .type "BaseException", .type "object"], I_InvalidNumber, EX.base_IndexError, { ok := fld_given, gC := PySem.W.mg_of X G ca_InvalidNumber, gS := PySem.W.mg_none_of X G z_super, cls := ei_InvalidNumber, ov := eo_InvalidNumber, sup := es_InvalidNumber, sa := e1_InvalidNumber, ga := e2_InvalidNumber, gg := e3_InvalidNumber, noN := e4_InvalidNumber, iC := e5_InvalidNumber, tC := e6_InvalidNumber, kC := ck_InvalidNumber, exC := cb_InvalidNumber, tyC := ct_InvalidNumber, hdC := e7_InvalidNumber, st := st, me := e8_InvalidNumber, inB := e9_InvalidNumber, fn := ⟨_, _, _, _, _, _, _, _, _, _, _, _, _, _, _, _, _, _, _, _, _, _, il_InvalidNumber, ic_InvalidNumber, ip_InvalidNumber, ⟨_, _, _, _, _, _, jl_InvalidNumber, ju2_InvalidNumber, jf_InvalidNumber⟩, _, _, _, ll_InvalidNumber⟩, top := tops }⟩⟩
  have E_UnknownName : ErrK K mg l.prog "UnknownName" "wanted" C_UnknownName := ⟨⟨I_UnknownName, { ok := fld_wanted, gC := PySem.W.mg_of X G ca_UnknownName, gS := PySem.W.mg_none_of X G z_super, cls := ei_UnknownName, ov := eo_UnknownName, sup := es_UnknownName, sa := e1_UnknownName, ga := e2_UnknownName, gg := e3_UnknownName, noN := e4_UnknownName, iC := e5_UnknownName, tC := e6_UnknownName, kC := ck_UnknownName, exC := cb_UnknownName, tyC := ct_UnknownName, hdC := e7_UnknownName, st := st, me := e8_UnknownName, inB := e9_UnknownName, fn := ⟨_, _, _, _, _, _, _, _, _, _, _, _, _, _, _, _, _, _, _, _, _, _, il_UnknownName, ic_UnknownName, ip_UnknownName, ⟨_, _, _, _, _, _, jl_UnknownName, ju2_UnknownName, jf_UnknownName⟩, _, _, _, ll_UnknownName⟩, top := tops }⟩⟩
  have E_NothingToUndo : Err1 K mg l.prog "NothingToUndo" "done" C_NothingToUndo := ⟨⟨"LookupError", "LookupError.__new__", "LookupError.__init__", [.type "LookupError", .type "Exception", .type "BaseException", .type "object"], I_NothingToUndo, EX.base_LookupError, { ok := fld_done, gC := PySem.W.mg_of X G ca_NothingToUndo, gS := PySem.W.mg_none_of X G z_super, cls := ei_NothingToUndo, ov := eo_NothingToUndo, sup := es_NothingToUndo, sa := e1_NothingToUndo, ga := e2_NothingToUndo, gg := e3_NothingToUndo, noN := e4_NothingToUndo, iC := e5_NothingToUndo, tC := e6_NothingToUndo, kC := ck_NothingToUndo, exC := cb_NothingToUndo, tyC := ct_NothingToUndo, hdC := e7_NothingToUndo, st := st, me := e8_NothingToUndo, inB := e9_NothingToUndo, fn := ⟨_, _, _, _, _, _, _, _, _, _, _, _, _, _, _, _, _, _, _, _, _, _, il_NothingToUndo, ic_NothingToUndo, ip_NothingToUndo, ⟨_, _, _, _, _, _, jl_NothingToUndo, ju2_NothingToUndo, jf_NothingToUndo⟩, _, _, _, ll_NothingToUndo⟩, top := tops }⟩⟩
  have E_TooMany : Err1 K mg l.prog "TooMany" "limit" C_TooMany := ⟨⟨"OverflowError", "OverflowError.__new__", "OverflowError.__init__", [.type "OverflowError", .type "ArithmeticError", .type "Exception", .type "BaseException", .type "object"], I_TooMany, EX.base_OverflowError, { ok := fld_limit, gC := PySem.W.mg_of X G ca_TooMany, gS := PySem.W.mg_none_of X G z_super, cls := ei_TooMany, ov := eo_TooMany, sup := es_TooMany, sa := e1_TooMany, ga := e2_TooMany, gg := e3_TooMany, noN := e4_TooMany, iC := e5_TooMany, tC := e6_TooMany, kC := ck_TooMany, exC := cb_TooMany, tyC := ct_TooMany, hdC := e7_TooMany, st := st, me := e8_TooMany, inB := e9_TooMany, fn := ⟨_, _, _, _, _, _, _, _, _, _, _, _, _, _, _, _, _, _, _, _, _, _, il_TooMany, ic_TooMany, ip_TooMany, ⟨_, _, _, _, _, _, jl_TooMany, ju2_TooMany, jf_TooMany⟩, _, _, _, ll_TooMany⟩, top := tops }⟩⟩
  have E_Refused : Err1 K mg l.prog "Refused" "reason" C_Refused := ⟨⟨"ArithmeticError", "ArithmeticError.__new__", "ArithmeticError.__init__", [.type "ArithmeticError", .type "Exception", .type "BaseException", .type "object"], I_Refused, EX.base_ArithmeticError, { ok := fld_reason, gC := PySem.W.mg_of X G ca_Refused, gS := PySem.W.mg_none_of X G z_super, cls := ei_Refused, ov := eo_Refused, sup := es_Refused, sa := e1_Refused, ga := e2_Refused, gg := e3_Refused, noN := e4_Refused, iC := e5_Refused, tC := e6_Refused, kC := ck_Refused, exC := cb_Refused, tyC := ct_Refused, hdC := e7_Refused, st := st, me := e8_Refused, inB := e9_Refused, fn := ⟨_, _, _, _, _, _, _, _, _, _, _, _, _, _, _, _, _, _, _, _, _, _, il_Refused, ic_Refused, ip_Refused, ⟨_, _, _, _, _, _, jl_Refused, ju2_Refused, jf_Refused⟩, _, _, _, ll_Refused⟩, top := tops }⟩⟩
  have E_InvalidRow : Err0 K mg "InvalidRow" C_InvalidRow := ⟨⟨[.type "ValueError", .type "Exception", .type "BaseException", .type "object"], "ValueError", "ValueError.__new__", "ValueError.__init__", PySem.F.excBase_ValueError, cx_InvalidRow⟩, PySem.W.mg_of X G ca_InvalidRow, ck_InvalidRow, cb_InvalidRow, ct_InvalidRow⟩
  have E_InvalidLot : Err0 K mg "InvalidLot" C_InvalidLot := ⟨⟨[.type "ValueError", .type "Exception", .type "BaseException", .type "object"], "ValueError", "ValueError.__new__", "ValueError.__init__", PySem.F.excBase_ValueError, cx_InvalidLot⟩, PySem.W.mg_of X G ca_InvalidLot, ck_InvalidLot, cb_InvalidLot, ct_InvalidLot⟩
  have E_InvalidReading : Err0 K mg "InvalidReading" C_InvalidReading := ⟨⟨[.type "ValueError", .type "Exception", .type "BaseException", .type "object"], "ValueError", "ValueError.__new__", "ValueError.__init__", PySem.F.excBase_ValueError, cx_InvalidReading⟩, PySem.W.mg_of X G ca_InvalidReading, ck_InvalidReading, cb_InvalidReading, ct_InvalidReading⟩
  have E_InvalidNetwork : Err0 K mg "InvalidNetwork" C_InvalidNetwork := ⟨⟨[.type "ValueError", .type "Exception", .type "BaseException", .type "object"], "ValueError", "ValueError.__new__", "ValueError.__init__", PySem.F.excBase_ValueError, cx_InvalidNetwork⟩, PySem.W.mg_of X G ca_InvalidNetwork, ck_InvalidNetwork, cb_InvalidNetwork, ct_InvalidNetwork⟩
  have E_InvalidGrowth : Err0 K mg "InvalidGrowth" C_InvalidGrowth := ⟨⟨[.type "ValueError", .type "Exception", .type "BaseException", .type "object"], "ValueError", "ValueError.__new__", "ValueError.__init__", PySem.F.excBase_ValueError, cx_InvalidGrowth⟩, PySem.W.mg_of X G ca_InvalidGrowth, ck_InvalidGrowth, cb_InvalidGrowth, ct_InvalidGrowth⟩
  have E_InvalidOperation : Err0 K mg "InvalidOperation" C_InvalidOperation := ⟨⟨[.type "ValueError", .type "Exception", .type "BaseException", .type "object"], "ValueError", "ValueError.__new__", "ValueError.__init__", PySem.F.excBase_ValueError, cx_InvalidOperation⟩, PySem.W.mg_of X G ca_InvalidOperation, ck_InvalidOperation, cb_InvalidOperation, ct_InvalidOperation⟩
  have E_InvalidText : Err0 K mg "InvalidText" C_InvalidText := ⟨⟨[.type "ValueError", .type "Exception", .type "BaseException", .type "object"], "ValueError", "ValueError.__new__", "ValueError.__init__", PySem.F.excBase_ValueError, cx_InvalidText⟩, PySem.W.mg_of X G ca_InvalidText, ck_InvalidText, cb_InvalidText, ct_InvalidText⟩
  have E_InvalidClaim : Err0 K mg "InvalidClaim" C_InvalidClaim := ⟨⟨[.type "ValueError", .type "Exception", .type "BaseException", .type "object"], "ValueError", "ValueError.__new__", "ValueError.__init__", PySem.F.excBase_ValueError, cx_InvalidClaim⟩, PySem.W.mg_of X G ca_InvalidClaim, ck_InvalidClaim, cb_InvalidClaim, ct_InvalidClaim⟩
  have E_RampError : Err0 K mg "RampError" C_RampError := ⟨⟨[.type "ValueError", .type "Exception", .type "BaseException", .type "object"], "ValueError", "ValueError.__new__", "ValueError.__init__", PySem.F.excBase_ValueError, cx_RampError⟩, PySem.W.mg_of X G ca_RampError, ck_RampError, cb_RampError, ct_RampError⟩
  let ex : ExMap := { at_ := fun x => if x = "InvalidRow" then C_InvalidRow else if x = "InvalidLot" then C_InvalidLot else if x = "InvalidReading" then C_InvalidReading else if x = "InvalidNetwork" then C_InvalidNetwork else if x = "InvalidGrowth" then C_InvalidGrowth else if x = "InvalidOperation" then C_InvalidOperation else if x = "InvalidText" then C_InvalidText else if x = "InvalidClaim" then C_InvalidClaim else if x = "RampError" then C_RampError else if x = "ParseError" then C_ParseError else if x = "InvalidNumber" then C_InvalidNumber else if x = "UnknownName" then C_UnknownName else if x = "NothingToUndo" then C_NothingToUndo else if x = "TooMany" then C_TooMany else if x = "Refused" then C_Refused else 0, fld := fun x => if x = "ParseError" then "spot" else if x = "InvalidNumber" then "given" else if x = "UnknownName" then "wanted" else if x = "NothingToUndo" then "done" else if x = "TooMany" then "limit" else if x = "Refused" then "reason" else "", is := isF }
  have hx : ExOk K ex := fun nm cn b z => by
    have z : isF nm cn = some b := z
    unfold isF at z
    split at z
    · rename_i hm
      obtain ⟨h1, h2⟩ := hm
      simp only [List.mem_cons, List.not_mem_nil, or_false] at h1 h2
      rcases h1 with rfl | rfl | rfl | rfl | rfl | rfl | rfl | rfl | rfl | rfl | rfl | rfl | rfl | rfl | rfl
      · rcases h2 with rfl | rfl | rfl | rfl | rfl | rfl | rfl | rfl | rfl | rfl | rfl | rfl | rfl | rfl | rfl
        · obtain rfl := (Option.some.inj z).symm.trans (show isB "InvalidRow" "InvalidRow" = true from by decide +kernel); exact exm_by cb_InvalidRow ci_InvalidRow ct_InvalidRow s_InvalidRow_InvalidRow
        · obtain rfl := (Option.some.inj z).symm.trans (show isB "InvalidRow" "InvalidLot" = false from by decide +kernel); exact exm_by cb_InvalidLot ci_InvalidLot ct_InvalidLot s_InvalidRow_InvalidLot
        · obtain rfl := (Option.some.inj z).symm.trans (show isB "InvalidRow" "InvalidReading" = false from by decide +kernel); exact exm_by cb_InvalidReading ci_InvalidReading ct_InvalidReading s_InvalidRow_InvalidReading
        · obtain rfl := (Option.some.inj z).symm.trans (show isB "InvalidRow" "InvalidNetwork" = false from by decide +kernel); exact exm_by cb_InvalidNetwork ci_InvalidNetwork ct_InvalidNetwork s_InvalidRow_InvalidNetwork
        · obtain rfl := (Option.some.inj z).symm.trans (show isB "InvalidRow" "InvalidGrowth" = false from by decide +kernel); exact exm_by cb_InvalidGrowth ci_InvalidGrowth ct_InvalidGrowth s_InvalidRow_InvalidGrowth
        · obtain rfl := (Option.some.inj z).symm.trans (show isB "InvalidRow" "InvalidOperation" = false from by decide +kernel); exact exm_by cb_InvalidOperation ci_InvalidOperation ct_InvalidOperation s_InvalidRow_InvalidOperation
        · obtain rfl := (Option.some.inj z).symm.trans (show isB "InvalidRow" "InvalidText" = false from by decide +kernel); exact exm_by cb_InvalidText ci_InvalidText ct_InvalidText s_InvalidRow_InvalidText
        · obtain rfl := (Option.some.inj z).symm.trans (show isB "InvalidRow" "InvalidClaim" = false from by decide +kernel); exact exm_by cb_InvalidClaim ci_InvalidClaim ct_InvalidClaim s_InvalidRow_InvalidClaim
        · obtain rfl := (Option.some.inj z).symm.trans (show isB "InvalidRow" "ParseError" = false from by decide +kernel); exact exm_by cb_ParseError ci_ParseError ct_ParseError s_InvalidRow_ParseError
        · obtain rfl := (Option.some.inj z).symm.trans (show isB "InvalidRow" "RampError" = true from by decide +kernel); exact exm_by cb_RampError ci_RampError ct_RampError s_InvalidRow_RampError
        · obtain rfl := (Option.some.inj z).symm.trans (show isB "InvalidRow" "InvalidNumber" = false from by decide +kernel); exact exm_by cb_InvalidNumber ci_InvalidNumber ct_InvalidNumber s_InvalidRow_InvalidNumber
        · obtain rfl := (Option.some.inj z).symm.trans (show isB "InvalidRow" "UnknownName" = false from by decide +kernel); exact exm_by cb_UnknownName ci_UnknownName ct_UnknownName s_InvalidRow_UnknownName
        · obtain rfl := (Option.some.inj z).symm.trans (show isB "InvalidRow" "NothingToUndo" = false from by decide +kernel); exact exm_by cb_NothingToUndo ci_NothingToUndo ct_NothingToUndo s_InvalidRow_NothingToUndo
        · obtain rfl := (Option.some.inj z).symm.trans (show isB "InvalidRow" "TooMany" = false from by decide +kernel); exact exm_by cb_TooMany ci_TooMany ct_TooMany s_InvalidRow_TooMany
        · obtain rfl := (Option.some.inj z).symm.trans (show isB "InvalidRow" "Refused" = false from by decide +kernel); exact exm_by cb_Refused ci_Refused ct_Refused s_InvalidRow_Refused
      · rcases h2 with rfl | rfl | rfl | rfl | rfl | rfl | rfl | rfl | rfl | rfl | rfl | rfl | rfl | rfl | rfl
        · obtain rfl := (Option.some.inj z).symm.trans (show isB "InvalidLot" "InvalidRow" = false from by decide +kernel); exact exm_by cb_InvalidRow ci_InvalidRow ct_InvalidRow s_InvalidLot_InvalidRow
        · obtain rfl := (Option.some.inj z).symm.trans (show isB "InvalidLot" "InvalidLot" = true from by decide +kernel); exact exm_by cb_InvalidLot ci_InvalidLot ct_InvalidLot s_InvalidLot_InvalidLot
        · obtain rfl := (Option.some.inj z).symm.trans (show isB "InvalidLot" "InvalidReading" = false from by decide +kernel); exact exm_by cb_InvalidReading ci_InvalidReading ct_InvalidReading s_InvalidLot_InvalidReading
        · obtain rfl := (Option.some.inj z).symm.trans (show isB "InvalidLot" "InvalidNetwork" = false from by decide +kernel); exact exm_by cb_InvalidNetwork ci_InvalidNetwork ct_InvalidNetwork s_InvalidLot_InvalidNetwork
        · obtain rfl := (Option.some.inj z).symm.trans (show isB "InvalidLot" "InvalidGrowth" = false from by decide +kernel); exact exm_by cb_InvalidGrowth ci_InvalidGrowth ct_InvalidGrowth s_InvalidLot_InvalidGrowth
        · obtain rfl := (Option.some.inj z).symm.trans (show isB "InvalidLot" "InvalidOperation" = false from by decide +kernel); exact exm_by cb_InvalidOperation ci_InvalidOperation ct_InvalidOperation s_InvalidLot_InvalidOperation
        · obtain rfl := (Option.some.inj z).symm.trans (show isB "InvalidLot" "InvalidText" = false from by decide +kernel); exact exm_by cb_InvalidText ci_InvalidText ct_InvalidText s_InvalidLot_InvalidText
        · obtain rfl := (Option.some.inj z).symm.trans (show isB "InvalidLot" "InvalidClaim" = false from by decide +kernel); exact exm_by cb_InvalidClaim ci_InvalidClaim ct_InvalidClaim s_InvalidLot_InvalidClaim
        · obtain rfl := (Option.some.inj z).symm.trans (show isB "InvalidLot" "ParseError" = false from by decide +kernel); exact exm_by cb_ParseError ci_ParseError ct_ParseError s_InvalidLot_ParseError
        · obtain rfl := (Option.some.inj z).symm.trans (show isB "InvalidLot" "RampError" = true from by decide +kernel); exact exm_by cb_RampError ci_RampError ct_RampError s_InvalidLot_RampError
        · obtain rfl := (Option.some.inj z).symm.trans (show isB "InvalidLot" "InvalidNumber" = false from by decide +kernel); exact exm_by cb_InvalidNumber ci_InvalidNumber ct_InvalidNumber s_InvalidLot_InvalidNumber
        · obtain rfl := (Option.some.inj z).symm.trans (show isB "InvalidLot" "UnknownName" = false from by decide +kernel); exact exm_by cb_UnknownName ci_UnknownName ct_UnknownName s_InvalidLot_UnknownName
        · obtain rfl := (Option.some.inj z).symm.trans (show isB "InvalidLot" "NothingToUndo" = false from by decide +kernel); exact exm_by cb_NothingToUndo ci_NothingToUndo ct_NothingToUndo s_InvalidLot_NothingToUndo
        · obtain rfl := (Option.some.inj z).symm.trans (show isB "InvalidLot" "TooMany" = false from by decide +kernel); exact exm_by cb_TooMany ci_TooMany ct_TooMany s_InvalidLot_TooMany
        · obtain rfl := (Option.some.inj z).symm.trans (show isB "InvalidLot" "Refused" = false from by decide +kernel); exact exm_by cb_Refused ci_Refused ct_Refused s_InvalidLot_Refused
      · rcases h2 with rfl | rfl | rfl | rfl | rfl | rfl | rfl | rfl | rfl | rfl | rfl | rfl | rfl | rfl | rfl
        · obtain rfl := (Option.some.inj z).symm.trans (show isB "InvalidReading" "InvalidRow" = false from by decide +kernel); exact exm_by cb_InvalidRow ci_InvalidRow ct_InvalidRow s_InvalidReading_InvalidRow
        · obtain rfl := (Option.some.inj z).symm.trans (show isB "InvalidReading" "InvalidLot" = false from by decide +kernel); exact exm_by cb_InvalidLot ci_InvalidLot ct_InvalidLot s_InvalidReading_InvalidLot
        · obtain rfl := (Option.some.inj z).symm.trans (show isB "InvalidReading" "InvalidReading" = true from by decide +kernel); exact exm_by cb_InvalidReading ci_InvalidReading ct_InvalidReading s_InvalidReading_InvalidReading
        · obtain rfl := (Option.some.inj z).symm.trans (show isB "InvalidReading" "InvalidNetwork" = false from by decide +kernel); exact exm_by cb_InvalidNetwork ci_InvalidNetwork ct_InvalidNetwork s_InvalidReading_InvalidNetwork
        · obtain rfl := (Option.some.inj z).symm.trans (show isB "InvalidReading" "InvalidGrowth" = false from by decide +kernel); exact exm_by cb_InvalidGrowth ci_InvalidGrowth ct_InvalidGrowth s_InvalidReading_InvalidGrowth
        · obtain rfl := (Option.some.inj z).symm.trans (show isB "InvalidReading" "InvalidOperation" = false from by decide +kernel); exact exm_by cb_InvalidOperation ci_InvalidOperation ct_InvalidOperation s_InvalidReading_InvalidOperation
        · obtain rfl := (Option.some.inj z).symm.trans (show isB "InvalidReading" "InvalidText" = false from by decide +kernel); exact exm_by cb_InvalidText ci_InvalidText ct_InvalidText s_InvalidReading_InvalidText
        · obtain rfl := (Option.some.inj z).symm.trans (show isB "InvalidReading" "InvalidClaim" = false from by decide +kernel); exact exm_by cb_InvalidClaim ci_InvalidClaim ct_InvalidClaim s_InvalidReading_InvalidClaim
        · obtain rfl := (Option.some.inj z).symm.trans (show isB "InvalidReading" "ParseError" = false from by decide +kernel); exact exm_by cb_ParseError ci_ParseError ct_ParseError s_InvalidReading_ParseError
        · obtain rfl := (Option.some.inj z).symm.trans (show isB "InvalidReading" "RampError" = true from by decide +kernel); exact exm_by cb_RampError ci_RampError ct_RampError s_InvalidReading_RampError
        · obtain rfl := (Option.some.inj z).symm.trans (show isB "InvalidReading" "InvalidNumber" = false from by decide +kernel); exact exm_by cb_InvalidNumber ci_InvalidNumber ct_InvalidNumber s_InvalidReading_InvalidNumber
        · obtain rfl := (Option.some.inj z).symm.trans (show isB "InvalidReading" "UnknownName" = false from by decide +kernel); exact exm_by cb_UnknownName ci_UnknownName ct_UnknownName s_InvalidReading_UnknownName
        · obtain rfl := (Option.some.inj z).symm.trans (show isB "InvalidReading" "NothingToUndo" = false from by decide +kernel); exact exm_by cb_NothingToUndo ci_NothingToUndo ct_NothingToUndo s_InvalidReading_NothingToUndo
        · obtain rfl := (Option.some.inj z).symm.trans (show isB "InvalidReading" "TooMany" = false from by decide +kernel); exact exm_by cb_TooMany ci_TooMany ct_TooMany s_InvalidReading_TooMany
        · obtain rfl := (Option.some.inj z).symm.trans (show isB "InvalidReading" "Refused" = false from by decide +kernel); exact exm_by cb_Refused ci_Refused ct_Refused s_InvalidReading_Refused
      · rcases h2 with rfl | rfl | rfl | rfl | rfl | rfl | rfl | rfl | rfl | rfl | rfl | rfl | rfl | rfl | rfl
        · obtain rfl := (Option.some.inj z).symm.trans (show isB "InvalidNetwork" "InvalidRow" = false from by decide +kernel); exact exm_by cb_InvalidRow ci_InvalidRow ct_InvalidRow s_InvalidNetwork_InvalidRow
        · obtain rfl := (Option.some.inj z).symm.trans (show isB "InvalidNetwork" "InvalidLot" = false from by decide +kernel); exact exm_by cb_InvalidLot ci_InvalidLot ct_InvalidLot s_InvalidNetwork_InvalidLot
        · obtain rfl := (Option.some.inj z).symm.trans (show isB "InvalidNetwork" "InvalidReading" = false from by decide +kernel); exact exm_by cb_InvalidReading ci_InvalidReading ct_InvalidReading s_InvalidNetwork_InvalidReading
        · obtain rfl := (Option.some.inj z).symm.trans (show isB "InvalidNetwork" "InvalidNetwork" = true from by decide +kernel); exact exm_by cb_InvalidNetwork ci_InvalidNetwork ct_InvalidNetwork s_InvalidNetwork_InvalidNetwork
        · obtain rfl := (Option.some.inj z).symm.trans (show isB "InvalidNetwork" "InvalidGrowth" = false from by decide +kernel); exact exm_by cb_InvalidGrowth ci_InvalidGrowth ct_InvalidGrowth s_InvalidNetwork_InvalidGrowth
        · obtain rfl := (Option.some.inj z).symm.trans (show isB "InvalidNetwork" "InvalidOperation" = false from by decide +kernel); exact exm_by cb_InvalidOperation ci_InvalidOperation ct_InvalidOperation s_InvalidNetwork_InvalidOperation
        · obtain rfl := (Option.some.inj z).symm.trans (show isB "InvalidNetwork" "InvalidText" = false from by decide +kernel); exact exm_by cb_InvalidText ci_InvalidText ct_InvalidText s_InvalidNetwork_InvalidText
        · obtain rfl := (Option.some.inj z).symm.trans (show isB "InvalidNetwork" "InvalidClaim" = false from by decide +kernel); exact exm_by cb_InvalidClaim ci_InvalidClaim ct_InvalidClaim s_InvalidNetwork_InvalidClaim
        · obtain rfl := (Option.some.inj z).symm.trans (show isB "InvalidNetwork" "ParseError" = false from by decide +kernel); exact exm_by cb_ParseError ci_ParseError ct_ParseError s_InvalidNetwork_ParseError
        · obtain rfl := (Option.some.inj z).symm.trans (show isB "InvalidNetwork" "RampError" = true from by decide +kernel); exact exm_by cb_RampError ci_RampError ct_RampError s_InvalidNetwork_RampError
        · obtain rfl := (Option.some.inj z).symm.trans (show isB "InvalidNetwork" "InvalidNumber" = false from by decide +kernel); exact exm_by cb_InvalidNumber ci_InvalidNumber ct_InvalidNumber s_InvalidNetwork_InvalidNumber
        · obtain rfl := (Option.some.inj z).symm.trans (show isB "InvalidNetwork" "UnknownName" = false from by decide +kernel); exact exm_by cb_UnknownName ci_UnknownName ct_UnknownName s_InvalidNetwork_UnknownName
        · obtain rfl := (Option.some.inj z).symm.trans (show isB "InvalidNetwork" "NothingToUndo" = false from by decide +kernel); exact exm_by cb_NothingToUndo ci_NothingToUndo ct_NothingToUndo s_InvalidNetwork_NothingToUndo
        · obtain rfl := (Option.some.inj z).symm.trans (show isB "InvalidNetwork" "TooMany" = false from by decide +kernel); exact exm_by cb_TooMany ci_TooMany ct_TooMany s_InvalidNetwork_TooMany
        · obtain rfl := (Option.some.inj z).symm.trans (show isB "InvalidNetwork" "Refused" = false from by decide +kernel); exact exm_by cb_Refused ci_Refused ct_Refused s_InvalidNetwork_Refused
      · rcases h2 with rfl | rfl | rfl | rfl | rfl | rfl | rfl | rfl | rfl | rfl | rfl | rfl | rfl | rfl | rfl
        · obtain rfl := (Option.some.inj z).symm.trans (show isB "InvalidGrowth" "InvalidRow" = false from by decide +kernel); exact exm_by cb_InvalidRow ci_InvalidRow ct_InvalidRow s_InvalidGrowth_InvalidRow
        · obtain rfl := (Option.some.inj z).symm.trans (show isB "InvalidGrowth" "InvalidLot" = false from by decide +kernel); exact exm_by cb_InvalidLot ci_InvalidLot ct_InvalidLot s_InvalidGrowth_InvalidLot
        · obtain rfl := (Option.some.inj z).symm.trans (show isB "InvalidGrowth" "InvalidReading" = false from by decide +kernel); exact exm_by cb_InvalidReading ci_InvalidReading ct_InvalidReading s_InvalidGrowth_InvalidReading
        · obtain rfl := (Option.some.inj z).symm.trans (show isB "InvalidGrowth" "InvalidNetwork" = false from by decide +kernel); exact exm_by cb_InvalidNetwork ci_InvalidNetwork ct_InvalidNetwork s_InvalidGrowth_InvalidNetwork
        · obtain rfl := (Option.some.inj z).symm.trans (show isB "InvalidGrowth" "InvalidGrowth" = true from by decide +kernel); exact exm_by cb_InvalidGrowth ci_InvalidGrowth ct_InvalidGrowth s_InvalidGrowth_InvalidGrowth
        · obtain rfl := (Option.some.inj z).symm.trans (show isB "InvalidGrowth" "InvalidOperation" = false from by decide +kernel); exact exm_by cb_InvalidOperation ci_InvalidOperation ct_InvalidOperation s_InvalidGrowth_InvalidOperation
        · obtain rfl := (Option.some.inj z).symm.trans (show isB "InvalidGrowth" "InvalidText" = false from by decide +kernel); exact exm_by cb_InvalidText ci_InvalidText ct_InvalidText s_InvalidGrowth_InvalidText
        · obtain rfl := (Option.some.inj z).symm.trans (show isB "InvalidGrowth" "InvalidClaim" = false from by decide +kernel); exact exm_by cb_InvalidClaim ci_InvalidClaim ct_InvalidClaim s_InvalidGrowth_InvalidClaim
        · obtain rfl := (Option.some.inj z).symm.trans (show isB "InvalidGrowth" "ParseError" = false from by decide +kernel); exact exm_by cb_ParseError ci_ParseError ct_ParseError s_InvalidGrowth_ParseError
        · obtain rfl := (Option.some.inj z).symm.trans (show isB "InvalidGrowth" "RampError" = true from by decide +kernel); exact exm_by cb_RampError ci_RampError ct_RampError s_InvalidGrowth_RampError
        · obtain rfl := (Option.some.inj z).symm.trans (show isB "InvalidGrowth" "InvalidNumber" = false from by decide +kernel); exact exm_by cb_InvalidNumber ci_InvalidNumber ct_InvalidNumber s_InvalidGrowth_InvalidNumber
        · obtain rfl := (Option.some.inj z).symm.trans (show isB "InvalidGrowth" "UnknownName" = false from by decide +kernel); exact exm_by cb_UnknownName ci_UnknownName ct_UnknownName s_InvalidGrowth_UnknownName
        · obtain rfl := (Option.some.inj z).symm.trans (show isB "InvalidGrowth" "NothingToUndo" = false from by decide +kernel); exact exm_by cb_NothingToUndo ci_NothingToUndo ct_NothingToUndo s_InvalidGrowth_NothingToUndo
        · obtain rfl := (Option.some.inj z).symm.trans (show isB "InvalidGrowth" "TooMany" = false from by decide +kernel); exact exm_by cb_TooMany ci_TooMany ct_TooMany s_InvalidGrowth_TooMany
        · obtain rfl := (Option.some.inj z).symm.trans (show isB "InvalidGrowth" "Refused" = false from by decide +kernel); exact exm_by cb_Refused ci_Refused ct_Refused s_InvalidGrowth_Refused
      · rcases h2 with rfl | rfl | rfl | rfl | rfl | rfl | rfl | rfl | rfl | rfl | rfl | rfl | rfl | rfl | rfl
        · obtain rfl := (Option.some.inj z).symm.trans (show isB "InvalidOperation" "InvalidRow" = false from by decide +kernel); exact exm_by cb_InvalidRow ci_InvalidRow ct_InvalidRow s_InvalidOperation_InvalidRow
        · obtain rfl := (Option.some.inj z).symm.trans (show isB "InvalidOperation" "InvalidLot" = false from by decide +kernel); exact exm_by cb_InvalidLot ci_InvalidLot ct_InvalidLot s_InvalidOperation_InvalidLot
        · obtain rfl := (Option.some.inj z).symm.trans (show isB "InvalidOperation" "InvalidReading" = false from by decide +kernel); exact exm_by cb_InvalidReading ci_InvalidReading ct_InvalidReading s_InvalidOperation_InvalidReading
        · obtain rfl := (Option.some.inj z).symm.trans (show isB "InvalidOperation" "InvalidNetwork" = false from by decide +kernel); exact exm_by cb_InvalidNetwork ci_InvalidNetwork ct_InvalidNetwork s_InvalidOperation_InvalidNetwork
        · obtain rfl := (Option.some.inj z).symm.trans (show isB "InvalidOperation" "InvalidGrowth" = false from by decide +kernel); exact exm_by cb_InvalidGrowth ci_InvalidGrowth ct_InvalidGrowth s_InvalidOperation_InvalidGrowth
        · obtain rfl := (Option.some.inj z).symm.trans (show isB "InvalidOperation" "InvalidOperation" = true from by decide +kernel); exact exm_by cb_InvalidOperation ci_InvalidOperation ct_InvalidOperation s_InvalidOperation_InvalidOperation
        · obtain rfl := (Option.some.inj z).symm.trans (show isB "InvalidOperation" "InvalidText" = false from by decide +kernel); exact exm_by cb_InvalidText ci_InvalidText ct_InvalidText s_InvalidOperation_InvalidText
        · obtain rfl := (Option.some.inj z).symm.trans (show isB "InvalidOperation" "InvalidClaim" = false from by decide +kernel); exact exm_by cb_InvalidClaim ci_InvalidClaim ct_InvalidClaim s_InvalidOperation_InvalidClaim
        · obtain rfl := (Option.some.inj z).symm.trans (show isB "InvalidOperation" "ParseError" = false from by decide +kernel); exact exm_by cb_ParseError ci_ParseError ct_ParseError s_InvalidOperation_ParseError
        · obtain rfl := (Option.some.inj z).symm.trans (show isB "InvalidOperation" "RampError" = true from by decide +kernel); exact exm_by cb_RampError ci_RampError ct_RampError s_InvalidOperation_RampError
        · obtain rfl := (Option.some.inj z).symm.trans (show isB "InvalidOperation" "InvalidNumber" = false from by decide +kernel); exact exm_by cb_InvalidNumber ci_InvalidNumber ct_InvalidNumber s_InvalidOperation_InvalidNumber
        · obtain rfl := (Option.some.inj z).symm.trans (show isB "InvalidOperation" "UnknownName" = false from by decide +kernel); exact exm_by cb_UnknownName ci_UnknownName ct_UnknownName s_InvalidOperation_UnknownName
        · obtain rfl := (Option.some.inj z).symm.trans (show isB "InvalidOperation" "NothingToUndo" = false from by decide +kernel); exact exm_by cb_NothingToUndo ci_NothingToUndo ct_NothingToUndo s_InvalidOperation_NothingToUndo
        · obtain rfl := (Option.some.inj z).symm.trans (show isB "InvalidOperation" "TooMany" = false from by decide +kernel); exact exm_by cb_TooMany ci_TooMany ct_TooMany s_InvalidOperation_TooMany
        · obtain rfl := (Option.some.inj z).symm.trans (show isB "InvalidOperation" "Refused" = false from by decide +kernel); exact exm_by cb_Refused ci_Refused ct_Refused s_InvalidOperation_Refused
      · rcases h2 with rfl | rfl | rfl | rfl | rfl | rfl | rfl | rfl | rfl | rfl | rfl | rfl | rfl | rfl | rfl
        · obtain rfl := (Option.some.inj z).symm.trans (show isB "InvalidText" "InvalidRow" = false from by decide +kernel); exact exm_by cb_InvalidRow ci_InvalidRow ct_InvalidRow s_InvalidText_InvalidRow
        · obtain rfl := (Option.some.inj z).symm.trans (show isB "InvalidText" "InvalidLot" = false from by decide +kernel); exact exm_by cb_InvalidLot ci_InvalidLot ct_InvalidLot s_InvalidText_InvalidLot
        · obtain rfl := (Option.some.inj z).symm.trans (show isB "InvalidText" "InvalidReading" = false from by decide +kernel); exact exm_by cb_InvalidReading ci_InvalidReading ct_InvalidReading s_InvalidText_InvalidReading
        · obtain rfl := (Option.some.inj z).symm.trans (show isB "InvalidText" "InvalidNetwork" = false from by decide +kernel); exact exm_by cb_InvalidNetwork ci_InvalidNetwork ct_InvalidNetwork s_InvalidText_InvalidNetwork
        · obtain rfl := (Option.some.inj z).symm.trans (show isB "InvalidText" "InvalidGrowth" = false from by decide +kernel); exact exm_by cb_InvalidGrowth ci_InvalidGrowth ct_InvalidGrowth s_InvalidText_InvalidGrowth
        · obtain rfl := (Option.some.inj z).symm.trans (show isB "InvalidText" "InvalidOperation" = false from by decide +kernel); exact exm_by cb_InvalidOperation ci_InvalidOperation ct_InvalidOperation s_InvalidText_InvalidOperation
        · obtain rfl := (Option.some.inj z).symm.trans (show isB "InvalidText" "InvalidText" = true from by decide +kernel); exact exm_by cb_InvalidText ci_InvalidText ct_InvalidText s_InvalidText_InvalidText
        · obtain rfl := (Option.some.inj z).symm.trans (show isB "InvalidText" "InvalidClaim" = false from by decide +kernel); exact exm_by cb_InvalidClaim ci_InvalidClaim ct_InvalidClaim s_InvalidText_InvalidClaim
        · obtain rfl := (Option.some.inj z).symm.trans (show isB "InvalidText" "ParseError" = false from by decide +kernel); exact exm_by cb_ParseError ci_ParseError ct_ParseError s_InvalidText_ParseError
        · obtain rfl := (Option.some.inj z).symm.trans (show isB "InvalidText" "RampError" = true from by decide +kernel); exact exm_by cb_RampError ci_RampError ct_RampError s_InvalidText_RampError
        · obtain rfl := (Option.some.inj z).symm.trans (show isB "InvalidText" "InvalidNumber" = false from by decide +kernel); exact exm_by cb_InvalidNumber ci_InvalidNumber ct_InvalidNumber s_InvalidText_InvalidNumber
        · obtain rfl := (Option.some.inj z).symm.trans (show isB "InvalidText" "UnknownName" = false from by decide +kernel); exact exm_by cb_UnknownName ci_UnknownName ct_UnknownName s_InvalidText_UnknownName
        · obtain rfl := (Option.some.inj z).symm.trans (show isB "InvalidText" "NothingToUndo" = false from by decide +kernel); exact exm_by cb_NothingToUndo ci_NothingToUndo ct_NothingToUndo s_InvalidText_NothingToUndo
        · obtain rfl := (Option.some.inj z).symm.trans (show isB "InvalidText" "TooMany" = false from by decide +kernel); exact exm_by cb_TooMany ci_TooMany ct_TooMany s_InvalidText_TooMany
        · obtain rfl := (Option.some.inj z).symm.trans (show isB "InvalidText" "Refused" = false from by decide +kernel); exact exm_by cb_Refused ci_Refused ct_Refused s_InvalidText_Refused
      · rcases h2 with rfl | rfl | rfl | rfl | rfl | rfl | rfl | rfl | rfl | rfl | rfl | rfl | rfl | rfl | rfl
        · obtain rfl := (Option.some.inj z).symm.trans (show isB "InvalidClaim" "InvalidRow" = false from by decide +kernel); exact exm_by cb_InvalidRow ci_InvalidRow ct_InvalidRow s_InvalidClaim_InvalidRow
        · obtain rfl := (Option.some.inj z).symm.trans (show isB "InvalidClaim" "InvalidLot" = false from by decide +kernel); exact exm_by cb_InvalidLot ci_InvalidLot ct_InvalidLot s_InvalidClaim_InvalidLot
        · obtain rfl := (Option.some.inj z).symm.trans (show isB "InvalidClaim" "InvalidReading" = false from by decide +kernel); exact exm_by cb_InvalidReading ci_InvalidReading ct_InvalidReading s_InvalidClaim_InvalidReading
        · obtain rfl := (Option.some.inj z).symm.trans (show isB "InvalidClaim" "InvalidNetwork" = false from by decide +kernel); exact exm_by cb_InvalidNetwork ci_InvalidNetwork ct_InvalidNetwork s_InvalidClaim_InvalidNetwork
        · obtain rfl := (Option.some.inj z).symm.trans (show isB "InvalidClaim" "InvalidGrowth" = false from by decide +kernel); exact exm_by cb_InvalidGrowth ci_InvalidGrowth ct_InvalidGrowth s_InvalidClaim_InvalidGrowth
        · obtain rfl := (Option.some.inj z).symm.trans (show isB "InvalidClaim" "InvalidOperation" = false from by decide +kernel); exact exm_by cb_InvalidOperation ci_InvalidOperation ct_InvalidOperation s_InvalidClaim_InvalidOperation
        · obtain rfl := (Option.some.inj z).symm.trans (show isB "InvalidClaim" "InvalidText" = false from by decide +kernel); exact exm_by cb_InvalidText ci_InvalidText ct_InvalidText s_InvalidClaim_InvalidText
        · obtain rfl := (Option.some.inj z).symm.trans (show isB "InvalidClaim" "InvalidClaim" = true from by decide +kernel); exact exm_by cb_InvalidClaim ci_InvalidClaim ct_InvalidClaim s_InvalidClaim_InvalidClaim
        · obtain rfl := (Option.some.inj z).symm.trans (show isB "InvalidClaim" "ParseError" = false from by decide +kernel); exact exm_by cb_ParseError ci_ParseError ct_ParseError s_InvalidClaim_ParseError
        · obtain rfl := (Option.some.inj z).symm.trans (show isB "InvalidClaim" "RampError" = true from by decide +kernel); exact exm_by cb_RampError ci_RampError ct_RampError s_InvalidClaim_RampError
        · obtain rfl := (Option.some.inj z).symm.trans (show isB "InvalidClaim" "InvalidNumber" = false from by decide +kernel); exact exm_by cb_InvalidNumber ci_InvalidNumber ct_InvalidNumber s_InvalidClaim_InvalidNumber
        · obtain rfl := (Option.some.inj z).symm.trans (show isB "InvalidClaim" "UnknownName" = false from by decide +kernel); exact exm_by cb_UnknownName ci_UnknownName ct_UnknownName s_InvalidClaim_UnknownName
        · obtain rfl := (Option.some.inj z).symm.trans (show isB "InvalidClaim" "NothingToUndo" = false from by decide +kernel); exact exm_by cb_NothingToUndo ci_NothingToUndo ct_NothingToUndo s_InvalidClaim_NothingToUndo
        · obtain rfl := (Option.some.inj z).symm.trans (show isB "InvalidClaim" "TooMany" = false from by decide +kernel); exact exm_by cb_TooMany ci_TooMany ct_TooMany s_InvalidClaim_TooMany
        · obtain rfl := (Option.some.inj z).symm.trans (show isB "InvalidClaim" "Refused" = false from by decide +kernel); exact exm_by cb_Refused ci_Refused ct_Refused s_InvalidClaim_Refused
      · rcases h2 with rfl | rfl | rfl | rfl | rfl | rfl | rfl | rfl | rfl | rfl | rfl | rfl | rfl | rfl | rfl
        · obtain rfl := (Option.some.inj z).symm.trans (show isB "ParseError" "InvalidRow" = false from by decide +kernel); exact exm_by cb_InvalidRow ci_InvalidRow ct_InvalidRow s_ParseError_InvalidRow
        · obtain rfl := (Option.some.inj z).symm.trans (show isB "ParseError" "InvalidLot" = false from by decide +kernel); exact exm_by cb_InvalidLot ci_InvalidLot ct_InvalidLot s_ParseError_InvalidLot
        · obtain rfl := (Option.some.inj z).symm.trans (show isB "ParseError" "InvalidReading" = false from by decide +kernel); exact exm_by cb_InvalidReading ci_InvalidReading ct_InvalidReading s_ParseError_InvalidReading
        · obtain rfl := (Option.some.inj z).symm.trans (show isB "ParseError" "InvalidNetwork" = false from by decide +kernel); exact exm_by cb_InvalidNetwork ci_InvalidNetwork ct_InvalidNetwork s_ParseError_InvalidNetwork
        · obtain rfl := (Option.some.inj z).symm.trans (show isB "ParseError" "InvalidGrowth" = false from by decide +kernel); exact exm_by cb_InvalidGrowth ci_InvalidGrowth ct_InvalidGrowth s_ParseError_InvalidGrowth
        · obtain rfl := (Option.some.inj z).symm.trans (show isB "ParseError" "InvalidOperation" = false from by decide +kernel); exact exm_by cb_InvalidOperation ci_InvalidOperation ct_InvalidOperation s_ParseError_InvalidOperation
        · obtain rfl := (Option.some.inj z).symm.trans (show isB "ParseError" "InvalidText" = false from by decide +kernel); exact exm_by cb_InvalidText ci_InvalidText ct_InvalidText s_ParseError_InvalidText
        · obtain rfl := (Option.some.inj z).symm.trans (show isB "ParseError" "InvalidClaim" = false from by decide +kernel); exact exm_by cb_InvalidClaim ci_InvalidClaim ct_InvalidClaim s_ParseError_InvalidClaim
        · obtain rfl := (Option.some.inj z).symm.trans (show isB "ParseError" "ParseError" = true from by decide +kernel); exact exm_by cb_ParseError ci_ParseError ct_ParseError s_ParseError_ParseError
        · obtain rfl := (Option.some.inj z).symm.trans (show isB "ParseError" "RampError" = true from by decide +kernel); exact exm_by cb_RampError ci_RampError ct_RampError s_ParseError_RampError
        · obtain rfl := (Option.some.inj z).symm.trans (show isB "ParseError" "InvalidNumber" = false from by decide +kernel); exact exm_by cb_InvalidNumber ci_InvalidNumber ct_InvalidNumber s_ParseError_InvalidNumber
        · obtain rfl := (Option.some.inj z).symm.trans (show isB "ParseError" "UnknownName" = false from by decide +kernel); exact exm_by cb_UnknownName ci_UnknownName ct_UnknownName s_ParseError_UnknownName
        · obtain rfl := (Option.some.inj z).symm.trans (show isB "ParseError" "NothingToUndo" = false from by decide +kernel); exact exm_by cb_NothingToUndo ci_NothingToUndo ct_NothingToUndo s_ParseError_NothingToUndo
        · obtain rfl := (Option.some.inj z).symm.trans (show isB "ParseError" "TooMany" = false from by decide +kernel); exact exm_by cb_TooMany ci_TooMany ct_TooMany s_ParseError_TooMany
        · obtain rfl := (Option.some.inj z).symm.trans (show isB "ParseError" "Refused" = false from by decide +kernel); exact exm_by cb_Refused ci_Refused ct_Refused s_ParseError_Refused
      · rcases h2 with rfl | rfl | rfl | rfl | rfl | rfl | rfl | rfl | rfl | rfl | rfl | rfl | rfl | rfl | rfl
        · obtain rfl := (Option.some.inj z).symm.trans (show isB "RampError" "InvalidRow" = false from by decide +kernel); exact exm_by cb_InvalidRow ci_InvalidRow ct_InvalidRow s_RampError_InvalidRow
        · obtain rfl := (Option.some.inj z).symm.trans (show isB "RampError" "InvalidLot" = false from by decide +kernel); exact exm_by cb_InvalidLot ci_InvalidLot ct_InvalidLot s_RampError_InvalidLot
        · obtain rfl := (Option.some.inj z).symm.trans (show isB "RampError" "InvalidReading" = false from by decide +kernel); exact exm_by cb_InvalidReading ci_InvalidReading ct_InvalidReading s_RampError_InvalidReading
        · obtain rfl := (Option.some.inj z).symm.trans (show isB "RampError" "InvalidNetwork" = false from by decide +kernel); exact exm_by cb_InvalidNetwork ci_InvalidNetwork ct_InvalidNetwork s_RampError_InvalidNetwork
        · obtain rfl := (Option.some.inj z).symm.trans (show isB "RampError" "InvalidGrowth" = false from by decide +kernel); exact exm_by cb_InvalidGrowth ci_InvalidGrowth ct_InvalidGrowth s_RampError_InvalidGrowth
        · obtain rfl := (Option.some.inj z).symm.trans (show isB "RampError" "InvalidOperation" = false from by decide +kernel); exact exm_by cb_InvalidOperation ci_InvalidOperation ct_InvalidOperation s_RampError_InvalidOperation
        · obtain rfl := (Option.some.inj z).symm.trans (show isB "RampError" "InvalidText" = false from by decide +kernel); exact exm_by cb_InvalidText ci_InvalidText ct_InvalidText s_RampError_InvalidText
        · obtain rfl := (Option.some.inj z).symm.trans (show isB "RampError" "InvalidClaim" = false from by decide +kernel); exact exm_by cb_InvalidClaim ci_InvalidClaim ct_InvalidClaim s_RampError_InvalidClaim
        · obtain rfl := (Option.some.inj z).symm.trans (show isB "RampError" "ParseError" = false from by decide +kernel); exact exm_by cb_ParseError ci_ParseError ct_ParseError s_RampError_ParseError
        · obtain rfl := (Option.some.inj z).symm.trans (show isB "RampError" "RampError" = true from by decide +kernel); exact exm_by cb_RampError ci_RampError ct_RampError s_RampError_RampError
        · obtain rfl := (Option.some.inj z).symm.trans (show isB "RampError" "InvalidNumber" = false from by decide +kernel); exact exm_by cb_InvalidNumber ci_InvalidNumber ct_InvalidNumber s_RampError_InvalidNumber
        · obtain rfl := (Option.some.inj z).symm.trans (show isB "RampError" "UnknownName" = false from by decide +kernel); exact exm_by cb_UnknownName ci_UnknownName ct_UnknownName s_RampError_UnknownName
        · obtain rfl := (Option.some.inj z).symm.trans (show isB "RampError" "NothingToUndo" = false from by decide +kernel); exact exm_by cb_NothingToUndo ci_NothingToUndo ct_NothingToUndo s_RampError_NothingToUndo
        · obtain rfl := (Option.some.inj z).symm.trans (show isB "RampError" "TooMany" = false from by decide +kernel); exact exm_by cb_TooMany ci_TooMany ct_TooMany s_RampError_TooMany
        · obtain rfl := (Option.some.inj z).symm.trans (show isB "RampError" "Refused" = false from by decide +kernel); exact exm_by cb_Refused ci_Refused ct_Refused s_RampError_Refused
      · rcases h2 with rfl | rfl | rfl | rfl | rfl | rfl | rfl | rfl | rfl | rfl | rfl | rfl | rfl | rfl | rfl
        · obtain rfl := (Option.some.inj z).symm.trans (show isB "InvalidNumber" "InvalidRow" = false from by decide +kernel); exact exm_by cb_InvalidRow ci_InvalidRow ct_InvalidRow s_InvalidNumber_InvalidRow
        · obtain rfl := (Option.some.inj z).symm.trans (show isB "InvalidNumber" "InvalidLot" = false from by decide +kernel); exact exm_by cb_InvalidLot ci_InvalidLot ct_InvalidLot s_InvalidNumber_InvalidLot
        · obtain rfl := (Option.some.inj z).symm.trans (show isB "InvalidNumber" "InvalidReading" = false from by decide +kernel); exact exm_by cb_InvalidReading ci_InvalidReading ct_InvalidReading s_InvalidNumber_InvalidReading
        · obtain rfl := (Option.some.inj z).symm.trans (show isB "InvalidNumber" "InvalidNetwork" = false from by decide +kernel); exact exm_by cb_InvalidNetwork ci_InvalidNetwork ct_InvalidNetwork s_InvalidNumber_InvalidNetwork
        · obtain rfl := (Option.some.inj z).symm.trans (show isB "InvalidNumber" "InvalidGrowth" = false from by decide +kernel); exact exm_by cb_InvalidGrowth ci_InvalidGrowth ct_InvalidGrowth s_InvalidNumber_InvalidGrowth
        · obtain rfl := (Option.some.inj z).symm.trans (show isB "InvalidNumber" "InvalidOperation" = false from by decide +kernel); exact exm_by cb_InvalidOperation ci_InvalidOperation ct_InvalidOperation s_InvalidNumber_InvalidOperation
        · obtain rfl := (Option.some.inj z).symm.trans (show isB "InvalidNumber" "InvalidText" = false from by decide +kernel); exact exm_by cb_InvalidText ci_InvalidText ct_InvalidText s_InvalidNumber_InvalidText
        · obtain rfl := (Option.some.inj z).symm.trans (show isB "InvalidNumber" "InvalidClaim" = false from by decide +kernel); exact exm_by cb_InvalidClaim ci_InvalidClaim ct_InvalidClaim s_InvalidNumber_InvalidClaim
        · obtain rfl := (Option.some.inj z).symm.trans (show isB "InvalidNumber" "ParseError" = false from by decide +kernel); exact exm_by cb_ParseError ci_ParseError ct_ParseError s_InvalidNumber_ParseError
        · obtain rfl := (Option.some.inj z).symm.trans (show isB "InvalidNumber" "RampError" = false from by decide +kernel); exact exm_by cb_RampError ci_RampError ct_RampError s_InvalidNumber_RampError
        · obtain rfl := (Option.some.inj z).symm.trans (show isB "InvalidNumber" "InvalidNumber" = true from by decide +kernel); exact exm_by cb_InvalidNumber ci_InvalidNumber ct_InvalidNumber s_InvalidNumber_InvalidNumber
        · obtain rfl := (Option.some.inj z).symm.trans (show isB "InvalidNumber" "UnknownName" = false from by decide +kernel); exact exm_by cb_UnknownName ci_UnknownName ct_UnknownName s_InvalidNumber_UnknownName
        · obtain rfl := (Option.some.inj z).symm.trans (show isB "InvalidNumber" "NothingToUndo" = false from by decide +kernel); exact exm_by cb_NothingToUndo ci_NothingToUndo ct_NothingToUndo s_InvalidNumber_NothingToUndo
        · obtain rfl := (Option.some.inj z).symm.trans (show isB "InvalidNumber" "TooMany" = false from by decide +kernel); exact exm_by cb_TooMany ci_TooMany ct_TooMany s_InvalidNumber_TooMany
        · obtain rfl := (Option.some.inj z).symm.trans (show isB "InvalidNumber" "Refused" = false from by decide +kernel); exact exm_by cb_Refused ci_Refused ct_Refused s_InvalidNumber_Refused
      · rcases h2 with rfl | rfl | rfl | rfl | rfl | rfl | rfl | rfl | rfl | rfl | rfl | rfl | rfl | rfl | rfl
        · obtain rfl := (Option.some.inj z).symm.trans (show isB "UnknownName" "InvalidRow" = false from by decide +kernel); exact exm_by cb_InvalidRow ci_InvalidRow ct_InvalidRow s_UnknownName_InvalidRow
        · obtain rfl := (Option.some.inj z).symm.trans (show isB "UnknownName" "InvalidLot" = false from by decide +kernel); exact exm_by cb_InvalidLot ci_InvalidLot ct_InvalidLot s_UnknownName_InvalidLot
        · obtain rfl := (Option.some.inj z).symm.trans (show isB "UnknownName" "InvalidReading" = false from by decide +kernel); exact exm_by cb_InvalidReading ci_InvalidReading ct_InvalidReading s_UnknownName_InvalidReading
        · obtain rfl := (Option.some.inj z).symm.trans (show isB "UnknownName" "InvalidNetwork" = false from by decide +kernel); exact exm_by cb_InvalidNetwork ci_InvalidNetwork ct_InvalidNetwork s_UnknownName_InvalidNetwork
        · obtain rfl := (Option.some.inj z).symm.trans (show isB "UnknownName" "InvalidGrowth" = false from by decide +kernel); exact exm_by cb_InvalidGrowth ci_InvalidGrowth ct_InvalidGrowth s_UnknownName_InvalidGrowth
        · obtain rfl := (Option.some.inj z).symm.trans (show isB "UnknownName" "InvalidOperation" = false from by decide +kernel); exact exm_by cb_InvalidOperation ci_InvalidOperation ct_InvalidOperation s_UnknownName_InvalidOperation
        · obtain rfl := (Option.some.inj z).symm.trans (show isB "UnknownName" "InvalidText" = false from by decide +kernel); exact exm_by cb_InvalidText ci_InvalidText ct_InvalidText s_UnknownName_InvalidText
        · obtain rfl := (Option.some.inj z).symm.trans (show isB "UnknownName" "InvalidClaim" = false from by decide +kernel); exact exm_by cb_InvalidClaim ci_InvalidClaim ct_InvalidClaim s_UnknownName_InvalidClaim
        · obtain rfl := (Option.some.inj z).symm.trans (show isB "UnknownName" "ParseError" = false from by decide +kernel); exact exm_by cb_ParseError ci_ParseError ct_ParseError s_UnknownName_ParseError
        · obtain rfl := (Option.some.inj z).symm.trans (show isB "UnknownName" "RampError" = false from by decide +kernel); exact exm_by cb_RampError ci_RampError ct_RampError s_UnknownName_RampError
        · obtain rfl := (Option.some.inj z).symm.trans (show isB "UnknownName" "InvalidNumber" = false from by decide +kernel); exact exm_by cb_InvalidNumber ci_InvalidNumber ct_InvalidNumber s_UnknownName_InvalidNumber
        · obtain rfl := (Option.some.inj z).symm.trans (show isB "UnknownName" "UnknownName" = true from by decide +kernel); exact exm_by cb_UnknownName ci_UnknownName ct_UnknownName s_UnknownName_UnknownName
        · obtain rfl := (Option.some.inj z).symm.trans (show isB "UnknownName" "NothingToUndo" = false from by decide +kernel); exact exm_by cb_NothingToUndo ci_NothingToUndo ct_NothingToUndo s_UnknownName_NothingToUndo
        · obtain rfl := (Option.some.inj z).symm.trans (show isB "UnknownName" "TooMany" = false from by decide +kernel); exact exm_by cb_TooMany ci_TooMany ct_TooMany s_UnknownName_TooMany
        · obtain rfl := (Option.some.inj z).symm.trans (show isB "UnknownName" "Refused" = false from by decide +kernel); exact exm_by cb_Refused ci_Refused ct_Refused s_UnknownName_Refused
      · rcases h2 with rfl | rfl | rfl | rfl | rfl | rfl | rfl | rfl | rfl | rfl | rfl | rfl | rfl | rfl | rfl
        · obtain rfl := (Option.some.inj z).symm.trans (show isB "NothingToUndo" "InvalidRow" = false from by decide +kernel); exact exm_by cb_InvalidRow ci_InvalidRow ct_InvalidRow s_NothingToUndo_InvalidRow
        · obtain rfl := (Option.some.inj z).symm.trans (show isB "NothingToUndo" "InvalidLot" = false from by decide +kernel); exact exm_by cb_InvalidLot ci_InvalidLot ct_InvalidLot s_NothingToUndo_InvalidLot
        · obtain rfl := (Option.some.inj z).symm.trans (show isB "NothingToUndo" "InvalidReading" = false from by decide +kernel); exact exm_by cb_InvalidReading ci_InvalidReading ct_InvalidReading s_NothingToUndo_InvalidReading
        · obtain rfl := (Option.some.inj z).symm.trans (show isB "NothingToUndo" "InvalidNetwork" = false from by decide +kernel); exact exm_by cb_InvalidNetwork ci_InvalidNetwork ct_InvalidNetwork s_NothingToUndo_InvalidNetwork
        · obtain rfl := (Option.some.inj z).symm.trans (show isB "NothingToUndo" "InvalidGrowth" = false from by decide +kernel); exact exm_by cb_InvalidGrowth ci_InvalidGrowth ct_InvalidGrowth s_NothingToUndo_InvalidGrowth
        · obtain rfl := (Option.some.inj z).symm.trans (show isB "NothingToUndo" "InvalidOperation" = false from by decide +kernel); exact exm_by cb_InvalidOperation ci_InvalidOperation ct_InvalidOperation s_NothingToUndo_InvalidOperation
        · obtain rfl := (Option.some.inj z).symm.trans (show isB "NothingToUndo" "InvalidText" = false from by decide +kernel); exact exm_by cb_InvalidText ci_InvalidText ct_InvalidText s_NothingToUndo_InvalidText
        · obtain rfl := (Option.some.inj z).symm.trans (show isB "NothingToUndo" "InvalidClaim" = false from by decide +kernel); exact exm_by cb_InvalidClaim ci_InvalidClaim ct_InvalidClaim s_NothingToUndo_InvalidClaim
        · obtain rfl := (Option.some.inj z).symm.trans (show isB "NothingToUndo" "ParseError" = false from by decide +kernel); exact exm_by cb_ParseError ci_ParseError ct_ParseError s_NothingToUndo_ParseError
        · obtain rfl := (Option.some.inj z).symm.trans (show isB "NothingToUndo" "RampError" = false from by decide +kernel); exact exm_by cb_RampError ci_RampError ct_RampError s_NothingToUndo_RampError
        · obtain rfl := (Option.some.inj z).symm.trans (show isB "NothingToUndo" "InvalidNumber" = false from by decide +kernel); exact exm_by cb_InvalidNumber ci_InvalidNumber ct_InvalidNumber s_NothingToUndo_InvalidNumber
        · obtain rfl := (Option.some.inj z).symm.trans (show isB "NothingToUndo" "UnknownName" = false from by decide +kernel); exact exm_by cb_UnknownName ci_UnknownName ct_UnknownName s_NothingToUndo_UnknownName
        · obtain rfl := (Option.some.inj z).symm.trans (show isB "NothingToUndo" "NothingToUndo" = true from by decide +kernel); exact exm_by cb_NothingToUndo ci_NothingToUndo ct_NothingToUndo s_NothingToUndo_NothingToUndo
        · obtain rfl := (Option.some.inj z).symm.trans (show isB "NothingToUndo" "TooMany" = false from by decide +kernel); exact exm_by cb_TooMany ci_TooMany ct_TooMany s_NothingToUndo_TooMany
        · obtain rfl := (Option.some.inj z).symm.trans (show isB "NothingToUndo" "Refused" = false from by decide +kernel); exact exm_by cb_Refused ci_Refused ct_Refused s_NothingToUndo_Refused
      · rcases h2 with rfl | rfl | rfl | rfl | rfl | rfl | rfl | rfl | rfl | rfl | rfl | rfl | rfl | rfl | rfl
        · obtain rfl := (Option.some.inj z).symm.trans (show isB "TooMany" "InvalidRow" = false from by decide +kernel); exact exm_by cb_InvalidRow ci_InvalidRow ct_InvalidRow s_TooMany_InvalidRow
        · obtain rfl := (Option.some.inj z).symm.trans (show isB "TooMany" "InvalidLot" = false from by decide +kernel); exact exm_by cb_InvalidLot ci_InvalidLot ct_InvalidLot s_TooMany_InvalidLot
        · obtain rfl := (Option.some.inj z).symm.trans (show isB "TooMany" "InvalidReading" = false from by decide +kernel); exact exm_by cb_InvalidReading ci_InvalidReading ct_InvalidReading s_TooMany_InvalidReading
        · obtain rfl := (Option.some.inj z).symm.trans (show isB "TooMany" "InvalidNetwork" = false from by decide +kernel); exact exm_by cb_InvalidNetwork ci_InvalidNetwork ct_InvalidNetwork s_TooMany_InvalidNetwork
        · obtain rfl := (Option.some.inj z).symm.trans (show isB "TooMany" "InvalidGrowth" = false from by decide +kernel); exact exm_by cb_InvalidGrowth ci_InvalidGrowth ct_InvalidGrowth s_TooMany_InvalidGrowth
        · obtain rfl := (Option.some.inj z).symm.trans (show isB "TooMany" "InvalidOperation" = false from by decide +kernel); exact exm_by cb_InvalidOperation ci_InvalidOperation ct_InvalidOperation s_TooMany_InvalidOperation
        · obtain rfl := (Option.some.inj z).symm.trans (show isB "TooMany" "InvalidText" = false from by decide +kernel); exact exm_by cb_InvalidText ci_InvalidText ct_InvalidText s_TooMany_InvalidText
        · obtain rfl := (Option.some.inj z).symm.trans (show isB "TooMany" "InvalidClaim" = false from by decide +kernel); exact exm_by cb_InvalidClaim ci_InvalidClaim ct_InvalidClaim s_TooMany_InvalidClaim
        · obtain rfl := (Option.some.inj z).symm.trans (show isB "TooMany" "ParseError" = false from by decide +kernel); exact exm_by cb_ParseError ci_ParseError ct_ParseError s_TooMany_ParseError
        · obtain rfl := (Option.some.inj z).symm.trans (show isB "TooMany" "RampError" = false from by decide +kernel); exact exm_by cb_RampError ci_RampError ct_RampError s_TooMany_RampError
        · obtain rfl := (Option.some.inj z).symm.trans (show isB "TooMany" "InvalidNumber" = false from by decide +kernel); exact exm_by cb_InvalidNumber ci_InvalidNumber ct_InvalidNumber s_TooMany_InvalidNumber
        · obtain rfl := (Option.some.inj z).symm.trans (show isB "TooMany" "UnknownName" = false from by decide +kernel); exact exm_by cb_UnknownName ci_UnknownName ct_UnknownName s_TooMany_UnknownName
        · obtain rfl := (Option.some.inj z).symm.trans (show isB "TooMany" "NothingToUndo" = false from by decide +kernel); exact exm_by cb_NothingToUndo ci_NothingToUndo ct_NothingToUndo s_TooMany_NothingToUndo
        · obtain rfl := (Option.some.inj z).symm.trans (show isB "TooMany" "TooMany" = true from by decide +kernel); exact exm_by cb_TooMany ci_TooMany ct_TooMany s_TooMany_TooMany
        · obtain rfl := (Option.some.inj z).symm.trans (show isB "TooMany" "Refused" = false from by decide +kernel); exact exm_by cb_Refused ci_Refused ct_Refused s_TooMany_Refused
      · rcases h2 with rfl | rfl | rfl | rfl | rfl | rfl | rfl | rfl | rfl | rfl | rfl | rfl | rfl | rfl | rfl
        · obtain rfl := (Option.some.inj z).symm.trans (show isB "Refused" "InvalidRow" = false from by decide +kernel); exact exm_by cb_InvalidRow ci_InvalidRow ct_InvalidRow s_Refused_InvalidRow
        · obtain rfl := (Option.some.inj z).symm.trans (show isB "Refused" "InvalidLot" = false from by decide +kernel); exact exm_by cb_InvalidLot ci_InvalidLot ct_InvalidLot s_Refused_InvalidLot
        · obtain rfl := (Option.some.inj z).symm.trans (show isB "Refused" "InvalidReading" = false from by decide +kernel); exact exm_by cb_InvalidReading ci_InvalidReading ct_InvalidReading s_Refused_InvalidReading
        · obtain rfl := (Option.some.inj z).symm.trans (show isB "Refused" "InvalidNetwork" = false from by decide +kernel); exact exm_by cb_InvalidNetwork ci_InvalidNetwork ct_InvalidNetwork s_Refused_InvalidNetwork
        · obtain rfl := (Option.some.inj z).symm.trans (show isB "Refused" "InvalidGrowth" = false from by decide +kernel); exact exm_by cb_InvalidGrowth ci_InvalidGrowth ct_InvalidGrowth s_Refused_InvalidGrowth
        · obtain rfl := (Option.some.inj z).symm.trans (show isB "Refused" "InvalidOperation" = false from by decide +kernel); exact exm_by cb_InvalidOperation ci_InvalidOperation ct_InvalidOperation s_Refused_InvalidOperation
        · obtain rfl := (Option.some.inj z).symm.trans (show isB "Refused" "InvalidText" = false from by decide +kernel); exact exm_by cb_InvalidText ci_InvalidText ct_InvalidText s_Refused_InvalidText
        · obtain rfl := (Option.some.inj z).symm.trans (show isB "Refused" "InvalidClaim" = false from by decide +kernel); exact exm_by cb_InvalidClaim ci_InvalidClaim ct_InvalidClaim s_Refused_InvalidClaim
        · obtain rfl := (Option.some.inj z).symm.trans (show isB "Refused" "ParseError" = false from by decide +kernel); exact exm_by cb_ParseError ci_ParseError ct_ParseError s_Refused_ParseError
        · obtain rfl := (Option.some.inj z).symm.trans (show isB "Refused" "RampError" = false from by decide +kernel); exact exm_by cb_RampError ci_RampError ct_RampError s_Refused_RampError
        · obtain rfl := (Option.some.inj z).symm.trans (show isB "Refused" "InvalidNumber" = false from by decide +kernel); exact exm_by cb_InvalidNumber ci_InvalidNumber ct_InvalidNumber s_Refused_InvalidNumber
        · obtain rfl := (Option.some.inj z).symm.trans (show isB "Refused" "UnknownName" = false from by decide +kernel); exact exm_by cb_UnknownName ci_UnknownName ct_UnknownName s_Refused_UnknownName
        · obtain rfl := (Option.some.inj z).symm.trans (show isB "Refused" "NothingToUndo" = false from by decide +kernel); exact exm_by cb_NothingToUndo ci_NothingToUndo ct_NothingToUndo s_Refused_NothingToUndo
        · obtain rfl := (Option.some.inj z).symm.trans (show isB "Refused" "TooMany" = false from by decide +kernel); exact exm_by cb_TooMany ci_TooMany ct_TooMany s_Refused_TooMany
        · obtain rfl := (Option.some.inj z).symm.trans (show isB "Refused" "Refused" = true from by decide +kernel); exact exm_by cb_Refused ci_Refused ct_Refused s_Refused_Refused
    · cases z
  have R_exc : ∀ nm ∈ errs, ExcC K (ex.at_ nm) := fun nm h => by
    simp only [List.mem_cons, List.not_mem_nil, or_false] at h
    rcases h with rfl | rfl | rfl | rfl | rfl | rfl | rfl | rfl | rfl | rfl | rfl | rfl | rfl | rfl | rfl
    · exact ⟨e2_InvalidRow, e3_InvalidRow, cb_InvalidRow, e7_InvalidRow, oc_InvalidRow, oc_n, oc_t, om_InvalidRow⟩
    · exact ⟨e2_InvalidLot, e3_InvalidLot, cb_InvalidLot, e7_InvalidLot, oc_InvalidLot, oc_n, oc_t, om_InvalidLot⟩
    · exact ⟨e2_InvalidReading, e3_InvalidReading, cb_InvalidReading, e7_InvalidReading, oc_InvalidReading, oc_n, oc_t, om_InvalidReading⟩
    · exact ⟨e2_InvalidNetwork, e3_InvalidNetwork, cb_InvalidNetwork, e7_InvalidNetwork, oc_InvalidNetwork, oc_n, oc_t, om_InvalidNetwork⟩
    · exact ⟨e2_InvalidGrowth, e3_InvalidGrowth, cb_InvalidGrowth, e7_InvalidGrowth, oc_InvalidGrowth, oc_n, oc_t, om_InvalidGrowth⟩
    · exact ⟨e2_InvalidOperation, e3_InvalidOperation, cb_InvalidOperation, e7_InvalidOperation, oc_InvalidOperation, oc_n, oc_t, om_InvalidOperation⟩
    · exact ⟨e2_InvalidText, e3_InvalidText, cb_InvalidText, e7_InvalidText, oc_InvalidText, oc_n, oc_t, om_InvalidText⟩
    · exact ⟨e2_InvalidClaim, e3_InvalidClaim, cb_InvalidClaim, e7_InvalidClaim, oc_InvalidClaim, oc_n, oc_t, om_InvalidClaim⟩
    · exact ⟨e2_ParseError, e3_ParseError, cb_ParseError, e7_ParseError, oc_ParseError, oc_n, oc_t, om_ParseError⟩
    · exact ⟨e2_RampError, e3_RampError, cb_RampError, e7_RampError, oc_RampError, oc_n, oc_t, om_RampError⟩
    · exact ⟨e2_InvalidNumber, e3_InvalidNumber, cb_InvalidNumber, e7_InvalidNumber, oc_InvalidNumber, oc_n, oc_t, om_InvalidNumber⟩
    · exact ⟨e2_UnknownName, e3_UnknownName, cb_UnknownName, e7_UnknownName, oc_UnknownName, oc_n, oc_t, om_UnknownName⟩
    · exact ⟨e2_NothingToUndo, e3_NothingToUndo, cb_NothingToUndo, e7_NothingToUndo, oc_NothingToUndo, oc_n, oc_t, om_NothingToUndo⟩
    · exact ⟨e2_TooMany, e3_TooMany, cb_TooMany, e7_TooMany, oc_TooMany, oc_n, oc_t, om_TooMany⟩
    · exact ⟨e2_Refused, e3_Refused, cb_Refused, e7_Refused, oc_Refused, oc_n, oc_t, om_Refused⟩
  have R_kit0 : ∀ nm ∈ errs, PySem.W.kitOne K (.ref (ex.at_ nm)) (.type "ValueError") = some ((rootsOf nm).getD 0 false) := fun nm h => by
    simp only [List.mem_cons, List.not_mem_nil, or_false] at h
    rcases h with rfl | rfl | rfl | rfl | rfl | rfl | rfl | rfl | rfl | rfl | rfl | rfl | rfl | rfl | rfl
    · exact kit_T t_InvalidRow_ValueError (by decide +kernel) (by decide +kernel)
    · exact kit_T t_InvalidLot_ValueError (by decide +kernel) (by decide +kernel)
    · exact kit_T t_InvalidReading_ValueError (by decide +kernel) (by decide +kernel)
    · exact kit_T t_InvalidNetwork_ValueError (by decide +kernel) (by decide +kernel)
    · exact kit_T t_InvalidGrowth_ValueError (by decide +kernel) (by decide +kernel)
    · exact kit_T t_InvalidOperation_ValueError (by decide +kernel) (by decide +kernel)
    · exact kit_T t_InvalidText_ValueError (by decide +kernel) (by decide +kernel)
    · exact kit_T t_InvalidClaim_ValueError (by decide +kernel) (by decide +kernel)
    · exact kit_T t_ParseError_ValueError (by decide +kernel) (by decide +kernel)
    · exact kit_T t_RampError_ValueError (by decide +kernel) (by decide +kernel)
    · exact kit_T t_InvalidNumber_ValueError (by decide +kernel) (by decide +kernel)
    · exact kit_T t_UnknownName_ValueError (by decide +kernel) (by decide +kernel)
    · exact kit_T t_NothingToUndo_ValueError (by decide +kernel) (by decide +kernel)
    · exact kit_T t_TooMany_ValueError (by decide +kernel) (by decide +kernel)
    · exact kit_T t_Refused_ValueError (by decide +kernel) (by decide +kernel)
  have R_kit1 : ∀ nm ∈ errs, PySem.W.kitOne K (.ref (ex.at_ nm)) (.type "IndexError") = some ((rootsOf nm).getD 1 false) := fun nm h => by
    simp only [List.mem_cons, List.not_mem_nil, or_false] at h
    rcases h with rfl | rfl | rfl | rfl | rfl | rfl | rfl | rfl | rfl | rfl | rfl | rfl | rfl | rfl | rfl
    · exact kit_T t_InvalidRow_IndexError (by decide +kernel) (by decide +kernel)
    · exact kit_T t_InvalidLot_IndexError (by decide +kernel) (by decide +kernel)
    · exact kit_T t_InvalidReading_IndexError (by decide +kernel) (by decide +kernel)
    · exact kit_T t_InvalidNetwork_IndexError (by decide +kernel) (by decide +kernel)
    · exact kit_T t_InvalidGrowth_IndexError (by decide +kernel) (by decide +kernel)
    · exact kit_T t_InvalidOperation_IndexError (by decide +kernel) (by decide +kernel)
    · exact kit_T t_InvalidText_IndexError (by decide +kernel) (by decide +kernel)
    · exact kit_T t_InvalidClaim_IndexError (by decide +kernel) (by decide +kernel)
    · exact kit_T t_ParseError_IndexError (by decide +kernel) (by decide +kernel)
    · exact kit_T t_RampError_IndexError (by decide +kernel) (by decide +kernel)
    · exact kit_T t_InvalidNumber_IndexError (by decide +kernel) (by decide +kernel)
    · exact kit_T t_UnknownName_IndexError (by decide +kernel) (by decide +kernel)
    · exact kit_T t_NothingToUndo_IndexError (by decide +kernel) (by decide +kernel)
    · exact kit_T t_TooMany_IndexError (by decide +kernel) (by decide +kernel)
    · exact kit_T t_Refused_IndexError (by decide +kernel) (by decide +kernel)
  have R_kit2 : ∀ nm ∈ errs, PySem.W.kitOne K (.ref (ex.at_ nm)) (.type "KeyError") = some ((rootsOf nm).getD 2 false) := fun nm h => by
    simp only [List.mem_cons, List.not_mem_nil, or_false] at h
    rcases h with rfl | rfl | rfl | rfl | rfl | rfl | rfl | rfl | rfl | rfl | rfl | rfl | rfl | rfl | rfl
    · exact kit_T t_InvalidRow_KeyError (by decide +kernel) (by decide +kernel)
    · exact kit_T t_InvalidLot_KeyError (by decide +kernel) (by decide +kernel)
    · exact kit_T t_InvalidReading_KeyError (by decide +kernel) (by decide +kernel)
    · exact kit_T t_InvalidNetwork_KeyError (by decide +kernel) (by decide +kernel)
    · exact kit_T t_InvalidGrowth_KeyError (by decide +kernel) (by decide +kernel)
    · exact kit_T t_InvalidOperation_KeyError (by decide +kernel) (by decide +kernel)
    · exact kit_T t_InvalidText_KeyError (by decide +kernel) (by decide +kernel)
    · exact kit_T t_InvalidClaim_KeyError (by decide +kernel) (by decide +kernel)
    · exact kit_T t_ParseError_KeyError (by decide +kernel) (by decide +kernel)
    · exact kit_T t_RampError_KeyError (by decide +kernel) (by decide +kernel)
    · exact kit_T t_InvalidNumber_KeyError (by decide +kernel) (by decide +kernel)
    · exact kit_T t_UnknownName_KeyError (by decide +kernel) (by decide +kernel)
    · exact kit_T t_NothingToUndo_KeyError (by decide +kernel) (by decide +kernel)
    · exact kit_T t_TooMany_KeyError (by decide +kernel) (by decide +kernel)
    · exact kit_T t_Refused_KeyError (by decide +kernel) (by decide +kernel)
  have R_kit3 : ∀ nm ∈ errs, PySem.W.kitOne K (.ref (ex.at_ nm)) (.type "OverflowError") = some ((rootsOf nm).getD 3 false) := fun nm h => by
    simp only [List.mem_cons, List.not_mem_nil, or_false] at h
    rcases h with rfl | rfl | rfl | rfl | rfl | rfl | rfl | rfl | rfl | rfl | rfl | rfl | rfl | rfl | rfl
    · exact kit_T t_InvalidRow_OverflowError (by decide +kernel) (by decide +kernel)
    · exact kit_T t_InvalidLot_OverflowError (by decide +kernel) (by decide +kernel)
    · exact kit_T t_InvalidReading_OverflowError (by decide +kernel) (by decide +kernel)
    · exact kit_T t_InvalidNetwork_OverflowError (by decide +kernel) (by decide +kernel)
    · exact kit_T t_InvalidGrowth_OverflowError (by decide +kernel) (by decide +kernel)
    · exact kit_T t_InvalidOperation_OverflowError (by decide +kernel) (by decide +kernel)
    · exact kit_T t_InvalidText_OverflowError (by decide +kernel) (by decide +kernel)
    · exact kit_T t_InvalidClaim_OverflowError (by decide +kernel) (by decide +kernel)
    · exact kit_T t_ParseError_OverflowError (by decide +kernel) (by decide +kernel)
    · exact kit_T t_RampError_OverflowError (by decide +kernel) (by decide +kernel)
    · exact kit_T t_InvalidNumber_OverflowError (by decide +kernel) (by decide +kernel)
    · exact kit_T t_UnknownName_OverflowError (by decide +kernel) (by decide +kernel)
    · exact kit_T t_NothingToUndo_OverflowError (by decide +kernel) (by decide +kernel)
    · exact kit_T t_TooMany_OverflowError (by decide +kernel) (by decide +kernel)
    · exact kit_T t_Refused_OverflowError (by decide +kernel) (by decide +kernel)
  have R_kit4 : ∀ nm ∈ errs, PySem.W.kitOne K (.ref (ex.at_ nm)) (.type "ArithmeticError") = some ((rootsOf nm).getD 4 false) := fun nm h => by
    simp only [List.mem_cons, List.not_mem_nil, or_false] at h
    rcases h with rfl | rfl | rfl | rfl | rfl | rfl | rfl | rfl | rfl | rfl | rfl | rfl | rfl | rfl | rfl
    · exact kit_T t_InvalidRow_ArithmeticError (by decide +kernel) (by decide +kernel)
    · exact kit_T t_InvalidLot_ArithmeticError (by decide +kernel) (by decide +kernel)
    · exact kit_T t_InvalidReading_ArithmeticError (by decide +kernel) (by decide +kernel)
    · exact kit_T t_InvalidNetwork_ArithmeticError (by decide +kernel) (by decide +kernel)
    · exact kit_T t_InvalidGrowth_ArithmeticError (by decide +kernel) (by decide +kernel)
    · exact kit_T t_InvalidOperation_ArithmeticError (by decide +kernel) (by decide +kernel)
    · exact kit_T t_InvalidText_ArithmeticError (by decide +kernel) (by decide +kernel)
    · exact kit_T t_InvalidClaim_ArithmeticError (by decide +kernel) (by decide +kernel)
    · exact kit_T t_ParseError_ArithmeticError (by decide +kernel) (by decide +kernel)
    · exact kit_T t_RampError_ArithmeticError (by decide +kernel) (by decide +kernel)
    · exact kit_T t_InvalidNumber_ArithmeticError (by decide +kernel) (by decide +kernel)
    · exact kit_T t_UnknownName_ArithmeticError (by decide +kernel) (by decide +kernel)
    · exact kit_T t_NothingToUndo_ArithmeticError (by decide +kernel) (by decide +kernel)
    · exact kit_T t_TooMany_ArithmeticError (by decide +kernel) (by decide +kernel)
    · exact kit_T t_Refused_ArithmeticError (by decide +kernel) (by decide +kernel)
  have R_kit5 : ∀ nm ∈ errs, PySem.W.kitOne K (.ref (ex.at_ nm)) (.type "LookupError") = some ((rootsOf nm).getD 5 false) := fun nm h => by
    simp only [List.mem_cons, List.not_mem_nil, or_false] at h
    rcases h with rfl | rfl | rfl | rfl | rfl | rfl | rfl | rfl | rfl | rfl | rfl | rfl | rfl | rfl | rfl
    · exact kit_T t_InvalidRow_LookupError (by decide +kernel) (by decide +kernel)
    · exact kit_T t_InvalidLot_LookupError (by decide +kernel) (by decide +kernel)
    · exact kit_T t_InvalidReading_LookupError (by decide +kernel) (by decide +kernel)
    · exact kit_T t_InvalidNetwork_LookupError (by decide +kernel) (by decide +kernel)
    · exact kit_T t_InvalidGrowth_LookupError (by decide +kernel) (by decide +kernel)
    · exact kit_T t_InvalidOperation_LookupError (by decide +kernel) (by decide +kernel)
    · exact kit_T t_InvalidText_LookupError (by decide +kernel) (by decide +kernel)
    · exact kit_T t_InvalidClaim_LookupError (by decide +kernel) (by decide +kernel)
    · exact kit_T t_ParseError_LookupError (by decide +kernel) (by decide +kernel)
    · exact kit_T t_RampError_LookupError (by decide +kernel) (by decide +kernel)
    · exact kit_T t_InvalidNumber_LookupError (by decide +kernel) (by decide +kernel)
    · exact kit_T t_UnknownName_LookupError (by decide +kernel) (by decide +kernel)
    · exact kit_T t_NothingToUndo_LookupError (by decide +kernel) (by decide +kernel)
    · exact kit_T t_TooMany_LookupError (by decide +kernel) (by decide +kernel)
    · exact kit_T t_Refused_LookupError (by decide +kernel) (by decide +kernel)
  have R_kit6 : ∀ nm ∈ errs, PySem.W.kitOne K (.ref (ex.at_ nm)) (.ref (ex.at_ "RampError")) = some ((rootsOf nm).getD 6 false) := fun nm h => by
    simp only [List.mem_cons, List.not_mem_nil, or_false] at h
    rcases h with rfl | rfl | rfl | rfl | rfl | rfl | rfl | rfl | rfl | rfl | rfl | rfl | rfl | rfl | rfl
    · exact kit_C s_InvalidRow_RampError s_RampError_RampError ci_RampError ct_RampError (by decide +kernel)
    · exact kit_C s_InvalidLot_RampError s_RampError_RampError ci_RampError ct_RampError (by decide +kernel)
    · exact kit_C s_InvalidReading_RampError s_RampError_RampError ci_RampError ct_RampError (by decide +kernel)
    · exact kit_C s_InvalidNetwork_RampError s_RampError_RampError ci_RampError ct_RampError (by decide +kernel)
    · exact kit_C s_InvalidGrowth_RampError s_RampError_RampError ci_RampError ct_RampError (by decide +kernel)
    · exact kit_C s_InvalidOperation_RampError s_RampError_RampError ci_RampError ct_RampError (by decide +kernel)
    · exact kit_C s_InvalidText_RampError s_RampError_RampError ci_RampError ct_RampError (by decide +kernel)
    · exact kit_C s_InvalidClaim_RampError s_RampError_RampError ci_RampError ct_RampError (by decide +kernel)
    · exact kit_C s_ParseError_RampError s_RampError_RampError ci_RampError ct_RampError (by decide +kernel)
    · exact kit_C s_RampError_RampError s_RampError_RampError ci_RampError ct_RampError (by decide +kernel)
    · exact kit_C s_InvalidNumber_RampError s_RampError_RampError ci_RampError ct_RampError (by decide +kernel)
    · exact kit_C s_UnknownName_RampError s_RampError_RampError ci_RampError ct_RampError (by decide +kernel)
    · exact kit_C s_NothingToUndo_RampError s_RampError_RampError ci_RampError ct_RampError (by decide +kernel)
    · exact kit_C s_TooMany_RampError s_RampError_RampError ci_RampError ct_RampError (by decide +kernel)
    · exact kit_C s_Refused_RampError s_RampError_RampError ci_RampError ct_RampError (by decide +kernel)
  have T : Txt l.prog K mg ex := { b_isinstance := PySem.W.mg_none_of X G z_isinstance, b_int := PySem.W.mg_none_of X G z_int, b_len := PySem.W.mg_none_of X G z_len, b_range := PySem.W.mg_none_of X G z_range, b_max := PySem.W.mg_none_of X G z_max, b_min := PySem.W.mg_none_of X G z_min, b_abs := PySem.W.mg_none_of X G z_abs, b_sorted := PySem.W.mg_none_of X G z_sorted, b_repr := PySem.W.mg_none_of X G z_repr, b_ValueError := PySem.W.mg_none_of X G z_ValueError, b_IndexError := PySem.W.mg_none_of X G z_IndexError, b_KeyError := PySem.W.mg_none_of X G z_KeyError, b_OverflowError := PySem.W.mg_none_of X G z_OverflowError, b_ArithmeticError := PySem.W.mg_none_of X G z_ArithmeticError, b_LookupError := PySem.W.mg_none_of X G z_LookupError, x_InvalidRow := E_InvalidRow, x_InvalidLot := E_InvalidLot, x_InvalidReading := E_InvalidReading, x_InvalidNetwork := E_InvalidNetwork, x_InvalidGrowth := E_InvalidGrowth, x_InvalidOperation := E_InvalidOperation, x_InvalidText := E_InvalidText, x_InvalidClaim := E_InvalidClaim, x_RampError := E_RampError, x_ParseError := E_ParseError, x_InvalidNumber := E_InvalidNumber, x_UnknownName := E_UnknownName, x_NothingToUndo := E_NothingToUndo, x_TooMany := E_TooMany, x_Refused := E_Refused, f_ParseError := rfl, f_InvalidNumber := rfl, f_UnknownName := rfl, f_NothingToUndo := rfl, f_TooMany := rfl, f_Refused := rfl, is_ := rfl, hx := hx, exc := R_exc, kit0 := R_kit0, kit1 := R_kit1, kit2 := R_kit2, kit3 := R_kit3, kit4 := R_kit4, kit5 := R_kit5, kit6 := R_kit6 }
  have A0 : At K mg "_law_pail" s__law_pail := ⟨f_0, _, fun_mk (st := s__law_pail) l_0 c_0 k_0, PySem.W.mg_of X G a_0, k_0⟩
  have A1 : At K mg "_law_scooped" s__law_scooped := ⟨f_1, _, fun_mk (st := s__law_scooped) l_1 c_1 k_1, PySem.W.mg_of X G a_1, k_1⟩
  have A2 : At K mg "_law_any_of" s__law_any_of := ⟨f_2, _, fun_mk (st := s__law_any_of) l_2 c_2 k_2, PySem.W.mg_of X G a_2, k_2⟩
  have A3 : At K mg "_law_raise_kept" s__law_raise_kept := ⟨f_3, _, fun_mk (st := s__law_raise_kept) l_3 c_3 k_3, PySem.W.mg_of X G a_3, k_3⟩
  have A4 : At K mg "_law_raise" s__law_raise := ⟨f_4, _, fun_mk (st := s__law_raise) l_4 c_4 k_4, PySem.W.mg_of X G a_4, k_4⟩
  have A5 : At K mg "_law_roots" s__law_roots := ⟨f_5, _, fun_mk (st := s__law_roots) l_5 c_5 k_5, PySem.W.mg_of X G a_5, k_5⟩
  have AC_6 : AtC K mg "_law_caught" s__law_caught co_6 := ⟨_, _, _, _, _, _, _, _, _, l_6, c_6, PySem.W.mg_of X G a_6, k_6⟩
  have AC_7 : AtC K mg "_law_right" s__law_right co_7 := ⟨_, _, _, _, _, _, _, _, _, l_7, c_7, PySem.W.mg_of X G a_7, k_7⟩
  have tt_6 := TT _ _ _ _ _ _ _ _ _ _ _ _ r_6 (PySem.W.mg_of X G a_6) l_6 rfl q_6 u_6
  have tt_7 := TT _ _ _ _ _ _ _ _ _ _ _ _ r_7 (PySem.W.mg_of X G a_7) l_7 rfl q_7 u_7
  have tt_8 := TT _ _ _ _ _ _ _ _ _ _ _ _ r_8 (PySem.W.mg_of X G a_8) l_8 rfl q_8 u_8
  refine ⟨⟨PySem.W.fnOf "law" "law" (defArgs s_law) (defBody s_law) (defScope s_law) .none kV_8 dc_8 pm_8 an_8 (.ref co_8) ct_8, [((co_6, tp_6), lamQ "_law_caught"), ((co_7, tp_7), lamQ "_law_right"), ((co_8, tp_8), lamQ "law")], d_law, nd, ?off, ?tab, fun s v => .of_eq rfl, ?goal, fun base KB NB TB => ?body⟩⟩
  case off =>
    intro t z
    simp only [List.mem_cons, List.not_mem_nil, or_false] at z
    rcases z with rfl | rfl | rfl
    · exact o_6
    · exact o_7
    · exact o_8
  case tab =>
    intro t z
    simp only [List.mem_cons, List.not_mem_nil, or_false] at z
    rcases z with rfl | rfl | rfl
    · exact tt_6
    · exact tt_7
    · exact tt_8
  case goal => exact fun ns μ k hn ht hk => ⟨ns, rfl, hn, hk⟩
  case body =>
    have B_6 := TB ((co_6, tp_6), lamQ "_law_caught") (by simp)
    have B_7 := TB ((co_7, tp_7), lamQ "_law_right") (by simp)
    have B_8 := TB ((co_8, tp_8), lamQ "law") (by simp)
    have F__law_pail := ok__law_pail (P := l.prog) (w := w) (base := base) A0 T
    have F__law_scooped := ok__law_scooped (P := l.prog) (w := w) (base := base) A1 T
    have F__law_any_of := ok__law_any_of (P := l.prog) (w := w) (base := base) A2 F__law_scooped T
    have X__law_raise_kept := ok__law_raise_kept (P := l.prog) (w := w) (base := base) A3 T
    have X__law_raise := ok__law_raise (P := l.prog) (w := w) (base := base) A4 X__law_raise_kept T
    have G__law_caught := ok__law_caught (P := l.prog) (w := w) (base := base) AC_6 X__law_raise A5 T
    have G__law_right := ok__law_right (P := l.prog) (w := w) (base := base) AC_7 G__law_caught F__law_any_of T B_7
    exact ok_law l_8 c_8 F__law_pail G__law_right G__law_caught T B_8
end K00
open PySem PySem.W PyProof.Rows
set_option maxRecDepth 100000 in
set_option maxHeartbeats 0 in
theorem PySem.Challenge.cw_rampworks_k00_errors_and_what_they_keep_holds : PySem.Challenge.rw_rampworks_k00_errors_and_what_they_keep.Holds := by
  w_on; o_law; k_head; (case hw => w_witness2)
  k_fill
  refine DL.walk_G (l := PySem.Challenge.rw_rampworks_k00_errors_and_what_they_keep) (n := 63) (k := 9) (x := "_law_script") rfl (by decide) rfl ⟨rfl, by decide, by decide⟩ (fun w h Y => PySem.W.kIn_of Y) ?F
  case F =>
    intro w mg fa h hx KX G hmg TT
    obtain ⟨h0, hx⟩ := hx
    refine' K00.all_mk KX G hmg TT  ?a_0 ?l_0 ?c_0 ?k_0 ?a_1 ?l_1 ?c_1 ?k_1 ?a_2 ?l_2 ?c_2 ?k_2 ?a_3 ?l_3 ?c_3 ?k_3 ?a_4 ?l_4 ?c_4 ?k_4 ?a_5 ?l_5 ?c_5 ?k_5 ?a_6 ?l_6 ?c_6 ?k_6 ?q_6 ?u_6 ?o_6 ?r_6 ?a_7 ?l_7 ?c_7 ?k_7 ?q_7 ?u_7 ?o_7 ?r_7 ?a_8 ?l_8 ?c_8 ?k_8 ?q_8 ?u_8 ?o_8 ?r_8 ?nd ?ca_InvalidRow ?cx_InvalidRow ?ck_InvalidRow ?cb_InvalidRow ?ct_InvalidRow ?ci_InvalidRow ?ca_InvalidLot ?cx_InvalidLot ?ck_InvalidLot ?cb_InvalidLot ?ct_InvalidLot ?ci_InvalidLot ?ca_InvalidReading ?cx_InvalidReading ?ck_InvalidReading ?cb_InvalidReading ?ct_InvalidReading ?ci_InvalidReading ?ca_InvalidNetwork ?cx_InvalidNetwork ?ck_InvalidNetwork ?cb_InvalidNetwork ?ct_InvalidNetwork ?ci_InvalidNetwork ?ca_InvalidGrowth ?cx_InvalidGrowth ?ck_InvalidGrowth ?cb_InvalidGrowth ?ct_InvalidGrowth ?ci_InvalidGrowth ?ca_InvalidOperation ?cx_InvalidOperation ?ck_InvalidOperation ?cb_InvalidOperation ?ct_InvalidOperation ?ci_InvalidOperation ?ca_InvalidText ?cx_InvalidText ?ck_InvalidText ?cb_InvalidText ?ct_InvalidText ?ci_InvalidText ?ca_InvalidClaim ?cx_InvalidClaim ?ck_InvalidClaim ?cb_InvalidClaim ?ct_InvalidClaim ?ci_InvalidClaim ?ca_RampError ?cx_RampError ?ck_RampError ?cb_RampError ?ct_RampError ?ci_RampError ?ca_ParseError ?ck_ParseError ?cb_ParseError ?ct_ParseError ?ci_ParseError ?ei_ParseError ?eo_ParseError ?es_ParseError ?e1_ParseError ?e2_ParseError ?e3_ParseError ?e4_ParseError ?e5_ParseError ?e6_ParseError ?e7_ParseError ?e8_ParseError ?e9_ParseError ?il_ParseError ?ic_ParseError ?ip_ParseError ?jl_ParseError ?ju2_ParseError ?jf_ParseError ?ll_ParseError ?ca_InvalidNumber ?ck_InvalidNumber ?cb_InvalidNumber ?ct_InvalidNumber ?ci_InvalidNumber ?ei_InvalidNumber ?eo_InvalidNumber ?es_InvalidNumber ?e1_InvalidNumber ?e2_InvalidNumber ?e3_InvalidNumber ?e4_InvalidNumber ?e5_InvalidNumber ?e6_InvalidNumber ?e7_InvalidNumber ?e8_InvalidNumber ?e9_InvalidNumber ?il_InvalidNumber ?ic_InvalidNumber ?ip_InvalidNumber ?jl_InvalidNumber ?ju2_InvalidNumber ?jf_InvalidNumber ?ll_InvalidNumber ?ca_UnknownName ?ck_UnknownName ?cb_UnknownName ?ct_UnknownName ?ci_UnknownName ?ei_UnknownName ?eo_UnknownName ?es_UnknownName ?e1_UnknownName ?e2_UnknownName ?e3_UnknownName ?e4_UnknownName ?e5_UnknownName ?e6_UnknownName ?e7_UnknownName ?e8_UnknownName ?e9_UnknownName ?il_UnknownName ?ic_UnknownName ?ip_UnknownName ?jl_UnknownName ?ju2_UnknownName ?jf_UnknownName ?ll_UnknownName ?ca_NothingToUndo ?ck_NothingToUndo ?cb_NothingToUndo ?ct_NothingToUndo ?ci_NothingToUndo ?ei_NothingToUndo ?eo_NothingToUndo ?es_NothingToUndo ?e1_NothingToUndo ?e2_NothingToUndo ?e3_NothingToUndo ?e4_NothingToUndo ?e5_NothingToUndo ?e6_NothingToUndo ?e7_NothingToUndo ?e8_NothingToUndo ?e9_NothingToUndo ?il_NothingToUndo ?ic_NothingToUndo ?ip_NothingToUndo ?jl_NothingToUndo ?ju2_NothingToUndo ?jf_NothingToUndo ?ll_NothingToUndo ?ca_TooMany ?ck_TooMany ?cb_TooMany ?ct_TooMany ?ci_TooMany ?ei_TooMany ?eo_TooMany ?es_TooMany ?e1_TooMany ?e2_TooMany ?e3_TooMany ?e4_TooMany ?e5_TooMany ?e6_TooMany ?e7_TooMany ?e8_TooMany ?e9_TooMany ?il_TooMany ?ic_TooMany ?ip_TooMany ?jl_TooMany ?ju2_TooMany ?jf_TooMany ?ll_TooMany ?ca_Refused ?ck_Refused ?cb_Refused ?ct_Refused ?ci_Refused ?ei_Refused ?eo_Refused ?es_Refused ?e1_Refused ?e2_Refused ?e3_Refused ?e4_Refused ?e5_Refused ?e6_Refused ?e7_Refused ?e8_Refused ?e9_Refused ?il_Refused ?ic_Refused ?ip_Refused ?jl_Refused ?ju2_Refused ?jf_Refused ?ll_Refused ?s_InvalidRow_InvalidRow ?s_InvalidRow_InvalidLot ?s_InvalidRow_InvalidReading ?s_InvalidRow_InvalidNetwork ?s_InvalidRow_InvalidGrowth ?s_InvalidRow_InvalidOperation ?s_InvalidRow_InvalidText ?s_InvalidRow_InvalidClaim ?s_InvalidRow_RampError ?s_InvalidRow_ParseError ?s_InvalidRow_InvalidNumber ?s_InvalidRow_UnknownName ?s_InvalidRow_NothingToUndo ?s_InvalidRow_TooMany ?s_InvalidRow_Refused ?s_InvalidLot_InvalidRow ?s_InvalidLot_InvalidLot ?s_InvalidLot_InvalidReading ?s_InvalidLot_InvalidNetwork ?s_InvalidLot_InvalidGrowth ?s_InvalidLot_InvalidOperation ?s_InvalidLot_InvalidText ?s_InvalidLot_InvalidClaim ?s_InvalidLot_RampError ?s_InvalidLot_ParseError ?s_InvalidLot_InvalidNumber ?s_InvalidLot_UnknownName ?s_InvalidLot_NothingToUndo ?s_InvalidLot_TooMany ?s_InvalidLot_Refused ?s_InvalidReading_InvalidRow ?s_InvalidReading_InvalidLot ?s_InvalidReading_InvalidReading ?s_InvalidReading_InvalidNetwork ?s_InvalidReading_InvalidGrowth ?s_InvalidReading_InvalidOperation ?s_InvalidReading_InvalidText ?s_InvalidReading_InvalidClaim ?s_InvalidReading_RampError ?s_InvalidReading_ParseError ?s_InvalidReading_InvalidNumber ?s_InvalidReading_UnknownName ?s_InvalidReading_NothingToUndo ?s_InvalidReading_TooMany ?s_InvalidReading_Refused ?s_InvalidNetwork_InvalidRow ?s_InvalidNetwork_InvalidLot ?s_InvalidNetwork_InvalidReading ?s_InvalidNetwork_InvalidNetwork ?s_InvalidNetwork_InvalidGrowth ?s_InvalidNetwork_InvalidOperation ?s_InvalidNetwork_InvalidText ?s_InvalidNetwork_InvalidClaim ?s_InvalidNetwork_RampError ?s_InvalidNetwork_ParseError ?s_InvalidNetwork_InvalidNumber ?s_InvalidNetwork_UnknownName ?s_InvalidNetwork_NothingToUndo ?s_InvalidNetwork_TooMany ?s_InvalidNetwork_Refused ?s_InvalidGrowth_InvalidRow ?s_InvalidGrowth_InvalidLot ?s_InvalidGrowth_InvalidReading ?s_InvalidGrowth_InvalidNetwork ?s_InvalidGrowth_InvalidGrowth ?s_InvalidGrowth_InvalidOperation ?s_InvalidGrowth_InvalidText ?s_InvalidGrowth_InvalidClaim ?s_InvalidGrowth_RampError ?s_InvalidGrowth_ParseError ?s_InvalidGrowth_InvalidNumber ?s_InvalidGrowth_UnknownName ?s_InvalidGrowth_NothingToUndo ?s_InvalidGrowth_TooMany ?s_InvalidGrowth_Refused ?s_InvalidOperation_InvalidRow ?s_InvalidOperation_InvalidLot ?s_InvalidOperation_InvalidReading ?s_InvalidOperation_InvalidNetwork ?s_InvalidOperation_InvalidGrowth ?s_InvalidOperation_InvalidOperation ?s_InvalidOperation_InvalidText ?s_InvalidOperation_InvalidClaim ?s_InvalidOperation_RampError ?s_InvalidOperation_ParseError ?s_InvalidOperation_InvalidNumber ?s_InvalidOperation_UnknownName ?s_InvalidOperation_NothingToUndo ?s_InvalidOperation_TooMany ?s_InvalidOperation_Refused ?s_InvalidText_InvalidRow ?s_InvalidText_InvalidLot ?s_InvalidText_InvalidReading ?s_InvalidText_InvalidNetwork ?s_InvalidText_InvalidGrowth ?s_InvalidText_InvalidOperation ?s_InvalidText_InvalidText ?s_InvalidText_InvalidClaim ?s_InvalidText_RampError ?s_InvalidText_ParseError ?s_InvalidText_InvalidNumber ?s_InvalidText_UnknownName ?s_InvalidText_NothingToUndo ?s_InvalidText_TooMany ?s_InvalidText_Refused ?s_InvalidClaim_InvalidRow ?s_InvalidClaim_InvalidLot ?s_InvalidClaim_InvalidReading ?s_InvalidClaim_InvalidNetwork ?s_InvalidClaim_InvalidGrowth ?s_InvalidClaim_InvalidOperation ?s_InvalidClaim_InvalidText ?s_InvalidClaim_InvalidClaim ?s_InvalidClaim_RampError ?s_InvalidClaim_ParseError ?s_InvalidClaim_InvalidNumber ?s_InvalidClaim_UnknownName ?s_InvalidClaim_NothingToUndo ?s_InvalidClaim_TooMany ?s_InvalidClaim_Refused ?s_RampError_InvalidRow ?s_RampError_InvalidLot ?s_RampError_InvalidReading ?s_RampError_InvalidNetwork ?s_RampError_InvalidGrowth ?s_RampError_InvalidOperation ?s_RampError_InvalidText ?s_RampError_InvalidClaim ?s_RampError_RampError ?s_RampError_ParseError ?s_RampError_InvalidNumber ?s_RampError_UnknownName ?s_RampError_NothingToUndo ?s_RampError_TooMany ?s_RampError_Refused ?s_ParseError_InvalidRow ?s_ParseError_InvalidLot ?s_ParseError_InvalidReading ?s_ParseError_InvalidNetwork ?s_ParseError_InvalidGrowth ?s_ParseError_InvalidOperation ?s_ParseError_InvalidText ?s_ParseError_InvalidClaim ?s_ParseError_RampError ?s_ParseError_ParseError ?s_ParseError_InvalidNumber ?s_ParseError_UnknownName ?s_ParseError_NothingToUndo ?s_ParseError_TooMany ?s_ParseError_Refused ?s_InvalidNumber_InvalidRow ?s_InvalidNumber_InvalidLot ?s_InvalidNumber_InvalidReading ?s_InvalidNumber_InvalidNetwork ?s_InvalidNumber_InvalidGrowth ?s_InvalidNumber_InvalidOperation ?s_InvalidNumber_InvalidText ?s_InvalidNumber_InvalidClaim ?s_InvalidNumber_RampError ?s_InvalidNumber_ParseError ?s_InvalidNumber_InvalidNumber ?s_InvalidNumber_UnknownName ?s_InvalidNumber_NothingToUndo ?s_InvalidNumber_TooMany ?s_InvalidNumber_Refused ?s_UnknownName_InvalidRow ?s_UnknownName_InvalidLot ?s_UnknownName_InvalidReading ?s_UnknownName_InvalidNetwork ?s_UnknownName_InvalidGrowth ?s_UnknownName_InvalidOperation ?s_UnknownName_InvalidText ?s_UnknownName_InvalidClaim ?s_UnknownName_RampError ?s_UnknownName_ParseError ?s_UnknownName_InvalidNumber ?s_UnknownName_UnknownName ?s_UnknownName_NothingToUndo ?s_UnknownName_TooMany ?s_UnknownName_Refused ?s_NothingToUndo_InvalidRow ?s_NothingToUndo_InvalidLot ?s_NothingToUndo_InvalidReading ?s_NothingToUndo_InvalidNetwork ?s_NothingToUndo_InvalidGrowth ?s_NothingToUndo_InvalidOperation ?s_NothingToUndo_InvalidText ?s_NothingToUndo_InvalidClaim ?s_NothingToUndo_RampError ?s_NothingToUndo_ParseError ?s_NothingToUndo_InvalidNumber ?s_NothingToUndo_UnknownName ?s_NothingToUndo_NothingToUndo ?s_NothingToUndo_TooMany ?s_NothingToUndo_Refused ?s_TooMany_InvalidRow ?s_TooMany_InvalidLot ?s_TooMany_InvalidReading ?s_TooMany_InvalidNetwork ?s_TooMany_InvalidGrowth ?s_TooMany_InvalidOperation ?s_TooMany_InvalidText ?s_TooMany_InvalidClaim ?s_TooMany_RampError ?s_TooMany_ParseError ?s_TooMany_InvalidNumber ?s_TooMany_UnknownName ?s_TooMany_NothingToUndo ?s_TooMany_TooMany ?s_TooMany_Refused ?s_Refused_InvalidRow ?s_Refused_InvalidLot ?s_Refused_InvalidReading ?s_Refused_InvalidNetwork ?s_Refused_InvalidGrowth ?s_Refused_InvalidOperation ?s_Refused_InvalidText ?s_Refused_InvalidClaim ?s_Refused_RampError ?s_Refused_ParseError ?s_Refused_InvalidNumber ?s_Refused_UnknownName ?s_Refused_NothingToUndo ?s_Refused_TooMany ?s_Refused_Refused ?oc_n ?oc_t ?oc_InvalidRow ?om_InvalidRow ?e2_InvalidRow ?e3_InvalidRow ?e7_InvalidRow ?t_InvalidRow_ValueError ?t_InvalidRow_IndexError ?t_InvalidRow_KeyError ?t_InvalidRow_OverflowError ?t_InvalidRow_ArithmeticError ?t_InvalidRow_LookupError ?oc_InvalidLot ?om_InvalidLot ?e2_InvalidLot ?e3_InvalidLot ?e7_InvalidLot ?t_InvalidLot_ValueError ?t_InvalidLot_IndexError ?t_InvalidLot_KeyError ?t_InvalidLot_OverflowError ?t_InvalidLot_ArithmeticError ?t_InvalidLot_LookupError ?oc_InvalidReading ?om_InvalidReading ?e2_InvalidReading ?e3_InvalidReading ?e7_InvalidReading ?t_InvalidReading_ValueError ?t_InvalidReading_IndexError ?t_InvalidReading_KeyError ?t_InvalidReading_OverflowError ?t_InvalidReading_ArithmeticError ?t_InvalidReading_LookupError ?oc_InvalidNetwork ?om_InvalidNetwork ?e2_InvalidNetwork ?e3_InvalidNetwork ?e7_InvalidNetwork ?t_InvalidNetwork_ValueError ?t_InvalidNetwork_IndexError ?t_InvalidNetwork_KeyError ?t_InvalidNetwork_OverflowError ?t_InvalidNetwork_ArithmeticError ?t_InvalidNetwork_LookupError ?oc_InvalidGrowth ?om_InvalidGrowth ?e2_InvalidGrowth ?e3_InvalidGrowth ?e7_InvalidGrowth ?t_InvalidGrowth_ValueError ?t_InvalidGrowth_IndexError ?t_InvalidGrowth_KeyError ?t_InvalidGrowth_OverflowError ?t_InvalidGrowth_ArithmeticError ?t_InvalidGrowth_LookupError ?oc_InvalidOperation ?om_InvalidOperation ?e2_InvalidOperation ?e3_InvalidOperation ?e7_InvalidOperation ?t_InvalidOperation_ValueError ?t_InvalidOperation_IndexError ?t_InvalidOperation_KeyError ?t_InvalidOperation_OverflowError ?t_InvalidOperation_ArithmeticError ?t_InvalidOperation_LookupError ?oc_InvalidText ?om_InvalidText ?e2_InvalidText ?e3_InvalidText ?e7_InvalidText ?t_InvalidText_ValueError ?t_InvalidText_IndexError ?t_InvalidText_KeyError ?t_InvalidText_OverflowError ?t_InvalidText_ArithmeticError ?t_InvalidText_LookupError ?oc_InvalidClaim ?om_InvalidClaim ?e2_InvalidClaim ?e3_InvalidClaim ?e7_InvalidClaim ?t_InvalidClaim_ValueError ?t_InvalidClaim_IndexError ?t_InvalidClaim_KeyError ?t_InvalidClaim_OverflowError ?t_InvalidClaim_ArithmeticError ?t_InvalidClaim_LookupError ?oc_RampError ?om_RampError ?e2_RampError ?e3_RampError ?e7_RampError ?t_RampError_ValueError ?t_RampError_IndexError ?t_RampError_KeyError ?t_RampError_OverflowError ?t_RampError_ArithmeticError ?t_RampError_LookupError ?oc_ParseError ?om_ParseError ?t_ParseError_ValueError ?t_ParseError_IndexError ?t_ParseError_KeyError ?t_ParseError_OverflowError ?t_ParseError_ArithmeticError ?t_ParseError_LookupError ?oc_InvalidNumber ?om_InvalidNumber ?t_InvalidNumber_ValueError ?t_InvalidNumber_IndexError ?t_InvalidNumber_KeyError ?t_InvalidNumber_OverflowError ?t_InvalidNumber_ArithmeticError ?t_InvalidNumber_LookupError ?oc_UnknownName ?om_UnknownName ?t_UnknownName_ValueError ?t_UnknownName_IndexError ?t_UnknownName_KeyError ?t_UnknownName_OverflowError ?t_UnknownName_ArithmeticError ?t_UnknownName_LookupError ?oc_NothingToUndo ?om_NothingToUndo ?t_NothingToUndo_ValueError ?t_NothingToUndo_IndexError ?t_NothingToUndo_KeyError ?t_NothingToUndo_OverflowError ?t_NothingToUndo_ArithmeticError ?t_NothingToUndo_LookupError ?oc_TooMany ?om_TooMany ?t_TooMany_ValueError ?t_TooMany_IndexError ?t_TooMany_KeyError ?t_TooMany_OverflowError ?t_TooMany_ArithmeticError ?t_TooMany_LookupError ?oc_Refused ?om_Refused ?t_Refused_ValueError ?t_Refused_IndexError ?t_Refused_KeyError ?t_Refused_OverflowError ?t_Refused_ArithmeticError ?t_Refused_LookupError ?z_super ?st ?tops ?z_isinstance ?z_int ?z_len ?z_range ?z_max ?z_min ?z_abs ?z_sorted ?z_repr ?z_ValueError ?z_IndexError ?z_KeyError ?z_OverflowError ?z_ArithmeticError ?z_LookupError
    (case a_0 => k_is); (case l_0 => k_is); (case c_0 => k_is); (case k_0 => k_is); (case a_1 => k_is); (case l_1 => k_is); (case c_1 => k_is)
    (case k_1 => k_is); (case a_2 => k_is); (case l_2 => k_is); (case c_2 => k_is); (case k_2 => k_is); (case a_3 => k_is); (case l_3 => k_is)
    (case c_3 => k_is); (case k_3 => k_is); (case a_4 => k_is); (case l_4 => k_is); (case c_4 => k_is); (case k_4 => k_is); (case a_5 => k_is)
    (case l_5 => k_is); (case c_5 => k_is); (case k_5 => k_is); (case a_6 => k_is); (case l_6 => k_is); (case c_6 => k_is); (case k_6 => k_is)
    (case q_6 => k_is); (case u_6 => rfl); (case o_6 => kernel_rfl); (case r_6 => decide +kernel); (case a_7 => k_is); (case l_7 => k_is); (case c_7 => k_is)
    (case k_7 => k_is); (case q_7 => k_is); (case u_7 => rfl); (case o_7 => kernel_rfl); (case r_7 => decide +kernel); (case a_8 => k_is); (case l_8 => k_is)
    (case c_8 => k_is); (case k_8 => k_is); (case q_8 => k_is); (case u_8 => rfl); (case o_8 => kernel_rfl); (case r_8 => decide +kernel); (case nd => decide)
    (case ca_InvalidRow => k_is); (case cx_InvalidRow => k_exc); (case ck_InvalidRow => k_is); (case cb_InvalidRow => k_is); (case ct_InvalidRow => k_is)
    (case ci_InvalidRow => k_is); (case ca_InvalidLot => k_is); (case cx_InvalidLot => k_exc); (case ck_InvalidLot => k_is); (case cb_InvalidLot => k_is)
    (case ct_InvalidLot => k_is); (case ci_InvalidLot => k_is); (case ca_InvalidReading => k_is); (case cx_InvalidReading => k_exc); (case ck_InvalidReading => k_is)
    (case cb_InvalidReading => k_is); (case ct_InvalidReading => k_is); (case ci_InvalidReading => k_is); (case ca_InvalidNetwork => k_is); (case cx_InvalidNetwork => k_exc)
    (case ck_InvalidNetwork => k_is); (case cb_InvalidNetwork => k_is); (case ct_InvalidNetwork => k_is); (case ci_InvalidNetwork => k_is); (case ca_InvalidGrowth => k_is)
    (case cx_InvalidGrowth => k_exc); (case ck_InvalidGrowth => k_is); (case cb_InvalidGrowth => k_is); (case ct_InvalidGrowth => k_is); (case ci_InvalidGrowth => k_is)
    (case ca_InvalidOperation => k_is); (case cx_InvalidOperation => k_exc); (case ck_InvalidOperation => k_is); (case cb_InvalidOperation => k_is)
    (case ct_InvalidOperation => k_is); (case ci_InvalidOperation => k_is); (case ca_InvalidText => k_is); (case cx_InvalidText => k_exc); (case ck_InvalidText => k_is)
    (case cb_InvalidText => k_is); (case ct_InvalidText => k_is); (case ci_InvalidText => k_is); (case ca_InvalidClaim => k_is); (case cx_InvalidClaim => k_exc)
    (case ck_InvalidClaim => k_is); (case cb_InvalidClaim => k_is); (case ct_InvalidClaim => k_is); (case ci_InvalidClaim => k_is); (case ca_RampError => k_is)
    (case cx_RampError => k_exc); (case ck_RampError => k_is); (case cb_RampError => k_is); (case ct_RampError => k_is); (case ci_RampError => k_is)
    (case ca_ParseError => k_is); (case ck_ParseError => k_is); (case cb_ParseError => k_is); (case ct_ParseError => k_is); (case ci_ParseError => k_is)
    (case ei_ParseError => kx_is); (case eo_ParseError => kx_is); (case es_ParseError => ks_is); (case e1_ParseError => k_is); (case e2_ParseError => k_is)
    (case e3_ParseError => k_is); (case e4_ParseError => k_is); (case e5_ParseError => k_is); (case e6_ParseError => k_is); (case e7_ParseError => k_is)
    (case e8_ParseError => k_is); (case e9_ParseError => k_is); (case il_ParseError => k_is); (case ic_ParseError => k_is); (case ip_ParseError => rfl)
    (case jl_ParseError => k_is); (case ju2_ParseError => rfl); (case jf_ParseError => decide +kernel); (case ll_ParseError => k_is); (case ca_InvalidNumber => k_is)
    (case ck_InvalidNumber => k_is); (case cb_InvalidNumber => k_is); (case ct_InvalidNumber => k_is); (case ci_InvalidNumber => k_is); (case ei_InvalidNumber => kx_is)
    (case eo_InvalidNumber => kx_is); (case es_InvalidNumber => ks_is); (case e1_InvalidNumber => k_is); (case e2_InvalidNumber => k_is); (case e3_InvalidNumber => k_is)
    (case e4_InvalidNumber => k_is); (case e5_InvalidNumber => k_is); (case e6_InvalidNumber => k_is); (case e7_InvalidNumber => k_is); (case e8_InvalidNumber => k_is)
    (case e9_InvalidNumber => k_is); (case il_InvalidNumber => k_is); (case ic_InvalidNumber => k_is); (case ip_InvalidNumber => rfl); (case jl_InvalidNumber => k_is)
    (case ju2_InvalidNumber => rfl); (case jf_InvalidNumber => decide +kernel); (case ll_InvalidNumber => k_is); (case ca_UnknownName => k_is)
    (case ck_UnknownName => k_is); (case cb_UnknownName => k_is); (case ct_UnknownName => k_is); (case ci_UnknownName => k_is); (case ei_UnknownName => kx_is)
    (case eo_UnknownName => kx_is); (case es_UnknownName => ks_is); (case e1_UnknownName => k_is); (case e2_UnknownName => k_is); (case e3_UnknownName => k_is)
    (case e4_UnknownName => k_is); (case e5_UnknownName => k_is); (case e6_UnknownName => k_is); (case e7_UnknownName => k_is); (case e8_UnknownName => k_is)
    (case e9_UnknownName => k_is); (case il_UnknownName => k_is); (case ic_UnknownName => k_is); (case ip_UnknownName => rfl); (case jl_UnknownName => k_is)
    (case ju2_UnknownName => rfl); (case jf_UnknownName => decide +kernel); (case ll_UnknownName => k_is); (case ca_NothingToUndo => k_is); (case ck_NothingToUndo => k_is)
    (case cb_NothingToUndo => k_is); (case ct_NothingToUndo => k_is); (case ci_NothingToUndo => k_is); (case ei_NothingToUndo => kx_is); (case eo_NothingToUndo => kx_is)
    (case es_NothingToUndo => ks_is); (case e1_NothingToUndo => k_is); (case e2_NothingToUndo => k_is); (case e3_NothingToUndo => k_is); (case e4_NothingToUndo => k_is)
    (case e5_NothingToUndo => k_is); (case e6_NothingToUndo => k_is); (case e7_NothingToUndo => k_is); (case e8_NothingToUndo => k_is); (case e9_NothingToUndo => k_is)
    (case il_NothingToUndo => k_is); (case ic_NothingToUndo => k_is); (case ip_NothingToUndo => rfl); (case jl_NothingToUndo => k_is); (case ju2_NothingToUndo => rfl)
    (case jf_NothingToUndo => decide +kernel); (case ll_NothingToUndo => k_is); (case ca_TooMany => k_is); (case ck_TooMany => k_is); (case cb_TooMany => k_is)
    (case ct_TooMany => k_is); (case ci_TooMany => k_is); (case ei_TooMany => kx_is); (case eo_TooMany => kx_is); (case es_TooMany => ks_is)
    (case e1_TooMany => k_is); (case e2_TooMany => k_is); (case e3_TooMany => k_is); (case e4_TooMany => k_is); (case e5_TooMany => k_is); (case e6_TooMany => k_is)
    (case e7_TooMany => k_is); (case e8_TooMany => k_is); (case e9_TooMany => k_is); (case il_TooMany => k_is); (case ic_TooMany => k_is); (case ip_TooMany => rfl)
    (case jl_TooMany => k_is); (case ju2_TooMany => rfl); (case jf_TooMany => decide +kernel); (case ll_TooMany => k_is); (case ca_Refused => k_is)
    (case ck_Refused => k_is); (case cb_Refused => k_is); (case ct_Refused => k_is); (case ci_Refused => k_is); (case ei_Refused => kx_is); (case eo_Refused => kx_is)
    (case es_Refused => ks_is); (case e1_Refused => k_is); (case e2_Refused => k_is); (case e3_Refused => k_is); (case e4_Refused => k_is); (case e5_Refused => k_is)
    (case e6_Refused => k_is); (case e7_Refused => k_is); (case e8_Refused => k_is); (case e9_Refused => k_is); (case il_Refused => k_is); (case ic_Refused => k_is)
    (case ip_Refused => rfl); (case jl_Refused => k_is); (case ju2_Refused => rfl); (case jf_Refused => decide +kernel); (case ll_Refused => k_is)
    (case s_InvalidRow_InvalidRow => k_is); (case s_InvalidRow_InvalidLot => k_is); (case s_InvalidRow_InvalidReading => k_is); (case s_InvalidRow_InvalidNetwork => k_is)
    (case s_InvalidRow_InvalidGrowth => k_is); (case s_InvalidRow_InvalidOperation => k_is); (case s_InvalidRow_InvalidText => k_is); (case s_InvalidRow_InvalidClaim => k_is)
    (case s_InvalidRow_RampError => k_is); (case s_InvalidRow_ParseError => k_is); (case s_InvalidRow_InvalidNumber => k_is); (case s_InvalidRow_UnknownName => k_is)
    (case s_InvalidRow_NothingToUndo => k_is); (case s_InvalidRow_TooMany => k_is); (case s_InvalidRow_Refused => k_is); (case s_InvalidLot_InvalidRow => k_is)
    (case s_InvalidLot_InvalidLot => k_is); (case s_InvalidLot_InvalidReading => k_is); (case s_InvalidLot_InvalidNetwork => k_is); (case s_InvalidLot_InvalidGrowth => k_is)
    (case s_InvalidLot_InvalidOperation => k_is); (case s_InvalidLot_InvalidText => k_is); (case s_InvalidLot_InvalidClaim => k_is); (case s_InvalidLot_RampError => k_is)
    (case s_InvalidLot_ParseError => k_is); (case s_InvalidLot_InvalidNumber => k_is); (case s_InvalidLot_UnknownName => k_is); (case s_InvalidLot_NothingToUndo => k_is)
    (case s_InvalidLot_TooMany => k_is); (case s_InvalidLot_Refused => k_is); (case s_InvalidReading_InvalidRow => k_is); (case s_InvalidReading_InvalidLot => k_is)
    (case s_InvalidReading_InvalidReading => k_is); (case s_InvalidReading_InvalidNetwork => k_is); (case s_InvalidReading_InvalidGrowth => k_is)
    (case s_InvalidReading_InvalidOperation => k_is); (case s_InvalidReading_InvalidText => k_is); (case s_InvalidReading_InvalidClaim => k_is)
    (case s_InvalidReading_RampError => k_is); (case s_InvalidReading_ParseError => k_is); (case s_InvalidReading_InvalidNumber => k_is); (case s_InvalidReading_UnknownName => k_is)
    (case s_InvalidReading_NothingToUndo => k_is); (case s_InvalidReading_TooMany => k_is); (case s_InvalidReading_Refused => k_is); (case s_InvalidNetwork_InvalidRow => k_is)
    (case s_InvalidNetwork_InvalidLot => k_is); (case s_InvalidNetwork_InvalidReading => k_is); (case s_InvalidNetwork_InvalidNetwork => k_is)
    (case s_InvalidNetwork_InvalidGrowth => k_is); (case s_InvalidNetwork_InvalidOperation => k_is); (case s_InvalidNetwork_InvalidText => k_is)
    (case s_InvalidNetwork_InvalidClaim => k_is); (case s_InvalidNetwork_RampError => k_is); (case s_InvalidNetwork_ParseError => k_is); (case s_InvalidNetwork_InvalidNumber => k_is)
    (case s_InvalidNetwork_UnknownName => k_is); (case s_InvalidNetwork_NothingToUndo => k_is); (case s_InvalidNetwork_TooMany => k_is); (case s_InvalidNetwork_Refused => k_is)
    (case s_InvalidGrowth_InvalidRow => k_is); (case s_InvalidGrowth_InvalidLot => k_is); (case s_InvalidGrowth_InvalidReading => k_is); (case s_InvalidGrowth_InvalidNetwork => k_is)
    (case s_InvalidGrowth_InvalidGrowth => k_is); (case s_InvalidGrowth_InvalidOperation => k_is); (case s_InvalidGrowth_InvalidText => k_is)
    (case s_InvalidGrowth_InvalidClaim => k_is); (case s_InvalidGrowth_RampError => k_is); (case s_InvalidGrowth_ParseError => k_is); (case s_InvalidGrowth_InvalidNumber => k_is)
    (case s_InvalidGrowth_UnknownName => k_is); (case s_InvalidGrowth_NothingToUndo => k_is); (case s_InvalidGrowth_TooMany => k_is); (case s_InvalidGrowth_Refused => k_is)
    (case s_InvalidOperation_InvalidRow => k_is); (case s_InvalidOperation_InvalidLot => k_is); (case s_InvalidOperation_InvalidReading => k_is)
    (case s_InvalidOperation_InvalidNetwork => k_is); (case s_InvalidOperation_InvalidGrowth => k_is); (case s_InvalidOperation_InvalidOperation => k_is)
    (case s_InvalidOperation_InvalidText => k_is); (case s_InvalidOperation_InvalidClaim => k_is); (case s_InvalidOperation_RampError => k_is)
    (case s_InvalidOperation_ParseError => k_is); (case s_InvalidOperation_InvalidNumber => k_is); (case s_InvalidOperation_UnknownName => k_is)
    (case s_InvalidOperation_NothingToUndo => k_is); (case s_InvalidOperation_TooMany => k_is); (case s_InvalidOperation_Refused => k_is); (case s_InvalidText_InvalidRow => k_is)
    (case s_InvalidText_InvalidLot => k_is); (case s_InvalidText_InvalidReading => k_is); (case s_InvalidText_InvalidNetwork => k_is); (case s_InvalidText_InvalidGrowth => k_is)
    (case s_InvalidText_InvalidOperation => k_is); (case s_InvalidText_InvalidText => k_is); (case s_InvalidText_InvalidClaim => k_is); (case s_InvalidText_RampError => k_is)
    (case s_InvalidText_ParseError => k_is); (case s_InvalidText_InvalidNumber => k_is); (case s_InvalidText_UnknownName => k_is); (case s_InvalidText_NothingToUndo => k_is)
    (case s_InvalidText_TooMany => k_is); (case s_InvalidText_Refused => k_is); (case s_InvalidClaim_InvalidRow => k_is); (case s_InvalidClaim_InvalidLot => k_is)
    (case s_InvalidClaim_InvalidReading => k_is); (case s_InvalidClaim_InvalidNetwork => k_is); (case s_InvalidClaim_InvalidGrowth => k_is)
    (case s_InvalidClaim_InvalidOperation => k_is); (case s_InvalidClaim_InvalidText => k_is); (case s_InvalidClaim_InvalidClaim => k_is); (case s_InvalidClaim_RampError => k_is)
    (case s_InvalidClaim_ParseError => k_is); (case s_InvalidClaim_InvalidNumber => k_is); (case s_InvalidClaim_UnknownName => k_is); (case s_InvalidClaim_NothingToUndo => k_is)
    (case s_InvalidClaim_TooMany => k_is); (case s_InvalidClaim_Refused => k_is); (case s_RampError_InvalidRow => k_is); (case s_RampError_InvalidLot => k_is)
    (case s_RampError_InvalidReading => k_is); (case s_RampError_InvalidNetwork => k_is); (case s_RampError_InvalidGrowth => k_is); (case s_RampError_InvalidOperation => k_is)
    (case s_RampError_InvalidText => k_is); (case s_RampError_InvalidClaim => k_is); (case s_RampError_RampError => k_is); (case s_RampError_ParseError => k_is)
    (case s_RampError_InvalidNumber => k_is); (case s_RampError_UnknownName => k_is); (case s_RampError_NothingToUndo => k_is); (case s_RampError_TooMany => k_is)
    (case s_RampError_Refused => k_is); (case s_ParseError_InvalidRow => k_is); (case s_ParseError_InvalidLot => k_is); (case s_ParseError_InvalidReading => k_is)
    (case s_ParseError_InvalidNetwork => k_is); (case s_ParseError_InvalidGrowth => k_is); (case s_ParseError_InvalidOperation => k_is); (case s_ParseError_InvalidText => k_is)
    (case s_ParseError_InvalidClaim => k_is); (case s_ParseError_RampError => k_is); (case s_ParseError_ParseError => k_is); (case s_ParseError_InvalidNumber => k_is)
    (case s_ParseError_UnknownName => k_is); (case s_ParseError_NothingToUndo => k_is); (case s_ParseError_TooMany => k_is); (case s_ParseError_Refused => k_is)
    (case s_InvalidNumber_InvalidRow => k_is); (case s_InvalidNumber_InvalidLot => k_is); (case s_InvalidNumber_InvalidReading => k_is); (case s_InvalidNumber_InvalidNetwork => k_is)
    (case s_InvalidNumber_InvalidGrowth => k_is); (case s_InvalidNumber_InvalidOperation => k_is); (case s_InvalidNumber_InvalidText => k_is)
    (case s_InvalidNumber_InvalidClaim => k_is); (case s_InvalidNumber_RampError => k_is); (case s_InvalidNumber_ParseError => k_is); (case s_InvalidNumber_InvalidNumber => k_is)
    (case s_InvalidNumber_UnknownName => k_is); (case s_InvalidNumber_NothingToUndo => k_is); (case s_InvalidNumber_TooMany => k_is); (case s_InvalidNumber_Refused => k_is)
    (case s_UnknownName_InvalidRow => k_is); (case s_UnknownName_InvalidLot => k_is); (case s_UnknownName_InvalidReading => k_is); (case s_UnknownName_InvalidNetwork => k_is)
    (case s_UnknownName_InvalidGrowth => k_is); (case s_UnknownName_InvalidOperation => k_is); (case s_UnknownName_InvalidText => k_is); (case s_UnknownName_InvalidClaim => k_is)
    (case s_UnknownName_RampError => k_is); (case s_UnknownName_ParseError => k_is); (case s_UnknownName_InvalidNumber => k_is); (case s_UnknownName_UnknownName => k_is)
    (case s_UnknownName_NothingToUndo => k_is); (case s_UnknownName_TooMany => k_is); (case s_UnknownName_Refused => k_is); (case s_NothingToUndo_InvalidRow => k_is)
    (case s_NothingToUndo_InvalidLot => k_is); (case s_NothingToUndo_InvalidReading => k_is); (case s_NothingToUndo_InvalidNetwork => k_is)
    (case s_NothingToUndo_InvalidGrowth => k_is); (case s_NothingToUndo_InvalidOperation => k_is); (case s_NothingToUndo_InvalidText => k_is)
    (case s_NothingToUndo_InvalidClaim => k_is); (case s_NothingToUndo_RampError => k_is); (case s_NothingToUndo_ParseError => k_is); (case s_NothingToUndo_InvalidNumber => k_is)
    (case s_NothingToUndo_UnknownName => k_is); (case s_NothingToUndo_NothingToUndo => k_is); (case s_NothingToUndo_TooMany => k_is); (case s_NothingToUndo_Refused => k_is)
    (case s_TooMany_InvalidRow => k_is); (case s_TooMany_InvalidLot => k_is); (case s_TooMany_InvalidReading => k_is); (case s_TooMany_InvalidNetwork => k_is)
    (case s_TooMany_InvalidGrowth => k_is); (case s_TooMany_InvalidOperation => k_is); (case s_TooMany_InvalidText => k_is); (case s_TooMany_InvalidClaim => k_is)
    (case s_TooMany_RampError => k_is); (case s_TooMany_ParseError => k_is); (case s_TooMany_InvalidNumber => k_is); (case s_TooMany_UnknownName => k_is)
    (case s_TooMany_NothingToUndo => k_is); (case s_TooMany_TooMany => k_is); (case s_TooMany_Refused => k_is); (case s_Refused_InvalidRow => k_is)
    (case s_Refused_InvalidLot => k_is); (case s_Refused_InvalidReading => k_is); (case s_Refused_InvalidNetwork => k_is); (case s_Refused_InvalidGrowth => k_is)
    (case s_Refused_InvalidOperation => k_is); (case s_Refused_InvalidText => k_is); (case s_Refused_InvalidClaim => k_is); (case s_Refused_RampError => k_is)
    (case s_Refused_ParseError => k_is); (case s_Refused_InvalidNumber => k_is); (case s_Refused_UnknownName => k_is); (case s_Refused_NothingToUndo => k_is)
    (case s_Refused_TooMany => k_is); (case s_Refused_Refused => k_is); (case oc_n => k_is); (case oc_t => k_is); (case oc_InvalidRow => k_is)
    (case om_InvalidRow => k_is); (case e2_InvalidRow => k_is); (case e3_InvalidRow => k_is); (case e7_InvalidRow => k_is); (case t_InvalidRow_ValueError => k_is)
    (case t_InvalidRow_IndexError => k_is); (case t_InvalidRow_KeyError => k_is); (case t_InvalidRow_OverflowError => k_is); (case t_InvalidRow_ArithmeticError => k_is)
    (case t_InvalidRow_LookupError => k_is); (case oc_InvalidLot => k_is); (case om_InvalidLot => k_is); (case e2_InvalidLot => k_is); (case e3_InvalidLot => k_is)
    (case e7_InvalidLot => k_is); (case t_InvalidLot_ValueError => k_is); (case t_InvalidLot_IndexError => k_is); (case t_InvalidLot_KeyError => k_is)
    (case t_InvalidLot_OverflowError => k_is); (case t_InvalidLot_ArithmeticError => k_is); (case t_InvalidLot_LookupError => k_is); (case oc_InvalidReading => k_is)
    (case om_InvalidReading => k_is); (case e2_InvalidReading => k_is); (case e3_InvalidReading => k_is); (case e7_InvalidReading => k_is); (case t_InvalidReading_ValueError => k_is)
    (case t_InvalidReading_IndexError => k_is); (case t_InvalidReading_KeyError => k_is); (case t_InvalidReading_OverflowError => k_is); (case t_InvalidReading_ArithmeticError => k_is)
    (case t_InvalidReading_LookupError => k_is); (case oc_InvalidNetwork => k_is); (case om_InvalidNetwork => k_is); (case e2_InvalidNetwork => k_is)
    (case e3_InvalidNetwork => k_is); (case e7_InvalidNetwork => k_is); (case t_InvalidNetwork_ValueError => k_is); (case t_InvalidNetwork_IndexError => k_is)
    (case t_InvalidNetwork_KeyError => k_is); (case t_InvalidNetwork_OverflowError => k_is); (case t_InvalidNetwork_ArithmeticError => k_is)
    (case t_InvalidNetwork_LookupError => k_is); (case oc_InvalidGrowth => k_is); (case om_InvalidGrowth => k_is); (case e2_InvalidGrowth => k_is)
    (case e3_InvalidGrowth => k_is); (case e7_InvalidGrowth => k_is); (case t_InvalidGrowth_ValueError => k_is); (case t_InvalidGrowth_IndexError => k_is)
    (case t_InvalidGrowth_KeyError => k_is); (case t_InvalidGrowth_OverflowError => k_is); (case t_InvalidGrowth_ArithmeticError => k_is); (case t_InvalidGrowth_LookupError => k_is)
    (case oc_InvalidOperation => k_is); (case om_InvalidOperation => k_is); (case e2_InvalidOperation => k_is); (case e3_InvalidOperation => k_is)
    (case e7_InvalidOperation => k_is); (case t_InvalidOperation_ValueError => k_is); (case t_InvalidOperation_IndexError => k_is); (case t_InvalidOperation_KeyError => k_is)
    (case t_InvalidOperation_OverflowError => k_is); (case t_InvalidOperation_ArithmeticError => k_is); (case t_InvalidOperation_LookupError => k_is)
    (case oc_InvalidText => k_is); (case om_InvalidText => k_is); (case e2_InvalidText => k_is); (case e3_InvalidText => k_is); (case e7_InvalidText => k_is)
    (case t_InvalidText_ValueError => k_is); (case t_InvalidText_IndexError => k_is); (case t_InvalidText_KeyError => k_is); (case t_InvalidText_OverflowError => k_is)
    (case t_InvalidText_ArithmeticError => k_is); (case t_InvalidText_LookupError => k_is); (case oc_InvalidClaim => k_is); (case om_InvalidClaim => k_is)
    (case e2_InvalidClaim => k_is); (case e3_InvalidClaim => k_is); (case e7_InvalidClaim => k_is); (case t_InvalidClaim_ValueError => k_is)
    (case t_InvalidClaim_IndexError => k_is); (case t_InvalidClaim_KeyError => k_is); (case t_InvalidClaim_OverflowError => k_is); (case t_InvalidClaim_ArithmeticError => k_is)
    (case t_InvalidClaim_LookupError => k_is); (case oc_RampError => k_is); (case om_RampError => k_is); (case e2_RampError => k_is); (case e3_RampError => k_is)
    (case e7_RampError => k_is); (case t_RampError_ValueError => k_is); (case t_RampError_IndexError => k_is); (case t_RampError_KeyError => k_is)
    (case t_RampError_OverflowError => k_is); (case t_RampError_ArithmeticError => k_is); (case t_RampError_LookupError => k_is); (case oc_ParseError => k_is)
    (case om_ParseError => k_is); (case t_ParseError_ValueError => k_is); (case t_ParseError_IndexError => k_is); (case t_ParseError_KeyError => k_is)
    (case t_ParseError_OverflowError => k_is); (case t_ParseError_ArithmeticError => k_is); (case t_ParseError_LookupError => k_is); (case oc_InvalidNumber => k_is)
    (case om_InvalidNumber => k_is); (case t_InvalidNumber_ValueError => k_is); (case t_InvalidNumber_IndexError => k_is); (case t_InvalidNumber_KeyError => k_is)
    (case t_InvalidNumber_OverflowError => k_is); (case t_InvalidNumber_ArithmeticError => k_is); (case t_InvalidNumber_LookupError => k_is)
    (case oc_UnknownName => k_is); (case om_UnknownName => k_is); (case t_UnknownName_ValueError => k_is); (case t_UnknownName_IndexError => k_is)
    (case t_UnknownName_KeyError => k_is); (case t_UnknownName_OverflowError => k_is); (case t_UnknownName_ArithmeticError => k_is); (case t_UnknownName_LookupError => k_is)
    (case oc_NothingToUndo => k_is); (case om_NothingToUndo => k_is); (case t_NothingToUndo_ValueError => k_is); (case t_NothingToUndo_IndexError => k_is)
    (case t_NothingToUndo_KeyError => k_is); (case t_NothingToUndo_OverflowError => k_is); (case t_NothingToUndo_ArithmeticError => k_is); (case t_NothingToUndo_LookupError => k_is)
    (case oc_TooMany => k_is); (case om_TooMany => k_is); (case t_TooMany_ValueError => k_is); (case t_TooMany_IndexError => k_is); (case t_TooMany_KeyError => k_is)
    (case t_TooMany_OverflowError => k_is); (case t_TooMany_ArithmeticError => k_is); (case t_TooMany_LookupError => k_is); (case oc_Refused => k_is)
    (case om_Refused => k_is); (case t_Refused_ValueError => k_is); (case t_Refused_IndexError => k_is); (case t_Refused_KeyError => k_is); (case t_Refused_OverflowError => k_is)
    (case t_Refused_ArithmeticError => k_is); (case t_Refused_LookupError => k_is); (case z_super => k_is); (case st => k_is); (case tops => decide +kernel)
    (case z_isinstance => k_is); (case z_int => k_is); (case z_len => k_is); (case z_range => k_is); (case z_max => k_is); (case z_min => k_is)
    (case z_abs => k_is); (case z_sorted => k_is); (case z_repr => k_is); (case z_ValueError => k_is); (case z_IndexError => k_is); (case z_KeyError => k_is)
    (case z_OverflowError => k_is); (case z_ArithmeticError => k_is); (case z_LookupError => k_is)



