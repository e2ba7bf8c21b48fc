import PyProof.Rows.All
import Wide.All
import OpenK.AllK
import Wide.FinOn
import HandS.ForMost
import HandS.Exc
import HandS.TryOnly
import HandS.ExcOwn
import HandS.WordsExc
import HandS.TupAny
import HandS.TupMul
import HandS.Zip
import HandS.IsInst
import HandS.ExcIs
import HandS.Deep
import HandS.Conv
import HandS.TupLe
import HandS.Wide
import HandS.Rev
import KE.GoesMore
import HandS.Small
import KE.SortData
import KE.KTupSum
import KE.DataMinMax
import HandS.More
import KE.KDictDisplayH
import HandS.TupSets
import KE.GoesEnum
import KE.KDictCopyH
import PyProof.DictValues
import HandS.SortKw
import HandS.StrMore
import HandS.Replace
import HandS.RaiseMore
import KE.GoesRaise
import HandS.Sort
import PySem.Challenge.RW_tallysets_k52_grammars_refused
set_option Elab.async false
set_option linter.all false
set_option maxRecDepth 100000
set_option maxHeartbeats 4000000
set_option autoImplicit false
/-! The data layer: each expression and statement of the text computes, by a plain function over data (PyData), what the heap then bears. -/
namespace TD
open PySem PySem.Spec L2

abbrev D := PyData

/-! ### data at values, over the frozen part F of the heap -/
mutual
inductive Rp (F : Hp) : V → D → Prop
  | non : Rp F .non .none
  | bl (b : Bool) : Rp F (.bl b) (.bool b)
  | int (i : Int) : Rp F (.int i) (.int i)
  | str (x : Str) : Rp F (.str x) (.str x)
  | tup {a : Addr} {xs : List V} {ds : List D} : F a = some (.tup xs) → RpA F xs ds → Rp F (.ref a) (.tuple ds)
  | lst {a : Addr} {xs : List V} {ds : List D} : F a = some (.lst xs) → RpA F xs ds → Rp F (.ref a) (.list ds)
  | dct {a : Addr} : F a = some (.dT []) → Rp F (.ref a) (.dict [])
inductive RpA (F : Hp) : List V → List D → Prop
  | nil : RpA F [] []
  | cons {v : V} {vs : List V} {d : D} {ds : List D} : Rp F v d → RpA F vs ds → RpA F (v :: vs) (d :: ds)
end
mutual
theorem Rp.mono {F F' : Hp} (h : ∀ a o, F a = some o → F' a = some o) : ∀ {d : D} {v : V}, Rp F v d → Rp F' v d
  | _, _, .non => .non
  | _, _, .bl b => .bl b
  | _, _, .int i => .int i
  | _, _, .str x => .str x
  | _, _, .tup e r => .tup (h _ _ e) (RpA.mono h r)
  | _, _, .lst e r => .lst (h _ _ e) (RpA.mono h r)
  | _, _, .dct e => .dct (h _ _ e)
theorem RpA.mono {F F' : Hp} (h : ∀ a o, F a = some o → F' a = some o) : ∀ {ds : List D} {vs : List V}, RpA F vs ds → RpA F' vs ds
  | _, _, .nil => .nil
  | _, _, .cons r t => .cons (Rp.mono h r) (RpA.mono h t)
end
theorem RpA.length {F : Hp} : ∀ {ds : List D} {vs : List V}, RpA F vs ds → vs.length = ds.length
  | _, _, .nil => rfl
  | _, _, .cons _ t => congrArg (· + 1) t.length
theorem RpA.get {F : Hp} : ∀ {ds : List D} {vs : List V} {i : Nat} {d : D}, RpA F vs ds → ds[i]? = some d → ∃ v, vs[i]? = some v ∧ Rp F v d
  | _, _, _, _, .nil, e => by simp at e
  | _, _, 0, _, .cons r _, e => by simp at e; subst e; exact ⟨_, rfl, r⟩
  | _, _, i + 1, d, .cons _ t, e => by
    obtain ⟨v, h1, h2⟩ := RpA.get (i := i) (d := d) t (by simpa using e)
    exact ⟨v, by simpa using h1, h2⟩
theorem RpA.getV {F : Hp} : ∀ {ds : List D} {vs : List V} {i : Nat} {v : V}, RpA F vs ds → vs[i]? = some v → ∃ d, ds[i]? = some d ∧ Rp F v d
  | _, _, _, _, .nil, e => by simp at e
  | _, _, 0, _, .cons r _, e => by simp at e; subst e; exact ⟨_, rfl, r⟩
  | _, _, i + 1, v, .cons _ t, e => by
    obtain ⟨d, h1, h2⟩ := RpA.getV (i := i) (v := v) t (by simpa using e)
    exact ⟨d, by simpa using h1, h2⟩
theorem RpA.append {F : Hp} : ∀ {ds es : List D} {vs ws : List V}, RpA F vs ds → RpA F ws es → RpA F (vs ++ ws) (ds ++ es)
  | _, _, _, _, .nil, s => s
  | _, _, _, _, .cons r t, s => .cons r (RpA.append t s)
theorem RpA.take {F : Hp} : ∀ {ds : List D} {vs : List V} (n : Nat), RpA F vs ds → RpA F (vs.take n) (ds.take n)
  | _, _, 0, _ => .nil
  | _, _, _ + 1, .nil => .nil
  | _, _, n + 1, .cons r t => .cons r (RpA.take n t)
theorem RpA.drop {F : Hp} : ∀ {ds : List D} {vs : List V} (n : Nat), RpA F vs ds → RpA F (vs.drop n) (ds.drop n)
  | _, _, 0, r => r
  | _, _, _ + 1, .nil => .nil
  | _, _, n + 1, .cons _ t => RpA.drop n t
theorem RpA.set {F : Hp} {v : V} {d : D} (r : Rp F v d) : ∀ {ds : List D} {vs : List V} (i : Nat), RpA F vs ds → RpA F (vs.set i v) (ds.set i d)
  | _, _, _, .nil => .nil
  | _, _, 0, .cons _ t => .cons r t
  | _, _, i + 1, .cons q t => .cons q (RpA.set r i t)
theorem RpA.one {F : Hp} {v : V} {d : D} (r : Rp F v d) : RpA F [v] [d] := .cons r .nil
theorem RpA.reverse {F : Hp} : ∀ {ds : List D} {vs : List V}, RpA F vs ds → RpA F vs.reverse ds.reverse
  | _, _, .nil => .nil
  | _, _, .cons r t => by
    rw [List.reverse_cons, List.reverse_cons]
    exact (RpA.reverse t).append (.one r)
theorem Rp.intV {F : Hp} {v : V} {i : Int} : Rp F v (.int i) → v = .int i
  | .int _ => rfl
theorem Rp.blV {F : Hp} {v : V} {b : Bool} : Rp F v (.bool b) → v = .bl b
  | .bl _ => rfl
theorem Rp.strV {F : Hp} {v : V} {b : Str} : Rp F v (.str b) → v = .str b
  | .str _ => rfl
theorem Rp.nonV {F : Hp} {v : V} : Rp F v .none → v = .non
  | .non => rfl

/-! ### what a slot holds, what an expression gives -/
inductive B where
  | d (x : D)
  /-- a list that is read only (the script) -/
  | s (xs : List D)
  /-- a list of one's own, or lent: it may be changed -/
  | l (xs : List D)
  /-- a dict whose keys are tuples -/
  | t (kvs : List (List Key × D))
  /-- nothing is known -/
  | x
abbrev Env := List (Option B)
inductive W where
  | d (x : D)
  | l (xs : List D)
  | t (kvs : List (List Key × D))
  /-- what the slot i holds -/
  | c (i : Nat)
def W.isTmp : W → Bool
  | .l _ => true
  | .t _ => true
  | _ => false
inductive Out (α : Type) where
  | ok (a : α) (ρ : Env)
  | er (c : Str) (ρ : Env)
  | st
abbrev Mx (α : Type) := Env → Out α
def bnd {α β : Type} (m : Mx α) (k : α → Mx β) : Mx β := fun ρ => match m ρ with
  | .ok a ρ' => k a ρ'
  | .er c ρ' => .er c ρ'
  | .st => .st
def B.isCell : B → Bool
  | .l _ => true
  | .t _ => true
  | _ => false
def B.isX : B → Bool
  | .x => true
  | _ => false
/-- what stays in its place where it is a parameter -/
def B.lk : B → Bool
  | .l _ => true
  | .t _ => true
  | .d (.list _) => true
  | _ => false
abbrev KvR (F : Hp) : List (List Key × V) → List (List Key × D) → Prop := Paired fun p q => p.1 = q.1 ∧ Rp F p.2 q.2
def BRep (K : PySem.W.Frag) (F H : Hp) (v : V) : B → Prop
  | .d x => Rp F v x
  | .s xs => ∃ p vs, v = .ref p ∧ SqL K F p vs ∧ RpA F vs xs
  | .l xs => ∃ p vs, v = .ref p ∧ H p = some (.lst vs) ∧ RpA F vs xs
  | .t kvs => ∃ p kws, v = .ref p ∧ H p = some (.dT kws) ∧ KvR F kws kvs
  | .x => True
structure Sx where
  F : Hp
  σ : St
  H : Hp
  ρ : Env
def CellAt (s : Sx) (i : Nat) (a : Addr) : Prop := s.σ[i]? = some (some (.ref a)) ∧ ∃ b, s.ρ[i]? = some (some b) ∧ b.isCell = true
def Cell (s : Sx) (a : Addr) : Prop := ∃ i, CellAt s i a
def Lk (s : Sx) (i : Nat) (a : Addr) : Prop := s.σ[i]? = some (some (.ref a)) ∧ ∃ b, s.ρ[i]? = some (some b) ∧ b.lk = true
structure Rel (K : PySem.W.Frag) (s : Sx) : Prop where
  sub : ∀ a o, s.F a = some o → s.H a = some o
  len : s.σ.length = s.ρ.length
  slotX : ∀ (i : Nat) (b : B), s.ρ[i]? = some (some b) → b.isX = false → ∃ v, s.σ[i]? = some (some v) ∧ BRep K s.F s.H v b
  sep : ∀ i j a, CellAt s i a → CellAt s j a → i = j
  own : ∀ i a, CellAt s i a → s.F a = none
theorem Rel.slot {K : PySem.W.Frag} {s : Sx} (R : Rel K s) (i : Nat) (b : B) (h : s.ρ[i]? = some (some b)) (hx : b.isX = false := by first | rfl | assumption) : ∃ v, s.σ[i]? = some (some v) ∧ BRep K s.F s.H v b := R.slotX i b h hx
/-- what is known at a stays as it was; of a tuple more may be known -/
def Fz (F F' : Hp) (a : Addr) (o : HO) : Prop := F' a = F a ∨ (F a = none ∧ ∃ vs, o = .tup vs)
theorem Fz.same {F F' : Hp} {a : Addr} {o : HO} (h : F' a = F a) : Fz F F' a o := .inl h
theorem Fz.none {F F' : Hp} {a : Addr} {o : HO} (h : Fz F F' a o) (e : F a = Option.none) (hn : ∀ vs, o ≠ .tup vs) : F' a = Option.none := by
  rcases h with h | ⟨_, vs, h⟩
  · exact h.trans e
  · exact absurd h (hn vs)
theorem Fz.mono {F F' : Hp} {a : Addr} {o u : HO} (h : Fz F F' a o) (e : F a = some u) : F' a = some u := by
  rcases h with h | ⟨h, _⟩
  · exact h.trans e
  · rw [e] at h; cases h
theorem Fz.trans {F F1 F2 : Hp} {a : Addr} {o : HO} (h2 : Fz F1 F2 a o) (h1 : Fz F F1 a o) : Fz F F2 a o := by
  rcases h1 with h1 | h1
  · rcases h2 with h2 | ⟨h2, h3⟩
    · exact .inl (h2.trans h1)
    · exact .inr ⟨h1.symm.trans h2, h3⟩
  · exact .inr h1
structure Step (np : Nat) (s s' : Sx) : Prop where
  keep : ∀ a o, s.H a = some o → ¬ Cell s a → s'.H a = some o
  fz : ∀ a o, s.H a = some o → ¬ Cell s a → Fz s.F s'.F a o
  there : ∀ a o, s.H a = some o → ∃ o', s'.H a = some o'
  cells : ∀ a, Cell s' a → Cell s a ∨ s.H a = none
  par : ∀ i a, i < np → Lk s i a → Lk s' i a
  stay : ∀ i : Nat, (∃ b : B, s.ρ[i]? = some (some b)) → ∃ b : B, s'.ρ[i]? = some (some b)
  same : ∀ i : Nat, (¬ ∃ b : B, s'.ρ[i]? = some (some b)) → s'.σ[i]? = s.σ[i]?
theorem Step.refl {np : Nat} (s : Sx) : Step np s s :=
  ⟨fun _ _ h _ => h, fun _ _ _ _ => .inl rfl, fun _ o h => ⟨o, h⟩, fun _ h => .inl h, fun _ _ _ h => h, fun _ h => h, fun _ _ => rfl⟩
theorem Step.trans {np : Nat} {s s1 s2 : Sx} (a : Step np s s1) (b : Step np s1 s2) : Step np s s2 where
  keep := fun x o h n => b.keep x o (a.keep x o h n) fun c => (a.cells x c).elim n fun z => by rw [h] at z; cases z
  fz := fun x o h n => (b.fz x o (a.keep x o h n) fun c => (a.cells x c).elim n fun z => by rw [h] at z; cases z).trans (a.fz x o h n)
  there := fun x o h => by
    obtain ⟨o1, h1⟩ := a.there x o h
    exact b.there x o1 h1
  cells := fun x c => by
    rcases b.cells x c with z | z
    · exact a.cells x z
    · refine .inr ?_
      cases q : s.H x with
      | none => rfl
      | some o =>
        obtain ⟨o1, h1⟩ := a.there x o q
        rw [h1] at z; cases z
  par := fun i x hi h => b.par i x hi (a.par i x hi h)
  stay := fun i h => b.stay i (a.stay i h)
  same := fun i h => (b.same i h).trans (a.same i fun z => h (b.stay i z))
theorem Step.none {np : Nat} {s s' : Sx} (a : Step np s s') {p : Addr} (h : s'.H p = none) : s.H p = none := by
  cases q : s.H p with
  | none => rfl
  | some o =>
    obtain ⟨o1, h1⟩ := a.there p o q
    rw [h1] at h; cases h
theorem Rel.nocell {K : PySem.W.Frag} {s : Sx} (R : Rel K s) {a : Addr} {o : HO} (h : s.F a = some o) : ¬ Cell s a := fun ⟨i, c⟩ => by
  rw [R.own i a c] at h; cases h
theorem Step.mono {K : PySem.W.Frag} {np : Nat} {s s' : Sx} (a : Step np s s') (R : Rel K s) : ∀ x o, s.F x = some o → s'.F x = some o := fun x o h =>
  (a.fz x o (R.sub x o h) (R.nocell h)).mono h
theorem Rel.free {K : PySem.W.Frag} {s : Sx} (R : Rel K s) {p : Addr} (h : s.H p = none) : s.F p = none := by
  cases q : s.F p with
  | none => rfl
  | some o =>
    rw [R.sub p o q] at h; cases h
/-- a cell is tracked -/
theorem Rel.cellT {K : PySem.W.Frag} {s : Sx} (R : Rel K s) {i : Nat} {a : Addr} (c : CellAt s i a) : ∃ o, s.H a = some o ∧ ∀ vs, o ≠ .tup vs := by
  obtain ⟨e, b, hb, hc⟩ := c
  have hx : b.isX = false := by cases b <;> first | rfl | cases hc
  obtain ⟨v, hv, r⟩ := R.slot i b hb
  rw [e] at hv
  cases hv
  cases b with
  | d x => cases hc
  | s x => cases hc
  | x => cases hc
  | l xs =>
    obtain ⟨p, vs, e1, h, _⟩ := r
    cases e1
    exact ⟨_, h, fun _ z => by cases z⟩
  | t kvs =>
    obtain ⟨p, vs, e1, h, _⟩ := r
    cases e1
    exact ⟨_, h, fun _ z => by cases z⟩
theorem Rel.cellH {K : PySem.W.Frag} {s : Sx} (R : Rel K s) {i : Nat} {a : Addr} (c : CellAt s i a) : ∃ o, s.H a = some o := by
  obtain ⟨o, h, _⟩ := R.cellT c
  exact ⟨o, h⟩
theorem Rel.newNoCell {K : PySem.W.Frag} {s : Sx} (R : Rel K s) {p : Addr} (h : s.H p = none) : ¬ Cell s p := fun ⟨i, c⟩ => by
  obtain ⟨o, e⟩ := R.cellH c
  rw [h] at e; cases e
theorem BRep.keep {K : PySem.W.Frag} {F F' H H' : Hp} {v : V} {b : B} (hF : ∀ a o, F a = some o → F' a = some o) (hH : ∀ a, b.isCell = true → v = .ref a → ∀ o, H a = some o → H' a = some o) (r : BRep K F H v b) : BRep K F' H' v b := by
  cases b with
  | d x => exact Rp.mono hF r
  | s xs =>
    obtain ⟨p, vs, e, h, q⟩ := r
    exact ⟨p, vs, e, Same.seq hF h, q.mono hF⟩
  | l xs =>
    obtain ⟨p, vs, e, h, q⟩ := r
    exact ⟨p, vs, e, hH p rfl e _ h, q.mono hF⟩
  | t kvs =>
    obtain ⟨p, vs, e, h, q⟩ := r
    exact ⟨p, vs, e, hH p rfl e _ h, L2.Paired.mapP q fun _ _ z => ⟨z.1, z.2.mono hF⟩⟩
  | x => trivial
/-- a new object: frozen (F grows) or not -/
theorem Rel.alloc {K : PySem.W.Frag} {np : Nat} {F F' H : Hp} {σ : St} {ρ : Env} {p : Addr} {o : HO} (R : Rel K ⟨F, σ, H, ρ⟩) (h : H p = none) (hF : F' = F ∨ F' = upd F p o) : Rel K ⟨F', σ, upd H p o, ρ⟩ ∧ Step np ⟨F, σ, H, ρ⟩ ⟨F', σ, upd H p o, ρ⟩ := by
  have hFp : F p = none := R.free h
  have up : ∀ a u, H a = some u → upd H p o a = some u := fun a u e => by rw [upd_ne (ne_of_none e h)]; exact e
  have fne : ∀ a, a ≠ p → F' a = F a := fun a ha => by
    rcases hF with rfl | rfl
    · rfl
    · exact upd_ne ha
  have fm : ∀ a u, F a = some u → F' a = some u := fun a u e => by rw [fne a (ne_of_none e hFp)]; exact e
  have nc : ∀ i, ¬ CellAt ⟨F, σ, H, ρ⟩ i p := fun i c => R.newNoCell h ⟨i, c⟩
  refine ⟨⟨fun a u (e : F' a = some u) => ?_, R.len, fun i b hb hx => ?_, R.sep, fun i a c => ?_⟩, ⟨fun a u e _ => up a u e, fun a u e _ => .inl (fne a (ne_of_none e h)), fun a u e => ⟨u, up a u e⟩, fun a c => .inl c, fun _ _ _ l => l, fun _ h => h, fun _ _ => rfl⟩⟩
  · by_cases ha : a = p
    · subst ha
      rcases hF with rfl | rfl
      · rw [hFp] at e; cases e
      · show upd H a o a = some u
        rw [upd_same] at e ⊢
        exact e
    · rw [fne a ha] at e
      exact up a u (R.sub a u e)
  · obtain ⟨v, hv, r⟩ := R.slot i b hb
    exact ⟨v, hv, r.keep fm fun a _ _ u e => up a u e⟩
  · have ha : a ≠ p := fun z => nc i (by rw [← z]; exact c)
    show F' a = none
    rw [fne a ha]
    exact R.own i a c

/-! ### readings -/
structure Cn where
  K : PySem.W.Frag
  np : Nat
  mg : Str → Option Value
def VRep (K : PySem.W.Frag) (H0 : Hp) (s : Sx) (v : V) : W → Prop
  | .d x => Rp s.F v x
  | .l xs => ∃ p vs, v = .ref p ∧ s.H p = some (.lst vs) ∧ RpA s.F vs xs ∧ s.F p = none ∧ H0 p = none ∧ ¬ Cell s p
  | .t kvs => ∃ p kws, v = .ref p ∧ s.H p = some (.dT kws) ∧ KvR s.F kws kvs ∧ s.F p = none ∧ H0 p = none ∧ ¬ Cell s p
  | .c i => s.σ[i]? = some (some v)
theorem VRep.old {K : PySem.W.Frag} {H0 H1 : Hp} {s : Sx} {v : V} {w : W} (h : ∀ p, H1 p = none → H0 p = none) (r : VRep K H1 s v w) : VRep K H0 s v w := by
  cases w with
  | d x => exact r
  | l xs =>
    obtain ⟨p, vs, e, h1, h2, h3, h4, h5⟩ := r
    exact ⟨p, vs, e, h1, h2, h3, h p h4, h5⟩
  | t xs =>
    obtain ⟨p, vs, e, h1, h2, h3, h4, h5⟩ := r
    exact ⟨p, vs, e, h1, h2, h3, h p h4, h5⟩
  | c i => exact r
/-- a value held while another expression is evaluated -/
theorem VRep.held {K : PySem.W.Frag} {H0 : Hp} {np : Nat} {s s' : Sx} {v : V} {w : W} (R : Rel K s) (S : Step np s s') (hσ : s'.σ = s.σ) (r : VRep K H0 s v w) : VRep K H0 s' v w := by
  cases w with
  | d x => exact Rp.mono (S.mono R) r
  | l xs =>
    obtain ⟨p, vs, e, h1, h2, h3, h4, h5⟩ := r
    exact ⟨p, vs, e, S.keep p _ h1 h5, h2.mono (S.mono R), (S.fz p _ h1 h5).none h3 (fun _ z => by cases z), h4, fun c => (S.cells p c).elim h5 fun z => by rw [h1] at z; cases z⟩
  | t xs =>
    obtain ⟨p, vs, e, h1, h2, h3, h4, h5⟩ := r
    exact ⟨p, vs, e, S.keep p _ h1 h5, L2.Paired.mapP h2 fun _ _ z => ⟨z.1, z.2.mono (S.mono R)⟩, (S.fz p _ h1 h5).none h3 (fun _ z => by cases z), h4, fun c => (S.cells p c).elim h5 fun z => by rw [h1] at z; cases z⟩
  | c i =>
    show s'.σ[i]? = some (some v)
    rw [hσ]
    exact r

/-- the wish about exceptions: by the class's name -/
abbrev WxT := WX
/-- what is wanted of an expression's outcome, from the state s -/
def Post (Γ : Cn) (Wx : WX) (s : Sx) (o : Out W) (Q : VK) : Prop :=
  match o with
  | .ok w ρ' => ∀ v F' H', Rel Γ.K ⟨F', s.σ, H', ρ'⟩ → Step Γ.np s ⟨F', s.σ, H', ρ'⟩ → VRep Γ.K s.H ⟨F', s.σ, H', ρ'⟩ v w → Q v H'
  | .er c ρ' => ∀ F' H' C, Γ.mg c = some (.ref C) → Rel Γ.K ⟨F', s.σ, H', ρ'⟩ → Step Γ.np s ⟨F', s.σ, H', ρ'⟩ → Wx (.ref C) none s.σ H'
  | .st => False
theorem Post.step {Γ : Cn} {Wx : WX} {s s1 : Sx} {o : Out W} {Q : VK} (S : Step Γ.np s s1) (hσ : s1.σ = s.σ) (h : Post Γ Wx s o Q) : Post Γ Wx s1 o Q := by
  obtain ⟨F, σ, H, ρ⟩ := s
  obtain ⟨F1, σ1, H1, ρ1⟩ := s1
  cases hσ
  cases o with
  | ok w ρ' => exact fun v F' H' R S' r => h v F' H' R (S.trans S') (r.old fun p hp => S.none hp)
  | er c ρ' => exact fun F' H' C hC R S' => h F' H' C hC R (S.trans S')
  | st => exact h.elim
def tE (Γ : Cn) (Wx : WX) (f : Mx W) : TE := fun σ H Q => ∃ F ρ, Rel Γ.K ⟨F, σ, H, ρ⟩ ∧ Post Γ Wx ⟨F, σ, H, ρ⟩ (f ρ) Q
abbrev DE (X : Cx) (Γ : Cn) (Wx : WX) (e : Expr) (f : Mx W) : Prop := PE X e (tE Γ Wx f)
theorem PE.imp {X : Cx} {e : Expr} {t t' : TE} (h : PE X e t) (i : ∀ σ H Q, t' σ H Q → t σ H Q) : PE X e t' := ⟨fun pins s σ H Q I q => h.run pins s σ H Q I (i σ H Q q)⟩
theorem PT.imp {X : Cx} {e : Expr} {t t' : TT} (h : PT X e t) (i : ∀ σ H Q, t' σ H Q → t σ H Q) : PT X e t' := ⟨fun pins s σ H Q I q => h.run pins s σ H Q I (i σ H Q q)⟩
theorem PS.imp {X : Cx} {e : Stmt} {t t' : TS} (h : PS X e t) (i : ∀ D σ H, t' D σ H → t D σ H) : PS X e t' := ⟨fun pins s σ H D I q => h.run pins s σ H D I (i D σ H q)⟩
theorem PSs.imp {X : Cx} {e : List Stmt} {t t' : TS} (h : PSs X e t) (i : ∀ D σ H, t' D σ H → t D σ H) : PSs X e t' := ⟨fun pins s σ H D I q => h.run pins s σ H D I (i D σ H q)⟩
theorem PA.imp {X : Cx} {e : List Expr} {t t' : TA} (h : PA X e t) (i : ∀ σ H Q, t' σ H Q → t σ H Q) : PA X e t' := ⟨fun pos pins s σ H Q I q => h.run pos pins s σ H Q I (i σ H Q q)⟩

/-- what a value is worth as data: of a cell of one's own its items as a list -/
def W.toD (ρ : Env) : W → Option D
  | .d x => some x
  | .l xs => some (.list xs)
  | .t _ => none
  | .c i => match ρ[i]? with
    | some (some (.d x)) => some x
    | some (some (.s xs)) => some (.list xs)
    | some (some (.l xs)) => some (.list xs)
    | _ => none
/-- data alone -/
def W.asD (ρ : Env) : W → Option D
  | .d x => some x
  | .c i => match ρ[i]? with
    | some (some (.d x)) => some x
    | _ => none
  | _ => none
theorem VRep.data {K : PySem.W.Frag} {H0 : Hp} {s : Sx} {v : V} {w : W} {x : D} (R : Rel K s) (r : VRep K H0 s v w) (e : w.asD s.ρ = some x) : Rp s.F v x := by
  cases w with
  | d y => cases e; exact r
  | l _ => cases e
  | t _ => cases e
  | c i =>
    simp only [W.asD] at e
    cases hb : s.ρ[i]? with
    | none => rw [hb] at e; cases e
    | some o =>
      cases o with
      | none => rw [hb] at e; cases e
      | some b =>
        cases b with
        | d y =>
          rw [hb] at e
          cases e
          obtain ⟨v', hv, q⟩ := R.slot i _ hb
          have r' : s.σ[i]? = some (some v) := r
          rw [hv] at r'
          cases r'
          exact q
        | s _ => rw [hb] at e; cases e
        | l _ => rw [hb] at e; cases e
        | t _ => rw [hb] at e; cases e
        | x => rw [hb] at e; cases e
/-! ### the end of a pure operation -/
theorem Post.val {Γ : Cn} {Wx : WX} {s : Sx} {Q : VK} {x : D} {v : V} (R : Rel Γ.K s) (h : Post Γ Wx s (.ok (.d x) s.ρ) Q) (r : Rp s.F v x) : Q v s.H := h v s.F s.H R (Step.refl _) r
theorem Post.tup {Γ : Cn} {Wx : WX} {s : Sx} {Q : VK} {ds : List D} {vs : List V} (R : Rel Γ.K s) (h : Post Γ Wx s (.ok (.d (.tuple ds)) s.ρ) Q) (r : RpA s.F vs ds) {p : Addr} (hp : s.H p = none) : Q (.ref p) (upd s.H p (.tup vs)) := by
  obtain ⟨R', S'⟩ := R.alloc (np := Γ.np) (p := p) (o := .tup vs) (F' := upd s.F p (.tup vs)) hp (.inr rfl)
  exact h (.ref p) _ _ R' S' (.tup upd_same (r.mono (S'.mono R)))
theorem Post.lst {Γ : Cn} {Wx : WX} {s : Sx} {Q : VK} {ds : List D} {vs : List V} (R : Rel Γ.K s) (h : Post Γ Wx s (.ok (.l ds) s.ρ) Q) (r : RpA s.F vs ds) {p : Addr} (hp : s.H p = none) : Q (.ref p) (upd s.H p (.lst vs)) := by
  obtain ⟨R', S'⟩ := R.alloc (np := Γ.np) (p := p) (o := .lst vs) (F' := s.F) hp (.inl rfl)
  exact h (.ref p) _ _ R' S' ⟨p, vs, rfl, upd_same, r, R.free hp, hp, R.newNoCell hp⟩

/-! ### names and constants -/
def mVar (i : Nat) : Mx W := fun ρ => match ρ[i]? with
  | some (some (.d x)) => .ok (.d x) ρ
  | some (some (.s _)) => .ok (.c i) ρ
  | some (some (.l _)) => .ok (.c i) ρ
  | some (some (.t _)) => .ok (.c i) ρ
  | _ => .st
def mC (x : D) : Mx W := fun ρ => .ok (.d x) ρ
section
variable {X : Cx} {Γ : Cn} {Wx : WX} {a b c : Expr} {f g f1 f2 : Mx W} {pos : Pos}
theorem de_var (i : Nat) {x : Str} (hN : X.N[i]? = some x := by rfl) (hv : Vis X.env.scope x := by first | exact Or.inl rfl | exact Or.inr (Or.inl rfl) | exact Or.inr (Or.inr rfl)) (hd : (x == ("__debug__" : Str)) = false := by decide) (hcd : (x == ("__classdict__" : Str)) = false := by decide) : DE X Γ Wx (.Name x pos) (mVar i) := by
  refine PE.imp (pe_var hN hv hd hcd) fun σ H Q ⟨F, ρ, R, h⟩ => ?_
  unfold mVar at h
  cases hb : ρ[i]? with
  | none => rw [hb] at h; exact h.elim
  | some o =>
    cases o with
    | none => rw [hb] at h; exact h.elim
    | some b =>
      rw [hb] at h
      cases b with
      | d x =>
        obtain ⟨v, hv, q⟩ := R.slot i _ hb
        exact ⟨v, hv, h v F H R (Step.refl _) q⟩
      | s x =>
        obtain ⟨v, hv, q⟩ := R.slot i _ hb
        exact ⟨v, hv, h v F H R (Step.refl _) hv⟩
      | l x =>
        obtain ⟨v, hv, q⟩ := R.slot i _ hb
        exact ⟨v, hv, h v F H R (Step.refl _) hv⟩
      | t x =>
        obtain ⟨v, hv, q⟩ := R.slot i _ hb
        exact ⟨v, hv, h v F H R (Step.refl _) hv⟩
      | x => exact h.elim
theorem de_int {i j} : DE X Γ Wx (.Constant (.int i) j pos) (mC (.int i)) := PE.imp pe_int fun σ H Q ⟨_, _, R, h⟩ => h.val R (.int i)
theorem de_bl {b j} : DE X Γ Wx (.Constant (.bool b) j pos) (mC (.bool b)) := PE.imp pe_bl fun σ H Q ⟨_, _, R, h⟩ => h.val R (.bl b)
theorem de_non {j} : DE X Γ Wx (.Constant .none j pos) (mC .none) := PE.imp pe_non fun σ H Q ⟨_, _, R, h⟩ => h.val R .non
theorem de_str {x j} : DE X Γ Wx (.Constant (.str x) j pos) (mC (.str x)) := PE.imp pe_str fun σ H Q ⟨_, _, R, h⟩ => h.val R (.str x)

/-! ### two operands -/
def m2 (g : W → W → Env → Out W) (f1 f2 : Mx W) : Mx W := bnd f1 fun w1 => bnd f2 fun w2 => g w1 w2
def m1 (g : W → Env → Out W) (f1 : Mx W) : Mx W := bnd f1 fun w1 => g w1
/-- the operation g, done by r -/
def Ok2 (Γ : Cn) (Wx : WX) (r : R2) (g : W → W → Env → Out W) : Prop :=
  ∀ (s : Sx) (v1 v2 : V) (w1 w2 : W) (H1 H2 : Hp) (Q : VK), Rel Γ.K s → VRep Γ.K H1 s v1 w1 → VRep Γ.K H2 s v2 w2 → Post Γ Wx s (g w1 w2 s.ρ) Q → r v1 v2 s.H Q
def Ok1 (Γ : Cn) (Wx : WX) (r : V → Hp → VK → Prop) (g : W → Env → Out W) : Prop :=
  ∀ (s : Sx) (v1 : V) (w1 : W) (H1 : Hp) (Q : VK), Rel Γ.K s → VRep Γ.K H1 s v1 w1 → Post Γ Wx s (g w1 s.ρ) Q → r v1 s.H Q
theorem post_bnd {s : Sx} {Q : VK} {k : W → Mx W} {K : V → Hp → Prop} (h : Post Γ Wx s (bnd f k s.ρ) Q)
    (hk : ∀ v w F1 H1 ρ1, Rel Γ.K ⟨F1, s.σ, H1, ρ1⟩ → Step Γ.np s ⟨F1, s.σ, H1, ρ1⟩ → VRep Γ.K s.H ⟨F1, s.σ, H1, ρ1⟩ v w → Post Γ Wx ⟨F1, s.σ, H1, ρ1⟩ (k w ρ1) Q → K v H1) : Post Γ Wx s (f s.ρ) K := by
  unfold bnd at h
  cases e : f s.ρ with
  | ok w ρ1 =>
    rw [e] at h
    exact fun v F1 H1 R1 S1 r => hk v w F1 H1 ρ1 R1 S1 r (Post.step (s1 := ⟨F1, s.σ, H1, ρ1⟩) S1 rfl h)
  | er c ρ1 => rw [e] at h; exact h
  | st => rw [e] at h; exact h
theorem tOp_of {r : R2} {g : W → W → Env → Out W} (hg : Ok2 Γ Wx r g) : ∀ σ H Q, tE Γ Wx (m2 g f1 f2) σ H Q → tOp r (tE Γ Wx f1) (tE Γ Wx f2) σ H Q := fun σ H Q ⟨F, ρ, R, h⟩ =>
  ⟨F, ρ, R, post_bnd (s := ⟨F, σ, H, ρ⟩) h fun v w F1 H1 ρ1 R1 S1 r1 h1 => ⟨F1, ρ1, R1, post_bnd (s := ⟨F1, σ, H1, ρ1⟩) (f := f2) (k := fun w2 => g w w2) h1 fun v2 w2 F2 H2 ρ2 R2 S2 r2 h2 =>
    hg ⟨F2, σ, H2, ρ2⟩ v v2 w w2 _ _ Q R2 (r1.held R1 S2 rfl) r2 h2⟩⟩
theorem tUn_of {r : V → Hp → VK → Prop} {g : W → Env → Out W} (hg : Ok1 Γ Wx r g) : ∀ σ H Q, tE Γ Wx (m1 g f1) σ H Q → tUn r (tE Γ Wx f1) σ H Q := fun σ H Q ⟨F, ρ, R, h⟩ =>
  ⟨F, ρ, R, post_bnd (s := ⟨F, σ, H, ρ⟩) h fun v w F1 H1 ρ1 R1 S1 r1 h1 => hg ⟨F1, σ, H1, ρ1⟩ v w _ Q R1 r1 h1⟩
/-- data in, data out -/
def p2 (g : D → D → Option D) : W → W → Env → Out W := fun w1 w2 ρ => match w1.asD ρ, w2.asD ρ with
  | some x, some y => match g x y with
    | some z => .ok (.d z) ρ
    | none => .st
  | _, _ => .st
theorem p2_inv {s : Sx} {Q : VK} {g : D → D → Option D} {v1 v2 : V} {w1 w2 : W} {H1 H2 : Hp} (R : Rel Γ.K s) (r1 : VRep Γ.K H1 s v1 w1) (r2 : VRep Γ.K H2 s v2 w2) (h : Post Γ Wx s (p2 g w1 w2 s.ρ) Q) :
    ∃ x y z, Rp s.F v1 x ∧ Rp s.F v2 y ∧ g x y = some z ∧ Post Γ Wx s (.ok (.d z) s.ρ) Q := by
  unfold p2 at h
  cases e1 : w1.asD s.ρ with
  | none => rw [e1] at h; exact h.elim
  | some x =>
    cases e2 : w2.asD s.ρ with
    | none => rw [e1, e2] at h; exact h.elim
    | some y =>
      rw [e1, e2] at h
      cases e3 : g x y with
      | none => simp only [e3] at h; exact h.elim
      | some z => simp only [e3] at h; exact ⟨x, y, z, r1.data R e1, r2.data R e2, e3, h⟩
def gI (C : Int → Int → Bool) (f : Int → Int → Int) : D → D → Option D
  | .int i, .int j => if C i j = true then some (.int (f i j)) else none
  | _, _ => none
theorem gI_inv {C : Int → Int → Bool} {f : Int → Int → Int} {x y z : D} (h : gI C f x y = some z) : ∃ i j, x = .int i ∧ y = .int j ∧ C i j = true ∧ z = .int (f i j) := by
  unfold gI at h
  split at h
  · rename_i i j
    split at h
    · rename_i hc
      cases h
      exact ⟨i, j, rfl, rfl, hc, rfl⟩
    · cases h
  · cases h
theorem ok2_I {C : Int → Int → Bool} {C' : Int → Int → Prop} {f : Int → Int → Int} (hC : ∀ i j, C i j = true → C' i j) : Ok2 Γ Wx (rI C' fun i j => .int (f i j)) (p2 (gI C f)) := fun s v1 v2 w1 w2 H1 H2 Q R r1 r2 h => by
  obtain ⟨x, y, z, q1, q2, hg, h⟩ := p2_inv R r1 r2 h
  obtain ⟨i, j, rfl, rfl, hc, rfl⟩ := gI_inv hg
  exact ⟨i, j, q1.intV, q2.intV, hC i j hc, h.val R (.int _)⟩
end
/-! ### a value becomes data: a list is frozen -/
def W.datum (ρ : Env) : W → Option (D × Env)
  | .d x => some (x, ρ)
  | .l xs => some (.list xs, ρ)
  | .t [] => some (.dict [], ρ)
  | .t (_ :: _) => none
  | .c i => match ρ[i]? with
    | some (some (.d x)) => some (x, ρ)
    | some (some (.l xs)) => some (.list xs, ρ.set i (some (.d (.list xs))))
    | _ => none
/-- frozen: the object at p, which is fresh or a cell, is put into F -/
theorem Rel.freeze {K : PySem.W.Frag} {np : Nat} {s0 s : Sx} {p : Addr} {o : HO} (R : Rel K s) (S : Step np s0 s) (e : s.H p = some o) (hF : s.F p = none) (ho : s0.H p = none) (nc : ¬ Cell s p) :
    Rel K ⟨upd s.F p o, s.σ, s.H, s.ρ⟩ ∧ Step np s0 ⟨upd s.F p o, s.σ, s.H, s.ρ⟩ ∧ (∀ a u, s.F a = some u → upd s.F p o a = some u) := by
  have fm : ∀ a u, s.F a = some u → upd s.F p o a = some u := fun a u e1 => by rw [upd_ne (ne_of_none e1 hF)]; exact e1
  refine ⟨⟨fun a u (h : upd s.F p o a = some u) => ?_, R.len, fun i b hb hx => ?_, R.sep, fun i a c => ?_⟩, ⟨S.keep, fun a u h n => ?_, S.there, S.cells, S.par, S.stay, S.same⟩, fm⟩
  · by_cases ha : a = p
    · subst ha
      rw [upd_same] at h
      rw [← h]
      exact e
    · rw [upd_ne ha] at h
      exact R.sub a u h
  · obtain ⟨v, hv, r⟩ := R.slot i b hb
    exact ⟨v, hv, r.keep fm fun _ _ _ _ z => z⟩
  · show upd s.F p o a = none
    rw [upd_ne (fun z => nc ⟨i, by rw [← z]; exact c⟩)]
    exact R.own i a c
  · show Fz s0.F (upd s.F p o) a u
    have e : upd s.F p o a = s.F a := upd_ne (ne_of_none h ho)
    exact Fz.trans (.inl e) (S.fz a u h n)
theorem getElem?_set_cases {α : Type} {l : List α} {i j : Nat} {x y : α} (h : (l.set i x)[j]? = some y) : (j = i ∧ y = x) ∨ (j ≠ i ∧ l[j]? = some y) := by
  by_cases hj : j = i
  · subst hj
    by_cases hl : j < l.length
    · rw [List.getElem?_set_self hl] at h
      exact .inl ⟨rfl, (Option.some.inj h).symm⟩
    · rw [List.getElem?_eq_none (by simpa using hl)] at h
      cases h
  · rw [List.getElem?_set_ne (Ne.symm hj)] at h
    exact .inr ⟨hj, h⟩
theorem set_stay {ρ : Env} {i j : Nat} {b : B} (h : ∃ c : B, ρ[j]? = some (some c)) : ∃ c : B, (ρ.set i (some b))[j]? = some (some c) := by
  obtain ⟨c, h⟩ := h
  by_cases hj : j = i
  · subst hj
    exact ⟨b, List.getElem?_set_self (List.getElem?_eq_some_iff.mp h).1⟩
  · exact ⟨c, by rw [List.getElem?_set_ne (Ne.symm hj)]; exact h⟩
/-- the cell in slot i is frozen -/
theorem Rel.freezeAt {K : PySem.W.Frag} {np : Nat} {s0 s : Sx} {i : Nat} {xs : List D} {v : V} (R : Rel K s) (S : Step np s0 s) (hb : s.ρ[i]? = some (some (.l xs))) (hv : s.σ[i]? = some (some v)) :
    ∃ F', Rel K ⟨F', s.σ, s.H, s.ρ.set i (some (.d (.list xs)))⟩ ∧ Step np s0 ⟨F', s.σ, s.H, s.ρ.set i (some (.d (.list xs)))⟩ ∧ Rp F' v (.list xs) ∧ (∀ a u, s.F a = some u → F' a = some u) ∧
      (∀ a, ¬ Cell s a → F' a = s.F a) ∧ ∀ a, Cell ⟨F', s.σ, s.H, s.ρ.set i (some (.d (.list xs)))⟩ a → Cell s a := by
  obtain ⟨v', hv', p, vs, e1, e, q⟩ := R.slot i _ hb
  rw [hv] at hv'
  cases hv'
  subst e1
  have hc : CellAt s i p := ⟨hv, _, hb, rfl⟩
  have hF := R.own i p hc
  have fm : ∀ a u, s.F a = some u → upd s.F p (.lst vs) a = some u := fun a u e1 => by rw [upd_ne (ne_of_none e1 hF)]; exact e1
  have cold : ∀ j a, CellAt ⟨upd s.F p (.lst vs), s.σ, s.H, s.ρ.set i (some (.d (.list xs)))⟩ j a → CellAt s j a ∧ a ≠ p := fun j a ⟨h1, b, h2, h3⟩ => by
    rcases getElem?_set_cases h2 with ⟨_, h4⟩ | ⟨hj, h4⟩
    · cases h4; cases h3
    · exact ⟨⟨h1, b, h4, h3⟩, fun z => hj (R.sep j i p (by rw [← z]; exact ⟨h1, b, h4, h3⟩) hc)⟩
  refine ⟨upd s.F p (.lst vs), ⟨fun a u (h : upd s.F p (.lst vs) a = some u) => ?_, by simpa using R.len, fun j b hb' hx => ?_, fun j k a c1 c2 => R.sep j k a (cold j a c1).1 (cold k a c2).1, fun j a c => ?_⟩, ⟨S.keep, fun a u h n => ?_, S.there, fun a ⟨j, c⟩ => S.cells a ⟨j, (cold j a c).1⟩, fun j a hj l => ?_, fun j h => set_stay (S.stay j h), fun j h => S.same j fun z => h (set_stay z)⟩, .lst upd_same (q.mono fm), fm, fun a n => upd_ne fun z => n ⟨i, by rw [z]; exact hc⟩, fun a ⟨j, c⟩ => ⟨j, (cold j a c).1⟩⟩
  · by_cases ha : a = p
    · subst ha
      rw [upd_same] at h
      rw [← h]
      exact e
    · rw [upd_ne ha] at h
      exact R.sub a u h
  · rcases getElem?_set_cases hb' with ⟨hj, h4⟩ | ⟨hj, h4⟩
    · cases h4
      subst hj
      exact ⟨_, hv, .lst upd_same (q.mono fm)⟩
    · obtain ⟨v', hv', r⟩ := R.slot j b h4
      exact ⟨v', hv', r.keep fm fun _ _ _ _ z => z⟩
  · show upd s.F p (.lst vs) a = none
    rw [upd_ne (cold j a c).2]
    exact R.own j a (cold j a c).1
  · show Fz s0.F (upd s.F p (.lst vs)) a u
    have hne : a ≠ p := fun z => by
      subst z
      rcases S.cells a ⟨i, hc⟩ with z | z
      · exact n z
      · rw [h] at z; cases z
    have e : upd s.F p (.lst vs) a = s.F a := upd_ne hne
    exact Fz.trans (.inl e) (S.fz a u h n)
  · obtain ⟨h1, b, h2, h3⟩ := S.par j a hj l
    by_cases hji : j = i
    · subst hji
      refine ⟨h1, _, List.getElem?_set_self ?_, rfl⟩
      exact (List.getElem?_eq_some_iff.mp h2).1
    · exact ⟨h1, b, by rw [show (Sx.ρ ⟨upd s.F p (.lst vs), s.σ, s.H, s.ρ.set i (some (.d (.list xs)))⟩) = s.ρ.set i (some (.d (.list xs))) from rfl, List.getElem?_set_ne (Ne.symm hji)]; exact h2, h3⟩
theorem datum_ok {K : PySem.W.Frag} {np : Nat} {s0 s : Sx} {v : V} {w : W} {x : D} {ρ' : Env} (R : Rel K s) (S : Step np s0 s) (r : VRep K s0.H s v w) (h : w.datum s.ρ = some (x, ρ')) :
    ∃ F', Rel K ⟨F', s.σ, s.H, ρ'⟩ ∧ Step np s0 ⟨F', s.σ, s.H, ρ'⟩ ∧ Rp F' v x ∧ (∀ a u, s.F a = some u → F' a = some u) ∧
      (∀ a, ¬ Cell s a → (w.isTmp = true → v ≠ .ref a) → F' a = s.F a) ∧ ∀ a, Cell ⟨F', s.σ, s.H, ρ'⟩ a → Cell s a := by
  cases w with
  | d y => cases h; exact ⟨s.F, R, S, r, fun _ _ z => z, fun _ _ _ => rfl, fun _ z => z⟩
  | l xs =>
    cases h
    obtain ⟨p, vs, rfl, e, q, hF, ho, nc⟩ := r
    obtain ⟨R', S', fm⟩ := R.freeze S e hF ho nc
    exact ⟨_, R', S', .lst upd_same (q.mono fm), fm, fun a _ n => upd_ne fun z => n rfl (by rw [z]), fun _ z => z⟩
  | t kvs =>
    cases kvs with
    | cons _ _ => cases h
    | nil =>
      cases h
      obtain ⟨p, vs, rfl, e, q, hF, ho, nc⟩ := r
      cases q
      obtain ⟨R', S', fm⟩ := R.freeze S e hF ho nc
      exact ⟨_, R', S', .dct upd_same, fm, fun a _ n => upd_ne fun z => n rfl (by rw [z]), fun _ z => z⟩
  | c i =>
    simp only [W.datum] at h
    have r' : s.σ[i]? = some (some v) := r
    cases hb : s.ρ[i]? with
    | none => rw [hb] at h; cases h
    | some o =>
      cases o with
      | none => rw [hb] at h; cases h
      | some b =>
        rw [hb] at h
        cases b with
        | d y =>
          cases h
          obtain ⟨v', hv, q⟩ := R.slot i _ hb
          rw [r'] at hv
          cases hv
          exact ⟨s.F, R, S, q, fun _ _ z => z, fun _ _ _ => rfl, fun _ z => z⟩
        | s _ => cases h
        | l xs =>
          cases h
          obtain ⟨F', h1, h2, h3, h4, h5, h6⟩ := R.freezeAt S hb r'
          exact ⟨F', h1, h2, h3, h4, fun a n _ => h5 a n, h6⟩
        | t _ => cases h
        | x => cases h
/-! ### a value is stored in slot i -/
def okAt (np : Nat) (ρ : Env) (i : Nat) : Bool := decide (i < ρ.length) && (decide (np ≤ i) || match ρ[i]? with
  | some (some b) => !b.lk
  | _ => true)
def put (np i : Nat) (b : B) (ρ : Env) : Option Env := if okAt np ρ i = true then some (ρ.set i (some b)) else none
def store (np i : Nat) (ρ : Env) : W → Option Env
  | .d x => put np i (.d x) ρ
  | .l xs => put np i (.l xs) ρ
  | .t kvs => put np i (.t kvs) ρ
  | .c j => match ρ[j]? with
    | some (some (.d x)) => put np i (.d x) ρ
    | some (some (.s xs)) => put np i (.s xs) ρ
    | some (some (.l xs)) => put np i (.d (.list xs)) (ρ.set j (some (.d (.list xs))))
    | _ => none
theorem put_ok {K : PySem.W.Frag} {np : Nat} {s0 s : Sx} {i : Nat} {b : B} {v : V} {ρ' : Env} (R : Rel K s) (S : Step np s0 s) (h : put np i b s.ρ = some ρ') (r : BRep K s.F s.H v b)
    (hc : b.isCell = true → ∀ p, v = .ref p → s.F p = none ∧ s0.H p = none ∧ ¬ Cell s p) : Rel K ⟨s.F, s.σ.set i (some v), s.H, ρ'⟩ ∧ Step np s0 ⟨s.F, s.σ.set i (some v), s.H, ρ'⟩ := by
  unfold put at h
  split at h
  · rename_i hok
    cases h
    unfold okAt at hok
    rw [Bool.and_eq_true] at hok
    obtain ⟨hi, hlk⟩ := hok
    have hi : i < s.ρ.length := of_decide_eq_true hi
    have hiσ : i < s.σ.length := by rw [R.len]; exact hi
    have cc : ∀ j a, CellAt ⟨s.F, s.σ.set i (some v), s.H, s.ρ.set i (some b)⟩ j a → (j = i ∧ v = .ref a ∧ b.isCell = true) ∨ (j ≠ i ∧ CellAt s j a) := fun j a ⟨h1, b', h2, h3⟩ => by
      rcases getElem?_set_cases h2 with ⟨hj, h4⟩ | ⟨hj, h4⟩
      · cases h4
        subst hj
        have h1' : (s.σ.set j (some v))[j]? = some (some (.ref a)) := h1
        rw [List.getElem?_set_self hiσ] at h1'
        cases h1'
        exact .inl ⟨rfl, rfl, h3⟩
      · have h1' : (s.σ.set i (some v))[j]? = some (some (.ref a)) := h1
        rw [List.getElem?_set_ne (Ne.symm hj)] at h1'
        exact .inr ⟨hj, h1', b', h4, h3⟩
    refine ⟨⟨R.sub, by simp [R.len], fun j b' hb' hx => ?_, fun j k a c1 c2 => ?_, fun j a c => ?_⟩, ⟨S.keep, S.fz, S.there, fun a ⟨j, c⟩ => ?_, fun j a hj l => ?_, fun j h => set_stay (S.stay j h), fun j h => ?_⟩⟩
    · rcases getElem?_set_cases hb' with ⟨hj, h4⟩ | ⟨hj, h4⟩
      · cases h4
        subst hj
        exact ⟨v, List.getElem?_set_self hiσ, r⟩
      · obtain ⟨v', hv', r'⟩ := R.slot j b' h4
        exact ⟨v', by show (s.σ.set i (some v))[j]? = _; rw [List.getElem?_set_ne (Ne.symm hj)]; exact hv', r'⟩
    · rcases cc j a c1 with ⟨h1, h2, h3⟩ | ⟨h1, h2⟩ <;> rcases cc k a c2 with ⟨g1, g2, g3⟩ | ⟨g1, g2⟩
      · rw [h1, g1]
      · exact absurd ⟨k, g2⟩ (hc h3 a h2).2.2
      · exact absurd ⟨j, h2⟩ (hc g3 a g2).2.2
      · exact R.sep j k a h2 g2
    · rcases cc j a c with ⟨h1, h2, h3⟩ | ⟨h1, h2⟩
      · exact (hc h3 a h2).1
      · exact R.own j a h2
    · rcases cc j a c with ⟨h1, h2, h3⟩ | ⟨h1, h2⟩
      · exact .inr (hc h3 a h2).2.1
      · exact S.cells a ⟨j, h2⟩
    · obtain ⟨h1, b', h2, h3⟩ := S.par j a hj l
      have hji : j ≠ i := fun z => by
        subst z
        rw [h2] at hlk
        have hlk' : (decide (np ≤ j) || !b'.lk) = true := hlk
        rw [h3, decide_eq_false (Nat.not_le_of_lt hj)] at hlk'
        exact absurd hlk' (by decide)
      exact ⟨by show (s.σ.set i (some v))[j]? = _; rw [List.getElem?_set_ne (Ne.symm hji)]; exact h1, b', by show (s.ρ.set i (some b))[j]? = _; rw [List.getElem?_set_ne (Ne.symm hji)]; exact h2, h3⟩
    · have hji : j ≠ i := fun z => by
        subst z
        exact h ⟨b, List.getElem?_set_self hi⟩
      show (s.σ.set i (some v))[j]? = _
      rw [List.getElem?_set_ne (Ne.symm hji)]
      exact S.same j fun z => h (set_stay z)
  · cases h
theorem store_ok {K : PySem.W.Frag} {np : Nat} {s0 s : Sx} {i : Nat} {w : W} {v : V} {ρ' : Env} (R : Rel K s) (S : Step np s0 s) (r : VRep K s0.H s v w) (h : store np i s.ρ w = some ρ') : ∃ F', Rel K ⟨F', s.σ.set i (some v), s.H, ρ'⟩ ∧ Step np s0 ⟨F', s.σ.set i (some v), s.H, ρ'⟩ := by
  cases w with
  | d x => exact ⟨s.F, put_ok R S h r fun z => by cases z⟩
  | l xs =>
    obtain ⟨p, vs, rfl, e, q, hF, ho, nc⟩ := r
    exact ⟨s.F, put_ok R S h ⟨p, vs, rfl, e, q⟩ fun _ p' z => by cases z; exact ⟨hF, ho, nc⟩⟩
  | t xs =>
    obtain ⟨p, vs, rfl, e, q, hF, ho, nc⟩ := r
    exact ⟨s.F, put_ok R S h ⟨p, vs, rfl, e, q⟩ fun _ p' z => by cases z; exact ⟨hF, ho, nc⟩⟩
  | c j =>
    have r' : s.σ[j]? = some (some v) := r
    simp only [store] at h
    cases hb : s.ρ[j]? with
    | none => rw [hb] at h; cases h
    | some o =>
      cases o with
      | none => rw [hb] at h; cases h
      | some b =>
        rw [hb] at h
        cases b with
        | d y =>
          obtain ⟨v', hv, q⟩ := R.slot j _ hb
          rw [r'] at hv
          cases hv
          exact ⟨s.F, put_ok R S h q fun z => by cases z⟩
        | s y =>
          obtain ⟨v', hv, q⟩ := R.slot j _ hb
          rw [r'] at hv
          cases hv
          exact ⟨s.F, put_ok R S h q fun z => by cases z⟩
        | l xs =>
          obtain ⟨F', R', S', q, _, _⟩ := R.freezeAt S hb r'
          exact ⟨F', put_ok R' S' h q fun z => by cases z⟩
        | t _ => cases h
        | x => cases h
end TD
namespace TD
open PySem PySem.Spec L2

/-! ### tests -/
def PostB (Γ : Cn) (Wx : WX) (s : Sx) (o : Out Bool) (Q : Bool → Hp → Prop) : Prop :=
  match o with
  | .ok b ρ' => ∀ F' H', Rel Γ.K ⟨F', s.σ, H', ρ'⟩ → Step Γ.np s ⟨F', s.σ, H', ρ'⟩ → Q b H'
  | .er c ρ' => ∀ F' H' C, Γ.mg c = some (.ref C) → Rel Γ.K ⟨F', s.σ, H', ρ'⟩ → Step Γ.np s ⟨F', s.σ, H', ρ'⟩ → Wx (.ref C) none s.σ H'
  | .st => False
theorem PostB.step {Γ : Cn} {Wx : WX} {s s1 : Sx} {o : Out Bool} {Q : Bool → Hp → Prop} (S : Step Γ.np s s1) (hσ : s1.σ = s.σ) (h : PostB Γ Wx s o Q) : PostB Γ Wx s1 o Q := by
  obtain ⟨F, σ, H, ρ⟩ := s
  obtain ⟨F1, σ1, H1, ρ1⟩ := s1
  cases hσ
  cases o with
  | ok w ρ' => exact fun F' H' R S' => h F' H' R (S.trans S')
  | er c ρ' => exact fun F' H' C hC R S' => h F' H' C hC R (S.trans S')
  | st => exact h.elim
def tT (Γ : Cn) (Wx : WX) (f : Mx Bool) : TT := fun σ H Q => ∃ F ρ, Rel Γ.K ⟨F, σ, H, ρ⟩ ∧ PostB Γ Wx ⟨F, σ, H, ρ⟩ (f ρ) Q
abbrev DT (X : Cx) (Γ : Cn) (Wx : WX) (e : Expr) (f : Mx Bool) : Prop := PT X e (tT Γ Wx f)
def asBool : W → Mx Bool := fun w ρ => match w with
  | .d (.bool b) => .ok b ρ
  | _ => .st
def tst (f : Mx W) : Mx Bool := bnd f asBool
def mNotT (f : Mx Bool) : Mx Bool := bnd f fun b ρ => .ok (!b) ρ
def mAndT (f g : Mx Bool) : Mx Bool := bnd f fun b => if b then g else fun ρ => .ok false ρ
def mOrT (f g : Mx Bool) : Mx Bool := bnd f fun b => if b then fun ρ => .ok true ρ else g
section
variable {X : Cx} {Γ : Cn} {Wx : WX} {a b c : Expr} {f g f1 f2 : Mx W} {t u : Mx Bool} {pos : Pos}
theorem postb_of {s : Sx} {Q : Bool → Hp → Prop} (h : PostB Γ Wx s (tst f s.ρ) Q) : Post Γ Wx s (f s.ρ) fun x H' => ∃ k, x = .bl k ∧ Q k H' := by
  unfold tst bnd at h
  cases e : f s.ρ with
  | ok w ρ1 =>
    rw [e] at h
    intro v F1 H1 R1 S1 r
    cases w with
    | d x =>
      cases x with
      | bool k => exact ⟨k, Rp.blV r, h F1 H1 R1 S1⟩
      | _ => exact h.elim
    | _ => exact h.elim
  | er c ρ1 => rw [e] at h; exact h
  | st => rw [e] at h; exact h
theorem postb_bnd {s : Sx} {Q : Bool → Hp → Prop} {k : Bool → Mx Bool} {K : Bool → Hp → Prop} (h : PostB Γ Wx s (bnd t k s.ρ) Q)
    (hk : ∀ b F1 H1 ρ1, Rel Γ.K ⟨F1, s.σ, H1, ρ1⟩ → Step Γ.np s ⟨F1, s.σ, H1, ρ1⟩ → PostB Γ Wx ⟨F1, s.σ, H1, ρ1⟩ (k b ρ1) Q → K b H1) : PostB Γ Wx s (t s.ρ) K := by
  unfold bnd at h
  cases e : t s.ρ with
  | ok w ρ1 =>
    rw [e] at h
    exact fun F1 H1 R1 S1 => hk w F1 H1 ρ1 R1 S1 (PostB.step (s1 := ⟨F1, s.σ, H1, ρ1⟩) S1 rfl h)
  | er c ρ1 => rw [e] at h; exact h
  | st => rw [e] at h; exact h
/-- any expression that gives a bool -/
theorem dt_val (h : DE X Γ Wx a f) (he : ∀ whole, isTrue a X.env whole = (do let v ← whole; standAt a.pos; holding [v] (truthy v)) := by intro _; rfl) : DT X Γ Wx a (tst f) :=
  PT.imp (pt_val h he) fun σ H Q ⟨F, ρ, R, h⟩ => ⟨F, ρ, R, postb_of (s := ⟨F, σ, H, ρ⟩) h⟩
theorem dt_cmp {op : CmpOp} {r : R2} {g : W → W → Env → Out W} (ho : OpR X (compareOp op) r) (hg : Ok2 Γ Wx r g) (ha : DE X Γ Wx a f1) (hb : DE X Γ Wx b f2) (hm : behindInMarks op b = false) : DT X Γ Wx (.Compare a [op] [b] pos) (tst (m2 g f1 f2)) :=
  PT.imp (pt_cmpR ho ha hb hm) fun σ H Q ⟨F, ρ, R, h⟩ => tOp_of hg σ H _ ⟨F, ρ, R, postb_of (s := ⟨F, σ, H, ρ⟩) h⟩
theorem de_cmp {op : CmpOp} {r : R2} {g : W → W → Env → Out W} (ho : OpR X (compareOp op) r) (hg : Ok2 Γ Wx r g) (ha : DE X Γ Wx a f1) (hb : DE X Γ Wx b f2) (hm : behindInMarks op b = false) : DE X Γ Wx (.Compare a [op] [b] pos) (m2 g f1 f2) :=
  PE.imp (pe_cmpR ho ha hb hm) (tOp_of hg)
theorem de_op {op : Operator} {r : R2} {g : W → W → Env → Out W} (ho : OpR X (binaryOp op) r) (hg : Ok2 Γ Wx r g) (ha : DE X Γ Wx a f1) (hb : DE X Γ Wx b f2) : DE X Γ Wx (.BinOp a op b pos) (m2 g f1 f2) :=
  PE.imp (pe_op ho ha hb) (tOp_of hg)
theorem de_un {op : UnaryOp} {r : V → Hp → VK → Prop} {g : W → Env → Out W} (ho : UnR X (unaryOp op) r) (hg : Ok1 Γ Wx r g) (ha : DE X Γ Wx a f1) : DE X Γ Wx (.UnaryOp op a pos) (m1 g f1) :=
  PE.imp (pe_un ho ha) (tUn_of hg)
theorem de_ix {r : R2} {g : W → W → Env → Out W} (ho : IxR X r) (hg : Ok2 Γ Wx r g) (ha : DE X Γ Wx a f1) (hb : DE X Γ Wx b f2) (hs : PlainIx b) : DE X Γ Wx (.Subscript a b pos) (m2 g f1 f2) :=
  PE.imp (pe_ix ho ha hb hs) (tOp_of hg)
theorem dt_not (h : DT X Γ Wx a t) : DT X Γ Wx (.UnaryOp .Not a pos) (mNotT t) :=
  PT.imp (pt_not h) fun σ H Q ⟨F, ρ, R, h⟩ => ⟨F, ρ, R, postb_bnd (s := ⟨F, σ, H, ρ⟩) h fun b F1 H1 ρ1 R1 S1 h1 => h1 F1 H1 R1 (Step.refl _)⟩
abbrev DW (X : Cx) (Γ : Cn) (Wx : WX) (e : Expr) (f : Mx Bool) : Prop := PW X e (tT Γ Wx f)
theorem PW.imp {e : Expr} {t t' : TT} (h : PW X e t) (i : ∀ σ H Q, t' σ H Q → t σ H Q) : PW X e t' := ⟨fun wh pins s σ H Q I q => h.run wh pins s σ H Q I (i σ H Q q)⟩
theorem dw_and1 (h : DT X Γ Wx a t) : DW X Γ Wx (.BoolOp .And [a] pos) t := pw_and1 h
theorem dw_or1 (h : DT X Γ Wx a t) : DW X Γ Wx (.BoolOp .Or [a] pos) t := pw_or1 h
theorem dw_and {rest : List Expr} (h : DT X Γ Wx a t) (h2 : DW X Γ Wx (.BoolOp .And (b :: rest) pos) u) : DW X Γ Wx (.BoolOp .And (a :: b :: rest) pos) (mAndT t u) :=
  PW.imp (pw_and h h2) fun σ H Q ⟨F, ρ, R, h⟩ => ⟨F, ρ, R, postb_bnd (s := ⟨F, σ, H, ρ⟩) h fun b F1 H1 ρ1 R1 S1 h1 => by
    cases b with
    | true => exact ⟨F1, ρ1, R1, h1⟩
    | false => exact h1 F1 H1 R1 (Step.refl _)⟩
theorem dw_or {rest : List Expr} (h : DT X Γ Wx a t) (h2 : DW X Γ Wx (.BoolOp .Or (b :: rest) pos) u) : DW X Γ Wx (.BoolOp .Or (a :: b :: rest) pos) (mOrT t u) :=
  PW.imp (pw_or h h2) fun σ H Q ⟨F, ρ, R, h⟩ => ⟨F, ρ, R, postb_bnd (s := ⟨F, σ, H, ρ⟩) h fun b F1 H1 ρ1 R1 S1 h1 => by
    cases b with
    | false => exact ⟨F1, ρ1, R1, h1⟩
    | true => exact h1 F1 H1 R1 (Step.refl _)⟩
theorem DW.dt {e : Expr} (h : DW X Γ Wx e t) : DT X Γ Wx e t := h.pt
/-! .. as values -/
def mNotV (f : Mx W) : Mx W := bnd f fun w ρ => match w with
  | .d (.bool b) => .ok (.d (.bool (!b))) ρ
  | _ => .st
def mAndV (f g : Mx W) : Mx W := bnd f fun w ρ => match w with
  | .d (.bool true) => g ρ
  | .d (.bool false) => .ok (.d (.bool false)) ρ
  | _ => .st
def mOrV (f g : Mx W) : Mx W := bnd f fun w ρ => match w with
  | .d (.bool true) => .ok (.d (.bool true)) ρ
  | .d (.bool false) => g ρ
  | _ => .st
theorem de_not (h : DE X Γ Wx a f) : DE X Γ Wx (.UnaryOp .Not a pos) (mNotV f) :=
  PE.imp (pe_not h) fun σ H Q ⟨F, ρ, R, h⟩ => ⟨F, ρ, R, post_bnd (s := ⟨F, σ, H, ρ⟩) h fun v w F1 H1 ρ1 R1 S1 r h1 => by
    cases w with
    | d x =>
      cases x with
      | bool k => exact ⟨k, Rp.blV r, Post.val (s := ⟨F1, σ, H1, ρ1⟩) R1 h1 (.bl _)⟩
      | _ => exact h1.elim
    | _ => exact h1.elim⟩
theorem de_one {op} (h : DE X Γ Wx a f) : DE X Γ Wx (.BoolOp op [a] pos) f := pe_one h
theorem de_and {rest : List Expr} (h : DE X Γ Wx a f) (h2 : DE X Γ Wx (.BoolOp .And (b :: rest) pos) g) : DE X Γ Wx (.BoolOp .And (a :: b :: rest) pos) (mAndV f g) :=
  PE.imp (pe_and h h2) fun σ H Q ⟨F, ρ, R, h⟩ => ⟨F, ρ, R, post_bnd (s := ⟨F, σ, H, ρ⟩) h fun v w F1 H1 ρ1 R1 S1 r h1 => by
    cases w with
    | d x =>
      cases x with
      | bool k =>
        refine ⟨k, Rp.blV r, ?_⟩
        cases k with
        | true => exact ⟨F1, ρ1, R1, h1⟩
        | false => exact Post.val (s := ⟨F1, σ, H1, ρ1⟩) R1 h1 (.bl _)
      | _ => exact h1.elim
    | _ => exact h1.elim⟩
theorem de_or {rest : List Expr} (h : DE X Γ Wx a f) (h2 : DE X Γ Wx (.BoolOp .Or (b :: rest) pos) g) : DE X Γ Wx (.BoolOp .Or (a :: b :: rest) pos) (mOrV f g) :=
  PE.imp (pe_or h h2) fun σ H Q ⟨F, ρ, R, h⟩ => ⟨F, ρ, R, post_bnd (s := ⟨F, σ, H, ρ⟩) h fun v w F1 H1 ρ1 R1 S1 r h1 => by
    cases w with
    | d x =>
      cases x with
      | bool k =>
        refine ⟨k, Rp.blV r, ?_⟩
        cases k with
        | false => exact ⟨F1, ρ1, R1, h1⟩
        | true => exact Post.val (s := ⟨F1, σ, H1, ρ1⟩) R1 h1 (.bl _)
      | _ => exact h1.elim
    | _ => exact h1.elim⟩
end
/-! ### statements -/
inductive Fl where
  | nx | rt (w : W) | bk | ct
def PostS (Γ : Cn) (Wx : WX) (s : Sx) (o : Out Fl) (Dn : Ends) : Prop :=
  match o with
  | .ok .nx ρ' => ∀ F' σ' H', Rel Γ.K ⟨F', σ', H', ρ'⟩ → Step Γ.np s ⟨F', σ', H', ρ'⟩ → Dn.nx σ' H'
  | .ok .bk ρ' => ∀ F' σ' H', Rel Γ.K ⟨F', σ', H', ρ'⟩ → Step Γ.np s ⟨F', σ', H', ρ'⟩ → Dn.bk σ' H'
  | .ok .ct ρ' => ∀ F' σ' H', Rel Γ.K ⟨F', σ', H', ρ'⟩ → Step Γ.np s ⟨F', σ', H', ρ'⟩ → Dn.ct σ' H'
  | .ok (.rt w) ρ' => ∀ v F' σ' H', Rel Γ.K ⟨F', σ', H', ρ'⟩ → Step Γ.np s ⟨F', σ', H', ρ'⟩ → VRep Γ.K s.H ⟨F', σ', H', ρ'⟩ v w → Dn.rt v H'
  | .er c ρ' => ∀ F' σ' H' C, Γ.mg c = some (.ref C) → Rel Γ.K ⟨F', σ', H', ρ'⟩ → Step Γ.np s ⟨F', σ', H', ρ'⟩ → Wx (.ref C) none σ' H'
  | .st => False
theorem PostS.step {Γ : Cn} {Wx : WX} {s s1 : Sx} {o : Out Fl} {Dn : Ends} (S : Step Γ.np s s1) (h : PostS Γ Wx s o Dn) : PostS Γ Wx s1 o Dn := by
  cases o with
  | ok w ρ' =>
    cases w with
    | nx => exact fun F' σ' H' R S' => h F' σ' H' R (S.trans S')
    | bk => exact fun F' σ' H' R S' => h F' σ' H' R (S.trans S')
    | ct => exact fun F' σ' H' R S' => h F' σ' H' R (S.trans S')
    | rt w => exact fun v F' σ' H' R S' r => h v F' σ' H' R (S.trans S') (r.old fun p hp => S.none hp)
  | er c ρ' => exact fun F' σ' H' C hC R S' => h F' σ' H' C hC R (S.trans S')
  | st => exact h.elim
def tS (Γ : Cn) (Wx : WX) (f : Mx Fl) : TS := fun Dn σ H => ∃ F ρ, Rel Γ.K ⟨F, σ, H, ρ⟩ ∧ PostS Γ Wx ⟨F, σ, H, ρ⟩ (f ρ) Dn
abbrev DS (X : Cx) (Γ : Cn) (Wx : WX) (st : Stmt) (f : Mx Fl) : Prop := PS X st (tS Γ Wx f)
abbrev DSs (X : Cx) (Γ : Cn) (Wx : WX) (st : List Stmt) (f : Mx Fl) : Prop := PSs X st (tS Γ Wx f)
def sNext : Mx Fl := fun ρ => .ok .nx ρ
def sSeq (f g : Mx Fl) : Mx Fl := fun ρ => match f ρ with
  | .ok .nx ρ' => g ρ'
  | o => o
def sRet (f : Mx W) : Mx Fl := bnd f fun w ρ => .ok (.rt w) ρ
def sExpr (f : Mx W) : Mx Fl := bnd f fun _ ρ => .ok .nx ρ
def sSet (np i : Nat) (f : Mx W) : Mx Fl := bnd f fun w ρ => match store np i ρ w with
  | some ρ' => .ok .nx ρ'
  | none => .st
def sIf (t : Mx Bool) (f g : Mx Fl) : Mx Fl := bnd t fun b => if b then f else g
section
variable {X : Cx} {Γ : Cn} {Wx : WX} {a b c e : Expr} {f g f1 f2 : Mx W} {t u : Mx Bool} {p q : Mx Fl} {pos : Pos} {st : Stmt} {rest : List Stmt}
/-- from an expression to what follows it -/
theorem posts_bnd {s : Sx} {Dn : Ends} {k : W → Mx Fl} {K : V → Hp → Prop} (h : PostS Γ Wx s (bnd f k s.ρ) Dn)
    (hk : ∀ v w F1 H1 ρ1, Rel Γ.K ⟨F1, s.σ, H1, ρ1⟩ → Step Γ.np s ⟨F1, s.σ, H1, ρ1⟩ → VRep Γ.K s.H ⟨F1, s.σ, H1, ρ1⟩ v w → PostS Γ Wx s (k w ρ1) Dn → K v H1) : Post Γ Wx s (f s.ρ) K := by
  unfold bnd at h
  cases e : f s.ρ with
  | ok w ρ1 =>
    rw [e] at h
    exact fun v F1 H1 R1 S1 r => hk v w F1 H1 ρ1 R1 S1 r h
  | er c ρ1 => rw [e] at h; exact fun F' H' C hC R S => h F' s.σ H' C hC R S
  | st => rw [e] at h; exact h
theorem dss_nil : DSs X Γ Wx [] sNext := PSs.imp pss_nil fun Dn σ H ⟨F, ρ, R, h⟩ => h F σ H R (Step.refl _)
theorem dss_cons (h : DS X Γ Wx st p) (h2 : DSs X Γ Wx rest q) : DSs X Γ Wx (st :: rest) (sSeq p q) :=
  PSs.imp (pss_cons h h2) fun Dn σ H ⟨F, ρ, R, h⟩ => ⟨F, ρ, R, by
    unfold sSeq at h
    cases e : p ρ with
    | ok w ρ' =>
      rw [e] at h
      cases w with
      | nx => exact fun F' σ' H' R' S' => ⟨F', ρ', R', h.step S'⟩
      | bk => exact h
      | ct => exact h
      | rt w => exact h
    | er c ρ' => rw [e] at h; exact h
    | st => rw [e] at h; exact h⟩
theorem dss_one (h : DS X Γ Wx st p) : DSs X Γ Wx [st] p := pss_one h
theorem ds_ret (h : DE X Γ Wx e f) : DS X Γ Wx (.Return (some e) pos) (sRet f) :=
  PS.imp (ps_ret h) fun Dn σ H ⟨F, ρ, R, h⟩ => ⟨F, ρ, R, posts_bnd (s := ⟨F, σ, H, ρ⟩) h fun v w F1 H1 ρ1 R1 S1 r h1 => h1 v F1 σ H1 R1 S1 r⟩
theorem ds_expr (h : DE X Γ Wx e f) (hs : swapsWith e none pos.line X.env = pure false := by rfl) : DS X Γ Wx (.Expr e pos) (sExpr f) :=
  PS.imp (ps_expr h hs) fun Dn σ H ⟨F, ρ, R, h⟩ => ⟨F, ρ, R, posts_bnd (s := ⟨F, σ, H, ρ⟩) h fun v w F1 H1 ρ1 R1 S1 r h1 => h1 F1 σ H1 R1 S1⟩
theorem set_end {s : Sx} {Dn : Ends} {i : Nat} (h : PostS Γ Wx s (sSet Γ.np i f s.ρ) Dn) : Post Γ Wx s (f s.ρ) fun v H1 => Dn.nx (s.σ.set i (some v)) H1 :=
  posts_bnd h fun v w F1 H1 ρ1 R1 S1 r h1 => by
    cases hs : store Γ.np i ρ1 w with
    | none => simp only [hs] at h1; exact h1.elim
    | some ρ' =>
      simp only [hs] at h1
      obtain ⟨F', R', S'⟩ := store_ok (s := ⟨F1, s.σ, H1, ρ1⟩) R1 S1 r hs
      exact h1 F' _ H1 R' S'
theorem ds_set (i : Nat) {x : Str} {pos' : Pos} (hN : X.N.Nodup) (h : DE X Γ Wx e f) (hi : X.N[i]? = some x := by rfl) (hx : Loc X.env.scope x := by first | exact Or.inl rfl | exact Or.inr rfl)
    (hs : swapsWith e (some (.Name x pos')) pos.line X.env = pure false := by rfl) (hf : X.fn x = true ∨ X.env.scope.names.lookup x = some .local := by first | exact .inl rfl | exact .inr rfl | assumption) :
    DS X Γ Wx (.Assign [.Name x pos'] e pos) (sSet Γ.np i f) :=
  PS.imp (ps_set hN hi hx h hs hf) fun Dn σ H ⟨F, ρ, R, h⟩ => ⟨F, ρ, R, set_end (s := ⟨F, σ, H, ρ⟩) h⟩
theorem ds_if {ss ts : List Stmt} (hc : DT X Γ Wx c t) (h1 : DSs X Γ Wx ss p) (h2 : DSs X Γ Wx ts q) : DS X Γ Wx (.If c ss ts pos) (sIf t p q) :=
  PS.imp (ps_if hc h1 h2) fun Dn σ H ⟨F, ρ, R, h⟩ => ⟨F, ρ, R, by
    unfold sIf bnd at h
    cases e : t ρ with
    | ok b ρ1 =>
      rw [e] at h
      intro F1 H1 R1 S1
      cases b with
      | true => exact ⟨F1, ρ1, R1, PostS.step S1 h⟩
      | false => exact ⟨F1, ρ1, R1, PostS.step S1 h⟩
    | er c ρ1 => rw [e] at h; exact fun F' H' C hC R' S' => h F' σ H' C hC R' S'
    | st => rw [e] at h; exact h⟩
end
end TD
namespace TD
open PySem PySem.Spec L2

/-! ### several values, held -/
def VReps (K : PySem.W.Frag) (H0 : Hp) (s : Sx) : List V → List W → Prop
  | [], [] => True
  | v :: vs, w :: ws => VRep K H0 s v w ∧ VReps K H0 s vs ws ∧ (w.isTmp = true → ∀ (j : Nat) (w' : W), ws[j]? = some w' → w'.isTmp = true → vs[j]? ≠ some v)
  | _, _ => False
theorem VReps.length {K : PySem.W.Frag} {H0 : Hp} {s : Sx} : ∀ {vs : List V} {ws : List W}, VReps K H0 s vs ws → vs.length = ws.length
  | [], [], _ => rfl
  | _ :: _, _ :: _, h => congrArg (· + 1) h.2.1.length
  | [], _ :: _, h => h.elim
  | _ :: _, [], h => h.elim
theorem VReps.get {K : PySem.W.Frag} {H0 : Hp} {s : Sx} : ∀ {vs : List V} {ws : List W} {j : Nat} {v : V} {w : W}, VReps K H0 s vs ws → vs[j]? = some v → ws[j]? = some w → VRep K H0 s v w
  | v :: vs, w :: ws, 0, _, _, h, h1, h2 => by
    cases h1
    cases h2
    exact h.1
  | v :: vs, w :: ws, j + 1, _, _, h, h1, h2 => VReps.get (j := j) h.2.1 h1 h2
  | [], [], _, _, _, _, h1, _ => by simp at h1
  | [], _ :: _, _, _, _, h, _, _ => h.elim
  | _ :: _, [], _, _, _, h, _, _ => h.elim
theorem VReps.imp {K : PySem.W.Frag} {H0 H1 : Hp} {s s' : Sx} (f : ∀ v w, VRep K H0 s v w → VRep K H1 s' v w) : ∀ {vs : List V} {ws : List W}, VReps K H0 s vs ws → VReps K H1 s' vs ws
  | [], [], _ => trivial
  | _ :: _, _ :: _, h => ⟨f _ _ h.1, VReps.imp f h.2.1, h.2.2⟩
  | [], _ :: _, h => h.elim
  | _ :: _, [], h => h.elim
def PostA (Γ : Cn) (Wx : WX) (s : Sx) (o : Out (List W)) (Q : List V → Hp → Prop) : Prop :=
  match o with
  | .ok ws ρ' => ∀ vs F' H', Rel Γ.K ⟨F', s.σ, H', ρ'⟩ → Step Γ.np s ⟨F', s.σ, H', ρ'⟩ → VReps Γ.K s.H ⟨F', s.σ, H', ρ'⟩ vs ws → Q vs H'
  | .er c ρ' => ∀ F' H' C, Γ.mg c = some (.ref C) → Rel Γ.K ⟨F', s.σ, H', ρ'⟩ → Step Γ.np s ⟨F', s.σ, H', ρ'⟩ → Wx (.ref C) none s.σ H'
  | .st => False
def tA (Γ : Cn) (Wx : WX) (f : Mx (List W)) : TA := fun σ H Q => ∃ F ρ, Rel Γ.K ⟨F, σ, H, ρ⟩ ∧ PostA Γ Wx ⟨F, σ, H, ρ⟩ (f ρ) Q
abbrev DA (X : Cx) (Γ : Cn) (Wx : WX) (es : List Expr) (f : Mx (List W)) : Prop := PA X es (tA Γ Wx f)
def aNil : Mx (List W) := fun ρ => .ok [] ρ
def aCons (f : Mx W) (g : Mx (List W)) : Mx (List W) := bnd f fun w => bnd g fun ws ρ => .ok (w :: ws) ρ
/-- an operation on the values of arguments -/
def mArgs (g : List W → Env → Out W) (f : Mx (List W)) : Mx W := bnd f fun ws => g ws
def OkC (Γ : Cn) (Wx : WX) (r : List V → Hp → VK → Prop) (g : List W → Env → Out W) : Prop :=
  ∀ (s : Sx) (vs : List V) (ws : List W) (s0 : Sx) (Q : VK), Rel Γ.K s → s0.σ = s.σ → Step Γ.np s0 s → VReps Γ.K s0.H s vs ws → Post Γ Wx s0 (g ws s.ρ) Q → r vs s.H Q
section
variable {X : Cx} {Γ : Cn} {Wx : WX} {a b c e : Expr} {es : List Expr} {f g f1 f2 : Mx W} {fs : Mx (List W)} {pos : Pos}
theorem da_nil : DA X Γ Wx [] aNil := PA.imp pa_nil fun σ H Q ⟨F, ρ, R, h⟩ => h [] F H R (Step.refl _) trivial
theorem da_cons (h : DE X Γ Wx e f) (h2 : DA X Γ Wx es fs) (hs : starEach (e :: es) X.env = (false, eval e X.env) :: starEach es X.env := by rfl) : DA X Γ Wx (e :: es) (aCons f fs) :=
  PA.imp (pa_cons h h2 hs) fun σ H Q ⟨F, ρ, R, h⟩ => ⟨F, ρ, R, by
    unfold aCons bnd at h
    cases e1 : f ρ with
    | ok w ρ1 =>
      rw [e1] at h
      intro v F1 H1 R1 S1 r1
      refine ⟨F1, ρ1, R1, ?_⟩
      cases e2 : fs ρ1 with
      | ok ws ρ2 =>
        simp only [e2] at h
        intro vs F2 H2 R2 S2 r2
        refine h (v :: vs) F2 H2 R2 (S1.trans S2) ⟨VRep.held (s := ⟨F1, σ, H1, ρ1⟩) R1 S2 rfl r1, r2.imp fun v' w' q => q.old fun p hp => S1.none hp, fun ht j w' hw ht' hv => ?_⟩
        have q := r2.get hv hw
        have key : ∀ p, v = .ref p → H1 p = none → False := fun p hp hn => by
          cases w with
          | d x => cases ht
          | c i => cases ht
          | l xs =>
            obtain ⟨p', _, e', h', _⟩ := r1
            rw [hp] at e'
            cases e'
            have : H1 p = some _ := h'
            rw [hn] at this; cases this
          | t xs =>
            obtain ⟨p', _, e', h', _⟩ := r1
            rw [hp] at e'
            cases e'
            have : H1 p = some _ := h'
            rw [hn] at this; cases this
        cases w' with
        | d x => cases ht'
        | c i => cases ht'
        | l xs =>
          obtain ⟨p, _, e', _, _, _, hn, _⟩ := q
          exact key p e' hn
        | t xs =>
          obtain ⟨p, _, e', _, _, _, hn, _⟩ := q
          exact key p e' hn
      | er c ρ2 =>
        simp only [e2] at h
        exact fun F' H' C hC R' S' => h F' H' C hC R' (S1.trans S')
      | st => simp only [e2] at h; exact h.elim
    | er c ρ1 => rw [e1] at h; exact h
    | st => rw [e1] at h; exact h⟩
theorem args_end {s : Sx} {Q : VK} {k : List W → Mx W} {K : List V → Hp → Prop} (h : Post Γ Wx s (bnd fs k s.ρ) Q)
    (hk : ∀ vs ws F1 H1 ρ1, Rel Γ.K ⟨F1, s.σ, H1, ρ1⟩ → Step Γ.np s ⟨F1, s.σ, H1, ρ1⟩ → VReps Γ.K s.H ⟨F1, s.σ, H1, ρ1⟩ vs ws → Post Γ Wx s (k ws ρ1) Q → K vs H1) : PostA Γ Wx s (fs s.ρ) K := by
  unfold bnd at h
  cases e : fs s.ρ with
  | ok w ρ1 =>
    rw [e] at h
    exact fun v F1 H1 R1 S1 r => hk v w F1 H1 ρ1 R1 S1 r h
  | er c ρ1 => rw [e] at h; exact h
  | st => rw [e] at h; exact h
theorem tCB_of {r : List V → Hp → VK → Prop} {g : List W → Env → Out W} (hg : OkC Γ Wx r g) : ∀ σ H Q, tE Γ Wx (mArgs g fs) σ H Q → tCB r (tA Γ Wx fs) σ H Q := fun σ H Q ⟨F, ρ, R, h⟩ =>
  ⟨F, ρ, R, args_end (s := ⟨F, σ, H, ρ⟩) h fun vs ws F1 H1 ρ1 R1 S1 r1 h1 => hg ⟨F1, σ, H1, ρ1⟩ vs ws ⟨F, σ, H, ρ⟩ Q R1 rfl S1 r1 h1⟩
/-- f(e, ..), f a built-in function | a built-in type -/
theorem de_callB {x : Str} {p : Pos} {id : String} {r : List V → Hp → VK → Prop} {g : List W → Env → Out W} (hc : CallR X (.builtin id) r) (hok : OkC Γ Wx r g) (hm : X.mg x = none) (hv : bootBuiltins x = some (.builtin id)) (ha : DA X Γ Wx (e :: es) fs) (hg : Gl X x := by rfl) (hn : x ≠ "__name__" := by decide) (hdb : (x == ("__debug__" : Str)) = false := by decide)
    (he : starEach (e :: es) X.env = (false, eval e X.env) :: starEach es X.env := by rfl) (hpl : (backTo pos (starEach es X.env)).any (·.1) = false := by rfl) : DE X Γ Wx (.Call (.Name x p) (e :: es) [] pos) (mArgs g fs) :=
  PE.imp (pe_callB hc hg hm hv ha hn hdb he hpl) (tCB_of hok)
theorem de_callTy {x : Str} {p : Pos} {T : String} {r : List V → Hp → VK → Prop} {g : List W → Env → Out W} (hc : CallR X (.type T) r) (hok : OkC Γ Wx r g) (hm : X.mg x = none) (hv : bootBuiltins x = some (.type T)) (ha : DA X Γ Wx (e :: es) fs) (hg : Gl X x := by rfl) (hn : x ≠ "__name__" := by decide) (hdb : (x == ("__debug__" : Str)) = false := by decide)
    (he : starEach (e :: es) X.env = (false, eval e X.env) :: starEach es X.env := by rfl) (hpl : (backTo pos (starEach es X.env)).any (·.1) = false := by rfl) : DE X Γ Wx (.Call (.Name x p) (e :: es) [] pos) (mArgs g fs) :=
  PE.imp (pe_callTy hc hg hm hv ha hn hdb he hpl) (tCB_of hok)
end
/-! ### displays -/
def datums : List W → Env → Option (List D × Env)
  | [], ρ => some ([], ρ)
  | w :: ws, ρ => match w.datum ρ with
    | none => none
    | some (x, ρ1) => match datums ws ρ1 with
      | none => none
      | some (xs, ρ2) => some (x :: xs, ρ2)
theorem datums_ok {K : PySem.W.Frag} {np : Nat} {s0 : Sx} : ∀ {vs : List V} {ws : List W} {s : Sx} {xs : List D} {ρ' : Env}, Rel K s → Step np s0 s → VReps K s0.H s vs ws → datums ws s.ρ = some (xs, ρ') →
    ∃ F', Rel K ⟨F', s.σ, s.H, ρ'⟩ ∧ Step np s0 ⟨F', s.σ, s.H, ρ'⟩ ∧ RpA F' vs xs ∧ (∀ a u, s.F a = some u → F' a = some u)
  | [], [], s, xs, ρ', R, S, r, h => by
    cases h
    exact ⟨s.F, R, S, .nil, fun _ _ z => z⟩
  | [], _ :: _, _, _, _, _, _, r, _ => r.elim
  | _ :: _, [], _, _, _, _, _, r, _ => r.elim
  | v :: vs, w :: ws, s, xs, ρ', R, S, r, h => by
    unfold datums at h
    cases e1 : w.datum s.ρ with
    | none => rw [e1] at h; cases h
    | some q1 =>
      obtain ⟨x, ρ1⟩ := q1
      rw [e1] at h
      cases e2 : datums ws ρ1 with
      | none => simp only [e2] at h; cases h
      | some q2 =>
        obtain ⟨ys, ρ2⟩ := q2
        simp only [e2] at h
        cases h
        obtain ⟨F1, R1, S1, p1, m1, n1, c1⟩ := datum_ok R S r.1 e1
        have keep : ∀ (vs' : List V) (ws' : List W), VReps K s0.H s vs' ws' → (w.isTmp = true → ∀ (j : Nat) (w' : W), ws'[j]? = some w' → w'.isTmp = true → vs'[j]? ≠ some v) → VReps K s0.H ⟨F1, s.σ, s.H, ρ1⟩ vs' ws' := by
          intro vs'
          induction vs' with
          | nil => intro ws' q _; cases ws' with
            | nil => trivial
            | cons _ _ => exact q.elim
          | cons v' vr ih => intro ws' q hd; cases ws' with
            | nil => exact q.elim
            | cons w' wr =>
              refine ⟨?_, ih wr q.2.1 fun ht j w2 h1 h2 h3 => hd ht (j + 1) w2 h1 h2 h3, q.2.2⟩
              cases w' with
              | d y => exact Rp.mono m1 q.1
              | c i => exact q.1
              | l ys =>
                obtain ⟨p, us, rfl, h1, h2, h3, h4, h5⟩ := q.1
                exact ⟨p, us, rfl, h1, h2.mono m1, (n1 p h5 fun ht z => hd ht 0 _ rfl rfl (by rw [z]; rfl)).trans h3, h4, fun c => h5 (c1 p c)⟩
              | t ys =>
                obtain ⟨p, us, rfl, h1, h2, h3, h4, h5⟩ := q.1
                exact ⟨p, us, rfl, h1, L2.Paired.mapP h2 fun _ _ z => ⟨z.1, z.2.mono m1⟩, (n1 p h5 fun ht z => hd ht 0 _ rfl rfl (by rw [z]; rfl)).trans h3, h4, fun c => h5 (c1 p c)⟩
        obtain ⟨F2, R2, S2, p2, m2⟩ := datums_ok (s := ⟨F1, s.σ, s.H, ρ1⟩) R1 S1 (keep vs ws r.2.1 r.2.2) e2
        exact ⟨F2, R2, S2, .cons (p1.mono m2) p2, fun a u z => m2 a u (m1 a u z)⟩
def gTup (ws : List W) : Env → Out W := fun ρ => match datums ws ρ with
  | some (xs, ρ') => if xs.length ≤ 100000 then .ok (.d (.tuple xs)) ρ' else .st
  | none => .st
def gLst (ws : List W) : Env → Out W := fun ρ => match datums ws ρ with
  | some (xs, ρ') => if xs.length ≤ 100000 then .ok (.l xs) ρ' else .st
  | none => .st
theorem sz5 {n : Nat} (h : n ≤ 100000) : n ≤ sizeLine := Nat.le_trans h (by decide)
section
variable {X : Cx} {Γ : Cn} {Wx : WX} {a b c e : Expr} {es : List Expr} {f g f1 f2 : Mx W} {fs : Mx (List W)} {pos : Pos}
theorem de_tup {k : Nat} (h : DA X Γ Wx es fs) : DE X Γ Wx (.Tuple es k pos) (mArgs gTup fs) :=
  PE.imp (pe_tup h) fun σ H Q ⟨F, ρ, R, h⟩ => ⟨F, ρ, R, args_end (s := ⟨F, σ, H, ρ⟩) h fun vs ws F1 H1 ρ1 R1 S1 r1 h1 => by
    unfold gTup at h1
    cases e1 : datums ws ρ1 with
    | none => rw [e1] at h1; exact h1.elim
    | some q =>
      obtain ⟨xs, ρ2⟩ := q
      simp only [e1] at h1
      split at h1
      · rename_i hl
        obtain ⟨F2, R2, S2, p2, _⟩ := datums_ok (s := ⟨F1, σ, H1, ρ1⟩) R1 S1 r1 e1
        refine ⟨by rw [p2.length]; exact sz5 hl, fun p hp => ?_⟩
        exact Post.tup (s := ⟨F2, σ, H1, ρ2⟩) R2 (Post.step (s1 := ⟨F2, σ, H1, ρ2⟩) S2 rfl h1) p2 hp
      · exact h1.elim⟩
theorem de_lst (h : DA X Γ Wx es fs) : DE X Γ Wx (.List es pos) (mArgs gLst fs) :=
  PE.imp (pe_lst h) fun σ H Q ⟨F, ρ, R, h⟩ => ⟨F, ρ, R, args_end (s := ⟨F, σ, H, ρ⟩) h fun vs ws F1 H1 ρ1 R1 S1 r1 h1 => by
    unfold gLst at h1
    cases e1 : datums ws ρ1 with
    | none => rw [e1] at h1; exact h1.elim
    | some q =>
      obtain ⟨xs, ρ2⟩ := q
      simp only [e1] at h1
      split at h1
      · rename_i hl
        obtain ⟨F2, R2, S2, p2, _⟩ := datums_ok (s := ⟨F1, σ, H1, ρ1⟩) R1 S1 r1 e1
        refine ⟨by rw [p2.length]; exact sz5 hl, fun p hp => ?_⟩
        exact Post.lst (s := ⟨F2, σ, H1, ρ2⟩) R2 (Post.step (s1 := ⟨F2, σ, H1, ρ2⟩) S2 rfl h1) p2 hp
      · exact h1.elim⟩
end
/-! ### sequences -/
/-- the items of a list | of a tuple | of either -/
def W.lst (ρ : Env) : W → Option (List D)
  | .d (.list xs) => some xs
  | .l xs => some xs
  | .c i => match ρ[i]? with
    | some (some (.d (.list xs))) => some xs
    | some (some (.s xs)) => some xs
    | some (some (.l xs)) => some xs
    | _ => none
  | _ => none
def W.tup (ρ : Env) (w : W) : Option (List D) := match w.asD ρ with
  | some (.tuple xs) => some xs
  | _ => none
def W.seq (ρ : Env) (w : W) : Option (List D) := match w.lst ρ with
  | some xs => some xs
  | none => w.tup ρ
theorem sub_sqL {K : PySem.W.Frag} {F H : Hp} (h : ∀ a o, F a = some o → H a = some o) {p : Addr} {vs : List V} (q : SqL K F p vs) : SqL K H p vs := Same.seq h q
theorem VRep.lst {K : PySem.W.Frag} {H0 : Hp} {s : Sx} {v : V} {w : W} {xs : List D} (R : Rel K s) (r : VRep K H0 s v w) (h : w.lst s.ρ = some xs) : ∃ p vs, v = .ref p ∧ SqL K s.H p vs ∧ RpA s.F vs xs := by
  have fin : Rp s.F v (.list xs) → ∃ p vs, v = .ref p ∧ SqL K s.H p vs ∧ RpA s.F vs xs := fun q => by
    cases q with
    | lst e q => exact ⟨_, _, rfl, SqL.of (R.sub _ _ e), q⟩
  cases w with
  | d x =>
    cases x with
    | list ys => cases h; exact fin r
    | _ => cases h
  | l ys =>
    cases h
    obtain ⟨p, vs, e, q, q2, _⟩ := r
    exact ⟨p, vs, e, SqL.of q, q2⟩
  | t ys => cases h
  | c i =>
    have r' : s.σ[i]? = some (some v) := r
    simp only [W.lst] at h
    cases hb : s.ρ[i]? with
    | none => rw [hb] at h; cases h
    | some o =>
      cases o with
      | none => rw [hb] at h; cases h
      | some b =>
        rw [hb] at h
        have hx : b.isX = false := by cases b <;> first | rfl | cases h
        obtain ⟨v', hv, q⟩ := R.slot i _ hb
        rw [r'] at hv
        cases hv
        cases b with
        | x => cases h
        | d y =>
          cases y with
          | list ys => cases h; exact fin q
          | _ => cases h
        | s ys =>
          cases h
          obtain ⟨p, vs, e, q1, q2⟩ := q
          exact ⟨p, vs, e, sub_sqL R.sub q1, q2⟩
        | l ys =>
          cases h
          obtain ⟨p, vs, e, q1, q2⟩ := q
          exact ⟨p, vs, e, SqL.of q1, q2⟩
        | t _ => cases h
theorem VRep.tup {K : PySem.W.Frag} {H0 : Hp} {s : Sx} {v : V} {w : W} {xs : List D} (R : Rel K s) (r : VRep K H0 s v w) (h : w.tup s.ρ = some xs) : Rp s.F v (.tuple xs) ∧ ∃ p vs, v = .ref p ∧ s.F p = some (.tup vs) ∧ s.H p = some (.tup vs) ∧ RpA s.F vs xs := by
  unfold W.tup at h
  cases e : w.asD s.ρ with
  | none => rw [e] at h; cases h
  | some x =>
    rw [e] at h
    cases x with
    | tuple ys =>
      cases h
      have q := r.data R e
      refine ⟨q, ?_⟩
      cases q with
      | tup e q => exact ⟨_, _, rfl, e, R.sub _ _ e, q⟩
    | _ => cases h
theorem VRep.seq {K : PySem.W.Frag} {H0 : Hp} {s : Sx} {v : V} {w : W} {xs : List D} (R : Rel K s) (r : VRep K H0 s v w) (h : w.seq s.ρ = some xs) : ∃ p vs, v = .ref p ∧ (SqL K s.H p vs ∨ SqT K s.H p vs) ∧ RpA s.F vs xs := by
  unfold W.seq at h
  cases e : w.lst s.ρ with
  | some ys =>
    rw [e] at h
    cases h
    obtain ⟨p, vs, e1, q, q2⟩ := r.lst R e
    exact ⟨p, vs, e1, .inl q, q2⟩
  | none =>
    rw [e] at h
    obtain ⟨_, p, vs, e1, _, q, q2⟩ := r.tup R h
    exact ⟨p, vs, e1, .inr (SqT.of q), q2⟩
/-! x[i] -/
theorem RpA.atI {F : Hp} {ds : List D} {vs : List V} {i : Int} {d : D} (r : RpA F vs ds) (h : atI ds i = some d) : ∃ v, atI vs i = some v ∧ Rp F v d := by
  unfold L2.atI at h ⊢
  rw [r.length]
  cases e : ixN ds.length i with
  | none => rw [e] at h; cases h
  | some j =>
    rw [e] at h
    exact r.get (show ds[j]? = some d from h)
def gIx : W → W → Env → Out W := fun w1 w2 ρ => match w2.asD ρ with
  | some (.int i) => match w1.seq ρ with
    | some xs => match atI xs i with
      | some d => .ok (.d d) ρ
      | none => .st
    | none => match w1.asD ρ with
      | some (.str z) => if z.length ≤ 100000 then (match atI z.cps.toList i with
        | some c => .ok (.d (.str ⟨#[c]⟩)) ρ
        | none => .st) else .st
      | _ => .st
  | _ => .st
theorem ok_ix {Γ : Cn} {Wx : WX} : Ok2 Γ Wx (rIx Γ.K) gIx := fun s v1 v2 w1 w2 H1 H2 Q R r1 r2 h => by
  unfold gIx at h
  cases e2 : w2.asD s.ρ with
  | none => rw [e2] at h; exact h.elim
  | some y =>
    rw [e2] at h
    cases y with
    | int i =>
      have q2 := (r2.data R e2).intV
      subst q2
      cases e1 : w1.seq s.ρ with
      | some xs =>
        simp only [e1] at h
        cases e3 : atI xs i with
        | none => simp only [e3] at h; exact h.elim
        | some d =>
          simp only [e3] at h
          obtain ⟨p, vs, rfl, q, q3⟩ := r1.seq R e1
          obtain ⟨v, hv, q4⟩ := q3.atI e3
          rcases q with q | q
          · exact .inl ⟨p, vs, i, v, rfl, rfl, q, hv, h.val R q4⟩
          · exact .inr (.inl ⟨p, vs, i, v, rfl, rfl, q, hv, h.val R q4⟩)
      | none =>
        simp only [e1] at h
        cases e3 : w1.asD s.ρ with
        | none => rw [e3] at h; exact h.elim
        | some z =>
          rw [e3] at h
          cases z with
          | str z =>
            simp only at h
            split at h
            · rename_i hz
              cases e4 : atI z.cps.toList i with
              | none => simp only [e4] at h; exact h.elim
              | some c =>
                simp only [e4] at h
                exact .inr (.inr ⟨z, i, c, (r1.data R e3).strV, rfl, sz5 hz, e4, h.val R (.str _)⟩)
            · exact h.elim
          | _ => exact h.elim
    | _ => exact h.elim
/-! len -/
def gLen (ws : List W) : Env → Out W := fun ρ => match ws with
  | [w] => match w.seq ρ with
    | some xs => .ok (.d (.int xs.length)) ρ
    | none => match w.asD ρ with
      | some (.str z) => if z.length ≤ 100000 then .ok (.d (.int z.length)) ρ else .st
      | _ => .st
  | _ => .st
theorem VReps.one {K : PySem.W.Frag} {H0 : Hp} {s : Sx} {vs : List V} {w : W} (r : VReps K H0 s vs [w]) : ∃ v, vs = [v] ∧ VRep K H0 s v w := by
  cases vs with
  | nil => exact r.elim
  | cons v vr =>
    cases vr with
    | nil => exact ⟨v, rfl, r.1⟩
    | cons _ _ => exact r.2.1.elim
theorem VReps.two {K : PySem.W.Frag} {H0 : Hp} {s : Sx} {vs : List V} {w w' : W} (r : VReps K H0 s vs [w, w']) : ∃ v v', vs = [v, v'] ∧ VRep K H0 s v w ∧ VRep K H0 s v' w' := by
  cases vs with
  | nil => exact r.elim
  | cons v vr =>
    obtain ⟨v', rfl, q⟩ := VReps.one r.2.1
    exact ⟨v, v', rfl, r.1, q⟩
theorem ok_len {Γ : Cn} {Wx : WX} : OkC Γ Wx (fun xs H Q => (∃ p ys, xs = [.ref p] ∧ (SqL Γ.K H p ys ∨ SqT Γ.K H p ys) ∧ Q (.int ys.length) H) ∨ ∃ z, xs = [.str z] ∧ z.length ≤ sizeLine ∧ Q (.int z.length) H) gLen := fun s vs ws s0 Q R hσ S r h => by
  have h := h.step (s1 := s) S hσ.symm
  unfold gLen at h
  cases ws with
  | nil => exact h.elim
  | cons w wr =>
    cases wr with
    | cons _ _ => exact h.elim
    | nil =>
      obtain ⟨v, rfl, q0⟩ := VReps.one r
      simp only at h
      cases e1 : w.seq s.ρ with
      | some xs =>
        simp only [e1] at h
        obtain ⟨p, vs, rfl, q, q3⟩ := q0.seq R e1
        refine .inl ⟨p, vs, rfl, q, ?_⟩
        rw [q3.length]
        exact h.val R (.int _)
      | none =>
        simp only [e1] at h
        cases e3 : w.asD s.ρ with
        | none => rw [e3] at h; exact h.elim
        | some z =>
          rw [e3] at h
          cases z with
          | str z =>
            simp only at h
            split at h
            · rename_i hz
              exact .inr ⟨z, by rw [(q0.data R e3).strV], sz5 hz, h.val R (.int _)⟩
            · exact h.elim
          | _ => exact h.elim
/-! tuple(x), list(x) -/
def gTuple (ws : List W) : Env → Out W := fun ρ => match ws with
  | [w] => match w.seq ρ with
    | some xs => .ok (.d (.tuple xs)) ρ
    | none => .st
  | _ => .st
def gList (ws : List W) : Env → Out W := fun ρ => match ws with
  | [w] => match w.seq ρ with
    | some xs => .ok (.l xs) ρ
    | none => .st
  | _ => .st
theorem one_inv {ws : List W} {α : Type} {k : W → Out α} {P : Out α → Prop} (h : P (match ws with | [w] => k w | _ => .st)) (hst : ¬ P .st) : ∃ w, ws = [w] ∧ P (k w) := by
  cases ws with
  | nil => exact (hst h).elim
  | cons w wr =>
    cases wr with
    | nil => exact ⟨w, rfl, h⟩
    | cons _ _ => exact (hst h).elim
theorem ok_tuple {Γ : Cn} {Wx : WX} : OkC Γ Wx (fun xs H Q => ∃ p ys, xs = [.ref p] ∧ ((SqL Γ.K H p ys ∧ ∀ l, H l = none → Q (.ref l) (upd H l (.tup ys))) ∨ (SqT Γ.K H p ys ∧ Q (.ref p) H))) gTuple := fun s vs ws s0 Q R hσ S r h => by
  have h := h.step (s1 := s) S hσ.symm
  unfold gTuple at h
  obtain ⟨w, rfl, h⟩ := one_inv (P := fun o => Post Γ Wx s o Q) h fun z => z
  obtain ⟨v, rfl, q0⟩ := VReps.one r
  cases e1 : w.seq s.ρ with
  | none => simp only [e1] at h; exact h.elim
  | some xs =>
    simp only [e1] at h
    unfold W.seq at e1
    cases e : w.lst s.ρ with
    | some ys =>
      rw [e] at e1
      cases e1
      obtain ⟨p, vs, rfl, q, q2⟩ := q0.lst R e
      exact ⟨p, vs, rfl, .inl ⟨q, fun l hl => h.tup R q2 hl⟩⟩
    | none =>
      rw [e] at e1
      obtain ⟨q9, p, vs, rfl, _, q, q2⟩ := q0.tup R e1
      exact ⟨p, vs, rfl, .inr ⟨SqT.of q, h.val R q9⟩⟩
theorem ok_list {Γ : Cn} {Wx : WX} : OkC Γ Wx (fun xs H Q => ∃ p ys, xs = [.ref p] ∧ (SqL Γ.K H p ys ∨ SqT Γ.K H p ys) ∧ ∀ l, H l = none → Q (.ref l) (upd H l (.lst ys))) gList := fun s vs ws s0 Q R hσ S r h => by
  have h := h.step (s1 := s) S hσ.symm
  unfold gList at h
  obtain ⟨w, rfl, h⟩ := one_inv (P := fun o => Post Γ Wx s o Q) h fun z => z
  obtain ⟨v, rfl, q0⟩ := VReps.one r
  cases e1 : w.seq s.ρ with
  | none => simp only [e1] at h; exact h.elim
  | some xs =>
    simp only [e1] at h
    obtain ⟨p, vs, rfl, q, q2⟩ := q0.seq R e1
    exact ⟨p, vs, rfl, q, fun l hl => h.lst R q2 hl⟩
end TD
namespace TD
open PySem PySem.Spec L2

/-! ### == and != of data -/
mutual
theorem Rp.dp {K : PySem.W.Frag} {F H : Hp} (h : ∀ a o, F a = some o → H a = some o) : ∀ {d : D} {v : V}, Rp F v d → d.canLay0 = true → Dp K H v d
  | _, _, .non, _ => .non
  | _, _, .bl b, _ => .bl b
  | _, _, .int i, _ => .int i
  | _, _, .str x, _ => .str x
  | _, _, .tup e r, c => .tup (SqT.of (h _ _ e)) (RpA.dp h r (by simpa [PyData.canLay0] using c))
  | _, _, .lst e r, c => .lst (SqL.of (h _ _ e)) (RpA.dp h r (by simpa [PyData.canLay0] using c))
  | _, _, .dct e, c => by simp [PyData.canLay0] at c
theorem RpA.dp {K : PySem.W.Frag} {F H : Hp} (h : ∀ a o, F a = some o → H a = some o) : ∀ {ds : List D} {vs : List V}, RpA F vs ds → PyData.canLayAll0 ds = true → DpAll K H vs ds
  | _, _, .nil, _ => .nil
  | d :: ds, _, .cons r t, c => by
    have c' : d.canLay0 = true ∧ PyData.canLayAll0 ds = true := by simpa [PyData.canLayAll0] using c
    exact .cons (Rp.dp h r c'.1) (RpA.dp h t c'.2)
end
theorem canLay_list {xs : List D} (h : SeqAt.shaped (.list xs) = true) : PyData.canLayAll0 xs = true := by
  have q := SeqAt.canLay_of_shaped h
  simpa [PyData.canLay0] using q
theorem VRep.dp {K : PySem.W.Frag} {H0 : Hp} {s : Sx} {v : V} {w : W} {x : D} (R : Rel K s) (r : VRep K H0 s v w) (h : w.toD s.ρ = some x) (c : SeqAt.shaped x = true) : Dp K s.H v x := by
  have c0 := SeqAt.canLay_of_shaped c
  cases w with
  | d y => cases h; exact Rp.dp R.sub r c0
  | l ys =>
    cases h
    obtain ⟨p, vs, rfl, q, q2, _⟩ := r
    exact .lst (SqL.of q) (q2.dp R.sub (canLay_list c))
  | t _ => cases h
  | c i =>
    have r' : s.σ[i]? = some (some v) := r
    simp only [W.toD] at h
    cases hb : s.ρ[i]? with
    | none => rw [hb] at h; cases h
    | some o =>
      cases o with
      | none => rw [hb] at h; cases h
      | some b =>
        rw [hb] at h
        have hx : b.isX = false := by cases b <;> first | rfl | cases h
        obtain ⟨v', hv, q⟩ := R.slot i _ hb
        rw [r'] at hv
        cases hv
        cases b with
        | x => cases h
        | d y => cases h; exact Rp.dp R.sub q c0
        | s ys =>
          cases h
          obtain ⟨p, vs, rfl, q1, q2⟩ := q
          exact .lst (sub_sqL R.sub q1) (q2.dp R.sub (canLay_list c))
        | l ys =>
          cases h
          obtain ⟨p, vs, rfl, q1, q2⟩ := q
          exact .lst (SqL.of q1) (q2.dp R.sub (canLay_list c))
        | t _ => cases h
def gEqB (neg : Bool) (w1 w2 : W) : Env → Out W := fun ρ => match w1.toD ρ, w2.toD ρ with
  | some x, some y => if SeqAt.shaped x = true ∧ SeqAt.shaped y = true then .ok (.d (.bool (if neg then !(PyData.eqv x y) else PyData.eqv x y))) ρ else .st
  | _, _ => .st
abbrev gEq := gEqB false
abbrev gNe := gEqB true
section
variable {X : Cx} {Γ : Cn} {Wx : WX}
theorem ok_eq : Ok2 Γ Wx (rEqD Γ.K) gEq := fun s v1 v2 w1 w2 H1 H2 Q R r1 r2 h => by
  unfold gEq gEqB at h
  cases e1 : w1.toD s.ρ with
  | none => simp only [e1] at h; exact h.elim
  | some x =>
    cases e2 : w2.toD s.ρ with
    | none => simp only [e1, e2] at h; exact h.elim
    | some y =>
      simp only [e1, e2] at h
      split at h
      · rename_i c
        exact ⟨x, y, r1.dp R e1 c.1, r2.dp R e2 c.2, c.1, c.2, h.val R (.bl _)⟩
      · exact h.elim
theorem ok_ne : Ok2 Γ Wx (rNeD Γ.K) gNe := fun s v1 v2 w1 w2 H1 H2 Q R r1 r2 h => by
  unfold gNe gEqB at h
  cases e1 : w1.toD s.ρ with
  | none => simp only [e1] at h; exact h.elim
  | some x =>
    cases e2 : w2.toD s.ρ with
    | none => simp only [e1, e2] at h; exact h.elim
    | some y =>
      simp only [e1, e2] at h
      split at h
      · rename_i c
        exact ⟨x, y, r1.dp R e1 c.1, r2.dp R e2 c.2, c.1, c.2, h.val R (.bl _)⟩
      · exact h.elim
/-! ### whole numbers -/
def gB (f : Int → Int → Bool) : D → D → Option D
  | .int i, .int j => some (.bool (f i j))
  | _, _ => none
theorem gB_inv {f : Int → Int → Bool} {x y z : D} (h : gB f x y = some z) : ∃ i j, x = .int i ∧ y = .int j ∧ z = .bool (f i j) := by
  unfold gB at h
  split at h
  · rename_i i j
    cases h
    exact ⟨i, j, rfl, rfl, rfl⟩
  · cases h
theorem ok2_B {f : Int → Int → Bool} : Ok2 Γ Wx (rI0 fun i j => .bl (f i j)) (p2 (gB f)) := fun s v1 v2 w1 w2 H1 H2 Q R r1 r2 h => by
  obtain ⟨x, y, z, q1, q2, hg, h⟩ := p2_inv R r1 r2 h
  obtain ⟨i, j, rfl, rfl, rfl⟩ := gB_inv hg
  exact ⟨i, j, q1.intV, q2.intV, h.val R (.bl _)⟩
theorem ok2_I0 {f : Int → Int → Int} : Ok2 Γ Wx (rI0 fun i j => .int (f i j)) (p2 (gI (fun _ _ => true) f)) := fun s v1 v2 w1 w2 H1 H2 Q R r1 r2 h => by
  obtain ⟨x, y, z, q1, q2, hg, h⟩ := p2_inv R r1 r2 h
  obtain ⟨i, j, rfl, rfl, _, rfl⟩ := gI_inv hg
  exact ⟨i, j, q1.intV, q2.intV, h.val R (.int _)⟩
abbrev gLt := p2 (gB fun i j => decide (i < j))
abbrev gLe := p2 (gB fun i j => decide (i ≤ j))
abbrev gGt := p2 (gB fun i j => decide (j < i))
abbrev gGe := p2 (gB fun i j => decide (j ≤ i))
abbrev gSub := p2 (gI (fun _ _ => true) fun i j => i - j)
/-- // by a positive number below 2^30 -/
abbrev gDiv := p2 (gI (fun _ j => decide (0 < j) && decide (j < 1073741824)) fun i j => i / j)
abbrev gMod := p2 (gI (fun _ j => decide (0 < j)) fun i j => i % j)
abbrev gPow := p2 (gI (fun i j => decide (0 ≤ j) && decide (j ≤ 1000000) && decide (i.natAbs < 18446744073709551616)) fun i j => i ^ j.toNat)
theorem ok_lt : Ok2 Γ Wx (rI0 fun i j => .bl (decide (i < j))) gLt := ok2_B
theorem ok_le : Ok2 Γ Wx (rI0 fun i j => .bl (decide (i ≤ j))) gLe := ok2_B
theorem ok_gt : Ok2 Γ Wx (rI0 fun i j => .bl (decide (j < i))) gGt := ok2_B
theorem ok_ge : Ok2 Γ Wx (rI0 fun i j => .bl (decide (j ≤ i))) gGe := ok2_B
theorem ok_sub : Ok2 Γ Wx (rI0 fun i j => .int (i - j)) gSub := ok2_I0
theorem ok_div : Ok2 Γ Wx (rI CDiv fun i j => .int (i / j)) gDiv := ok2_I fun i j h => by simpa [CDiv] using h
theorem ok_mod : Ok2 Γ Wx (rI (fun _ j => 0 < j) fun i j => .int (i % j)) gMod := ok2_I fun i j h => by simpa using h
theorem ok_pow : Ok2 Γ Wx (rI CPow fun i j => .int (i ^ j.toNat)) gPow := ok2_I fun i j h => by
  simp only [Bool.and_eq_true, decide_eq_true_eq] at h
  exact ⟨h.1.1, h.1.2, by omega⟩
def gNeg (w : W) : Env → Out W := fun ρ => match w.asD ρ with
  | some (.int i) => .ok (.d (.int (-i))) ρ
  | _ => .st
theorem ok_neg : Ok1 Γ Wx (rU fun i => .int (-i)) gNeg := fun s v w H1 Q R r h => by
  unfold gNeg at h
  cases e : w.asD s.ρ with
  | none => rw [e] at h; exact h.elim
  | some x =>
    rw [e] at h
    cases x with
    | int i => exact ⟨i, (r.data R e).intV, h.val R (.int _)⟩
    | _ => exact h.elim
/-! ### +: numbers, texts, tuples, lists -/
def rAddAll (K : PySem.W.Frag) : R2 := fun x y H Q => (rI0 (fun i j => .int (i + j))) x y H Q ∨ (∃ i j, x = .str i ∧ y = .str j ∧ i.length + j.length ≤ sizeLine ∧ Q (.str (i ++ j)) H) ∨ rCatA K x y H Q ∨ rCat x y H Q
theorem op_addAll : OpR X (binaryOp .Add) (rAddAll X.K) := OpR.or op_add (OpR.or op_add_str (OpR.or op_catA op_cat))
/-- the items of a list that may be joined to another one (the script may not) -/
def W.own (ρ : Env) : W → Option (List D)
  | .d (.list xs) => some xs
  | .l xs => some xs
  | .c i => match ρ[i]? with
    | some (some (.d (.list xs))) => some xs
    | some (some (.l xs)) => some xs
    | _ => none
  | _ => none
theorem VRep.own {K : PySem.W.Frag} {H0 : Hp} {s : Sx} {v : V} {w : W} {xs : List D} (R : Rel K s) (r : VRep K H0 s v w) (h : w.own s.ρ = some xs) : ∃ p vs, v = .ref p ∧ s.H p = some (.lst vs) ∧ RpA s.F vs xs := by
  have fin : Rp s.F v (.list xs) → ∃ p vs, v = .ref p ∧ s.H p = some (.lst vs) ∧ RpA s.F vs xs := fun q => by
    cases q with
    | lst e q => exact ⟨_, _, rfl, R.sub _ _ e, q⟩
  cases w with
  | d x =>
    cases x with
    | list ys => cases h; exact fin r
    | _ => cases h
  | l ys =>
    cases h
    obtain ⟨p, vs, e, q, q2, _⟩ := r
    exact ⟨p, vs, e, q, q2⟩
  | t ys => cases h
  | c i =>
    have r' : s.σ[i]? = some (some v) := r
    simp only [W.own] at h
    cases hb : s.ρ[i]? with
    | none => rw [hb] at h; cases h
    | some o =>
      cases o with
      | none => rw [hb] at h; cases h
      | some b =>
        rw [hb] at h
        have hx : b.isX = false := by cases b <;> first | rfl | cases h
        obtain ⟨v', hv, q⟩ := R.slot i _ hb
        rw [r'] at hv
        cases hv
        cases b with
        | x => cases h
        | d y =>
          cases y with
          | list ys => cases h; exact fin q
          | _ => cases h
        | s ys => cases h
        | l ys =>
          cases h
          exact q
        | t _ => cases h
def gAdd (w1 w2 : W) : Env → Out W := fun ρ => match w1.asD ρ, w2.asD ρ with
  | some (.int i), some (.int j) => .ok (.d (.int (i + j))) ρ
  | some (.str x), some (.str y) => if x.length + y.length ≤ 100000 then .ok (.d (.str (x ++ y))) ρ else .st
  | some (.tuple xs), some (.tuple ys) => if xs.length + ys.length ≤ 100000 then .ok (.d (.tuple (xs ++ ys))) ρ else .st
  | _, _ => match w1.own ρ, w2.own ρ with
    | some xs, some ys => if xs.length + ys.length ≤ 100000 then .ok (.l (xs ++ ys)) ρ else .st
    | _, _ => .st
theorem gAdd_cases {s : Sx} {w1 w2 : W} {P : Out W → Prop} (h : P (gAdd w1 w2 s.ρ)) (hst : ¬ P .st) :
    (∃ i j, w1.asD s.ρ = some (.int i) ∧ w2.asD s.ρ = some (.int j) ∧ P (.ok (.d (.int (i + j))) s.ρ)) ∨
    (∃ x y, w1.asD s.ρ = some (.str x) ∧ w2.asD s.ρ = some (.str y) ∧ x.length + y.length ≤ 100000 ∧ P (.ok (.d (.str (x ++ y))) s.ρ)) ∨
    (∃ xs ys, w1.asD s.ρ = some (.tuple xs) ∧ w2.asD s.ρ = some (.tuple ys) ∧ xs.length + ys.length ≤ 100000 ∧ P (.ok (.d (.tuple (xs ++ ys))) s.ρ)) ∨
    (∃ xs ys, w1.own s.ρ = some xs ∧ w2.own s.ρ = some ys ∧ xs.length + ys.length ≤ 100000 ∧ P (.ok (.l (xs ++ ys)) s.ρ)) := by
  unfold gAdd at h
  split at h
  · rename_i i j e1 e2
    exact .inl ⟨i, j, e1, e2, h⟩
  · rename_i x y e1 e2
    split at h
    · rename_i hl
      exact .inr (.inl ⟨x, y, e1, e2, hl, h⟩)
    · exact (hst h).elim
  · rename_i x y e1 e2
    split at h
    · rename_i hl
      exact .inr (.inr (.inl ⟨x, y, e1, e2, hl, h⟩))
    · exact (hst h).elim
  · split at h
    · rename_i xs ys e1 e2
      split at h
      · rename_i hl
        exact .inr (.inr (.inr ⟨xs, ys, e1, e2, hl, h⟩))
      · exact (hst h).elim
    · exact (hst h).elim
theorem tup_inv {F : Hp} {v : V} {xs : List D} (r : Rp F v (.tuple xs)) : ∃ p vs, v = .ref p ∧ F p = some (.tup vs) ∧ RpA F vs xs := by
  cases r with
  | tup e q => exact ⟨_, _, rfl, e, q⟩
theorem RpA.nil_iff {F : Hp} {vs : List V} {xs : List D} (r : RpA F vs xs) : vs = [] ↔ xs = [] := by
  cases r <;> simp
theorem ok_add : Ok2 Γ Wx (rAddAll Γ.K) gAdd := fun s v1 v2 w1 w2 H1 H2 Q R r1 r2 h => by
  rcases gAdd_cases (P := fun o => Post Γ Wx s o Q) h (fun z => z) with ⟨i, j, e1, e2, h⟩ | ⟨x, y, e1, e2, hl, h⟩ | ⟨xs, ys, e1, e2, hl, h⟩ | ⟨xs, ys, e1, e2, hl, h⟩
  · exact .inl ⟨i, j, (r1.data R e1).intV, (r2.data R e2).intV, h.val R (.int _)⟩
  · exact .inr (.inl ⟨x, y, (r1.data R e1).strV, (r2.data R e2).strV, sz5 hl, h.val R (.str _)⟩)
  · obtain ⟨p, vs, rfl, f1, q1⟩ := tup_inv (r1.data R e1)
    obtain ⟨p', us, rfl, f2, q2⟩ := tup_inv (r2.data R e2)
    refine .inr (.inr (.inl ⟨p, p', vs, us, rfl, rfl, SqT.of (R.sub _ _ f1), SqT.of (R.sub _ _ f2), by rw [q1.length, q2.length]; exact sz5 hl, fun z => ?_, fun z z' => ?_, fun z z' l hp => ?_⟩))
    · have e := q1.nil_iff.mp z
      subst e
      exact h.val R (r2.data R e2)
    · have e := q2.nil_iff.mp z'
      subst e
      rw [List.append_nil] at h
      exact h.val R (r1.data R e1)
    · exact h.tup R (q1.append q2) hp
  · obtain ⟨p, vs, rfl, f1, q1⟩ := r1.own R e1
    obtain ⟨p', us, rfl, f2, q2⟩ := r2.own R e2
    exact .inr (.inr (.inr ⟨p, p', vs, us, rfl, rfl, f1, f2, by rw [q1.length, q2.length]; exact sz5 hl, fun l hp => h.lst R (q1.append q2) hp⟩))
/-! ### slices -/
def cutD {α : Type} (xs : List α) (lo hi : Option Int) : List α := (xs.drop (HT.sIx xs.length 0 lo)).take (HT.sIx xs.length xs.length hi - HT.sIx xs.length 0 lo)
theorem RpA.cut {F : Hp} {vs : List V} {xs : List D} (r : RpA F vs xs) (lo hi : Option Int) : RpA F (cutV vs lo hi) (cutD xs lo hi) := by
  unfold cutV cutD
  rw [r.length]
  exact (r.drop _).take _
theorem cut_whole {α : Type} {xs : List α} {lo hi : Option Int} (h : HT.sIx xs.length 0 lo = 0 ∧ HT.sIx xs.length xs.length hi = xs.length) : cutD xs lo hi = xs := by
  unfold cutD
  rw [h.1, h.2]
  simp
def rSlAll (K : PySem.W.Frag) : V → Option Int → Option Int → Hp → VK → Prop := fun x lo hi H Q => rSlA K x lo hi H Q ∨ rSlL K x lo hi H Q ∨ rSlS x lo hi H Q
theorem sl_all : SlR X (rSlAll X.K) := SlR.or sl_tupA (SlR.or sl_list sl_str)
def gSl (w : W) (lo hi : Option Int) : Env → Out W := fun ρ => match w.lst ρ with
  | some xs => .ok (.l (cutD xs lo hi)) ρ
  | none => match w.asD ρ with
    | some (.tuple xs) => .ok (.d (.tuple (cutD xs lo hi))) ρ
    | some (.str z) => if z.length ≤ 100000 then .ok (.d (.str (cutS z lo hi))) ρ else .st
    | _ => .st
def Mo := Mx (Option Int)
def oNone : Mx (Option Int) := fun ρ => .ok none ρ
def oSome (f : Mx W) : Mx (Option Int) := bnd f fun w ρ => match w.asD ρ with
  | some (.int i) => .ok (some i) ρ
  | _ => .st
def mSl (f : Mx W) (lo hi : Mx (Option Int)) : Mx W := bnd f fun w => bnd lo fun a => bnd hi fun b => gSl w a b
def PostO (Γ : Cn) (Wx : WX) (s : Sx) (o : Out (Option Int)) (Q : Option Int → Hp → Prop) : Prop :=
  match o with
  | .ok b ρ' => ∀ F' H', Rel Γ.K ⟨F', s.σ, H', ρ'⟩ → Step Γ.np s ⟨F', s.σ, H', ρ'⟩ → Q b H'
  | .er c ρ' => ∀ F' H' C, Γ.mg c = some (.ref C) → Rel Γ.K ⟨F', s.σ, H', ρ'⟩ → Step Γ.np s ⟨F', s.σ, H', ρ'⟩ → Wx (.ref C) none s.σ H'
  | .st => False
def tOo (Γ : Cn) (Wx : WX) (f : Mx (Option Int)) : TO := fun σ H Q => ∃ F ρ, Rel Γ.K ⟨F, σ, H, ρ⟩ ∧ PostO Γ Wx ⟨F, σ, H, ρ⟩ (f ρ) Q
abbrev DO (X : Cx) (Γ : Cn) (Wx : WX) (e : Option Expr) (f : Mx (Option Int)) : Prop := PO X e (tOo Γ Wx f)
theorem PO.imp {e : Option Expr} {t t' : TO} (h : PO X e t) (i : ∀ σ H Q, t' σ H Q → t σ H Q) : PO X e t' := ⟨fun pins s σ H Q I q => h.run pins s σ H Q I (i σ H Q q)⟩
variable {a b c e : Expr} {f g f1 f2 : Mx W} {pos : Pos}
theorem do_none : DO X Γ Wx none oNone := PO.imp po_none fun σ H Q ⟨F, ρ, R, h⟩ => h F H R (Step.refl _)
theorem do_some (h : DE X Γ Wx e f) : DO X Γ Wx (some e) (oSome f) := PO.imp (po_some h) fun σ H Q ⟨F, ρ, R, h⟩ => ⟨F, ρ, R, by
  unfold oSome bnd at h
  cases e1 : f ρ with
  | ok w ρ1 =>
    rw [e1] at h
    intro v F1 H1 R1 S1 r
    simp only at h
    cases e2 : w.asD ρ1 with
    | none => rw [e2] at h; exact h.elim
    | some x =>
      rw [e2] at h
      cases x with
      | int i => exact ⟨i, (VRep.data (s := ⟨F1, σ, H1, ρ1⟩) R1 r e2).intV, h F1 H1 R1 S1⟩
      | _ => exact h.elim
  | er c ρ1 => rw [e1] at h; exact h
  | st => rw [e1] at h; exact h⟩
theorem post_bndO {s : Sx} {Q : VK} {m : Mx (Option Int)} {k : Option Int → Mx W} {K : Option Int → Hp → Prop} (h : Post Γ Wx s (bnd m k s.ρ) Q)
    (hk : ∀ b F1 H1 ρ1, Rel Γ.K ⟨F1, s.σ, H1, ρ1⟩ → Step Γ.np s ⟨F1, s.σ, H1, ρ1⟩ → Post Γ Wx ⟨F1, s.σ, H1, ρ1⟩ (k b ρ1) Q → K b H1) : PostO Γ Wx s (m s.ρ) K := by
  unfold bnd at h
  cases e : m s.ρ with
  | ok w ρ1 =>
    rw [e] at h
    exact fun F1 H1 R1 S1 => hk w F1 H1 ρ1 R1 S1 (Post.step (s1 := ⟨F1, s.σ, H1, ρ1⟩) S1 rfl h)
  | er c ρ1 => rw [e] at h; exact h
  | st => rw [e] at h; exact h
theorem ok_sl {s : Sx} {v : V} {w : W} {H1 : Hp} {lo hi : Option Int} {Q : VK} (R : Rel Γ.K s) (r : VRep Γ.K H1 s v w) (h : Post Γ Wx s (gSl w lo hi s.ρ) Q) : rSlAll Γ.K v lo hi s.H Q := by
  unfold gSl at h
  cases e1 : w.lst s.ρ with
  | some xs =>
    simp only [e1] at h
    obtain ⟨p, vs, rfl, q, q2⟩ := r.lst R e1
    exact .inr (.inl ⟨p, vs, rfl, q, fun l hl => h.lst R (q2.cut lo hi) hl⟩)
  | none =>
    simp only [e1] at h
    cases e2 : w.asD s.ρ with
    | none => rw [e2] at h; exact h.elim
    | some x =>
      rw [e2] at h
      cases x with
      | tuple xs =>
        obtain ⟨p, vs, rfl, f1, q1⟩ := tup_inv (r.data R e2)
        refine .inl ⟨p, vs, rfl, SqT.of (R.sub _ _ f1), fun z => ?_, fun z l hl => h.tup R (q1.cut lo hi) hl⟩
        rw [q1.length] at z
        have h' : Post Γ Wx s (.ok (.d (.tuple (cutD xs lo hi))) s.ρ) Q := h
        rw [cut_whole z] at h'
        exact h'.val R (r.data R e2)
      | str z =>
        simp only at h
        split at h
        · rename_i hz
          exact .inr (.inr ⟨z, (r.data R e2).strV, sz5 hz, h.val R (.str _)⟩)
        · exact h.elim
      | _ => exact h.elim
theorem de_slice {lo hi : Option Expr} {p2 : Pos} {ml mh : Mx (Option Int)} (he : DE X Γ Wx e f) (hl : DO X Γ Wx lo ml) (hh : DO X Γ Wx hi mh) (hK : X.K = Γ.K) : DE X Γ Wx (.Subscript e (.Slice lo hi none p2) pos) (mSl f ml mh) :=
  PE.imp (pe_slice sl_all he hl hh) fun σ H Q ⟨F, ρ, R, h⟩ => ⟨F, ρ, R, post_bnd (s := ⟨F, σ, H, ρ⟩) h fun v w F1 H1 ρ1 R1 S1 r1 h1 => ⟨F1, ρ1, R1, post_bndO (s := ⟨F1, σ, H1, ρ1⟩) h1 fun i F2 H2 ρ2 R2 S2 h2 =>
    ⟨F2, ρ2, R2, post_bndO (s := ⟨F2, σ, H2, ρ2⟩) h2 fun j F3 H3 ρ3 R3 S3 h3 => by
      rw [hK]
      exact ok_sl (s := ⟨F3, σ, H3, ρ3⟩) R3 (VRep.held (s := ⟨F2, σ, H2, ρ2⟩) R2 S3 rfl (VRep.held (s := ⟨F1, σ, H1, ρ1⟩) R1 S2 rfl r1)) h3⟩⟩⟩
end
end TD
namespace TD
open PySem PySem.Spec L2

/-! ### targets -/
abbrev Bd := D → Env → Option Env
def OkG (Γ : Cn) (g : TG) (bd : Bd) : Prop := ∀ (s : Sx) (v : V) (d : D) (ρ1 : Env) (Q : St → Hp → Prop), Rel Γ.K s → Rp s.F v d → bd d s.ρ = some ρ1 →
  (∀ σ1, Rel Γ.K ⟨s.F, σ1, s.H, ρ1⟩ → Step Γ.np s ⟨s.F, σ1, s.H, ρ1⟩ → Q σ1 s.H) → g v s.σ s.H Q
/-- .. and only the slots vs change -/
def OkGw (Γ : Cn) (vs : List Nat) (g : TG) (bd : Bd) : Prop := ∀ (s : Sx) (v : V) (d : D) (ρ1 : Env) (Q : St → Hp → Prop), Rel Γ.K s → Rp s.F v d → bd d s.ρ = some ρ1 →
  (∀ σ1, wipe σ1 vs = wipe s.σ vs → Rel Γ.K ⟨s.F, σ1, s.H, ρ1⟩ → Step Γ.np s ⟨s.F, σ1, s.H, ρ1⟩ → Q σ1 s.H) → g v s.σ s.H Q
theorem OkGw.ok {Γ : Cn} {vs : List Nat} {g : TG} {bd : Bd} (h : OkGw Γ vs g bd) : OkG Γ g bd := fun s v d ρ1 Q R r e q => h s v d ρ1 Q R r e fun σ1 _ R' S' => q σ1 R' S'
theorem wipe_set_mem {σ : St} {x : Option V} {i : Nat} : ∀ {vs : List Nat}, i ∈ vs → wipe (σ.set i x) vs = wipe σ vs
  | v :: vs, h => by
    show (wipe (σ.set i x) vs).set v none = (wipe σ vs).set v none
    by_cases hi : i ∈ vs
    · rw [wipe_set_mem hi]
    · have e : i = v := by
        rcases List.mem_cons.mp h with z | z
        · exact z
        · exact absurd z hi
      subst e
      have q : ∀ {vs : List Nat}, i ∉ vs → wipe (σ.set i x) vs = (wipe σ vs).set i x := by
        intro vs
        induction vs with
        | nil => intro _; rfl
        | cons v vs ih =>
          intro hn
          show (wipe (σ.set i x) vs).set v none = ((wipe σ vs).set v none).set i x
          rw [ih (fun z => hn (List.mem_cons_of_mem _ z)), List.set_comm]
          exact fun z => hn (by rw [z]; exact List.mem_cons_self)
      rw [q hi, List.set_set]
def bdN (np i : Nat) : Bd := fun d ρ => put np i (.d d) ρ
theorem okGw_name {Γ : Cn} {i : Nat} {vs : List Nat} (h : i ∈ vs) : OkGw Γ vs (gName i) (bdN Γ.np i) := fun s v d ρ1 Q R r e q => by
  obtain ⟨R', S'⟩ := put_ok (b := .d d) R (Step.refl (np := Γ.np) s) e r fun z => by cases z
  exact q _ (wipe_set_mem h) R' S'
theorem okG_name {Γ : Cn} {i : Nat} : OkG Γ (gName i) (bdN Γ.np i) := fun s v d ρ1 Q R r e q => by
  obtain ⟨R', S'⟩ := put_ok (b := .d d) R (Step.refl (np := Γ.np) s) e r fun z => by cases z
  exact q _ R' S'
/-! several targets -/
def bdAll : List Bd → List D → Env → Option Env
  | [], [], ρ => some ρ
  | b :: bs, d :: ds, ρ => (b d ρ).bind fun ρ1 => bdAll bs ds ρ1
  | _, _, _ => none
def OkGsw (Γ : Cn) (vs : List Nat) (t : TGs) (bds : List Bd) : Prop := ∀ (s : Sx) (us : List V) (ds : List D) (ρ1 : Env) (Q : St → Hp → Prop), Rel Γ.K s → RpA s.F us ds → bdAll bds ds s.ρ = some ρ1 →
  (∀ σ1, wipe σ1 vs = wipe s.σ vs → Rel Γ.K ⟨s.F, σ1, s.H, ρ1⟩ → Step Γ.np s ⟨s.F, σ1, s.H, ρ1⟩ → Q σ1 s.H) → t us s.σ s.H Q
theorem okGs_nil {Γ : Cn} {vs : List Nat} : OkGsw Γ vs gNil [] := fun s us ds ρ1 Q R r e q => by
  cases ds with
  | cons _ _ => cases e
  | nil =>
    cases r
    cases e
    exact ⟨rfl, q s.σ rfl R (Step.refl _)⟩
theorem okGs_cons {Γ : Cn} {vs : List Nat} {g : TG} {t : TGs} {b : Bd} {bs : List Bd} (h : OkGw Γ vs g b) (h2 : OkGsw Γ vs t bs) : OkGsw Γ vs (gCons g t) (b :: bs) := fun s us ds ρ1 Q R r e q => by
  cases ds with
  | nil => cases e
  | cons d ds =>
    cases r with
    | cons r1 rr =>
      simp only [bdAll] at e
      cases e1 : b d s.ρ with
      | none => rw [e1] at e; cases e
      | some ρ2 =>
        rw [e1] at e
        refine ⟨_, _, rfl, h s _ d ρ2 _ R r1 e1 fun σ1 hw R1 S1 => ?_⟩
        exact h2 ⟨s.F, σ1, s.H, ρ2⟩ _ ds ρ1 Q R1 rr e fun σ2 hw2 R2 S2 => q σ2 (hw2.trans hw) R2 (S1.trans S2)
def bdT (bds : List Bd) : Bd := fun d ρ => match d with
  | .tuple ds => bdAll bds ds ρ
  | _ => none
theorem bdAll_len : ∀ {bds : List Bd} {ds : List D} {ρ ρ1 : Env}, bdAll bds ds ρ = some ρ1 → ds.length = bds.length
  | [], [], _, _, _ => rfl
  | b :: bs, d :: ds, ρ, ρ1, h => by
    simp only [bdAll] at h
    cases e : b d ρ with
    | none => rw [e] at h; cases h
    | some ρ2 => rw [e] at h; exact congrArg (· + 1) (bdAll_len (bds := bs) (ds := ds) h)
  | [], _ :: _, _, _, h => by cases h
  | _ :: _, [], _, _, h => by cases h
theorem okGw_tup {Γ : Cn} {vs : List Nat} {n : Nat} {t : TGs} {bds : List Bd} (h : OkGsw Γ vs t bds) (hn : bds.length = n) : OkGw Γ vs (L2.gTup Γ.K n t) (bdT bds) := fun s v d ρ1 Q R r e q => by
  cases d with
  | tuple ds =>
    have e' : bdAll bds ds s.ρ = some ρ1 := e
    obtain ⟨p, us, rfl, f, ra⟩ := tup_inv r
    exact ⟨p, us, rfl, SqT.of (R.sub _ _ f), by rw [ra.length, bdAll_len e', hn], h s us ds ρ1 Q R ra e' q⟩
  | _ => cases e
/-! ### what is walked -/
/-- the cell in the slot that is walked is set aside -/
def outR (ρ : Env) : Option Nat → Env
  | none => ρ
  | some j => ρ.set j none
def Sx.out (s : Sx) (mv : Option Nat) : Sx := ⟨s.F, s.σ, s.H, outR s.ρ mv⟩
abbrev Walk := List D × Option Nat
theorem outR_some {ρ : Env} {mv : Option Nat} {i : Nat} {b : B} (h : (outR ρ mv)[i]? = some (some b)) : ρ[i]? = some (some b) ∧ mv ≠ some i := by
  cases mv with
  | none => exact ⟨h, fun z => by cases z⟩
  | some j =>
    have h' : (ρ.set j none)[i]? = some (some b) := h
    by_cases hj : i = j
    · subst hj
      by_cases hl : i < ρ.length
      · rw [List.getElem?_set_self hl] at h'; cases h'
      · rw [List.getElem?_eq_none (by simpa using hl)] at h'; cases h'
    · rw [List.getElem?_set_ne (Ne.symm hj)] at h'
      exact ⟨h', fun z => hj (by cases z; rfl)⟩
theorem CellAt.ofOut {s : Sx} {mv : Option Nat} {i : Nat} {a : Addr} (c : CellAt (s.out mv) i a) : CellAt s i a ∧ mv ≠ some i := by
  obtain ⟨h1, b, h2, h3⟩ := c
  obtain ⟨h4, h5⟩ := outR_some h2
  exact ⟨⟨h1, b, h4, h3⟩, h5⟩
theorem Rel.out {K : PySem.W.Frag} {s : Sx} (R : Rel K s) (mv : Option Nat) : Rel K (s.out mv) where
  sub := R.sub
  len := by
    show s.σ.length = (outR s.ρ mv).length
    cases mv with
    | none => exact R.len
    | some j => show _ = (s.ρ.set j none).length; rw [List.length_set]; exact R.len
  slotX := fun i b hb hx => R.slotX i b (outR_some hb).1 hx
  sep := fun i j a c1 c2 => R.sep i j a c1.ofOut.1 c2.ofOut.1
  own := fun i a c => R.own i a c.ofOut.1
/-- what is no cell is kept -/
structure Keep (s s' : Sx) : Prop where
  keep : ∀ a o, s.H a = some o → ¬ Cell s a → s'.H a = some o
  fz : ∀ a o, s.H a = some o → ¬ Cell s a → Fz s.F s'.F a o
theorem Step.kp {np : Nat} {s s' : Sx} (S : Step np s s') : Keep s s' := ⟨S.keep, S.fz⟩
theorem Keep.mono {K : PySem.W.Frag} {s s' : Sx} (a : Keep s s') (R : Rel K s) : ∀ x o, s.F x = some o → s'.F x = some o := fun x o h =>
  (a.fz x o (R.sub x o h) (R.nocell h)).mono h
def IterOk (Γ : Cn) (s1 : Sx) (J : It) (items : List D) : Prop :=
  ∀ (i : Nat) (s : Sx), Keep s1 s → Rel Γ.K s →
    (items.length ≤ i → J.stop i s.H) ∧ ∀ d, items[i]? = some d → J.go i s.H ∧ ∀ v H', J.yld i s.H v H' → ∃ F', Rel Γ.K ⟨F', s.σ, H', s.ρ⟩ ∧ Step Γ.np s ⟨F', s.σ, H', s.ρ⟩ ∧ Rp F' v d
/-- what is set aside stands in its slot -/
def MvOk (ρ : Env) (w : Walk) : Prop := ∀ j, w.2 = some j → ρ[j]? = some (some (.l w.1))
def PostI (Γ : Cn) (Wx : WX) (s : Sx) (o : Out Walk) (Q : It → Hp → Prop) : Prop :=
  match o with
  | .ok w ρ' => ∀ J F' H', Rel Γ.K ⟨F', s.σ, H', ρ'⟩ → Step Γ.np s ⟨F', s.σ, H', ρ'⟩ → MvOk ρ' w → IterOk Γ (Sx.out ⟨F', s.σ, H', ρ'⟩ w.2) J w.1 → Q J H'
  | .er c ρ' => ∀ F' H' C, Γ.mg c = some (.ref C) → Rel Γ.K ⟨F', s.σ, H', ρ'⟩ → Step Γ.np s ⟨F', s.σ, H', ρ'⟩ → Wx (.ref C) none s.σ H'
  | .st => False
def tI (Γ : Cn) (Wx : WX) (f : Mx Walk) : TI := fun σ H R => ∃ F ρ, Rel Γ.K ⟨F, σ, H, ρ⟩ ∧ PostI Γ Wx ⟨F, σ, H, ρ⟩ (f ρ) R
abbrev DI (X : Cx) (Γ : Cn) (Wx : WX) (tg iter : Expr) (f : Mx Walk) : Prop := PI X tg iter (tI Γ Wx f)
theorem PI.imp {X : Cx} {tg iter : Expr} {t t' : TI} (h : PI X tg iter t) (i : ∀ σ H Q, t' σ H Q → t σ H Q) : PI X tg iter t' := ⟨fun pins s σ H Q I q => h.run pins s σ H Q I (i σ H Q q)⟩
theorem PI.or {X : Cx} {tg iter : Expr} {t t' : TI} (h : PI X tg iter t) (h' : PI X tg iter t') : PI X tg iter (fun σ H R => t σ H R ∨ t' σ H R) := ⟨fun pins s σ H R I q => q.elim (h.run pins s σ H R I) (h'.run pins s σ H R I)⟩
/-! a list, a tuple, a text -/
def W.walkL (ρ : Env) : W → Option Walk
  | .d (.list xs) => some (xs, none)
  | .l xs => some (xs, none)
  | .c i => match ρ[i]? with
    | some (some (.d (.list xs))) => some (xs, none)
    | some (some (.s xs)) => some (xs, none)
    | some (some (.l xs)) => some (xs, some i)
    | _ => none
  | _ => none
def mWalk (f : Mx W) : Mx Walk := bnd f fun w ρ => match w.walkL ρ with
  | some k => .ok k ρ
  | none => match w.asD ρ with
    | some (.tuple xs) => .ok (xs, none) ρ
    | some (.str z) => .ok (z.cps.toList.map fun c => PyData.str ⟨#[c]⟩, none) ρ
    | _ => .st
theorem walkL_ok {K : PySem.W.Frag} {H0 : Hp} {s : Sx} {v : V} {w : W} {k : Walk} (R : Rel K s) (r : VRep K H0 s v w) (h : w.walkL s.ρ = some k) :
    ∃ p vs, v = .ref p ∧ SqL K s.H p vs ∧ MvOk s.ρ k ∧ ∀ s', Keep (s.out k.2) s' → Rel K s' → SqL K s'.H p vs ∧ RpA s'.F vs k.1 := by
  have fin : ∀ {xs : List D}, Rp s.F v (.list xs) → ∃ p vs, v = .ref p ∧ SqL K s.H p vs ∧ MvOk s.ρ (xs, none) ∧ ∀ s', Keep (s.out none) s' → Rel K s' → SqL K s'.H p vs ∧ RpA s'.F vs xs := fun q => by
    cases q with
    | lst e q => exact ⟨_, _, rfl, SqL.of (R.sub _ _ e), (fun j z => by cases z), fun s' S' R' => ⟨SqL.of (R'.sub _ _ (S'.mono (R.out none) _ _ e)), q.mono (S'.mono (R.out none))⟩⟩
  cases w with
  | d x =>
    cases x with
    | list ys => cases h; exact fin r
    | _ => cases h
  | l ys =>
    cases h
    obtain ⟨p, vs, e, q, q2, q3, q4, q5⟩ := r
    exact ⟨p, vs, e, SqL.of q, (fun j z => by cases z), fun s' S' R' => ⟨SqL.of (S'.keep p _ q q5), q2.mono (S'.mono (R.out none))⟩⟩
  | t ys => cases h
  | c i =>
    have r' : s.σ[i]? = some (some v) := r
    simp only [W.walkL] at h
    cases hb : s.ρ[i]? with
    | none => rw [hb] at h; cases h
    | some o =>
      cases o with
      | none => rw [hb] at h; cases h
      | some b =>
        rw [hb] at h
        have hx : b.isX = false := by cases b <;> first | rfl | cases h
        obtain ⟨v', hv, q⟩ := R.slot i _ hb
        rw [r'] at hv
        cases hv
        cases b with
        | x => cases h
        | d y =>
          cases y with
          | list ys => cases h; exact fin q
          | _ => cases h
        | s ys =>
          cases h
          obtain ⟨p, vs, e, q1, q2⟩ := q
          exact ⟨p, vs, e, sub_sqL R.sub q1, (fun j z => by cases z), fun s' S' R' => ⟨sub_sqL R'.sub (sub_sqL (S'.mono (R.out none)) q1), q2.mono (S'.mono (R.out none))⟩⟩
        | l ys =>
          cases h
          obtain ⟨p, vs, e, q1, q2⟩ := q
          subst e
          refine ⟨p, vs, rfl, SqL.of q1, (fun j z => by cases z; exact hb), fun s' S' R' => ?_⟩
          have nc : ¬ Cell (s.out (some i)) p := fun ⟨j, c⟩ => by
            obtain ⟨c1, c2⟩ := c.ofOut
            exact c2 (by rw [R.sep j i p c1 ⟨r', _, hb, rfl⟩])
          exact ⟨SqL.of (S'.keep p _ q1 nc), q2.mono (S'.mono (R.out (some i)))⟩
        | t _ => cases h
section
variable {X : Cx} {Γ : Cn} {Wx : WX} {a b c e tg : Expr} {f g f1 f2 : Mx W} {fs : Mx (List W)} {pos : Pos}
theorem posti_bnd {s : Sx} {Q : It → Hp → Prop} {k : W → Mx Walk} {K : V → Hp → Prop} (h : PostI Γ Wx s (bnd f k s.ρ) Q)
    (hk : ∀ v w F1 H1 ρ1, f s.ρ = .ok w ρ1 → Rel Γ.K ⟨F1, s.σ, H1, ρ1⟩ → Step Γ.np s ⟨F1, s.σ, H1, ρ1⟩ → VRep Γ.K s.H ⟨F1, s.σ, H1, ρ1⟩ v w → PostI Γ Wx s (k w ρ1) Q → K v H1) : Post Γ Wx s (f s.ρ) K := by
  unfold bnd at h
  cases e : f s.ρ with
  | ok w ρ1 =>
    rw [e] at h
    exact fun v F1 H1 R1 S1 r => hk v w F1 H1 ρ1 e R1 S1 r h
  | er c ρ1 => rw [e] at h; exact h
  | st => rw [e] at h; exact h
theorem di_seq (he : DE X Γ Wx e f) (hK : X.K = Γ.K) : DI X Γ Wx tg e (mWalk f) :=
  PI.imp (PI.or (pi_list he) (PI.or (pi_tup he) (pi_str he))) fun σ H Q ⟨F, ρ, R, h⟩ => by
    rw [hK]
    have h0 := h
    unfold mWalk bnd at h0
    cases e1 : f ρ with
    | st => rw [e1] at h0; exact h0.elim
    | er c ρ1 =>
      rw [e1] at h0
      exact .inl ⟨F, ρ, R, posti_bnd (s := ⟨F, σ, H, ρ⟩) h fun v w F1 H1 ρ1 e' R1 S1 r h1 => by
        have e' : f ρ = _ := e'
        rw [e1] at e'; cases e'⟩
    | ok w0 ρ0 =>
      rw [e1] at h0
      simp only at h0
      cases e2 : w0.walkL ρ0 with
      | some k =>
        refine .inl ⟨F, ρ, R, posti_bnd (s := ⟨F, σ, H, ρ⟩) h fun v w F1 H1 ρ1 e' R1 S1 r h1 => ?_⟩
        have e' : f ρ = _ := e'
        rw [e1] at e'; cases e'
        simp only [e2] at h1
        obtain ⟨p, vs, rfl, q, mv, q2⟩ := walkL_ok (s := ⟨F1, σ, H1, ρ0⟩) R1 r e2
        refine ⟨p, rfl, ⟨vs, q⟩, h1 _ F1 H1 R1 S1 mv fun i s' S' R' => ?_⟩
        obtain ⟨q3, q4⟩ := q2 s' S' R'
        refine ⟨fun hi => ⟨vs, q3, by rw [q4.length]; exact hi⟩, fun d hd => ?_⟩
        obtain ⟨u, hu, ru⟩ := q4.get hd
        exact ⟨⟨vs, u, q3, hu⟩, fun v' H' ⟨y1, y2⟩ => by
          subst y1
          have := y2 vs q3
          rw [hu] at this
          cases this
          exact ⟨s'.F, R', Step.refl _, ru⟩⟩
      | none =>
        simp only [e2] at h0
        cases e3 : w0.asD ρ0 with
        | none => rw [e3] at h0; exact h0.elim
        | some x =>
          rw [e3] at h0
          cases x with
          | tuple xs =>
            refine .inr (.inl ⟨F, ρ, R, posti_bnd (s := ⟨F, σ, H, ρ⟩) h fun v w F1 H1 ρ1 e' R1 S1 r h1 => ?_⟩)
            have e' : f ρ = _ := e'
            rw [e1] at e'; cases e'
            simp only [e2, e3] at h1
            obtain ⟨p, vs, rfl, f1, q1⟩ := tup_inv (VRep.data (s := ⟨F1, σ, H1, ρ0⟩) R1 r e3)
            have f1 : F1 p = some (.tup vs) := f1
            refine ⟨p, rfl, ⟨vs, SqT.of (R1.sub _ _ f1)⟩, h1 _ F1 H1 R1 S1 (fun j z => by cases z) fun i s' S' R' => ?_⟩
            have q3 : SqT Γ.K s'.H p vs := SqT.of (R'.sub _ _ (S'.mono R1 _ _ f1))
            have q4 : RpA s'.F vs xs := q1.mono (S'.mono R1)
            refine ⟨fun hi => ⟨vs, q3, by rw [q4.length]; exact hi⟩, fun d hd => ?_⟩
            obtain ⟨u, hu, ru⟩ := q4.get hd
            exact ⟨⟨vs, u, q3, hu⟩, fun v' H' ⟨y1, y2⟩ => by
              subst y1
              have := y2 vs q3
              rw [hu] at this
              cases this
              exact ⟨s'.F, R', Step.refl _, ru⟩⟩
          | str z =>
            refine .inr (.inr ⟨F, ρ, R, posti_bnd (s := ⟨F, σ, H, ρ⟩) h fun v w F1 H1 ρ1 e' R1 S1 r h1 => ?_⟩)
            have e' : f ρ = _ := e'
            rw [e1] at e'; cases e'
            simp only [e2, e3] at h1
            have ev := (VRep.data (s := ⟨F1, σ, H1, ρ0⟩) R1 r e3).strV
            subst ev
            refine ⟨z, rfl, h1 _ F1 H1 R1 S1 (fun j z => by cases z) fun i s' S' R' => ?_⟩
            refine ⟨fun hi => (by simpa using hi : z.cps.size ≤ i), fun d hd => ?_⟩
            rw [List.getElem?_map] at hd
            cases hc : z.cps.toList[i]? with
            | none => rw [hc] at hd; cases hd
            | some c =>
              rw [hc] at hd
              cases hd
              have hi : i < z.cps.size := by
                have := (List.getElem?_eq_some_iff.mp hc).1
                simpa using this
              refine ⟨hi, fun v' H' ⟨y1, c', hc', y2⟩ => ?_⟩
              subst y1 y2
              have e9 : c' = c := by
                rw [Array.getElem?_toList] at hc
                rw [hc'] at hc
                exact Option.some.inj hc
              subst e9
              exact ⟨s'.F, R', Step.refl _, .str _⟩
          | _ => exact h0.elim
/-! range -/
def rangeD (lo : Int) (n : Nat) : List D := (List.range n).map fun (k : Nat) => PyData.int (lo + (k : Int))
def gRng1 (ws : List W) (ρ : Env) : Out Walk := match ws with
  | [w] => match w.asD ρ with
    | some (.int n) => if -1000000000 ≤ n ∧ n ≤ 1000000000 then .ok (rangeD 0 n.toNat, none) ρ else .st
    | _ => .st
  | _ => .st
def gRng2 (ws : List W) (ρ : Env) : Out Walk := match ws with
  | [w, w'] => match w.asD ρ, w'.asD ρ with
    | some (.int i), some (.int j) => if -1000000000 ≤ i ∧ i ≤ 1000000000 ∧ -1000000000 ≤ j ∧ j ≤ 1000000000 then .ok (rangeD i (j - i).toNat, none) ρ else .st
    | _, _ => .st
  | _ => .st
def mRng1 (fs : Mx (List W)) : Mx Walk := bnd fs gRng1
def mRng2 (fs : Mx (List W)) : Mx Walk := bnd fs gRng2
theorem postia_bnd {s : Sx} {Q : It → Hp → Prop} {k : List W → Mx Walk} {K : List V → Hp → Prop} (h : PostI Γ Wx s (bnd fs k s.ρ) Q)
    (hk : ∀ vs ws F1 H1 ρ1, Rel Γ.K ⟨F1, s.σ, H1, ρ1⟩ → Step Γ.np s ⟨F1, s.σ, H1, ρ1⟩ → VReps Γ.K s.H ⟨F1, s.σ, H1, ρ1⟩ vs ws → PostI Γ Wx s (k ws ρ1) Q → K vs H1) : PostA Γ Wx s (fs s.ρ) K := by
  unfold bnd at h
  cases e : fs s.ρ with
  | ok w ρ1 =>
    rw [e] at h
    exact fun v F1 H1 R1 S1 r => hk v w F1 H1 ρ1 R1 S1 r h
  | er c ρ1 => rw [e] at h; exact h
  | st => rw [e] at h; exact h
theorem iter_range {s : Sx} {lo : Int} {n : Nat} : IterOk Γ s (Itr lo n) (rangeD lo n) := fun i s' S' R' => by
  refine ⟨fun hi => (by simpa [rangeD] using hi : n ≤ i), fun d hd => ?_⟩
  unfold rangeD at hd
  rw [List.getElem?_map] at hd
  by_cases hi : i < n
  · rw [List.getElem?_range hi] at hd
    cases hd
    refine ⟨hi, fun v' H' ⟨y1, y2⟩ => ?_⟩
    subst y1 y2
    exact ⟨s'.F, R', Step.refl _, .int _⟩
  · rw [List.getElem?_eq_none (by simpa using hi)] at hd
    cases hd
theorem di_range1 {p : Pos} (hm : X.mg "range" = none) (ha : DA X Γ Wx [a] fs) (hg : Gl X "range" := by rfl) (hs : starEach [a] X.env = [(false, eval a X.env)] := by rfl) : DI X Γ Wx tg (.Call (.Name "range" p) [a] [] pos) (mRng1 fs) :=
  PI.imp (pi_range1 hg hm ha hs) fun σ H Q ⟨F, ρ, R, h⟩ => ⟨F, ρ, R, postia_bnd (s := ⟨F, σ, H, ρ⟩) h fun vs ws F1 H1 ρ1 R1 S1 r h1 => by
    unfold gRng1 at h1
    split at h1
    · rename_i w
      obtain ⟨v, rfl, q0⟩ := VReps.one r
      split at h1
      · rename_i n e1
        split at h1
        · rename_i hn
          exact ⟨n, by rw [(VRep.data (s := ⟨F1, σ, H1, ρ1⟩) R1 q0 e1).intV], by omega, by omega, h1 _ F1 H1 R1 S1 (fun j z => by cases z) iter_range⟩
        · exact h1.elim
      · exact h1.elim
    · exact h1.elim⟩
theorem di_range2 {p : Pos} (hm : X.mg "range" = none) (ha : DA X Γ Wx [a, b] fs) (hg : Gl X "range" := by rfl) (hs : starEach [a, b] X.env = [(false, eval a X.env), (false, eval b X.env)] := by rfl) (hs2 : starEach [b] X.env = [(false, eval b X.env)] := by rfl) : DI X Γ Wx tg (.Call (.Name "range" p) [a, b] [] pos) (mRng2 fs) :=
  PI.imp (pi_range2 hg hm ha hs hs2) fun σ H Q ⟨F, ρ, R, h⟩ => ⟨F, ρ, R, postia_bnd (s := ⟨F, σ, H, ρ⟩) h fun vs ws F1 H1 ρ1 R1 S1 r h1 => by
    unfold gRng2 at h1
    split at h1
    · rename_i w w'
      obtain ⟨v, v', rfl, q0, q1⟩ := VReps.two r
      split at h1
      · rename_i n m e1 e2
        split at h1
        · rename_i hn
          exact ⟨n, m, by rw [(VRep.data (s := ⟨F1, σ, H1, ρ1⟩) R1 q0 e1).intV, (VRep.data (s := ⟨F1, σ, H1, ρ1⟩) R1 q1 e2).intV], ⟨by omega, by omega, by omega, by omega⟩, h1 _ F1 H1 R1 S1 (fun j z => by cases z) iter_range⟩
        · exact h1.elim
      · exact h1.elim
    · exact h1.elim⟩
/-! ### for -/
def loop (bd : Bd) (body : Mx Fl) : List D → Mx Fl
  | [], ρ => .ok .nx ρ
  | x :: xs, ρ => match bd x ρ with
    | none => .st
    | some ρ1 => match body ρ1 with
      | .ok .nx ρ2 => loop bd body xs ρ2
      | .ok .ct ρ2 => loop bd body xs ρ2
      | .ok .bk ρ2 => .ok .nx ρ2
      | o => o
def backR (ρ : Env) (w : Walk) : Option Env := match w.2 with
  | none => some ρ
  | some j => match ρ[j]? with
    | some none => some (ρ.set j (some (.l w.1)))
    | _ => none
def fin {α : Type} (w : Walk) : Out α → Out α
  | .ok f ρ => match backR ρ w with
    | some ρ' => .ok f ρ'
    | none => .st
  | .er c ρ => match backR ρ w with
    | some ρ' => .er c ρ'
    | none => .st
  | .st => .st
def sFor (it : Mx Walk) (bd : Bd) (body : Mx Fl) : Mx Fl := bnd it fun w ρ => fin w (loop bd body w.1 (outR ρ w.2))
/-- what was set aside comes back -/
theorem back_ok {K : PySem.W.Frag} {np : Nat} {s s2 : Sx} {w : Walk} {ρ' : Env} (R : Rel K s) (mv : MvOk s.ρ w) (S : Step np (s.out w.2) s2) (R2 : Rel K s2) (h : backR s2.ρ w = some ρ') : Rel K ⟨s2.F, s2.σ, s2.H, ρ'⟩ ∧ Step np s ⟨s2.F, s2.σ, s2.H, ρ'⟩ := by
  obtain ⟨xs, o⟩ := w
  cases o with
  | none => cases h; exact ⟨R2, S⟩
  | some j =>
    have hb : s.ρ[j]? = some (some (.l xs)) := mv j rfl
    simp only [backR] at h
    cases hj : s2.ρ[j]? with
    | none => rw [hj] at h; cases h
    | some o =>
      cases o with
      | some b => rw [hj] at h; cases h
      | none =>
        rw [hj] at h
        cases h
        obtain ⟨v, hv, p, vs, e1, hH, hr⟩ := R.slot j _ hb
        subst e1
        have hc : CellAt s j p := ⟨hv, _, hb, rfl⟩
        have nco : ¬ Cell (s.out (some j)) p := fun ⟨k, c⟩ => by
          obtain ⟨c1, c2⟩ := c.ofOut
          exact c2 (by rw [R.sep k j p c1 hc])
        have S' : Step np (s.out (some j)) s2 := S
        have hH2 : s2.H p = some (.lst vs) := S'.keep p _ hH nco
        have hF2 : s2.F p = none := (S'.fz p _ hH nco).none (R.own j p hc) (fun _ z => by cases z)
        have hσ : s2.σ[j]? = some (some (.ref p)) := (S'.same j fun ⟨b, z⟩ => by rw [hj] at z; cases z).trans hv
        have nc2 : ¬ Cell s2 p := fun c => (S'.cells p c).elim nco fun z => by
          have z' : s.H p = none := z
          rw [hH] at z'; cases z'
        have hl : j < s2.ρ.length := (List.getElem?_eq_some_iff.mp hj).1
        have m := S'.mono (R.out (some j))
        have cc : ∀ k a, CellAt ⟨s2.F, s2.σ, s2.H, s2.ρ.set j (some (.l xs))⟩ k a → (k = j ∧ a = p) ∨ (k ≠ j ∧ CellAt s2 k a) := fun k a ⟨h1, b, h2, h3⟩ => by
          rcases getElem?_set_cases h2 with ⟨hk, _⟩ | ⟨hk, h4⟩
          · subst hk
            have h1' : s2.σ[k]? = some (some (.ref a)) := h1
            rw [hσ] at h1'
            cases h1'
            exact .inl ⟨rfl, rfl⟩
          · exact .inr ⟨hk, h1, b, h4, h3⟩
        have outne : ∀ {k : Nat} {b : B}, k ≠ j → s.ρ[k]? = some (some b) → (s.out (some j)).ρ[k]? = some (some b) := fun {k b} hk e => by
          show (s.ρ.set j none)[k]? = _
          rw [List.getElem?_set_ne (Ne.symm hk)]
          exact e
        refine ⟨⟨R2.sub, by simpa using R2.len, fun k b hk hx => ?_, fun k l a c1 c2 => ?_, fun k a c => ?_⟩, ⟨fun a o h n => S'.keep a o h fun ⟨k, c⟩ => n ⟨k, c.ofOut.1⟩, fun a o h n => S'.fz a o h fun ⟨k, c⟩ => n ⟨k, c.ofOut.1⟩, S'.there, fun a ⟨k, c⟩ => ?_, fun k a hk l => ?_, fun k hk => ?_, fun k hk => ?_⟩⟩
        · rcases getElem?_set_cases hk with ⟨hkj, h4⟩ | ⟨hkj, h4⟩
          · cases h4
            subst hkj
            exact ⟨_, hσ, p, vs, rfl, hH2, hr.mono m⟩
          · exact R2.slot k b h4
        · rcases cc k a c1 with ⟨h1, h2⟩ | ⟨h1, h2⟩ <;> rcases cc l a c2 with ⟨g1, g2⟩ | ⟨g1, g2⟩
          · rw [h1, g1]
          · subst h2; exact absurd ⟨l, g2⟩ nc2
          · subst g2; exact absurd ⟨k, h2⟩ nc2
          · exact R2.sep k l a h2 g2
        · rcases cc k a c with ⟨h1, h2⟩ | ⟨h1, h2⟩
          · subst h2; exact hF2
          · exact R2.own k a h2
        · rcases cc k a c with ⟨h1, h2⟩ | ⟨h1, h2⟩
          · subst h2; exact .inl ⟨j, hc⟩
          · rcases S'.cells a ⟨k, h2⟩ with ⟨l, c'⟩ | z
            · exact .inl ⟨l, c'.ofOut.1⟩
            · exact .inr z
        · by_cases hkj : k = j
          · subst hkj
            obtain ⟨l1, b, l2, l3⟩ := l
            rw [hv] at l1
            cases l1
            exact ⟨hσ, _, List.getElem?_set_self hl, rfl⟩
          · obtain ⟨l1, b, l2, l3⟩ := l
            obtain ⟨h1, b', h2, h3⟩ := S'.par k a hk ⟨l1, b, outne hkj l2, l3⟩
            exact ⟨h1, b', by show (s2.ρ.set j _)[k]? = _; rw [List.getElem?_set_ne (Ne.symm hkj)]; exact h2, h3⟩
        · by_cases hkj : k = j
          · subst hkj; exact ⟨_, List.getElem?_set_self hl⟩
          · obtain ⟨b, hb'⟩ := hk
            exact set_stay (S'.stay k ⟨b, outne hkj hb'⟩)
        · exact S'.same k fun z => hk (set_stay z)
theorem fin_ok {s : Sx} {w : Walk} {o : Out Fl} {Dn : Ends} (R : Rel Γ.K s) (mv : MvOk s.ρ w) (h : PostS Γ Wx s (fin w o) Dn) : PostS Γ Wx (s.out w.2) o Dn := by
  have hσ : (s.out w.2).σ = s.σ := rfl
  cases o with
  | st => exact h
  | er c ρ =>
    unfold fin at h
    intro F' σ' H' C hC R' S'
    cases e : backR ρ w with
    | none => simp only [e] at h; exact h.elim
    | some ρ' =>
      simp only [e] at h
      obtain ⟨R3, S3⟩ := back_ok (s2 := ⟨F', σ', H', ρ⟩) R mv S' R' e
      exact h F' σ' H' C hC R3 S3
  | ok f ρ =>
    unfold fin at h
    cases e : backR ρ w with
    | none => simp only [e] at h; exact h.elim
    | some ρ' =>
      simp only [e] at h
      cases f with
      | nx =>
        intro F' σ' H' R' S'
        obtain ⟨R3, S3⟩ := back_ok (s2 := ⟨F', σ', H', ρ⟩) R mv S' R' e
        exact h F' σ' H' R3 S3
      | bk =>
        intro F' σ' H' R' S'
        obtain ⟨R3, S3⟩ := back_ok (s2 := ⟨F', σ', H', ρ⟩) R mv S' R' e
        exact h F' σ' H' R3 S3
      | ct =>
        intro F' σ' H' R' S'
        obtain ⟨R3, S3⟩ := back_ok (s2 := ⟨F', σ', H', ρ⟩) R mv S' R' e
        exact h F' σ' H' R3 S3
      | rt u =>
        intro v F' σ' H' R' S' r
        obtain ⟨R3, S3⟩ := back_ok (s2 := ⟨F', σ', H', ρ⟩) R mv S' R' e
        refine h v F' σ' H' R3 S3 ?_
        have hs : ∀ p, (s.out w.2).H p = none → ¬ Cell ⟨F', σ', H', ρ⟩ p → ¬ Cell ⟨F', σ', H', ρ'⟩ p := fun p hp n c => by
          rcases S3.cells p c with ⟨k, c'⟩ | _
          · obtain ⟨o', e'⟩ := R.cellH c'
            have hp' : s.H p = none := hp
            rw [e'] at hp'; cases hp'
          · obtain ⟨k, c1, b, c2, c3⟩ := c
            unfold backR at e
            cases hw : w.2 with
            | none => simp only [hw] at e; cases e; exact n ⟨k, c1, b, c2, c3⟩
            | some j =>
              simp only [hw] at e
              split at e
              · rename_i hj
                cases e
                rcases getElem?_set_cases c2 with ⟨hk, _⟩ | ⟨hk, h4⟩
                · subst hk
                  obtain ⟨v', hv', _⟩ := R.slot k _ (mv k hw)
                  have q := S'.same k fun ⟨b, z⟩ => by
                    have z' : ρ[k]? = some (some b) := z
                    rw [hj] at z'; cases z'
                  have c1' : σ'[k]? = some (some (.ref p)) := c1
                  have q' : σ'[k]? = s.σ[k]? := q
                  rw [c1'] at q'
                  obtain ⟨o', e'⟩ := R.cellH ⟨q'.symm, _, mv k hw, rfl⟩
                  have hp' : s.H p = none := hp
                  rw [e'] at hp'; cases hp'
                · exact n ⟨k, c1, b, h4, c3⟩
              · cases e
        cases u with
        | d x => exact r
        | c i => exact r
        | l xs =>
          obtain ⟨p, vs, e1, h1, h2, h3, h4, h5⟩ := r
          exact ⟨p, vs, e1, h1, h2, h3, h4, hs p h4 h5⟩
        | t xs =>
          obtain ⟨p, vs, e1, h1, h2, h3, h4, h5⟩ := r
          exact ⟨p, vs, e1, h1, h2, h3, h4, hs p h4 h5⟩
theorem postsi_bnd {s : Sx} {Dn : Ends} {m : Mx Walk} {k : Walk → Mx Fl} {K : It → Hp → Prop} (h : PostS Γ Wx s (bnd m k s.ρ) Dn)
    (hk : ∀ w J F1 H1 ρ1, Rel Γ.K ⟨F1, s.σ, H1, ρ1⟩ → Step Γ.np s ⟨F1, s.σ, H1, ρ1⟩ → MvOk ρ1 w → IterOk Γ (Sx.out ⟨F1, s.σ, H1, ρ1⟩ w.2) J w.1 → PostS Γ Wx ⟨F1, s.σ, H1, ρ1⟩ (k w ρ1) Dn → K J H1) : PostI Γ Wx s (m s.ρ) K := by
  unfold bnd at h
  cases e : m s.ρ with
  | ok w ρ1 =>
    rw [e] at h
    exact fun J F1 H1 R1 S1 mv it => hk w J F1 H1 ρ1 R1 S1 mv it (PostS.step S1 h)
  | er c ρ1 => rw [e] at h; exact fun F' H' C hC R S => h F' s.σ H' C hC R S
  | st => rw [e] at h; exact h
theorem ds_for {iter : Expr} {body : List Stmt} {m : Mx Walk} {g : TG} {bd : Bd} {p : Mx Fl} (hp : PassesOwn (model X.prog X.w) X.A X.env X.xe) (hc : X.calm = true) (hi : DI X Γ Wx tg iter m) (hg : PG X tg g) (ok : OkG Γ g bd) (hb : DSs X Γ Wx body p)
    (hs : ∀ x, foldedSetIterable iter X.env x = pure x := by intro _; rfl) : DS X Γ Wx (.For tg iter body [] pos) (sFor m bd p) :=
  PS.imp (ps_for hp hc hi hg hb hs) fun Dn σ H ⟨F, ρ, R, h⟩ => ⟨F, ρ, R, postsi_bnd (s := ⟨F, σ, H, ρ⟩) h fun w J F1 H1 ρ1 R1 S1 mv it h1 => by
    have h2 := fin_ok (s := ⟨F1, σ, H1, ρ1⟩) R1 mv h1
    refine ⟨fun i n σ' H' => ∃ F' ρ', Rel Γ.K ⟨F', σ', H', ρ'⟩ ∧ Step Γ.np (Sx.out ⟨F1, σ, H1, ρ1⟩ w.2) ⟨F', σ', H', ρ'⟩ ∧ i ≤ w.1.length ∧ n = w.1.length - i ∧ PostS Γ Wx ⟨F', σ', H', ρ'⟩ (loop bd p (w.1.drop i) ρ') Dn,
      ⟨w.1.length, F1, outR ρ1 w.2, R1.out w.2, Step.refl _, Nat.zero_le _, by simp, h2⟩, ?_⟩
    rintro i n σ' H' ⟨F', ρ', R', S', hi, rfl, h'⟩
    obtain ⟨stop, turn⟩ := it i ⟨F', σ', H', ρ'⟩ S'.kp R'
    cases e : w.1[i]? with
    | none =>
      have hle : w.1.length ≤ i := List.getElem?_eq_none_iff.mp e
      refine .inl ⟨stop hle, ?_⟩
      rw [List.drop_eq_nil_of_le hle] at h'
      exact h' F' σ' H' R' (Step.refl _)
    | some d =>
      have hlt : i < w.1.length := (List.getElem?_eq_some_iff.mp e).1
      obtain ⟨go, yld⟩ := turn d e
      refine .inr ⟨go, fun σ2 H2 => ∃ F2 ρ2, Rel Γ.K ⟨F2, σ2, H2, ρ2⟩ ∧ Step Γ.np (Sx.out ⟨F1, σ, H1, ρ1⟩ w.2) ⟨F2, σ2, H2, ρ2⟩ ∧ PostS Γ Wx ⟨F2, σ2, H2, ρ2⟩ (loop bd p (w.1.drop (i + 1)) ρ2) Dn,
        fun σ2 H2 ⟨F2, ρ2, R2, S2, q2⟩ => ⟨w.1.length - (i + 1), by omega, F2, ρ2, R2, S2, hlt, rfl, q2⟩, fun v H2 y => ?_⟩
      obtain ⟨F2, R2, S2, rv⟩ := yld v H2 y
      have ed : w.1.drop i = d :: w.1.drop (i + 1) := by
        rw [List.drop_eq_getElem_cons hlt]
        congr 1
        exact Option.some.inj ((List.getElem?_eq_getElem hlt).symm.trans e)
      rw [ed] at h'
      have h' := h'.step (s1 := ⟨F2, σ', H2, ρ'⟩) S2
      unfold loop at h'
      cases eb : bd d ρ' with
      | none => rw [eb] at h'; exact h'.elim
      | some ρ3 =>
        rw [eb] at h'
        refine ok ⟨F2, σ', H2, ρ'⟩ v d ρ3 _ R2 rv eb fun σ3 R3 S3 => ⟨F2, ρ3, R3, ?_⟩
        have St : Step Γ.np (Sx.out ⟨F1, σ, H1, ρ1⟩ w.2) ⟨F2, σ3, H2, ρ3⟩ := (S'.trans S2).trans S3
        have h' := h'.step (s1 := ⟨F2, σ3, H2, ρ3⟩) S3
        cases ep : p ρ3 with
        | st => simp only [ep] at h'; exact h'.elim
        | er c ρ4 => simp only [ep] at h'; exact h'
        | ok f ρ4 =>
          simp only [ep] at h'
          cases f with
          | nx => exact fun F4 σ4 H4 R4 S4 => ⟨F4, ρ4, R4, St.trans S4, h'.step S4⟩
          | ct => exact fun F4 σ4 H4 R4 S4 => ⟨F4, ρ4, R4, St.trans S4, h'.step S4⟩
          | bk => exact fun F4 σ4 H4 R4 S4 => h' F4 σ4 H4 R4 S4
          | rt u => exact h'⟩
end
end TD
namespace TD
open PySem PySem.Spec L2

section
variable {X : Cx} {Γ : Cn} {Wx : WX} {a b c e tg : Expr} {f g f1 f2 : Mx W} {fs : Mx (List W)} {pos : Pos} {t : Mx Bool} {p q : Mx Fl}
/-! ### while -/
def whileN (t : Mx Bool) (p : Mx Fl) : Nat → Mx Fl
  | 0, _ => .st
  | n + 1, ρ => match t ρ with
    | .ok false ρ1 => .ok .nx ρ1
    | .ok true ρ1 => match p ρ1 with
      | .ok .nx ρ2 => whileN t p n ρ2
      | .ok .ct ρ2 => whileN t p n ρ2
      | .ok .bk ρ2 => .ok .nx ρ2
      | o => o
    | .er c ρ1 => .er c ρ1
    | .st => .st
open Classical in
noncomputable def sWhile (t : Mx Bool) (p : Mx Fl) : Mx Fl := fun ρ => if h : ∃ n, whileN t p n ρ ≠ .st then whileN t p (Classical.choose h) ρ else .st
theorem whileN_mono : ∀ (n m : Nat) (ρ : Env), n ≤ m → whileN t p n ρ ≠ .st → whileN t p m ρ = whileN t p n ρ
  | 0, _, _, _, h => absurd rfl h
  | n + 1, 0, _, hm, _ => absurd hm (Nat.not_succ_le_zero n)
  | n + 1, m + 1, ρ, hm, h => by
    simp only [whileN] at h ⊢
    cases e : t ρ with
    | st => rfl
    | er c ρ1 => rfl
    | ok b ρ1 =>
      rw [e] at h
      cases b with
      | false => rfl
      | true =>
        simp only at h ⊢
        cases e2 : p ρ1 with
        | st => simp only
        | er c ρ2 => simp only
        | ok fl ρ2 =>
          rw [e2] at h
          cases fl with
          | nx => exact whileN_mono n m ρ2 (Nat.le_of_succ_le_succ hm) h
          | ct => exact whileN_mono n m ρ2 (Nat.le_of_succ_le_succ hm) h
          | bk => rfl
          | rt u => rfl
theorem sWhile_of {n : Nat} {ρ : Env} {o : Out Fl} (h : whileN t p n ρ = o) (hst : o ≠ .st) : sWhile t p ρ = o := by
  have hex : ∃ n, whileN t p n ρ ≠ .st := ⟨n, by rw [h]; exact hst⟩
  unfold sWhile
  rw [dif_pos hex]
  have h1 := Classical.choose_spec hex
  rcases Nat.le_total (Classical.choose hex) n with z | z
  · rw [← whileN_mono _ _ ρ z h1]; exact h
  · rw [whileN_mono _ _ ρ z (by rw [h]; exact hst)]; exact h
theorem sWhile_inv {ρ : Env} (h : sWhile t p ρ ≠ .st) : ∃ n, whileN t p n ρ = sWhile t p ρ := by
  unfold sWhile at h ⊢
  split at h
  · rename_i hex
    exact ⟨Classical.choose hex, by rw [dif_pos hex]⟩
  · exact absurd rfl h
theorem ds_while {test : Expr} {body : List Stmt} (hp : PassesOwn (model X.prog X.w) X.A X.env X.xe) (ht : DT X Γ Wx test t) (hb : DSs X Γ Wx body p) : DS X Γ Wx (.While test body [] pos) (sWhile t p) :=
  PS.imp (ps_while hp ht hb) fun Dn σ H ⟨F, ρ, R, h⟩ => by
    have hne : sWhile t p ρ ≠ .st := fun z => by rw [z] at h; exact h
    obtain ⟨n, hn⟩ := sWhile_inv hne
    rw [← hn] at h
    refine ⟨fun m σ H => ∃ F ρ, Rel Γ.K ⟨F, σ, H, ρ⟩ ∧ PostS Γ Wx ⟨F, σ, H, ρ⟩ (whileN t p m ρ) Dn, ⟨n, F, ρ, R, h⟩, ?_⟩
    rintro m σ H ⟨F, ρ, R, h⟩
    cases m with
    | zero => exact h.elim
    | succ m =>
      refine ⟨F, ρ, R, ?_⟩
      simp only [whileN] at h
      cases e : t ρ with
      | st => rw [e] at h; exact h
      | er c ρ1 => rw [e] at h; exact fun F' H' C hC R' S' => h F' σ H' C hC R' S'
      | ok b ρ1 =>
        rw [e] at h
        intro F1 H1 R1 S1
        cases b with
        | false => exact h F1 σ H1 R1 S1
        | true =>
          refine ⟨fun σ2 H2 => ∃ F2 ρ2, Rel Γ.K ⟨F2, σ2, H2, ρ2⟩ ∧ PostS Γ Wx ⟨F2, σ2, H2, ρ2⟩ (whileN t p m ρ2) Dn, fun σ2 H2 q => ⟨m, Nat.lt_succ_self m, q⟩, F1, ρ1, R1, ?_⟩
          simp only at h
          have h' := PostS.step (s1 := ⟨F1, σ, H1, ρ1⟩) S1 h
          cases e2 : p ρ1 with
          | st => rw [e2] at h'; exact h'
          | er c ρ2 => rw [e2] at h'; exact h'
          | ok fl ρ2 =>
            rw [e2] at h'
            cases fl with
            | nx => exact fun F4 σ4 H4 R4 S4 => ⟨F4, ρ2, R4, h'.step S4⟩
            | ct => exact fun F4 σ4 H4 R4 S4 => ⟨F4, ρ2, R4, h'.step S4⟩
            | bk => exact fun F4 σ4 H4 R4 S4 => h' F4 σ4 H4 R4 S4
            | rt u => exact h'
/-! ### list comprehensions -/
def wipeR (ρ : Env) : List Nat → Env
  | [] => ρ
  | v :: vs => (wipeR ρ vs).set v none
theorem wipeR_length (ρ : Env) : ∀ vs : List Nat, (wipeR ρ vs).length = ρ.length
  | [] => rfl
  | v :: vs => by unfold wipeR; rw [List.length_set, wipeR_length ρ vs]
theorem wipeR_some {ρ : Env} {i : Nat} {x : B} : ∀ {vs : List Nat}, (wipeR ρ vs)[i]? = some (some x) → ρ[i]? = some (some x) ∧ i ∉ vs
  | [], h => ⟨h, by simp⟩
  | v :: vs, h => by
    unfold wipeR at h
    rcases getElem?_set_cases h with ⟨_, h4⟩ | ⟨hi, h4⟩
    · cases h4
    · obtain ⟨h1, h2⟩ := wipeR_some h4
      exact ⟨h1, fun z => (List.mem_cons.mp z).elim hi h2⟩
theorem wipeR_out {ρ : Env} {i : Nat} : ∀ {vs : List Nat}, i ∉ vs → (wipeR ρ vs)[i]? = ρ[i]?
  | [], _ => rfl
  | v :: vs, h => by
    unfold wipeR
    rw [List.getElem?_set_ne (fun z => h (by rw [z]; exact List.mem_cons_self))]
    exact wipeR_out fun z => h (List.mem_cons_of_mem _ z)
def compL (vs : List Nat) (bd : Bd) (tt : Mx Bool) (te : Mx W) : List D → List D → Mx (List D)
  | [], acc, ρ => .ok acc ρ
  | x :: xs, acc, ρ => match bd x ρ with
    | none => .st
    | some ρ1 => match tt ρ1 with
      | .ok true ρ2 => match te ρ2 with
        | .ok w ρ3 => match w.datum ρ3 with
          | some (y, ρ4) => if acc.length < 100000 then compL vs bd tt te xs (acc ++ [y]) (wipeR ρ4 vs) else .st
          | none => .st
        | _ => .st
      | .ok false ρ2 => compL vs bd tt te xs acc (wipeR ρ2 vs)
      | _ => .st
def restoreR (ρ0 : Env) : List Nat → Env → Option Env
  | [], ρ => some ρ
  | i :: vs, ρ => match ρ0[i]? with
    | some (some (.d x)) => restoreR ρ0 vs (ρ.set i (some (.d x)))
    | some (some _) => none
    | _ => restoreR ρ0 vs ρ
theorem restore_spec {ρ0 : Env} : ∀ {vs : List Nat} {ρ ρ' : Env}, restoreR ρ0 vs ρ = some ρ' → ρ'.length = ρ.length ∧ ∀ (k : Nat) (b : B), ρ'[k]? = some (some b) → ρ[k]? = some (some b) ∨ (k ∈ vs ∧ ρ0[k]? = some (some b) ∧ ∃ x, b = .d x)
  | [], ρ, ρ', h => by cases h; exact ⟨rfl, fun k b z => .inl z⟩
  | i :: vs, ρ, ρ', h => by
    unfold restoreR at h
    split at h
    · rename_i x hx
      obtain ⟨h1, h2⟩ := restore_spec h
      refine ⟨by rw [h1, List.length_set], fun k b hk => ?_⟩
      rcases h2 k b hk with z | ⟨z1, z2, z3⟩
      · rcases getElem?_set_cases z with ⟨g1, g2⟩ | ⟨g1, g2⟩
        · cases g2
          subst g1
          exact .inr ⟨List.mem_cons_self, hx, x, rfl⟩
        · exact .inl g2
      · exact .inr ⟨List.mem_cons_of_mem _ z1, z2, z3⟩
    · cases h
    · obtain ⟨h1, h2⟩ := restore_spec h
      refine ⟨h1, fun k b hk => ?_⟩
      rcases h2 k b hk with z | ⟨z1, z2, z3⟩
      · exact .inl z
      · exact .inr ⟨List.mem_cons_of_mem _ z1, z2, z3⟩
/-- what was known stays, or comes back -/
theorem restore_stay {ρ0 : Env} : ∀ {vs : List Nat} {ρ ρ' : Env}, restoreR ρ0 vs ρ = some ρ' → ρ0.length = ρ.length → (∀ k : Nat, (∃ b : B, ρ[k]? = some (some b)) → ∃ b : B, ρ'[k]? = some (some b)) ∧ ∀ k : Nat, k ∈ vs → (∃ b : B, ρ0[k]? = some (some b)) → ∃ b : B, ρ'[k]? = some (some b)
  | [], ρ, ρ', h, _ => by cases h; exact ⟨fun k z => z, fun k z => by cases z⟩
  | i :: vs, ρ, ρ', h, hl => by
    unfold restoreR at h
    split at h
    · rename_i x hx
      obtain ⟨h1, h2⟩ := restore_stay h (by rw [List.length_set]; exact hl)
      have hi : i < ρ.length := by rw [← hl]; exact (List.getElem?_eq_some_iff.mp hx).1
      refine ⟨fun k z => h1 k (set_stay z), fun k hk z => ?_⟩
      rcases List.mem_cons.mp hk with e | e
      · subst e
        exact h1 k ⟨_, List.getElem?_set_self hi⟩
      · exact h2 k e z
    · cases h
    · rename_i h3 h4
      obtain ⟨h1, h2⟩ := restore_stay h hl
      refine ⟨h1, fun k hk z => ?_⟩
      rcases List.mem_cons.mp hk with e | e
      · subst e
        obtain ⟨b, hb⟩ := z
        exact absurd hb (h4 b)
      · exact h2 k e z
def mComp (vs : List Nat) (it : Mx Walk) (bd : Bd) (tt : Mx Bool) (te : Mx W) : Mx W := bnd it fun w ρ => match compL vs bd tt te w.1 [] (wipeR (outR ρ w.2) vs) with
  | .ok ys ρ' => match restoreR (outR ρ w.2) vs ρ' with
    | some ρ'' => match backR ρ'' w with
      | some ρ3 => .ok (.l ys) ρ3
      | none => .st
    | none => .st
  | _ => .st
def tYesM : Mx Bool := fun ρ => .ok true ρ
abbrev DTs (X : Cx) (Γ : Cn) (Wx : WX) (ifs : List Expr) (f : Mx Bool) : Prop := PTs X ifs (tT Γ Wx f)
theorem PTs.imp {ifs : List Expr} {t t' : TT} (h : PTs X ifs t) (i : ∀ σ H Q, t' σ H Q → t σ H Q) : PTs X ifs t' := ⟨fun pins s σ H Q I q => h.run pins s σ H Q I (i σ H Q q)⟩
theorem dts_nil : DTs X Γ Wx [] tYesM := PTs.imp pts_nil fun σ H Q ⟨F, ρ, R, h⟩ => h F H R (Step.refl _)
theorem dts_one (h : DT X Γ Wx c t) : DTs X Γ Wx [c] t := pts_one h
abbrev W0 : WX := fun _ _ _ _ => False
/-- the state of a block: the names vs forgotten -/
theorem Rel.wiped {K : PySem.W.Frag} {s : Sx} {vs : List Nat} {σ : St} (R : Rel K s) (hσ : wipe s.σ vs = wipe σ vs) : Rel K ⟨s.F, wipe σ vs, s.H, wipeR s.ρ vs⟩ := by
  have g : ∀ {i : Nat} {b : B}, (wipeR s.ρ vs)[i]? = some (some b) → s.ρ[i]? = some (some b) ∧ (wipe σ vs)[i]? = s.σ[i]? := fun {i b} h => by
    obtain ⟨h1, h2⟩ := wipeR_some h
    exact ⟨h1, by rw [← hσ, wipe_out h2]⟩
  have cc : ∀ {i a}, CellAt ⟨s.F, wipe σ vs, s.H, wipeR s.ρ vs⟩ i a → CellAt s i a := fun {i a} ⟨h1, b, h2, h3⟩ => by
    obtain ⟨h4, h5⟩ := g h2
    exact ⟨h5.symm.trans h1, b, h4, h3⟩
  refine ⟨R.sub, ?_, fun i b hb hx => ?_, fun i j a c1 c2 => R.sep i j a (cc c1) (cc c2), fun i a c => R.own i a (cc c)⟩
  · show (wipe σ vs).length = (wipeR s.ρ vs).length
    rw [← hσ, wipe_length, wipeR_length]
    exact R.len
  · obtain ⟨h4, h5⟩ := g hb
    obtain ⟨v, hv, r⟩ := R.slotX i b h4 hx
    exact ⟨v, h5.trans hv, r⟩
/-- .. reached from such a state -/
theorem Step.wiped {np : Nat} {s1 s : Sx} {vs : List Nat} {ρ1 : Env} {σ : St} (S : Step np s1 s) (h1 : s1.σ = wipe σ vs) (h2 : s1.ρ = wipeR ρ1 vs) (hσ : wipe s.σ vs = wipe σ vs) : Step np s1 ⟨s.F, wipe σ vs, s.H, wipeR s.ρ vs⟩ := by
  have sm : ∀ {i : Nat}, i ∉ vs → (wipe σ vs)[i]? = s.σ[i]? := fun {i} h => by rw [← hσ, wipe_out h]
  refine ⟨S.keep, S.fz, S.there, fun a ⟨i, h3, b, h4, h5⟩ => ?_, fun i a hi l => ?_, fun i h => ?_, fun i _ => by rw [h1]⟩
  · obtain ⟨h6, h7⟩ := wipeR_some h4
    exact S.cells a ⟨i, (sm h7).symm.trans h3, b, h6, h5⟩
  · obtain ⟨l1, b, l2, l3⟩ := l
    obtain ⟨g1, b', g2, g3⟩ := S.par i a hi ⟨l1, b, l2, l3⟩
    have hn : i ∉ vs := by rw [h2] at l2; exact (wipeR_some l2).2
    exact ⟨(sm hn).trans g1, b', by show (wipeR s.ρ vs)[i]? = _; rw [wipeR_out hn]; exact g2, g3⟩
  · have hn : i ∉ vs := by
      obtain ⟨b, hb⟩ := h
      rw [h2] at hb
      exact (wipeR_some hb).2
    obtain ⟨b, hb⟩ := S.stay i h
    exact ⟨b, by show (wipeR s.ρ vs)[i]? = _; rw [wipeR_out hn]; exact hb⟩
/-- the list that a block fills -/
theorem upd_fresh {K : PySem.W.Frag} {np : Nat} {s0 s : Sx} {p : Addr} {o u : HO} (R : Rel K s) (S : Step np s0 s) (h0 : s0.H p = none) (h : s.H p = some o) (hF : s.F p = none) (hc : ¬ Cell s p) :
    Rel K ⟨s.F, s.σ, upd s.H p u, s.ρ⟩ ∧ Step np s0 ⟨s.F, s.σ, upd s.H p u, s.ρ⟩ := by
  have ne : ∀ {a : Addr} {o : HO}, s0.H a = some o → a ≠ p := fun e z => by rw [z, h0] at e; cases e
  refine ⟨⟨fun a o' e => ?_, R.len, fun i b hb hx => ?_, R.sep, R.own⟩, ⟨fun a o' e n => ?_, S.fz, fun a o' e => ?_, S.cells, S.par, S.stay, S.same⟩⟩
  · show upd s.H p u a = some o'
    rw [upd_ne (fun z => by subst z; rw [hF] at e; cases e)]
    exact R.sub a o' e
  · obtain ⟨v, hv, r⟩ := R.slotX i b hb hx
    refine ⟨v, hv, r.keep (fun _ _ z => z) fun a hb' hv' o' e => ?_⟩
    subst hv'
    show upd s.H p u a = some o'
    rw [upd_ne (fun z => hc ⟨i, by rw [← z]; exact ⟨hv, b, hb, hb'⟩⟩)]
    exact e
  · show upd s.H p u a = some o'
    rw [upd_ne (ne e)]
    exact S.keep a o' e n
  · show ∃ o', upd s.H p u a = some o'
    rw [upd_ne (ne e)]
    exact S.there a o' e
/-- the end of the block: the names are what they were -/
theorem comp_end {K : PySem.W.Frag} {np : Nat} {s s4 : Sx} {w : Walk} {vs : List Nat} {ρ2 ρ3 : Env} (hvs : ∀ i ∈ vs, np ≤ i) (R : Rel K s) (mv : MvOk s.ρ w) (R4 : Rel K s4) (h4 : s4.σ = wipe s.σ vs)
    (S : Step np ⟨s.F, wipe s.σ vs, s.H, wipeR (outR s.ρ w.2) vs⟩ s4) (h2 : restoreR (outR s.ρ w.2) vs s4.ρ = some ρ2) (hw4 : ∀ i ∈ vs, ∀ b : B, s4.ρ[i]? ≠ some (some b)) (h3 : backR ρ2 w = some ρ3) :
    Rel K ⟨s4.F, s.σ, s4.H, ρ3⟩ ∧ Step np s ⟨s4.F, s.σ, s4.H, ρ3⟩ ∧ ∀ p, ¬ Cell s p → s.H p = none → ¬ Cell ⟨s4.F, s.σ, s4.H, ρ3⟩ p → True := by
  have Rw : Rel K ⟨s.F, wipe s.σ vs, s.H, wipeR (outR s.ρ w.2) vs⟩ := (R.out w.2).wiped (σ := s.σ) rfl
  have m : ∀ a o, s.F a = some o → s4.F a = some o := S.mono Rw
  obtain ⟨hl, hs⟩ := restore_spec h2
  have hlen : (outR s.ρ w.2).length = s4.ρ.length := by
    have e1 := R4.len
    rw [h4, wipe_length] at e1
    rw [← e1]
    exact (R.out w.2).len.symm
  obtain ⟨st1, st2⟩ := restore_stay h2 hlen
  have cw : ∀ {a}, Cell ⟨s.F, wipe s.σ vs, s.H, wipeR (outR s.ρ w.2) vs⟩ a → Cell (s.out w.2) a := fun {a} ⟨i, g1, b, g2, g3⟩ => by
    obtain ⟨g4, g5⟩ := wipeR_some g2
    have g1' : (wipe s.σ vs)[i]? = some (some (.ref a)) := g1
    exact ⟨i, (wipe_some g1').1, b, g4, g3⟩
  have cc : ∀ {i a}, CellAt ⟨s4.F, s.σ, s4.H, ρ2⟩ i a → CellAt s4 i a := fun {i a} ⟨g1, b, g2, g3⟩ => by
    rcases hs i b g2 with z | ⟨_, _, x, z⟩
    · have hn : i ∉ vs := fun z' => hw4 i z' b z
      exact ⟨by rw [h4, wipe_out hn]; exact g1, b, z, g3⟩
    · subst z; cases g3
  have R2 : Rel K ⟨s4.F, s.σ, s4.H, ρ2⟩ := by
    refine ⟨R4.sub, ?_, fun i b hb hx => ?_, fun i j a c1 c2 => R4.sep i j a (cc c1) (cc c2), fun i a c => R4.own i a (cc c)⟩
    · show s.σ.length = ρ2.length
      rw [hl, ← hlen]
      exact (R.out w.2).len
    · rcases hs i b hb with z | ⟨_, z, x, e⟩
      · obtain ⟨v, hv, r⟩ := R4.slotX i b z hx
        have hn : i ∉ vs := fun z' => hw4 i z' b z
        rw [h4, wipe_out hn] at hv
        exact ⟨v, hv, r⟩
      · subst e
        obtain ⟨v, hv, r⟩ := R.slot i _ (outR_some z).1
        exact ⟨v, hv, Rp.mono m r⟩
  have S2 : Step np (s.out w.2) ⟨s4.F, s.σ, s4.H, ρ2⟩ := by
    refine ⟨fun a o e n => S.keep a o e fun c => n (cw c), fun a o e n => S.fz a o e fun c => n (cw c), S.there, fun a ⟨i, c⟩ => ?_, fun i a hi l => ?_, fun i h => ?_, fun i _ => rfl⟩
    · rcases S.cells a ⟨i, cc c⟩ with z | z
      · exact .inl (cw z)
      · exact .inr z
    · have hn : i ∉ vs := fun z => Nat.lt_irrefl _ (Nat.lt_of_lt_of_le hi (hvs i z))
      obtain ⟨l1, b, l2, l3⟩ := l
      have l1' : s.σ[i]? = some (some (.ref a)) := l1
      have l2' : (outR s.ρ w.2)[i]? = some (some b) := l2
      obtain ⟨g1, b', g2, g3⟩ := S.par i a hi ⟨by show (wipe s.σ vs)[i]? = _; rw [wipe_out hn]; exact l1', b, by show (wipeR (outR s.ρ w.2) vs)[i]? = _; rw [wipeR_out hn]; exact l2', l3⟩
      obtain ⟨b2, hb2⟩ := st1 i ⟨b', g2⟩
      rcases hs i b2 hb2 with z | ⟨z, _⟩
      · rw [g2] at z
        cases z
        exact ⟨l1', b', hb2, g3⟩
      · exact absurd z hn
    · by_cases hn : i ∈ vs
      · exact st2 i hn h
      · obtain ⟨b, hb⟩ := h
        have hb' : (outR s.ρ w.2)[i]? = some (some b) := hb
        exact st1 i (S.stay i ⟨b, by show (wipeR (outR s.ρ w.2) vs)[i]? = _; rw [wipeR_out hn]; exact hb'⟩)
  obtain ⟨R3, S3⟩ := back_ok (s2 := ⟨s4.F, s.σ, s4.H, ρ2⟩) R mv S2 R2 h3
  exact ⟨R3, S3, fun _ _ _ _ => trivial⟩
theorem comp_run {s1 : Sx} {J : It} {g : TG} {bd : Bd} {vs : List Nat} {te : Mx W} {items : List D} {σ : St} {Qd : Hp → Prop} {Dl : Addr} (h1σ : s1.σ = wipe σ vs) {ρ1 : Env} (h1ρ : s1.ρ = wipeR ρ1 vs)
    (R1 : Rel Γ.K s1) (hD : s1.H Dl = none) (it : IterOk Γ s1 J items) (ok : OkGw Γ vs g bd) 
    (K : List D → Env → Prop) (fin : ∀ ys ρ', K ys ρ' → ∀ F' H' us, Rel Γ.K ⟨F', wipe σ vs, H', ρ'⟩ → Step Γ.np s1 ⟨F', wipe σ vs, H', ρ'⟩ → H' Dl = some (.lst us) → RpA F' us ys → F' Dl = none → ¬ Cell ⟨F', wipe σ vs, H', ρ'⟩ Dl → (∀ i ∈ vs, ∀ b : B, ρ'[i]? ≠ some (some b)) → Qd H')
    (h : match compL vs bd t te items [] s1.ρ with | .ok ys ρ' => K ys ρ' | _ => False) :
    ∃ Wd : Nat → Nat → Hp → Prop, (∃ m, Wd 0 m (upd s1.H Dl (.lst []))) ∧ ∀ i m H, Wd i m H → (J.stop i H ∧ Qd H) ∨ (J.go i H ∧ ∃ Nx : Hp → Prop, (∀ H', Nx H' → ∃ m', m' < m ∧ Wd (i + 1) m' H') ∧ ∀ x H', J.yld i H x H' → g x (wipe σ vs) H' fun σ2 H2 => wipe σ2 vs = wipe σ vs ∧ tT Γ W0 t σ2 H2 fun b H3 =>
      if b = true then tE Γ W0 te σ2 H3 fun y H4 => ∃ acc, H4 Dl = some (.lst acc) ∧ acc.length < sizeLine ∧ Nx (upd H4 Dl (.lst (acc ++ [y]))) else Nx H3) := by
  obtain ⟨F1, σ1, H1, ρ1'⟩ := s1
  have h1σ : σ1 = wipe σ vs := h1σ
  have h1ρ : ρ1' = wipeR ρ1 vs := h1ρ
  subst h1σ h1ρ
  have ww : wipe (wipe σ vs) vs = wipe σ vs := by
    have q : ∀ (us vs : List Nat), (∀ i ∈ us, i ∈ vs) → wipe (wipe σ vs) us = wipe σ vs := by
      intro us
      induction us with
      | nil => intro vs _; rfl
      | cons u us ih =>
        intro vs hu
        show (wipe (wipe σ vs) us).set u none = wipe σ vs
        rw [ih vs fun i hi => hu i (List.mem_cons_of_mem _ hi)]
        apply List.ext_getElem?
        intro k
        by_cases hk : k = u
        · subst hk
          have hm := hu k List.mem_cons_self
          by_cases hl : k < (wipe σ vs).length
          · rw [List.getElem?_set_self hl]
            have nn : ∀ x, (wipe σ vs)[k]? ≠ some (some x) := fun x z => (wipe_some z).2 hm
            rw [List.getElem?_eq_getElem hl]
            cases e : (wipe σ vs)[k] with
            | none => rfl
            | some x => exact absurd (by rw [List.getElem?_eq_getElem hl, e]) (nn x)
          · rw [List.getElem?_eq_none (by simpa using hl), List.getElem?_eq_none (by simpa using hl)]
        · rw [List.getElem?_set_ne (Ne.symm hk)]
    exact q vs vs fun _ z => z
  let P : Nat → Nat → Hp → Prop := fun i m H => ∃ F ρ us acc, Rel Γ.K ⟨F, wipe σ vs, H, ρ⟩ ∧ Step Γ.np ⟨F1, wipe σ vs, H1, wipeR ρ1 vs⟩ ⟨F, wipe σ vs, H, ρ⟩ ∧ H Dl = some (.lst us) ∧ RpA F us acc ∧ F Dl = none ∧ ¬ Cell ⟨F, wipe σ vs, H, ρ⟩ Dl ∧ (∃ ρ0, ρ = wipeR ρ0 vs) ∧ m = items.length - i ∧
    match compL vs bd t te (items.drop i) acc ρ with | .ok ys ρ' => K ys ρ' | _ => False
  refine ⟨P, ⟨items.length, ?_⟩, ?_⟩
  · obtain ⟨R', S'⟩ := R1.alloc (np := Γ.np) (p := Dl) (o := .lst []) (F' := F1) hD (.inl rfl)
    exact ⟨F1, wipeR ρ1 vs, [], [], R', S', upd_same, .nil, R1.free hD, fun ⟨i, c⟩ => R1.newNoCell hD ⟨i, c⟩, ⟨ρ1, rfl⟩, by simp, h⟩
  · rintro i m H ⟨F, ρ, us, acc, R, S, hu, ra, hF, hc, hρ0, rfl, h⟩
    obtain ⟨stop, turn⟩ := it i ⟨F, wipe σ vs, H, ρ⟩ S.kp R
    cases e : items[i]? with
    | none =>
      have hle : items.length ≤ i := List.getElem?_eq_none_iff.mp e
      rw [List.drop_eq_nil_of_le hle] at h
      obtain ⟨ρ0, rfl⟩ := hρ0
      exact .inl ⟨stop hle, fin acc _ h F H us R S hu ra hF hc fun i hi b z => (wipeR_some z).2 hi⟩
    | some d =>
      have hlt : i < items.length := (List.getElem?_eq_some_iff.mp e).1
      obtain ⟨go, yld⟩ := turn d e
      have ed : items.drop i = d :: items.drop (i + 1) := by
        rw [List.drop_eq_getElem_cons hlt]
        congr 1
        exact Option.some.inj ((List.getElem?_eq_getElem hlt).symm.trans e)
      rw [ed] at h
      unfold compL at h
      refine .inr ⟨go, fun H' => P (i + 1) (items.length - (i + 1)) H', fun H' q => ⟨items.length - (i + 1), by omega, q⟩, fun v H2 y => ?_⟩
      obtain ⟨F2, R2, S2, rv⟩ := yld v H2 y
      have R2 : Rel Γ.K ⟨F2, wipe σ vs, H2, ρ⟩ := R2
      have S2 : Step Γ.np ⟨F, wipe σ vs, H, ρ⟩ ⟨F2, wipe σ vs, H2, ρ⟩ := S2
      cases eb : bd d ρ with
      | none => rw [eb] at h; exact h.elim
      | some ρ3 =>
        rw [eb] at h
        simp only at h
        refine ok ⟨F2, wipe σ vs, H2, ρ⟩ v d ρ3 _ R2 rv eb fun σ3 hw R3 S3 => ⟨hw.trans ww, F2, ρ3, R3, ?_⟩
        have R3 : Rel Γ.K ⟨F2, σ3, H2, ρ3⟩ := R3
        have St : Step Γ.np ⟨F1, wipe σ vs, H1, wipeR ρ1 vs⟩ ⟨F2, σ3, H2, ρ3⟩ := (S.trans S2).trans S3
        have hw3 : wipe σ3 vs = wipe σ vs := hw.trans ww
        -- the list that is filled, at any later state of the turn
        have there : ∀ {s' : Sx}, Rel Γ.K s' → Step Γ.np ⟨F, wipe σ vs, H, ρ⟩ s' → s'.H Dl = some (.lst us) ∧ RpA s'.F us acc ∧ s'.F Dl = none ∧ ¬ Cell s' Dl := fun {s'} R' S' =>
          ⟨S'.keep Dl _ hu hc, ra.mono (S'.mono R), (S'.fz Dl _ hu hc).none hF (fun _ z => by cases z), fun c => (S'.cells Dl c).elim hc fun z => by
            have z' : H Dl = none := z
            rw [hu] at z'; cases z'⟩
        cases et : t ρ3 with
        | st => rw [et] at h; exact h.elim
        | er c ρ4 => rw [et] at h; exact h.elim
        | ok b ρ4 =>
          rw [et] at h
          intro F4 H4 R4 S4
          have R4 : Rel Γ.K ⟨F4, σ3, H4, ρ4⟩ := R4
          have S4 : Step Γ.np ⟨F2, σ3, H2, ρ3⟩ ⟨F4, σ3, H4, ρ4⟩ := S4
          cases b with
          | false =>
            obtain ⟨t1, t2, t3, t4⟩ := there R4 ((S2.trans S3).trans S4)
            have Rw := R4.wiped (σ := σ) hw3
            have Sw := (St.trans S4).wiped (σ := σ) rfl rfl hw3
            refine ⟨F4, wipeR ρ4 vs, us, acc, Rw, Sw, t1, t2, t3, fun ⟨j, g1, b, g2, g3⟩ => ?_, ⟨ρ4, rfl⟩, rfl, h⟩
            obtain ⟨g4, g5⟩ := wipeR_some g2
            have g1' : (wipe σ vs)[j]? = some (some (.ref Dl)) := g1
            rw [← hw3, wipe_out g5] at g1'
            exact t4 ⟨j, g1', b, g4, g3⟩
          | true =>
            simp only at h
            refine ⟨F4, ρ4, R4, ?_⟩
            cases ee : te ρ4 with
            | st => rw [ee] at h; exact h.elim
            | er c ρ5 => rw [ee] at h; exact h.elim
            | ok w ρ5 =>
              rw [ee] at h
              intro y F5 H5 R5 S5 rw5
              have R5 : Rel Γ.K ⟨F5, σ3, H5, ρ5⟩ := R5
              have S5 : Step Γ.np ⟨F4, σ3, H4, ρ4⟩ ⟨F5, σ3, H5, ρ5⟩ := S5
              simp only at h
              cases ew : w.datum ρ5 with
              | none => rw [ew] at h; exact h.elim
              | some q =>
                obtain ⟨y', ρ6⟩ := q
                simp only [ew] at h
                by_cases hlen : acc.length < 100000
                · rw [if_pos hlen] at h
                  obtain ⟨F6, R6, S6, p6, m6, n6, c6⟩ := datum_ok (s := ⟨F5, σ3, H5, ρ5⟩) R5 S5 rw5 ew
                  have S6 : Step Γ.np ⟨F4, σ3, H4, ρ4⟩ ⟨F6, σ3, H5, ρ6⟩ := S6
                  have R6 : Rel Γ.K ⟨F6, σ3, H5, ρ6⟩ := R6
                  obtain ⟨t1, t2, t3, t4⟩ := there R6 (((S2.trans S3).trans S4).trans S6)
                  have t1 : H5 Dl = some (.lst us) := t1
                  refine ⟨us, t1, by rw [ra.length]; exact Nat.lt_of_lt_of_le hlen (by decide), ?_⟩
                  obtain ⟨R7, S7⟩ := upd_fresh (u := .lst (us ++ [y])) R6 ((St.trans S4).trans S6) hD t1 t3 t4
                  have Rw := R7.wiped (σ := σ) (vs := vs) hw3
                  have Sw := S7.wiped (σ := σ) (vs := vs) rfl rfl hw3
                  refine ⟨F6, wipeR ρ6 vs, us ++ [y], acc ++ [y'], Rw, Sw, upd_same, RpA.append t2 (.one p6), t3, fun ⟨j, g1, b, g2, g3⟩ => ?_, ⟨ρ6, rfl⟩, rfl, h⟩
                  obtain ⟨g4, g5⟩ := wipeR_some g2
                  have g1' : (wipe σ vs)[j]? = some (some (.ref Dl)) := g1
                  rw [← hw3, wipe_out g5] at g1'
                  exact t4 ⟨j, g1', b, g4, g3⟩
                · rw [if_neg hlen] at h
                  exact h.elim
theorem postwi_bnd {s : Sx} {Q : VK} {m : Mx Walk} {k : Walk → Mx W} {K : It → Hp → Prop} (h : Post Γ Wx s (bnd m k s.ρ) Q)
    (hk : ∀ w J F1 H1 ρ1, Rel Γ.K ⟨F1, s.σ, H1, ρ1⟩ → Step Γ.np s ⟨F1, s.σ, H1, ρ1⟩ → MvOk ρ1 w → IterOk Γ (Sx.out ⟨F1, s.σ, H1, ρ1⟩ w.2) J w.1 → Post Γ Wx ⟨F1, s.σ, H1, ρ1⟩ (k w ρ1) Q → K J H1) : PostI Γ Wx s (m s.ρ) K := by
  unfold bnd at h
  cases e : m s.ρ with
  | ok w ρ1 =>
    rw [e] at h
    exact fun J F1 H1 R1 S1 mv it => hk w J F1 H1 ρ1 R1 S1 mv it (Post.step (s1 := ⟨F1, s.σ, H1, ρ1⟩) S1 rfl h)
  | er c ρ1 => rw [e] at h; exact h
  | st => rw [e] at h; exact h
theorem tLc_of {m : Mx Walk} {g : TG} {bd : Bd} {te : Mx W} {vs : List Nat} (ok : OkGw Γ vs g bd) (hvs : ∀ i ∈ vs, Γ.np ≤ i) : ∀ σ H Q, tE Γ Wx (mComp vs m bd t te) σ H Q → tLc (tI Γ Wx m) g (tT Γ W0 t) (tE Γ W0 te) vs σ H Q := fun σ H Q ⟨F, ρ, R, h⟩ =>
  ⟨F, ρ, R, postwi_bnd (s := ⟨F, σ, H, ρ⟩) h fun w J F1 H1 ρ1 R1 S1 mv it h1 Dl hD => by
    have R1 : Rel Γ.K ⟨F1, σ, H1, ρ1⟩ := R1
    have mv' : MvOk (Sx.ρ ⟨F1, σ, H1, ρ1⟩) w := mv
    refine comp_run (Γ := Γ) (items := w.1) (t := t) (te := te) (bd := bd) (s1 := ⟨F1, wipe σ vs, H1, wipeR (outR ρ1 w.2) vs⟩) (ρ1 := outR ρ1 w.2) rfl rfl ((R1.out w.2).wiped (σ := σ) (vs := vs) rfl) hD ?_ ok
      (fun ys ρ' => match restoreR (outR ρ1 w.2) vs ρ' with
        | some ρ'' => match backR ρ'' w with
          | some ρ3 => Post Γ Wx ⟨F1, σ, H1, ρ1⟩ (.ok (.l ys) ρ3) Q
          | none => False
        | none => False) ?_ ?_
    · intro i s K' R'
      refine it i s ⟨fun a o e n => K'.keep a o e fun ⟨j, g1, b, g2, g3⟩ => ?_, fun a o e n => K'.fz a o e fun ⟨j, g1, b, g2, g3⟩ => ?_⟩ R'
      · obtain ⟨g4, g5⟩ := wipeR_some g2
        have g1' : (wipe σ vs)[j]? = some (some (.ref a)) := g1
        exact n ⟨j, (wipe_some g1').1, b, g4, g3⟩
      · obtain ⟨g4, g5⟩ := wipeR_some g2
        have g1' : (wipe σ vs)[j]? = some (some (.ref a)) := g1
        exact n ⟨j, (wipe_some g1').1, b, g4, g3⟩
    · intro ys ρ' hk F' H' us R' S' hu ra hF hc hw
      cases e1 : restoreR (outR ρ1 w.2) vs ρ' with
      | none => simp only [e1] at hk
      | some ρ2 =>
        simp only [e1] at hk
        cases e2 : backR ρ2 w with
        | none => simp only [e2] at hk
        | some ρ3 =>
          simp only [e2] at hk
          obtain ⟨R3, S3, _⟩ := comp_end (s := ⟨F1, σ, H1, ρ1⟩) (s4 := ⟨F', wipe σ vs, H', ρ'⟩) hvs R1 mv' R' rfl S' e1 hw e2
          refine hk (.ref Dl) F' H' R3 S3 ⟨Dl, us, rfl, hu, ra, hF, hD, fun c => ?_⟩
          rcases S3.cells Dl c with z | z
          · exact R1.newNoCell hD z
          · obtain ⟨j, g1, b, g2, g3⟩ := c
            obtain ⟨_, hs⟩ := restore_spec e1
            have gb : ρ2[j]? = some (some b) ∨ (Sx.ρ ⟨F1, σ, H1, ρ1⟩)[j]? = some (some (.l w.1)) := by
              unfold backR at e2
              cases hw2 : w.2 with
              | none => simp only [hw2] at e2; cases e2; exact .inl g2
              | some k =>
                simp only [hw2] at e2
                split at e2
                · cases e2
                  rcases getElem?_set_cases g2 with ⟨g4, _⟩ | ⟨g4, g5⟩
                  · subst g4
                    exact .inr (mv' j hw2)
                  · exact .inl g5
                · cases e2
            rcases gb with gb | gb
            · rcases hs j b gb with z | ⟨_, _, x, z⟩
              · have hn : j ∉ vs := fun z' => hw j z' b z
                exact hc ⟨j, by show (wipe σ vs)[j]? = _; rw [wipe_out hn]; exact g1, b, z, g3⟩
              · subst z; cases g3
            · exact R1.newNoCell hD ⟨j, g1, _, gb, rfl⟩
    · show match compL vs bd t te w.1 [] (wipeR (outR ρ1 w.2) vs) with | .ok ys ρ' => _ | _ => False
      cases e : compL vs bd t te w.1 [] (wipeR (outR ρ1 w.2) vs) with
      | st => simp only [e] at h1; exact h1.elim
      | er c ρ' => simp only [e] at h1; exact h1.elim
      | ok ys ρ' =>
        simp only [e] at h1
        cases e1 : restoreR (outR ρ1 w.2) vs ρ' with
        | none => simp only [e1] at h1; exact h1.elim
        | some ρ2 =>
          simp only [e1] at h1
          cases e2 : backR ρ2 w with
          | none => simp only [e2] at h1; exact h1.elim
          | some ρ3 =>
            simp only [e2] at h1
            simp only [e1, e2]
            exact h1⟩
/-- [elt for tg in iter if ..] -/
theorem de_comp {elt tg iter : Expr} {ifs : List Expr} {scope : Scope} {own : List (Str × Nat)} {m : Mx Walk} {g : TG} {bd : Bd} {te : Mx W} (hc : X.calm = true) (hN : X.N.Nodup) (hi : DI X Γ Wx tg iter m) (ok : BlkOk X.N X.env.scope scope own)
    (hg : ∀ (s : Shared) (H : Hp) (C : Addr) (cl : List (Str × Addr)) (fp : List Addr), PG (X.blk s H scope (compEnvC scope cl C X.env) fp) tg g) (okg : OkGw Γ (own.map (·.2)) g bd) (hvs : (own.map (·.2)).all (fun i => decide (Γ.np ≤ i)) = true)
    (ht : ∀ (s : Shared) (H : Hp) (C : Addr) (cl : List (Str × Addr)) (fp : List Addr), DTs (X.blk s H scope (compEnvC scope cl C X.env) fp) Γ W0 ifs t)
    (he : ∀ (s : Shared) (H : Hp) (C : Addr) (cl : List (Str × Addr)) (fp : List Addr), DE (X.blk s H scope (compEnvC scope cl C X.env) fp) Γ W0 elt te)
    (hs : ∀ x, foldedSetIterable iter X.env x = pure x := by intro _; rfl) : DE X Γ Wx (.ListComp elt [⟨tg, iter, ifs, 0⟩] scope pos) (mComp (own.map (·.2)) m bd t te) :=
  PE.imp (pe_lc hc hN hi ok hg ht he hs) (tLc_of okg fun i h => of_decide_eq_true (List.all_eq_true.mp hvs i h))
/-- y = [elt for tg in iter if ..] -/
theorem ds_setLc (i : Nat) {y : Str} {py : Pos} {elt tg iter : Expr} {ifs : List Expr} {scope : Scope} {own : List (Str × Nat)} {spos : Pos} {m : Mx Walk} {g : TG} {bd : Bd} {te : Mx W} (hc : X.calm = true) (hN : X.N.Nodup) (hi : DI X Γ Wx tg iter m) (ok : BlkOk X.N X.env.scope scope own)
    (hg : ∀ (s : Shared) (H : Hp) (C : Addr) (cl : List (Str × Addr)) (fp : List Addr), PG (X.blk s H scope (compEnvC scope cl C X.env) fp) tg g) (okg : OkGw Γ (own.map (·.2)) g bd) (hvs : (own.map (·.2)).all (fun i => decide (Γ.np ≤ i)) = true)
    (ht : ∀ (s : Shared) (H : Hp) (C : Addr) (cl : List (Str × Addr)) (fp : List Addr), DTs (X.blk s H scope (compEnvC scope cl C X.env) fp) Γ W0 ifs t)
    (he : ∀ (s : Shared) (H : Hp) (C : Addr) (cl : List (Str × Addr)) (fp : List Addr), DE (X.blk s H scope (compEnvC scope cl C X.env) fp) Γ W0 elt te)
    (hy : X.N[i]? = some y := by rfl) (hyl : X.env.scope.names.lookup y = some .local := by rfl) (hsw : swapsWith (.ListComp elt [⟨tg, iter, ifs, 0⟩] scope pos) (some (.Name y py)) spos.line X.env = pure true := by exact sw_true rfl rfl rfl (by decide +kernel))
    (hs : ∀ x, foldedSetIterable iter X.env x = pure x := by intro _; rfl) : DS X Γ Wx (.Assign [.Name y py] (.ListComp elt [⟨tg, iter, ifs, 0⟩] scope pos) spos) (sSet Γ.np i (mComp (own.map (·.2)) m bd t te)) :=
  PS.imp (ps_setLc hc hN hy hyl hsw hi ok hg ht he hs) fun Dn σ H ⟨F, ρ, R, h⟩ => tLc_of okg (fun i h => of_decide_eq_true (List.all_eq_true.mp hvs i h)) σ H (fun v H1 => Dn.nx (σ.set i (some v)) H1) ⟨F, ρ, R, set_end (s := ⟨F, σ, H, ρ⟩) h⟩
end
end TD
namespace TD
open PySem PySem.Spec L2

/-! ### a def: what it computes of its arguments; a list handed in may come back changed -/
inductive FO where
  | ok (b : B) (bs : List B)
  | er (c : Str) (bs : List B)
  | st
def ofB : B → W
  | .d x => .d x
  | .l xs => .l xs
  | .t kvs => .t kvs
  | _ => .d .none
/-- only cells come back changed -/
def Kept (bs bs' : List B) : Prop := bs'.length = bs.length ∧ ∀ (j : Nat) (b : B), bs[j]? = some b → b.isCell = false → bs'[j]? = some b
def scOf (F : Hp) (vs : List V) (H : Hp) (bs : List B) : Sx := ⟨F, vs.map some, H, bs.map some⟩
def spF (K : PySem.W.Frag) (mg : Str → Option Value) (f : List B → FO) : Sp := fun vs H Q E => ∃ F bs, Rel K (scOf F vs H bs) ∧
  match f bs with
  | .ok b bs' => ∀ v F' H', Rel K (scOf F' vs H' bs') → Step vs.length (scOf F vs H bs) (scOf F' vs H' bs') → VRep K H (scOf F' vs H' bs') v (ofB b) → Kept bs bs' → Q v H'
  | .er c bs' => ∀ F' H' C, mg c = some (.ref C) → Rel K (scOf F' vs H' bs') → Step vs.length (scOf F vs H bs) (scOf F' vs H' bs') → Kept bs bs' → E (.ref C) none H'
  | .st => False
/-! the caller's side -/
def W.res (ρ : Env) : W → Option B
  | .d x => some (.d x)
  | .l xs => some (.l xs)
  | .t kvs => some (.t kvs)
  | .c i => match ρ[i]? with
    | some (some .x) => none
    | some (some b) => some b
    | _ => none
def ress : List W → Env → Option (List B)
  | [], _ => some []
  | w :: ws, ρ => match w.res ρ with
    | none => none
    | some b => match ress ws ρ with
      | none => none
      | some bs => some (b :: bs)
def lookC : List W → List B → Nat → Option B
  | .c i :: ws, b :: bs, k => if i = k then some b else lookC ws bs k
  | _ :: ws, _ :: bs, k => lookC ws bs k
  | _, _, _ => none
def slotsOf : List W → List Nat
  | [] => []
  | .c i :: ws => i :: slotsOf ws
  | _ :: ws => slotsOf ws
def wbk (ws : List W) (bs : List B) (k : Nat) : Option B → Option B
  | some b => if b.isCell = true then (match lookC ws bs k with
    | some b' => some b'
    | none => some b) else some b
  | none => none
def wb (ws : List W) (bs : List B) (ρ : Env) : Env := ρ.mapIdx (wbk ws bs)
def mCall (f : List B → FO) (fs : Mx (List W)) : Mx W := bnd fs fun ws ρ => match ress ws ρ with
  | none => .st
  | some bs => if (slotsOf ws).Nodup then (match f bs with
    | .ok b bs' => .ok (ofB b) (wb ws bs' ρ)
    | .er c bs' => .er c (wb ws bs' ρ)
    | .st => .st) else .st
theorem lookC_some : ∀ {ws : List W} {bs : List B} {k : Nat} {b : B}, lookC ws bs k = some b → ∃ j : Nat, ws[j]? = some (.c k) ∧ bs[j]? = some b
  | [], _, _, _, h => by cases h
  | .c i :: ws, [], _, _, h => by cases h
  | .c i :: ws, b :: bs, k, b', h => by
    unfold lookC at h
    split at h
    · rename_i e
      cases h
      exact ⟨0, by rw [e]; rfl, rfl⟩
    · obtain ⟨j, h1, h2⟩ := lookC_some h
      exact ⟨j + 1, h1, h2⟩
  | .d _ :: ws, b :: bs, k, b', h => by
    obtain ⟨j, h1, h2⟩ := lookC_some (ws := ws) (bs := bs) h
    exact ⟨j + 1, h1, h2⟩
  | .l _ :: ws, b :: bs, k, b', h => by
    obtain ⟨j, h1, h2⟩ := lookC_some (ws := ws) (bs := bs) h
    exact ⟨j + 1, h1, h2⟩
  | .t _ :: ws, b :: bs, k, b', h => by
    obtain ⟨j, h1, h2⟩ := lookC_some (ws := ws) (bs := bs) h
    exact ⟨j + 1, h1, h2⟩
  | .d _ :: ws, [], _, _, h => by cases h
  | .l _ :: ws, [], _, _, h => by cases h
  | .t _ :: ws, [], _, _, h => by cases h
theorem lookC_none : ∀ {ws : List W} {bs : List B} {k : Nat}, lookC ws bs k = none → bs.length = ws.length → ∀ j : Nat, ws[j]? ≠ some (.c k)
  | [], _, _, _, _, j => by simp
  | w :: ws, [], _, _, h, _ => by cases h
  | .c i :: ws, b :: bs, k, h, hl, j => by
    unfold lookC at h
    split at h
    · cases h
    · rename_i e
      cases j with
      | zero => intro z; cases z; exact e rfl
      | succ j => exact lookC_none h (by simpa using hl) j
  | .d _ :: ws, b :: bs, k, h, hl, j => by
    cases j with
    | zero => intro z; cases z
    | succ j => exact lookC_none (ws := ws) (bs := bs) h (by simpa using hl) j
  | .l _ :: ws, b :: bs, k, h, hl, j => by
    cases j with
    | zero => intro z; cases z
    | succ j => exact lookC_none (ws := ws) (bs := bs) h (by simpa using hl) j
  | .t _ :: ws, b :: bs, k, h, hl, j => by
    cases j with
    | zero => intro z; cases z
    | succ j => exact lookC_none (ws := ws) (bs := bs) h (by simpa using hl) j
theorem mem_slots : ∀ {ws : List W} {j k : Nat}, ws[j]? = some (.c k) → k ∈ slotsOf ws
  | [], _, _, h => by simp at h
  | w :: ws, 0, k, h => by cases h; exact List.mem_cons_self
  | .c i :: ws, j + 1, k, h => List.mem_cons_of_mem _ (mem_slots (ws := ws) (j := j) h)
  | .d _ :: ws, j + 1, k, h => mem_slots (ws := ws) (j := j) h
  | .l _ :: ws, j + 1, k, h => mem_slots (ws := ws) (j := j) h
  | .t _ :: ws, j + 1, k, h => mem_slots (ws := ws) (j := j) h
theorem slots_inj : ∀ {ws : List W} {i j k : Nat}, (slotsOf ws).Nodup → ws[i]? = some (.c k) → ws[j]? = some (.c k) → i = j
  | [], _, _, _, _, h, _ => by simp at h
  | w :: ws, 0, 0, _, _, _, _ => rfl
  | w :: ws, 0, j + 1, k, hn, h1, h2 => by
    cases h1
    exact absurd (mem_slots (ws := ws) (j := j) h2) (List.nodup_cons.mp hn).1
  | w :: ws, i + 1, 0, k, hn, h1, h2 => by
    cases h2
    exact absurd (mem_slots (ws := ws) (j := i) h1) (List.nodup_cons.mp hn).1
  | .c i' :: ws, i + 1, j + 1, k, hn, h1, h2 => congrArg (· + 1) (slots_inj (ws := ws) (List.nodup_cons.mp hn).2 h1 h2)
  | .d _ :: ws, i + 1, j + 1, k, hn, h1, h2 => congrArg (· + 1) (slots_inj (ws := ws) hn h1 h2)
  | .l _ :: ws, i + 1, j + 1, k, hn, h1, h2 => congrArg (· + 1) (slots_inj (ws := ws) hn h1 h2)
  | .t _ :: ws, i + 1, j + 1, k, hn, h1, h2 => congrArg (· + 1) (slots_inj (ws := ws) hn h1 h2)
theorem ress_len : ∀ {ws : List W} {ρ : Env} {bs : List B}, ress ws ρ = some bs → bs.length = ws.length
  | [], _, _, h => by cases h; rfl
  | w :: ws, ρ, bs, h => by
    unfold ress at h
    cases e : w.res ρ with
    | none => rw [e] at h; cases h
    | some b =>
      rw [e] at h
      cases e2 : ress ws ρ with
      | none => simp only [e2] at h; cases h
      | some br => simp only [e2] at h; cases h; exact congrArg (· + 1) (ress_len e2)
theorem ress_get : ∀ {ws : List W} {ρ : Env} {bs : List B} {j : Nat} {b : B}, ress ws ρ = some bs → bs[j]? = some b → ∃ w, ws[j]? = some w ∧ w.res ρ = some b
  | [], _, _, _, _, h, hb => by cases h; simp at hb
  | w :: ws, ρ, bs, j, b, h, hb => by
    unfold ress at h
    cases e : w.res ρ with
    | none => rw [e] at h; cases h
    | some b0 =>
      rw [e] at h
      cases e2 : ress ws ρ with
      | none => simp only [e2] at h; cases h
      | some br =>
        simp only [e2] at h
        cases h
        cases j with
        | zero => cases hb; exact ⟨w, rfl, e⟩
        | succ j => exact ress_get (j := j) e2 hb
theorem VRep.res {K : PySem.W.Frag} {H0 : Hp} {s : Sx} {v : V} {w : W} {b : B} (R : Rel K s) (r : VRep K H0 s v w) (h : w.res s.ρ = some b) : BRep K s.F s.H v b ∧ b.isX = false ∧ (b.isCell = true → ∀ a, v = .ref a → s.F a = none ∧ (w.isTmp = true ∧ ¬ Cell s a ∧ H0 a = none ∨ ∃ i, w = .c i ∧ CellAt s i a)) := by
  cases w with
  | d x => cases h; exact ⟨r, rfl, fun z => by cases z⟩
  | l xs =>
    cases h
    obtain ⟨p, vs, rfl, e, q, hF, h0, nc⟩ := r
    exact ⟨⟨p, vs, rfl, e, q⟩, rfl, fun _ a z => by cases z; exact ⟨hF, .inl ⟨rfl, nc, h0⟩⟩⟩
  | t xs =>
    cases h
    obtain ⟨p, vs, rfl, e, q, hF, h0, nc⟩ := r
    exact ⟨⟨p, vs, rfl, e, q⟩, rfl, fun _ a z => by cases z; exact ⟨hF, .inl ⟨rfl, nc, h0⟩⟩⟩
  | c i =>
    have r' : s.σ[i]? = some (some v) := r
    simp only [W.res] at h
    split at h
    · cases h
    · rename_i b0 hb hn
      cases h
      have hx : b.isX = false := by cases b <;> first | rfl | exact (hb rfl).elim
      obtain ⟨v', hv, q⟩ := R.slot i _ hn
      rw [r'] at hv
      cases hv
      refine ⟨q, hx, fun hc a z => ?_⟩
      subst z
      have c : CellAt s i a := ⟨r', b, hn, hc⟩
      exact ⟨R.own i a c, .inr ⟨i, rfl, c⟩⟩
    · cases h
theorem getElem?_map_some {α β : Type} {f : α → β} {l : List α} {i : Nat} {y : β} (h : (l.map f)[i]? = some y) : ∃ x, l[i]? = some x ∧ f x = y := by
  rw [List.getElem?_map] at h
  cases e : l[i]? with
  | none => rw [e] at h; cases h
  | some x => rw [e] at h; exact ⟨x, rfl, Option.some.inj h⟩
theorem cell_sc {F H : Hp} {vs : List V} {bs : List B} {j : Nat} {a : Addr} (c : CellAt (scOf F vs H bs) j a) : vs[j]? = some (.ref a) ∧ ∃ b, bs[j]? = some b ∧ b.isCell = true := by
  obtain ⟨h1, b, h2, h3⟩ := c
  obtain ⟨x, e1, e2⟩ := getElem?_map_some h1
  obtain ⟨y, e3, e4⟩ := getElem?_map_some h2
  cases e2
  cases e4
  exact ⟨e1, b, e3, h3⟩
theorem sc_cell {F H : Hp} {vs : List V} {bs : List B} {j : Nat} {a : Addr} {b : B} (h1 : vs[j]? = some (.ref a)) (h2 : bs[j]? = some b) (h3 : b.isCell = true) : CellAt (scOf F vs H bs) j a :=
  ⟨by show (vs.map some)[j]? = _; rw [List.getElem?_map, h1]; rfl, b, by show (bs.map some)[j]? = _; rw [List.getElem?_map, h2]; rfl, h3⟩
section
variable {X : Cx} {Γ : Cn} {Wx : WX} {f : Mx W} {fs : Mx (List W)} {pos : Pos}
/-- the arguments as the callee meets them -/
theorem call_in {H0 : Hp} {s : Sx} {vs : List V} {ws : List W} {bs : List B} (R : Rel Γ.K s) (r : VReps Γ.K H0 s vs ws) (h : ress ws s.ρ = some bs) (hn : (slotsOf ws).Nodup) :
    Rel Γ.K (scOf s.F vs s.H bs) ∧ ∀ j a, CellAt (scOf s.F vs s.H bs) j a → (∃ w, ws[j]? = some w ∧ w.isTmp = true ∧ ¬ Cell s a ∧ H0 a = none) ∨ ∃ i, ws[j]? = some (.c i) ∧ CellAt s i a := by
  have info : ∀ {j : Nat} {b : B}, bs[j]? = some b → ∃ w v, ws[j]? = some w ∧ vs[j]? = some v ∧ BRep Γ.K s.F s.H v b ∧ b.isX = false ∧ (b.isCell = true → ∀ a, v = .ref a → s.F a = none ∧ (w.isTmp = true ∧ ¬ Cell s a ∧ H0 a = none ∨ ∃ i, w = .c i ∧ CellAt s i a)) := fun {j b} hb => by
    obtain ⟨w, hw, hr⟩ := ress_get h hb
    have hj : j < vs.length := by
      rw [r.length]
      exact (List.getElem?_eq_some_iff.mp hw).1
    have hv := List.getElem?_eq_getElem hj
    obtain ⟨q1, q2, q3⟩ := (r.get hv hw).res R hr
    exact ⟨w, _, hw, hv, q1, q2, q3⟩
  have cells : ∀ j a, CellAt (scOf s.F vs s.H bs) j a → s.F a = none ∧ ((∃ w, ws[j]? = some w ∧ w.isTmp = true ∧ ¬ Cell s a ∧ H0 a = none) ∨ ∃ i, ws[j]? = some (.c i) ∧ CellAt s i a) := fun j a c => by
    obtain ⟨c1, b, c2, c3⟩ := cell_sc c
    obtain ⟨w, v, hw, hv, _, _, q⟩ := info c2
    rw [c1] at hv
    cases hv
    obtain ⟨q1, q2⟩ := q c3 a rfl
    refine ⟨q1, q2.imp (fun z => ⟨w, hw, z.1, z.2.1, z.2.2⟩) fun ⟨i, e, z⟩ => ⟨i, by rw [hw, e], z⟩⟩
  refine ⟨⟨R.sub, ?_, fun i b hb hx => ?_, fun i j a c1 c2 => ?_, fun i a c => (cells i a c).1⟩, fun j a c => (cells j a c).2⟩
  · show (vs.map some).length = (bs.map some).length
    rw [List.length_map, List.length_map, r.length, ress_len h]
  · obtain ⟨y, e3, e4⟩ := getElem?_map_some hb
    cases e4
    obtain ⟨w, v, hw, hv, q, _⟩ := info e3
    exact ⟨v, by show (vs.map some)[i]? = _; rw [List.getElem?_map, hv]; rfl, q⟩
  · have v1 := (cell_sc c1).1
    have v2 := (cell_sc c2).1
    rcases (cells i a c1).2 with ⟨w, h1, h2, h3, h4⟩ | ⟨k, h1, h2⟩ <;> rcases (cells j a c2).2 with ⟨w', g1, g2, g3, g4⟩ | ⟨k', g1, g2⟩
    · -- two temporaries at one address
      have key : ∀ (vs : List V) (ws : List W) (i j : Nat) (w w' : W), VReps Γ.K H0 s vs ws → ws[i]? = some w → w.isTmp = true → ws[j]? = some w' → w'.isTmp = true → vs[i]? = some (.ref a) → vs[j]? = some (.ref a) → i = j := by
        intro vs
        induction vs with
        | nil => intro ws i j w w' q _ _ _ _ z; simp at z
        | cons v vr ih =>
          intro ws i j w w' q e1 t1 e2 t2 z1 z2
          cases ws with
          | nil => exact q.elim
          | cons w0 wr =>
            cases i with
            | zero =>
              cases j with
              | zero => rfl
              | succ j =>
                cases e1
                cases z1
                exact absurd z2 (q.2.2 t1 j w' e2 t2)
            | succ i =>
              cases j with
              | zero =>
                cases e2
                cases z2
                exact absurd z1 (q.2.2 t2 i w e1 t1)
              | succ j => exact congrArg (· + 1) (ih wr i j w w' q.2.1 e1 t1 e2 t2 z1 z2)
      exact key vs ws i j w w' r h1 h2 g1 g2 v1 v2
    · exact absurd ⟨k', g2⟩ h3
    · exact absurd ⟨k, h2⟩ g3
    · have e := R.sep k k' a h2 g2
      subst e
      exact slots_inj hn h1 g1
theorem wb_get {ws : List W} {bs : List B} {ρ : Env} {k : Nat} {b : B} (h : (wb ws bs ρ)[k]? = some (some b)) : ∃ b0, ρ[k]? = some (some b0) ∧ (b0.isCell = false ∧ b = b0 ∨ b0.isCell = true ∧ (lookC ws bs k = some b ∨ lookC ws bs k = none ∧ b = b0)) := by
  unfold wb at h
  rw [List.getElem?_mapIdx] at h
  cases e : ρ[k]? with
  | none => rw [e] at h; cases h
  | some o =>
    rw [e] at h
    have h : wbk ws bs k o = some b := Option.some.inj h
    cases o with
    | none => cases h
    | some b0 =>
      refine ⟨b0, rfl, ?_⟩
      simp only [wbk] at h
      by_cases hc : b0.isCell = true
      · rw [if_pos hc] at h
        cases e2 : lookC ws bs k with
        | none => simp only [e2] at h; exact .inr ⟨hc, .inr ⟨rfl, (Option.some.inj h).symm⟩⟩
        | some b' => simp only [e2] at h; exact .inr ⟨hc, .inl h⟩
      · rw [if_neg hc] at h
        exact .inl ⟨by simpa using hc, (Option.some.inj h).symm⟩
theorem wb_some {ws : List W} {bs : List B} {ρ : Env} {k : Nat} (h : ∃ b : B, ρ[k]? = some (some b)) : ∃ b : B, (wb ws bs ρ)[k]? = some (some b) := by
  obtain ⟨b, h⟩ := h
  unfold wb
  rw [List.getElem?_mapIdx, h]
  show ∃ b', some (wbk ws bs k (some b)) = some (some b')
  unfold wbk
  simp only
  split
  · split
    · exact ⟨_, rfl⟩
    · exact ⟨_, rfl⟩
  · exact ⟨_, rfl⟩
/-- behind the call -/
theorem call_out {s0 s : Sx} {vs : List V} {ws : List W} {bs bs' : List B} {F' H' : Hp} (R : Rel Γ.K s) (S : Step Γ.np s0 s) (r : VReps Γ.K s0.H s vs ws) (h : ress ws s.ρ = some bs) (hn : (slotsOf ws).Nodup)
    (R' : Rel Γ.K (scOf F' vs H' bs')) (S' : Step vs.length (scOf s.F vs s.H bs) (scOf F' vs H' bs')) (kp : Kept bs bs') :
    Rel Γ.K ⟨F', s.σ, H', wb ws bs' s.ρ⟩ ∧ Step Γ.np s0 ⟨F', s.σ, H', wb ws bs' s.ρ⟩ ∧ ∀ p, s.H p = none → s0.H p = none ∧ ¬ Cell ⟨F', s.σ, H', wb ws bs' s.ρ⟩ p := by
  obtain ⟨Rc, cells⟩ := call_in R r h hn
  have m : ∀ a o, s.F a = some o → F' a = some o := S'.mono Rc
  have hl : bs'.length = ws.length := kp.1.trans (ress_len h)
  have old : ∀ {k a}, CellAt ⟨F', s.σ, H', wb ws bs' s.ρ⟩ k a → CellAt s k a ∧ ((∃ j : Nat, ws[j]? = some (.c k) ∧ CellAt (scOf F' vs H' bs') j a) ∨ ¬ Cell (scOf s.F vs s.H bs) a) := fun {k a} ⟨h1, b, h2, h3⟩ => by
    obtain ⟨b0, e0, q⟩ := wb_get h2
    have c0 : b0.isCell = true := by
      rcases q with ⟨z, z2⟩ | ⟨z, _⟩
      · subst z2; rw [z] at h3; cases h3
      · exact z
    have c : CellAt s k a := ⟨h1, b0, e0, c0⟩
    refine ⟨c, ?_⟩
    rcases q with ⟨z, _⟩ | ⟨_, z | ⟨z, _⟩⟩
    · rw [c0] at z; cases z
    · obtain ⟨j, j1, j2⟩ := lookC_some z
      have hj : j < vs.length := by
        rw [r.length]
        exact (List.getElem?_eq_some_iff.mp j1).1
      have hv := List.getElem?_eq_getElem hj
      have rv : s.σ[k]? = some (some vs[j]) := r.get hv j1
      have h1' : s.σ[k]? = some (some (.ref a)) := h1
      rw [h1'] at rv
      have ev : vs[j] = .ref a := (Option.some.inj (Option.some.inj rv)).symm
      rw [ev] at hv
      exact .inl ⟨j, j1, sc_cell hv j2 h3⟩
    · refine .inr fun ⟨j, cj⟩ => ?_
      rcases cells j a cj with ⟨_, _, _, n, _⟩ | ⟨i, i1, i2⟩
      · exact n ⟨k, c⟩
      · have e := R.sep i k a i2 c
        subst e
        exact lookC_none z hl j i1
  refine ⟨⟨R'.sub, ?_, fun k b hk hx => ?_, fun i j a c1 c2 => R.sep i j a (old c1).1 (old c2).1, fun k a c => ?_⟩, ⟨fun a o e n => ?_, fun a o e n => ?_, fun a o e => ?_, fun a ⟨k, c⟩ => S.cells a ⟨k, (old c).1⟩, fun k a hk l => ?_, fun k hk => wb_some (S.stay k hk), fun k hk => S.same k fun z => hk (wb_some z)⟩, fun p hp => ⟨S.none hp, fun ⟨k, c⟩ => R.newNoCell hp ⟨k, (old c).1⟩⟩⟩
  · show s.σ.length = (wb ws bs' s.ρ).length
    unfold wb
    rw [List.length_mapIdx]
    exact R.len
  · obtain ⟨b0, e0, q⟩ := wb_get hk
    have fromArg : lookC ws bs' k = some b → ∃ v, s.σ[k]? = some (some v) ∧ BRep Γ.K F' H' v b := fun z => by
      obtain ⟨j, j1, j2⟩ := lookC_some z
      have hj : j < vs.length := by
        rw [r.length]
        exact (List.getElem?_eq_some_iff.mp j1).1
      have hv := List.getElem?_eq_getElem hj
      obtain ⟨v, hv', q⟩ := R'.slotX j b (by show (bs'.map some)[j]? = _; rw [List.getElem?_map, j2]; rfl) hx
      obtain ⟨x, e1, e2⟩ := getElem?_map_some hv'
      cases e2
      rw [hv] at e1
      cases e1
      exact ⟨_, r.get hv j1, q⟩
    rcases q with ⟨z, z2⟩ | ⟨z, z2 | ⟨z2, z3⟩⟩
    · subst z2
      obtain ⟨v, hv, q⟩ := R.slotX k b e0 hx
      exact ⟨v, hv, q.keep m fun a hc => by rw [z] at hc; cases hc⟩
    · exact fromArg z2
    · subst z3
      obtain ⟨v, hv, q⟩ := R.slotX k b e0 hx
      refine ⟨v, hv, q.keep m fun a hc ea o eo => ?_⟩
      subst ea
      refine S'.keep a o eo fun ⟨j, cj⟩ => ?_
      rcases cells j a cj with ⟨_, _, _, n, _⟩ | ⟨i, i1, i2⟩
      · exact n ⟨k, hv, b, e0, z⟩
      · have e := R.sep i k a i2 ⟨hv, b, e0, z⟩
        subst e
        exact lookC_none z2 hl j i1
  · obtain ⟨c', q⟩ := old c
    rcases q with ⟨j, _, cj⟩ | n
    · exact R'.own j a cj
    · obtain ⟨o, ho, ht⟩ := R.cellT c'
      exact (S'.fz a o ho n).none (R.own k a c') ht
  · have e1 := S.keep a o e n
    refine S'.keep a o e1 fun ⟨j, cj⟩ => ?_
    rcases cells j a cj with ⟨_, _, _, _, z⟩ | ⟨i, _, i2⟩
    · rw [e] at z; cases z
    · rcases S.cells a ⟨i, i2⟩ with z | z
      · exact n z
      · rw [e] at z; cases z
  · have e1 := S.keep a o e n
    refine (S'.fz a o e1 fun ⟨j, cj⟩ => ?_).trans (S.fz a o e n)
    rcases cells j a cj with ⟨_, _, _, _, z⟩ | ⟨i, _, i2⟩
    · rw [e] at z; cases z
    · rcases S.cells a ⟨i, i2⟩ with z | z
      · exact n z
      · rw [e] at z; cases z
  · obtain ⟨o1, e1⟩ := S.there a o e
    exact S'.there a o1 e1
  · obtain ⟨h1, b, h2, h3⟩ := S.par k a hk l
    refine ⟨h1, ?_⟩
    obtain ⟨b2, hb2⟩ := wb_some (ws := ws) (bs := bs') ⟨b, h2⟩
    refine ⟨b2, hb2, ?_⟩
    obtain ⟨b0, e0, q⟩ := wb_get hb2
    rw [h2] at e0
    cases e0
    rcases q with ⟨_, z2⟩ | ⟨z, z2 | ⟨_, z3⟩⟩
    · subst z2; exact h3
    · obtain ⟨j, j1, j2⟩ := lookC_some z2
      have hj : j < vs.length := by
        rw [r.length]
        exact (List.getElem?_eq_some_iff.mp j1).1
      have hv := List.getElem?_eq_getElem hj
      have rv : s.σ[k]? = some (some vs[j]) := r.get hv j1
      rw [h1] at rv
      have ev : vs[j] = .ref a := (Option.some.inj (Option.some.inj rv)).symm
      rw [ev] at hv
      have hjb : j < bs.length := by rw [ress_len h, ← r.length]; exact hj
      obtain ⟨b9, hb⟩ : ∃ b9, bs[j]? = some b9 := ⟨_, List.getElem?_eq_getElem hjb⟩
      have lkj : Lk (scOf s.F vs s.H bs) j a := by
        obtain ⟨w, hw, hr⟩ := ress_get h hb
        rw [j1] at hw
        cases hw
        simp only [W.res, h2] at hr
        refine ⟨by show (vs.map some)[j]? = _; rw [List.getElem?_map, hv]; rfl, b9, by show (bs.map some)[j]? = _; rw [List.getElem?_map, hb]; rfl, ?_⟩
        cases b with
        | x => cases h3
        | _ => cases hr; exact h3
      obtain ⟨_, b3, g2, g3⟩ := S'.par j a hj lkj
      obtain ⟨y, e3, e4⟩ := getElem?_map_some g2
      cases e4
      rw [j2] at e3
      cases e3
      exact g3
    · subst z3; exact h3
theorem de_call {k : Nat} {fa : Addr} {fd : FuncData} {ps : List Str} {x : Str} {p : Pos} {e : Expr} {es : List Expr} {g : List B → FO} (F : FnOk X.prog X.w X.K X.mg X.base (L2.CX X.prog X.w) k fa fd ps (spF Γ.K Γ.mg g)) (hr : Room k X.A) (hm : X.mg x = some (.ref fa)) (hk : PySem.W.keepIn X.K (.ref fa) = true) (hb : Binds X.K fd ps [])
    (tk : Takes X Wx) (ha : DA X Γ Wx (e :: es) fs) (hg : Gl X x := by rfl) (hdb : (x == ("__debug__" : Str)) = false := by decide) (he : starEach (e :: es) X.env = (false, eval e X.env) :: starEach es X.env := by rfl) (hpl : (backTo pos (starEach es X.env)).any (·.1) = false := by rfl) :
    DE X Γ Wx (.Call (.Name x p) (e :: es) [] pos) (mCall g fs) :=
  PE.imp (pe_callS F hr hg hm hk hb (fun σ => passAt tk σ) ha hdb he hpl) fun σ H Q ⟨F0, ρ, R, h⟩ => ⟨F0, ρ, R, args_end (s := ⟨F0, σ, H, ρ⟩) h fun vs ws F1 H1 ρ1 R1 S1 r h1 => by
    have R1 : Rel Γ.K ⟨F1, σ, H1, ρ1⟩ := R1
    have S1 : Step Γ.np ⟨F0, σ, H, ρ⟩ ⟨F1, σ, H1, ρ1⟩ := S1
    have r : VReps Γ.K (Sx.H ⟨F0, σ, H, ρ⟩) ⟨F1, σ, H1, ρ1⟩ vs ws := r
    cases e1 : ress ws ρ1 with
    | none => simp only [e1] at h1; exact h1.elim
    | some bs =>
      simp only [e1] at h1
      by_cases hn : (slotsOf ws).Nodup
      · rw [if_pos hn] at h1
        obtain ⟨Rc, _⟩ := call_in (s := ⟨F1, σ, H1, ρ1⟩) R1 r e1 hn
        refine ⟨F1, bs, Rc, ?_⟩
        cases eg : g bs with
        | st => rw [eg] at h1; exact h1.elim
        | ok b bs' =>
          rw [eg] at h1
          intro v F' H' R' S' rv kp
          obtain ⟨R2, S2, fr⟩ := call_out (s := ⟨F1, σ, H1, ρ1⟩) R1 S1 r e1 hn R' S' kp
          refine h1 v F' H' R2 S2 ?_
          cases b with
          | d y => exact rv
          | s y => exact rv
          | x => exact rv
          | l ys =>
            obtain ⟨p, us, e2, q1, q2, q3, q4, _⟩ := rv
            exact ⟨p, us, e2, q1, q2, q3, (fr p q4).1, (fr p q4).2⟩
          | t ys =>
            obtain ⟨p, us, e2, q1, q2, q3, q4, _⟩ := rv
            exact ⟨p, us, e2, q1, q2, q3, (fr p q4).1, (fr p q4).2⟩
        | er c bs' =>
          rw [eg] at h1
          intro F' H' C hC R' S' kp
          obtain ⟨R2, S2, fr⟩ := call_out (s := ⟨F1, σ, H1, ρ1⟩) R1 S1 r e1 hn R' S' kp
          exact h1 F' H' C hC R2 S2
      · rw [if_neg hn] at h1; exact h1.elim⟩
end
end TD
namespace TD
open PySem PySem.Spec PyProof.Rows L2

/-! ### a def by its body -/
def backB : List B → Env → List B
  | [], _ => []
  | b :: bs, ρ => (if b.isCell = true then ((ρ.head?.getD none).getD b) else b) :: backB bs ρ.tail
/-- what is handed back: a list of one's own goes out as it is; a lent one as data -/
def retW (np : Nat) (ρ : Env) : W → Option (B × Env)
  | .d x => some (.d x, ρ)
  | .l xs => some (.l xs, ρ)
  | .t kvs => some (.t kvs, ρ)
  | .c i => match ρ[i]? with
    | some (some (.d x)) => some (.d x, ρ)
    | some (some (.l xs)) => if np ≤ i then some (.l xs, ρ) else some (.d (.list xs), ρ.set i (some (.d (.list xs))))
    | some (some (.t kvs)) => if np ≤ i then some (.t kvs, ρ) else none
    | _ => none
def mkFn (np n : Nat) (body : Mx Fl) (bs : List B) : FO :=
  if bs.length = np then match body (bs.map some ++ List.replicate (n - np) none) with
    | .ok .nx ρ => .ok (.d .none) (backB bs ρ)
    | .ok (.rt w) ρ => match retW np ρ w with
      | some (b, ρ') => .ok b (backB bs ρ')
      | none => .st
    | .er c ρ => .er c (backB bs ρ)
    | _ => .st
  else .st
theorem backB_get : ∀ {bs : List B} {ρ : Env} {j : Nat} {b : B}, bs[j]? = some b → ∃ b', (backB bs ρ)[j]? = some b' ∧ (b.isCell = false ∧ b' = b ∨ b.isCell = true ∧ (ρ[j]? = some (some b') ∨ ((∀ c : B, ρ[j]? ≠ some (some c)) ∧ b' = b)))
  | [], _, _, _, h => by simp at h
  | b0 :: bs, ρ, 0, b, h => by
    cases h
    refine ⟨_, rfl, ?_⟩
    by_cases hc : b0.isCell = true
    · rw [if_pos hc]
      refine .inr ⟨hc, ?_⟩
      cases ρ with
      | nil => exact .inr ⟨fun c => by simp, rfl⟩
      | cons o ρ =>
        cases o with
        | none => exact .inr ⟨fun c => by simp, rfl⟩
        | some b' => exact .inl rfl
    · rw [if_neg hc]
      exact .inl ⟨by simpa using hc, rfl⟩
  | b0 :: bs, ρ, j + 1, b, h => by
    obtain ⟨b', h1, h2⟩ := backB_get (bs := bs) (ρ := ρ.tail) (j := j) h
    refine ⟨b', h1, ?_⟩
    cases ρ with
    | nil => simpa using h2
    | cons o ρ => exact h2
theorem backB_len : ∀ {bs : List B} {ρ : Env}, (backB bs ρ).length = bs.length
  | [], _ => rfl
  | b :: bs, ρ => congrArg (· + 1) (backB_len (bs := bs) (ρ := ρ.tail))
theorem backB_some {bs : List B} {ρ : Env} {j : Nat} {b' : B} (h : (backB bs ρ)[j]? = some b') : ∃ b, bs[j]? = some b ∧ (b.isCell = false ∧ b' = b ∨ b.isCell = true ∧ (ρ[j]? = some (some b') ∨ ((∀ c : B, ρ[j]? ≠ some (some c)) ∧ b' = b))) := by
  have hj : j < bs.length := by
    have := (List.getElem?_eq_some_iff.mp h).1
    rw [backB_len] at this
    exact this
  have hb := List.getElem?_eq_getElem hj
  obtain ⟨b2, h1, h2⟩ := backB_get (ρ := ρ) hb
  rw [h] at h1
  cases h1
  exact ⟨_, hb, h2⟩
/-- the state at a def's entry -/
def entry (n : Nat) (F : Hp) (vs : List V) (H : Hp) (bs : List B) : Sx := ⟨F, vs.map some ++ List.replicate (n - vs.length) none, H, bs.map some ++ List.replicate (n - bs.length) none⟩
theorem app_rep_some {α : Type} {l : List α} {m i : Nat} {y : α} (h : (l.map some ++ List.replicate m none)[i]? = some (some y)) : l[i]? = some y := by
  by_cases hi : i < l.length
  · rw [List.getElem?_append_left (by simpa using hi), List.getElem?_map] at h
    cases e : l[i]? with
    | none => rw [e] at h; cases h
    | some x => rw [e] at h; cases h; rfl
  · rw [List.getElem?_append_right (by simpa using hi)] at h
    rw [List.getElem?_replicate] at h
    split at h <;> cases h
theorem app_rep_of {α : Type} {l : List α} {m i : Nat} {y : α} (h : l[i]? = some y) : (l.map some ++ List.replicate m none)[i]? = some (some y) := by
  have hi : i < l.length := (List.getElem?_eq_some_iff.mp h).1
  rw [List.getElem?_append_left (by simpa using hi), List.getElem?_map, h]
  rfl
theorem entry_rel {K : PySem.W.Frag} {n : Nat} {F H : Hp} {vs : List V} {bs : List B} (R : Rel K (scOf F vs H bs)) : Rel K (entry n F vs H bs) ∧ (∀ j a, CellAt (entry n F vs H bs) j a → CellAt (scOf F vs H bs) j a) ∧ vs.length = bs.length := by
  have hl : vs.length = bs.length := by
    have := R.len
    simpa [scOf] using this
  have cc : ∀ j a, CellAt (entry n F vs H bs) j a → CellAt (scOf F vs H bs) j a := fun j a ⟨h1, b, h2, h3⟩ => sc_cell (app_rep_some h1) (app_rep_some h2) h3
  refine ⟨⟨R.sub, by simp [entry, hl], fun i b hb hx => ?_, fun i j a c1 c2 => R.sep i j a (cc i a c1) (cc j a c2), fun i a c => R.own i a (cc i a c)⟩, cc, hl⟩
  have hb' := app_rep_some hb
  obtain ⟨v, hv, r⟩ := R.slotX i b (by show (bs.map some)[i]? = _; rw [List.getElem?_map, hb']; rfl) hx
  obtain ⟨x, e1, e2⟩ := getElem?_map_some hv
  cases e2
  exact ⟨_, app_rep_of e1, r⟩
/-- from the state at the body's end to the caller's view -/
theorem fn_back {K : PySem.W.Frag} {n : Nat} {F H : Hp} {vs : List V} {bs : List B} {s' : Sx} (R : Rel K (scOf F vs H bs)) (R' : Rel K s') (S : Step vs.length (entry n F vs H bs) s') :
    Rel K (scOf s'.F vs s'.H (backB bs s'.ρ)) ∧ Step vs.length (scOf F vs H bs) (scOf s'.F vs s'.H (backB bs s'.ρ)) ∧ Kept bs (backB bs s'.ρ) ∧ ∀ j a, CellAt (scOf s'.F vs s'.H (backB bs s'.ρ)) j a → CellAt s' j a ∧ j < vs.length := by
  obtain ⟨Re, cc, hl⟩ := entry_rel (n := n) R
  have m : ∀ a o, F a = some o → s'.F a = some o := S.mono Re
  have ec : ∀ j a, CellAt (scOf F vs H bs) j a → CellAt (entry n F vs H bs) j a ∧ j < vs.length := fun j a c => by
    obtain ⟨h1, b, h2, h3⟩ := cell_sc c
    exact ⟨⟨app_rep_of h1, b, app_rep_of h2, h3⟩, (List.getElem?_eq_some_iff.mp h1).1⟩
  -- a lent cell at the end
  have lent : ∀ (j : Nat) (a : Addr) (b : B), vs[j]? = some (.ref a) → bs[j]? = some b → b.isCell = true → s'.σ[j]? = some (some (.ref a)) ∧ ∃ b', s'.ρ[j]? = some (some b') ∧ b'.lk = true := fun j a b h1 h2 h3 => by
    have hj : j < vs.length := (List.getElem?_eq_some_iff.mp h1).1
    exact S.par j a hj ⟨app_rep_of h1, b, app_rep_of h2, by cases b <;> first | rfl | cases h3⟩
  have slotOf : ∀ (j : Nat) (b : B), bs[j]? = some b → b.isX = false → ∃ v, vs[j]? = some v ∧ BRep K F H v b := fun j b hb hx => by
    obtain ⟨v, hv, r⟩ := R.slotX j b (by show (bs.map some)[j]? = _; rw [List.getElem?_map, hb]; rfl) hx
    obtain ⟨x, e1, e2⟩ := getElem?_map_some hv
    cases e2
    exact ⟨_, e1, r⟩
  have refOf : ∀ (j : Nat) (b : B), bs[j]? = some b → b.isCell = true → ∃ a, vs[j]? = some (.ref a) := fun j b hb hc => by
    have hx : b.isX = false := by cases b <;> first | rfl | cases hc
    obtain ⟨v, hv, r⟩ := slotOf j b hb hx
    cases b with
    | l xs => obtain ⟨p, _, rfl, _⟩ := r; exact ⟨p, hv⟩
    | t xs => obtain ⟨p, _, rfl, _⟩ := r; exact ⟨p, hv⟩
    | _ => cases hc
  have back : ∀ (j : Nat) (b' : B), (backB bs s'.ρ)[j]? = some b' → ∃ b, bs[j]? = some b ∧ (b.isCell = false ∧ b' = b ∨ b.isCell = true ∧ ∃ a, vs[j]? = some (.ref a) ∧ s'.σ[j]? = some (some (.ref a)) ∧ s'.ρ[j]? = some (some b') ∧ b'.lk = true) := fun j b' h => by
    obtain ⟨b, hb, q⟩ := backB_some h
    refine ⟨b, hb, ?_⟩
    rcases q with z | ⟨hc, z⟩
    · exact .inl z
    · obtain ⟨a, ha⟩ := refOf j b hb hc
      obtain ⟨h1, b2, h2, h3⟩ := lent j a b ha hb hc
      rcases z with z | ⟨z, _⟩
      · rw [h2] at z
        cases z
        exact .inr ⟨hc, a, ha, h1, h2, h3⟩
      · exact absurd h2 (z b2)
  have cells : ∀ j a, CellAt (scOf s'.F vs s'.H (backB bs s'.ρ)) j a → CellAt s' j a ∧ j < vs.length ∧ CellAt (scOf F vs H bs) j a := fun j a c => by
    obtain ⟨h1, b', h2, h3⟩ := cell_sc c
    obtain ⟨b, hb, q⟩ := back j b' h2
    rcases q with ⟨z, z2⟩ | ⟨hc, a', g1, g2, g3, g4⟩
    · subst z2; rw [z] at h3; cases h3
    · rw [h1] at g1
      cases g1
      exact ⟨⟨g2, b', g3, h3⟩, (List.getElem?_eq_some_iff.mp h1).1, sc_cell h1 hb hc⟩
  refine ⟨⟨R'.sub, ?_, fun j b' hb' hx => ?_, fun i j a c1 c2 => R'.sep i j a (cells i a c1).1 (cells j a c2).1, fun j a c => R'.own j a (cells j a c).1⟩, ⟨fun a o e n => S.keep a o e fun ⟨j, c⟩ => n ⟨j, cc j a c⟩, fun a o e n => S.fz a o e fun ⟨j, c⟩ => n ⟨j, cc j a c⟩, S.there, fun a ⟨j, c⟩ => .inl ⟨j, (cells j a c).2.2⟩, fun j a hj l => ?_, fun j h => ?_, fun j _ => rfl⟩, ⟨backB_len, fun j b hb hc => ?_⟩, fun j a c => ⟨(cells j a c).1, (cells j a c).2.1⟩⟩
  · show (vs.map some).length = ((backB bs s'.ρ).map some).length
    rw [List.length_map, List.length_map, backB_len, hl]
  · obtain ⟨y, e3, e4⟩ := getElem?_map_some hb'
    cases e4
    obtain ⟨b, hb, q⟩ := back j b' e3
    rcases q with ⟨z, z2⟩ | ⟨hc, a', g1, g2, g3, g4⟩
    · subst z2
      obtain ⟨v, hv, r⟩ := slotOf j b' hb hx
      exact ⟨v, by show (vs.map some)[j]? = _; rw [List.getElem?_map, hv]; rfl, r.keep m fun a hc => by rw [z] at hc; cases hc⟩
    · obtain ⟨v, hv, r⟩ := R'.slotX j b' g3 hx
      rw [g2] at hv
      cases hv
      exact ⟨_, by show (vs.map some)[j]? = _; rw [List.getElem?_map, g1]; rfl, r⟩
  · obtain ⟨l1, b, l2, l3⟩ := l
    obtain ⟨x, e1, e2⟩ := getElem?_map_some l1
    cases e2
    obtain ⟨y, e3, e4⟩ := getElem?_map_some l2
    cases e4
    obtain ⟨b', h1, q⟩ := backB_get (ρ := s'.ρ) e3
    refine ⟨l1, b', by show ((backB bs s'.ρ).map some)[j]? = _; rw [List.getElem?_map, h1]; rfl, ?_⟩
    rcases q with ⟨z, z2⟩ | ⟨hc, z⟩
    · subst z2; exact l3
    · obtain ⟨h1', b2, h2, h3⟩ := lent j a b e1 e3 hc
      rcases z with z | ⟨z, _⟩
      · rw [h2] at z
        cases z
        exact h3
      · exact absurd h2 (z b2)
  · obtain ⟨b, hb⟩ := h
    obtain ⟨y, e3, e4⟩ := getElem?_map_some hb
    cases e4
    obtain ⟨b', h1, _⟩ := backB_get (ρ := s'.ρ) e3
    exact ⟨b', by show ((backB bs s'.ρ).map some)[j]? = _; rw [List.getElem?_map, h1]; rfl⟩
  · obtain ⟨b', h1, q⟩ := backB_get (ρ := s'.ρ) hb
    rcases q with ⟨_, z2⟩ | ⟨z, _⟩
    · subst z2; exact h1
    · rw [hc] at z; cases z
section
variable {P : Program} {w : World} {K : PySem.W.Frag} {mg : Str → Option Value} {base : Heap}
/-- a def keeps what its body's function says -/
theorem fn_ok {x qual : Str} {st : Stmt} {fa : Addr} {fd : FuncData} {N ps : List Str} {k n : Nat} {body : Mx Fl} (F : Fun K x qual st fa fd) (S : FnScope N ps (defScope st)) (hn : N.length = n)
    (hb : ∀ (cdv : Value) (A : Around) (outer : List PySem.Env) (s : Shared) (H : Hp) (E : XK), Room k (A.deeper (envOfC qual (defScope st) s.heap.objs.size fa cdv)) →
      DSs (cxOf (L2.CX P w) P w K mg base N qual (defScope st) fa cdv A outer s H E) ⟨K, ps.length, mg⟩ (fun cls d _ H => E cls d H) (defBody st) body) :
    FnOk P w K mg base (L2.CX P w) (k + 1) fa fd ps (spF K mg (mkFn ps.length n body)) := by
  refine F.okX S (fun vs H Q E h => ?_) fun cdv A outer s H vs Q E hr h => ⟨_, hb cdv A outer s H E hr, ?_⟩
  · obtain ⟨Fz, bs, R, h⟩ := h
    by_cases hl : bs.length = ps.length
    · have := R.len
      rw [← hl]
      simpa [scOf] using this
    · unfold mkFn at h
      rw [if_neg hl] at h
      exact h.elim
  · obtain ⟨Fz, bs, R, h⟩ := h
    unfold mkFn at h
    by_cases hl : bs.length = ps.length
    · rw [if_pos hl] at h
      obtain ⟨Re, cc, hvl⟩ := entry_rel (n := n) R
      have hnp : vs.length = ps.length := hvl.trans hl
      have est : L2.start N vs = vs.map some ++ List.replicate (n - vs.length) none := by unfold L2.start; rw [hn]
      refine ⟨Fz, bs.map some ++ List.replicate (n - ps.length) none, by rw [est, ← hl]; exact Re, ?_⟩
      have toEntry : (⟨Fz, L2.start N vs, H, bs.map some ++ List.replicate (n - ps.length) none⟩ : Sx) = entry n Fz vs H bs := by rw [est, ← hl]; rfl
      rw [toEntry]
      have key : ∀ {s' : Sx}, Rel K s' → Step ps.length (entry n Fz vs H bs) s' → _ := fun {s'} R' S' => fn_back (n := n) R R' (hnp ▸ S')
      cases e : body (bs.map some ++ List.replicate (n - ps.length) none) with
      | st => rw [e] at h; exact h.elim
      | er c ρ =>
        rw [e] at h
        intro F' σ' H' C hC R' S'
        obtain ⟨R2, S2, kp, _⟩ := key (s' := ⟨F', σ', H', ρ⟩) R' S'
        exact h F' H' C hC R2 S2 kp
      | ok fl ρ =>
        rw [e] at h
        cases fl with
        | bk => exact h.elim
        | ct => exact h.elim
        | nx =>
          intro F' σ' H' R' S'
          obtain ⟨R2, S2, kp, _⟩ := key (s' := ⟨F', σ', H', ρ⟩) R' S'
          exact h .non F' H' R2 S2 .non kp
        | rt u =>
          intro v F' σ' H' R' S' rv
          have R' : Rel K ⟨F', σ', H', ρ⟩ := R'
          have S' : Step ps.length (entry n Fz vs H bs) ⟨F', σ', H', ρ⟩ := S'
          have rv : VRep K H ⟨F', σ', H', ρ⟩ v u := rv
          simp only at h
          cases er : retW ps.length ρ u with
          | none => rw [er] at h; exact h.elim
          | some q =>
            obtain ⟨b, ρ'⟩ := q
            rw [er] at h
            simp only at h
            have fin : ∀ {F2 : Hp} {ρ2 : Env} {b2 : B}, Rel K ⟨F2, σ', H', ρ2⟩ → Step ps.length (entry n Fz vs H bs) ⟨F2, σ', H', ρ2⟩ → VRep K H ⟨F2, σ', H', ρ2⟩ v (ofB b2) → (∀ i, ofB b2 ≠ .c i) → b2 = b → ρ2 = ρ' → Q v H' := fun {F2 ρ2 b2} R3 S3 r3 hno e1 e2 => by
              subst e1 e2
              obtain ⟨R2, S2, kp, cl⟩ := key (s' := ⟨F2, σ', H', ρ2⟩) R3 S3
              refine h v F2 H' R2 S2 ?_ kp
              cases hw : ofB b2 with
              | d y => rw [hw] at r3; exact r3
              | c i => exact absurd hw (hno i)
              | l ys =>
                rw [hw] at r3
                obtain ⟨p, us, e2, q1, q2, q3, q4, q5⟩ := r3
                exact ⟨p, us, e2, q1, q2, q3, q4, fun ⟨j, c⟩ => q5 ⟨j, (cl j p c).1⟩⟩
              | t ys =>
                rw [hw] at r3
                obtain ⟨p, us, e2, q1, q2, q3, q4, q5⟩ := r3
                exact ⟨p, us, e2, q1, q2, q3, q4, fun ⟨j, c⟩ => q5 ⟨j, (cl j p c).1⟩⟩
            cases u with
            | d y => cases er; exact fin (b2 := .d y) R' S' rv (fun i z => by cases z) rfl rfl
            | l ys => cases er; exact fin (b2 := .l ys) R' S' rv (fun i z => by cases z) rfl rfl
            | t ys => cases er; exact fin (b2 := .t ys) R' S' rv (fun i z => by cases z) rfl rfl
            | c i =>
              have rv' : σ'[i]? = some (some v) := rv
              -- a cell of one's own is new
              have own : ∀ {b0 : B} {a : Addr}, ps.length ≤ i → ρ[i]? = some (some b0) → b0.isCell = true → v = .ref a → H a = none := fun {b0 a} hi hb hc hv => by
                subst hv
                have c : CellAt (⟨F', σ', H', ρ⟩ : Sx) i a := ⟨rv', b0, hb, hc⟩
                rcases S'.cells a ⟨i, c⟩ with ⟨j, cj⟩ | z
                · exfalso
                  have cj' := cc j a cj
                  have hj : j < ps.length := by
                    rw [← hnp]
                    exact (List.getElem?_eq_some_iff.mp (cell_sc cj').1).1
                  obtain ⟨g1, b1, g2, g3⟩ := cj
                  obtain ⟨l1, b', l2, l3⟩ := S'.par j a hj ⟨g1, b1, g2, by cases b1 <;> first | rfl | cases g3⟩
                  cases b' with
                  | l ys => exact absurd (R'.sep j i a ⟨l1, _, l2, rfl⟩ c) (by omega)
                  | t ys => exact absurd (R'.sep j i a ⟨l1, _, l2, rfl⟩ c) (by omega)
                  | s ys => cases l3
                  | x => cases l3
                  | d y =>
                    cases y with
                    | list ys =>
                      obtain ⟨v2, hv2, r2⟩ := R'.slot j _ l2
                      rw [l1] at hv2
                      cases hv2
                      cases r2 with
                      | lst e9 _ =>
                        have e8 : F' a = none := R'.own i a c
                        have e9 : F' a = _ := e9
                        rw [e8] at e9
                        cases e9
                    | _ => cases l3
                · exact z
              have notIn : ∀ {b0 : B} {a : Addr}, ps.length ≤ i → ρ[i]? = some (some b0) → b0.isCell = true → v = .ref a → ¬ ∃ j, j < ps.length ∧ CellAt (⟨F', σ', H', ρ⟩ : Sx) j a := fun {b0 a} hi hb hc hv ⟨j, hj, cj⟩ => by
                subst hv
                exact absurd (R'.sep j i a cj ⟨rv', b0, hb, hc⟩) (by omega)
              simp only [retW] at er
              cases hb : ρ[i]? with
              | none => rw [hb] at er; cases er
              | some o =>
                cases o with
                | none => rw [hb] at er; cases er
                | some b0 =>
                  rw [hb] at er
                  cases b0 with
                  | x => cases er
                  | s ys => cases er
                  | d y =>
                    cases er
                    obtain ⟨v2, hv2, r2⟩ := R'.slot i _ hb
                    have hv2 : σ'[i]? = _ := hv2
                    rw [rv'] at hv2
                    cases hv2
                    exact fin (b2 := .d y) R' S' r2 (fun i z => by cases z) rfl rfl
                  | l ys =>
                    simp only at er
                    by_cases hi : ps.length ≤ i
                    · rw [if_pos hi] at er
                      cases er
                      obtain ⟨v2, hv2, p, us, e1, r2, r3⟩ := R'.slot i _ hb
                      have hv2 : σ'[i]? = _ := hv2
                      rw [rv'] at hv2
                      cases hv2
                      obtain ⟨R2, S2, kp, cl⟩ := key (s' := ⟨F', σ', H', ρ⟩) R' S'
                      refine h v F' H' R2 S2 ⟨p, us, e1, r2, r3, ?_, own hi hb rfl e1, fun ⟨j, c⟩ => notIn hi hb rfl e1 ⟨j, by rw [← hnp]; exact (cl j p c).2, (cl j p c).1⟩⟩ kp
                      subst e1
                      exact R'.own i p ⟨rv', _, hb, rfl⟩
                    · rw [if_neg hi] at er
                      cases er
                      obtain ⟨F2, R2, S2, r2, _⟩ := R'.freezeAt S' hb rv'
                      exact fin (b2 := .d (.list ys)) R2 S2 r2 (fun i z => by cases z) rfl rfl
                  | t ys =>
                    simp only at er
                    by_cases hi : ps.length ≤ i
                    · rw [if_pos hi] at er
                      cases er
                      obtain ⟨v2, hv2, p, us, e1, r2, r3⟩ := R'.slot i _ hb
                      have hv2 : σ'[i]? = _ := hv2
                      rw [rv'] at hv2
                      cases hv2
                      obtain ⟨R2, S2, kp, cl⟩ := key (s' := ⟨F', σ', H', ρ⟩) R' S'
                      refine h v F' H' R2 S2 ⟨p, us, e1, r2, r3, ?_, own hi hb rfl e1, fun ⟨j, c⟩ => notIn hi hb rfl e1 ⟨j, by rw [← hnp]; exact (cl j p c).2, (cl j p c).1⟩⟩ kp
                      subst e1
                      exact R'.own i p ⟨rv', _, hb, rfl⟩
                    · rw [if_neg hi] at er
                      cases er
    · rw [if_neg hl] at h; exact h.elim
end
/-! ### raise -/
def sRaise (c : Str) : Mx Fl := fun ρ => .er c ρ
/-- what the text must say of an own class of errors -/
structure ErrC (K : PySem.W.Frag) (mg : Str → Option Value) (c : Str) (C : Addr) : Prop where
  gC : mg c = some (.ref C)
  exc : PySem.W.excIn K C [.type "ValueError", .type "Exception", .type "BaseException", .type "object"] "ValueError.__new__" = true
  kC : PySem.W.keepIn K (.ref C) = true
  bC : PySem.W.subIn K (.ref C) (.type "BaseException") = some true
  tC : PySem.W.typeIn K (.ref C) = some (.type "type")
section
variable {X : Cx} {Γ : Cn} {Wx : WX} {pos : Pos}
theorem ds_raise {c m : Str} {C : Addr} {j : Nat} {p p2 p3 : Pos} (E : ErrC X.K X.mg c C) (hc : X.calm = true) (tk : Takes X Wx) (hm : X.mg = Γ.mg) (hg : Gl X c := by rfl) (hdb : (c == ("__debug__" : Str)) = false := by decide) :
    DS X Γ Wx (.Raise (some (.Call (.Name c p) [.Constant (.str m) j p2] [] p3)) none pos) (sRaise c) :=
  PS.imp (ps_raise hc tk (pmk_own PySem.F.excBase_ValueError E.exc E.gC E.kC (raises_own E.bC E.tC) hg hdb)) fun Dn σ H ⟨F, ρ, R, h⟩ => h F σ H C (by rw [← hm]; exact E.gC) R (Step.refl _)
end
end TD
namespace TD
open PySem PySem.Spec PyProof.Rows L2

/-! ### lists of whole numbers -/
def numsOf : List D → Option (List Int)
  | [] => some []
  | .int i :: xs => (numsOf xs).map (i :: ·)
  | _ :: _ => none
theorem nums_map : ∀ ns : List Int, numsOf (ns.map PyData.int) = some ns
  | [] => rfl
  | n :: ns => by rw [List.map_cons]; unfold numsOf; rw [nums_map ns]; rfl
theorem nums_inv : ∀ {xs : List D} {ns : List Int}, numsOf xs = some ns → xs = ns.map PyData.int
  | [], ns, h => by cases h; rfl
  | x :: xs, ns, h => by
    cases x with
    | int i =>
      unfold numsOf at h
      cases e : numsOf xs with
      | none => rw [e] at h; cases h
      | some ms => rw [e] at h; cases h; rw [nums_inv e]; rfl
    | _ => cases h
theorem RpA.intsV {F : Hp} : ∀ {ns : List Int} {vs : List V}, RpA F vs (ns.map PyData.int) → vs = ns.map V.int
  | [], _, .nil => rfl
  | n :: ns, _, .cons r t => by rw [r.intV, RpA.intsV t]; rfl
def boolsOf : List D → Option (List Bool)
  | [] => some []
  | .bool i :: xs => (boolsOf xs).map (i :: ·)
  | _ :: _ => none
theorem boolsOf_map : ∀ ns : List Bool, boolsOf (ns.map PyData.bool) = some ns
  | [] => rfl
  | n :: ns => by rw [List.map_cons]; unfold boolsOf; rw [boolsOf_map ns]; rfl
theorem boolsOf_inv : ∀ {xs : List D} {ns : List Bool}, boolsOf xs = some ns → xs = ns.map PyData.bool
  | [], ns, h => by cases h; rfl
  | x :: xs, ns, h => by
    cases x with
    | bool i =>
      unfold boolsOf at h
      cases e : boolsOf xs with
      | none => rw [e] at h; cases h
      | some ms => rw [e] at h; cases h; rw [boolsOf_inv e]; rfl
    | _ => cases h
theorem RpA.boolsV {F : Hp} : ∀ {ns : List Bool} {vs : List V}, RpA F vs (ns.map PyData.bool) → vs = ns.map V.bl
  | [], _, .nil => rfl
  | n :: ns, _, .cons r t => by rw [r.blV, RpA.boolsV t]; rfl
/-- the greatest, the least of some numbers -/
def maxL : List Int → Int
  | [] => 0
  | [x] => x
  | x :: xs => max x (maxL xs)
def minL : List Int → Int
  | [] => 0
  | [x] => x
  | x :: xs => min x (minL xs)
theorem maxL_spec : ∀ {ns : List Int}, ns ≠ [] → maxL ns ∈ ns ∧ ∀ y ∈ ns, y ≤ maxL ns
  | [], h => absurd rfl h
  | [x], _ => ⟨by simp [maxL], by simp [maxL]⟩
  | x :: y :: r, _ => by
    obtain ⟨h1, h2⟩ := maxL_spec (ns := y :: r) (by simp)
    show max x (maxL (y :: r)) ∈ x :: y :: r ∧ ∀ z ∈ x :: y :: r, z ≤ max x (maxL (y :: r))
    refine ⟨?_, fun z hz => ?_⟩
    · rcases Int.le_total x (maxL (y :: r)) with h | h
      · rw [Int.max_eq_right h]; exact List.mem_cons_of_mem _ h1
      · rw [Int.max_eq_left h]; exact List.mem_cons_self
    · rcases List.mem_cons.mp hz with e | e
      · subst e; exact Int.le_max_left _ _
      · exact Int.le_trans (h2 z e) (Int.le_max_right _ _)
theorem minL_spec : ∀ {ns : List Int}, ns ≠ [] → minL ns ∈ ns ∧ ∀ y ∈ ns, minL ns ≤ y
  | [], h => absurd rfl h
  | [x], _ => ⟨by simp [minL], by simp [minL]⟩
  | x :: y :: r, _ => by
    obtain ⟨h1, h2⟩ := minL_spec (ns := y :: r) (by simp)
    show min x (minL (y :: r)) ∈ x :: y :: r ∧ ∀ z ∈ x :: y :: r, min x (minL (y :: r)) ≤ z
    refine ⟨?_, fun z hz => ?_⟩
    · rcases Int.le_total x (minL (y :: r)) with h | h
      · rw [Int.min_eq_left h]; exact List.mem_cons_self
      · rw [Int.min_eq_right h]; exact List.mem_cons_of_mem _ h1
    · rcases List.mem_cons.mp hz with e | e
      · subst e; exact Int.min_le_left _ _
      · exact Int.le_trans (Int.min_le_right _ _) (h2 z e)
/-- a built-in of one list of numbers -/
def gI1 (f : List Int → Option D) (ws : List W) : Env → Out W := fun ρ => match ws with
  | [w] => match w.lst ρ with
    | some xs => match numsOf xs with
      | some ns => match f ns with
        | some d => .ok (.d d) ρ
        | none => .st
      | none => .st
    | none => .st
  | _ => .st
theorem gI1_inv {Γ : Cn} {Wx : WX} {s s0 : Sx} {f : List Int → Option D} {ws : List W} {vs : List V} {Q : VK} (R : Rel Γ.K s) (hσ : s0.σ = s.σ) (S : Step Γ.np s0 s) (r : VReps Γ.K s0.H s vs ws) (h : Post Γ Wx s0 (gI1 f ws s.ρ) Q) :
    ∃ p ns d, vs = [.ref p] ∧ SqL Γ.K s.H p (ns.map V.int) ∧ f ns = some d ∧ Post Γ Wx s (.ok (.d d) s.ρ) Q := by
  have h := h.step (s1 := s) S hσ.symm
  unfold gI1 at h
  obtain ⟨w, rfl, h⟩ := one_inv (P := fun o => Post Γ Wx s o Q) h fun z => z
  obtain ⟨v, rfl, q0⟩ := VReps.one r
  cases e1 : w.lst s.ρ with
  | none => simp only [e1] at h; exact h.elim
  | some xs =>
    simp only [e1] at h
    cases e2 : numsOf xs with
    | none => simp only [e2] at h; exact h.elim
    | some ns =>
      simp only [e2] at h
      cases e3 : f ns with
      | none => simp only [e3] at h; exact h.elim
      | some d =>
        simp only [e3] at h
        obtain ⟨p, us, rfl, q, q2⟩ := q0.lst R e1
        have e4 := nums_inv e2
        subst e4
        have e5 := q2.intsV
        subst e5
        exact ⟨p, ns, d, rfl, q, e3, h⟩
abbrev gSum := gI1 fun ns => some (.int ns.sum)
abbrev gMaxL := gI1 fun ns => if ns = [] then none else some (.int (maxL ns))
abbrev gMinL := gI1 fun ns => if ns = [] then none else some (.int (minL ns))
section
variable {X : Cx} {Γ : Cn} {Wx : WX}
theorem ok_sum : OkC Γ Wx (rSum Γ.K) gSum := fun s vs ws s0 Q R hσ S r h => by
  obtain ⟨p, ns, d, rfl, q, e, h⟩ := gI1_inv R hσ S r h
  cases e
  exact ⟨p, ns, rfl, q, h.val R (.int _)⟩
theorem ok_maxL : OkC Γ Wx (rMax Γ.K) gMaxL := fun s vs ws s0 Q R hσ S r h => by
  obtain ⟨p, ns, d, rfl, q, e, h⟩ := gI1_inv R hσ S r h
  split at e
  · cases e
  · rename_i hn
    cases e
    obtain ⟨h1, h2⟩ := maxL_spec hn
    refine ⟨p, ns, rfl, q, by cases ns with | nil => exact absurd rfl hn | cons _ _ => exact Nat.succ_pos _, fun m hm hle => ?_⟩
    have e2 : m = maxL ns := Int.le_antisymm (h2 m hm) (hle _ h1)
    subst e2
    exact h.val R (.int _)
theorem ok_minL : OkC Γ Wx (rMin Γ.K) gMinL := fun s vs ws s0 Q R hσ S r h => by
  obtain ⟨p, ns, d, rfl, q, e, h⟩ := gI1_inv R hσ S r h
  split at e
  · cases e
  · rename_i hn
    cases e
    obtain ⟨h1, h2⟩ := minL_spec hn
    refine ⟨p, ns, rfl, q, by cases ns with | nil => exact absurd rfl hn | cons _ _ => exact Nat.succ_pos _, fun m hm hle => ?_⟩
    have e2 : m = minL ns := Int.le_antisymm (hle _ h1) (h2 m hm)
    subst e2
    exact h.val R (.int _)
def gAll (ws : List W) : Env → Out W := fun ρ => match ws with
  | [w] => match w.lst ρ with
    | some xs => match boolsOf xs with
      | some ns => .ok (.d (.bool (ns.all id))) ρ
      | none => .st
    | none => .st
  | _ => .st
theorem ok_all : OkC Γ Wx (rAll Γ.K) gAll := fun s vs ws s0 Q R hσ S r h => by
  have h := h.step (s1 := s) S hσ.symm
  unfold gAll at h
  obtain ⟨w, rfl, h⟩ := one_inv (P := fun o => Post Γ Wx s o Q) h fun z => z
  obtain ⟨v, rfl, q0⟩ := VReps.one r
  cases e1 : w.lst s.ρ with
  | none => simp only [e1] at h; exact h.elim
  | some xs =>
    simp only [e1] at h
    cases e2 : boolsOf xs with
    | none => simp only [e2] at h; exact h.elim
    | some ns =>
      simp only [e2] at h
      obtain ⟨p, us, rfl, q, q2⟩ := q0.lst R e1
      have e4 := boolsOf_inv e2
      subst e4
      have e5 := q2.boolsV
      subst e5
      exact ⟨p, ns, rfl, q, h.val R (.bl _)⟩
/-- a built-in of two numbers; of one -/
def gI2 (f : Int → Int → Int) (ws : List W) : Env → Out W := fun ρ => match ws with
  | [w, w'] => match w.asD ρ, w'.asD ρ with
    | some (.int i), some (.int j) => .ok (.d (.int (f i j))) ρ
    | _, _ => .st
  | _ => .st
theorem two_inv {ws : List W} {α : Type} {k : W → W → Out α} {P : Out α → Prop} (h : P (match ws with | [w, w'] => k w w' | _ => .st)) (hst : ¬ P .st) : ∃ w w', ws = [w, w'] ∧ P (k w w') := by
  cases ws with
  | nil => exact (hst h).elim
  | cons w wr =>
    cases wr with
    | nil => exact (hst h).elim
    | cons w' wr =>
      cases wr with
      | nil => exact ⟨w, w', rfl, h⟩
      | cons _ _ => exact (hst h).elim
theorem ok_I2 {f : Int → Int → Int} : OkC Γ Wx (fun xs H Q => ∃ i j, xs = [.int i, .int j] ∧ Q (.int (f i j)) H) (gI2 f) := fun s vs ws s0 Q R hσ S r h => by
  have h := h.step (s1 := s) S hσ.symm
  unfold gI2 at h
  obtain ⟨w, w', rfl, h2⟩ := two_inv (P := fun o => Post Γ Wx s o Q) h fun z => z
  obtain ⟨v, v', rfl, q0, q1⟩ := VReps.two r
  split at h2
  · rename_i i j e1 e2
    exact ⟨i, j, by rw [(q0.data R e1).intV, (q1.data R e2).intV], h2.val R (.int _)⟩
  · exact h2.elim
abbrev gMax2 := gI2 fun i j => if j > i then j else i
abbrev gMin2 := gI2 fun i j => if j < i then j else i
def gAbs (ws : List W) : Env → Out W := fun ρ => match ws with
  | [w] => match w.asD ρ with
    | some (.int i) => .ok (.d (.int (if i < 0 then -i else i))) ρ
    | _ => .st
  | _ => .st
theorem ok_abs : OkC Γ Wx (fun xs H Q => ∃ i, xs = [.int i] ∧ Q (.int (if i < 0 then -i else i)) H) gAbs := fun s vs ws s0 Q R hσ S r h => by
  have h := h.step (s1 := s) S hσ.symm
  unfold gAbs at h
  obtain ⟨w, rfl, h2⟩ := one_inv (P := fun o => Post Γ Wx s o Q) h fun z => z
  obtain ⟨v, rfl, q0⟩ := VReps.one r
  split at h2
  · rename_i i e1
    exact ⟨i, by rw [(q0.data R e1).intV], h2.val R (.int _)⟩
  · exact h2.elim
/-- int(x) of a number or a truth -/
def gInt (ws : List W) : Env → Out W := fun ρ => match ws with
  | [w] => match w.asD ρ with
    | some (.int i) => .ok (.d (.int i)) ρ
    | some (.bool k) => .ok (.d (.int (if k then 1 else 0))) ρ
    | some (.str a) => if a.length ≤ 640 then (match PySem.intText? a with
      | some n => .ok (.d (.int n)) ρ
      | none => .st) else .st
    | _ => .st
  | _ => .st
def rIntAll : List V → Hp → VK → Prop := fun xs H Q => ((∃ i, xs = [.int i] ∧ Q (.int i) H) ∨ ∃ k, xs = [.bl k] ∧ Q (.int (if k then 1 else 0)) H) ∨ ∃ a n, xs = [.str a] ∧ PySem.intText? a = some n ∧ a.length ≤ 640 ∧ Q (.int n) H
theorem call_intAll : CallR X (.type "int") rIntAll := CallR.or call_int1 call_int_str
theorem ok_int : OkC Γ Wx rIntAll gInt := fun s vs ws s0 Q R hσ S r h => by
  have h := h.step (s1 := s) S hσ.symm
  unfold gInt at h
  obtain ⟨w, rfl, h2⟩ := one_inv (P := fun o => Post Γ Wx s o Q) h fun z => z
  obtain ⟨v, rfl, q0⟩ := VReps.one r
  split at h2
  · rename_i i e1
    exact .inl (.inl ⟨i, by rw [(q0.data R e1).intV], h2.val R (.int _)⟩)
  · rename_i i e1
    exact .inl (.inr ⟨i, by rw [(q0.data R e1).blV], h2.val R (.int _)⟩)
  · rename_i a e1
    by_cases hl : a.length ≤ 640
    · rw [if_pos hl] at h2
      cases e2 : PySem.intText? a with
      | none => simp only [e2] at h2; exact h2.elim
      | some n =>
        simp only [e2] at h2
        exact .inr ⟨a, n, by rw [(q0.data R e1).strV], e2, hl, h2.val R (.int _)⟩
    · rw [if_neg hl] at h2; exact h2.elim
  · exact h2.elim
/-! ### isinstance of a built-in type -/
def tyD : D → String
  | .none => "NoneType"
  | .bool _ => "bool"
  | .int _ => "int"
  | .str _ => "str"
  | .list _ => "list"
  | .tuple _ => "tuple"
  | .dict _ => "dict"
def W.ty (ρ : Env) : W → Option String
  | .d x => some (tyD x)
  | .l _ => some "list"
  | .t _ => some "dict"
  | .c i => match ρ[i]? with
    | some (some (.d x)) => some (tyD x)
    | some (some (.l _)) => some "list"
    | some (some (.t _)) => some "dict"
    | _ => none
theorem Rp.ty {K : PySem.W.Frag} {F H : Hp} {v : V} {x : D} (h : ∀ a o, F a = some o → H a = some o) (r : Rp F v x) : TyX K H v (.type (tyD x)) := by
  cases r with
  | non => exact .base .non
  | bl b => exact .base (.bl b)
  | int i => exact .base (.int i)
  | str i => exact .base (.str i)
  | tup e q => exact .base (.tup (h _ _ e))
  | lst e q => exact .base (.lst (h _ _ e))
  | dct e => exact .base (.dT (h _ _ e))
theorem VRep.ty {K : PySem.W.Frag} {H0 : Hp} {s : Sx} {v : V} {w : W} {T : String} (R : Rel K s) (r : VRep K H0 s v w) (h : w.ty s.ρ = some T) : TyX K s.H v (.type T) := by
  cases w with
  | d x => cases h; exact Rp.ty R.sub r
  | l xs =>
    cases h
    obtain ⟨p, vs, rfl, e, _⟩ := r
    exact .base (.lst e)
  | t xs =>
    cases h
    obtain ⟨p, vs, rfl, e, _⟩ := r
    exact .base (.dT e)
  | c i =>
    have r' : s.σ[i]? = some (some v) := r
    simp only [W.ty] at h
    split at h
    · rename_i x hb
      cases h
      obtain ⟨v', hv, q⟩ := R.slot i _ hb
      rw [r'] at hv; cases hv
      exact Rp.ty R.sub q
    · rename_i x hb
      cases h
      obtain ⟨v', hv, p, vs, rfl, e, _⟩ := R.slot i _ hb
      rw [r'] at hv; cases hv
      exact .base (.lst e)
    · rename_i x hb
      cases h
      obtain ⟨v', hv, p, vs, rfl, e, _⟩ := R.slot i _ hb
      rw [r'] at hv; cases hv
      exact .base (.dT e)
    · cases h
def gIsi (T : String) (w : W) : Env → Out W := fun ρ => match w.ty ρ with
  | some tn => match kitB tn T with
    | some b => .ok (.d (.bool b)) ρ
    | none => .st
  | none => .st
theorem de_isi {e : Expr} {f : Mx W} {x : Str} {T : String} {p p2 pos : Pos} (hm : X.mg "isinstance" = none) (hm2 : X.mg x = none) (hv : bootBuiltins x = some (.type T)) (he : DE X Γ Wx e f) (hK : X.K = Γ.K) (hg : Gl X "isinstance" := by rfl) (hg2 : Gl X x := by rfl) (hn : x ≠ "__name__" := by decide) (hdb : (x == ("__debug__" : Str)) = false := by decide)
    (h1 : starEach [e, .Name x p2] X.env = (false, eval e X.env) :: starEach [.Name x p2] X.env := by rfl) (h2 : starEach [.Name x p2] X.env = (false, eval (.Name x p2) X.env) :: starEach [] X.env := by rfl) (hpl : (backTo pos (starEach [.Name x p2] X.env)).any (·.1) = false := by rfl) :
    DE X Γ Wx (.Call (.Name "isinstance" p) [e, .Name x p2] [] pos) (m1 (gIsi T) f) :=
  PE.imp (pe_callB call_isi hg hm boot_isinstance (pa_cons he (pa_cons (pe_bltn (v := .ty T) hg2 hm2 hv rfl hn hdb) pa_nil h2) h1) (by decide) (by decide) h1 hpl) fun σ H Q ⟨F, ρ, R, h⟩ => ⟨F, ρ, R, post_bnd (s := ⟨F, σ, H, ρ⟩) h fun v w F1 H1 ρ1 R1 S1 r h1 => by
    unfold gIsi at h1
    cases e1 : w.ty ρ1 with
    | none => rw [e1] at h1; exact h1.elim
    | some tn =>
      rw [e1] at h1
      simp only at h1
      cases e2 : kitB tn T with
      | none => rw [e2] at h1; exact h1.elim
      | some b =>
        rw [e2] at h1
        refine ⟨v, .ty T, .type tn, .type T, b, rfl, .ty T, ?_, kit_ty e2, Post.val (s := ⟨F1, σ, H1, ρ1⟩) R1 h1 (.bl _)⟩
        rw [hK]
        exact VRep.ty (s := ⟨F1, σ, H1, ρ1⟩) R1 r e1⟩
theorem kit_int_int : kitB "int" "int" = some true := by decide +kernel
theorem kit_bool_int : kitB "bool" "int" = some true := by decide +kernel
theorem kit_int_bool : kitB "int" "bool" = some false := by decide +kernel
theorem kit_bool_bool : kitB "bool" "bool" = some true := by decide +kernel
theorem kit_tuple_tuple : kitB "tuple" "tuple" = some true := by decide +kernel
theorem kit_list_tuple : kitB "list" "tuple" = some false := by decide +kernel
theorem kit_int_tuple : kitB "int" "tuple" = some false := by decide +kernel
theorem kit_bool_tuple : kitB "bool" "tuple" = some false := by decide +kernel
theorem kit_str_tuple : kitB "str" "tuple" = some false := by decide +kernel
theorem kit_none_tuple : kitB "NoneType" "tuple" = some false := by decide +kernel
theorem kit_dict_tuple : kitB "dict" "tuple" = some false := by decide +kernel
theorem kit_str_str : kitB "str" "str" = some true := by decide +kernel
theorem kit_none_int : kitB "NoneType" "int" = some false := by decide +kernel
theorem kit_str_int : kitB "str" "int" = some false := by decide +kernel
theorem kit_list_int : kitB "list" "int" = some false := by decide +kernel
theorem kit_tuple_int : kitB "tuple" "int" = some false := by decide +kernel
theorem kit_dict_int : kitB "dict" "int" = some false := by decide +kernel
theorem kit_none_bool : kitB "NoneType" "bool" = some false := by decide +kernel
theorem kit_str_bool : kitB "str" "bool" = some false := by decide +kernel
theorem kit_list_bool : kitB "list" "bool" = some false := by decide +kernel
theorem kit_tuple_bool : kitB "tuple" "bool" = some false := by decide +kernel
theorem kit_dict_bool : kitB "dict" "bool" = some false := by decide +kernel
/-! ### * -/
def rMulAll (K : PySem.W.Frag) : R2 := fun x y H Q => (rI CMul fun i j => .int (i * j)) x y H Q ∨ rRepT K x y H Q
theorem op_mulAll : OpR X (binaryOp .Mult) (rMulAll X.K) := OpR.or op_mul op_repT
def gMul (w1 w2 : W) : Env → Out W := fun ρ => match w1.asD ρ, w2.asD ρ with
  | some (.int i), some (.int j) => if (-18446744073709551616 < i ∧ i < 18446744073709551616) ∨ (-18446744073709551616 < j ∧ j < 18446744073709551616) then .ok (.d (.int (i * j))) ρ else .st
  | some (.tuple xs), some (.int k) => if xs ≠ [] ∧ 2 ≤ k ∧ k ≤ 1000 ∧ xs.length ≤ 1000 then .ok (.d (.tuple (List.replicate k.toNat xs).flatten)) ρ else .st
  | _, _ => .st
theorem RpA.rep {F : Hp} {vs : List V} {xs : List D} (r : RpA F vs xs) : ∀ k : Nat, RpA F (List.replicate k vs).flatten (List.replicate k xs).flatten
  | 0 => .nil
  | k + 1 => by
    rw [List.replicate_succ, List.replicate_succ, List.flatten_cons, List.flatten_cons]
    exact r.append (RpA.rep r k)
theorem ok_mul : Ok2 Γ Wx (rMulAll Γ.K) gMul := fun s v1 v2 w1 w2 H1 H2 Q R r1 r2 h => by
  unfold gMul at h
  split at h
  · rename_i i j e1 e2
    split at h
    · rename_i hc
      exact .inl ⟨i, j, (r1.data R e1).intV, (r2.data R e2).intV, (hc.imp (fun z => ⟨by omega, by omega⟩) (fun z => ⟨by omega, by omega⟩)), h.val R (.int _)⟩
    · exact h.elim
  · rename_i xs k e1 e2
    split at h
    · rename_i hc
      obtain ⟨p, vs, rfl, f1, q1⟩ := tup_inv (r1.data R e1)
      refine .inr ⟨p, k, vs, rfl, (r2.data R e2).intV, SqT.of (R.sub _ _ f1), fun z => hc.1 (q1.nil_iff.mp z), hc.2.1, hc.2.2.1, by rw [q1.length]; exact hc.2.2.2, fun l hl => h.tup R (q1.rep _) hl⟩
    · exact h.elim
  · exact h.elim
end
end TD
namespace TD
open PySem PySem.Spec PyProof.Rows L2

theorem boot_VE : bootBuiltins "ValueError" = some (.type "ValueError") := by decide +kernel
/-! ### a law's own try: the error is asked for its classes -/
theorem call_isET {X : Cx} {a D : Addr} {oe : Obj} {pn : List (Addr × Obj)} (C : ExcC X.K D) (hz : Zc (.ref D) Option.none oe) (hf : ∃ vs, oe.data = .fields vs) : CallR (X.suite a ((a, oe) :: pn)) (.builtin "isinstance")
    (fun xs H Q => ∃ (tp : Addr) (cs : List V) (us : List Value) (b : Bool), xs = [.ref a, .ref tp] ∧ H tp = some (.tup cs) ∧ Paired ClsV cs us ∧ PySem.W.kitAny X.K (.ref D) us = some b ∧ Q (.bl b) H) := by
  intro pins s σ H xs us Q I r h
  obtain ⟨tp, cs, ws, b, rfl, hT, k, e, q⟩ := h
  obtain ⟨u1, u2, rfl, r1, r2⟩ := vals2 r
  cases (show u1 = Value.ref a from r1)
  cases (show u2 = Value.ref tp from r2)
  obtain ⟨_, its, rv, o, h1, h2, n, h3⟩ := (show ObjOk X.prog X.w H s.heap tp (.tup cs) from I.hok tp _ hT)
  have e3 := ClsV.all k rv
  subst e3
  obtain ⟨oc, od, dt, sl⟩ := o
  simp only at h2 h3
  subst h2 h3
  obtain ⟨hget, _⟩ := I.pin (a, oe) (List.mem_append.mpr (.inl List.mem_cons_self))
  obtain ⟨vs, hv⟩ := hf
  have J : PySem.W.InstAt s.heap a oe D Option.none := by
    obtain ⟨oc, od, oda, osl⟩ := oe
    obtain ⟨h1, h2⟩ := hz
    dsimp only at h1 h2 hv
    subst h1 h2 hv
    exact ⟨hget, rfl, rfl, trivial⟩
  exact PySem.W.kia_tup (PySem.W.handS_kitx_exc C.hg C.hk C.hs C.hd C.ha C.hn C.ht C.hm) I.kIn J h1 e (fun z => nomatch z) fun tk => ⟨.bl b, H, I.kept (t' := tk) fun _ _ z => z, rfl, q⟩
/-- what is asked of a caught error: one class; four classes -/
def tIs1 (K : PySem.W.Frag) (cls : Value) (d : Option Addr) (a : Addr) (i : Nat) (cv : Value) : TE := fun σ H Q => ∃ (D : Addr) (b : Bool), cls = .ref D ∧ d = Option.none ∧ ExcC K D ∧ σ[i]? = some (some (.ref a)) ∧ PySem.W.kitOne K (.ref D) cv = some b ∧ Q (.bl b) H
def tIs4 (K : PySem.W.Frag) (cls : Value) (d : Option Addr) (a : Addr) (i : Nat) (cvs : List Addr) : TE := fun σ H Q => ∃ (D : Addr) (b : Bool), cls = .ref D ∧ d = Option.none ∧ ExcC K D ∧ σ[i]? = some (some (.ref a)) ∧ PySem.W.kitAny K (.ref D) (cvs.map Value.ref) = some b ∧
  ∀ q, H q = Option.none → Q (.bl b) (upd H q (.tup (cvs.map V.ref)))
section
variable {X : Cx} {a : Addr} {oe : Obj} {cls : Value} {d : Option Addr} {pn : List (Addr × Obj)} {i : Nat} {n c : Str} {p p2 p3 pos : Pos}
theorem pe_is1 {v : V} {cv : Value} (hz : Zc cls d oe) (hf : ∃ vs, oe.data = .fields vs) (hm : X.mg "isinstance" = Option.none) (hv : PE (X.suite a ((a, oe) :: pn)) (.Name c p3) (tC v)) (hcv : ∀ u, RelV v u → u = cv) (hi : X.N[i]? = some n) (hvis : Vis X.env.scope n)
    (hn1 : (n == ("__debug__" : Str)) = false) (hn2 : (n == ("__classdict__" : Str)) = false) (hg : Gl X "isinstance")
    (h1 : starEach [.Name n p2, .Name c p3] X.env = (false, eval (.Name n p2) X.env) :: starEach [.Name c p3] X.env) (h2 : starEach [.Name c p3] X.env = (false, eval (.Name c p3) X.env) :: starEach [] X.env) (hpl : (backTo pos (starEach [.Name c p3] X.env)).any (·.1) = false) :
    PE (X.suite a ((a, oe) :: pn)) (.Call (.Name "isinstance" p) [.Name n p2, .Name c p3] [] pos) (tIs1 X.K cls d a i cv) := by
  refine ⟨fun pins s σ H Q I h => ?_⟩
  obtain ⟨D, b, rfl, rfl, E, hσ, hk, q⟩ := h
  exact (pe_callB (X := X.suite a ((a, oe) :: pn)) (call_isE E hz hf) hg hm boot_isinstance (pa_cons (pe_var (i := i) hi hvis hn1 hn2) (pa_cons hv pa_nil h2) h1) (by decide) (by decide) h1 hpl).run pins s σ H Q I ⟨.ref a, hσ, v, cv, b, rfl, hcv, hk, q⟩
theorem pe_is4 {c1 c2 c3 c4 : Str} {C1 C2 C3 C4 : Addr} {p4 p5 p6 pt : Pos} {kt : Nat} (hz : Zc cls d oe) (hf : ∃ vs, oe.data = .fields vs) (hm : X.mg "isinstance" = Option.none)
    (g1 : PE (X.suite a ((a, oe) :: pn)) (.Name c1 p3) (tC (.ref C1))) (g2 : PE (X.suite a ((a, oe) :: pn)) (.Name c2 p4) (tC (.ref C2))) (g3 : PE (X.suite a ((a, oe) :: pn)) (.Name c3 p5) (tC (.ref C3))) (g4 : PE (X.suite a ((a, oe) :: pn)) (.Name c4 p6) (tC (.ref C4)))
    (hi : X.N[i]? = some n) (hvis : Vis X.env.scope n) (hn1 : (n == ("__debug__" : Str)) = false) (hn2 : (n == ("__classdict__" : Str)) = false) (hg : Gl X "isinstance")
    (h1 : starEach [.Name n p2, .Tuple [.Name c1 p3, .Name c2 p4, .Name c3 p5, .Name c4 p6] kt pt] X.env = (false, eval (.Name n p2) X.env) :: starEach [.Tuple [.Name c1 p3, .Name c2 p4, .Name c3 p5, .Name c4 p6] kt pt] X.env)
    (h2 : starEach [.Tuple [.Name c1 p3, .Name c2 p4, .Name c3 p5, .Name c4 p6] kt pt] X.env = (false, eval (.Tuple [.Name c1 p3, .Name c2 p4, .Name c3 p5, .Name c4 p6] kt pt) X.env) :: starEach [] X.env) (hpl : (backTo pos (starEach [.Tuple [.Name c1 p3, .Name c2 p4, .Name c3 p5, .Name c4 p6] kt pt] X.env)).any (·.1) = false)
    (s1 : starEach [.Name c1 p3, .Name c2 p4, .Name c3 p5, .Name c4 p6] X.env = (false, eval (.Name c1 p3) X.env) :: starEach [.Name c2 p4, .Name c3 p5, .Name c4 p6] X.env) (s2 : starEach [.Name c2 p4, .Name c3 p5, .Name c4 p6] X.env = (false, eval (.Name c2 p4) X.env) :: starEach [.Name c3 p5, .Name c4 p6] X.env)
    (s3 : starEach [.Name c3 p5, .Name c4 p6] X.env = (false, eval (.Name c3 p5) X.env) :: starEach [.Name c4 p6] X.env) (s4 : starEach [.Name c4 p6] X.env = (false, eval (.Name c4 p6) X.env) :: starEach [] X.env) :
    PE (X.suite a ((a, oe) :: pn)) (.Call (.Name "isinstance" p) [.Name n p2, .Tuple [.Name c1 p3, .Name c2 p4, .Name c3 p5, .Name c4 p6] kt pt] [] pos) (tIs4 X.K cls d a i [C1, C2, C3, C4]) := by
  refine ⟨fun pins s σ H Q I h => ?_⟩
  obtain ⟨D, b, rfl, rfl, E, hσ, hk, q⟩ := h
  refine (pe_callB (X := X.suite a ((a, oe) :: pn)) (call_isET E hz hf) hg hm boot_isinstance (pa_cons (pe_var (i := i) hi hvis hn1 hn2) (pa_cons (pe_tup (pa_cons g1 (pa_cons g2 (pa_cons g3 (pa_cons g4 pa_nil s4) s3) s2) s1)) pa_nil h2) h1) (by decide) (by decide) h1 hpl).run pins s σ H Q I ?_
  refine ⟨.ref a, hσ, by show 4 ≤ sizeLine; decide, fun q' hq => ⟨q', [.ref C1, .ref C2, .ref C3, .ref C4], [.ref C1, .ref C2, .ref C3, .ref C4], b, rfl, upd_same, ?_, hk, q q' hq⟩⟩
  exact .cons (.own C1) (.cons (.own C2) (.cons (.own C3) (.cons (.own C4) .nil)))
end
/-- of an error's class: whether it is the right one, a ValueError, another one of the program's -/
abbrev Asked := Str → Option (Bool × Bool × Bool)
def sTry (np o i : Nat) (ask : Asked) (body : Mx Fl) : Mx Fl := fun ρ => match body ρ with
  | .er c ρ' => match ask c with
    | some (b1, b2, b3) => match ρ'[i]? with
      | some (some (.l _)) => .st
      | some (some (.t _)) => .st
      | some _ => if np ≤ i then match put np o (.l [.bool b1, .bool b2, .bool b3]) (ρ'.set i (some .x)) with
        | some ρ2 => .ok .nx ρ2
        | none => .st
        else .st
      | none => .st
    | none => .st
  | r => r
/-- what the text must say for it: the class in the clause (CT), the right one (C1), the others -/
structure AskOk (K : PySem.W.Frag) (mg : Str → Option Value) (ask : Asked) (CT C1 : Addr) (Cs : List Addr) : Prop where
  at_ : ∀ c b1 b2 b3 D, ask c = some (b1, b2, b3) → mg c = some (.ref D) → ExcC K D ∧ PySem.W.exmOne K (.ref D) (.ref CT) = some true ∧ PySem.W.kitOne K (.ref D) (.ref C1) = some b1 ∧ PySem.W.kitOne K (.ref D) (.type "ValueError") = some b2 ∧ PySem.W.kitAny K (.ref D) (Cs.map Value.ref) = some b3
theorem poison {K : PySem.W.Frag} {np : Nat} {s0 s : Sx} {i : Nat} {x : Option V} (R : Rel K s) (S : Step np s0 s) (hi : np ≤ i) (hl : i < s.ρ.length) (hb : ∀ b : B, s.ρ[i]? = some (some b) → b.isCell = false) :
    Rel K ⟨s.F, s.σ.set i x, s.H, s.ρ.set i (some .x)⟩ ∧ Step np s0 ⟨s.F, s.σ.set i x, s.H, s.ρ.set i (some .x)⟩ := by
  have cc : ∀ {j a}, CellAt ⟨s.F, s.σ.set i x, s.H, s.ρ.set i (some .x)⟩ j a → CellAt s j a := fun {j a} ⟨h1, b, h2, h3⟩ => by
    rcases getElem?_set_cases h2 with ⟨_, h4⟩ | ⟨hj, h4⟩
    · cases h4; cases h3
    · have h1' : (s.σ.set i x)[j]? = some (some (.ref a)) := h1
      rw [List.getElem?_set_ne (Ne.symm hj)] at h1'
      exact ⟨h1', b, h4, h3⟩
  refine ⟨⟨R.sub, by simp [R.len], fun j b hj hx => ?_, fun j k a c1 c2 => R.sep j k a (cc c1) (cc c2), fun j a c => R.own j a (cc c)⟩, ⟨S.keep, S.fz, S.there, fun a ⟨j, c⟩ => S.cells a ⟨j, cc c⟩, fun j a hj l => ?_, fun j h => set_stay (S.stay j h), fun j h => ?_⟩⟩
  · rcases getElem?_set_cases hj with ⟨_, h4⟩ | ⟨hji, h4⟩
    · cases h4; cases hx
    · obtain ⟨v, hv, r⟩ := R.slotX j b h4 hx
      exact ⟨v, by show (s.σ.set i x)[j]? = _; rw [List.getElem?_set_ne (Ne.symm hji)]; exact hv, r⟩
  · obtain ⟨h1, b, h2, h3⟩ := S.par j a hj l
    have hji : j ≠ i := fun z => by omega
    exact ⟨by show (s.σ.set i x)[j]? = _; rw [List.getElem?_set_ne (Ne.symm hji)]; exact h1, b, by show (s.ρ.set i (some .x))[j]? = _; rw [List.getElem?_set_ne (Ne.symm hji)]; exact h2, h3⟩
  · have hji : j ≠ i := fun z => by
      subst z
      exact h ⟨.x, List.getElem?_set_self hl⟩
    show (s.σ.set i x)[j]? = _
    rw [List.getElem?_set_ne (Ne.symm hji)]
    exact S.same j fun z => h (set_stay z)
section
variable {X : Cx} {Γ : Cn} {Wx : WX}
theorem ds_try {o i : Nat} {ask : Asked} {body : List Stmt} {bd : Mx Fl} {n own cT c1 c2 c3 c4 c5 : Str} {CT C1 C2 C3 C4 C5 : Addr} {pos pos' q1 q2 q3 q4 q5 q6 q7 q8 q9 q10 q11 q12 q13 q14 q15 q16 q17 q18 q19 q20 q21 q22 q23 q24 : Pos} {k1 : Nat}
    (hN : X.N.Nodup) (tk : Takes X Wx) (A : AskOk Γ.K Γ.mg ask CT C1 [C2, C3, C4, C5]) (gT : X.mg cT = some (.ref CT)) (gi : X.mg "isinstance" = Option.none) (gV : X.mg "ValueError" = Option.none)
    (h1 : X.mg c1 = some (.ref C1)) (h2 : X.mg c2 = some (.ref C2)) (h3 : X.mg c3 = some (.ref C3)) (h4 : X.mg c4 = some (.ref C4)) (h5 : X.mg c5 = some (.ref C5)) (hoi : o ≠ i) (hK : X.K = Γ.K)
    (hb : ∀ (W : WX) (pn : List (Addr × Obj)) (xe : Value → Shared → Prop), Takes (X.tr pn xe) W → PassesOwn (model X.prog X.w) X.A X.env xe → DSs (X.tr pn xe) Γ W body bd)
    (hs : X.stack = X.env :: X.outer := by rfl) (hf : X.env.frame = some X.env.locals := by rfl) (hi : X.N[i]? = some n := by rfl) (hln : X.env.kindOf n = some .local := by rfl) (ho : X.N[o]? = some own := by rfl) (hlo : X.env.kindOf own = some .local := by rfl)
    (hcT : Gl X cT := by rfl) (hcd : (cT == ("__debug__" : Str)) = false := by decide)
    (vi : Vis X.env.scope n := by exact Or.inl rfl) (lo : Loc X.env.scope own := by exact Or.inl rfl) (vo : Vis X.env.scope own := by exact Or.inl rfl) (gis : Gl X "isinstance" := by rfl) (gVE : Gl X "ValueError" := by rfl) (gg1 : Gl X c1 := by rfl) (gg2 : Gl X c2 := by rfl) (gg3 : Gl X c3 := by rfl) (gg4 : Gl X c4 := by rfl) (gg5 : Gl X c5 := by rfl)
    (d1 : (c1 == ("__debug__" : Str)) = false := by decide) (d2 : (c2 == ("__debug__" : Str)) = false := by decide) (d3 : (c3 == ("__debug__" : Str)) = false := by decide) (d4 : (c4 == ("__debug__" : Str)) = false := by decide) (d5 : (c5 == ("__debug__" : Str)) = false := by decide)
    (dn : (n == ("__debug__" : Str)) = false := by decide) (dn2 : (n == ("__classdict__" : Str)) = false := by decide) (do1 : (own == ("__debug__" : Str)) = false := by decide) (do2 : (own == ("__classdict__" : Str)) = false := by decide)
    (hline : (q14.endLine == q22.line) = true := by rfl) (hof : X.fn own = true ∨ X.env.scope.names.lookup own = some .local := by exact .inr rfl) :
    DS X Γ Wx (.Try body [.ExceptHandler (some (.Name cT q1)) (some n) [
      .Assign [.Name own q2] (.List [.Call (.Name "isinstance" q3) [.Name n q4, .Name c1 q5] [] q6, .Call (.Name "isinstance" q7) [.Name n q8, .Name "ValueError" q9] [] q10] q11) q12,
      .Expr (.Call (.Attribute (.Name own q13) "append" q14) [.Call (.Name "isinstance" q15) [.Name n q16, .Tuple [.Name c2 q17, .Name c3 q18, .Name c4 q19, .Name c5 q20] k1 q21] [] q24] [] q22) q23] pos'] [] [] pos) (sTry Γ.np o i ask bd) := by
  have lns : X.env.scope.names.lookup own = some .local := hlo
  refine PS.imp (ps_try_as (i := i) (ts := fun a cls d => tSeq (tAsg (tLst (tCons (tIs1 X.K cls d a i (.ref C1)) (tCons (tIs1 X.K cls d a i (.type "ValueError")) tNil))) (gName o)) (tDrop (tBM X.K "list" rAppend (tVar o) (tCons (tIs4 X.K cls d a i [C2, C3, C4, C5]) tNil))))
    hs hf hN hi hln ⟨hcT, hcd, .inl gT⟩ tk hb fun a oe cls d pn hz hfl => ?_) fun Dn σ H ⟨F, ρ, R, h⟩ => ⟨F, ρ, R, ?_⟩
  · have s0 : ∀ (x y : Expr) (r : List Expr), True := fun _ _ _ => trivial
    have gl : ∀ {c : Str} {C : Addr} {p : Pos}, X.mg c = some (.ref C) → Gl X c → (c == ("__debug__" : Str)) = false → PE (X.suite a ((a, oe) :: pn)) (.Name c p) (tC (.ref C)) := fun hm hg hd => pe_glob hg hm rfl hd
    exact pss_cons (ps_set (X := X.suite a ((a, oe) :: pn)) hN ho lo (pe_lst (pa_cons (pe_is1 hz hfl gi (gl h1 gg1 d1) (fun u r => r) hi vi dn dn2 gis rfl rfl rfl) (pa_cons (pe_is1 hz hfl gi (pe_bltn (v := .ty "ValueError") gVE gV boot_VE rfl) (fun u r => r) hi vi dn dn2 gis rfl rfl rfl) pa_nil rfl) rfl)) rfl hof)
      (pss_one (ps_expr (pe_bm PySem.F.plainAttrs_list PySem.F.slot_list_append PySem.F.type_list_append mt_append (pe_var (i := o) ho vo do1 do2) (pa_cons (pe_is4 hz hfl gi (gl h2 gg2 d2) (gl h3 gg3 d3) (gl h4 gg4 d4) (gl h5 gg5 d5) hi vi dn dn2 gis rfl rfl rfl rfl rfl rfl rfl) pa_nil rfl) rfl rfl hline rfl rfl) rfl))
  · unfold sTry at h
    cases e : bd ρ with
    | st => rw [e] at h; exact h
    | ok fl ρ' =>
      rw [e] at h
      cases fl with
      | nx => exact h
      | bk => exact h
      | ct => exact h
      | rt u => exact h
    | er c ρ' =>
      rw [e] at h
      intro F' σ' H' C hC R' S'
      simp only at h
      cases ea : ask c with
      | none => rw [ea] at h; exact h.elim
      | some q =>
        obtain ⟨b1, b2, b3⟩ := q
        rw [ea] at h
        obtain ⟨E, x1, x2, x3, x4⟩ := A.at_ c b1 b2 b3 C ea hC
        rw [← hK] at E x1 x2 x3 x4
        simp only at h
        have h' : ∃ ρ2, Γ.np ≤ i ∧ i < ρ'.length ∧ (∀ b : B, ρ'[i]? = some (some b) → b.isCell = false) ∧ put Γ.np o (.l [.bool b1, .bool b2, .bool b3]) (ρ'.set i (some .x)) = some ρ2 ∧ PostS Γ Wx ⟨F, σ, H, ρ⟩ (.ok .nx ρ2) Dn := by
          split at h
          · exact h.elim
          · exact h.elim
          · rename_i o' n1 n2 hio
            split at h
            · rename_i hnp
              cases ep : put Γ.np o (.l [.bool b1, .bool b2, .bool b3]) (ρ'.set i (some .x)) with
              | none => rw [ep] at h; exact h.elim
              | some ρ2 =>
                rw [ep] at h
                refine ⟨ρ2, hnp, (List.getElem?_eq_some_iff.mp hio).1, fun b hb => ?_, rfl, h⟩
                cases b with
                | l xs => rw [hio] at hb; cases hb; exact (n1 xs rfl).elim
                | t xs => rw [hio] at hb; cases hb; exact (n2 xs rfl).elim
                | _ => rfl
            · exact h.elim
          · exact h.elim
        obtain ⟨ρ2, hnp, hil, hcell, hput, h⟩ := h'
        refine ⟨true, x1, fun _ a0 ha0 => ?_, fun z => by cases z⟩
        have hiσ : i < σ'.length := by
          have := R'.len
          have this : σ'.length = ρ'.length := this
          omega
        have g1 : (σ'.set i (some (.ref a0)))[i]? = some (some (.ref a0)) := List.getElem?_set_self hiσ
        refine ⟨C, b1, rfl, rfl, E, g1, x2, C, b2, rfl, rfl, E, g1, x3, by show 2 ≤ sizeLine; decide, fun p hp => ?_⟩
        have g2 : ((σ'.set i (some (.ref a0))).set o (some (.ref p)))[i]? = some (some (.ref a0)) := by rw [List.getElem?_set_ne hoi]; exact g1
        have hoσ : o < (σ'.set i (some (.ref a0))).length := by
          have hok : okAt Γ.np (ρ'.set i (some .x)) o = true := by
            unfold put at hput
            split at hput
            · assumption
            · cases hput
          unfold okAt at hok
          rw [Bool.and_eq_true] at hok
          have := of_decide_eq_true hok.1
          have l2 : σ'.length = ρ'.length := R'.len
          simp at this ⊢
          omega
        have g3 : ((σ'.set i (some (.ref a0))).set o (some (.ref p)))[o]? = some (some (.ref p)) := List.getElem?_set_self hoσ
        refine ⟨.ref p, g3, .inl ⟨rfl, _, SqL.of upd_same⟩, C, b3, rfl, rfl, E, g2, x4, fun q hq => ?_⟩
        have hqp : p ≠ q := ne_of_none (o := .lst [.bl b1, .bl b2]) (H := upd H' p (.lst [.bl b1, .bl b2])) upd_same hq
        refine ⟨p, [.bl b1, .bl b2], .bl b3, rfl, rfl, by rw [upd_ne hqp]; exact upd_same, by show 2 < sizeLine; decide, ?_⟩
        have R' : Rel Γ.K ⟨F', σ', H', ρ'⟩ := R'
        have S' : Step Γ.np ⟨F, σ, H, ρ⟩ ⟨F', σ', H', ρ'⟩ := S'
        have hp : H' p = Option.none := hp
        obtain ⟨R1, S1⟩ := R'.alloc (np := Γ.np) (p := p) (o := .lst [.bl b1, .bl b2]) (F' := F') hp (.inl rfl)
        obtain ⟨R2, S2⟩ := R1.alloc (np := Γ.np) (p := q) (o := .tup ([C2, C3, C4, C5].map V.ref)) (F' := F') hq (.inl rfl)
        have nc : ¬ Cell ⟨F', σ', upd (upd H' p (.lst [.bl b1, .bl b2])) q (.tup ([C2, C3, C4, C5].map V.ref)), ρ'⟩ p := fun ⟨k, c⟩ => R'.newNoCell hp ⟨k, c⟩
        obtain ⟨R3, S3⟩ := upd_fresh (s0 := ⟨F', σ', H', ρ'⟩) (u := .lst ([.bl b1, .bl b2] ++ [.bl b3])) R2 (S1.trans S2) hp (o := .lst [.bl b1, .bl b2]) (by show upd (upd H' p _) q _ p = _; rw [upd_ne hqp]; exact upd_same) (R'.free hp) nc
        have S4 := S'.trans S3
        obtain ⟨R5, S5⟩ := poison (x := Option.none) (i := i) R3 S4 hnp hil hcell
        obtain ⟨R6, S6⟩ := put_ok (i := o) (v := .ref p) R5 S5 hput ⟨p, _, rfl, upd_same, .cons (.bl b1) (.cons (.bl b2) (.cons (.bl b3) .nil))⟩ fun _ p' z => by
          cases z
          refine ⟨R'.free hp, S'.none hp, fun ⟨k, c1, b, c2, c3⟩ => ?_⟩
          rcases getElem?_set_cases c2 with ⟨_, z⟩ | ⟨hk, z⟩
          · cases z; cases c3
          · have c1' : (σ'.set i Option.none)[k]? = some (some (.ref p)) := c1
            rw [List.getElem?_set_ne (Ne.symm hk)] at c1'
            exact R'.newNoCell hp ⟨k, c1', b, z, c3⟩
        have es : ((σ'.set i (some (.ref a0))).set o (some (.ref p))).set i Option.none = (σ'.set i Option.none).set o (some (.ref p)) := by
          rw [List.set_comm _ _ hoi, List.set_set]
        show Dn.nx (((σ'.set i (some (.ref a0))).set o (some (.ref p))).set i Option.none) _
        rw [es]
        exact h F' _ _ R6 S6
end
end TD
namespace TD
open PySem PySem.Spec PyProof.Rows L2

/-! ### the text's defs as facts; the law's end -/
/-- the def st stands at the module's name x -/
def Df (K : PySem.W.Frag) (mg : Str → Option Value) (x : Str) (st : Stmt) (ps : List Str) : Prop := ∃ f fd, Fun K x x st f fd ∧ Binds K fd ps [] ∧ mg x = some (.ref f)
/-- .. and computes g -/
def Okd (P : Program) (w : World) (K : PySem.W.Frag) (mg : Str → Option Value) (base : Heap) (k : Nat) (x : Str) (ps : List Str) (g : List B → FO) : Prop :=
  ∃ f fd, FnOk P w K mg base (L2.CX P w) k f fd ps (spF K mg g) ∧ Binds K fd ps [] ∧ mg x = some (.ref f) ∧ PySem.W.keepIn K (.ref f) = true
theorem df_mk {K : PySem.W.Frag} {h : Heap} {mg : Str → Option Value} {x : Str} {st : Stmt} {ps : List Str} {f : Addr} {od an : Option Addr} {sl : Array (Option Value)} {oc kV dc pm cd ct : Value} (X : K.In h) (G : h.Ns mainGlobals mg)
    (a : PySem.W.nsIn K mainGlobals x = some (some (.ref f))) (l : K.lookup f = some ⟨oc, od, .func (PySem.W.fnOf x x (defArgs st) (defBody st) (defScope st) .none kV dc pm an cd ct), sl⟩) (c : PySem.W.codeIn K cd x = true) (k : PySem.W.keepIn K (.ref f) = true)
    (b : ∀ (kV doc pm : Value) (an : Option Addr) (cdv ct : Value) (us : List Value), us.length = ps.length → bindArgs (PySem.W.fnOf x x (defArgs st) (defBody st) (defScope st) .none kV doc pm an cdv ct) ⟨us, []⟩ = pure (ps.zip us)) : Df K mg x st ps :=
  ⟨f, _, fun_mk (st := st) l c k, (fun_mk (st := st) l c k).binds b, PySem.W.mg_of X G a⟩
theorem df_ok {P : Program} {w : World} {K : PySem.W.Frag} {mg : Str → Option Value} {base : Heap} {x : Str} {st : Stmt} {ps N : List Str} {k n : Nat} {body : Mx Fl} (h : Df K mg x st ps) (S : FnScope N ps (defScope st)) (hn : N.length = n)
    (hb : ∀ (fa : Addr) (cdv : Value) (A : Around) (outer : List PySem.Env) (s : Shared) (H : Hp) (E : XK), Room k (A.deeper (envOfC x (defScope st) s.heap.objs.size fa cdv)) →
      DSs (cxOf (L2.CX P w) P w K mg base N x (defScope st) fa cdv A outer s H E) ⟨K, ps.length, mg⟩ (fun cls d _ H => E cls d H) (defBody st) body) : Okd P w K mg base (k + 1) x ps (mkFn ps.length n body) := by
  obtain ⟨f, fd, F, b, g⟩ := h
  exact ⟨f, fd, fn_ok F S hn fun cdv A outer s H E hr => hb f cdv A outer s H E hr, b, g, F.kp⟩
theorem Okd.eq {P : Program} {w : World} {K : PySem.W.Frag} {mg : Str → Option Value} {base : Heap} {x : Str} {ps : List Str} {k : Nat} {g g' : List B → FO} (h : Okd P w K mg base k x ps g) (e : g = g') : Okd P w K mg base k x ps g' := e ▸ h
theorem rpa_ints {F : Hp} : ∀ ns : List Int, RpA F (ns.map V.int) (ns.map PyData.int)
  | [] => .nil
  | n :: r => .cons (.int n) (rpa_ints r)
/-- the promise of the law itself -/
def spLaw (K : PySem.W.Frag) (g : List B → FO) : Sp := fun vs H Q E => ∃ F bs, Rel K (scOf F vs H bs) ∧ ∃ bs', g bs = .ok (.d (.bool true)) bs' ∧ ∀ H', Q (.bl true) H'
theorem law_ok {P : Program} {w : World} {K : PySem.W.Frag} {mg : Str → Option Value} {base : Heap} {x : Str} {ps : List Str} {k : Nat} {g : List B → FO} (h : Okd P w K mg base k x ps g) : ∃ f fd, FnOk P w K mg base (L2.CX P w) k f fd ps (spLaw K g) ∧ Binds K fd ps [] ∧ mg x = some (.ref f) := by
  obtain ⟨f, fd, F, b, m, _⟩ := h
  refine ⟨f, fd, F.imp fun vs H Q E ⟨Fz, bs, R, bs', e, q⟩ => ⟨Fz, bs, R, ?_⟩, b, m⟩
  rw [e]
  intro v F' H' _ _ r _
  rw [Rp.blV r]
  exact q H'
theorem law_of {P : Program} {w : World} {K : PySem.W.Frag} {mg : Str → Option Value} {base : Heap} {fa : Addr} {fd : FuncData} {ps : List Str} {k : Nat} {g : List B → FO} (F : FnOk P w K mg base (L2.CX P w) k fa fd ps (spF K mg g)) : FnOk P w K mg base (L2.CX P w) k fa fd ps (spLaw K g) :=
  F.imp fun vs H Q E ⟨Fz, bs, R, bs', e, q⟩ => ⟨Fz, bs, R, by
    rw [e]
    intro v F' H' _ _ r _
    rw [Rp.blV r]
    exact q H'⟩
def ask1 (c1 : Str) : Asked := fun c => if c = c1 then some (true, true, false) else none
theorem law_start {K : PySem.W.Frag} {g : List B → FO} {H : Hp} {a : Addr} {ns : List Int} (hS : SqL K H a (ns.map V.int)) (hg : ∃ bs', g [.s (ns.map PyData.int)] = .ok (.d (.bool true)) bs') : spLaw K g [.ref a] H (fun v _ => v = .bl true) fun _ _ _ => False := by
  obtain ⟨bs', e⟩ := hg
  refine ⟨fun b => if b = a then H b else none, [.s (ns.map PyData.int)], ⟨fun b o h => ?_, rfl, fun i b hb _ => ?_, fun i j b c _ => ?_, fun i b c => ?_⟩, bs', e, fun _ => rfl⟩
  · have h' : (if b = a then H b else none) = some o := h
    split at h'
    · exact h'
    · cases h'
  · cases i with
    | succ i => cases hb
    | zero =>
      cases hb
      refine ⟨.ref a, rfl, a, ns.map V.int, rfl, ?_, ?_⟩
      · rcases hS with h | h
        · refine .inl ?_
          rcases h with h | ⟨o, h⟩
          · exact .inl (by show (if a = a then H a else none) = _; rw [if_pos rfl]; exact h)
          · exact .inr ⟨o, by show (if a = a then H a else none) = _; rw [if_pos rfl]; exact h⟩
        · exact .inr h
      · exact rpa_ints ns
  · obtain ⟨_, b', h2, h3⟩ := c
    cases i with
    | succ i => cases h2
    | zero => cases h2; cases h3
  · obtain ⟨_, b', h2, h3⟩ := c
    cases i with
    | succ i => cases h2
    | zero => cases h2; cases h3
theorem cx_end {P : Program} {w : World} {H : Hp} {s : Shared} {e : Value} {s' : Shared} : L2.CX P w [] H s (fun _ _ _ => False) e s' → False := fun ⟨_, _, _, _, _, _, _, _, _, _, _, _, z⟩ => z
/-! what is asked of the classes of errors -/
theorem ask1_ok {K : PySem.W.Frag} {mg : Str → Option Value} {c1 : Str} {CT C1 : Addr} {Cs : List Addr} (g1 : mg c1 = some (.ref C1)) (E : ExcC K C1) (h1 : PySem.W.subIn K (.ref CT) (.type "BaseException") = some true) (hdct : PySem.W.hasDictIn K CT = true) (ht : PySem.W.typeIn K (.ref CT) = some (.type "type")) (h4 : PySem.W.subIn K (.ref C1) (.ref CT) = some true)
    (hV : PySem.W.kitOne K (.ref C1) (.type "ValueError") = some true) (hO : PySem.W.kitAny K (.ref C1) (Cs.map Value.ref) = some false) : AskOk K mg (ask1 c1) CT C1 Cs := ⟨fun c b1 b2 b3 D ha hD => by
  unfold ask1 at ha
  split at ha
  · rename_i e
    subst e
    cases ha
    rw [g1] at hD
    cases hD
    refine ⟨E, PySem.W.exm_ref h1 hdct ht h4, ?_, hV, hO⟩
    unfold PySem.W.kitOne
    rw [if_pos (by simp)]
  · cases ha⟩
end TD
namespace TD
open PySem PySem.Spec PyProof.Rows L2
section
variable {X : Cx} {Γ : Cn} {Wx : WX} {a b c : Expr} {f1 f2 f3 : Mx W} {pos : Pos}
/-! ### a op b op c -/
def mChain (g g' : W → W → Env → Out W) (f1 f2 f3 : Mx W) : Mx W := bnd f1 fun w1 => bnd f2 fun w2 ρ => match g w1 w2 ρ with
  | .ok (.d (.bool true)) ρ' => bnd f3 (fun w3 => g' w2 w3) ρ'
  | .ok (.d (.bool false)) ρ' => .ok (.d (.bool false)) ρ'
  | .er c ρ' => .er c ρ'
  | _ => .st
theorem tChain_of {r r' : R2} {g g' : W → W → Env → Out W} (hg : Ok2 Γ Wx r g) (hg' : Ok2 Γ Wx r' g') : ∀ σ H Q, tE Γ Wx (mChain g g' f1 f2 f3) σ H Q → tChain r r' (tE Γ Wx f1) (tE Γ Wx f2) (tE Γ Wx f3) σ H Q := fun σ H Q ⟨F, ρ, R, h⟩ =>
  ⟨F, ρ, R, post_bnd (s := ⟨F, σ, H, ρ⟩) h fun v w F1 H1 ρ1 R1 S1 r1 h1 => ⟨F1, ρ1, R1, post_bnd (s := ⟨F1, σ, H1, ρ1⟩) (h1.step (Step.refl _) rfl) fun v2 w2 F2 H2 ρ2 R2 S2 r2 h2 => by
    refine hg ⟨F2, σ, H2, ρ2⟩ v v2 w w2 _ _ _ R2 (r1.held R1 S2 rfl) r2 ?_
    show Post Γ Wx ⟨F2, σ, H2, ρ2⟩ (g w w2 ρ2) _
    have h3 : Post Γ Wx ⟨F2, σ, H2, ρ2⟩ (match g w w2 ρ2 with
      | .ok (.d (.bool true)) ρ' => bnd f3 (fun w3 => g' w2 w3) ρ'
      | .ok (.d (.bool false)) ρ' => .ok (.d (.bool false)) ρ'
      | .er c ρ' => .er c ρ'
      | _ => .st) Q := h2.step (Step.refl _) rfl
    revert h3
    generalize g w w2 ρ2 = o
    intro h3
    cases o with
    | st => exact h3.elim
    | er c ρ' => exact h3
    | ok w0 ρ3 =>
      intro v0 F3 H3 R3 S3 r0
      cases w0 with
      | d x =>
        cases x with
        | bool k =>
          have e0 : v0 = .bl k := Rp.blV r0
          subst e0
          refine ⟨k, rfl, ?_⟩
          cases k with
          | false => exact h3 (.bl false) F3 H3 R3 S3 (.bl false)
          | true =>
            have h3' : Post Γ Wx ⟨F2, σ, H2, ρ2⟩ (bnd f3 (fun w3 => g' w2 w3) ρ3) Q := h3
            have h4 := h3'.step (s1 := ⟨F3, σ, H3, ρ3⟩) S3 rfl
            exact ⟨F3, ρ3, R3, post_bnd (s := ⟨F3, σ, H3, ρ3⟩) h4 fun v4 w4 F4 H4 ρ4 R4 S4 r4 h5 => hg' ⟨F4, σ, H4, ρ4⟩ v2 v4 w2 w4 _ _ Q R4 ((r2.held R2 S3 rfl).held R3 S4 rfl) r4 h5⟩
        | _ => exact h3.elim
      | _ => exact h3.elim⟩⟩
theorem de_chain {op op' : CmpOp} {r r' : R2} {g g' : W → W → Env → Out W} (ho : OpR X (compareOp op) r) (ho' : OpR X (compareOp op') r') (hg : Ok2 Γ Wx r g) (hg' : Ok2 Γ Wx r' g') (ha : DE X Γ Wx a f1) (hb : DE X Γ Wx b f2) (hc : DE X Γ Wx c f3)
    (hm : lastMarks [op, op'] [b, c] = false := by with_unfolding_all rfl) : DE X Γ Wx (.Compare a [op, op'] [b, c] pos) (mChain g g' f1 f2 f3) := PE.imp (pe_chain ho ho' ha hb hc hm) (tChain_of hg hg')
theorem dt_chain {op op' : CmpOp} {r r' : R2} {g g' : W → W → Env → Out W} (ho : OpR X (compareOp op) r) (ho' : OpR X (compareOp op') r') (hg : Ok2 Γ Wx r g) (hg' : Ok2 Γ Wx r' g') (ha : DE X Γ Wx a f1) (hb : DE X Γ Wx b f2) (hc : DE X Γ Wx c f3)
    (hm : lastMarks [op, op'] [b, c] = false := by with_unfolding_all rfl) : DT X Γ Wx (.Compare a [op, op'] [b, c] pos) (tst (mChain g g' f1 f2 f3)) :=
  PT.imp (pt_chain ho ho' ha hb hc hm) fun σ H Q ⟨F, ρ, R, h⟩ => tChain_of hg hg' σ H _ ⟨F, ρ, R, postb_of (s := ⟨F, σ, H, ρ⟩) h⟩
/-! ### the module's constants -/
theorem de_globI {x : Str} {i : Int} (h : ∃ t, X.mg x = some (.int i t)) (hg : Gl X x := by rfl) (hd : (x == ("__debug__" : Str)) = false := by decide) : DE X Γ Wx (.Name x pos) (mC (.int i)) := by
  obtain ⟨t, h⟩ := h
  exact PE.imp (pe_glob (v := .int i) hg h ⟨t, rfl⟩ hd) fun σ H Q ⟨_, _, R, h⟩ => h.val R (.int i)
theorem de_globS {x : Str} {i : Str} (h : ∃ t, X.mg x = some (.str i t)) (hg : Gl X x := by rfl) (hd : (x == ("__debug__" : Str)) = false := by decide) : DE X Γ Wx (.Name x pos) (mC (.str i)) := by
  obtain ⟨t, h⟩ := h
  exact PE.imp (pe_glob (v := .str i) hg h ⟨t, rfl⟩ hd) fun σ H Q ⟨_, _, R, h⟩ => h.val R (.str i)
/-! ### {} -/
def mDict0 : Mx W := fun ρ => .ok (.t []) ρ
theorem de_dict0 : DE X Γ Wx (.Dict [] [] pos) mDict0 := PE.imp pe_dnewT fun σ H Q ⟨F, ρ, R, h⟩ p hp => by
  obtain ⟨R', S'⟩ := R.alloc (np := Γ.np) (p := p) (o := .dT []) (F' := F) hp (.inl rfl)
  exact h (.ref p) _ _ R' S' ⟨p, [], rfl, upd_same, .nil, R.free hp, hp, R.newNoCell hp⟩
end
end TD
namespace TD
open PySem PySem.Spec PyProof.Rows L2
/-! ### a list of one's own (or lent) is changed in its place -/
theorem Rel.write {K : PySem.W.Frag} {np : Nat} {s0 s : Sx} {i : Nat} {a : Addr} {xs xs' : List D} {vs' : List V} (R : Rel K s) (S : Step np s0 s) (hσ : s.σ[i]? = some (some (.ref a))) (hb : s.ρ[i]? = some (some (.l xs))) (r : RpA s.F vs' xs') :
    Rel K ⟨s.F, s.σ, upd s.H a (.lst vs'), s.ρ.set i (some (.l xs'))⟩ ∧ Step np s0 ⟨s.F, s.σ, upd s.H a (.lst vs'), s.ρ.set i (some (.l xs'))⟩ := by
  have c0 : CellAt s i a := ⟨hσ, _, hb, rfl⟩
  have hF : s.F a = none := R.own i a c0
  have hi : i < s.ρ.length := (List.getElem?_eq_some_iff.mp hb).1
  have cc : ∀ {j b}, CellAt ⟨s.F, s.σ, upd s.H a (.lst vs'), s.ρ.set i (some (.l xs'))⟩ j b → CellAt s j b := fun {j b} ⟨h1, b', h2, h3⟩ => by
    rcases getElem?_set_cases h2 with ⟨hj, h4⟩ | ⟨hj, h4⟩
    · subst hj
      have h1' : s.σ[j]? = some (some (.ref b)) := h1
      rw [hσ] at h1'
      cases h1'
      exact c0
    · exact ⟨h1, b', h4, h3⟩
  have ne : ∀ b o, s.F b = some o → b ≠ a := fun b o e => ne_of_none e hF
  refine ⟨⟨fun b o (e : s.F b = some o) => ?_, by simp [R.len], fun j b hj hx => ?_, fun j k b c1 c2 => R.sep j k b (cc c1) (cc c2), fun j b c => R.own j b (cc c)⟩, S.trans ⟨fun b o h n => ?_, fun _ _ _ _ => .inl rfl, fun b o h => ?_, fun b ⟨j, c⟩ => .inl ⟨j, cc c⟩, fun j b hj l => ?_, fun j h => set_stay h, fun _ _ => rfl⟩⟩
  · show upd s.H a (.lst vs') b = some o
    rw [upd_ne (ne b o e)]
    exact R.sub b o e
  · rcases getElem?_set_cases hj with ⟨e1, e2⟩ | ⟨e1, e2⟩
    · subst e1
      cases e2
      exact ⟨.ref a, hσ, a, vs', rfl, upd_same, r⟩
    · obtain ⟨v, hv, q⟩ := R.slotX j b e2 hx
      refine ⟨v, hv, q.keep (fun _ _ z => z) fun p hc hp o ho => ?_⟩
      have : p ≠ a := fun z => by
        subst z
        exact e1 (R.sep j i p ⟨by rw [hv, hp], b, e2, hc⟩ c0)
      show upd s.H a (.lst vs') p = some o
      rw [upd_ne this]
      exact ho
  · have : b ≠ a := fun z => n ⟨i, z ▸ c0⟩
    show upd s.H a (.lst vs') b = some o
    rw [upd_ne this]
    exact h
  · by_cases z : b = a
    · subst z
      exact ⟨_, upd_same⟩
    · exact ⟨o, by show upd s.H a (.lst vs') b = some o; rw [upd_ne z]; exact h⟩
  · obtain ⟨h1, b', h2, h3⟩ := l
    by_cases z : j = i
    · subst z
      exact ⟨h1, .l xs', List.getElem?_set_self hi, rfl⟩
    · exact ⟨h1, b', by show (s.ρ.set i (some (.l xs')))[j]? = _; rw [List.getElem?_set_ne (Ne.symm z)]; exact h2, h3⟩
/-! methods of a list that change it, or not -/
def mMeth (g : Nat → List W → Env → Out W) (fo : Mx W) (fs : Mx (List W)) : Mx W := bnd fo fun w ρ => match w with
  | .c i => (match ρ[i]? with
    | some (some (.l _)) => bnd fs (fun ws => g i ws) ρ
    | _ => .st)
  | _ => .st
def OkM (Γ : Cn) (Wx : WX) (r : V → List V → Hp → VK → Prop) (g : Nat → List W → Env → Out W) : Prop :=
  ∀ (s : Sx) (i : Nat) (v : V) (vs : List V) (ws : List W) (s0 : Sx) (Q : VK), Rel Γ.K s → s0.σ = s.σ → Step Γ.np s0 s → s.σ[i]? = some (some v) → VReps Γ.K s0.H s vs ws → Post Γ Wx s0 (g i ws s.ρ) Q → r v vs s.H Q
section
variable {X : Cx} {Γ : Cn} {Wx : WX} {o e : Expr} {es : List Expr} {fo : Mx W} {fs : Mx (List W)} {apos cpos : Pos} {name : Str} {id : String} {r : V → List V → Hp → VK → Prop} {g : Nat → List W → Env → Out W}
theorem tBM_of (hok : OkM Γ Wx r g) : ∀ σ H Q, tE Γ Wx (mMeth g fo fs) σ H Q → tBM Γ.K "list" r (tE Γ Wx fo) (tA Γ Wx fs) σ H Q := fun σ H Q ⟨F, ρ, R, h⟩ =>
  ⟨F, ρ, R, post_bnd (s := ⟨F, σ, H, ρ⟩) h fun v w F1 H1 ρ1 R1 S1 r1 h1 => by
    cases w with
    | c i =>
      have r1' : σ[i]? = some (some v) := r1
      simp only at h1
      split at h1
      · rename_i xs hb
        obtain ⟨v', hv, p, vs, e, hp, q⟩ := R1.slot i _ hb
        have hv : σ[i]? = some (some v') := hv
        rw [r1'] at hv
        cases hv
        subst e
        exact ⟨.inl ⟨rfl, vs, SqL.of hp⟩, F1, ρ1, R1, args_end (s := ⟨F1, σ, H1, ρ1⟩) h1 fun vs2 ws F2 H2 ρ2 R2 S2 r2 h2 => hok ⟨F2, σ, H2, ρ2⟩ i _ vs2 ws ⟨F1, σ, H1, ρ1⟩ Q R2 rfl S2 r1' r2 h2⟩
      · exact h1.elim
    | _ => exact h1.elim⟩
theorem tBM0_of (hok : OkM Γ Wx r g) : ∀ σ H Q, tE Γ Wx (mMeth g fo aNil) σ H Q → tBM0 Γ.K "list" r (tE Γ Wx fo) σ H Q := fun σ H Q ⟨F, ρ, R, h⟩ =>
  ⟨F, ρ, R, post_bnd (s := ⟨F, σ, H, ρ⟩) h fun v w F1 H1 ρ1 R1 S1 r1 h1 => by
    cases w with
    | c i =>
      have r1' : σ[i]? = some (some v) := r1
      simp only at h1
      split at h1
      · rename_i xs hb
        obtain ⟨v', hv, p, vs, e, hp, q⟩ := R1.slot i _ hb
        have hv : σ[i]? = some (some v') := hv
        rw [r1'] at hv
        cases hv
        subst e
        exact ⟨.inl ⟨rfl, vs, SqL.of hp⟩, hok ⟨F1, σ, H1, ρ1⟩ i _ [] [] ⟨F1, σ, H1, ρ1⟩ Q R1 rfl (Step.refl _) r1' trivial h1⟩
      · exact h1.elim
    | _ => exact h1.elim⟩
theorem de_meth (slot : Slot "list" name id) (hty : typeOf (.builtin id) = pure (.type "method_descriptor")) (hm : MtR X id r) (hok : OkM Γ Wx r g) (ho : DE X Γ Wx o fo) (ha : DA X Γ Wx (e :: es) fs) (hK : X.K = Γ.K := by rfl)
    (hbase : attributeBase o name X.env (eval o X.env) = eval o X.env := by rfl)
    (hfew : ((backTo cpos (starEach (e :: es) X.env)).all (fun x => !x.1) && (backToKw cpos (keywordEach [] X.env)).all (fun x => x.1.isSome)
      && decide ((e :: es).length + ([] : List Keyword).length + (if ([] : List Keyword).isEmpty then 0 else 1) < 30)) = true := by rfl)
    (hline : (apos.endLine == cpos.line) = true := by rfl) (hs : starEach (e :: es) X.env = (false, eval e X.env) :: starEach es X.env := by rfl) (hplain : (backTo cpos (starEach es X.env)).any (·.1) = false := by rfl) :
    DE X Γ Wx (.Call (.Attribute o name apos) (e :: es) [] cpos) (mMeth g fo fs) :=
  PE.imp (pe_bm PySem.F.plainAttrs_list slot hty hm ho ha hbase hfew hline hs hplain) (by rw [hK]; exact tBM_of hok)
theorem de_meth0 (slot : Slot "list" name id) (hty : typeOf (.builtin id) = pure (.type "method_descriptor")) (hm : MtR X id r) (hok : OkM Γ Wx r g) (ho : DE X Γ Wx o fo) (hK : X.K = Γ.K := by rfl)
    (hbase : attributeBase o name X.env (eval o X.env) = eval o X.env := by rfl) (hline : (apos.endLine == cpos.line) = true := by rfl) :
    DE X Γ Wx (.Call (.Attribute o name apos) [] [] cpos) (mMeth g fo aNil) :=
  PE.imp (pe_bm0 PySem.F.plainAttrs_list slot hty hm ho hbase hline) (by rw [hK]; exact tBM0_of hok)
end
section
variable {Γ : Cn} {Wx : WX}
theorem VReps.oneR {K : PySem.W.Frag} {H0 : Hp} {s : Sx} {vs : List V} {w : W} (r : VReps K H0 s vs [w]) : ∃ v, vs = [v] ∧ VRep K H0 s v w := by
  match vs, r with
  | [v], r => exact ⟨v, rfl, r.1⟩
theorem VReps.nilR {K : PySem.W.Frag} {H0 : Hp} {s : Sx} {vs : List V} (r : VReps K H0 s vs []) : vs = [] := by
  match vs, r with
  | [], _ => rfl
/-- the cell at slot i -/
theorem Rel.cellL {K : PySem.W.Frag} {s : Sx} {i : Nat} {v : V} {xs : List D} (R : Rel K s) (hv : s.σ[i]? = some (some v)) (hb : s.ρ[i]? = some (some (.l xs))) : ∃ p vs, v = .ref p ∧ s.H p = some (.lst vs) ∧ RpA s.F vs xs := by
  obtain ⟨v', hv', p, vs, e, hp, q⟩ := R.slot i _ hb
  rw [hv] at hv'
  cases hv'
  exact ⟨p, vs, e, hp, q⟩
def gApp (i : Nat) (ws : List W) (ρ : Env) : Out W := match ws with
  | [w] => (match w.datum ρ with
    | some (d, ρ1) => (match ρ1[i]? with
      | some (some (.l xs)) => if xs.length + 1 ≤ 100000 then .ok (.d .none) (ρ1.set i (some (.l (xs ++ [d])))) else .st
      | _ => .st)
    | none => .st)
  | _ => .st
theorem ok_app : OkM Γ Wx rAppend gApp := fun s i v vs ws s0 Q R hσ S hv r h => by
  unfold gApp at h
  obtain ⟨w, rfl, h9⟩ := one_inv (P := fun o => Post Γ Wx s0 o Q) h fun z => z
  clear h
  have h := h9
  clear h9
  obtain ⟨y, rfl, r1⟩ := r.oneR
  cases e1 : w.datum s.ρ with
  | none => rw [e1] at h; exact h.elim
  | some dρ =>
    obtain ⟨d, ρ1⟩ := dρ
    rw [e1] at h
    simp only at h
    obtain ⟨F', R1, S1, q1, _, _, _⟩ := datum_ok R S r1 e1
    split at h
    · rename_i xs hb
      split at h
      · rename_i hl
        obtain ⟨p, us, rfl, hp, q⟩ := R1.cellL (i := i) hv hb
        obtain ⟨R2, S2⟩ := R1.write S1 hv hb (q.append (.one q1))
        refine ⟨p, us, y, rfl, rfl, hp, ?_, ?_⟩
        · have := sz5 hl
          rw [q.length]
          omega
        · obtain ⟨F0, σ0, H0, ρ0⟩ := s0
          cases hσ
          exact h .non F' _ R2 S2 .non
      · exact h.elim
    · exact h.elim
def gExt (i : Nat) (ws : List W) (ρ : Env) : Out W := match ws with
  | [w] => (match w.own ρ with
    | some ys => (match ρ[i]? with
      | some (some (.l xs)) => if xs.length + ys.length ≤ 100000 then .ok (.d .none) (ρ.set i (some (.l (xs ++ ys)))) else .st
      | _ => .st)
    | none => .st)
  | _ => .st
theorem ok_ext : OkM Γ Wx rExtend gExt := fun s i v vs ws s0 Q R hσ S hv r h => by
  unfold gExt at h
  obtain ⟨w, rfl, h9⟩ := one_inv (P := fun o => Post Γ Wx s0 o Q) h fun z => z
  clear h
  have h := h9
  clear h9
  obtain ⟨y, rfl, r1⟩ := r.oneR
  cases e1 : w.own s.ρ with
  | none => rw [e1] at h; exact h.elim
  | some ys =>
    rw [e1] at h
    simp only at h
    obtain ⟨b, zs, rfl, hb1, q1⟩ := r1.own R e1
    split at h
    · rename_i xs hb
      split at h
      · rename_i hl
        obtain ⟨p, us, rfl, hp, q⟩ := R.cellL (i := i) hv hb
        obtain ⟨R2, S2⟩ := R.write S hv hb (q.append q1)
        refine ⟨p, b, us, zs, rfl, rfl, hp, hb1, ?_, ?_⟩
        · rw [q.length, q1.length]
          exact sz5 hl
        · obtain ⟨F0, σ0, H0, ρ0⟩ := s0
          cases hσ
          exact h .non s.F _ R2 S2 .non
      · exact h.elim
    · exact h.elim
def gPop (i : Nat) (ws : List W) (ρ : Env) : Out W := match ws with
  | [] => (match ρ[i]? with
    | some (some (.l xs)) => (match xs[xs.length - 1]? with
      | some d => .ok (.d d) (ρ.set i (some (.l xs.dropLast)))
      | none => .st)
    | _ => .st)
  | _ => .st
theorem ok_pop : OkM Γ Wx rPop gPop := fun s i v vs ws s0 Q R hσ S hv r h => by
  cases ws with
  | cons w ws => exact h.elim
  | nil =>
    obtain rfl := r.nilR
    simp only [gPop] at h
    split at h
    · rename_i xs hb
      split at h
      · rename_i d hd
        obtain ⟨p, us, rfl, hp, q⟩ := R.cellL (i := i) hv hb
        obtain ⟨y, hy, qy⟩ := q.get hd
        have q2 : RpA s.F us.dropLast xs.dropLast := by
          rw [List.dropLast_eq_take, List.dropLast_eq_take, q.length]
          exact q.take _
        obtain ⟨R2, S2⟩ := R.write S hv hb q2
        refine ⟨p, us, y, rfl, rfl, hp, by rw [q.length]; exact hy, ?_⟩
        obtain ⟨F0, σ0, H0, ρ0⟩ := s0
        cases hσ
        exact h y s.F _ R2 S2 qy
      · exact h.elim
    · exact h.elim
def gRev (i : Nat) (ws : List W) (ρ : Env) : Out W := match ws with
  | [] => (match ρ[i]? with
    | some (some (.l xs)) => .ok (.d .none) (ρ.set i (some (.l xs.reverse)))
    | _ => .st)
  | _ => .st
theorem ok_rev : OkM Γ Wx rReverse gRev := fun s i v vs ws s0 Q R hσ S hv r h => by
  cases ws with
  | cons w ws => exact h.elim
  | nil =>
    obtain rfl := r.nilR
    simp only [gRev] at h
    split at h
    · rename_i xs hb
      obtain ⟨p, us, rfl, hp, q⟩ := R.cellL (i := i) hv hb
      obtain ⟨R2, S2⟩ := R.write S hv hb q.reverse
      refine ⟨p, us, rfl, rfl, hp, ?_⟩
      obtain ⟨F0, σ0, H0, ρ0⟩ := s0
      cases hσ
      exact h .non s.F _ R2 S2 .non
    · exact h.elim
end
end TD
namespace TD
open PySem PySem.Spec PyProof.Rows RT
/-! ### list(reversed(a list)): a new list -/
section
variable {prog : Program} {w : World} {A : Around} {E : Value → Shared → Prop} {s : Shared}
theorem ext_rev {R : Result → Shared → Prop} {it l S : Addr} {items : Array Value} (c₀ : Nat) (hh : A.handled = none) (hit : s.heap.IsRevIter it l ((items.size : Int) - 1)) (hl : s.heap.IsList l items) (hne : l ≠ it) (hn : items.size ≤ sizeLine) (hSi : S ≠ it) (hSl : S ≠ l) (res : Value)
    (hS : s.heap.get? S = some { cls := .type "list", data := .seq #[] c₀ })
    (hR : ∀ h' tk acc c', (∀ b o, b ≠ S → b ≠ it → s.heap.get? b = some o → h'.get? b = some o) → h'.get? S = some { cls := .type "list", dict := none, data := .seq acc c', slots := #[] } → ItemsOf (fun i v => items[items.size - 1 - i]? = some v) acc items.size → R (.ok (.ret res)) { s with heap := h', toks := tk }) :
    wpAny (model prog w) A.in1 (Builtin.List.listExtendWith (.ref S) (.ref it) res)
      (fun fin s' => match fin with | .done f => R (.ok f) s' | .again c' => c'.quiet = true ∧ codeAny (model prog w) A c' R s') (fun e s' => R (.error e) s') s := by
  have W := (Walks.listRev (prog := prog) (w := w) (A := A.in1) hh it l hne items).toS
  have hSf : S ∉ [it, l] := by simp only [List.mem_cons, List.not_mem_nil, or_false, not_or]; exact ⟨hSi, hSl⟩
  have hT : s.TypeIs (.ref it) "list_reverseiterator" := Heap.IsRevIter.typeIs hit
  have h1 : Builtin.List.listSameRef (.ref S) (.ref it) = false := by simp [Builtin.List.listSameRef, hSi]
  unfold Builtin.List.listExtendWith
  refine wpAny_bind (wpAny_typeOf hT ?_)
  rw [if_neg (by rw [h1]; decide)]
  refine wpAny_bind (wpAny_pyIter_revIter hit ?_)
  refine wpAny_bind (wpAny_holding ?_)
  unfold Builtin.List.listLengthHint
  refine wpAny_bind (wpAny_specialOf hT nolen_lri ?_)
  show wpAny _ A.in1 (specialOf (Value.ref it) (Str.ofString "__length_hint__") >>= _) _ _ _
  refine wpAny_bind (wpAny_specialOf hT hint_lri ?_)
  generalize hid : ("list_reverseiterator.__length_hint__" : String) = id0
  wp_delta
  rw [show splitId id0 = some ("list_reverseiterator", "__length_hint__") from by subst hid; decide +kernel]
  subst hid
  refine wpAny_bind (wpAny_isInstance (b := true) hT (by rw [isSubtype_type]; kernel_rfl) ?_)
  refine wpAny_pure ?_
  rw [if_neg (by decide)]
  have e0 : ((items.size : Nat) : Int) - 1 - ((0 : Nat) : Int) = (items.size : Int) - 1 := by omega
  refine wpAny_pure ⟨plainId_quiet F.plain_extend_loop _, codeAny_extend_loopS W hn _ hSf _ items.size 0 _ _ _ rfl (Nat.zero_le _) ⟨Nat.zero_le _, by rw [e0]; exact hit, hl⟩ hS (ItemsOf.nil _) fun s' acc' c' hm hS' hacc => ?_⟩
  rw [Moved.eq_with hm]
  refine hR s'.heap s'.toks acc' c' (fun b o hbS hb e => hm.heap b o (fun hmem => ?_) e) hS' hacc
  rcases List.mem_cons.mp hmem with e' | hmem
  · exact hbS e'
  · exact hb (List.mem_singleton.mp hmem)
theorem init_rev {R : Result → Shared → Prop} {it l S : Addr} {items : Array Value} (hh : A.handled = none) (hit : s.heap.IsRevIter it l ((items.size : Int) - 1)) (hl : s.heap.IsList l items) (hne : l ≠ it) (hn : items.size ≤ sizeLine) (hSi : S ≠ it) (hSl : S ≠ l)
    (hS : s.heap.get? S = some { cls := .type "list", data := .seq #[] })
    (hR : ∀ h' tk acc c', (∀ b o, b ≠ S → b ≠ it → s.heap.get? b = some o → h'.get? b = some o) → h'.get? S = some { cls := .type "list", dict := none, data := .seq acc c', slots := #[] } → ItemsOf (fun i v => items[items.size - 1 - i]? = some v) acc items.size → R (.ok (.ret .none)) { s with heap := h', toks := tk }) :
    wpAny (model prog w) A.in1 (Builtin.«list.__init__» ⟨[.ref S, .ref it], []⟩)
      (fun fin s' => match fin with | .done f => R (.ok f) s' | .again c' => c'.quiet = true ∧ codeAny (model prog w) A c' R s') (fun e s' => R (.error e) s') s := by
  show wpAny _ A.in1 (do let old ← Builtin.List.listItems (.ref S); Builtin.List.listUpdate (.ref S) (fun _ => #[]); letGo old.toList.reverse; Builtin.List.listExtendWith (.ref S) (.ref it) .none) _ _ s
  refine wpAny_bind ?_
  unfold Builtin.List.listItems
  refine wpAny_bind (wpAny_seqItems hS rfl (wpAny_pure ?_))
  show wpAny _ A.in1 (updateSeq S (fun _ => #[]) >>= fun _ => letGo (#[] : Array Value).toList.reverse >>= fun _ => Builtin.List.listExtendWith (.ref S) (.ref it) .none) _ _ s
  refine wpAny_bind (wpAny_updateSeq hS rfl ?_)
  have g := Heap.get?_update_self (Obj.mapSeq (fun _ => (#[] : Array Value))) hS rfl
  have k : ∀ b o, b ≠ S → s.heap.get? b = some o → (s.heap.update S (Obj.mapSeq (fun _ => (#[] : Array Value)))).get? b = some o := fun b o hb e => (Heap.get?_update_other _ _ (Ne.symm hb)).trans e
  refine wpAny_bind (wpAny_letGo ?_)
  refine ext_rev _ hh (hit.at fun o e => k it o (Ne.symm hSi) e) (hl.at fun o e => k l o (Ne.symm hSl) e) hne hn hSi hSl .none g fun h' tk acc c' hk hS' hacc => ?_
  exact hR h' tk acc c' (fun b o hb hb2 e => hk b o hb hb2 (k b o hb e)) hS' hacc
theorem call_list_rev {it l : Addr} {items : Array Value} {Q : Value → Shared → Prop} (hh : A.handled = none) (hit : s.heap.IsRevIter it l ((items.size : Int) - 1)) (hl : s.heap.IsList l items) (hne : l ≠ it) (hn : items.size ≤ sizeLine)
    (hQ : ∀ (h' : Heap) (tk : Nat) (acc : Array Value) (c' : Nat), (∀ b o, b ≠ it → s.heap.get? b = some o → h'.get? b = some o) → h'.get? s.heap.objs.size = some { cls := .type "list", dict := none, data := .seq acc c', slots := #[] } → ItemsOf (fun i v => items[items.size - 1 - i]? = some v) acc items.size →
      Q (.ref s.heap.objs.size) { s with heap := h', toks := tk }) :
    wpAny (model prog w) A (call (.type "list") [.ref it]) Q E s := by
  obtain ⟨oi, hoi, _⟩ := id hit
  obtain ⟨ol, hol, _⟩ := id hl
  refine callType_codes (Q₁ := fun obj s₁ => obj = .ref s.heap.objs.size ∧ s₁ = { s with heap := s.heap.push { cls := .type "list", data := .seq #[] } }) F.called_list (F.typeCall_list_1 _) F.entry_list_init
    (code_list_new _ ⟨rfl, rfl⟩) fun obj s₁ h₁ => ?_
  obtain ⟨rfl, rfl⟩ := h₁
  have hS : (s.heap.push { cls := .type "list", data := .seq #[] }).get? s.heap.objs.size = some { cls := .type "list", data := .seq #[] } := Heap.get?_push_size _ rfl
  refine ⟨⟨_, hS, rfl⟩, F.args_list_init_2 _ _, init_rev (A := A.in1) hh (hit.at fun o e => Heap.get?_push_of_some _ e) (hl.push _) hne hn (Nat.ne_of_gt (Heap.lt_size hoi)) (Nat.ne_of_gt (Heap.lt_size hol)) hS fun h' tk acc c' hk hS' hacc => ?_⟩
  exact ⟨rfl, hQ h' tk acc c' (fun b o hb e => hk b o (Nat.ne_of_lt (Heap.lt_size e)) hb (Heap.get?_push_of_some _ e)) hS' hacc⟩
end
end TD
namespace TD
open PySem PySem.Spec PyProof.Rows L2
def tLstRev (K : PySem.W.Frag) (te : TE) : TE := fun σ H Q => te σ H fun v H1 => ∃ (a : Addr) (xs : List V), v = .ref a ∧ SqL K H1 a xs ∧ ∀ q, H1 q = none → Q (.ref q) (upd H1 q (.lst xs.reverse))
section
variable {X : Cx}
theorem pe_lstRev {e : Expr} {te : TE} {p p2 pos pos2 : Pos} (hc : X.calm = true) (hg : Gl X "list") (hm : X.mg "list" = none) (hg2 : Gl X "reversed") (hm2 : X.mg "reversed" = none) (he : PE X e te)
    (hs : starEach [e] X.env = (false, eval e X.env) :: starEach [] X.env)
    (hs2 : starEach [.Call (.Name "reversed" p2) [e] [] pos2] X.env = (false, eval (.Call (.Name "reversed" p2) [e] [] pos2) X.env) :: starEach [] X.env) :
    PE X (.Call (.Name "list" p) [.Call (.Name "reversed" p2) [e] [] pos2] [] pos) (tLstRev X.K te) := by
  refine ⟨fun pins s σ H Q I h => ?_⟩
  refine Call_ (ld_blt I hg hm boot_list (PyProof.Rows.callWith_type1 (args_cons (Call_ (ld_blt I hg2 hm2 PyProof.Rows.boot_reversed (PyProof.Rows.callWith_type1 (args_cons (thn (he.run pins s σ H _ I h) fun u s1 ⟨v, H1, I1, r1, q1⟩ => args_nil ?_) hs) hs rfl))) hs2) hs2 rfl))
  obtain ⟨a, xs, ev, hq, q⟩ := q1
  subst ev
  obtain rfl : u = Value.ref a := r1
  obtain ⟨its, rv, p', hz⟩ := I1.list hq
  refine call_reversed_list p'.isList (args_nil ?_)
  have I2 : Inv X pins σ H1 { s1 with heap := s1.heap.push (revObj a ((its.toArray.size : Int) - 1)) } := I1.kept (t' := s1.toks) fun b o e => Heap.get?_push_of_some _ e
  obtain ⟨f0, f1, f2, f3, f4, f5⟩ := I1.fpOk (H' := H1) (b := s1.heap.objs.size) (Nat.le_refl _) (I1.hok.fresh (Nat.le_refl _))
  have hl := p'.isList
  obtain ⟨ol, hol, _⟩ := id hl
  have hne : a ≠ s1.heap.objs.size := Nat.ne_of_lt (Heap.lt_size hol)
  have hn : its.toArray.size ≤ sizeLine := by rw [List.size_toArray, ← rv.length]; exact hz
  refine call_list_rev (s := { s1 with heap := s1.heap.push (revObj a ((its.toArray.size : Int) - 1)) }) (I1.ok.hd hc) ⟨_, Heap.get?_push_size _ rfl, rfl, rfl⟩ (hl.push _) hne hn fun h' tk acc c' hk hS hi => ?_
  have hsz : s1.heap.objs.size ≤ (s1.heap.push (revObj a ((its.toArray.size : Int) - 1))).objs.size := by simp [Heap.push]
  have k : ∀ b o, s1.heap.get? b = some o → h'.get? b = some o := fun b o e => hk b o (Nat.ne_of_lt (Heap.lt_size e)) (Heap.get?_push_of_some _ e)
  refine ⟨.ref (s1.heap.push (revObj a ((its.toArray.size : Int) - 1))).objs.size, upd H1 (s1.heap.push (revObj a ((its.toArray.size : Int) - 1))).objs.size (.lst xs.reverse), I1.laid (t' := tk) k hsz (show ObjOk X.prog X.w _ _ _ (.lst xs.reverse) from ⟨by rw [List.length_reverse]; exact hz, acc.toList, c', RT.vals_rev rv hi, ?_⟩), rfl, q _ (I1.hok.fresh hsz)⟩
  simpa using hS
end
section
variable {X : Cx} {Γ : Cn} {Wx : WX} {e : Expr} {f : Mx W}
def mListReversed (f : Mx W) : Mx W := bnd f fun w ρ => match w.lst ρ with
  | some xs => .ok (.l xs.reverse) ρ
  | none => .st
def mTupleReversed (f : Mx W) : Mx W := bnd f fun w ρ => match w.lst ρ with
  | some xs => .ok (.d (.tuple xs.reverse)) ρ
  | none => .st
theorem de_list_reversed {p p2 pos pos2 : Pos} (hm : X.mg "list" = none) (hm2 : X.mg "reversed" = none) (he : DE X Γ Wx e f) (hc : X.calm = true) (hK : X.K = Γ.K := by rfl) (hg : Gl X "list" := by rfl) (hg2 : Gl X "reversed" := by rfl)
    (hs : starEach [e] X.env = (false, eval e X.env) :: starEach [] X.env := by rfl)
    (hs2 : starEach [.Call (.Name "reversed" p2) [e] [] pos2] X.env = (false, eval (.Call (.Name "reversed" p2) [e] [] pos2) X.env) :: starEach [] X.env := by rfl) :
    DE X Γ Wx (.Call (.Name "list" p) [.Call (.Name "reversed" p2) [e] [] pos2] [] pos) (mListReversed f) :=
  PE.imp (pe_lstRev hc hg hm hg2 hm2 he hs hs2) fun σ H Q ⟨F, ρ, R, h⟩ => by
    rw [hK]
    refine ⟨F, ρ, R, post_bnd (s := ⟨F, σ, H, ρ⟩) h fun v w F1 H1 ρ1 R1 S1 r1 h1 => ?_⟩
    cases e1 : w.lst ρ1 with
    | none => rw [e1] at h1; exact h1.elim
    | some xs =>
      rw [e1] at h1
      obtain ⟨p, vs, ev, hq, q⟩ := VRep.lst (s := ⟨F1, σ, H1, ρ1⟩) R1 r1 e1
      exact ⟨p, vs, ev, hq, fun l hl => Post.lst (s := ⟨F1, σ, H1, ρ1⟩) R1 h1 q.reverse hl⟩
theorem de_tuple_reversed {p p2 pos pos2 : Pos} (hm : X.mg "tuple" = none) (hm2 : X.mg "reversed" = none) (he : DE X Γ Wx e f) (hc : X.calm = true) (hK : X.K = Γ.K := by rfl) (hg : Gl X "tuple" := by rfl) (hg2 : Gl X "reversed" := by rfl)
    (hs : starEach [e] X.env = (false, eval e X.env) :: starEach [] X.env := by rfl)
    (hs2 : starEach [.Call (.Name "reversed" p2) [e] [] pos2] X.env = (false, eval (.Call (.Name "reversed" p2) [e] [] pos2) X.env) :: starEach [] X.env := by rfl) :
    DE X Γ Wx (.Call (.Name "tuple" p) [.Call (.Name "reversed" p2) [e] [] pos2] [] pos) (mTupleReversed f) :=
  PE.imp (RT.pe_tupRev hc hg hm hg2 hm2 he hs hs2) fun σ H Q ⟨F, ρ, R, h⟩ => by
    rw [hK]
    refine ⟨F, ρ, R, post_bnd (s := ⟨F, σ, H, ρ⟩) h fun v w F1 H1 ρ1 R1 S1 r1 h1 => ?_⟩
    cases e1 : w.lst ρ1 with
    | none => rw [e1] at h1; exact h1.elim
    | some xs =>
      rw [e1] at h1
      obtain ⟨p, vs, ev, hq, q⟩ := VRep.lst (s := ⟨F1, σ, H1, ρ1⟩) R1 r1 e1
      exact ⟨p, vs, ev, hq, fun l hl => Post.tup (s := ⟨F1, σ, H1, ρ1⟩) R1 h1 q.reverse hl⟩
end
end TD
namespace TD
open PySem PySem.Spec PyProof.Rows L2
/-! ### zip of two things, each a list (true) or a tuple (false) -/
def SqB (K : PySem.W.Frag) : Bool → Hp → Addr → List V → Prop
  | true => SqL K
  | false => SqT K
def HsB : Bool → Heap → Addr → Array Value → Prop
  | true => Heap.IsList
  | false => Heap.IsTuple
def HtB : Bool → Heap → Addr → Addr → Nat → Prop
  | true => Heap.IsListIter
  | false => Heap.IsTupleIter
def obB (b : Bool) (a : Addr) : Obj := { cls := .type (cond b "list_iterator" "tuple_iterator"), data := .fields #[.ref a, .int 0 0] }
section
variable {X : Cx} {pins : List (Addr × Obj)} {σ : L2.St} {H : Hp} {s : Shared} {a : Addr} {xs ys : List V} {h h' : Heap} {it : Addr} {i : Nat} {zs : Array Value}
theorem SqB.its {b : Bool} (I : Inv X pins σ H s) (q : SqB X.K b H a xs) : ∃ us : List Value, Vals xs us ∧ HsB b s.heap a us.toArray ∧ a < s.heap.objs.size := by
  cases b with
  | true => obtain ⟨us, r, p, _⟩ := I.list q; exact ⟨us, r, p.isList, p.lt⟩
  | false =>
    obtain ⟨us, r, p, _⟩ := I.tuple q
    obtain ⟨o, ho, _⟩ := id p
    exact ⟨us, r, p, Heap.lt_size ho⟩
theorem SqB.inj {b : Bool} (I : Inv X pins σ H s) (q : SqB X.K b H a xs) (q' : SqB X.K b H a ys) : xs = ys := by
  cases b with
  | true => exact I.list_inj q q'
  | false => exact I.tuple_inj q q'
theorem HsB.at' {b : Bool} (q : HsB b h a zs) (e : ∀ o, h.get? a = some o → h'.get? a = some o) : HsB b h' a zs := by
  cases b with
  | true => exact Heap.IsList.at q e
  | false => exact Heap.IsTuple.at q e
theorem HtB.at' {b : Bool} (q : HtB b h it a i) (e : ∀ o, h.get? it = some o → h'.get? it = some o) : HtB b h' it a i := by
  cases b with
  | true => exact Heap.IsListIter.at q e
  | false => exact Heap.IsTupleIter.at q e
theorem HtB.is {b : Bool} (q : HtB b h it a i) : ∃ o, h.get? it = some o ∧ ∀ v, o.data ≠ .cell v := by
  cases b with
  | true => obtain ⟨o, e, _, d⟩ := q; exact ⟨o, e, fun v z => by rw [d] at z; cases z⟩
  | false => obtain ⟨o, e, _, d⟩ := q; exact ⟨o, e, fun v z => by rw [d] at z; cases z⟩
theorem HtB.new {b : Bool} (e : h.get? it = some (obB b a)) : HtB b h it a 0 := by
  cases b with
  | true => exact ⟨_, e, rfl, rfl⟩
  | false => exact ⟨_, e, rfl, rfl⟩
theorem begB (b : Bool) (a : Addr) (its : Array Value) : Begins (.ref a) (obB b a) fun h => HsB b h a its := by
  cases b with
  | true => exact begins_list a its
  | false => exact begins_tuple a its
theorem drawB {prog : Program} {w : World} {A : Around} (b : Bool) (hh : A.handled = none) (it a : Addr) (hne : a ≠ it) (its : Array Value) :
    Draws prog w A it [it, a] its.size (fun i v => its[i]? = some v) (fun i h => HtB b h it a i ∧ HsB b h a its) := by
  cases b with
  | true => exact .list hh it a hne its
  | false => exact .tuple hh it a hne its
/-- at turn i: the items up to there, or the end -/
theorem drawE {prog : Program} {w : World} {A : Around} (b : Bool) (hh : A.handled = none) (it a : Addr) (hne : a ≠ it) (its : Array Value) (i : Nat) :
    ∃ (n : Nat) (P : Nat → Value → Prop) (St : Nat → Heap → Prop), i ≤ n ∧ (its.size ≤ i → i = n) ∧ Draws prog w A it [it, a] n P St ∧ ∀ h, HtB b h it a i → HsB b h a its → St i h := by
  by_cases hi : i < its.size
  · exact ⟨_, _, _, Nat.le_of_lt hi, fun z => by omega, drawB b hh it a hne its, fun h q1 q2 => ⟨q1, q2⟩⟩
  · refine ⟨i, fun _ _ => True, fun j h => j = i ∧ HtB b h it a i ∧ HsB b h a its, Nat.le_refl _, fun _ => rfl, ⟨fun j h q => ?_, fun j h h' q k => ?_, fun j s Q E hj q _ => ?_, fun s Q E q hE => ?_⟩, fun h q1 q2 => ⟨rfl, q1, q2⟩⟩
    · obtain ⟨o, e, _⟩ := q.2.1.is
      exact ⟨o, e⟩
    · exact ⟨q.1, q.2.1.at' (k it (by simp)), q.2.2.at' (k a (by simp))⟩
    · exact absurd q.1 (Nat.ne_of_lt hj)
    · have en : its[i]? = none := by simp; omega
      cases b with
      | true => exact wpAny_nextOf_list_end hh q.2.1 q.2.2 en hE
      | false => exact RZ.nextOf_tuple_end hh q.2.1 q.2.2 en hE
end
theorem apart2 {z TI TO i1 i2 a b : Addr} (D : ZipApart z TI TO i1 i2 a b) : ZipSep2 z TI TO i1 i2 [i1, a] [i2, b] := by
  obtain ⟨d1, d2, d3, d4, d5, d6, d7, d8, d9, d10, d11, d12, d13, d14, d15, d16, d17, d18⟩ := D
  constructor <;> simp only [List.mem_cons, List.not_mem_nil, or_false, not_or, ne_eq, true_or] <;> first | assumption | (refine ⟨?_, ?_⟩ <;> first | assumption | exact Ne.symm (by assumption)) | trivial
/-- what stands at a and b at each turn, in new pairs -/
def ItM (K : PySem.W.Frag) (b1 b2 : Bool) (a b : Addr) : It :=
  ⟨fun i H => ∃ (xs ys : List V) (x y : V), SqB K b1 H a xs ∧ SqB K b2 H b ys ∧ xs[i]? = some x ∧ ys[i]? = some y,
    fun i H v H' => ∃ T x y, v = .ref T ∧ H T = none ∧ H' = upd H T (.tup [x, y]) ∧ (∀ xs, SqB K b1 H a xs → xs[i]? = some x) ∧ ∀ ys, SqB K b2 H b ys → ys[i]? = some y,
    fun i H => ∃ xs ys : List V, SqB K b1 H a xs ∧ SqB K b2 H b ys ∧ (xs.length ≤ i ∨ ys.length ≤ i)⟩
theorem turnM {P : Program} {w : World} {K : PySem.W.Frag} {elts : List Expr} {kk : Nat} {tpos : Pos} {a b z TI TO i1 i2 : Addr} (b1 b2 : Bool) (D : ZipApart z TI TO i1 i2 a b) :
    Turn P w K (.Tuple elts kk tpos) (ItM K b1 b2 a b) [z, TI, TO, i1, i2] z
      (fun i h => IsZip h z TI TO .none ∧ IsTupOf2 h TI (.ref i1) (.ref i2) ∧ (∃ x y, IsTupOf2 h TO x y) ∧ HtB b1 h i1 a i ∧ HtB b2 h i2 b i) := by
  have cs : ∀ {c : Addr}, c ∈ [z, TI, TO, i1, i2] → c = z ∨ c = TI ∨ c = TO ∨ c = i1 ∨ c = i2 := fun {c} hc => by simpa using hc
  refine ⟨List.mem_cons_self, fun i h st c hc => ?_, fun i h h' st k => ?_, ?_, ?_, fun A i s Q E st q => wpAny_pyIter_zip st.1 q⟩
  · obtain ⟨g1, g2, ⟨x, y, g3⟩, g4, g5⟩ := st
    rcases cs hc with rfl | rfl | rfl | rfl | rfl
    · exact ⟨_, g1, fun v q => by cases q⟩
    · exact ⟨_, g2, fun v q => by cases q⟩
    · exact ⟨_, g3, fun v q => by cases q⟩
    · exact g4.is
    · exact g5.is
  · obtain ⟨g1, g2, ⟨x, y, g3⟩, g4, g5⟩ := st
    exact ⟨k _ (by simp) _ g1, k _ (by simp) _ g2, ⟨x, y, k _ (by simp) _ g3⟩, g4.at' (k _ (by simp)), g5.at' (k _ (by simp))⟩
  · intro X hP hw hK hc i pins s σ H E I hf st hg
    subst hP hw hK
    obtain ⟨g1, g2, ⟨x0, y0, g3⟩, g4, g5⟩ := st
    obtain ⟨xs, ys, x, y, qx, qy, hx, hy⟩ := hg
    obtain ⟨us, r1, p1, _⟩ := qx.its I
    obtain ⟨vs, r2, p2, _⟩ := qy.its I
    obtain ⟨u, hu, ru⟩ := r1.get hx
    obtain ⟨v, hv, rv⟩ := r2.get hy
    have n1 : i < us.toArray.size := by rw [List.size_toArray]; exact (List.getElem?_eq_some_iff.mp hu).1
    have n2 : i < vs.toArray.size := by rw [List.size_toArray]; exact (List.getElem?_eq_some_iff.mp hv).1
    have zl : z < s.heap.objs.size := Heap.lt_size g1
    refine wpAny_pyNext_zipD2_item (apart2 D) (drawB (prog := X.prog) (w := X.w) (A := X.A.in1) b1 (I.ok.hd hc) i1 a D.l1i1 us.toArray) (drawB (prog := X.prog) (w := X.w) (A := X.A.in1) b2 (I.ok.hd hc) i2 b D.l2i2 vs.toArray) g1 g2 g3 ⟨g4, p1⟩ ⟨g5, p2⟩ n1 n2 fun x1 x2 h' tk e1 e2 z1 z2 j1 j2 z3 z4 kp => ?_
    have e1' : us.toArray[i]? = some x1 := e1
    have e2' : vs.toArray[i]? = some x2 := e2
    simp only [List.getElem?_toArray] at e1' e2'
    rw [hu] at e1'
    rw [hv] at e2'
    cases e1'
    cases e2'
    refine ⟨_, rfl, wpAny_letOwnedTupleGo_zip (s := { s with heap := h', toks := tk }) z1 fun h2 z5 sb => ?_⟩
    have kp2 : ∀ c o, c ∉ [z, TI, TO, i1, i2] → s.heap.get? c = some o → h2.get? c = some o := fun c o nc e => by
      simp only [List.mem_cons, List.not_mem_nil, or_false, not_or] at nc
      exact (sb.2 c nc.1).trans (kp c o nc.1 nc.2.2.1 nc.2.2.2.1 nc.2.2.2.2 e)
    have tp : h2.get? s.heap.objs.size = some { cls := .type "tuple", data := .seq #[u, v] } := (sb.2 _ (Nat.ne_of_gt zl)).trans z3
    have nw : ObjOk X.prog X.w (upd H s.heap.objs.size (.tup [x, y])) h2 s.heap.objs.size (.tup [x, y]) := by
      refine ⟨?_, [u, v], .cons ru (.cons rv .nil), _, tp, rfl, _, rfl⟩
      show 2 ≤ sizeLine
      decide
    have I2 : Inv X pins σ (upd H s.heap.objs.size (.tup [x, y])) { s with heap := h2, toks := tk } := I.turnedNew kp2 hf (Nat.le_refl _) nw
    refine ⟨.ref s.heap.objs.size, _, I2, rfl, ⟨_, x, y, rfl, I.hok.fresh (Nat.le_refl _), rfl, fun l q => by rw [q.inj I qx]; exact hx, fun l q => by rw [q.inj I qy]; exact hy⟩, ⟨z5, ?_, ⟨u, v, ?_⟩, ?_, ?_⟩, fun c hcm => ?_⟩
    · exact (sb.2 TI D.TIz).trans (kp TI _ D.TIz D.TITO D.TIi1 D.TIi2 g2)
    · exact (sb.2 TO D.TOz).trans z2
    · exact j1.1.at' fun o q => (sb.2 i1 D.i1z).trans q
    · exact j2.1.at' fun o q => (sb.2 i2 D.i2z).trans q
    · have lt : c < s.heap.objs.size := by
        rcases cs hcm with rfl | rfl | rfl | rfl | rfl
        · exact zl
        · exact Heap.lt_size g2
        · exact Heap.lt_size g3
        · obtain ⟨_, e, _⟩ := g4.is; exact Heap.lt_size e
        · obtain ⟨_, e, _⟩ := g5.is; exact Heap.lt_size e
      rw [upd_ne (Nat.ne_of_lt lt)]
      exact (hf c hcm).1
  · intro X hP hw hK hc i pins s σ H E I hf st hg
    subst hP hw hK
    obtain ⟨g1, g2, ⟨x0, y0, g3⟩, g4, g5⟩ := st
    obtain ⟨xs, ys, qx, qy, hend⟩ := hg
    obtain ⟨us, r1, p1, _⟩ := qx.its I
    obtain ⟨vs, r2, p2, _⟩ := qy.its I
    have l1 := r1.length
    have l2 := r2.length
    obtain ⟨n1, P1, St1, a1, a2, D1, a3⟩ := drawE (prog := X.prog) (w := X.w) (A := X.A.in1) b1 (I.ok.hd hc) i1 a D.l1i1 us.toArray i
    obtain ⟨n2, P2, St2, c1, c2, D2, c3⟩ := drawE (prog := X.prog) (w := X.w) (A := X.A.in1) b2 (I.ok.hd hc) i2 b D.l2i2 vs.toArray i
    rw [List.size_toArray] at a2 c2
    refine wpAny_pyNext_zipD2_end (apart2 D) D1 D2 g1 g2 g3 (a3 _ g4 p1) (c3 _ g5 p2) a1 c1 (hend.imp (fun q => a2 (by omega)) (fun q => c2 (by omega))) fun h' tk kp => ⟨rfl, ?_⟩
    exact I.turnedL (fun c o nc e => by
      simp only [List.mem_cons, List.not_mem_nil, or_false, not_or] at nc
      exact kp c o nc.1 nc.2.2.1 nc.2.2.2.1 nc.2.2.2.2 e) hf
def iZipM (K : PySem.W.Frag) (ta : TA) : L2.TI := fun σ H R => ta σ H fun vs H1 => ∃ b1 b2 a b xs ys, vs = [.ref a, .ref b] ∧ SqB K b1 H1 a xs ∧ SqB K b2 H1 b ys ∧ R (ItM K b1 b2 a b) H1
theorem two_refs {a b : Addr} {us : List Value} (r : Vals [.ref a, .ref b] us) : us = [.ref a, .ref b] := by
  cases r with
  | cons r rr => cases rr with
    | cons r' rr => cases rr; cases r; cases r'; rfl
theorem pi_zipM {X : Cx} {e e2 : Expr} {ta : TA} {p pos tpos : Pos} {elts : List Expr} {kk : Nat} (hg : Gl X "zip") (hm : X.mg "zip" = none) (ha : PA X [e, e2] ta)
    (hs : starEach [e, e2] X.env = (false, eval e X.env) :: starEach [e2] X.env) (hpl : (backTo pos (starEach [e2] X.env)).any (·.1) = false) :
    PI X (.Tuple elts kk tpos) (.Call (.Name "zip" p) [e, e2] [] pos) (iZipM X.K ta) := by
  refine ⟨fun pins s σ H R I h => Call_ (ld_blt I hg hm PyProof.Rows.boot_zip (PyProof.Rows.callWith_type1 (thn (ha.run pos pins s σ H _ I h) fun us s1 ⟨vs, H1, I1, r1, q1⟩ => ?_) hs hpl))⟩
  obtain ⟨b1, b2, a, b, xs, ys, rfl, qx, qy, q⟩ := q1
  have eu := two_refs r1
  subst eu
  · obtain ⟨us, _, p1, la⟩ := qx.its I1
    obtain ⟨vs, _, p2, lb⟩ := qy.its I1
    refine zip_begins2 (begB b1 a us.toArray) (begB b2 b vs.toArray) p1 p2 fun h' k1 k2 k3 k4 k5 k6 kp => wpAny_pyIter_zip k1 ?_
    refine ⟨s1.heap.objs.size + 4, [s1.heap.objs.size + 4, s1.heap.objs.size + 2, s1.heap.objs.size + 3, s1.heap.objs.size, s1.heap.objs.size + 1], _, _, H1, rfl, I1.kept (t' := s1.toks) kp, turnM b1 b2 (PySem.W.ktu_apart s1.heap.objs.size a b la lb), ⟨k1, k2, ⟨_, _, k3⟩, .new k4, .new k5⟩, fun c hc => ?_, q⟩
    have le : s1.heap.objs.size ≤ c := by
      simp only [List.mem_cons, List.not_mem_nil, or_false] at hc
      rcases hc with rfl | rfl | rfl | rfl | rfl <;> first | exact Nat.le_refl _ | exact Nat.le_add_right _ _
    exact I1.fpOk le (I1.hok.fresh le)
end TD
namespace TD
open PySem PySem.Spec PyProof.Rows L2
/-! ### continue, return, x += e, targets of any form -/
def sCont : Mx Fl := fun ρ => .ok .ct ρ
def sRetN : Mx Fl := fun ρ => .ok (.rt (.d .none)) ρ
section
variable {X : Cx} {Γ : Cn} {Wx : WX} {e : Expr} {f : Mx W} {pos : Pos}
theorem ds_cont : DS X Γ Wx (.Continue pos) sCont := PS.imp ps_continue fun Dn σ H ⟨F, ρ, R, h⟩ => h F σ H R (Step.refl _)
theorem ds_retN : DS X Γ Wx (.Return none pos) sRetN := PS.imp ps_retN fun Dn σ H ⟨F, ρ, R, h⟩ => h .non F σ H R (Step.refl _) .non
def sUnp (f : Mx W) (bd : Bd) : Mx Fl := bnd f fun w ρ => match w.datum ρ with
  | some (d, ρ1) => (match bd d ρ1 with
    | some ρ2 => .ok .nx ρ2
    | none => .st)
  | none => .st
theorem postsv_bnd {s : Sx} {Dn : Ends} {k : W → Mx Fl} {K : V → Hp → Prop} (h : PostS Γ Wx s (bnd f k s.ρ) Dn)
    (hk : ∀ v w F1 H1 ρ1, Rel Γ.K ⟨F1, s.σ, H1, ρ1⟩ → Step Γ.np s ⟨F1, s.σ, H1, ρ1⟩ → VRep Γ.K s.H ⟨F1, s.σ, H1, ρ1⟩ v w → PostS Γ Wx s (k w ρ1) Dn → K v H1) : Post Γ Wx s (f s.ρ) K := by
  unfold bnd at h
  cases e : f s.ρ with
  | ok w ρ1 =>
    rw [e] at h
    exact fun v F1 H1 R1 S1 r => hk v w F1 H1 ρ1 R1 S1 r h
  | er c ρ1 => rw [e] at h; exact fun F' H' C hC R' S' => h F' s.σ H' C hC R' S'
  | st => rw [e] at h; exact h
theorem ds_unp {tg : Expr} {g : TG} {bd : Bd} (he : DE X Γ Wx e f) (hg : PG X tg g) (ok : OkG Γ g bd) (hs : swapsWithSole [tg] e pos.line X.env = pure false := by rfl) (hw : swappedStores [tg] e X.env = pure none := by rfl)
    (h1 : (assignEach [tg] X.env).map (·.2) = [assign tg X.env] := by rfl) : DS X Γ Wx (.Assign [tg] e pos) (sUnp f bd) :=
  PS.imp (ps_asg he hg hs hw h1) fun Dn σ H ⟨F, ρ, R, h⟩ => ⟨F, ρ, R, postsv_bnd (s := ⟨F, σ, H, ρ⟩) h fun v w F1 H1 ρ1 R1 S1 r1 h1 => by
    cases e1 : w.datum ρ1 with
    | none => rw [e1] at h1; exact h1.elim
    | some dρ =>
      obtain ⟨d, ρ2⟩ := dρ
      rw [e1] at h1
      simp only at h1
      obtain ⟨F2, R2, S2, q, _⟩ := datum_ok (s := ⟨F1, σ, H1, ρ1⟩) R1 S1 r1 e1
      cases e2 : bd d ρ2 with
      | none => rw [e2] at h1; exact h1.elim
      | some ρ3 =>
        rw [e2] at h1
        exact ok ⟨F2, σ, H1, ρ2⟩ v d ρ3 _ R2 q e2 fun σ1 R3 S3 => h1 F2 σ1 H1 R3 (S2.trans S3)⟩
def sAugG (op : Int → Int → Int) (np i : Nat) (f : Mx W) : Mx Fl := fun ρ => match ρ[i]? with
  | some (some (.d (.int x))) => bnd f (fun w ρ' => match w.asD ρ' with
    | some (.int y) => (match put np i (.d (.int (op x y))) ρ' with
      | some ρ2 => .ok .nx ρ2
      | none => .st)
    | _ => .st) ρ
  | _ => .st
abbrev sAugAdd := sAugG fun i j => i + j
abbrev sAugSub := sAugG fun i j => i - j
theorem aug_of {op : Int → Int → Int} {i : Nat} {x : Str} {o : Operator} {pos' : Pos} (ho : PIp X o (ipI op)) (hN : X.N.Nodup) (h : DE X Γ Wx e f) (hi : X.N[i]? = some x) (hx : Loc X.env.scope x)
    (hf : X.fn x = true ∨ X.env.scope.names.lookup x = some .local) : DS X Γ Wx (.AugAssign (.Name x pos') o e pos) (sAugG op Γ.np i f) :=
  PS.imp (ps_aug hN hi hx h ho hf) fun Dn σ H ⟨F, ρ, R, h⟩ => by
    unfold sAugG at h
    split at h
    · rename_i a hb
      obtain ⟨v0, hv, q⟩ := R.slot i _ hb
      have hv : σ[i]? = some (some v0) := hv
      have e0 : v0 = .int a := Rp.intV q
      subst e0
      refine ⟨.int a, hv, F, ρ, R, postsv_bnd (s := ⟨F, σ, H, ρ⟩) h fun v w F1 H1 ρ1 R1 S1 r1 h1 => ?_⟩
      split at h1
      · rename_i y e1
        split at h1
        · rename_i ρ2 e2
          obtain ⟨R2, S2⟩ := put_ok (v := .int (op a y)) R1 S1 e2 (.int _) (fun z => by cases z)
          exact ⟨a, y, rfl, (VRep.data (s := ⟨F1, σ, H1, ρ1⟩) R1 r1 e1).intV, h1 F1 _ H1 R2 S2⟩
        · exact h1.elim
      · exact h1.elim
    · exact h.elim
theorem ds_augAdd {pos' : Pos} (i : Nat) {x : Str} (hN : X.N.Nodup) (h : DE X Γ Wx e f) (hi : X.N[i]? = some x := by rfl) (hx : Loc X.env.scope x := by first | exact Or.inl rfl | exact Or.inr rfl)
    (hf : X.fn x = true ∨ X.env.scope.names.lookup x = some .local := by first | exact .inl rfl | exact .inr rfl | assumption) : DS X Γ Wx (.AugAssign (.Name x pos') .Add e pos) (sAugAdd Γ.np i f) := aug_of ip_add hN h hi hx hf
theorem ds_augSub {pos' : Pos} (i : Nat) {x : Str} (hN : X.N.Nodup) (h : DE X Γ Wx e f) (hi : X.N[i]? = some x := by rfl) (hx : Loc X.env.scope x := by first | exact Or.inl rfl | exact Or.inr rfl)
    (hf : X.fn x = true ∨ X.env.scope.names.lookup x = some .local := by first | exact .inl rfl | exact .inr rfl | assumption) : DS X Γ Wx (.AugAssign (.Name x pos') .Sub e pos) (sAugSub Γ.np i f) := aug_of ip_sub hN h hi hx hf
def sAugMult (np i : Nat) (f : Mx W) : Mx Fl := fun ρ => match ρ[i]? with
  | some (some (.d (.int x))) => bnd f (fun w ρ' => match w.asD ρ' with
    | some (.int y) => if -18446744073709551616 < y ∧ y < 18446744073709551616 then (match put np i (.d (.int (x * y))) ρ' with
      | some ρ2 => .ok .nx ρ2
      | none => .st) else .st
    | _ => .st) ρ
  | _ => .st
def ipM : TIp := fun x y H Q => ∃ i j, x = .int i ∧ y = .int j ∧ (-18446744073709551616 < j ∧ j < 18446744073709551616) ∧ Q (.int (i * j)) H
theorem ip_mul : PIp X .Mult ipM := by
  intro pins s σ H x y v u Q I r1 r2 h
  obtain ⟨i, j, rfl, rfl, hj, q⟩ := h
  obtain ⟨t, rfl⟩ := r1
  obtain ⟨t', rfl⟩ := r2
  exact imul_int ⟨.int _, H, I.tok _, ⟨_, rfl⟩, q⟩ (CMul.ok (.inr hj))
theorem ds_augMult {pos' : Pos} (i : Nat) {x : Str} (hN : X.N.Nodup) (h : DE X Γ Wx e f) (hi : X.N[i]? = some x := by rfl) (hx : Loc X.env.scope x := by first | exact Or.inl rfl | exact Or.inr rfl)
    (hf : X.fn x = true ∨ X.env.scope.names.lookup x = some .local := by first | exact .inl rfl | exact .inr rfl | assumption) : DS X Γ Wx (.AugAssign (.Name x pos') .Mult e pos) (sAugMult Γ.np i f) :=
  PS.imp (ps_aug hN hi hx h ip_mul hf) fun Dn σ H ⟨F, ρ, R, h⟩ => by
    unfold sAugMult at h
    split at h
    · rename_i a hb
      obtain ⟨v0, hv, q⟩ := R.slot i _ hb
      have hv : σ[i]? = some (some v0) := hv
      have e0 : v0 = .int a := Rp.intV q
      subst e0
      refine ⟨.int a, hv, F, ρ, R, postsv_bnd (s := ⟨F, σ, H, ρ⟩) h fun v w F1 H1 ρ1 R1 S1 r1 h1 => ?_⟩
      split at h1
      · rename_i y e1
        split at h1
        · rename_i hy
          split at h1
          · rename_i ρ2 e2
            obtain ⟨R2, S2⟩ := put_ok (v := .int (a * y)) R1 S1 e2 (.int _) (fun z => by cases z)
            exact ⟨a, y, rfl, (VRep.data (s := ⟨F1, σ, H1, ρ1⟩) R1 r1 e1).intV, hy, h1 F1 _ H1 R2 S2⟩
          · exact h1.elim
        · exact h1.elim
      · exact h1.elim
    · exact h.elim
end
/-! ### zip, enumerate -/
def zipD (xs ys : List D) : List D := List.zipWith (fun x y => .tuple [x, y]) xs ys
def gZip (ws : List W) (ρ : Env) : Out Walk := match datums ws ρ with
  | some ([.list xs, .list ys], ρ') => .ok (zipD xs ys, none) ρ'
  | some ([.tuple xs, .tuple ys], ρ') => .ok (zipD xs ys, none) ρ'
  | some ([.list xs, .tuple ys], ρ') => .ok (zipD xs ys, none) ρ'
  | some ([.tuple xs, .list ys], ρ') => .ok (zipD xs ys, none) ρ'
  | _ => .st
def mZip (fs : Mx (List W)) : Mx Walk := bnd fs gZip
def enumD (xs : List D) : List D := xs.mapIdx fun i x => .tuple [.int (i : Int), x]
def gEnum (ws : List W) (ρ : Env) : Out Walk := match datums ws ρ with
  | some ([.list xs], ρ') => .ok (enumD xs, none) ρ'
  | _ => .st
def mEnum (fs : Mx (List W)) : Mx Walk := bnd fs gEnum
section
variable {X : Cx} {Γ : Cn} {Wx : WX} {a b : Expr} {fs : Mx (List W)} {pos tpos : Pos} {elts : List Expr} {kk : Nat}
theorem Rp.lstI {F : Hp} {v : V} {xs : List D} (r : Rp F v (.list xs)) : ∃ p vs, v = .ref p ∧ F p = some (.lst vs) ∧ RpA F vs xs := by
  cases r with
  | lst e q => exact ⟨_, _, rfl, e, q⟩
theorem Rp.tupI {F : Hp} {v : V} {xs : List D} (r : Rp F v (.tuple xs)) : ∃ p vs, v = .ref p ∧ F p = some (.tup vs) ∧ RpA F vs xs := by
  cases r with
  | tup e q => exact ⟨_, _, rfl, e, q⟩
theorem zip_get {xs ys : List D} {i : Nat} {d : D} (h : (zipD xs ys)[i]? = some d) : ∃ x y, xs[i]? = some x ∧ ys[i]? = some y ∧ d = .tuple [x, y] := by
  unfold zipD at h
  rw [List.getElem?_zipWith] at h
  cases e1 : xs[i]? with
  | none => rw [e1] at h; cases h
  | some x => cases e2 : ys[i]? with
    | none => rw [e1, e2] at h; cases h
    | some y => rw [e1, e2] at h; cases h; exact ⟨x, y, rfl, rfl, rfl⟩
theorem zip_len {xs ys : List D} {i : Nat} (h : (zipD xs ys).length ≤ i) : xs.length ≤ i ∨ ys.length ≤ i := by
  unfold zipD at h
  rw [List.length_zipWith] at h
  omega
theorem pair_new {K : PySem.W.Frag} {np : Nat} {s : Sx} {T : Addr} {x y : V} {c d : D} (R : Rel K s) (hT : s.H T = none) (r1 : Rp s.F x c) (r2 : Rp s.F y d) :
    ∃ F', Rel K ⟨F', s.σ, upd s.H T (.tup [x, y]), s.ρ⟩ ∧ Step np s ⟨F', s.σ, upd s.H T (.tup [x, y]), s.ρ⟩ ∧ Rp F' (.ref T) (.tuple [c, d]) := by
  obtain ⟨R', S'⟩ := R.alloc (np := np) (p := T) (o := .tup [x, y]) (F' := upd s.F T (.tup [x, y])) hT (.inr rfl)
  exact ⟨_, R', S', .tup upd_same (.cons (r1.mono (S'.mono R)) (.one (r2.mono (S'.mono R))))⟩
theorem iter_zip {s : Sx} {p q : Addr} {vs us : List V} {xs ys : List D} (b1 b2 : Bool) (R : Rel Γ.K s) (hp : ∀ H : Hp, (∀ a u, s.F a = some u → H a = some u) → SqB Γ.K b1 H p vs) (hq : ∀ H : Hp, (∀ a u, s.F a = some u → H a = some u) → SqB Γ.K b2 H q us) (r1 : RpA s.F vs xs) (r2 : RpA s.F us ys) : IterOk Γ s (ItM Γ.K b1 b2 p q) (zipD xs ys) := fun i s' S' R' => by
  have m := S'.mono R
  have h1 := hp s'.H fun a u e => R'.sub _ _ (m _ _ e)
  have h2 := hq s'.H fun a u e => R'.sub _ _ (m _ _ e)
  refine ⟨fun hi => ⟨vs, us, h1, h2, by rw [r1.length, r2.length]; exact zip_len hi⟩, fun d hd => ?_⟩
  obtain ⟨x, y, e1, e2, rfl⟩ := zip_get hd
  obtain ⟨v, ev, rv⟩ := r1.get e1
  obtain ⟨u, eu, ru⟩ := r2.get e2
  refine ⟨⟨vs, us, v, u, h1, h2, ev, eu⟩, fun v' H' ⟨T, x', y', z1, z2, z3, z4, z5⟩ => ?_⟩
  subst z1 z3
  have g1 := z4 _ h1
  have g2 := z5 _ h2
  rw [ev] at g1
  rw [eu] at g2
  cases g1
  cases g2
  exact pair_new R' z2 (rv.mono m) (ru.mono m)
theorem lst_sq {K : PySem.W.Frag} {F : Hp} {v : V} {xs : List D} (r : Rp F v (.list xs)) : ∃ p vs, v = .ref p ∧ (∀ H : Hp, (∀ a u, F a = some u → H a = some u) → SqB K true H p vs) ∧ RpA F vs xs := by
  obtain ⟨p, vs, e, g, q⟩ := r.lstI
  exact ⟨p, vs, e, fun H k => SqL.of (k _ _ g), q⟩
theorem tup_sq {K : PySem.W.Frag} {F : Hp} {v : V} {xs : List D} (r : Rp F v (.tuple xs)) : ∃ p vs, v = .ref p ∧ (∀ H : Hp, (∀ a u, F a = some u → H a = some u) → SqB K false H p vs) ∧ RpA F vs xs := by
  obtain ⟨p, vs, e, g, q⟩ := r.tupI
  exact ⟨p, vs, e, fun H k => SqT.of (k _ _ g), q⟩
theorem di_zip {p : Pos} (hm : X.mg "zip" = none) (ha : DA X Γ Wx [a, b] fs) (hK : X.K = Γ.K := by rfl) (hg : Gl X "zip" := by rfl) (hs : starEach [a, b] X.env = (false, eval a X.env) :: starEach [b] X.env := by rfl) (hpl : (backTo pos (starEach [b] X.env)).any (·.1) = false := by rfl) :
    DI X Γ Wx (.Tuple elts kk tpos) (.Call (.Name "zip" p) [a, b] [] pos) (mZip fs) :=
  PI.imp (pi_zipM hg hm ha hs hpl) fun σ H Q ⟨F, ρ, R, h⟩ => by
    rw [hK]
    refine ⟨F, ρ, R, postia_bnd (s := ⟨F, σ, H, ρ⟩) h fun vs ws F1 H1 ρ1 R1 S1 r h1 => ?_⟩
    unfold gZip at h1
    cases e1 : datums ws ρ1 with
    | none => rw [e1] at h1; exact h1.elim
    | some q1 =>
      obtain ⟨ds, ρ2⟩ := q1
      rw [e1] at h1
      obtain ⟨F2, R2, S2, q, _⟩ := datums_ok (s := ⟨F1, σ, H1, ρ1⟩) R1 S1 r e1
      split at h1
      · rename_i xs ys ρ' e3
        cases e3
        match vs, q with
        | [v, u], .cons r1 (.cons r2 .nil) =>
          obtain ⟨p1, us1, rfl, g1, q1⟩ := lst_sq (K := Γ.K) r1
          obtain ⟨p2, us2, rfl, g2, q2⟩ := lst_sq (K := Γ.K) r2
          exact ⟨true, true, p1, p2, us1, us2, rfl, g1 _ R2.sub, g2 _ R2.sub, h1 _ F2 H1 R2 S2 (fun j z => by cases z) (iter_zip true true R2 g1 g2 q1 q2)⟩
      · rename_i xs ys ρ' e3
        cases e3
        match vs, q with
        | [v, u], .cons r1 (.cons r2 .nil) =>
          obtain ⟨p1, us1, rfl, g1, q1⟩ := tup_sq (K := Γ.K) r1
          obtain ⟨p2, us2, rfl, g2, q2⟩ := tup_sq (K := Γ.K) r2
          exact ⟨false, false, p1, p2, us1, us2, rfl, g1 _ R2.sub, g2 _ R2.sub, h1 _ F2 H1 R2 S2 (fun j z => by cases z) (iter_zip false false R2 g1 g2 q1 q2)⟩
      · rename_i xs ys ρ' e3
        cases e3
        match vs, q with
        | [v, u], .cons r1 (.cons r2 .nil) =>
          obtain ⟨p1, us1, rfl, g1, q1⟩ := lst_sq (K := Γ.K) r1
          obtain ⟨p2, us2, rfl, g2, q2⟩ := tup_sq (K := Γ.K) r2
          exact ⟨true, false, p1, p2, us1, us2, rfl, g1 _ R2.sub, g2 _ R2.sub, h1 _ F2 H1 R2 S2 (fun j z => by cases z) (iter_zip true false R2 g1 g2 q1 q2)⟩
      · rename_i xs ys ρ' e3
        cases e3
        match vs, q with
        | [v, u], .cons r1 (.cons r2 .nil) =>
          obtain ⟨p1, us1, rfl, g1, q1⟩ := tup_sq (K := Γ.K) r1
          obtain ⟨p2, us2, rfl, g2, q2⟩ := lst_sq (K := Γ.K) r2
          exact ⟨false, true, p1, p2, us1, us2, rfl, g1 _ R2.sub, g2 _ R2.sub, h1 _ F2 H1 R2 S2 (fun j z => by cases z) (iter_zip false true R2 g1 g2 q1 q2)⟩
      · exact h1.elim
theorem iter_enum {s : Sx} {p : Addr} {vs : List V} {xs : List D} (R : Rel Γ.K s) (hp : s.F p = some (.lst vs)) (r1 : RpA s.F vs xs) : IterOk Γ s (Ite Γ.K p) (enumD xs) := fun i s' S' R' => by
  have m := S'.mono R
  have h1 : SqL Γ.K s'.H p vs := SqL.of (R'.sub _ _ (m _ _ hp))
  unfold enumD
  refine ⟨fun hi => ⟨vs, h1, by rw [r1.length]; simpa using hi⟩, fun d hd => ?_⟩
  rw [List.getElem?_mapIdx, Option.map_eq_some_iff] at hd
  obtain ⟨x, e1, rfl⟩ := hd
  obtain ⟨v, ev, rv⟩ := r1.get e1
  refine ⟨⟨vs, v, h1, ev⟩, fun v' H' ⟨T, x', z1, z2, z3, z4⟩ => ?_⟩
  subst z1 z3
  have g1 := z4 _ h1
  rw [ev] at g1
  cases g1
  exact pair_new R' z2 (.int _) (rv.mono m)
theorem di_enum {p : Pos} (hm : X.mg "enumerate" = none) (ha : DA X Γ Wx [a] fs) (hK : X.K = Γ.K := by rfl) (hg : Gl X "enumerate" := by rfl) (hs : starEach [a] X.env = [(false, eval a X.env)] := by rfl) :
    DI X Γ Wx (.Tuple elts kk tpos) (.Call (.Name "enumerate" p) [a] [] pos) (mEnum fs) :=
  PI.imp (pi_enum hg hm ha hs) fun σ H Q ⟨F, ρ, R, h⟩ => by
    rw [hK]
    refine ⟨F, ρ, R, postia_bnd (s := ⟨F, σ, H, ρ⟩) h fun vs ws F1 H1 ρ1 R1 S1 r h1 => ?_⟩
    unfold gEnum at h1
    cases e1 : datums ws ρ1 with
    | none => rw [e1] at h1; exact h1.elim
    | some q1 =>
      obtain ⟨ds, ρ2⟩ := q1
      rw [e1] at h1
      obtain ⟨F2, R2, S2, q, _⟩ := datums_ok (s := ⟨F1, σ, H1, ρ1⟩) R1 S1 r e1
      split at h1
      · rename_i xs ρ' e3
        cases e3
        match vs, q with
        | [v], .cons r1 .nil =>
          obtain ⟨p1, us1, rfl, g1, q1⟩ := r1.lstI
          exact ⟨p1, us1, rfl, SqL.of (R2.sub _ _ g1), h1 _ F2 H1 R2 S2 (fun j z => by cases z) (iter_enum R2 g1 q1)⟩
      · exact h1.elim
end
end TD
namespace TD
open PySem PySem.Spec PyProof.Rows L2
/-! ### keys -/
def keyOf : D → Option Key
  | .int i => some (.inl i)
  | .str x => some (.inr x)
  | _ => none
def keysOf : List D → Option (List Key)
  | [] => some []
  | d :: ds => match keyOf d, keysOf ds with
    | some k, some ks => some (k :: ks)
    | _, _ => none
def keyD : Key → D
  | .inl i => .int i
  | .inr x => .str x
theorem keyOf_V {F : Hp} {v : V} {d : D} {k : Key} (r : Rp F v d) (h : keyOf d = some k) : v = kV k := by
  cases d with
  | int i => cases h; exact r.intV
  | str x => cases h; exact r.strV
  | _ => cases h
theorem keysOf_V {F : Hp} : ∀ {vs : List V} {ds : List D} {k : List Key}, RpA F vs ds → keysOf ds = some k → vs = k.map kV
  | _, _, _, .nil, h => by cases h; rfl
  | _, d :: ds, k, .cons r t, h => by
    unfold keysOf at h
    split at h
    · rename_i k1 ks e1 e2
      cases h
      rw [List.map_cons, keyOf_V r e1, keysOf_V t e2]
    · cases h
theorem keysOf_map : ∀ k : List Key, keysOf (k.map keyD) = some k
  | [] => rfl
  | .inl i :: ks => by rw [List.map_cons]; unfold keysOf; rw [keysOf_map ks]; rfl
  | .inr x :: ks => by rw [List.map_cons]; unfold keysOf; rw [keysOf_map ks]; rfl
theorem keyD_rp {F : Hp} : ∀ k : Key, Rp F (kV k) (keyD k)
  | .inl i => .int i
  | .inr x => .str x
theorem keysD_rp {F : Hp} : ∀ k : List Key, RpA F (k.map kV) (k.map keyD)
  | [] => .nil
  | k :: ks => .cons (keyD_rp k) (keysD_rp ks)
/-- a tuple that may be a key -/
def W.key (ρ : Env) (w : W) : Option (List Key) := match w.asD ρ with
  | some (.tuple ds) => keysOf ds
  | _ => none
theorem VRep.key {K : PySem.W.Frag} {H0 : Hp} {s : Sx} {v : V} {w : W} {k : List Key} (R : Rel K s) (r : VRep K H0 s v w) (h : w.key s.ρ = some k) : ∃ b, v = .ref b ∧ s.F b = some (.tup (k.map kV)) := by
  unfold W.key at h
  split at h
  · rename_i ds e
    obtain ⟨p, vs, rfl, hp, q⟩ := (r.data R e).tupI
    exact ⟨p, rfl, by rw [hp, keysOf_V q h]⟩
  · cases h
/-! ### what a dict holds -/
def valD (kvs : List (List Key × D)) (k : List Key) : Option D := (kvs.find? fun kv => decide (kv.1 = k)).map (·.2)
def putD (kvs : List (List Key × D)) (k : List Key) (d : D) : List (List Key × D) :=
  if (kvs.any fun kv => decide (kv.1 = k)) = true then kvs.map (fun kv => if kv.1 = k then (kv.1, d) else kv) else kvs ++ [(k, d)]
theorem KvR.val {F : Hp} {kws : List (List Key × V)} {kvs : List (List Key × D)} (r : KvR F kws kvs) (k : List Key) : (valV kws k = none ∧ valD kvs k = none) ∨ ∃ v d, valV kws k = some v ∧ valD kvs k = some d ∧ Rp F v d := by
  induction r with
  | nil => exact .inl ⟨rfl, rfl⟩
  | @cons p q l1 l2 h t ih =>
    unfold valV valD at ih ⊢
    rw [List.find?_cons, List.find?_cons, h.1]
    by_cases e : q.1 = k
    · rw [decide_eq_true e]
      exact .inr ⟨p.2, q.2, rfl, rfl, h.2⟩
    · rw [decide_eq_false e]
      exact ih
theorem KvR.any {F : Hp} {kws : List (List Key × V)} {kvs : List (List Key × D)} (r : KvR F kws kvs) (k : List Key) : (kws.any fun kv => decide (kv.1 = k)) = kvs.any fun kv => decide (kv.1 = k) := by
  induction r with
  | nil => rfl
  | cons h t ih => rw [List.any_cons, List.any_cons, ih, h.1]
theorem KvR.put {F : Hp} {kws : List (List Key × V)} {kvs : List (List Key × D)} (r : KvR F kws kvs) (k : List Key) {v : V} {d : D} (q : Rp F v d) : KvR F (putK kws k v) (putD kvs k d) := by
  unfold putK putD
  rw [r.any k]
  split
  · rename_i hh; clear hh
    induction r with
    | nil => exact .nil
    | @cons p p' l1 l2 h t ih =>
      rw [List.map_cons, List.map_cons]
      refine .cons ?_ ih
      rw [h.1]
      by_cases e : p'.1 = k
      · rw [if_pos e, if_pos e]
        exact ⟨rfl, q⟩
      · rw [if_neg e, if_neg e]
        exact h
  · rename_i hh; clear hh
    induction r with
    | nil => exact .cons ⟨rfl, q⟩ .nil
    | cons h t ih => exact .cons h ih
theorem KvR.length {F : Hp} {kws : List (List Key × V)} {kvs : List (List Key × D)} (r : KvR F kws kvs) : kws.length = kvs.length := Paired.length r
/-- the dict of one's own that a value is -/
def W.tab (ρ : Env) : W → Option (List (List Key × D))
  | .t kvs => some kvs
  | .c i => match ρ[i]? with
    | some (some (.t kvs)) => some kvs
    | _ => none
  | _ => none
theorem VRep.tab {K : PySem.W.Frag} {H0 : Hp} {s : Sx} {v : V} {w : W} {kvs : List (List Key × D)} (R : Rel K s) (r : VRep K H0 s v w) (h : w.tab s.ρ = some kvs) : ∃ p kws, v = .ref p ∧ s.H p = some (.dT kws) ∧ KvR s.F kws kvs := by
  cases w with
  | d x => cases h
  | l xs => cases h
  | t ys =>
    cases h
    obtain ⟨p, kws, e, q, q2, _⟩ := r
    exact ⟨p, kws, e, q, q2⟩
  | c i =>
    have r' : s.σ[i]? = some (some v) := r
    simp only [W.tab] at h
    split at h
    · rename_i ys hb
      cases h
      obtain ⟨v', hv, q⟩ := R.slot i _ hb
      rw [r'] at hv
      cases hv
      exact q
    · cases h
/-! x[y], y in x, y not in x -/
section
variable {X : Cx} {Γ : Cn} {Wx : WX}
def rIxTab : R2 := fun x y H Q => ∃ a v, x = .ref a ∧ DGet H a y (some v) ∧ Q v H
theorem ix_tab (hu : X.A.units + 1 < cLine) : IxR X rIxTab := by
  intro value slice pins s σ H x y v u Q I rx ry h hs
  obtain ⟨a, v', rfl, g, q⟩ := h
  obtain rfl : v = Value.ref a := rx
  exact tail_any (dict_typeIs I g) slot_dict_getitem.lookup (d_getItem hu I g ry fun w' s' I' rw' => ⟨v', H, I', rw', q⟩) hs
def gIxA (w1 w2 : W) : Env → Out W := fun ρ => match w1.tab ρ with
  | some kvs => (match w2.key ρ with
    | some k => (match valD kvs k with
      | some d => .ok (.d d) ρ
      | none => .st)
    | none => .st)
  | none => gIx w1 w2 ρ
theorem ok_ixA : Ok2 Γ Wx (fun x y H Q => rIx Γ.K x y H Q ∨ rIxTab x y H Q) gIxA := fun s v1 v2 w1 w2 H1 H2 Q R r1 r2 h => by
  unfold gIxA at h
  split at h
  · rename_i kvs e1
    split at h
    · rename_i k e2
      split at h
      · rename_i d e3
        obtain ⟨p, kws, rfl, hp, q⟩ := r1.tab R e1
        obtain ⟨b, rfl, hb⟩ := r2.key R e2
        rcases q.val k with ⟨_, z⟩ | ⟨v, d', z1, z2, z3⟩
        · rw [e3] at z; cases z
        · rw [e3] at z2
          cases z2
          have g := DGet.t hp (R.sub _ _ hb)
          rw [z1] at g
          exact .inr ⟨p, v, rfl, g, h.val R z3⟩
      · exact h.elim
    · exact h.elim
  · exact .inl (ok_ix s v1 v2 w1 w2 H1 H2 Q R r1 r2 h)
def rInTab : R2 := fun x y H Q => ∃ a o, y = .ref a ∧ DGet H a x o ∧ Q (.bl o.isSome) H
def rNotInTab : R2 := fun x y H Q => ∃ a o, y = .ref a ∧ DGet H a x o ∧ Q (.bl (!o.isSome)) H
theorem op_inTab (hu : X.A.units + 1 < cLine) : OpR X (compareOp .In) rInTab := by
  intro pins s σ H x y v u Q I rx ry h
  obtain ⟨a, o, rfl, g, q⟩ := h
  obtain rfl : u = Value.ref a := ry
  exact d_in hu I g rx fun s' I' => ⟨.bl o.isSome, H, I', rfl, q⟩
theorem op_notInTab (hu : X.A.units + 1 < cLine) : OpR X (compareOp .NotIn) rNotInTab := by
  intro pins s σ H x y v u Q I rx ry h
  obtain ⟨a, o, rfl, g, q⟩ := h
  obtain rfl : u = Value.ref a := ry
  exact d_notIn hu I g rx fun s' I' => ⟨.bl (!o.isSome), H, I', rfl, q⟩
def rInAll (K : PySem.W.Frag) : R2 := fun x y H Q => rInTab x y H Q ∨ rInD K x y H Q
def rNotInAll (K : PySem.W.Frag) : R2 := fun x y H Q => rNotInTab x y H Q ∨ rNotInD K x y H Q
theorem op_inAll (hu : X.A.units + 65 < cLine) : OpR X (compareOp .In) (rInAll X.K) := OpR.or (op_inTab (by omega)) (op_inD hu)
theorem op_notInAll (hu : X.A.units + 65 < cLine) : OpR X (compareOp .NotIn) (rNotInAll X.K) := OpR.or (op_notInTab (by omega)) (op_notInD hu)
def gInB (neg : Bool) (w1 w2 : W) : Env → Out W := fun ρ => match w2.tab ρ with
  | some kvs => (match w1.key ρ with
    | some k => .ok (.d (.bool (if neg then !(valD kvs k).isSome else (valD kvs k).isSome))) ρ
    | none => .st)
  | none => (match w1.toD ρ, w2.toD ρ with
    | some d, some (.list ds) => if SeqAt.shaped d = true ∧ SeqAt.shaped (.list ds) = true then .ok (.d (.bool (if neg then !(ds.any fun z => PyData.eqv z d) else ds.any fun z => PyData.eqv z d))) ρ else .st
    | _, _ => .st)
abbrev gIn := gInB false
abbrev gNotIn := gInB true
theorem in_get {s : Sx} {v1 v2 : V} {w1 w2 : W} {H1 H2 : Hp} {kvs : List (List Key × D)} {k : List Key} (R : Rel Γ.K s) (r1 : VRep Γ.K H1 s v1 w1) (r2 : VRep Γ.K H2 s v2 w2) (e1 : w2.tab s.ρ = some kvs) (e2 : w1.key s.ρ = some k) : ∃ a o, v2 = .ref a ∧ DGet s.H a v1 o ∧ o.isSome = (valD kvs k).isSome := by
  obtain ⟨p, kws, rfl, hp, q⟩ := r2.tab R e1
  obtain ⟨b, rfl, hb⟩ := r1.key R e2
  refine ⟨p, _, rfl, DGet.t hp (R.sub _ _ hb), ?_⟩
  rcases q.val k with ⟨z1, z2⟩ | ⟨v, d', z1, z2, z3⟩ <;> rw [z1, z2] <;> rfl
theorem ok_in : Ok2 Γ Wx (rInAll Γ.K) gIn := fun s v1 v2 w1 w2 H1 H2 Q R r1 r2 h => by
  unfold gIn gInB at h
  split at h
  · rename_i kvs e1
    split at h
    · rename_i k e2
      obtain ⟨a, o, rfl, g, z⟩ := in_get R r1 r2 e1 e2
      refine .inl ⟨a, o, rfl, g, ?_⟩
      rw [z]
      exact h.val R (.bl _)
    · exact h.elim
  · split at h
    · rename_i d ds e1 e2
      split at h
      · rename_i c
        exact .inr ⟨d, ds, r1.dp R e1 c.1, r2.dp R e2 c.2, c.1, c.2, h.val R (.bl _)⟩
      · exact h.elim
    · exact h.elim
theorem ok_notIn : Ok2 Γ Wx (rNotInAll Γ.K) gNotIn := fun s v1 v2 w1 w2 H1 H2 Q R r1 r2 h => by
  unfold gNotIn gInB at h
  split at h
  · rename_i kvs e1
    split at h
    · rename_i k e2
      obtain ⟨a, o, rfl, g, z⟩ := in_get R r1 r2 e1 e2
      refine .inl ⟨a, o, rfl, g, ?_⟩
      rw [z]
      exact h.val R (.bl _)
    · exact h.elim
  · split at h
    · rename_i d ds e1 e2
      split at h
      · rename_i c
        exact .inr ⟨d, ds, r1.dp R e1 c.1, r2.dp R e2 c.2, c.1, c.2, h.val R (.bl _)⟩
      · exact h.elim
    · exact h.elim
end
end TD
namespace TD
open PySem PySem.Spec PyProof.Rows L2
/-! ### a tuple of the heap whose items are known becomes known -/
theorem Rel.know {K : PySem.W.Frag} {np : Nat} {s : Sx} {b : Addr} {vs : List V} (R : Rel K s) (hb : s.H b = some (.tup vs)) :
    ∃ F', Rel K ⟨F', s.σ, s.H, s.ρ⟩ ∧ Step np s ⟨F', s.σ, s.H, s.ρ⟩ ∧ (∀ a u, s.F a = some u → F' a = some u) ∧ F' b = some (.tup vs) := by
  have fm : ∀ a u, s.F a = some u → upd s.F b (.tup vs) a = some u := fun a u e => by
    by_cases z : a = b
    · subst z
      have := R.sub a u e
      rw [hb] at this
      rw [upd_same]
      exact this
    · rw [upd_ne z]
      exact e
  refine ⟨upd s.F b (.tup vs), ⟨fun a u (e : upd s.F b (.tup vs) a = some u) => ?_, R.len, fun i x hx hb' => ?_, R.sep, fun i a c => ?_⟩, ⟨fun _ _ h _ => h, fun a o h n => ?_, fun _ o h => ⟨o, h⟩, fun _ h => .inl h, fun _ _ _ h => h, fun _ h => h, fun _ _ => rfl⟩, fm, upd_same⟩
  · by_cases z : a = b
    · subst z
      rw [upd_same] at e
      rw [← e]
      exact hb
    · rw [upd_ne z] at e
      exact R.sub a u e
  · obtain ⟨v, hv, q⟩ := R.slotX i x hx hb'
    exact ⟨v, hv, q.keep fm fun _ _ _ _ z => z⟩
  · show upd s.F b (.tup vs) a = none
    have z : a ≠ b := fun z => by
      subst z
      obtain ⟨o, h1, h2⟩ := R.cellT c
      rw [hb] at h1
      exact h2 vs (Option.some.inj h1).symm
    rw [upd_ne z]
    exact R.own i a c
  · show Fz s.F (upd s.F b (.tup vs)) a o
    by_cases z : a = b
    · subst z
      rw [hb] at h
      cases e : s.F a with
      | none => exact .inr ⟨e, vs, (Option.some.inj h).symm⟩
      | some u => exact .inl ((fm a u e).trans e.symm)
    · exact .inl (upd_ne z)
def keyT (k : List Key) : D := .tuple (k.map keyD)
theorem Rel.knowKeys {K : PySem.W.Frag} {np : Nat} : ∀ {bs : List Addr} {ks : List (List Key)} {s : Sx}, Rel K s → Paired (fun (k : List Key) b => s.H b = some (.tup (k.map kV))) ks bs →
    ∃ F', Rel K ⟨F', s.σ, s.H, s.ρ⟩ ∧ Step np s ⟨F', s.σ, s.H, s.ρ⟩ ∧ (∀ a u, s.F a = some u → F' a = some u) ∧ RpA F' (bs.map V.ref) (ks.map keyT)
  | _, _, s, R, .nil => ⟨s.F, R, Step.refl _, fun _ _ z => z, .nil⟩
  | _, _, s, R, @Paired.cons _ _ _ k b ks bs h t => by
    obtain ⟨F1, R1, S1, m1, e1⟩ := R.know (np := np) h
    obtain ⟨F2, R2, S2, m2, q⟩ := Rel.knowKeys (np := np) (s := ⟨F1, s.σ, s.H, s.ρ⟩) R1 t
    exact ⟨F2, R2, S1.trans S2, fun a u z => m2 a u (m1 a u z), .cons (.tup (m2 _ _ e1) (keysD_rp k)) q⟩
theorem isKeys_ks {H : Hp} {kvs : List (List Key × V)} {bs : List Addr} (h : IsKeys H kvs bs) : Paired (fun (k : List Key) b => H b = some (.tup (k.map kV))) (kvs.map (·.1)) bs := by
  induction h with
  | nil => exact .nil
  | cons h t ih => exact .cons h ih
theorem KvR.keys {F : Hp} {kws : List (List Key × V)} {kvs : List (List Key × D)} (r : KvR F kws kvs) : kws.map (·.1) = kvs.map (·.1) := by
  induction r with
  | nil => rfl
  | cons h t ih => rw [List.map_cons, List.map_cons, ih, h.1]
/-! ### list(d) -/
section
variable {X : Cx} {Γ : Cn} {Wx : WX}
def rListTab : List V → Hp → VK → Prop := fun xs H Q => ∃ d kvs, xs = [V.ref d] ∧ Rd H d (.dT kvs) ∧ ∀ p bs, H p = none → IsKeys H kvs bs → Q (.ref p) (upd H p (.lst (bs.map V.ref)))
def rListAll (K : PySem.W.Frag) : List V → Hp → VK → Prop := fun xs H Q => (∃ p ys, xs = [.ref p] ∧ (SqL K H p ys ∨ SqT K H p ys) ∧ ∀ l, H l = none → Q (.ref l) (upd H l (.lst ys))) ∨ rListTab xs H Q
theorem cr_listAll (hc : X.calm = true) : CallR X (.type "list") (rListAll X.K) := CallR.or call_list_of (call_list_dT hc)
def gListA (ws : List W) : Env → Out W := fun ρ => match ws with
  | [w] => (match w.tab ρ with
    | some kvs => .ok (.l (kvs.map fun kv => keyT kv.1)) ρ
    | none => gList [w] ρ)
  | _ => .st
theorem ok_listA : OkC Γ Wx (rListAll Γ.K) gListA := fun s vs ws s0 Q R hσ S r h => by
  unfold gListA at h
  obtain ⟨w, rfl, h9⟩ := one_inv (P := fun o => Post Γ Wx s0 o Q) h fun z => z
  clear h
  split at h9
  · rename_i kvs e1
    obtain ⟨v, rfl, r1⟩ := r.oneR
    obtain ⟨p, kws, rfl, hp, q⟩ := r1.tab R e1
    refine .inr ⟨p, kws, rfl, .inl hp, fun l bs hl hk => ?_⟩
    obtain ⟨F1, R1, S1, m1, q1⟩ := R.knowKeys (np := Γ.np) (isKeys_ks hk)
    rw [q.keys] at q1
    have e2 : (kvs.map (·.1)).map keyT = kvs.map fun kv => keyT kv.1 := by rw [List.map_map]; rfl
    rw [e2] at q1
    obtain ⟨F0, σ0, H0, ρ0⟩ := s0
    cases hσ
    have h' : Post Γ Wx ⟨F1, s.σ, s.H, s.ρ⟩ (.ok (.l (kvs.map fun kv => keyT kv.1)) s.ρ) Q := Post.step (S.trans S1) rfl h9
    exact h'.lst R1 q1 hl
  · exact .inl (ok_list s vs [w] s0 Q R hσ S r h9)
end
end TD
namespace TD
open PySem PySem.Spec PyProof.Rows L2
/-! ### sorted: data of one form -/
structure SrtOk (ds : List D) : Prop where
  al : PySem.W.AllAlike ds
  so : PySem.W.Sortable ds
  lay : PyData.canLayAll0 ds = true
  dep : ∀ d ∈ ds, d.depth ≤ 60
  len : ds.length ≤ 100000
def srtD (ds : List D) : List D := ds.mergeSort (PySem.W.dataLe false id)
abbrev leP : V × D → V × D → Bool := PySem.W.dataLe false Prod.snd
theorem srt_snd (zs : List (V × D)) : (zs.mergeSort leP).map Prod.snd = srtD (zs.map Prod.snd) := List.map_mergeSort fun _ _ _ _ => rfl
theorem each_vals {vs : List V} {us : List Value} {ds : List D} (r : Vals vs us) (hl : vs.length = ds.length) : PySem.W.EachIs (fun (v : Value) (b : V × D) => RelV b.1 v) us (vs.zip ds) := by
  induction r generalizing ds with
  | nil => exact .nil
  | cons h t ih =>
    cases ds with
    | nil => simp at hl
    | cons d ds => exact .cons h (ih (by simpa using hl))
theorem vals_each {zs : List (V × D)} {us : List Value} (e : PySem.W.EachIs (fun (v : Value) (b : V × D) => RelV b.1 v) us zs) : Vals (zs.map Prod.fst) us := by
  induction e with
  | nil => exact .nil
  | cons h t ih => exact .cons h ih
theorem each_reads {h : Heap} : ∀ {us : List Value} {ds : List D} {vs : List V} {as : List Addr}, ReadsAll h us ds as → vs.length = ds.length → PySem.W.EachIs (fun v (b : V × D) => ∃ as, Reads h v b.2 as) us (vs.zip ds)
  | _, [], [], _, r, _ => by cases r; exact .nil
  | _, d :: ds, v :: vs, _, r, hl => by
    cases r with
    | cons r1 r2 => exact .cons ⟨_, r1⟩ (each_reads r2 (by simpa using hl))
  | _, [], _ :: _, _, _, hl => by simp at hl
  | _, _ :: _, [], _, _, hl => by simp at hl
theorem zip_rp {F : Hp} : ∀ {vs : List V} {ds : List D}, RpA F vs ds → ∀ z ∈ vs.zip ds, Rp F z.1 z.2
  | _, _, .nil, z, hz => by simp at hz
  | _, _, .cons r t, z, hz => by
    rw [List.zip_cons_cons, List.mem_cons] at hz
    rcases hz with rfl | hz
    · exact r
    · exact zip_rp t z hz
theorem rp_zip {F : Hp} : ∀ {zs : List (V × D)}, (∀ z ∈ zs, Rp F z.1 z.2) → RpA F (zs.map Prod.fst) (zs.map Prod.snd)
  | [], _ => .nil
  | z :: zs, h => .cons (h z List.mem_cons_self) (rp_zip fun y hy => h y (List.mem_cons_of_mem _ hy))
section
variable {X : Cx} {Γ : Cn} {Wx : WX}
def rSrtL (K : PySem.W.Frag) : List V → Hp → VK → Prop := fun xs H Q => ∃ p vs ds, xs = [.ref p] ∧ SqL K H p vs ∧ vs.length = ds.length ∧ DpAll K H vs ds ∧ SrtOk ds ∧
  ∀ q, H q = none → Q (.ref q) (upd H q (.lst (((vs.zip ds).mergeSort leP).map Prod.fst)))
theorem cr_srtL (hu : X.A.units + 65 < cLine) : CallR X (.builtin "sorted") (rSrtL X.K) := by
  intro pins s σ H xs us Q I r h
  obtain ⟨p, vs, ds, rfl, hq, hl, hd, ok, q⟩ := h
  obtain ⟨u, rfl, rx⟩ := r.one
  cases rx
  obtain ⟨its, rv, pl, hz⟩ := I.list hq
  obtain ⟨as, hr⟩ := Dp.readsAll I ds vs its hd rv
  have hm : (vs.zip ds).map Prod.snd = ds := List.map_snd_zip (by omega)
  have hzl : (vs.zip ds).length = ds.length := by rw [List.length_zip]; omega
  refine PySem.W.sorted_data (vs := its) (bs := vs.zip ds) (enc := Prod.snd) (R := fun v b => RelV b.1 v) pl.isList (each_vals rv hl) (each_reads hr hl) (by rw [hm]; exact ok.al) (by rw [hm]; exact ok.so) (by rw [hzl]; exact sz5 ok.len) (fun b hb => ?_) fun out ho eo => ?_
  · have := ok.dep b.2 (by rw [← hm]; exact List.mem_map.mpr ⟨b, hb, rfl⟩)
    omega
  · obtain ⟨c, hc⟩ := sortedAll_at s.heap its out.toArray
    refine ⟨.ref (s.heap.objs.size + 1), upd H (s.heap.objs.size + 1) (.lst (((vs.zip ds).mergeSort leP).map Prod.fst)), I.laid (t' := s.toks) (fun b u e => sortedAll_old e) (Nat.le_succ _)
      (show ObjOk X.prog X.w _ _ _ (.lst _) from ⟨?_, out, c, vals_each eo, hc⟩), rfl, q _ (I.hok.fresh (Nat.le_succ _))⟩
    rw [List.length_map, List.length_mergeSort, hzl]
    exact sz5 ok.len
/-! a dict's keys -/
theorem keyRead {h : Heap} : ∀ {k : List Key} {us : List Value}, Vals (k.map kV) us → ReadsAll h us (k.map keyD) []
  | [], _, r => by cases r; exact .nil
  | .inl i :: k, _, r => by
    cases r with
    | cons h1 t =>
      obtain ⟨t1, rfl⟩ := h1
      exact .cons (as := []) (.int i t1) (keyRead t)
  | .inr i :: k, _, r => by
    cases r with
    | cons h1 t =>
      obtain ⟨t1, rfl⟩ := h1
      exact .cons (as := []) (.str i t1) (keyRead t)
theorem keyReads {P : Program} {w : World} {H : Hp} {h : Heap} (ok : HOk P w H h) {k : List Key} {b : Addr} (hb : H b = some (.tup (k.map kV))) : Reads h (.ref b) (keyT k) [] := by
  obtain ⟨_, its, rv, o, h1, h2, n, h3⟩ := (show ObjOk P w H h b (.tup (k.map kV)) from ok b _ hb)
  exact .tuple h1 h2 h3 (by simpa using keyRead rv)
theorem each_keys' {H : Hp} {P : Program} {w : World} {h : Heap} (ok : HOk P w H h) : ∀ {ks : List (List Key)} {bs : List Addr}, Paired (fun (k : List Key) b => H b = some (.tup (k.map kV))) ks bs →
    PySem.W.EachIs (fun (v : Value) (z : V × D) => RelV z.1 v) (bs.map Value.ref) ((bs.map V.ref).zip (ks.map keyT)) ∧ PySem.W.EachIs (fun (v : Value) (z : V × D) => Reads h v z.2 []) (bs.map Value.ref) ((bs.map V.ref).zip (ks.map keyT))
  | _, _, .nil => ⟨.nil, .nil⟩
  | _, _, .cons e t => by
    obtain ⟨h1, h2⟩ := each_keys' ok t
    exact ⟨.cons rfl h1, .cons (keyReads ok e) h2⟩
def rSrtT : List V → Hp → VK → Prop := fun xs H Q => ∃ d kvs, xs = [V.ref d] ∧ Rd H d (.dT kvs) ∧ SrtOk (kvs.map fun kv => keyT kv.1) ∧
  ∀ q bs, H q = none → IsKeys H kvs bs → Q (.ref q) (upd H q (.lst ((((bs.map V.ref).zip (kvs.map fun kv => keyT kv.1)).mergeSort leP).map Prod.fst)))
theorem cr_srtT (hc : X.calm = true) (hu : X.A.units + 65 < cLine) : CallR X (.builtin "sorted") rSrtT := by
  intro pins s σ H xs us Q I r h
  obtain ⟨d, kvs, rfl, hd, ok, q⟩ := h
  obtain ⟨u, rfl, rx⟩ := r.one
  cases rx
  obtain ⟨z, hs, ks, pr, o, es, ep, ho, hx, hdt, he, hn⟩ := (show ObjOk X.prog X.w H s.heap d (.dT kvs) from hd.ok I.hok)
  have l1 : es.size = ks.length := size_of_entries he
  have l2 : kvs.length = ks.length := Paired.length pr
  refine Calls.call_function_entry PyProof.Rows.kind_sorted PyProof.Rows.plain_sorted PyProof.Rows.entry_sorted (PyProof.Rows.args_sorted1 _) ?_
  unfold Builtin.«sorted»
  refine wpAny_bind (m := checkCount "sorted" 1 1 _) (wpAny_pure ?_)
  refine wpAny_bind (PySem.W.kdu_collect (A := X.A.in1) (kdl_raw hs hx hdt) (I.ok.hd hc) ho (by omega) fun h' tk acc' kp it => ?_)
  have ea : acc'.toList = (ks.map fun x => x.2.1).map Value.ref := by
    have hl : acc'.toList.length = ks.length := by rw [Array.length_toList, it.1]; exact l1
    rw [List.map_map]
    apply List.ext_getElem?
    intro j
    rw [List.getElem?_map]
    cases hj : acc'.toList[j]? with
    | none =>
      have h1 := List.getElem?_eq_none_iff.mp hj
      rw [List.getElem?_eq_none (by omega)]
      all_goals rfl
    | some v =>
      obtain ⟨en, hen, hv⟩ := it.2 j v (by rw [← Array.getElem?_toList]; exact hj)
      have qe := entry_at he j
      rw [hen] at qe
      cases hb : ks[j]? with
      | none =>
        rw [hb] at qe
        exact nomatch (show some en = none from qe)
      | some b =>
        rw [hb] at qe
        have e2 : en = entryOfKey (tupleKind (mixKind X.prog X.w)) b := Option.some.inj qe
        rw [hv, e2]
        all_goals rfl
  have ik : IsKeys H kvs (ks.map fun x => x.2.1) := isKeys_of pr
  generalize (ks.map fun x => x.2.1) = bs at ea ik
  have I1 : Inv X pins σ H { s with heap := h', toks := tk } := I.kept kp
  have hbl : bs.length = kvs.length := (Paired.length ik).symm
  have hkm : (kvs.map (·.1)).map keyT = kvs.map fun kv => keyT kv.1 := by rw [List.map_map]; rfl
  have hzs : bs.length ≤ sizeLine := by omega
  refine wpAny_bind (wpAny_newList ?_ (by rw [ea, List.length_map]; exact hzs))
  have hoL : (h'.push (seqObj "list" acc'.toList.toArray 0)).get? h'.objs.size = some (seqObj "list" acc'.toList.toArray 0) := Heap.get?_push_size _ rfl
  show wpAny _ _ _ _ _ { s with heap := h'.push (seqObj "list" acc'.toList.toArray 0), toks := tk }
  rw [ea] at hoL ⊢
  have I2 : Inv X pins σ H { s with heap := h'.push (seqObj "list" (bs.map Value.ref).toArray 0), toks := tk } := I1.kept (t' := tk) fun b o e => Heap.get?_push_of_some _ e
  obtain ⟨e1, e2⟩ := each_keys' I2.hok (isKeys_ks ik)
  rw [hkm] at e1 e2
  have hm : ((bs.map V.ref).zip (kvs.map fun kv => keyT kv.1)).map Prod.snd = kvs.map fun kv => keyT kv.1 := List.map_snd_zip (by simp; omega)
  have hzl : ((bs.map V.ref).zip (kvs.map fun kv => keyT kv.1)).length = kvs.length := by simp; omega
  have hlen := ok.len
  rw [List.length_map] at hlen
  refine wpAny_bind (wpAny_holding (PySem.W.list_sort_data (s := { s with heap := h'.push (seqObj "list" (bs.map Value.ref).toArray 0), toks := tk }) (vs := bs.map Value.ref) (enc := Prod.snd) (R := fun v b => RelV b.1 v) hoL e1 (e2.mono fun v b r => ⟨[], r, by simp⟩) (by rw [hm]; exact ok.al) (by rw [hm]; exact ok.so) (by rw [hzl]; exact sz5 hlen) (fun b hb => ?_) fun out hout eo => ?_))
  · have := ok.dep b.2 (by rw [← hm]; exact List.mem_map.mpr ⟨b, hb, rfl⟩)
    show X.A.units + 1 + 1 + b.2.depth < cLine
    omega
  · obtain ⟨c', hc'⟩ := PyProof.Rows.sortedHeap_at (vs := bs.map Value.ref) (out := out.toArray) hoL
    refine wpAny_pure ⟨_, rfl, .ref h'.objs.size, upd H h'.objs.size (.lst ((((bs.map V.ref).zip (kvs.map fun kv => keyT kv.1)).mergeSort leP).map Prod.fst)), I1.laid (t' := tk) (fun b u e => ?_) (Nat.le_refl _)
      (show ObjOk X.prog X.w _ _ _ (.lst _) from ⟨?_, out, c', vals_each eo, hc'⟩), rfl, q _ bs (I1.hok.fresh (Nat.le_refl _)) ik⟩
    · have hb : b < h'.objs.size := Heap.lt_size e
      rw [PyProof.Rows.sortedHeap_old (Nat.ne_of_lt hb) (by rw [size_push']; exact Nat.lt_succ_of_lt hb)]
      exact Heap.get?_push_of_some _ e
    · rw [List.length_map, List.length_mergeSort, hzl]
      exact sz5 hlen
/-! sorted(x) -/
open Classical in
noncomputable def gSorted (ws : List W) : Env → Out W := fun ρ => match ws with
  | [w] => (match w.tab ρ with
    | some kvs => if SrtOk (kvs.map fun kv => keyT kv.1) then .ok (.l (srtD (kvs.map fun kv => keyT kv.1))) ρ else .st
    | none => (match w.lst ρ with
      | some xs => if SrtOk xs then .ok (.l (srtD xs)) ρ else .st
      | none => .st))
  | _ => .st
def rSorted2 (K : PySem.W.Frag) : List V → Hp → VK → Prop := fun xs H Q => rSrtL K xs H Q ∨ rSrtT xs H Q
theorem cr_sortedD (hc : X.calm = true) (hu : X.A.units + 65 < cLine) : CallR X (.builtin "sorted") (rSorted2 X.K) := CallR.or (cr_srtL hu) (cr_srtT hc hu)
theorem RpA.sorted {F : Hp} {vs : List V} {ds : List D} (r : RpA F vs ds) : RpA F (((vs.zip ds).mergeSort leP).map Prod.fst) (srtD ds) := by
  have h1 := rp_zip (F := F) (zs := (vs.zip ds).mergeSort leP) fun z hz => zip_rp r z ((List.mergeSort_perm _ _).mem_iff.mp hz)
  rw [srt_snd, List.map_snd_zip (by rw [r.length]; exact Nat.le_refl _)] at h1
  exact h1
theorem ok_sorted : OkC Γ Wx (rSorted2 Γ.K) gSorted := fun s vs ws s0 Q R hσ S r h => by
  unfold gSorted at h
  obtain ⟨w, rfl, h9⟩ := one_inv (P := fun o => Post Γ Wx s0 o Q) h fun z => z
  clear h
  obtain ⟨v, rfl, r1⟩ := r.oneR
  split at h9
  · rename_i kvs e1
    split at h9
    · rename_i ok
      obtain ⟨p, kws, rfl, hp, q⟩ := r1.tab R e1
      have ek : kws.map (fun kv => keyT kv.1) = kvs.map fun kv => keyT kv.1 := by
        have := congrArg (List.map keyT) q.keys
        rw [List.map_map, List.map_map] at this
        exact this
      refine .inr ⟨p, kws, rfl, .inl hp, by rw [ek]; exact ok, fun l bs hl hk => ?_⟩
      obtain ⟨F1, R1, S1, m1, q1⟩ := R.knowKeys (np := Γ.np) (isKeys_ks hk)
      rw [q.keys, List.map_map] at q1
      rw [ek]
      obtain ⟨F0, σ0, H0, ρ0⟩ := s0
      cases hσ
      have h' : Post Γ Wx ⟨F1, s.σ, s.H, s.ρ⟩ (.ok (.l (srtD (kvs.map fun kv => keyT kv.1))) s.ρ) Q := Post.step (S.trans S1) rfl h9
      exact h'.lst R1 (RpA.sorted q1) hl
    · exact h9.elim
  · split at h9
    · rename_i xs e1
      split at h9
      · rename_i ok
        obtain ⟨p, us, rfl, hp, q⟩ := r1.lst R e1
        obtain ⟨F0, σ0, H0, ρ0⟩ := s0
        cases hσ
        have h' : Post Γ Wx s (.ok (.l (srtD xs)) s.ρ) Q := Post.step S rfl h9
        exact .inl ⟨p, us, xs, rfl, hp, q.length, q.dp R.sub ok.lay, ok, fun l hl => h'.lst R q.sorted hl⟩
      · exact h9.elim
    · exact h9.elim
end
end TD
namespace TD
open PySem PySem.Spec PyProof.Rows L2
/-! ### a dict of one's own is changed in its place -/
theorem Rel.writeT {K : PySem.W.Frag} {np : Nat} {s0 s : Sx} {i : Nat} {a : Addr} {xs xs' : List (List Key × D)} {vs' : List (List Key × V)} (R : Rel K s) (S : Step np s0 s) (hσ : s.σ[i]? = some (some (.ref a))) (hb : s.ρ[i]? = some (some (.t xs))) (r : KvR s.F vs' xs') :
    Rel K ⟨s.F, s.σ, upd s.H a (.dT vs'), s.ρ.set i (some (.t xs'))⟩ ∧ Step np s0 ⟨s.F, s.σ, upd s.H a (.dT vs'), s.ρ.set i (some (.t xs'))⟩ := by
  have c0 : CellAt s i a := ⟨hσ, _, hb, rfl⟩
  have hF : s.F a = none := R.own i a c0
  have hi : i < s.ρ.length := (List.getElem?_eq_some_iff.mp hb).1
  have cc : ∀ {j b}, CellAt ⟨s.F, s.σ, upd s.H a (.dT vs'), s.ρ.set i (some (.t xs'))⟩ j b → CellAt s j b := fun {j b} ⟨h1, b', h2, h3⟩ => by
    rcases getElem?_set_cases h2 with ⟨hj, h4⟩ | ⟨hj, h4⟩
    · subst hj
      have h1' : s.σ[j]? = some (some (.ref b)) := h1
      rw [hσ] at h1'
      cases h1'
      exact c0
    · exact ⟨h1, b', h4, h3⟩
  have ne : ∀ b o, s.F b = some o → b ≠ a := fun b o e => ne_of_none e hF
  refine ⟨⟨fun b o (e : s.F b = some o) => ?_, by simp [R.len], fun j b hj hx => ?_, fun j k b c1 c2 => R.sep j k b (cc c1) (cc c2), fun j b c => R.own j b (cc c)⟩, S.trans ⟨fun b o h n => ?_, fun _ _ _ _ => .inl rfl, fun b o h => ?_, fun b ⟨j, c⟩ => .inl ⟨j, cc c⟩, fun j b hj l => ?_, fun j h => set_stay h, fun _ _ => rfl⟩⟩
  · show upd s.H a (.dT vs') b = some o
    rw [upd_ne (ne b o e)]
    exact R.sub b o e
  · rcases getElem?_set_cases hj with ⟨e1, e2⟩ | ⟨e1, e2⟩
    · subst e1
      cases e2
      exact ⟨.ref a, hσ, a, vs', rfl, upd_same, r⟩
    · obtain ⟨v, hv, q⟩ := R.slotX j b e2 hx
      refine ⟨v, hv, q.keep (fun _ _ z => z) fun p hc hp o ho => ?_⟩
      have : p ≠ a := fun z => by
        subst z
        exact e1 (R.sep j i p ⟨by rw [hv, hp], b, e2, hc⟩ c0)
      show upd s.H a (.dT vs') p = some o
      rw [upd_ne this]
      exact ho
  · have : b ≠ a := fun z => n ⟨i, z ▸ c0⟩
    show upd s.H a (.dT vs') b = some o
    rw [upd_ne this]
    exact h
  · by_cases z : b = a
    · subst z
      exact ⟨_, upd_same⟩
    · exact ⟨o, by show upd s.H a (.dT vs') b = some o; rw [upd_ne z]; exact h⟩
  · obtain ⟨h1, b', h2, h3⟩ := l
    by_cases z : j = i
    · subst z
      exact ⟨h1, .t xs', List.getElem?_set_self hi, rfl⟩
    · exact ⟨h1, b', by show (s.ρ.set i (some (.t xs')))[j]? = _; rw [List.getElem?_set_ne (Ne.symm z)]; exact h2, h3⟩
/-! x[y] = v -/
section
variable {X : Cx} {Γ : Cn} {Wx : WX} {o i e : Expr} {fo fi fv : Mx W} {pos tpos : Pos}
theorem PSet.or {t t' : TSet} (h : PSet X t) (h' : PSet X t') : PSet X (fun o i v H Q => t o i v H Q ∨ t' o i v H Q) := by
  intro pins s σ H o i v ov iv u Q I r1 r2 r3 q
  rcases q with q | q
  · exact h pins s σ H o i v ov iv u Q I r1 r2 r3 q
  · exact h' pins s σ H o i v ov iv u Q I r1 r2 r3 q
def rPut : TSet := fun o i v H Q => rSetL o i v H Q ∨ rSetD o i v H Q
theorem set_put (hu : X.A.units + 1 < cLine) : PSet X rPut := PSet.or set_list (set_dict hu)
/-- at slot j, at the index w, the value wv is stored -/
def gPut (wo wi wv : W) (ρ : Env) : Option Env := match wo with
  | .c j => (match wi.key ρ, wi.asD ρ, wv.datum ρ with
    | some k, _, some (d, ρ1) => (match ρ1[j]? with
      | some (some (.t kvs)) => if kvs.length + 1 ≤ 100000 then some (ρ1.set j (some (.t (putD kvs k d)))) else none
      | _ => none)
    | none, some (.int k), some (d, ρ1) => (match ρ1[j]? with
      | some (some (.l xs)) => (match ixN xs.length k with
        | some m => some (ρ1.set j (some (.l (xs.set m d))))
        | none => none)
      | _ => none)
    | _, _, _ => none)
  | _ => none
def sPut (fo fi fv : Mx W) : Mx Fl := bnd fv fun wv => bnd fo fun wo => bnd fi fun wi ρ => match gPut wo wi wv ρ with
  | some ρ' => .ok .nx ρ'
  | none => .st
theorem put_of {s0 s : Sx} {vo vi vv : V} {wo wi wv : W} {ρ' : Env} {H1 H2 : Hp} {Q : Hp → Prop} (R : Rel Γ.K s) (S : Step Γ.np s0 s) (ro : VRep Γ.K H1 s vo wo) (ri : VRep Γ.K H2 s vi wi) (rv : VRep Γ.K s0.H s vv wv) (h : gPut wo wi wv s.ρ = some ρ')
    (hQ : ∀ F' H', Rel Γ.K ⟨F', s.σ, H', ρ'⟩ → Step Γ.np s0 ⟨F', s.σ, H', ρ'⟩ → Q H') : rPut vo vi vv s.H Q := by
  unfold gPut at h
  split at h
  · rename_i j
    have ro' : s.σ[j]? = some (some vo) := ro
    split at h
    · rename_i k d ρ1 e1 e3
      split at h
      · rename_i kvs hb
        split at h
        · rename_i hl
          cases h
          obtain ⟨b, rfl, hb1⟩ := ri.key R e1
          obtain ⟨F1, R1, S1, q1, m1, _⟩ := datum_ok R S rv e3
          obtain ⟨v', hv', p, kws, ep, hp, q⟩ := R1.slot j _ hb
          have hv' : s.σ[j]? = some (some v') := hv'
          rw [ro'] at hv'
          cases hv'
          subst ep
          have hln : kws.length < sizeLine := by
            have := sz5 hl
            rw [q.length]
            omega
          obtain ⟨R2, S2⟩ := R1.writeT S1 ro' hb (q.put k q1)
          exact .inr ⟨p, _, rfl, DPut.t hp (R.sub _ _ hb1) hln, hQ _ _ R2 S2⟩
        · cases h
      · cases h
    · rename_i k d ρ1 e1 e2 e3
      split at h
      · rename_i xs hb
        split at h
        · rename_i m hm
          cases h
          obtain ⟨F1, R1, S1, q1, m1, _⟩ := datum_ok R S rv e3
          obtain ⟨p, us, rfl, hp, q⟩ := R1.cellL (i := j) ro' hb
          obtain ⟨R2, S2⟩ := R1.write S1 ro' hb (q.set q1 m)
          refine .inl ⟨p, us, k, m, rfl, (ri.data R e2).intV, hp, by rw [q.length]; exact hm, hQ _ _ R2 S2⟩
        · cases h
      · cases h
    · cases h
  · cases h
theorem postsv_from {s0 s : Sx} {Dn : Ends} {f : Mx W} {k : W → Mx Fl} {K : V → Hp → Prop} (S : Step Γ.np s0 s) (h : PostS Γ Wx s0 (bnd f k s.ρ) Dn)
    (hk : ∀ v w F1 H1 ρ1, Rel Γ.K ⟨F1, s.σ, H1, ρ1⟩ → Step Γ.np s ⟨F1, s.σ, H1, ρ1⟩ → VRep Γ.K s.H ⟨F1, s.σ, H1, ρ1⟩ v w → PostS Γ Wx s0 (k w ρ1) Dn → K v H1) : Post Γ Wx s (f s.ρ) K := by
  unfold bnd at h
  cases e : f s.ρ with
  | ok w ρ1 =>
    rw [e] at h
    exact fun v F1 H1 R1 S1 r => hk v w F1 H1 ρ1 R1 S1 r h
  | er c ρ1 => rw [e] at h; exact fun F' H' C hC R' S' => h F' s.σ H' C hC R' (S.trans S')
  | st => rw [e] at h; exact h
theorem ds_put (hu : X.A.units + 1 < cLine) (ho : DE X Γ Wx o fo) (hi : DE X Γ Wx i fi) (hv : DE X Γ Wx e fv)
    (ha : ∀ v, assign (.Subscript o i tpos) X.env v = (do
      let ov ← holding [v] (eval o X.env)
      let iv ← holding [v, ov] (eval i X.env)
      standAt tpos
      holding [v, ov, iv] (setItem ov iv v)
      release [v, ov, iv] []) := by intro _; rfl)
    (hs : swapsWithSole [.Subscript o i tpos] e pos.line X.env = pure false := by rfl) (hw : swappedStores [.Subscript o i tpos] e X.env = pure none := by rfl)
    (h1 : (assignEach [.Subscript o i tpos] X.env).map (·.2) = [assign (.Subscript o i tpos) X.env] := by rfl) : DS X Γ Wx (.Assign [.Subscript o i tpos] e pos) (sPut fo fi fv) :=
  PS.imp (ps_asg hv (pg_sub ho hi (set_put hu) ha) hs hw h1) fun Dn σ H ⟨F, ρ, R, h⟩ => ⟨F, ρ, R, postsv_from (s0 := ⟨F, σ, H, ρ⟩) (s := ⟨F, σ, H, ρ⟩) (Step.refl _) h fun v w F1 H1 ρ1 R1 S1 r1 h1 =>
    ⟨F1, ρ1, R1, postsv_from (s0 := ⟨F, σ, H, ρ⟩) (s := ⟨F1, σ, H1, ρ1⟩) S1 h1 fun v2 w2 F2 H2 ρ2 R2 S2 r2 h2 =>
    ⟨F2, ρ2, R2, postsv_from (s0 := ⟨F, σ, H, ρ⟩) (s := ⟨F2, σ, H2, ρ2⟩) (S1.trans S2) h2 fun v3 w3 F3 H3 ρ3 R3 S3 r3 h3 => by
      cases e1 : gPut w2 w3 w ρ3 with
      | none => rw [e1] at h3; exact h3.elim
      | some ρ' =>
        rw [e1] at h3
        have S13 : Step Γ.np ⟨F, σ, H, ρ⟩ ⟨F3, σ, H3, ρ3⟩ := (S1.trans S2).trans S3
        exact put_of (s0 := ⟨F, σ, H, ρ⟩) (s := ⟨F3, σ, H3, ρ3⟩) R3 S13 (VRep.held (s := ⟨F2, σ, H2, ρ2⟩) R2 S3 rfl r2) r3 (VRep.held (s := ⟨F2, σ, H2, ρ2⟩) R2 S3 rfl (VRep.held (s := ⟨F1, σ, H1, ρ1⟩) R1 S2 rfl r1)) e1 fun F' H' R' S' => h3 F' σ H' R' S'⟩⟩⟩
end
end TD
namespace TD
open PySem PySem.Spec PyProof.Rows L2
/-! ### sum, max, min of a tuple of numbers -/
theorem fold_max : ∀ (ns : List Int) (n : Int), n ≤ ns.foldl max n ∧ (∀ y ∈ ns, y ≤ ns.foldl max n) ∧ (ns.foldl max n = n ∨ ns.foldl max n ∈ ns)
  | [], n => ⟨Int.le_refl _, fun y hy => by simp at hy, .inl rfl⟩
  | m :: ns, n => by
    obtain ⟨h1, h2, h3⟩ := fold_max ns (max n m)
    refine ⟨Int.le_trans (Int.le_max_left n m) h1, fun y hy => ?_, ?_⟩
    · rcases List.mem_cons.mp hy with rfl | hy
      · exact Int.le_trans (Int.le_max_right n y) h1
      · exact h2 y hy
    · rcases h3 with h3 | h3
      · show ns.foldl max (max n m) = n ∨ ns.foldl max (max n m) ∈ m :: ns
        rw [h3]
        by_cases z : n ≤ m
        · rw [Int.max_eq_right z]; exact .inr List.mem_cons_self
        · rw [Int.max_eq_left (by omega)]; exact .inl rfl
      · exact .inr (List.mem_cons_of_mem _ h3)
theorem fold_min : ∀ (ns : List Int) (n : Int), ns.foldl min n ≤ n ∧ (∀ y ∈ ns, ns.foldl min n ≤ y) ∧ (ns.foldl min n = n ∨ ns.foldl min n ∈ ns)
  | [], n => ⟨Int.le_refl _, fun y hy => by simp at hy, .inl rfl⟩
  | m :: ns, n => by
    obtain ⟨h1, h2, h3⟩ := fold_min ns (min n m)
    refine ⟨Int.le_trans h1 (Int.min_le_left n m), fun y hy => ?_, ?_⟩
    · rcases List.mem_cons.mp hy with rfl | hy
      · exact Int.le_trans h1 (Int.min_le_right n y)
      · exact h2 y hy
    · rcases h3 with h3 | h3
      · show ns.foldl min (min n m) = n ∨ ns.foldl min (min n m) ∈ m :: ns
        rw [h3]
        by_cases z : n ≤ m
        · rw [Int.min_eq_left z]; exact .inl rfl
        · rw [Int.min_eq_right (by omega)]; exact .inr List.mem_cons_self
      · exact .inr (List.mem_cons_of_mem _ h3)
theorem ints_reads {h : Heap} : ∀ {us : List Value} {ns : List Int}, Vals (ns.map V.int) us → ReadsAll h us (ns.map PyData.int) []
  | [], [], _ => .nil
  | _, [], r => by rw [List.map_nil] at r; cases r; exact .nil
  | _, n :: ns, r => by
    rw [List.map_cons] at r
    cases r with
    | cons h1 t =>
      obtain ⟨t1, rfl⟩ := h1
      exact .cons (as := []) (.int n t1) (ints_reads t)
theorem ints_alike (ns : List Int) : PySem.W.AlikeAll (ns.map PyData.int) := by
  refine ⟨fun x hx y hy => ?_, fun x hx => ?_⟩
  · obtain ⟨i, _, rfl⟩ := List.mem_map.mp hx
    obtain ⟨j, _, rfl⟩ := List.mem_map.mp hy
    rfl
  · obtain ⟨i, _, rfl⟩ := List.mem_map.mp hx
    exact nofun
theorem ints_depth : ∀ ns : List Int, PyData.depthAll (ns.map PyData.int) = 0
  | [] => rfl
  | n :: ns => by rw [List.map_cons]; simp [PyData.depthAll, PyData.depth, ints_depth ns]
section
variable {X : Cx} {Γ : Cn} {Wx : WX}
def rSumT (K : PySem.W.Frag) : List V → Hp → VK → Prop := fun vs H Q => ∃ (a : Addr) (ns : List Int), vs = [V.ref a] ∧ SqT K H a (ns.map V.int) ∧ Q (.int ns.sum) H
def rMaxT (K : PySem.W.Frag) : List V → Hp → VK → Prop := fun vs H Q => ∃ (a : Addr) (ns : List Int), vs = [V.ref a] ∧ SqT K H a (ns.map V.int) ∧ 0 < ns.length ∧ ∀ m, m ∈ ns → (∀ y, y ∈ ns → y ≤ m) → Q (.int m) H
def rMinT (K : PySem.W.Frag) : List V → Hp → VK → Prop := fun vs H Q => ∃ (a : Addr) (ns : List Int), vs = [V.ref a] ∧ SqT K H a (ns.map V.int) ∧ 0 < ns.length ∧ ∀ m, m ∈ ns → (∀ y, y ∈ ns → m ≤ y) → Q (.int m) H
theorem cr_sumT (hc : X.calm = true) : CallR X (.builtin "sum") (rSumT X.K) := by
  intro pins s σ H vs us Q I r h
  obtain ⟨a, ns, rfl, hs, q⟩ := h
  obtain ⟨its, rv, hl, _⟩ := I.tuple hs
  rw [Vals.ref1 r]
  have hi : IntsAre its ns := rv.ints
  obtain ⟨xs, e⟩ := hi.allInts.items
  have hn : PySem.numsOf (intItems xs).toList = ns := by rw [← e]; exact hi.numsOf
  rw [nums_intItems] at hn
  rw [e] at hl
  refine PySem.W.ktm_sumG (I.ok.hd hc) hl fun h' tk t' hk => ?_
  rw [preSum_eq, List.take_of_length_le (by simp), hn]
  exact ⟨.int ns.sum, H, I.kept hk, ⟨_, rfl⟩, q⟩
theorem cr_maxT (hc : X.calm = true) (hu : X.A.units + 65 < cLine) : CallR X (.builtin "max") (rMaxT X.K) := by
  intro pins s σ H vs us Q I r h
  obtain ⟨a, ns, rfl, hs, hne, q⟩ := h
  obtain ⟨its, rv, hl, _⟩ := I.tuple hs
  rw [Vals.ref1 r]
  cases ns with
  | nil => simp at hne
  | cons n ns =>
    have hr := ints_reads (h := s.heap) rv
    refine PySem.W.max_tuple_data (vs := its.toArray) (x := .int n) (xs := ns.map PyData.int) (as := []) (I.ok.hd hc) hl (by simpa using hr) (by have := ints_alike (n :: ns); simpa using this) (by have := ints_depth (n :: ns); rw [List.map_cons] at this; rw [this]; omega) fun i v h' tk bs hv rd hk => ?_
    rw [PySem.W.maxD_ints] at rd
    cases rd with
    | int i t =>
      obtain ⟨h1, h2, h3⟩ := fold_max ns n
      refine ⟨.int (ns.foldl max n), H, I.kept hk, ⟨_, rfl⟩, q _ ?_ fun y hy => ?_⟩
      · rcases h3 with h3 | h3
        · rw [h3]; exact List.mem_cons_self
        · exact List.mem_cons_of_mem _ h3
      · rcases List.mem_cons.mp hy with rfl | hy
        · exact h1
        · exact h2 y hy
theorem cr_minT (hc : X.calm = true) (hu : X.A.units + 65 < cLine) : CallR X (.builtin "min") (rMinT X.K) := by
  intro pins s σ H vs us Q I r h
  obtain ⟨a, ns, rfl, hs, hne, q⟩ := h
  obtain ⟨its, rv, hl, _⟩ := I.tuple hs
  rw [Vals.ref1 r]
  cases ns with
  | nil => simp at hne
  | cons n ns =>
    have hr := ints_reads (h := s.heap) rv
    refine PySem.W.min_tuple_data (vs := its.toArray) (x := .int n) (xs := ns.map PyData.int) (as := []) (I.ok.hd hc) hl (by simpa using hr) (by have := ints_alike (n :: ns); simpa using this) (by have := ints_depth (n :: ns); rw [List.map_cons] at this; rw [this]; omega) fun i v h' tk bs hv rd hk => ?_
    rw [PySem.W.minD_ints] at rd
    cases rd with
    | int i t =>
      obtain ⟨h1, h2, h3⟩ := fold_min ns n
      refine ⟨.int (ns.foldl min n), H, I.kept hk, ⟨_, rfl⟩, q _ ?_ fun y hy => ?_⟩
      · rcases h3 with h3 | h3
        · rw [h3]; exact List.mem_cons_self
        · exact List.mem_cons_of_mem _ h3
      · rcases List.mem_cons.mp hy with rfl | hy
        · exact h1
        · exact h2 y hy
/-! of lists and tuples alike -/
def gI1A (f : List Int → Option D) (ws : List W) : Env → Out W := fun ρ => match ws with
  | [w] => match w.seq ρ with
    | some xs => match numsOf xs with
      | some ns => match f ns with
        | some d => .ok (.d d) ρ
        | none => .st
      | none => .st
    | none => .st
  | _ => .st
theorem gI1A_inv {s s0 : Sx} {f : List Int → Option D} {ws : List W} {vs : List V} {Q : VK} (R : Rel Γ.K s) (hσ : s0.σ = s.σ) (S : Step Γ.np s0 s) (r : VReps Γ.K s0.H s vs ws) (h : Post Γ Wx s0 (gI1A f ws s.ρ) Q) :
    ∃ p ns d, vs = [.ref p] ∧ (SqL Γ.K s.H p (ns.map V.int) ∨ SqT Γ.K s.H p (ns.map V.int)) ∧ f ns = some d ∧ Post Γ Wx s (.ok (.d d) s.ρ) Q := by
  have h := h.step (s1 := s) S hσ.symm
  unfold gI1A at h
  obtain ⟨w, rfl, h⟩ := one_inv (P := fun o => Post Γ Wx s o Q) h fun z => z
  obtain ⟨v, rfl, q0⟩ := VReps.one r
  cases e1 : w.seq s.ρ with
  | none => simp only [e1] at h; exact h.elim
  | some xs =>
    simp only [e1] at h
    cases e2 : numsOf xs with
    | none => simp only [e2] at h; exact h.elim
    | some ns =>
      simp only [e2] at h
      cases e3 : f ns with
      | none => simp only [e3] at h; exact h.elim
      | some d =>
        simp only [e3] at h
        obtain ⟨p, us, rfl, q, q2⟩ := q0.seq R e1
        have e4 := nums_inv e2
        subst e4
        have e5 := q2.intsV
        subst e5
        exact ⟨p, ns, d, rfl, q, e3, h⟩
abbrev gSumA := gI1A fun ns => some (.int ns.sum)
abbrev gMaxA := gI1A fun ns => if ns = [] then none else some (.int (maxL ns))
abbrev gMinA := gI1A fun ns => if ns = [] then none else some (.int (minL ns))
theorem cr_sumAll (hc : X.calm = true) : CallR X (.builtin "sum") (fun vs H Q => rSum X.K vs H Q ∨ rSumT X.K vs H Q) := CallR.or (cr_sum hc) (cr_sumT hc)
theorem cr_maxAll (hc : X.calm = true) (hu : X.A.units + 65 < cLine) : CallR X (.builtin "max") (fun vs H Q => rMax X.K vs H Q ∨ rMaxT X.K vs H Q) := CallR.or (cr_max hc) (cr_maxT hc hu)
theorem cr_minAll (hc : X.calm = true) (hu : X.A.units + 65 < cLine) : CallR X (.builtin "min") (fun vs H Q => rMin X.K vs H Q ∨ rMinT X.K vs H Q) := CallR.or (cr_min hc) (cr_minT hc hu)
theorem ok_sumAll : OkC Γ Wx (fun vs H Q => rSum Γ.K vs H Q ∨ rSumT Γ.K vs H Q) gSumA := fun s vs ws s0 Q R hσ S r h => by
  obtain ⟨p, ns, d, rfl, q, e, h⟩ := gI1A_inv R hσ S r h
  cases e
  rcases q with q | q
  · exact .inl ⟨p, ns, rfl, q, h.val R (.int _)⟩
  · exact .inr ⟨p, ns, rfl, q, h.val R (.int _)⟩
theorem ok_maxAll : OkC Γ Wx (fun vs H Q => rMax Γ.K vs H Q ∨ rMaxT Γ.K vs H Q) gMaxA := fun s vs ws s0 Q R hσ S r h => by
  obtain ⟨p, ns, d, rfl, q, e, h⟩ := gI1A_inv R hσ S r h
  split at e
  · cases e
  · rename_i hn
    cases e
    obtain ⟨h1, h2⟩ := maxL_spec hn
    have hp : 0 < ns.length := by cases ns with | nil => exact absurd rfl hn | cons _ _ => exact Nat.succ_pos _
    have k : ∀ m, m ∈ ns → (∀ y, y ∈ ns → y ≤ m) → Q (.int m) s.H := fun m hm hle => by
      have e2 : m = maxL ns := Int.le_antisymm (h2 m hm) (hle _ h1)
      subst e2
      exact h.val R (.int _)
    rcases q with q | q
    · exact .inl ⟨p, ns, rfl, q, hp, k⟩
    · exact .inr ⟨p, ns, rfl, q, hp, k⟩
theorem ok_minAll : OkC Γ Wx (fun vs H Q => rMin Γ.K vs H Q ∨ rMinT Γ.K vs H Q) gMinA := fun s vs ws s0 Q R hσ S r h => by
  obtain ⟨p, ns, d, rfl, q, e, h⟩ := gI1A_inv R hσ S r h
  split at e
  · cases e
  · rename_i hn
    cases e
    obtain ⟨h1, h2⟩ := minL_spec hn
    have hp : 0 < ns.length := by cases ns with | nil => exact absurd rfl hn | cons _ _ => exact Nat.succ_pos _
    have k : ∀ m, m ∈ ns → (∀ y, y ∈ ns → m ≤ y) → Q (.int m) s.H := fun m hm hle => by
      have e2 : m = minL ns := Int.le_antisymm (hle _ h1) (h2 m hm)
      subst e2
      exact h.val R (.int _)
    rcases q with q | q
    · exact .inl ⟨p, ns, rfl, q, hp, k⟩
    · exact .inr ⟨p, ns, rfl, q, hp, k⟩
end
end TD
namespace TD
open PySem PySem.Spec PyProof.Rows L2
theorem u65 {k : Nat} {A : Around} (r : Room k A) : A.units + 65 < cLine := by have := r.un; omega
theorem u1 {k : Nat} {A : Around} (r : Room k A) : A.units + 1 < cLine := by have := r.un; omega
theorem u0 {k : Nat} {A : Around} (r : Room k A) : A.units < cLine := by have := r.un; omega
section
variable {X : Cx} {Γ : Cn} {Wx : WX}
/-! ### x is None, x is True .. -/
def rIsAll : R2 := fun x y H Q => (y = .non ∧ Q (.bl (decide (x = .non))) H) ∨ (∃ a b, x = .bl a ∧ y = .bl b ∧ Q (.bl (decide (a = b))) H)
def rIsNotAll : R2 := fun x y H Q => (y = .non ∧ Q (.bl (!decide (x = .non))) H) ∨ (∃ a b, x = .bl a ∧ y = .bl b ∧ Q (.bl (!decide (a = b))) H)
theorem op_isAll : OpR X (compareOp .Is) rIsAll := OpR.or op_isN op_is_bl
theorem op_isnotAll : OpR X (compareOp .IsNot) rIsNotAll := OpR.or op_notN op_isnot_bl
/-- whether a value is None -/
def W.non (ρ : Env) (w : W) : Option Bool := match w.ty ρ with
  | some T => some (decide (T = "NoneType"))
  | none => none
theorem VRep.isN {K : PySem.W.Frag} {H0 : Hp} {s : Sx} {v : V} {w : W} {b : Bool} (R : Rel K s) (r : VRep K H0 s v w) (h : w.non s.ρ = some b) : decide (v = .non) = b := by
  have q : ∀ {x : D}, Rp s.F v x → decide (v = .non) = decide (tyD x = "NoneType") := fun {x} q => by
    cases q <;> simp [tyD]
  unfold W.non at h
  cases w with
  | d x => simp only [W.ty] at h; cases h; exact q r
  | l xs => cases h; obtain ⟨p, vs, rfl, _⟩ := r; rfl
  | t xs => cases h; obtain ⟨p, vs, rfl, _⟩ := r; rfl
  | c i =>
    have r' : s.σ[i]? = some (some v) := r
    simp only [W.ty] at h
    cases hb : s.ρ[i]? with
    | none => rw [hb] at h; cases h
    | some o =>
      cases o with
      | none => rw [hb] at h; cases h
      | some c =>
        cases c with
        | d x =>
          rw [hb] at h; cases h
          obtain ⟨v', hv, q1⟩ := R.slot i _ hb
          rw [r'] at hv; cases hv
          exact q q1
        | l x =>
          rw [hb] at h; cases h
          obtain ⟨v', hv, p, vs, rfl, _⟩ := R.slot i _ hb
          rw [r'] at hv; cases hv
          rfl
        | t x =>
          rw [hb] at h; cases h
          obtain ⟨v', hv, p, vs, rfl, _⟩ := R.slot i _ hb
          rw [r'] at hv; cases hv
          rfl
        | s x => rw [hb] at h; cases h
        | x => rw [hb] at h; cases h
def gIsB (neg : Bool) (w1 w2 : W) : Env → Out W := fun ρ => match w2.asD ρ with
  | some .none => (match w1.non ρ with
    | some b => .ok (.d (.bool (if neg then !b else b))) ρ
    | none => .st)
  | some (.bool j) => (match w1.asD ρ with
    | some (.bool i) => .ok (.d (.bool (if neg then !decide (i = j) else decide (i = j)))) ρ
    | _ => .st)
  | _ => .st
abbrev gIs := gIsB false
abbrev gIsNot := gIsB true
theorem ok_is : Ok2 Γ Wx rIsAll gIs := fun s v1 v2 w1 w2 H1 H2 Q R r1 r2 h => by
  unfold gIs gIsB at h
  split at h
  · rename_i e2
    split at h
    · rename_i b e1
      refine .inl ⟨(r2.data R e2).nonV, ?_⟩
      rw [r1.isN R e1]
      exact h.val R (.bl _)
    · exact h.elim
  · rename_i j e2
    split at h
    · rename_i i e1
      exact .inr ⟨i, j, (r1.data R e1).blV, (r2.data R e2).blV, h.val R (.bl _)⟩
    · exact h.elim
  · exact h.elim
theorem ok_isnot : Ok2 Γ Wx rIsNotAll gIsNot := fun s v1 v2 w1 w2 H1 H2 Q R r1 r2 h => by
  unfold gIsNot gIsB at h
  split at h
  · rename_i e2
    split at h
    · rename_i b e1
      refine .inl ⟨(r2.data R e2).nonV, ?_⟩
      rw [r1.isN R e1]
      exact h.val R (.bl _)
    · exact h.elim
  · rename_i j e2
    split at h
    · rename_i i e1
      exact .inr ⟨i, j, (r1.data R e1).blV, (r2.data R e2).blV, h.val R (.bl _)⟩
    · exact h.elim
  · exact h.elim
/-! ### l.insert(i, x) -/
def rIns : V → List V → Hp → VK → Prop := fun x vs H Q => ∃ (l : Addr) (xs : List V) (i : Int) (y : V), x = .ref l ∧ vs = [.int i, y] ∧ H l = some (.lst xs) ∧ xs.length < sizeLine ∧ 0 ≤ i ∧ i < 2 ^ 63 ∧ Q .non (upd H l (.lst (xs.take i.toNat ++ [y] ++ xs.drop i.toNat)))
theorem mt_ins : MtR X "list.insert" rIns := mt_insert
def gIns (i : Nat) (ws : List W) (ρ : Env) : Out W := match ws with
  | [w0, w] => (match w0.asD ρ with
    | some (.int k) => (match w.datum ρ with
      | some (d, ρ1) => (match ρ1[i]? with
        | some (some (.l xs)) => if xs.length + 1 ≤ 100000 ∧ 0 ≤ k ∧ k ≤ 1000000000 then .ok (.d .none) (ρ1.set i (some (.l (xs.take k.toNat ++ [d] ++ xs.drop k.toNat)))) else .st
        | _ => .st)
      | none => .st)
    | _ => .st)
  | _ => .st
theorem ok_ins : OkM Γ Wx rIns gIns := fun s i v vs ws s0 Q R hσ S hv r h => by
  unfold gIns at h
  obtain ⟨w0, w, rfl, h9⟩ := two_inv (P := fun o => Post Γ Wx s0 o Q) h fun z => z
  clear h
  match vs, r with
  | [y0, y], r =>
    split at h9
    · rename_i k e0
      cases e1 : w.datum s.ρ with
      | none => rw [e1] at h9; exact h9.elim
      | some dρ =>
        obtain ⟨d, ρ1⟩ := dρ
        rw [e1] at h9
        simp only at h9
        obtain ⟨F', R1, S1, q1, _, _, _⟩ := datum_ok R S r.2.1.1 e1
        split at h9
        · rename_i xs hb
          split at h9
          · rename_i hl
            obtain ⟨p, us, rfl, hp, q⟩ := R1.cellL (i := i) hv hb
            obtain ⟨R2, S2⟩ := R1.write S1 hv hb (((q.take k.toNat).append (.one q1)).append (q.drop k.toNat))
            refine ⟨p, us, k, y, rfl, by rw [(VRep.data R r.1 e0).intV], hp, ?_, hl.2.1, by omega, ?_⟩
            · have := sz5 hl.1
              rw [q.length]
              omega
            · obtain ⟨F0, σ0, H0, ρ0⟩ := s0
              cases hσ
              exact h9 .non F' _ R2 S2 .non
          · exact h9.elim
        · exact h9.elim
    · exact h9.elim
end
end TD
namespace TD
open PySem PySem.Spec PyProof.Rows L2
/-! ### <= of numbers, of tuples of numbers -/
def leT (ns ms : List Int) : Bool := Ob.lexAt (fun j => decide (ns.getD j 0 = ms.getD j 0)) (fun j => decide (ns.getD j 0 ≤ ms.getD j 0)) (decide (ns.length ≤ ms.length)) 0 (min ns.length ms.length)
section
variable {X : Cx} {Γ : Cn} {Wx : WX}
def rLeA (K : PySem.W.Frag) : R2 := fun x y H Q => (rI0 fun i j => .bl (decide (i ≤ j))) x y H Q ∨ rLeT K x y H Q
theorem op_leA (hu : X.A.units < cLine) : OpR X (compareOp .LtE) (rLeA X.K) := OpR.or op_le (op_leT hu)
def gLeA (w1 w2 : W) : Env → Out W := fun ρ => match w1.asD ρ, w2.asD ρ with
  | some (.int i), some (.int j) => .ok (.d (.bool (decide (i ≤ j)))) ρ
  | some (.tuple xs), some (.tuple ys) => (match numsOf xs, numsOf ys with
    | some ns, some ms => .ok (.d (.bool (leT ns ms))) ρ
    | _, _ => .st)
  | _, _ => .st
theorem ok_leA : Ok2 Γ Wx (rLeA Γ.K) gLeA := fun s v1 v2 w1 w2 H1 H2 Q R r1 r2 h => by
  unfold gLeA at h
  split at h
  · rename_i i j e1 e2
    exact .inl ⟨i, j, (r1.data R e1).intV, (r2.data R e2).intV, h.val R (.bl _)⟩
  · rename_i xs ys e1 e2
    split at h
    · rename_i ns ms n1 n2
      obtain ⟨p, vs, rfl, hp, q1⟩ := (r1.data R e1).tupI
      obtain ⟨p2, us, rfl, hp2, q2⟩ := (r2.data R e2).tupI
      have e4 := nums_inv n1
      have e5 := nums_inv n2
      subst e4 e5
      have e6 := q1.intsV
      have e7 := q2.intsV
      subst e6 e7
      exact .inr ⟨p, p2, ns, ms, rfl, rfl, SqT.of (R.sub _ _ hp), SqT.of (R.sub _ _ hp2), h.val R (.bl _)⟩
    · exact h.elim
  · exact h.elim
end
end TD
namespace TD
open PySem PySem.Spec PyProof.Rows L2
/-! ### {t: v}, t a tuple -/
section
variable {prog : Program} {w : World} {K : Type} [DecidableEq K] {knd : HeapKind prog w K} {A : Around} {E : Value → Shared → Prop} {s : Shared}
theorem dict_pairsH {env : PySem.Env} {keys : List (Option Expr)} {values : List Expr} {pos : Pos} {pairs : List (Sem Value × Sem Value)} {Q : Value → Shared → Prop} (hu : knd.room A)
    (hshape : (evalEachOpt keys env).zip ((evalEach values env).map fun v => do let x ← v; standAt pos; pure x) = pairs.map fun p => (some p.1, p.2)) (h0 : pairs ≠ []) (hlen : pairs.length ≤ 15)
    (h : wpAny (model prog w) A (evalPairs pairs) (fun vs s₁ => ∃ ps, CarriesH knd s₁.heap vs ps ∧ s₁.heap.DictOfH knd s.heap.objs.size [] ∧
      ∀ h' tk, h'.DictOfH knd s.heap.objs.size (storedAllH [] ps) → Heap.SameBut s.heap.objs.size s₁.heap h' → Q (.ref s.heap.objs.size) { s₁ with heap := h', toks := tk }) E
      { s with heap := s.heap.push { cls := .type "dict", data := .dict #[] } }) :
    wpAny (model prog w) A (eval (.Dict keys values pos) env) Q E s := by
  rw [arm_eval_Dict, hshape, dictDisplay_pairs pairs h0 (by omega)]
  exact wpAny_bind (wpAny_standAt (wpAny_bind (wpAny_subDictH (knd := knd) (Q := fun d s' => wpAny (model prog w) A (pure (Value.ref d)) Q E s') hu hlen
    (wpAny_mono h (fun vs s₁ h₁ => by obtain ⟨ps, hc, hm, hq⟩ := h₁; exact ⟨ps, hc, hm, fun h' tk a b => wpAny_pure (hq h' tk a b)⟩) fun _ _ e => e))))
end
def tDisp1 (tk tv : TE) : TE := fun σ H Q => ∀ p, H p = none → tk σ (upd H p (.dT [])) fun x H1 => tv σ H1 fun y H2 => H2 p = some (.dT []) ∧ ∃ b ks, x = .ref b ∧ H2 b = some (.tup (ks.map kV)) ∧ Q (.ref p) (upd H2 p (.dT [(ks, y)]))
section
variable {X : Cx} {k v : Expr} {pos : Pos} {tk tv : TE}
theorem pe_disp1 (hu : X.A.units < cLine) (hk : PE X k tk) (hv : PE X v tv) : PE X (.Dict [some k] [v] pos) (tDisp1 tk tv) := by
  refine ⟨fun pins s σ H Q I q => ?_⟩
  have hn := I.hok.fresh (Nat.le_refl s.heap.objs.size)
  have I1 := I.laid (a := s.heap.objs.size) (o := .dT []) (h' := s.heap.push { cls := .type "dict", data := .dict #[] }) (t' := s.toks) (fun _ _ q => Heap.get?_push_of_some _ q) (Nat.le_refl _) (dt_empty s.heap I.big)
  have hall : ([some k] : List (Option Expr)).all (·.isSome) = true := rfl
  have hlen := pairTrees_length [some k] [v] X.env pos hall rfl
  refine dict_pairsH (knd := tupleKind (mixKind X.prog X.w)) (pairs := pairTrees [some k] [v] X.env pos) hu (zip_pairTrees [some k] [v] X.env pos hall rfl) (fun z => by rw [z] at hlen; simp at hlen) (by rw [hlen]; exact (by show 1 ≤ 15; decide)) ?_
  refine pairTrees_cons_walk (thn (hk.run pins _ σ _ _ I1 (q _ hn)) fun kv s1 ⟨x, H1, J1, rx, q1⟩ => thn (hv.run pins s1 σ H1 _ J1 q1) fun vv s2 ⟨y, H2, J2, ry, e, b, ks, ex, eb, q2⟩ => pairTrees_nil_walk ?_)
  subst ex
  obtain rfl : kv = Value.ref b := rx
  obtain ⟨z, hd, xs0, r0, dd⟩ := dt_of J2.hok e
  cases r0
  refine ⟨[(ks, b, vv)], ⟨rfl, rfl, key_of J2.hok eb, trivial⟩, dd, fun h' tk' dd' hs => ⟨.ref s.heap.objs.size, _, ?_, rfl, q2⟩⟩
  obtain ⟨qo, es, ep, hq, h2, h3, h4, _, h5⟩ := dd'
  refine d_write J2 (by rw [e]; exact True.intro) hs ⟨qo, hq⟩ ⟨by show 1 ≤ sizeLine; decide, hd, [(ks, b, vv)], ?_, qo, es, ep, hq, h2, h3, h4, h5⟩
  refine .cons ⟨rfl, ?_, ry⟩ .nil
  show upd H2 s.heap.objs.size _ b = _
  rw [upd_ne (ne_of eb e (fun z => nomatch z))]
  exact eb
end
section
variable {X : Cx} {Γ : Cn} {Wx : WX} {k v : Expr} {fk fv : Mx W} {pos : Pos}
def mDict1 (fk fv : Mx W) : Mx W := bnd fk fun w1 => bnd fv fun w2 ρ => match w1.key ρ, w2.datum ρ with
  | some ks, some (d, ρ1) => .ok (.t [(ks, d)]) ρ1
  | _, _ => .st
theorem post_from {s0 s : Sx} {Q : VK} {f : Mx W} {k : W → Mx W} {K : V → Hp → Prop} (S : Step Γ.np s0 s) (hσ : s0.σ = s.σ) (h : Post Γ Wx s0 (bnd f k s.ρ) Q)
    (hk : ∀ v w F1 H1 ρ1, Rel Γ.K ⟨F1, s.σ, H1, ρ1⟩ → Step Γ.np s ⟨F1, s.σ, H1, ρ1⟩ → VRep Γ.K s.H ⟨F1, s.σ, H1, ρ1⟩ v w → Post Γ Wx s0 (k w ρ1) Q → K v H1) : Post Γ Wx s (f s.ρ) K := by
  unfold bnd at h
  cases e : f s.ρ with
  | ok w ρ1 =>
    rw [e] at h
    exact fun v F1 H1 R1 S1 r => hk v w F1 H1 ρ1 R1 S1 r h
  | er c ρ1 =>
    rw [e] at h
    obtain ⟨F0, σ0, H0, ρ0⟩ := s0
    cases hσ
    exact fun F' H' C hC R' S' => h F' H' C hC R' (S.trans S')
  | st => rw [e] at h; exact h
theorem de_dict1 (hu : X.A.units < cLine) (hk : DE X Γ Wx k fk) (hv : DE X Γ Wx v fv) : DE X Γ Wx (.Dict [some k] [v] pos) (mDict1 fk fv) := PE.imp (pe_disp1 hu hk hv) fun σ H Q ⟨F, ρ, R, h⟩ p hp => by
  obtain ⟨R0, S0⟩ := R.alloc (np := Γ.np) (p := p) (o := .dT []) (F' := F) hp (.inl rfl)
  have nc0 : ¬ Cell ⟨F, σ, upd H p (.dT []), ρ⟩ p := fun ⟨i, e1, b, e2, e3⟩ => R.newNoCell hp ⟨i, e1, b, e2, e3⟩
  have hF0 : F p = none := R.free hp
  refine ⟨F, ρ, R0, post_from (s0 := ⟨F, σ, H, ρ⟩) (s := ⟨F, σ, upd H p (.dT []), ρ⟩) S0 rfl h fun x w1 F1 H1 ρ1 R1 S1 r1 h1 => ⟨F1, ρ1, R1, post_from (s0 := ⟨F, σ, H, ρ⟩) (s := ⟨F1, σ, H1, ρ1⟩) (S0.trans S1) rfl h1 fun y w2 F2 H2 ρ2 R2 S2 r2 h2 => ?_⟩⟩
  have hp2 : H2 p = some (.dT []) := (S1.trans S2).keep p _ upd_same nc0
  refine ⟨hp2, ?_⟩
  split at h2
  · rename_i ks d ρ3 e1 e2
    obtain ⟨b, rfl, hb⟩ := VRep.key (s := ⟨F2, σ, H2, ρ2⟩) R2 (VRep.held (s := ⟨F1, σ, H1, ρ1⟩) R1 S2 rfl r1) e1
    obtain ⟨F3, R3, S3, q, m3, _⟩ := datum_ok (s0 := ⟨F1, σ, H1, ρ1⟩) (s := ⟨F2, σ, H2, ρ2⟩) R2 S2 r2 e2
    have S13 := S1.trans S3
    have hF3 : F3 p = none := (S13.fz p _ upd_same nc0).none hF0 (fun _ z => by cases z)
    have nc3 : ¬ Cell ⟨F3, σ, H2, ρ3⟩ p := fun c => (S13.cells p c).elim nc0 fun z => by
      have z' : upd H p (.dT []) p = none := z
      rw [upd_same] at z'
      cases z'
    obtain ⟨R4, S4⟩ := upd_fresh (s0 := ⟨F, σ, H, ρ⟩) (s := ⟨F3, σ, H2, ρ3⟩) (u := .dT [(ks, y)]) R3 (S0.trans S13) hp hp2 hF3 nc3
    refine ⟨b, ks, rfl, R2.sub _ _ hb, h2 (.ref p) F3 _ R4 S4 ⟨p, [(ks, y)], rfl, upd_same, .cons ⟨rfl, q⟩ .nil, hF3, hp, fun ⟨i, e1, b', e2, e3⟩ => nc3 ⟨i, e1, b', e2, e3⟩⟩⟩
  · exact h2.elim
end
end TD
namespace TD
open PySem PySem.Spec PyProof.Rows L2
/-! ### t * 1: the tuple itself -/
theorem tuple_mul1 (l : Addr) (items : Array Value) (n : Nat) (dd : Option Addr) (sl : Array (Option Value)) (u : Tok) :
    Meets (Builtin.«tuple.__mul__» ⟨[.ref l, .int 1 u], []⟩) (fun _ R s => s.heap.get? l = some { cls := .type "tuple", dict := dd, data := .seq items n, slots := sl } ∧ R (.ok (.ret (Value.ref l))) s) :=
  .of_wp fun prog w A R s h => by
    obtain ⟨hp, g, d, tk, os⟩ := s
    obtain ⟨hl, h⟩ := h
    have f1 := AutoSeq1.idx_int
    wp_walk using wpAny_loadPart' hl
    repeat (first
      | (refine wpAny_ite_false (by decide) ?_; wp_walk using wpAny_loadPart' hl)
      | (refine wpAny_ite_true (by simp) ?_; wp_walk using wpAny_loadPart' hl))
    exact ⟨_, rfl, h⟩
section
variable {X : Cx} {Γ : Cn} {Wx : WX}
def rRep1 (K : PySem.W.Frag) : R2 := fun x y H Q => ∃ l xs, x = .ref l ∧ y = .int 1 ∧ SqT K H l xs ∧ Q (.ref l) H
theorem op_rep1 : OpR X (binaryOp .Mult) (rRep1 X.K) := by
  intro pins s σ H x y v u Q I rx ry h
  obtain ⟨l, xs, rfl, rfl, hT, q⟩ := h
  cases rx
  obtain ⟨t, rfl⟩ := ry
  obtain ⟨its, r, ⟨⟨cls, dd, data, sl⟩, ho, hc, n, hd⟩, hs⟩ := I.tuple hT
  simp only at hc hd
  subst hc hd
  refine wpAny_binaryOp_repeat_ref (T := "tuple") (U := "int") (by decide) ⟨_, ho, rfl⟩ (fun s' => typeIs_int s' 1 t) noFill_tuple_mul F.fills_int_mul F.slot_int_rmul repeat_tuple F.slot_int_index.lookup
    (call_meets F.slot_int_rmul (typeIs_int s 1 t) F.entry_int_rmul (F.args_int_rmul_2 _ _) (int_rmul_tuple 1 t l its.toArray n dd sl)
      ⟨ho, rfl, ⟨_, ho, rfl⟩, call_meets F.slot_tuple_mul ⟨_, ho, rfl⟩ F.entry_tuple_mul (F.args_tuple_mul_2 _ _) (tuple_mul1 l its.toArray n dd sl t) ⟨ho, ?_⟩⟩)
  exact ⟨.ref l, H, I, rfl, q⟩
def rMulB (K : PySem.W.Frag) : R2 := fun x y H Q => rRep1 K x y H Q ∨ rMulAll K x y H Q
theorem op_mulB : OpR X (binaryOp .Mult) (rMulB X.K) := OpR.or op_rep1 op_mulAll
def gMulA (w1 w2 : W) : Env → Out W := fun ρ => match w1.asD ρ, w2.asD ρ with
  | some (.tuple xs), some (.int 1) => .ok (.d (.tuple xs)) ρ
  | _, _ => gMul w1 w2 ρ
theorem ok_mulB : Ok2 Γ Wx (rMulB Γ.K) gMulA := fun s v1 v2 w1 w2 H1 H2 Q R r1 r2 h => by
  unfold gMulA at h
  split at h
  · rename_i xs e1 e2
    have r := r1.data R e1
    obtain ⟨p, vs, rfl, hp, q⟩ := r.tupI
    exact .inl ⟨p, vs, rfl, (r2.data R e2).intV, SqT.of (R.sub _ _ hp), h.val R r⟩
  · exact .inr (ok_mul s v1 v2 w1 w2 H1 H2 Q R r1 r2 h)
end
end TD
namespace TD
open PySem PySem.Spec PyProof.Rows L2
/-! ### for x in d, d a dict made just now: it is locked from then on -/
section
variable {X : Cx} {Γ : Cn} {Wx : WX} {e tg : Expr} {f : Mx W} {td : TE}
theorem pi_keysN (he : PE X e td) : PI X tg e (fun σ H R => td σ H fun x G => ∃ (d : Addr) (ws : List (List Key × V)), x = V.ref d ∧ G d = some (.dT ws) ∧ ∀ o, R (Itkt d o ws) (upd G d (.frz o (.dT ws)))) := by
  refine ⟨fun pins s0 σ H R J h => thn (he.run pins s0 σ H _ J h) fun u s1 ⟨x, G, J1, rx, d, ws, ex, hd, q⟩ => ?_⟩
  rw [ex] at rx
  obtain rfl : u = Value.ref d := rx
  obtain ⟨o, J2⟩ := J1.lock hd trivial
  obtain ⟨z1, z2, z3, z4, z5, z6, z7, z8⟩ := J2.frzT (d := d) (o := o) (kvs := ws) upd_same
  refine iter_keys z1 z2 z3 z6 (pi_one (tk := s1.toks) J2 _ (turn_keysT _ z6) ⟨_, Heap.get?_push_size _ rfl, rfl, ?_⟩ (q o))
  rw [z7]
  all_goals rfl
def mKeys (f : Mx W) : Mx Walk := bnd f fun w ρ => match w with
  | .t kvs => .ok (kvs.map fun kv => keyT kv.1, none) ρ
  | _ => .st
theorem di_keys (he : DE X Γ Wx e f) : DI X Γ Wx tg e (mKeys f) :=
  PI.imp (pi_keysN he) fun σ H Q ⟨F, ρ, R, h⟩ => by
    refine ⟨F, ρ, R, ?_⟩
    unfold mKeys bnd at h
    cases e1 : f ρ with
    | st => rw [e1] at h; exact h.elim
    | er c ρ1 => rw [e1] at h; exact h
    | ok w ρ1 =>
      rw [e1] at h
      intro v F1 H1 R1 S1 r1
      cases w with
      | t kvs =>
        obtain ⟨p, ws, rfl, hp, q, hF, h0, nc⟩ := r1
        refine ⟨p, ws, rfl, hp, fun o => ?_⟩
        have hF' : F1 p = none := hF
        have h0' : H p = none := h0
        have ne : ∀ a u, F1 a = some u → a ≠ p := fun a u e z => by rw [z, hF'] at e; cases e
        have up : ∀ a, a ≠ p → upd H1 p (.frz o (.dT ws)) a = H1 a := fun a ha => upd_ne ha
        have R2 : Rel Γ.K ⟨F1, σ, upd H1 p (.frz o (.dT ws)), ρ1⟩ := by
          refine ⟨fun a u e => ?_, R1.len, fun i b hb hx => ?_, R1.sep, R1.own⟩
          · show upd H1 p _ a = some u
            rw [up a (ne a u e)]
            exact R1.sub a u e
          · obtain ⟨v, hv, r⟩ := R1.slotX i b hb hx
            refine ⟨v, hv, r.keep (fun _ _ z => z) fun a hc ha u e => ?_⟩
            show upd H1 p _ a = some u
            rw [up a fun z => nc ⟨i, by rw [← z]; exact ⟨by rw [← ha]; exact hv, b, hb, hc⟩⟩]
            exact e
        have S2 : Step Γ.np ⟨F, σ, H, ρ⟩ ⟨F1, σ, upd H1 p (.frz o (.dT ws)), ρ1⟩ := by
          have neH : ∀ a u, H a = some u → a ≠ p := fun a u e z => by rw [z, h0'] at e; cases e
          refine ⟨fun a u e n => ?_, S1.fz, fun a u e => ?_, S1.cells, S1.par, S1.stay, S1.same⟩
          · show upd H1 p _ a = some u
            rw [up a (neH a u e)]
            exact S1.keep a u e n
          · obtain ⟨u', e'⟩ := S1.there a u e
            refine ⟨u', ?_⟩
            show upd H1 p _ a = some u'
            rw [up a (neH a u e)]
            exact e'
        refine h (Itkt p o ws) F1 _ R2 S2 (fun j z => by cases z) fun i s' K' R' => ?_
        have hp' : s'.H p = some (.frz o (.dT ws)) := K'.keep p _ (by show upd H1 p _ p = _; exact upd_same) fun ⟨j, c⟩ => nc ⟨j, c⟩
        have hl : ws.length = kvs.length := KvR.length q
        refine ⟨fun hi => ⟨hp', by rw [hl]; simpa using hi⟩, fun d hd => ?_⟩
        rw [List.getElem?_map, Option.map_eq_some_iff] at hd
        obtain ⟨kv, e2, rfl⟩ := hd
        have hi : i < ws.length := by rw [hl]; exact (List.getElem?_eq_some_iff.mp e2).1
        refine ⟨⟨hp', hi⟩, fun v' H' ⟨eh, k, y, b, e3, e4, e5⟩ => ?_⟩
        subst eh
        have ek : kv.1 = k := by
          have h3 := congrArg (fun l => l[i]?) (KvR.keys q)
          simp only [List.getElem?_map, e3, e2, Option.map_some] at h3
          exact (Option.some.inj h3).symm
        obtain ⟨F3, R3, S3, _, e6⟩ := R'.know (np := Γ.np) e5
        refine ⟨F3, R3, S3, ?_⟩
        rw [e4, ek]
        exact .tup e6 (keysD_rp k)
      | d x => exact h.elim
      | l x => exact h.elim
      | c x => exact h.elim
end
/-! ### sorted(set(l)), l a list of tuples of numbers, equally long -/
def nubT : List (List Int) → List (List Int)
  | [] => []
  | x :: xs => if x ∈ xs then nubT xs else x :: nubT xs
theorem nubT_mem {x : List Int} : ∀ {xs : List (List Int)}, x ∈ nubT xs ↔ x ∈ xs
  | [] => Iff.rfl
  | y :: ys => by
    unfold nubT
    split
    · rename_i h
      rw [nubT_mem, List.mem_cons]
      exact ⟨.inr, fun z => z.elim (fun e => e ▸ h) id⟩
    · rw [List.mem_cons, List.mem_cons, nubT_mem]
theorem nubT_nodup : ∀ xs : List (List Int), (nubT xs).Nodup
  | [] => List.nodup_nil
  | y :: ys => by
    unfold nubT
    split
    · exact nubT_nodup ys
    · rename_i h
      exact List.nodup_cons.mpr ⟨fun z => h (nubT_mem.mp z), nubT_nodup ys⟩
def leT' (a b : List Int) : Bool := !decide (b < a)
/-- the members, each once, rising -/
def srtU (xs : List (List Int)) : List (List Int) := (nubT xs).mergeSort leT'
theorem lt_tri (a b : List Int) : a < b ∨ a = b ∨ b < a := by
  by_cases h : a < b
  · exact .inl h
  · by_cases h2 : b < a
    · exact .inr (.inr h2)
    · exact .inr (.inl (List.le_antisymm (List.not_lt.mp h2) (List.not_lt.mp h)))
theorem srtU_mem {xs : List (List Int)} {x : List Int} : x ∈ srtU xs ↔ x ∈ xs := by
  unfold srtU
  rw [(List.mergeSort_perm _ _).mem_iff, nubT_mem]
theorem srtU_lt (xs : List (List Int)) : (srtU xs).Pairwise (· < ·) := by
  have h1 : (srtU xs).Pairwise (fun a b => leT' a b = true) := List.pairwise_mergeSort (fun a b c h1 h2 => by
    unfold leT' at h1 h2 ⊢
    simp only [Bool.not_eq_true', decide_eq_false_iff_not, List.not_lt] at h1 h2 ⊢
    exact List.le_trans h1 h2) (fun a b => by
    unfold leT'
    simp only [Bool.or_eq_true, Bool.not_eq_true', decide_eq_false_iff_not, List.not_lt]
    exact List.le_total a b) _
  have h2 : (srtU xs).Nodup := (List.mergeSort_perm _ _).nodup_iff.mpr (nubT_nodup xs)
  refine (h1.and h2).imp fun {a b} h => ?_
  have h3 := h.1
  unfold leT' at h3
  simp only [Bool.not_eq_true', decide_eq_false_iff_not] at h3
  rcases lt_tri a b with z | z | z
  · exact z
  · exact absurd z h.2
  · exact absurd z h3
/-- two rising lists with the same members -/
theorem rise_eq : ∀ {xs ys : List (List Int)}, xs.Pairwise (· < ·) → ys.Pairwise (· < ·) → (∀ x, x ∈ xs ↔ x ∈ ys) → xs = ys
  | [], [], _, _, _ => rfl
  | [], y :: ys, _, _, h => by have := (h y).mpr List.mem_cons_self; cases this
  | x :: xs, [], _, _, h => by have := (h x).mp List.mem_cons_self; cases this
  | x :: xs, y :: ys, h1, h2, h => by
    obtain ⟨a1, a2⟩ := List.pairwise_cons.mp h1
    obtain ⟨b1, b2⟩ := List.pairwise_cons.mp h2
    have e : x = y := by
      rcases List.mem_cons.mp ((h x).mp List.mem_cons_self) with z | z
      · exact z
      · rcases List.mem_cons.mp ((h y).mpr List.mem_cons_self) with z2 | z2
        · exact z2.symm
        · exact absurd (List.lt_trans (b1 x z) (a1 y z2)) (List.lt_irrefl y)
    subst e
    rw [rise_eq a2 b2 fun z => ⟨fun hz => ?_, fun hz => ?_⟩]
    · rcases List.mem_cons.mp ((h z).mp (List.mem_cons_of_mem _ hz)) with q | q
      · exact absurd (q ▸ a1 z hz) (List.lt_irrefl x)
      · exact q
    · rcases List.mem_cons.mp ((h z).mpr (List.mem_cons_of_mem _ hz)) with q | q
      · exact absurd (q ▸ b1 z hz) (List.lt_irrefl x)
      · exact q
theorem code_ne {B : Int} : ∀ {a b : List Int}, a.length = b.length → TS.Bd B a → TS.Bd B b → TS.code B a ≤ TS.code B b → a ≠ b → a < b
  | [], [], _, _, _, _, n => absurd rfl n
  | [], _ :: _, h, _, _, _, _ => by cases h
  | _ :: _, [], h, _, _, _, _ => by cases h
  | x :: a, y :: b, hl, h1, h2, h, n => by
    have hl' : a.length = b.length := by simpa using hl
    rcases Int.lt_trichotomy x y with z | z | z
    · exact List.cons_lt_cons_iff.mpr (.inl z)
    · subst z
      refine List.cons_lt_cons_iff.mpr (.inr ⟨rfl, code_ne hl' h1.tail h2.tail ?_ fun e => n (by rw [e])⟩)
      exact Int.not_lt.mp fun z => Int.not_lt.mpr h ((TS.code_same hl'.symm).mpr z)
    · exact absurd (TS.code_lt hl'.symm h2.tail h1.tail z) (Int.not_lt.mpr h)
def tupsOf : List D → Option (List (List Int))
  | [] => some []
  | .tuple xs :: r => match numsOf xs, tupsOf r with
    | some ns, some nss => some (ns :: nss)
    | _, _ => none
  | _ => none
theorem tupsOf_map : ∀ nss : List (List Int), tupsOf (nss.map fun ns => PyData.tuple (ns.map .int)) = some nss
  | [] => rfl
  | ns :: nss => by
    rw [List.map_cons]
    unfold tupsOf
    rw [nums_map, tupsOf_map nss]
def U (nss : List (List Int)) : Prop := nss.length < 64 ∧ ∃ d, 1 ≤ d ∧ ∀ ns ∈ nss, ns.length = d ∧ ∀ n ∈ ns, 0 ≤ n
theorem ints_V {F : Hp} : ∀ {ns : List Int} {vs : List V}, RpA F vs (ns.map PyData.int) → vs = ns.map V.int
  | [], _, .nil => rfl
  | n :: ns, _, .cons r t => by rw [r.intV, ints_V t]; rfl
theorem tupsOf_rp {F : Hp} : ∀ {ds : List D} {vs : List V} {nss : List (List Int)}, RpA F vs ds → tupsOf ds = some nss → ∃ ks : List (Addr × List Int), vs = ks.map (fun p => V.ref p.1) ∧ nss = ks.map (·.2) ∧ ∀ p ∈ ks, F p.1 = some (.tup (p.2.map V.int))
  | [], _, _, .nil, h => by cases h; exact ⟨[], rfl, rfl, fun _ z => by cases z⟩
  | d :: ds, _, nss, .cons r t, h => by
    cases d with
    | tuple xs =>
      unfold tupsOf at h
      cases e1 : numsOf xs with
      | none => rw [e1] at h; cases h
      | some ns =>
        cases e2 : tupsOf ds with
        | none => rw [e1, e2] at h; cases h
        | some ms =>
          rw [e1, e2] at h
          cases h
          obtain ⟨ks, rfl, rfl, h3⟩ := tupsOf_rp t e2
          obtain ⟨p, vs', rfl, hp, q⟩ := r.tupI
          refine ⟨(p, ns) :: ks, rfl, rfl, fun z hz => ?_⟩
          rcases List.mem_cons.mp hz with rfl | hz
          · rw [nums_inv e1] at q
            rw [hp, ints_V q]
          · exact h3 z hz
    | _ => cases h
theorem exists_bound : ∀ nss : List (List Int), ∃ B : Int, ∀ ns ∈ nss, ∀ n ∈ ns, n < B
  | [] => ⟨0, fun _ z => by cases z⟩
  | ns :: nss => by
    obtain ⟨B, h⟩ := exists_bound nss
    have h2 : ∀ ms : List Int, ∃ C : Int, ∀ n ∈ ms, n < C := by
      intro ms
      induction ms with
      | nil => exact ⟨0, fun _ z => by cases z⟩
      | cons m ms ih =>
        obtain ⟨C, h⟩ := ih
        refine ⟨max C (m + 1), fun n hn => ?_⟩
        rcases List.mem_cons.mp hn with rfl | hn
        · omega
        · have := h n hn; omega
    obtain ⟨C, h3⟩ := h2 ns
    refine ⟨max B C, fun ms hms n hn => ?_⟩
    rcases List.mem_cons.mp hms with rfl | hms
    · have := h3 n hn; omega
    · have := h ms hms n hn; omega
open Classical in
noncomputable def mSortedSet (f : Mx W) : Mx W := bnd f fun w ρ => match w.lst ρ with
  | some xs => (match tupsOf xs with
    | some nss => if U nss then .ok (.l ((srtU nss).map fun ns => PyData.tuple (ns.map .int))) ρ else .st
    | none => .st)
  | none => .st
section
variable {X : Cx} {Γ : Cn} {Wx : WX} {e : Expr} {f : Mx W}
theorem de_sortedSet {p p2 pos pos2 : Pos} (hm : X.mg "sorted" = none) (hm2 : X.mg "set" = none) (he : DE X Γ Wx e f) (hc : X.calm = true) (hu : X.A.units + 65 < cLine) (hK : X.K = Γ.K := by rfl) (hg : Gl X "sorted" := by rfl) (hg2 : Gl X "set" := by rfl)
    (hs : starEach [e] X.env = (false, eval e X.env) :: starEach [] X.env := by rfl)
    (hs2 : starEach [.Call (.Name "set" p2) [e] [] pos2] X.env = (false, eval (.Call (.Name "set" p2) [e] [] pos2) X.env) :: starEach [] X.env := by rfl) :
    DE X Γ Wx (.Call (.Name "sorted" p) [.Call (.Name "set" p2) [e] [] pos2] [] pos) (mSortedSet f) :=
  PE.imp (pe_callB (cr_sortedT hc) hg hm boot_sorted (pa_cons (pe_callTy (cr_setOfT hc (by omega)) hg2 hm2 boot_set (pa_cons he pa_nil hs) (by decide) (by decide) hs rfl) pa_nil hs2) (by decide) (by decide) hs2 rfl) fun σ H Q ⟨F, ρ, R, h⟩ => by
    refine ⟨F, ρ, R, post_bnd (s := ⟨F, σ, H, ρ⟩) h fun v w F1 H1 ρ1 R1 S1 r1 h1 => ?_⟩
    cases e1 : w.lst ρ1 with
    | none => rw [e1] at h1; exact h1.elim
    | some xs =>
      rw [e1] at h1
      simp only at h1
      cases e2 : tupsOf xs with
      | none => rw [e2] at h1; exact h1.elim
      | some nss =>
        rw [e2] at h1
        simp only at h1
        split at h1
        · rename_i hU
          obtain ⟨h64, d, hd, hall⟩ := hU
          obtain ⟨q, vs, rfl, hq, hr⟩ := VRep.lst (s := ⟨F1, σ, H1, ρ1⟩) R1 r1 e1
          obtain ⟨ks, rfl, rfl, hks⟩ := tupsOf_rp hr e2
          rw [List.length_map] at h64
          obtain ⟨B, hB⟩ := exists_bound (ks.map (·.2))
          rw [hK]
          refine ⟨q, ks, rfl, hq, fun p hp => SqT.of (R1.sub _ _ (hks p hp)), h64, fun a L ha hL1 hL2 => ?_⟩
          obtain ⟨R2, S2⟩ := R1.alloc (np := Γ.np) (p := a) (o := SetTO X.prog X.w a L) (F' := F1) ha (.inl rfl)
          refine ⟨a, L, d, B, rfl, upd_same, fun p hp => SqT.of (R2.sub _ _ (hks p (hL1 p hp))), hd, fun p hp => ?_, fun L' l pm nd _ pw hl => ?_⟩
          · have hm : p.2 ∈ ks.map (·.2) := List.mem_map.mpr ⟨p, hL1 p hp, rfl⟩
            obtain ⟨h3, h4⟩ := hall p.2 hm
            exact ⟨h3, fun n hn => ⟨h4 n hn, hB p.2 hm n hn⟩⟩
          · have hmem : ∀ p ∈ L', p ∈ ks := fun p hp => hL1 p (pm.mem_iff.mp hp)
            have e3 : L'.map (·.2) = srtU (ks.map (·.2)) := by
              refine rise_eq ?_ (srtU_lt _) fun x => ?_
              · rw [List.pairwise_map]
                have nd' := List.pairwise_map.mp nd
                refine (List.Pairwise.and_mem.mp (pw.and nd')).imp fun {p r} h => ?_
                obtain ⟨hp, hr, hpw, hne⟩ := h
                have m1 : p.2 ∈ ks.map (·.2) := List.mem_map.mpr ⟨p, hmem p hp, rfl⟩
                have m2 : r.2 ∈ ks.map (·.2) := List.mem_map.mpr ⟨r, hmem r hr, rfl⟩
                have a1 := hall p.2 m1
                have a2 := hall r.2 m2
                exact code_ne (a1.1.trans a2.1.symm) (fun n hn => ⟨a1.2 n hn, hB p.2 m1 n hn⟩) (fun n hn => ⟨a2.2 n hn, hB r.2 m2 n hn⟩) hpw hne
              · rw [srtU_mem]
                constructor
                · intro hx
                  obtain ⟨p, hp, rfl⟩ := List.mem_map.mp hx
                  exact List.mem_map.mpr ⟨p, hmem p hp, rfl⟩
                · intro hx
                  obtain ⟨p, hp, rfl⟩ := List.mem_map.mp hx
                  obtain ⟨r, hr, er⟩ := List.mem_map.mp (hL2 p hp)
                  exact List.mem_map.mpr ⟨r, pm.mem_iff.mpr hr, er⟩
            have hrp : RpA F1 (L'.map fun q => V.ref q.1) ((srtU (ks.map (·.2))).map fun ns => PyData.tuple (ns.map .int)) := by
              rw [← e3, List.map_map]
              have key : ∀ M : List (Addr × List Int), (∀ p ∈ M, p ∈ ks) → RpA F1 (M.map fun q => V.ref q.1) (M.map ((fun ns => PyData.tuple (ns.map .int)) ∘ fun x => x.2)) := by
                intro M
                induction M with
                | nil => intro _; exact .nil
                | cons m M ih =>
                  intro hM
                  refine .cons (.tup (hks m (hM m List.mem_cons_self)) ?_) (ih fun p hp => hM p (List.mem_cons_of_mem _ hp))
                  have : ∀ ns : List Int, RpA F1 (ns.map V.int) (ns.map PyData.int) := by
                    intro ns
                    induction ns with
                    | nil => exact .nil
                    | cons n ns ih => exact .cons (.int n) ih
                  exact this _
              exact key L' hmem
            exact Post.lst (s := ⟨F1, σ, upd H1 a (SetTO X.prog X.w a L), ρ1⟩) R2 (Post.step (s1 := ⟨F1, σ, upd H1 a (SetTO X.prog X.w a L), ρ1⟩) (S1.trans S2 |> fun _ => S2) rfl (Post.step (s := ⟨F1, σ, H1, ρ1⟩) (s1 := ⟨F1, σ, H1, ρ1⟩) (Step.refl _) rfl h1)) hrp hl
        · exact h1.elim
end
end TD
namespace TD
open PySem PySem.Spec PyProof.Rows L2
section
variable {X : Cx} {Γ : Cn} {Wx : WX} {o i e : Expr} {fo fi fv : Mx W} {pos tpos : Pos}
/-! ### l[i] += y, y a number as written -/
def rGetL (K : PySem.W.Frag) : V → V → Hp → VK → Prop := fun o i H Q => ∃ (p : Addr) (xs : List V) (k : Int) (x : V), o = .ref p ∧ i = .int k ∧ SqL K H p xs ∧ 0 ≤ k ∧ xs[k.toNat]? = some x ∧ Q x H
theorem get_listI : PGet X (rGetL X.K) := by
  intro pins s σ H o i ov iv Q I ro ri h
  obtain ⟨p, xs, k, x, rfl, rfl, hq, h0, hx, q⟩ := h
  obtain rfl : ov = Value.ref p := ro
  obtain ⟨t, rfl⟩ := ri
  obtain ⟨its, r, pl, hz⟩ := I.list hq
  obtain ⟨w, ew, rw'⟩ := r.get hx
  have hk : k.toNat < xs.length := (List.getElem?_eq_some_iff.mp hx).1
  have hl := r.length
  have h63 : sizeLine < 2 ^ 63 := by decide
  exact wpAny_getItem_list pl.isList h0 (by omega) (by simpa using ew) ⟨x, H, I, rw', q⟩
def gAugI (op : Int → Int → Int) (y : Int) (wo wi : W) (ρ : Env) : Option Env := match wo, wi.asD ρ with
  | .c j, some (.int k) => (match ρ[j]? with
    | some (some (.l xs)) => if 0 ≤ k then (match xs[k.toNat]? with
      | some (.int x) => some (ρ.set j (some (.l (xs.set k.toNat (.int (op x y))))))
      | _ => none) else none
    | _ => none)
  | _, _ => none
def sAugI (op : Int → Int → Int) (y : Int) (fo fi : Mx W) : Mx Fl := bnd fo fun wo => bnd fi fun wi ρ => match gAugI op y wo wi ρ with
  | some ρ' => .ok .nx ρ'
  | none => .st
theorem ds_augI {op : Int → Int → Int} {oo : Operator} {y : Int} {j : Nat} {p3 : Pos} (hop : PIp X oo (ipI op)) (ho : DE X Γ Wx o fo) (hi : DE X Γ Wx i fi) (hK : X.K = Γ.K := by rfl)
    (ha : ∀ ov iv new, augStore i ov iv new = (do holding [new, ov, iv] (setItem ov iv new); release [new, ov, iv] []; pure .next) := by intros; rfl) : DS X Γ Wx (.AugAssign (.Subscript o i tpos) oo (.Constant (.int y) j p3) pos) (sAugI op y fo fi) :=
  PS.imp (ps_augS ho hi get_listI pe_int hop set_list ha) fun Dn σ H ⟨F, ρ, R, h⟩ => ⟨F, ρ, R, postsv_from (s0 := ⟨F, σ, H, ρ⟩) (s := ⟨F, σ, H, ρ⟩) (Step.refl _) h fun v2 w2 F2 H2 ρ2 R2 S2 r2 h2 =>
    ⟨F2, ρ2, R2, postsv_from (s0 := ⟨F, σ, H, ρ⟩) (s := ⟨F2, σ, H2, ρ2⟩) S2 h2 fun v3 w3 F3 H3 ρ3 R3 S3 r3 h3 => by
      have S13 : Step Γ.np ⟨F, σ, H, ρ⟩ ⟨F3, σ, H3, ρ3⟩ := S2.trans S3
      cases e1 : gAugI op y w2 w3 ρ3 with
      | none => rw [e1] at h3; exact h3.elim
      | some ρ' =>
        rw [e1] at h3
        unfold gAugI at e1
        split at e1
        · rename_i jj k e2
          split at e1
          · rename_i xs hb
            split at e1
            · rename_i h0
              split at e1
              · rename_i x hx
                cases e1
                have r2' : σ[jj]? = some (some v2) := r2
                obtain ⟨p, us, rfl, hp, q⟩ := R3.cellL (i := jj) r2' hb
                obtain ⟨u, hu, qu⟩ := q.get hx
                obtain rfl := qu.intV
                have hk : k.toNat < us.length := (List.getElem?_eq_some_iff.mp hu).1
                obtain ⟨R4, S4⟩ := R3.write S13 r2' hb (q.set (.int (op x y)) k.toNat)
                have ev := (r3.data R3 e2).intV
                subst ev
                rw [hK]
                refine ⟨p, us, k, .int x, rfl, rfl, SqL.of hp, h0, hu, ⟨x, y, rfl, rfl, ?_⟩⟩
                refine ⟨p, us, k, k.toNat, rfl, rfl, hp, ?_, h3 _ σ _ R4 S4⟩
                unfold ixN
                rw [if_pos h0, if_pos (by omega)]
              · cases e1
            · cases e1
          · cases e1
        · cases e1⟩⟩
end
/-! ### l * n, l a list of one's own made here -/
def rMulC (K : PySem.W.Frag) : R2 := fun x y H Q => rRep x y H Q ∨ rMulB K x y H Q
theorem op_mulC {X : Cx} : OpR X (binaryOp .Mult) (rMulC X.K) := OpR.or op_rep op_mulB
def gMulC (w1 w2 : W) : Env → Out W := fun ρ => match w1, w2.asD ρ with
  | .l xs, some (.int k) => if -1000000 ≤ k ∧ k ≤ 1000000 ∧ xs.length * k.toNat ≤ 100000 then .ok (.l (List.replicate k.toNat xs).flatten) ρ else .st
  | _, _ => gMulA w1 w2 ρ
section
variable {X : Cx} {Γ : Cn} {Wx : WX}
theorem ok_mulC : Ok2 Γ Wx (rMulC Γ.K) gMulC := fun s v1 v2 w1 w2 H1 H2 Q R r1 r2 h => by
  unfold gMulC at h
  split at h
  · rename_i xs k e2
    split at h
    · rename_i hk
      obtain ⟨p, vs, rfl, hp, q, hF, h0, nc⟩ := r1
      have hz := sz5 hk.2.2
      have hl := q.length
      exact .inl ⟨p, k, vs, rfl, (r2.data R e2).intV, hp, by omega, by omega, by rw [hl]; exact hz, fun l hl' => h.lst R (q.rep _) hl'⟩
    · exact h.elim
  · exact .inr (ok_mulB s v1 v2 _ _ H1 H2 Q R r1 r2 h)
end
/-! ### enumerate of a tuple -/
section
theorem meets_enumT (t : Addr) (items : Array Value) :
    Meets (Builtin.«enumerate.__new__» ⟨[.type "enumerate", .ref t], []⟩) (fun _ R s => s.heap.IsTuple t items ∧
      R (.ok (.ret (.ref (s.heap.push { cls := .type "tuple_iterator", data := .fields #[.ref t, .int 0 0] }).objs.size)))
        { s with heap := (s.heap.push { cls := .type "tuple_iterator", data := .fields #[.ref t, .int 0 0] }).push { cls := .type "enumerate", data := .fields #[.none, .bool false, .ref s.heap.objs.size, rawInt 0, .none, .none] } }) :=
  .of_wp fun prog w A R s hyp => by
    obtain ⟨heap0, gens0, drawn0, toks0, os0⟩ := s
    obtain ⟨hT, fin⟩ := hyp
    have hsub := sub_enumerate
    have step : ∀ {A' : Around} {E : Value → Shared → Prop} {Q : Value → Shared → Prop}, Q (.ref heap0.objs.size) ⟨heap0.push { cls := .type "tuple_iterator", data := .fields #[.ref t, .int 0 0] }, gens0, drawn0, toks0, os0⟩ → wpAny (model prog w) A' (pyIter (.ref t)) Q E ⟨heap0, gens0, drawn0, toks0, os0⟩ :=
      fun q => (begins_tuple t items).iter prog w _ _ ⟨heap0, gens0, drawn0, toks0, os0⟩ _ hT q
    wp_walk using step
    refine wpAny_stack_any fun stk => wpAny_pure ?_
    split
    · rename_i c _ _ _ _ _
      cases (c == Value.type "enumerate")
      all_goals
        wp_walk using step
        exact ⟨_, rfl, fin⟩
    · wp_walk using step
      exact ⟨_, rfl, fin⟩
variable {prog : Program} {w : World} {A : Around} {E : Value → Shared → Prop} {s : Shared}
theorem call_enumT {t : Addr} {items : Array Value} {Q : Value → Shared → Prop} (hT : s.heap.IsTuple t items)
    (h : ∀ h', IsEnum h' (s.heap.objs.size + 1) s.heap.objs.size 0 .none → h'.IsTupleIter s.heap.objs.size t 0 → h'.objs.size = s.heap.objs.size + 2 →
      (∀ b o, s.heap.get? b = some o → h'.get? b = some o) → Q (.ref (s.heap.objs.size + 1)) { s with heap := h' }) : wpAny (model prog w) A (call (.type "enumerate") [.ref t]) Q E s := by
  refine callType_new F.called_enumerate (by decide) (F.typeCall_enumerate_1 _) (F.newCall_enumerate_1 _) (fun ob => F.args_object_init_2 ob _) F.entry_enumerate_new (meets_enumT t items) ⟨hT, ?_⟩
  generalize hi : ({ cls := .type "tuple_iterator", data := .fields #[.ref t, .int 0 0] } : Obj) = itO
  have sz : (s.heap.push itO).objs.size = s.heap.objs.size + 1 := Heap.size_push ..
  have fr : itO.isFreed = false := by rw [← hi]; rfl
  generalize he : ({ cls := .type "enumerate", data := .fields #[.none, .bool false, .ref s.heap.objs.size, rawInt 0, .none, .none] } : Obj) = enO
  have fe : enO.isFreed = false := by rw [← he]; rfl
  have g : ((s.heap.push itO).push enO).get? (s.heap.objs.size + 1) = some enO := by
    rw [← sz]
    exact Heap.get?_push_size _ fe
  have en : IsEnum ((s.heap.push itO).push enO) (s.heap.objs.size + 1) s.heap.objs.size 0 .none := by
    unfold IsEnum
    rw [g, ← he]
  show _ ∧ _
  rw [sz]
  refine ⟨⟨_, en, rfl⟩, h _ en ⟨itO, Heap.get?_push_of_some _ (Heap.get?_push_size _ fr), by rw [← hi], by rw [← hi]; rfl⟩ (by rw [Heap.size_push, sz]) fun b ob x => Heap.get?_push_of_some _ (Heap.get?_push_of_some _ x)⟩
end
/-- the tuple at a, each item in a new pair with its place -/
def IteT (K : PySem.W.Frag) (a : Addr) : It :=
  ⟨fun i H => ∃ (xs : List V) (x : V), SqT K H a xs ∧ xs[i]? = some x, fun i H v H' => ∃ T x, v = .ref T ∧ H T = none ∧ H' = upd H T (.tup [.int (i : Nat), x]) ∧ ∀ xs, SqT K H a xs → xs[i]? = some x, fun i H => ∃ xs : List V, SqT K H a xs ∧ xs.length ≤ i⟩
theorem turn_enumT {P : Program} {w : World} {K : PySem.W.Frag} {elts : List Expr} {kk : Nat} {tpos : Pos} (a e it : Addr) :
    Turn P w K (.Tuple elts kk tpos) (IteT K a) [e, it] e (fun i h => (∃ old, IsEnum h e it ((i : Nat) : Int) old) ∧ h.IsTupleIter it a i ∧ e ≠ it ∧ a ≠ it ∧ e ≠ a) where
  mem := by simp
  obj := fun i h st b hb => by
    obtain ⟨⟨old, en⟩, ⟨ob, g1, g2, g3⟩, _⟩ := st
    rcases (by simpa using hb : b = e ∨ b = it) with z | z
    · subst z; exact ⟨_, en, fun v q => nomatch q⟩
    · subst z; exact ⟨ob, g1, fun v q => by rw [g3] at q; cases q⟩
  keep := fun i h h' st k => let ⟨⟨old, en⟩, hi, hne⟩ := st; ⟨⟨old, k e (by simp) _ en⟩, hi.at fun ob q => k it (by simp) ob q, hne⟩
  item := by
    intro X hP hw hK hc i pins s σ H E I hf st hg
    subst hP hw hK
    obtain ⟨⟨old, en⟩, hit, hne, hai, hea⟩ := st
    obtain ⟨xs, x, hq, hx⟩ := hg
    obtain ⟨its, rv, p, hz⟩ := I.tuple hq
    obtain ⟨u, hu, ru⟩ := rv.get hx
    have lt_e : e < s.heap.objs.size := Heap.lt_size en
    have lt_it : it < s.heap.objs.size := by obtain ⟨_, q, _⟩ := hit; exact Heap.lt_size q
    have hil : i < its.toArray.size := by
      have := (List.getElem?_eq_some_iff.mp hu).1
      simpa using this
    have dr := Draws.tuple (prog := X.prog) (w := X.w) (A := X.A.in1) (I.ok.hd hc) it a hai its.toArray
    refine wpAny_pyNext_enum_itemD dr en ⟨hit, p⟩ hil hne (by simp [hne, hea]) fun y h' tk hy ho hst' hT hsz hk => ?_
    have ey : y = u := by
      have hu' : its.toArray[i]? = some u := by simpa using hu
      rw [hu'] at hy
      exact (Option.some.inj hy).symm
    subst ey
    refine ⟨_, rfl, wpAny_letOwnedTupleGo_enum (s := { s with heap := h', toks := tk + 1 }) ho fun h'' en' sb => ?_⟩
    have hT2 : h''.get? s.heap.objs.size = some { cls := .type "tuple", data := .seq #[.int i tk, y] } := (sb.2 _ (Nat.ne_of_gt lt_e)).trans hT
    have new : ObjOk X.prog X.w (upd H s.heap.objs.size (.tup [.int (i : Nat), x])) h'' s.heap.objs.size (.tup [.int (i : Nat), x]) :=
      ⟨by show 2 ≤ sizeLine; decide, [.int i tk, y], .cons ⟨_, rfl⟩ (.cons ru .nil), ⟨_, hT2, rfl, _, rfl⟩⟩
    have J : Inv X pins σ (upd H s.heap.objs.size (.tup [.int (i : Nat), x])) { s with heap := h'', toks := tk + 1 } :=
      I.turnedNew (ch := [e, it]) (fun b ob hb q => (sb.2 b fun z => hb (by rw [z]; simp)).trans (hk b ob (fun z => hb (by rw [z]; simp)) (fun z => hb (by rw [z]; simp)) q)) hf (Nat.le_refl _) new
    refine ⟨.ref s.heap.objs.size, _, J, rfl, ⟨_, x, rfl, I.hok.fresh (Nat.le_refl _), rfl, fun zs hzs => by rw [I.tuple_inj hzs hq]; exact hx⟩, ⟨⟨y, ?_⟩, hst'.1.at fun ob q => (sb.2 it (Ne.symm hne)).trans q, hne, hai, hea⟩, fun b hb => ?_⟩
    · rw [show ((i + 1 : Nat) : Int) = (i : Int) + 1 from rfl]
      exact en'
    · have lt : b < s.heap.objs.size := by
        rcases (by simpa using hb : b = e ∨ b = it) with z | z
        · subst z; exact lt_e
        · subst z; exact lt_it
      rw [upd_ne (Nat.ne_of_lt lt)]
      exact (hf b hb).1
  done := by
    intro X hP hw hK hc i pins s σ H E I hf st hg
    subst hP hw hK
    obtain ⟨⟨old, en⟩, hit, hne, hai, hea⟩ := st
    obtain ⟨xs, hq, hx⟩ := hg
    obtain ⟨its, rv, p, hz⟩ := I.tuple hq
    obtain ⟨f0, f1, f2, f3, f4, f5⟩ := hf it (by simp)
    have hl := rv.length
    have dr : Draws X.prog X.w X.A.in1 it [it, a] i (fun _ _ => False) (fun j h => j = i ∧ h.IsTupleIter it a j ∧ h.IsTuple a its.toArray) := by
      refine ⟨fun _ _ st => ?_, fun _ _ _ st k => ⟨st.1, st.2.1.at fun ob q => k it (by simp) ob q, st.2.2.at fun ob q => k a (by simp) ob q⟩, fun j s Q E hj st hQ => absurd st.1 (Nat.ne_of_lt hj), fun s Q E st hE => wpAny_nextOf_tuple_end (I.ok.hd hc) st.2.1 st.2.2 (by simp; omega) hE⟩
      obtain ⟨ob, ho, _⟩ := st.2.1
      exact ⟨ob, ho⟩
    exact wpAny_pyNext_enum_endD dr en ⟨rfl, hit, p⟩ fun h' eb => ⟨rfl, I.turned (t' := s.toks) (fun b ob hb q => eb b ob hb q) f0 f1 f3 f4 f5⟩
  self := fun A i s Q E st h => let ⟨⟨_, en⟩, _⟩ := st; wpAny_pyIter_enum en h
def iEnumT (K : PySem.W.Frag) (ta : TA) : TI := fun σ H R => ta σ H fun vs H1 => ∃ (a : Addr) (xs : List V), vs = [.ref a] ∧ SqT K H1 a xs ∧ R (IteT K a) H1
theorem pi_enumT {X : Cx} {e : Expr} {ta : TA} {p pos tpos : Pos} {elts : List Expr} {kk : Nat} (hg : Gl X "enumerate") (hm : X.mg "enumerate" = none) (ha : PA X [e] ta) (hs : starEach [e] X.env = [(false, eval e X.env)] := by rfl) :
    PI X (.Tuple elts kk tpos) (.Call (.Name "enumerate" p) [e] [] pos) (iEnumT X.K ta) := by
  refine ⟨fun pins s σ H R I h => Call_ (ld_blt I hg hm boot_enumerate (PyProof.Rows.callWith_type1 (thn (ha.run pos pins s σ H _ I h) fun us s1 ⟨vs, G, J, r1, a, xs, ex, hq, q⟩ => ?_) hs rfl))⟩
  subst ex
  cases r1 with
  | cons r rr =>
    cases rr
    cases r
    obtain ⟨its, rv, pt, hz⟩ := J.tuple hq
    have la : a < s1.heap.objs.size := by obtain ⟨ob, ho, _⟩ := id pt; exact Heap.lt_size ho
    refine call_enumT (show s1.heap.IsTuple a its.toArray from pt) fun h' en hit hsz hk => wpAny_pyIter_enum en ?_
    have J2 : Inv X pins σ G { s1 with heap := h' } := J.kept (t' := s1.toks) hk
    refine ⟨s1.heap.objs.size + 1, [s1.heap.objs.size + 1, s1.heap.objs.size], _, _, G, rfl, J2, turn_enumT a (s1.heap.objs.size + 1) s1.heap.objs.size, ⟨⟨.none, en⟩, hit, Nat.succ_ne_self _, Nat.ne_of_lt la, Nat.ne_of_gt (Nat.lt_succ_of_lt la)⟩, fun b hb => ?_, q⟩
    have le : s1.heap.objs.size ≤ b := by
      rcases (by simpa using hb : b = s1.heap.objs.size + 1 ∨ b = s1.heap.objs.size) with z | z
      · rw [z]; exact Nat.le_add_right _ _
      · rw [z]; exact Nat.le_refl _
    exact J.fpOk le (J.hok.fresh le)
def gEnumA (ws : List W) (ρ : Env) : Out Walk := match datums ws ρ with
  | some ([.list xs], ρ') => .ok (enumD xs, none) ρ'
  | some ([.tuple xs], ρ') => .ok (enumD xs, none) ρ'
  | _ => .st
def mEnumA (fs : Mx (List W)) : Mx Walk := bnd fs gEnumA
section
variable {X : Cx} {Γ : Cn} {Wx : WX} {a : Expr} {fs : Mx (List W)} {pos tpos : Pos} {elts : List Expr} {kk : Nat}
theorem iter_enumT {s : Sx} {p : Addr} {vs : List V} {xs : List D} (R : Rel Γ.K s) (hp : s.F p = some (.tup vs)) (r1 : RpA s.F vs xs) : IterOk Γ s (IteT Γ.K p) (enumD xs) := fun i s' S' R' => by
  have m := S'.mono R
  have h1 : SqT Γ.K s'.H p vs := SqT.of (R'.sub _ _ (m _ _ hp))
  unfold enumD
  refine ⟨fun hi => ⟨vs, h1, by rw [r1.length]; simpa using hi⟩, fun d hd => ?_⟩
  rw [List.getElem?_mapIdx, Option.map_eq_some_iff] at hd
  obtain ⟨x, e1, rfl⟩ := hd
  obtain ⟨v, ev, rv⟩ := r1.get e1
  refine ⟨⟨vs, v, h1, ev⟩, fun v' H' ⟨T, x', z1, z2, z3, z4⟩ => ?_⟩
  subst z1 z3
  have g1 := z4 _ h1
  rw [ev] at g1
  cases g1
  exact pair_new R' z2 (.int _) (rv.mono m)
theorem di_enumA {p : Pos} (hm : X.mg "enumerate" = none) (ha : DA X Γ Wx [a] fs) (hK : X.K = Γ.K := by rfl) (hg : Gl X "enumerate" := by rfl) (hs : starEach [a] X.env = [(false, eval a X.env)] := by rfl) :
    DI X Γ Wx (.Tuple elts kk tpos) (.Call (.Name "enumerate" p) [a] [] pos) (mEnumA fs) :=
  PI.imp (PI.or (pi_enum hg hm ha hs) (pi_enumT hg hm ha hs)) fun σ H Q ⟨F, ρ, R, h⟩ => by
    unfold mEnumA bnd at h
    cases e0 : fs ρ with
    | st => rw [e0] at h; exact h.elim
    | er c ρ1 => rw [e0] at h; exact .inl ⟨F, ρ, R, by rw [e0]; exact h⟩
    | ok ws ρ1 =>
      rw [e0] at h
      unfold gEnumA at h
      cases e1 : datums ws ρ1 with
      | none => simp only [e1] at h; exact h.elim
      | some q1 =>
        obtain ⟨ds, ρ2⟩ := q1
        simp only [e1] at h
        split at h
        · rename_i xs ρ' e3
          cases e3
          refine .inl ⟨F, ρ, R, ?_⟩
          rw [e0, hK]
          intro vs F1 H1 R1 S1 r
          obtain ⟨F2, R2, S2, q, _⟩ := datums_ok (s := ⟨F1, σ, H1, ρ1⟩) R1 S1 r e1
          match vs, q with
          | [v], .cons r1 .nil =>
            obtain ⟨p1, us1, rfl, g1, q1⟩ := r1.lstI
            exact ⟨p1, us1, rfl, SqL.of (R2.sub _ _ g1), h _ F2 H1 R2 S2 (fun j z => by cases z) (iter_enum R2 g1 q1)⟩
        · rename_i xs ρ' e3
          cases e3
          refine .inr ⟨F, ρ, R, ?_⟩
          rw [e0, hK]
          intro vs F1 H1 R1 S1 r
          obtain ⟨F2, R2, S2, q, _⟩ := datums_ok (s := ⟨F1, σ, H1, ρ1⟩) R1 S1 r e1
          match vs, q with
          | [v], .cons r1 .nil =>
            obtain ⟨p1, us1, rfl, g1, q1⟩ := r1.tupI
            exact ⟨p1, us1, rfl, SqT.of (R2.sub _ _ g1), h _ F2 H1 R2 S2 (fun j z => by cases z) (iter_enumT R2 g1 q1)⟩
        · exact h.elim
end
/-! ### a def that calls itself -/
theorem okd_st {P : Program} {w : World} {K : PySem.W.Frag} {mg : Str → Option Value} {base : Heap} {x : Str} {st : Stmt} {ps : List Str} {k : Nat} (h : Df K mg x st ps) : Okd P w K mg base k x ps (fun _ => .st) := by
  obtain ⟨f, fd, F, b, g⟩ := h
  refine ⟨f, fd, ⟨fun vs H Q E h => ?_, fun A outer s H args us vs Q E _ _ _ _ h => ?_⟩, b, g, F.kp⟩
  · obtain ⟨_, _, _, z⟩ := h
    exact z.elim
  · obtain ⟨_, _, _, z⟩ := h
    exact z.elim
/-! ### // by a positive number below 2^64 -/
abbrev gDivW := p2 (gI (fun _ j => decide (0 < j) && decide (j < 18446744073709551616)) fun i j => i / j)
theorem ok_divW {Γ : Cn} {Wx : WX} : Ok2 Γ Wx (rI CDivW fun i j => .int (i / j)) gDivW := ok2_I fun i j h => by
  rw [Bool.and_eq_true, decide_eq_true_eq, decide_eq_true_eq] at h
  exact wide_div (b := 64) h.1 (by omega) (by decide) (by decide)
end TD
namespace TD
open PySem PySem.Spec PyProof.Rows L2
/-- a name that a block hands on stays handed on -/
theorem lookup_rel {env : PySem.Env} : ∀ {names : List (Str × NameKind)} {x : Str}, (names.lookup x = some .cell ∨ names.lookup x = some .free) → (names.map fun (n, k) => if (k == NameKind.free && env.scope.kind == .function && env.kindOf n == some .cell) then (n, NameKind.cell) else (n, k)).lookup x = some .cell ∨ (names.map fun (n, k) => if (k == NameKind.free && env.scope.kind == .function && env.kindOf n == some .cell) then (n, NameKind.cell) else (n, k)).lookup x = some .free
  | [], _, h => by simp at h
  | (n, k) :: r, x, h => by
    have ih := @lookup_rel env r x
    simp only [List.map_cons]
    cases hx : x == n with
    | true =>
      simp only [List.lookup_cons, hx] at h
      split
      · left; simp only [List.lookup_cons, hx]
      · simp only [List.lookup_cons, hx]; exact h
    | false =>
      simp only [List.lookup_cons, hx] at h
      split <;> (simp only [List.lookup_cons, hx]; exact ih h)
theorem blkOk_rel {N : List Str} {SC scope : Scope} {env : PySem.Env} {own : List (Str × Nat)} (h : blkC N SC scope own = true) : BlkOk N (relabel SC env) scope own := by
  have b := blkOk_by h
  exact ⟨b.kind, b.uniq, b.ix, fun y hy e => lookup_rel (b.free y hy e), b.own⟩
end TD
namespace TD
open PySem PySem.Spec PyProof.Rows L2
/-! ### a number in a tuple of numbers -/
def gInT (w1 w2 : W) : Env → Out W := fun ρ => match w1.asD ρ, w2.tup ρ with
  | some (.int i), some ds => (match numsOf ds with
    | some ns => .ok (.d (.bool (ns.any fun j => decide (j = i)))) ρ
    | none => .st)
  | _, _ => .st
theorem rpa_intsz {F : Hp} : ∀ {ns : List Int} {vs : List V}, RpA F vs (ns.map PyData.int) → vs = ns.map V.int
  | [], vs, h => by cases h; rfl
  | n :: ns, vs, h => by
    cases h with
    | cons h1 h2 => rw [h1.intV, rpa_intsz h2]; rfl
theorem flat_ints : ∀ ns : List Int, (ns.map V.int).all flatV = true
  | [] => rfl
  | n :: ns => by
    rw [List.map_cons, List.all_cons, flat_ints ns]
    rfl
theorem inV_ints (i : Int) : ∀ ns : List Int, inV (.int i) (ns.map V.int) = ns.any fun j => decide (j = i)
  | [] => rfl
  | n :: ns => by
    have ih := inV_ints i ns
    unfold inV at ih ⊢
    rw [List.map_cons, List.any_cons, List.any_cons, ih]
    congr 1
theorem ok_inT {Γ : Cn} {Wx : WX} : Ok2 Γ Wx (rIn Γ.K false) gInT := fun s v1 v2 w1 w2 H1 H2 Q R r1 r2 h => by
  unfold gInT at h
  split at h
  · rename_i i ds e1 e2
    split at h
    · rename_i ns e3
      obtain ⟨_, p, vs, rfl, _, q, q2⟩ := r2.tup R e2
      have e4 := nums_inv e3
      subst e4
      have e5 := rpa_intsz q2
      have e6 := (r1.data R e1).intV
      refine ⟨p, vs, rfl, .inr (SqT.of q), ?_, ?_, ?_⟩
      · rw [e6]; rfl
      · rw [e5]; exact flat_ints ns
      · rw [e6, e5]
        show Q (.bl (inV (.int i) (ns.map V.int))) _
        rw [inV_ints]
        exact h.val R (.bl _)
    · exact h.elim
  · exact h.elim
/-! ### [..].index(y), numbers -/
def mMethT (g : List D → List W → Env → Out W) (fo : Mx W) (fs : Mx (List W)) : Mx W := bnd fo fun w ρ => match w with
  | .l xs => bnd fs (fun ws => g xs ws) ρ
  | _ => .st
def gIdxT (xs : List D) (ws : List W) (ρ : Env) : Out W := match ws with
  | [w] => (match numsOf xs, w.asD ρ with
    | some ns, some (.int y) => if y ∈ ns then .ok (.d (.int (ns.idxOf y : Nat))) ρ else .st
    | _, _ => .st)
  | _ => .st
theorem eqV_int (i j : Int) : eqV (.int i) (.int j) = decide (i = j) := rfl
theorem idx_first : ∀ {ns : List Int} {y : Int} (m : Nat) (z : Int), m < ns.idxOf y → ns[m]? = some z → z ≠ y
  | [], y, m, z, _, h => by simp at h
  | n :: ns, y, m, z, hm, h => by
    rw [List.idxOf_cons] at hm
    by_cases e : n = y
    · subst e
      simp at hm
    · rw [show (n == y) = false by simpa using e] at hm
      cases m with
      | zero =>
        simp at h
        rw [← h]
        exact e
      | succ m =>
        simp at h hm
        exact idx_first m z hm h
section
variable {X : Cx} {Γ : Cn} {Wx : WX} {o e : Expr} {es : List Expr} {fo : Mx W} {fs : Mx (List W)} {apos cpos : Pos} {name : Str} {id : String}
theorem tBM_idx : ∀ σ H Q, tE Γ Wx (mMethT gIdxT fo fs) σ H Q → tBM Γ.K "list" (rIndex Γ.K) (tE Γ Wx fo) (tA Γ Wx fs) σ H Q := fun σ H Q ⟨F, ρ, R, h⟩ =>
  ⟨F, ρ, R, post_bnd (s := ⟨F, σ, H, ρ⟩) h fun v w F1 H1 ρ1 R1 S1 r1 h1 => by
    cases w with
    | l xs =>
      obtain ⟨p, us, rfl, hp, q, hF, hx, nc⟩ := r1
      simp only at h1
      refine ⟨.inl ⟨rfl, us, SqL.of hp⟩, F1, ρ1, R1, args_end (s := ⟨F1, σ, H1, ρ1⟩) h1 fun vs2 ws F2 H2 ρ2 R2 S2 r2 h2 => ?_⟩
      unfold gIdxT at h2
      split at h2
      · rename_i w
        split at h2
        · rename_i ns y e1 e2
          split at h2
          · rename_i hm
            obtain ⟨v2, rfl, q2⟩ := VReps.one r2
            have ey := (q2.data R2 e2).intV
            have e3 := nums_inv e1
            subst e3
            have eu := rpa_intsz q
            have hp2 : H2 p = some (.lst us) := S2.keep p _ hp nc
            have hlt := List.idxOf_lt_length_of_mem hm
            refine ⟨p, us, v2, ns.idxOf y, .int y, rfl, rfl, SqL.of hp2, by rw [ey]; rfl, by rw [eu]; exact flat_ints ns, ?_, by rw [ey, eqV_int]; simp, fun m z hlt2 hz => ?_, ?_⟩
            · rw [eu, List.getElem?_map, List.getElem?_eq_getElem hlt]
              simp
            · rw [eu, List.getElem?_map] at hz
              cases hn : ns[m]? with
              | none => rw [hn] at hz; cases hz
              | some z' =>
                rw [hn] at hz
                have hz : V.int z' = z := Option.some.inj hz
                rw [← hz, ey, eqV_int]
                exact decide_eq_false (idx_first m z' hlt2 hn)
            · have h2' : Post Γ Wx ⟨F2, σ, H2, ρ2⟩ (.ok (.d (.int (ns.idxOf y : Nat))) ρ2) Q := h2.step S2 rfl
              exact h2'.val R2 (.int _)
          · exact h2.elim
        · exact h2.elim
      · exact h2.elim
    | _ => exact h1.elim⟩
theorem de_indexT (ho : DE X Γ Wx o fo) (ha : DA X Γ Wx (e :: es) fs) (hK : X.K = Γ.K := by rfl)
    (hbase : attributeBase o "index" X.env (eval o X.env) = eval o X.env := by rfl)
    (hfew : ((backTo cpos (starEach (e :: es) X.env)).all (fun x => !x.1) && (backToKw cpos (keywordEach [] X.env)).all (fun x => x.1.isSome)
      && decide ((e :: es).length + ([] : List Keyword).length + (if ([] : List Keyword).isEmpty then 0 else 1) < 30)) = true := by rfl)
    (hline : (apos.endLine == cpos.line) = true := by rfl) (hs : starEach (e :: es) X.env = (false, eval e X.env) :: starEach es X.env := by rfl) (hplain : (backTo cpos (starEach es X.env)).any (·.1) = false := by rfl) :
    DE X Γ Wx (.Call (.Attribute o "index" apos) (e :: es) [] cpos) (mMethT gIdxT fo fs) :=
  PE.imp (pe_bm PySem.F.plainAttrs_list PySem.F.slot_list_index (by first | exact PySem.F.type_list_index | rfl) mt_index ho ha hbase hfew hline hs hplain) (by rw [hK]; exact tBM_idx)
end
/-! ### y = [..], frozen at once -/
def sSetF (np i : Nat) (f : Mx W) : Mx Fl := bnd f fun w ρ => match w.datum ρ with
  | some (d, ρ1) => (match store np i ρ1 (.d d) with
    | some ρ' => .ok .nx ρ'
    | none => .st)
  | none => .st
section
variable {X : Cx} {Γ : Cn} {Wx : WX} {a b c e tg : Expr} {f g f1 f2 : Mx W} {fs : Mx (List W)} {pos : Pos} {t : Mx Bool} {p q : Mx Fl}
theorem set_endF {f : Mx W} {s : Sx} {Dn : Ends} {i : Nat} (h : PostS Γ Wx s (sSetF Γ.np i f s.ρ) Dn) : Post Γ Wx s (f s.ρ) fun v H1 => Dn.nx (s.σ.set i (some v)) H1 :=
  posts_bnd h fun v w F1 H1 ρ1 R1 S1 r h1 => by
    cases e1 : w.datum ρ1 with
    | none => simp only [e1] at h1; exact h1.elim
    | some q =>
      obtain ⟨d, ρ2⟩ := q
      simp only [e1] at h1
      obtain ⟨F2, R2, S2, p1, _⟩ := datum_ok (s := ⟨F1, s.σ, H1, ρ1⟩) R1 S1 r e1
      cases hs : store Γ.np i ρ2 (.d d) with
      | none => simp only [hs] at h1; exact h1.elim
      | some ρ' =>
        simp only [hs] at h1
        obtain ⟨F', R', S'⟩ := store_ok (s := ⟨F2, s.σ, H1, ρ2⟩) (w := .d d) R2 S2 p1 hs
        exact h1 F' _ H1 R' S'
theorem ds_setLcF (i : Nat) {y : Str} {py : Pos} {elt tg iter : Expr} {ifs : List Expr} {scope : Scope} {own : List (Str × Nat)} {spos : Pos} {m : Mx Walk} {g : TG} {bd : Bd} {te : Mx W} (hc : X.calm = true) (hN : X.N.Nodup) (hi : DI X Γ Wx tg iter m) (ok : BlkOk X.N X.env.scope scope own)
    (hg : ∀ (s : Shared) (H : Hp) (C : Addr) (cl : List (Str × Addr)) (fp : List Addr), PG (X.blk s H scope (compEnvC scope cl C X.env) fp) tg g) (okg : OkGw Γ (own.map (·.2)) g bd) (hvs : (own.map (·.2)).all (fun i => decide (Γ.np ≤ i)) = true)
    (ht : ∀ (s : Shared) (H : Hp) (C : Addr) (cl : List (Str × Addr)) (fp : List Addr), DTs (X.blk s H scope (compEnvC scope cl C X.env) fp) Γ W0 ifs t)
    (he : ∀ (s : Shared) (H : Hp) (C : Addr) (cl : List (Str × Addr)) (fp : List Addr), DE (X.blk s H scope (compEnvC scope cl C X.env) fp) Γ W0 elt te)
    (hy : X.N[i]? = some y := by rfl) (hyl : X.env.scope.names.lookup y = some .local := by rfl) (hsw : swapsWith (.ListComp elt [⟨tg, iter, ifs, 0⟩] scope pos) (some (.Name y py)) spos.line X.env = pure true := by exact sw_true rfl rfl rfl (by decide +kernel))
    (hs : ∀ x, foldedSetIterable iter X.env x = pure x := by intro _; rfl) : DS X Γ Wx (.Assign [.Name y py] (.ListComp elt [⟨tg, iter, ifs, 0⟩] scope pos) spos) (sSetF Γ.np i (mComp (own.map (·.2)) m bd t te)) :=
  PS.imp (ps_setLc hc hN hy hyl hsw hi ok hg ht he hs) fun Dn σ H ⟨F, ρ, R, h⟩ => tLc_of okg (fun i h => of_decide_eq_true (List.all_eq_true.mp hvs i h)) σ H (fun v H1 => Dn.nx (σ.set i (some v)) H1) ⟨F, ρ, R, set_endF (s := ⟨F, σ, H, ρ⟩) h⟩
end
end TD
namespace TD
open PySem PySem.Spec PyProof.Rows L2
/-! ### a list is unpacked -/
def bdL (bds : List Bd) : Bd := fun d ρ => match d with
  | .list ds => bdAll bds ds ρ
  | _ => none
theorem lst_invz {F : Hp} {v : V} {xs : List D} (r : Rp F v (.list xs)) : ∃ p vs, v = .ref p ∧ F p = some (.lst vs) ∧ RpA F vs xs := by
  cases r with
  | lst e q => exact ⟨_, _, rfl, e, q⟩
theorem okGw_lst {Γ : Cn} {vs : List Nat} {n : Nat} {t : TGs} {bds : List Bd} (h : OkGsw Γ vs t bds) (hn : bds.length = n) : OkGw Γ vs (L2.gLst Γ.K n t) (bdL bds) := fun s v d ρ1 Q R r e q => by
  cases d with
  | list ds =>
    have e' : bdAll bds ds s.ρ = some ρ1 := e
    obtain ⟨p, us, rfl, f, ra⟩ := lst_invz r
    exact ⟨p, us, rfl, SqL.of (R.sub _ _ f), by rw [ra.length, bdAll_len e', hn], h s us ds ρ1 Q R ra e' q⟩
  | _ => cases e
end TD
namespace TD
open PySem PySem.Spec PyProof.Rows L2
/-! ### list(d.values()) -/
def tLstVals (K : PySem.W.Frag) (te : TE) : TE := fun σ H Q => te σ H fun v H1 => ∃ (d : Addr) (kvs : List (List Key × V)), v = .ref d ∧ Rd H1 d (.dT kvs) ∧ ∀ q, H1 q = none → Q (.ref q) (upd H1 q (.lst (kvs.map (·.2))))
theorem kt_vals {H : Hp} {kvs : List (List Key × V)} {xs : List (List Key × Addr × Value)} (r : KT H kvs xs) : Vals (kvs.map (·.2)) (xs.map fun x => x.2.2) := by
  induction r with
  | nil => exact .nil
  | cons h t ih => exact .cons h.2.2 ih
section
variable {X : Cx}
theorem pe_lstVals {e : Expr} {te : TE} {p apos cpos pos : Pos} (hc : X.calm = true) (hg : Gl X "list") (hm : X.mg "list" = none) (he : PE X e te)
    (hs2 : starEach [.Call (.Attribute e "values" apos) [] [] cpos] X.env = (false, eval (.Call (.Attribute e "values" apos) [] [] cpos) X.env) :: starEach [] X.env)
    (hbase : attributeBase e "values" X.env (eval e X.env) = eval e X.env) (hline : (apos.endLine == cpos.line) = true) :
    PE X (.Call (.Name "list" p) [.Call (.Attribute e "values" apos) [] [] cpos] [] pos) (tLstVals X.K te) := by
  refine ⟨fun pins s σ H Q I h => ?_⟩
  refine Call_ (ld_blt I hg hm boot_list (PyProof.Rows.callWith_type1 (args_cons (PySem.wpAny_Call_method (T := "dict") (id := "dict.values") hbase rfl hline F.plainAttrs_dict F.slot_dict_values F.type_dict_values (thn (he.run pins s σ H _ I h) fun u s1 ⟨x, H1, I1, rx, d, kvs, ex, hd, q⟩ => ?_)) hs2) hs2 rfl))
  subst ex
  obtain rfl : u = Value.ref d := rx
  obtain ⟨z, hsm, ks, pr, o, es, ep, ho, hx, hdt, hes, hn⟩ := (show ObjOk X.prog X.w H1 s1.heap d (.dT kvs) from hd.ok I1.hok)
  have l1 : es.size = ks.length := size_of_entries hes
  have l2 : kvs.length = ks.length := Paired.length pr
  have raw : s1.heap.DictRaw d es ep := ⟨o, ho, hx, hdt⟩
  refine ⟨raw.typeIs, fun a ha => ?_, ?_⟩
  · cases ha
    exact ⟨o, ho, hx.2.1⟩
  show wpAny _ _ (callWith cpos (.builtin "dict.values") [.ref d] [] []) _ X.xe s1
  refine PySem.method_meetsIn F.slot_dict_values F.entry_dict_values rfl (PySem.evalArgs_none ⟨rfl, raw.typeIs, F.args_dict_values_1 _, _, meets_dict_values_raw d hsm, ⟨es, ep, raw⟩, ?_⟩)
  refine args_nil ?_
  have hlt : d < s1.heap.objs.size := Heap.lt_size ho
  have hsz : s1.heap.objs.size ≤ (s1.heap.push { cls := .type "dict_values", data := .fields #[.ref d] }).objs.size := by simp [Heap.push]
  refine PySem.W.kdl_call (s := { s1 with heap := s1.heap.push { cls := .type "dict_values", data := .fields #[.ref d] } }) (PySem.KdlSrc.rawValues (r := s1.heap.objs.size) (d := d) (es := es) (ep := ep)) (I1.ok.hd hc) ⟨⟨_, Heap.get?_push_size _ rfl, rfl, rfl⟩, raw.push _⟩ (by omega) fun h' tk acc' c' kp e it => ?_
  have ea : acc'.toList = ks.map fun x => x.2.2 := by
    have hl : acc'.toList.length = ks.length := by rw [Array.length_toList, it.1]; exact l1
    apply List.ext_getElem?
    intro j
    rw [List.getElem?_map]
    cases hj : acc'.toList[j]? with
    | none =>
      have h1 := List.getElem?_eq_none_iff.mp hj
      rw [List.getElem?_eq_none (by omega)]
      all_goals rfl
    | some v =>
      obtain ⟨hi, hv⟩ := it.2 j v (by rw [← Array.getElem?_toList]; exact hj)
      have qe := entry_at hes j
      rw [Array.getElem?_eq_getElem hi] at qe
      cases hb : ks[j]? with
      | none =>
        rw [hb] at qe
        exact nomatch (show some es[j] = none from qe)
      | some b =>
        rw [hb] at qe
        have e2 : es[j] = entryOfKey (tupleKind (mixKind X.prog X.w)) b := Option.some.inj qe
        rw [hv, e2]
        all_goals rfl
  have rv : Vals (kvs.map (·.2)) acc'.toList := by rw [ea]; exact kt_vals pr
  have hz : (kvs.map (·.2)).length ≤ sizeLine := by rw [List.length_map]; omega
  have k : ∀ b o, s1.heap.get? b = some o → h'.get? b = some o := fun b o e => kp b o (Heap.get?_push_of_some _ e)
  refine ⟨.ref (s1.heap.push { cls := .type "dict_values", data := .fields #[.ref d] }).objs.size, upd H1 (s1.heap.push { cls := .type "dict_values", data := .fields #[.ref d] }).objs.size (.lst (kvs.map (·.2))), I1.laid (t' := tk) k hsz (show ObjOk X.prog X.w _ _ _ (.lst (kvs.map (·.2))) from ⟨hz, acc'.toList, c', rv, by rw [Array.toArray_toList]; exact e⟩), rfl, q _ (I1.hok.fresh hsz)⟩
end
theorem KvR.vals {F : Hp} {kws : List (List Key × V)} {kvs : List (List Key × D)} (r : KvR F kws kvs) : RpA F (kws.map (·.2)) (kvs.map (·.2)) := by
  induction r with
  | nil => exact .nil
  | cons h t ih => exact .cons h.2 ih
section
variable {X : Cx} {Γ : Cn} {Wx : WX} {e : Expr} {f : Mx W}
def mListVals (f : Mx W) : Mx W := bnd f fun w ρ => match w.tab ρ with
  | some kvs => .ok (.l (kvs.map fun kv => kv.2)) ρ
  | none => .st
theorem de_list_vals {p apos cpos pos : Pos} (hm : X.mg "list" = none) (he : DE X Γ Wx e f) (hc : X.calm = true) (hK : X.K = Γ.K := by rfl) (hg : Gl X "list" := by rfl)
    (hs2 : starEach [.Call (.Attribute e "values" apos) [] [] cpos] X.env = (false, eval (.Call (.Attribute e "values" apos) [] [] cpos) X.env) :: starEach [] X.env := by rfl)
    (hbase : attributeBase e "values" X.env (eval e X.env) = eval e X.env := by rfl) (hline : (apos.endLine == cpos.line) = true := by rfl) :
    DE X Γ Wx (.Call (.Name "list" p) [.Call (.Attribute e "values" apos) [] [] cpos] [] pos) (mListVals f) :=
  PE.imp (pe_lstVals hc hg hm he hs2 hbase hline) fun σ H Q ⟨F, ρ, R, h⟩ => by
    rw [hK]
    refine ⟨F, ρ, R, post_bnd (s := ⟨F, σ, H, ρ⟩) h fun v w F1 H1 ρ1 R1 S1 r1 h1 => ?_⟩
    cases e1 : w.tab ρ1 with
    | none => rw [e1] at h1; exact h1.elim
    | some kvs =>
      rw [e1] at h1
      obtain ⟨p, kws, ev, hq, q⟩ := VRep.tab (s := ⟨F1, σ, H1, ρ1⟩) R1 r1 e1
      exact ⟨p, kws, ev, .inl hq, fun l hl => Post.lst (s := ⟨F1, σ, H1, ρ1⟩) R1 h1 q.vals hl⟩
end
end TD
namespace TD
open PySem PySem.Spec PyProof.Rows L2
/-! ### a tuple of texts that stands at the top of a module, and its items -/
def TupC (K : PySem.W.Frag) (mg : Str → Option Value) (x : Str) (ss : List Str) : Prop :=
  ∃ (a : Addr) (o : Obj) (its : Array Value) (n : Nat), mg x = some (.ref a) ∧ K.lookup a = some o ∧ o.cls = .type "tuple" ∧ o.data = .seq its n ∧ its.size ≤ sizeLine ∧ Vals (ss.map V.str) its.toList
theorem tupC_mk {K : PySem.W.Frag} {h : Heap} {mg : Str → Option Value} {x : Str} {ss : List Str} {f : Addr} {o : Obj} {its : Array Value} {n : Nat} (X : K.In h) (G : h.Ns mainGlobals mg)
    (a : PySem.W.nsIn K mainGlobals x = some (some (.ref f))) (l : K.lookup f = some o) (c : o.cls = .type "tuple") (d : o.data = .seq its n) (z : its.size ≤ sizeLine) (v : Vals (ss.map V.str) its.toList) : TupC K mg x ss :=
  ⟨f, o, its, n, PySem.W.mg_of X G a, l, c, d, z, v⟩
def mIxK (ss : List Str) (f : Mx W) : Mx W := bnd f fun w ρ => match w.asD ρ with
  | some (.int i) => (match L2.atI ss i with
    | some s => .ok (.d (.str s)) ρ
    | none => .st)
  | _ => .st
theorem atI_map {α β : Type} (g : α → β) (xs : List α) (i : Int) : L2.atI (xs.map g) i = (L2.atI xs i).map g := by
  unfold L2.atI L2.ixN
  rw [List.length_map]
  split <;> (simp; rfl)
section
variable {X : Cx} {Γ : Cn} {Wx : WX} {e : Expr} {f : Mx W}
theorem de_ixK {x : Str} {ss : List Str} {p pos : Pos} (h : TupC X.K X.mg x ss) (he : DE X Γ Wx e f) (hs : PlainIx e) (hK : X.K = Γ.K := by rfl) (hg : Gl X x := by rfl) (hd : (x == ("__debug__" : Str)) = false := by decide) : DE X Γ Wx (.Subscript (.Name x p) e pos) (mIxK ss f) := by
  obtain ⟨a, o, its, n, h1, h2, h3, h4, h5, h6⟩ := h
  refine PE.imp (pe_ix ix_tup (pe_glob (v := .ref a) hg h1 rfl hd) he hs) fun σ H Q ⟨F, ρ, R, h⟩ => ?_
  show tE Γ Wx f σ H fun y H2 => rIxT X.K (.ref a) y H2 Q
  refine ⟨F, ρ, R, post_bnd (s := ⟨F, σ, H, ρ⟩) h fun v w F1 H1 ρ1 R1 S1 r1 h1 => ?_⟩
  cases e1 : w.asD ρ1 with
  | none => rw [e1] at h1; exact h1.elim
  | some y =>
    rw [e1] at h1
    cases y with
    | int i =>
      simp only at h1
      have q2 := (r1.data R1 e1).intV
      subst q2
      cases e3 : L2.atI ss i with
      | none => rw [e3] at h1; exact h1.elim
      | some z =>
        rw [e3] at h1
        exact ⟨a, ss.map V.str, i, .str z, rfl, rfl, .inr ⟨o, its, n, h2, h3, h4, h5, h6⟩, by rw [atI_map, e3]; rfl, h1.val R1 (.str z)⟩
    | _ => exact h1.elim
end
end TD
namespace TD
open PySem PySem.Spec PyProof.Rows L2
/-! ### max(a list, default=k) -/
def maxDf (k : Int) (ns : List Int) : Int := if ns = [] then k else maxL ns
def rMaxDf (K : PySem.W.Frag) (k : Int) : List V → List V → Hp → VK → Prop := fun vs zs H Q => ∃ (a : Addr) (ns : List Int), vs = [V.ref a] ∧ zs = [V.int k] ∧ SqL K H a (ns.map V.int) ∧ Q (.int (maxDf k ns)) H
section
variable {X : Cx} {Γ : Cn} {Wx : WX}
theorem cr_maxDf (k : Int) (hc : X.calm = true) (hu : X.A.units + 65 < cLine) : CallRK X (.builtin "max") [Str.ofString "default"] (rMaxDf X.K k) := by
  intro pins s σ H vs zs us ws Q I r rz h
  obtain ⟨a, ns, rfl, rfl, hs, q⟩ := h
  obtain ⟨its, rv, hl, _⟩ := I.list hs
  rw [Vals.ref1 r]
  cases rz with
  | cons h1 t =>
    cases t
    obtain ⟨t1, rfl⟩ := h1
    have hr := ints_reads (h := s.heap) rv
    refine PySem.W.max_list_default (vs := its.toArray) (xs := ns.map PyData.int) (as := []) (I.ok.hd hc) hl.isList (by simpa using hr) (ints_alike ns) (by rw [ints_depth ns]; omega) (fun e h' tk hk => ?_) fun y ys i v h' tk bs e hv rd hk => ?_
    · have e : ns = [] := List.map_eq_nil_iff.mp e
      subst e
      exact ⟨.int k, H, I.kept hk, ⟨_, rfl⟩, q⟩
    · cases ns with
      | nil => cases e
      | cons n ns =>
        rw [List.map_cons] at e
        injection e with e1 e2
        subst e1 e2
        rw [PySem.W.maxD_ints] at rd
        cases rd with
        | int i t =>
          obtain ⟨h1, h2, h3⟩ := fold_max ns n
          have em : ns.foldl max n = maxDf k (n :: ns) := by
            unfold maxDf
            rw [if_neg (by simp)]
            obtain ⟨m1, m2⟩ := maxL_spec (ns := n :: ns) (by simp)
            have a1 : maxL (n :: ns) ≤ ns.foldl max n := by
              rcases List.mem_cons.mp m1 with e | hm
              · rw [e]; exact h1
              · exact h2 _ hm
            have a2 : ns.foldl max n ≤ maxL (n :: ns) := by
              rcases h3 with h3 | h3
              · rw [h3]; exact m2 _ List.mem_cons_self
              · exact m2 _ (List.mem_cons_of_mem _ h3)
            omega
          exact ⟨.int (ns.foldl max n), H, I.kept hk, ⟨_, rfl⟩, em ▸ q⟩
def mMaxDf (k : Int) (f : Mx W) : Mx W := bnd f fun w ρ => match w.lst ρ with
  | some xs => (match numsOf xs with
    | some ns => .ok (.d (.int (maxDf k ns))) ρ
    | none => .st)
  | none => .st
theorem de_maxDf {e : Expr} {f : Mx W} {k : Int} {j : Nat} {p pos kpos cpos : Pos} (hm : X.mg "max" = none) (he : DE X Γ Wx e f) (hc : X.calm = true) (hu : X.A.units + 65 < cLine) (hK : X.K = Γ.K := by rfl) (hg : Gl X "max" := by rfl)
    (h1 : starEach [e] X.env = (false, eval e X.env) :: starEach [] X.env := by rfl)
    (h2 : backTo pos (starEach [e] X.env) = (false, eval e X.env) :: backTo pos (starEach [] X.env) := by rfl) (h3 : (backTo pos (starEach [e] X.env)).any (·.1) = false := by rfl)
    (h4 : (backToKw pos (keywordEach [⟨some "default", .Constant (.int k) j cpos, kpos⟩] X.env)).all (·.1.isSome) = true := by rfl) (h5 : (backToKw pos (keywordEach [⟨some "default", .Constant (.int k) j cpos, kpos⟩] X.env)).any (·.1.isNone) = false := by rfl)
    (h6 : (backToKw pos (keywordEach [⟨some "default", .Constant (.int k) j cpos, kpos⟩] X.env)).filterMap (·.1) = [Str.ofString "default"] := by rfl) :
    DE X Γ Wx (.Call (.Name "max" p) [e] [⟨some "default", .Constant (.int k) j cpos, kpos⟩] pos) (mMaxDf k f) :=
  PE.imp (pe_callBK (cr_maxDf k hc hu) hg hm rfl (pa_cons he pa_nil h1) (pk_cons pe_int pk_nil) (by decide) (by decide) h2 h3 h4 h5 h6) fun σ H Q ⟨F, ρ, R, h⟩ => by
    show tE Γ Wx f σ H fun v H1 => rMaxDf X.K k [v] [.int k] H1 Q
    refine ⟨F, ρ, R, post_bnd (s := ⟨F, σ, H, ρ⟩) h fun v w F1 H1 ρ1 R1 S1 r1 h1 => ?_⟩
    cases e1 : w.lst ρ1 with
    | none => rw [e1] at h1; exact h1.elim
    | some xs =>
      rw [e1] at h1
      simp only at h1
      cases e2 : numsOf xs with
      | none => rw [e2] at h1; exact h1.elim
      | some ns =>
        rw [e2] at h1
        obtain ⟨p, vs, ev, hq, q⟩ := VRep.lst (s := ⟨F1, σ, H1, ρ1⟩) R1 r1 e1
        have e4 := nums_inv e2
        subst e4
        rw [rpa_intsz q] at hq
        rw [hK]
        exact ⟨p, ns, by rw [ev], rfl, hq, h1.val R1 (.int _)⟩
end
end TD
namespace TD
open PySem PySem.Spec PyProof.Rows L2
/-! ### methods of a text with one argument -/
def W.txt (ρ : Env) (w : W) : Option Str := match w.asD ρ with
  | some (.str a) => some a
  | _ => none
theorem VRep.txt {K : PySem.W.Frag} {H0 : Hp} {s : Sx} {v : V} {w : W} {a : Str} (R : Rel K s) (r : VRep K H0 s v w) (h : w.txt s.ρ = some a) : v = .str a := by
  unfold W.txt at h
  split at h
  · rename_i b e
    cases h
    exact (r.data R e).strV
  · cases h
def mStr1 (g : Str → W → Env → Out W) (fo fe : Mx W) : Mx W := bnd fo fun w ρ => match w.txt ρ with
  | some a => bnd fe (fun w2 => g a w2) ρ
  | none => .st
def OkT (Γ : Cn) (Wx : WX) (r : V → List V → Hp → VK → Prop) (g : Str → W → Env → Out W) : Prop :=
  ∀ (s : Sx) (a : Str) (v : V) (w : W) (H1 : Hp) (Q : VK), Rel Γ.K s → VRep Γ.K H1 s v w → Post Γ Wx s (g a w s.ρ) Q → r (.str a) [v] s.H Q
section
variable {X : Cx} {Γ : Cn} {Wx : WX} {o e : Expr} {fo fe : Mx W} {apos pos : Pos} {name : Str} {id : String} {r : V → List V → Hp → VK → Prop} {g : Str → W → Env → Out W}
theorem tM1_of (hg : OkT Γ Wx r g) : ∀ σ H Q, tE Γ Wx (mStr1 g fo fe) σ H Q → tM1 r (tE Γ Wx fo) (tE Γ Wx fe) σ H Q := fun σ H Q ⟨F, ρ, R, h⟩ =>
  ⟨F, ρ, R, post_bnd (s := ⟨F, σ, H, ρ⟩) h fun v w F1 H1 ρ1 R1 S1 r1 h1 => by
    cases e1 : w.txt ρ1 with
    | none => rw [e1] at h1; exact h1.elim
    | some a =>
      rw [e1] at h1
      have ev := VRep.txt (s := ⟨F1, σ, H1, ρ1⟩) R1 r1 e1
      subst ev
      exact ⟨⟨a, rfl⟩, F1, ρ1, R1, post_bnd (s := ⟨F1, σ, H1, ρ1⟩) (f := fe) (k := fun w2 => g a w2) h1 fun v2 w2 F2 H2 ρ2 R2 S2 r2 h2 => hg ⟨F2, σ, H2, ρ2⟩ a v2 w2 _ Q R2 r2 h2⟩⟩
theorem de_str1 (slot : Slot "str" name id) (ty : typeOf (.builtin id) = pure (.type "method_descriptor")) (rule : MtR X id r) (hg : OkT Γ Wx r g) (ho : DE X Γ Wx o fo) (he : DE X Γ Wx e fe)
    (hs : starEach [e] X.env = [(false, eval e X.env)] := by rfl) (hbase : attributeBase o name X.env (eval o X.env) = eval o X.env := by rfl) (hline : (apos.endLine == pos.line) = true := by rfl) :
    DE X Γ Wx (.Call (.Attribute o name apos) [e] [] pos) (mStr1 g fo fe) :=
  PE.imp (pe_m1 slot ty rule ho he hs hbase hline) (tM1_of hg)
end
section
variable {Γ : Cn} {Wx : WX}
theorem szl {n : Nat} (h : n ≤ 100000) : n + 2 ≤ sizeLine := Nat.le_trans (by omega : n + 2 ≤ 100002) (by decide)
def gsCount (a : Str) (w : W) : Env → Out W := fun ρ => match w.txt ρ with
  | some b => .ok (.d (.int (Txt.count a b))) ρ
  | none => .st
theorem ok_count : OkT Γ Wx (fun x xs H Q => ∃ a b, x = .str a ∧ xs = [.str b] ∧ Q (.int (Txt.count a b)) H) gsCount := fun s a v w H1 Q R r h => by
  unfold gsCount at h
  split at h
  · rename_i b e
    exact ⟨a, b, rfl, by rw [r.txt R e], h.val R (.int _)⟩
  · exact h.elim
theorem rpa_strs {F : Hp} : ∀ ss : List Str, RpA F (ss.map V.str) (ss.map PyData.str)
  | [] => .nil
  | s :: ss => .cons (.str s) (rpa_strs ss)
def gsSplit (a : Str) (w : W) : Env → Out W := fun ρ => match w.txt ρ with
  | some b => if (b.length == 0) = false ∧ a.length ≤ 100000 then .ok (.l ((Txt.split a b).map PyData.str)) ρ else .st
  | none => .st
theorem ok_split : OkT Γ Wx (fun x xs H Q => ∃ a b, x = .str a ∧ xs = [.str b] ∧ (b.length == 0) = false ∧ a.length + 2 ≤ sizeLine ∧ rNewStrs (Txt.split a b) H Q) gsSplit := fun s a v w H1 Q R r h => by
  unfold gsSplit at h
  split at h
  · rename_i b e
    split at h
    · rename_i hc
      exact ⟨a, b, rfl, by rw [r.txt R e], hc.1, szl hc.2, fun p hp => Post.lst R h (rpa_strs _) hp⟩
    · exact h.elim
  · exact h.elim
def gsPart (a : Str) (w : W) : Env → Out W := fun ρ => match w.txt ρ with
  | some b => if (b.length == 0) = false ∧ a.length ≤ 100000 then .ok (.d (.tuple [.str (Txt.partition a b).1, .str (Txt.partition a b).2.1, .str (Txt.partition a b).2.2])) ρ else .st
  | none => .st
theorem ok_part : OkT Γ Wx (fun x xs H Q => ∃ a b, x = .str a ∧ xs = [.str b] ∧ (b.length == 0) = false ∧ a.length ≤ sizeLine ∧
    ∀ p, H p = none → Q (.ref p) (upd H p (.tup [.str (Txt.partition a b).1, .str (Txt.partition a b).2.1, .str (Txt.partition a b).2.2]))) gsPart := fun s a v w H1 Q R r h => by
  unfold gsPart at h
  split at h
  · rename_i b e
    split at h
    · rename_i hc
      exact ⟨a, b, rfl, by rw [r.txt R e], hc.1, by have := szl hc.2; omega, fun p hp => Post.tup R h (rpa_strs [_, _, _]) hp⟩
    · exact h.elim
  · exact h.elim
def gsStrip (a : Str) (w : W) : Env → Out W := fun ρ => match w.txt ρ with
  | some b => if a.length ≤ 100000 then .ok (.d (.str (Txt.stripChars a b))) ρ else .st
  | none => .st
theorem ok_stripC : OkT Γ Wx (fun x xs H Q => ∃ a b, x = .str a ∧ xs = [.str b] ∧ a.length ≤ sizeLine ∧ Q (.str (Txt.stripChars a b)) H) gsStrip := fun s a v w H1 Q R r h => by
  unfold gsStrip at h
  split at h
  · rename_i b e
    split at h
    · rename_i hc
      exact ⟨a, b, rfl, by rw [r.txt R e], by have := szl hc; omega, h.val R (.str _)⟩
    · exact h.elim
  · exact h.elim
def strsOf : List D → Option (List Str)
  | [] => some []
  | .str a :: r => (match strsOf r with
    | some ss => some (a :: ss)
    | none => none)
  | _ => none
theorem strs_inv : ∀ {xs : List D} {ss : List Str}, strsOf xs = some ss → xs = ss.map PyData.str
  | [], ss, h => by cases h; rfl
  | x :: r, ss, h => by
    cases x with
    | str a =>
      simp only [strsOf] at h
      cases e : strsOf r with
      | none => rw [e] at h; cases h
      | some qs =>
        rw [e] at h
        cases h
        rw [strs_inv e]
        rfl
    | _ => cases h
theorem strs_map : ∀ ss : List Str, strsOf (ss.map PyData.str) = some ss
  | [] => rfl
  | s :: ss => by
    show strsOf (.str s :: ss.map PyData.str) = _
    simp only [strsOf, strs_map ss]
theorem rpa_strsV {F : Hp} : ∀ {ss : List Str} {vs : List V}, RpA F vs (ss.map PyData.str) → vs = ss.map V.str
  | [], vs, h => by cases h; rfl
  | s :: ss, vs, h => by
    cases h with
    | cons h1 h2 => rw [h1.strV, rpa_strsV h2]; rfl
def gsJoin (a : Str) (w : W) : Env → Out W := fun ρ => match w.seq ρ with
  | some xs => (match strsOf xs with
    | some ss => if (ss.map (·.length)).sum + ss.length * a.length ≤ 16777216 then .ok (.d (.str (Txt.join a ss))) ρ else .st
    | none => .st)
  | none => .st
theorem ok_join : OkT Γ Wx (fun x xs H Q => ∃ a p, ∃ ys : List Str, x = .str a ∧ xs = [.ref p] ∧ (SqL Γ.K H p (ys.map V.str) ∨ SqT Γ.K H p (ys.map V.str)) ∧
    (ys.map (·.length)).sum + ys.length * a.length ≤ 16777216 ∧ Q (.str (Txt.join a ys)) H) gsJoin := fun s a v w H1 Q R r h => by
  unfold gsJoin at h
  split at h
  · rename_i xs e
    split at h
    · rename_i ss e2
      split at h
      · rename_i hc
        obtain ⟨p, vs, rfl, q, q2⟩ := r.seq R e
        have e4 := strs_inv e2
        subst e4
        have e5 := rpa_strsV q2
        subst e5
        exact ⟨a, p, ss, rfl, rfl, q, hc, h.val R (.str _)⟩
      · exact h.elim
    · exact h.elim
  · exact h.elim
def gsIndex (a : Str) (w : W) : Env → Out W := fun ρ => match w.txt ρ with
  | some b => (match Builtin.Str.occurrences a b 0 a.length 1 with
    | i :: _ => .ok (.d (.int (i : Nat))) ρ
    | [] => .st)
  | none => .st
theorem ok_sindex : OkT Γ Wx (fun x xs H Q => ∃ a b i rest, x = .str a ∧ xs = [.str b] ∧ Builtin.Str.occurrences a b 0 a.length 1 = i :: rest ∧ Q (.int (i : Nat)) H) gsIndex := fun s a v w H1 Q R r h => by
  unfold gsIndex at h
  split at h
  · rename_i b e
    split at h
    · rename_i i rest e2
      exact ⟨a, b, i, rest, rfl, by rw [r.txt R e], e2, h.val R (.int _)⟩
    · exact h.elim
  · exact h.elim
/-! ### a sign in a text -/
def gInS (neg : Bool) (w1 w2 : W) : Env → Out W := fun ρ => match w1.txt ρ, w2.txt ρ with
  | some a, some z => (match a.cps.toList with
    | [c] => .ok (.d (.bool (if neg then !decide (c ∈ z.cps.toList) else decide (c ∈ z.cps.toList)))) ρ
    | _ => .st)
  | _, _ => .st
theorem one_of {a : Str} {c : Nat} (h : a.cps.toList = [c]) : a = ⟨#[c]⟩ := by
  cases a with
  | mk s => exact congrArg Str.mk (Array.toList_inj.mp h)
theorem ok_inS : Ok2 Γ Wx (fun x y H Q => ∃ (c : Nat) (z : Str), x = .str ⟨#[c]⟩ ∧ y = .str z ∧ Q (.bl (decide (c ∈ z.cps.toList))) H) (gInS false) := fun s v1 v2 w1 w2 H1 H2 Q R r1 r2 h => by
  unfold gInS at h
  split at h
  · rename_i a z e1 e2
    split at h
    · rename_i c e3
      exact ⟨c, z, by rw [r1.txt R e1, one_of e3], r2.txt R e2, h.val R (.bl _)⟩
    · exact h.elim
  · exact h.elim
theorem ok_notInS : Ok2 Γ Wx (fun x y H Q => ∃ (c : Nat) (z : Str), x = .str ⟨#[c]⟩ ∧ y = .str z ∧ Q (.bl (!decide (c ∈ z.cps.toList))) H) (gInS true) := fun s v1 v2 w1 w2 H1 H2 Q R r1 r2 h => by
  unfold gInS at h
  split at h
  · rename_i a z e1 e2
    split at h
    · rename_i c e3
      exact ⟨c, z, by rw [r1.txt R e1, one_of e3], r2.txt R e2, h.val R (.bl _)⟩
    · exact h.elim
  · exact h.elim
/-! ### a text in a tuple of texts -/
def gInTS (neg : Bool) (w1 w2 : W) : Env → Out W := fun ρ => match w1.txt ρ, w2.tup ρ with
  | some a, some ds => (match strsOf ds with
    | some ss => .ok (.d (.bool (if neg then !(ss.any fun b => b == a) else ss.any fun b => b == a))) ρ
    | none => .st)
  | _, _ => .st
theorem flat_strs : ∀ ss : List Str, (ss.map V.str).all flatV = true
  | [] => rfl
  | n :: ns => by
    rw [List.map_cons, List.all_cons, flat_strs ns]
    rfl
theorem inV_strs (a : Str) : ∀ ss : List Str, inV (.str a) (ss.map V.str) = ss.any fun b => b == a
  | [] => rfl
  | n :: ns => by
    have ih := inV_strs a ns
    unfold inV at ih ⊢
    rw [List.map_cons, List.any_cons, List.any_cons, ih]
    congr 1
theorem ok_inTS (neg : Bool) : Ok2 Γ Wx (rIn Γ.K neg) (gInTS neg) := fun s v1 v2 w1 w2 H1 H2 Q R r1 r2 h => by
  unfold gInTS at h
  split at h
  · rename_i a ds e1 e2
    split at h
    · rename_i ss e3
      obtain ⟨_, p, vs, rfl, _, q, q2⟩ := r2.tup R e2
      have e4 := strs_inv e3
      subst e4
      have e5 := rpa_strsV q2
      have e6 := r1.txt R e1
      refine ⟨p, vs, rfl, .inr (SqT.of q), ?_, ?_, ?_⟩
      · rw [e6]; rfl
      · rw [e5]; exact flat_strs ss
      · rw [e6, e5, inV_strs]
        exact h.val R (.bl _)
    · exact h.elim
  · exact h.elim
/-! ### str(x) of a number or a text -/
def gStr (ws : List W) : Env → Out W := fun ρ => match ws with
  | [w] => (match w.asD ρ with
    | some (.int i) => if i.natAbs.log2 < 1920 then .ok (.d (.str (Str.ofString (toString i)))) ρ else .st
    | some (.str a) => .ok (.d (.str a)) ρ
    | _ => .st)
  | _ => .st
def rStrAll : List V → Hp → VK → Prop := fun xs H Q => (∃ i, xs = [.int i] ∧ i.natAbs.log2 < 1920 ∧ Q (.str (Str.ofString (toString i))) H) ∨ ∃ a, xs = [.str a] ∧ Q (.str a) H
theorem call_strAll {X : Cx} : CallR X (.type "str") rStrAll := CallR.or call_str_int SkE.call_str_str
theorem ok_str : OkC Γ Wx rStrAll gStr := fun s vs ws s0 Q R hσ S r h => by
  have h := h.step (s1 := s) S hσ.symm
  unfold gStr at h
  obtain ⟨w, rfl, h2⟩ := one_inv (P := fun o => Post Γ Wx s o Q) h fun z => z
  obtain ⟨v, rfl, q0⟩ := VReps.one r
  split at h2
  · rename_i i e1
    split at h2
    · rename_i hl
      exact .inl ⟨i, by rw [(q0.data R e1).intV], hl, h2.val R (.str _)⟩
    · exact h2.elim
  · rename_i a e1
    exact .inr ⟨a, by rw [(q0.data R e1).strV], h2.val R (.str _)⟩
  · exact h2.elim
end
end TD
namespace RT
open PySem PySem.Spec PyProof.Rows L2
/-! ### tuple(reversed(a tuple)) -/
theorem nolen_rt : typeLookup (.type "reversed") "__len__" = pure none := by rw [typeLookup_type, builtinLookup_eq_fast]; kernel_rfl
theorem hint_rt : typeLookup (.type "reversed") "__length_hint__" = pure (some (.builtin "reversed.__length_hint__")) := by rw [typeLookup_type, builtinLookup_eq_fast]; kernel_rfl
theorem slot_rt_hint : Slot "reversed" "__length_hint__" "reversed.__length_hint__" :=
  .of (owner := "reversed") (n := "__length_hint__") (by rw [typeLookup_type, builtinLookup_eq_fast]; kernel_rfl) (by decide +kernel) (by decide +kernel) (by decide +kernel)
    (by first | exact .inl (by decide +kernel) | exact .inr (by decide +kernel)) (by rw [isSubtype_type]; kernel_rfl)
theorem entry_rt_hint : entryFor table "reversed.__length_hint__" = some Builtin.«reversed.__length_hint__» := entryFor_of_tree (by kernel_rfl)
theorem args_rt_hint (a : Value) : argsOk "reversed.__length_hint__" ⟨[a], []⟩ := by
  unfold argsOk; rw [signature?_of (id := "reversed.__length_hint__") (n := ['_', '_', 't', 'n', 'i', 'h', '_', 'h', 't', 'g', 'n', 'e', 'l', '_', '_']) (o := ['d', 'e', 's', 'r', 'e', 'v', 'e', 'r']) (by kernel_rfl) owner_rt]; kernel_rfl
section
variable {prog : Program} {w : World} {A : Around} {E : Value → Shared → Prop} {s : Shared}
theorem hint_rt_run {it t : Addr} {items : Array Value} {Q : Bool → Shared → Prop} (hit : IsRt s.heap it t ((items.size : Int) - 1)) (ht : IsTup s.heap t items) (hn : items.size ≤ sizeLine)
    (h : ∀ tk, s.toks ≤ tk → Q (((items.size : Nat) : Int) != 0) { s with toks := tk }) : wpAny (model prog w) A (Builtin.List.listLengthHint (.ref it)) Q E s := by
  have hT : s.TypeIs (.ref it) "reversed" := hit.typeIs
  unfold Builtin.List.listLengthHint
  refine wpAny_bind (wpAny_specialOf hT nolen_rt ?_)
  show wpAny _ A (specialOf (Value.ref it) (Str.ofString "__length_hint__") >>= _) _ _ _
  refine wpAny_bind (wpAny_specialOf hT hint_rt ?_)
  generalize hid : ("reversed.__length_hint__" : String) = id0
  wp_delta
  rw [show splitId id0 = some ("reversed", "__length_hint__") from by subst hid; decide +kernel]
  subst hid
  refine wpAny_bind (wpAny_isInstance (b := true) hT (by rw [isSubtype_type]; kernel_rfl) ?_)
  refine wpAny_bind (wpAny_rule ?_)
  refine wpAny_bind (wpAny_of_eq (slot_rt_hint.bind _) ?_)
  try dsimp only
  refine wpAny_bind (wpAny_attempt (wpAny_call_entry slot_rt_hint hit.typeIs entry_rt_hint ?_ (args_rt_hint _)))
  obtain ⟨o, ho, hc, hd⟩ := id hit
  unfold Builtin.«reversed.__length_hint__»
  refine wpAny_bind (wpAny_of_eq (a := Value.ref it) rfl ?_)
  try dsimp only
  refine wpAny_bind (wpAny_field ho hd (x := .ref t) rfl ?_)
  rw [if_neg (show ¬ ((Value.ref t == Value.none) = true) from Bool.false_ne_true)]
  have hl := line63
  refine wpAny_bind (len_tuple ht (by omega) ?_)
  refine wpAny_bind (wpAny_of_eq (a := some ((items.size : Nat) : Int)) rfl ?_)
  try dsimp only
  refine wpAny_bind (wpAny_field (s := { s with toks := s.toks + 1 + 1 }) ho hd (x := rawInt ((items.size : Int) - 1)) rfl ?_)
  show wpAny _ _ (if ((items.size : Nat) : Int) < (items.size : Int) - 1 + 1 then _ else _) _ _ _
  rw [if_neg (by omega)]
  show wpAny _ _ (mkInt ((items.size : Int) - 1 + 1) >>= fun v => ret v) _ _ _
  refine wpAny_bind (wpAny_mkInt ?_)
  refine wpAny_pure ⟨_, rfl, ?_⟩
  try dsimp only
  refine wpAny_bind (wpAny_of_eq (a := some (((items.size : Nat) : Int) - 1 + 1)) rfl ?_)
  rw [show ((items.size : Nat) : Int) - 1 + 1 = (items.size : Int) by omega]
  have hz : items.size ≤ 100000000000000000 := Nat.le_trans hn (by decide)
  try dsimp only
  rw [if_neg (by unfold Builtin.List.listFitsIndex; simp; omega), if_neg (by omega), if_neg (by unfold Builtin.List.listTooLong; simp; omega)]
  exact wpAny_pure (h _ (by omega))
theorem walks_rt (hh : A.handled = none) (I t : Addr) (hne : t ≠ I) (items : Array Value) (hn : items.size ≤ sizeLine) :
    WalksS prog w A I [I, t] [I] (fun a b => b = a) items.size (fun i v => items[items.size - 1 - i]? = some v) (fun i s => i ≤ items.size ∧ IsRt s.heap I t ((items.size : Int) - 1 - (i : Int)) ∧ IsTup s.heap t items) where
  sub := fun b hb => by simp at hb; simp [hb]
  grefl := fun _ => rfl
  gtrans := fun _ _ _ h1 h2 => h2.trans h1
  frame := fun _ _ _ _ x _ hk => ⟨x.1, x.2.1.at fun o e => hk I (by simp) o e, let ⟨o, ho, r⟩ := x.2.2; ⟨o, hk t (by simp) o ho, r⟩⟩
  item := fun i s Q E hi x hQ => by
    have e : (items.size : Int) - 1 - (i : Int) = ((items.size - 1 - i : Nat) : Int) := by omega
    have hit := x.2.1
    rw [e] at hit
    have hx : items[items.size - 1 - i]? = some (items[items.size - 1 - i]'(by omega)) := Array.getElem?_eq_getElem (by omega)
    refine next_rt_item hit x.2.2 hx hn fun h' hit' hs' => ?_
    have e2 : ((items.size - 1 - i : Nat) : Int) - 1 = (items.size : Int) - 1 - ((i + 1 : Nat) : Int) := by omega
    rw [e2] at hit'
    exact hQ _ { s with heap := h', toks := s.toks + 1 } hx ⟨hi, hit', let ⟨o, ho, r⟩ := x.2.2; ⟨o, (hs'.2 t hne).trans ho, r⟩⟩ ⟨fun b o hb eo => hs'.extBut b o (fun h => hb (by simp [h])) eo, rfl, rfl, rfl, Nat.le_succ _⟩
  done := fun s Q E x hQ => by
    have e : (items.size : Int) - 1 - (items.size : Int) = -1 := by omega
    have hit := x.2.1
    rw [e] at hit
    exact next_rt_end hh hit fun h' he' => hQ { s with heap := h' } ⟨fun b o hb eo => he' b o (fun h => hb (by simp [h])) eo, rfl, rfl, rfl, Nat.le_refl _⟩
  self := fun _ s Q E x hQ => iter_rt x.2.1 hQ
theorem collect_rt {it t : Addr} {items : Array Value} {Q : List Value → Shared → Prop} (hh : A.handled = none) (hit : IsRt s.heap it t ((items.size : Int) - 1)) (ht : IsTup s.heap t items) (hne : t ≠ it) (hn : items.size ≤ sizeLine)
    (hQ : ∀ (h' : Heap) (tk : Nat) (acc : Array Value), (∀ b o, b ≠ it → s.heap.get? b = some o → h'.get? b = some o) → ItemsOf (fun i v => items[items.size - 1 - i]? = some v) acc items.size → Q acc.toList { s with heap := h', toks := tk }) :
    wpAny (model prog w) A (collect (.ref it)) Q E s := by
  have W := walks_rt (prog := prog) (w := w) (A := A.in1) hh it t hne items hn
  obtain ⟨oi, hoi, _⟩ := id hit
  obtain ⟨ol, hol, _⟩ := id ht
  have hSi : s.heap.objs.size ≠ it := Nat.ne_of_gt (Heap.lt_size hoi)
  have hSl : s.heap.objs.size ≠ t := Nat.ne_of_gt (Heap.lt_size hol)
  have hSf : s.heap.objs.size ∉ [it, t] := by simp only [List.mem_cons, List.not_mem_nil, or_false, not_or]; exact ⟨hSi, hSl⟩
  unfold collect
  refine wpAny_bind (wpAny_runValue (codeAny_builtin F.entry_proto_collect ?_))
  rw [Around.under_plainId F.plain_proto_collect _]
  show wpAny _ A.in1 (newList [] >>= fun l' => again (.builtin "list.__iadd__" ⟨[l', .ref it], []⟩)) _ _ s
  refine wpAny_bind (wpAny_newObj_type ?_)
  refine wpAny_pure ⟨plainId_quiet F.plain_list_iadd _, codeAny_builtin F.entry_list_iadd ?_⟩
  rw [Around.under_plainId F.plain_list_iadd _]
  have hS₁ : (s.heap.push { cls := .type "list", data := .seq ([] : List Value).toArray }).get? s.heap.objs.size = some { cls := .type "list", data := .seq ([] : List Value).toArray } := Heap.get?_push_size _ rfl
  have hit1 : IsRt (s.heap.push { cls := .type "list", data := .seq ([] : List Value).toArray }) it t ((items.size : Int) - 1) := hit.at fun o e => Heap.get?_push_of_some _ e
  have ht1 : IsTup (s.heap.push { cls := .type "list", data := .seq ([] : List Value).toArray }) t items := let ⟨o, ho, r⟩ := ht; ⟨o, Heap.get?_push_of_some _ ho, r⟩
  have hT : ({ s with heap := s.heap.push { cls := .type "list", data := .seq ([] : List Value).toArray } } : Shared).TypeIs (.ref it) "reversed" := IsRt.typeIs (s := { s with heap := s.heap.push { cls := .type "list", data := .seq ([] : List Value).toArray } }) hit1
  have h1 : Builtin.List.listSameRef (.ref s.heap.objs.size) (.ref it) = false := by simp [Builtin.List.listSameRef, hSi]
  show wpAny _ A.in1 (Builtin.List.listExtendWith (.ref s.heap.objs.size) (.ref it) (.ref s.heap.objs.size)) _ _ _
  unfold Builtin.List.listExtendWith
  refine wpAny_bind (wpAny_typeOf hT ?_)
  rw [if_neg (by rw [h1]; decide)]
  refine wpAny_bind (iter_rt (s := { s with heap := s.heap.push { cls := .type "list", data := .seq ([] : List Value).toArray } }) hit1 ?_)
  refine wpAny_bind (wpAny_holding ?_)
  refine hint_rt_run (s := { s with heap := s.heap.push { cls := .type "list", data := .seq ([] : List Value).toArray } }) hit1 ht1 hn fun tk htk => ?_
  have e0 : ((items.size : Nat) : Int) - 1 - ((0 : Nat) : Int) = (items.size : Int) - 1 := by omega
  by_cases hz : items.size = 0
  · rw [show (((items.size : Nat) : Int) != 0) = false by rw [hz]; rfl]
    try dsimp only
    rw [if_neg (by decide)]
    refine wpAny_pure ⟨plainId_quiet F.plain_extend_loop _, codeAny_extend_loopS W hn _ hSf _ items.size 0 _ _ _ rfl (Nat.zero_le _) ⟨Nat.zero_le _, by rw [e0]; exact hit1, ht1⟩ hS₁ (ItemsOf.nil _) fun s' acc' c' hm hS' hacc => ?_⟩
    show wpAny _ A (load s.heap.objs.size >>= _) _ _ s'
    refine wpAny_bind (wpAny_load hS' ?_)
    refine wpAny_pure ?_
    rw [Moved.eq_with hm]
    refine hQ s'.heap s'.toks acc' (fun b o hb e => hm.heap b o (fun hmem => ?_) (Heap.get?_push_of_some _ e)) hacc
    rcases List.mem_cons.mp hmem with e' | hmem
    · exact absurd (Heap.lt_size e) (by rw [e']; exact Nat.lt_irrefl _)
    · exact hb (List.mem_singleton.mp hmem)
  · rw [show (((items.size : Nat) : Int) != 0) = true by simp only [bne_iff_ne, ne_eq]; omega]
    try dsimp only
    rw [if_pos (by decide)]
    refine wpAny_bind (wpAny_rule ?_)
    refine wpAny_bind ?_
    show wpAny _ A.in1 (updateSeq s.heap.objs.size (·.push .none) >>= fun _ => updateSeq s.heap.objs.size (·.pop)) _ _ _
    refine wpAny_bind (wpAny_updateSeq hS₁ rfl ?_)
    have hS₂ := Heap.get?_update_self (Obj.mapSeq (·.push Value.none)) hS₁ rfl
    refine wpAny_updateSeq hS₂ rfl ?_
    have hS₃ := Heap.get?_update_self (Obj.mapSeq (·.pop)) hS₂ rfl
    have oth : ∀ b o, b ≠ s.heap.objs.size → (s.heap.push { cls := .type "list", data := .seq ([] : List Value).toArray }).get? b = some o →
        (((s.heap.push { cls := .type "list", data := .seq ([] : List Value).toArray }).update s.heap.objs.size (Obj.mapSeq (·.push Value.none))).update s.heap.objs.size (Obj.mapSeq (·.pop))).get? b = some o :=
      fun b o hb e => (Heap.get?_update_other _ _ (Ne.symm hb)).trans ((Heap.get?_update_other _ _ (Ne.symm hb)).trans e)
    refine wpAny_pure ⟨plainId_quiet F.plain_extend_loop _, codeAny_extend_loopS W hn _ hSf _ items.size 0 _ _ _ rfl (Nat.zero_le _) ⟨Nat.zero_le _, by rw [e0]; exact hit1.at fun o e => oth it o (Ne.symm hSi) e, let ⟨o, ho, r⟩ := ht1; ⟨o, oth t o (Ne.symm hSl) ho, r⟩⟩ hS₃ (ItemsOf.nil _) fun s' acc' c' hm hS' hacc => ?_⟩
    show wpAny _ A (load s.heap.objs.size >>= _) _ _ s'
    refine wpAny_bind (wpAny_load hS' ?_)
    refine wpAny_pure ?_
    rw [Moved.eq_with hm]
    refine hQ s'.heap s'.toks acc' (fun b o hb e => hm.heap b o (fun hmem => ?_) (oth b o (fun z => ?_) (Heap.get?_push_of_some _ e))) hacc
    · rcases List.mem_cons.mp hmem with e' | hmem
      · exact absurd (Heap.lt_size e) (by rw [e']; exact Nat.lt_irrefl _)
      · exact hb (List.mem_singleton.mp hmem)
    · exact absurd (Heap.lt_size e) (by rw [z]; exact Nat.lt_irrefl _)
theorem code_tuple_new_rt {it t : Addr} {items : Array Value} {Q₁ : Value → Shared → Prop} (hh : A.handled = none) (hit : IsRt s.heap it t ((items.size : Int) - 1)) (ht : IsTup s.heap t items) (hne : t ≠ it) (hn : items.size ≤ sizeLine)
    (h : ∀ (h' : Heap) (tk : Nat) (acc : Array Value), (∀ b o, b ≠ it → s.heap.get? b = some o → h'.get? b = some o) → ItemsOf (fun i v => items[items.size - 1 - i]? = some v) acc items.size →
      Q₁ (.ref h'.objs.size) { s with heap := h'.push { cls := .type "tuple", data := .seq acc }, toks := tk }) :
    codeAny (model prog w) A (.call (.builtin "tuple.__new__") ⟨[.type "tuple", .ref it], []⟩) (wants Q₁ E) s := by
  refine codeAny_of_tree ?_
  show wpAny _ A.in1 (do checkBuiltinCall "tuple.__new__" ⟨[.type "tuple", .ref it], []⟩; again (.builtin "tuple.__new__" ⟨[.type "tuple", .ref it], []⟩)) _ _ s
  refine wpAny_bind (wpAny_of_eq (F.newCall_tuple_1 _) (wpAny_pure ⟨plainId_quiet F.plain_tuple_new _, codeAny_builtin F.entry_tuple_new ?_⟩))
  rw [Around.under_plainId F.plain_tuple_new _]
  have hsub := sub_tuple_self
  have hinit := init_tuple_lookup
  have hmh := madeHere_tuple
  have hTI : s.TypeIs (.ref it) "reversed" := hit.typeIs
  have hh1 : A.in1.handled = none := hh
  wp_walk using wpAny_typeOf hTI, collect_rt (A := A.in1) hh1 hit ht hne hn
  intro h' tk acc hk hacc
  show wpAny _ _ (Builtin.Tuple.tupleExact acc.toList.toArray >>= fun v => ret v) _ _ _
  unfold Builtin.Tuple.tupleExact
  refine wpAny_bind (wpAny_newObj_type ?_ (by show acc.toList.toArray.size ≤ sizeLine; simp only [Array.toArray_toList]; rw [hacc.1]; exact hn))
  refine wpAny_pure ?_
  have e : acc.toList.toArray = acc := by simp
  rw [e]
  exact h h' tk acc hk hacc
theorem call_tuple_rt {it t : Addr} {items : Array Value} {Q : Value → Shared → Prop} (hh : A.handled = none) (hit : IsRt s.heap it t ((items.size : Int) - 1)) (ht : IsTup s.heap t items) (hne : t ≠ it) (hn : items.size ≤ sizeLine)
    (hQ : ∀ (h' : Heap) (tk : Nat) (acc : Array Value), (∀ b o, b ≠ it → s.heap.get? b = some o → h'.get? b = some o) → ItemsOf (fun i v => items[items.size - 1 - i]? = some v) acc items.size →
      Q (.ref h'.objs.size) { s with heap := h'.push { cls := .type "tuple", data := .seq acc }, toks := tk }) :
    wpAny (model prog w) A (call (.type "tuple") [.ref it]) Q E s := by
  refine callType_codes (Q₁ := fun obj s₁ => s₁.TypeIs obj "tuple" ∧ Q obj s₁) F.called_tuple (F.typeCall_tuple_1 _) F.entry_object_init
    (code_tuple_new_rt (A := A.in1) hh hit ht hne hn fun h' tk acc hk hacc => ⟨⟨_, Heap.get?_push_size _ rfl, rfl⟩, hQ h' tk acc hk hacc⟩) fun obj s₁ h₁ => ?_
  exact ⟨h₁.1, F.args_object_init_2 obj _, object_init_meets F.called_tuple.init.lookup F.called_tuple.made (by decide) prog w A.in1 _ s₁ ⟨h₁.1, rfl, h₁.2⟩⟩
end
def tTupRevT (K : PySem.W.Frag) (te : TE) : TE := fun σ H Q => te σ H fun v H1 => ∃ (a : Addr) (xs : List V), v = .ref a ∧ SqT K H1 a xs ∧ ∀ q, H1 q = none → Q (.ref q) (upd H1 q (.tup xs.reverse))
section
variable {X : Cx}
theorem pe_tupRevT {e : Expr} {te : TE} {p p2 pos pos2 : Pos} (hc : X.calm = true) (hg : Gl X "tuple") (hm : X.mg "tuple" = none) (hg2 : Gl X "reversed") (hm2 : X.mg "reversed" = none) (he : PE X e te)
    (hs : starEach [e] X.env = (false, eval e X.env) :: starEach [] X.env := by rfl)
    (hs2 : starEach [.Call (.Name "reversed" p2) [e] [] pos2] X.env = (false, eval (.Call (.Name "reversed" p2) [e] [] pos2) X.env) :: starEach [] X.env := by rfl) :
    PE X (.Call (.Name "tuple" p) [.Call (.Name "reversed" p2) [e] [] pos2] [] pos) (tTupRevT X.K te) := by
  refine ⟨fun pins s σ H Q I h => ?_⟩
  refine Call_ (ld_blt I hg hm boot_tuple (PyProof.Rows.callWith_type1 (args_cons (Call_ (ld_blt I hg2 hm2 PyProof.Rows.boot_reversed (PyProof.Rows.callWith_type1 (args_cons (thn (he.run pins s σ H _ I h) fun u s1 ⟨v, H1, I1, r1, q1⟩ => args_nil ?_) hs) hs rfl))) hs2) hs2 rfl))
  obtain ⟨a, xs, ev, hq, q⟩ := q1
  subst ev
  obtain rfl : u = Value.ref a := r1
  obtain ⟨its, rv, p', hz⟩ := I1.tuple hq
  have hn := line63
  have hsz : its.toArray.size ≤ sizeLine := by rw [List.size_toArray, ← rv.length]; exact hz
  refine call_reversed_tup p' (fun A E Q k => len_tuple p' (by omega) k) (args_nil ?_)
  have k0 : ∀ b o, s1.heap.get? b = some o → (s1.heap.push (rtObj a ((its.toArray.size : Int) - 1))).get? b = some o := fun b o e => Heap.get?_push_of_some _ e
  have I2 : Inv X pins σ H1 { s1 with heap := s1.heap.push (rtObj a ((its.toArray.size : Int) - 1)), toks := s1.toks + 1 + 1 } := I1.kept (t' := s1.toks + 1 + 1) k0
  obtain ⟨f0, f1, f2, f3, f4, f5⟩ := I1.fpOk (H' := H1) (b := s1.heap.objs.size) (Nat.le_refl _) (I1.hok.fresh (Nat.le_refl _))
  obtain ⟨ol, hol, hr⟩ := id p'
  have hne : a ≠ s1.heap.objs.size := Nat.ne_of_lt (Heap.lt_size hol)
  refine call_tuple_rt (s := { s1 with heap := s1.heap.push (rtObj a ((its.toArray.size : Int) - 1)), toks := s1.toks + 1 + 1 }) (I1.ok.hd hc) ⟨_, Heap.get?_push_size _ rfl, rfl, rfl⟩ ⟨ol, k0 _ _ hol, hr⟩ hne hsz fun h' tk acc hk hi => ?_
  have I3 : Inv X pins σ H1 { s1 with heap := h', toks := tk } := I2.turned (t' := tk) (fun b o hb e => hk b o hb e) f0 f1 f3 f4 f5
  refine ⟨.ref h'.objs.size, upd H1 h'.objs.size (.tup xs.reverse), I3.laid (t' := tk) (fun c o e => Heap.get?_push_of_some _ e) (Nat.le_refl _) (show ObjOk X.prog X.w _ _ _ (.tup xs.reverse) from ⟨by rw [List.length_reverse]; exact hz, acc.toList, vals_rev rv hi, ?_⟩), rfl, q _ (I3.hok.fresh (Nat.le_refl _))⟩
  rw [Array.toArray_toList]
  exact IsTup.new _ _
end
end RT
namespace TD
open PySem PySem.Spec PyProof.Rows L2
section
variable {X : Cx} {Γ : Cn} {Wx : WX} {e : Expr} {f : Mx W}
def mTupleReversedT (f : Mx W) : Mx W := bnd f fun w ρ => match w.tup ρ with
  | some xs => .ok (.d (.tuple xs.reverse)) ρ
  | none => .st
theorem de_tuple_reversedT {p p2 pos pos2 : Pos} (hm : X.mg "tuple" = none) (hm2 : X.mg "reversed" = none) (he : DE X Γ Wx e f) (hc : X.calm = true) (hK : X.K = Γ.K := by rfl) (hg : Gl X "tuple" := by rfl) (hg2 : Gl X "reversed" := by rfl)
    (hs : starEach [e] X.env = (false, eval e X.env) :: starEach [] X.env := by rfl)
    (hs2 : starEach [.Call (.Name "reversed" p2) [e] [] pos2] X.env = (false, eval (.Call (.Name "reversed" p2) [e] [] pos2) X.env) :: starEach [] X.env := by rfl) :
    DE X Γ Wx (.Call (.Name "tuple" p) [.Call (.Name "reversed" p2) [e] [] pos2] [] pos) (mTupleReversedT f) :=
  PE.imp (RT.pe_tupRevT hc hg hm hg2 hm2 he hs hs2) fun σ H Q ⟨F, ρ, R, h⟩ => by
    rw [hK]
    refine ⟨F, ρ, R, post_bnd (s := ⟨F, σ, H, ρ⟩) h fun v w F1 H1 ρ1 R1 S1 r1 h1 => ?_⟩
    cases e1 : w.tup ρ1 with
    | none => rw [e1] at h1; exact h1.elim
    | some xs =>
      rw [e1] at h1
      obtain ⟨_, p, vs, ev, _, hq, q⟩ := VRep.tup (s := ⟨F1, σ, H1, ρ1⟩) R1 r1 e1
      exact ⟨p, vs, ev, SqT.of hq, fun l hl => Post.tup (s := ⟨F1, σ, H1, ρ1⟩) R1 h1 q.reverse hl⟩
end
end TD
namespace L2
open PySem PySem.Spec PyProof.Rows
section
variable {P : Program} {w : World} {A : Around} {E : Value → Shared → Prop} {s : Shared}
/-- set(a tuple of tuples) -/
theorem call_set_tupsT {l : Addr} {items : Array Value} (ks : List (Addr × List Int)) {Q : Value → Shared → Prop} (hh : A.handled = none) (hl : s.heap.IsTuple l items) (hit : items.toList = ks.map fun p => Value.ref p.1)
    (hk : ∀ p ∈ ks, IsT P w s.heap p.2 p.1) (hfew : ks.length < 64) (hu : A.units + 3 < cLine)
    (h : ∀ (h' : Heap) (tk : Nat) L es ep t, SetTR P w h' s.heap.objs.size L es ep t → Got ks ks.length L → (∀ b o, s.heap.get? b = some o → h'.get? b = some o) → Q (.ref s.heap.objs.size) { s with heap := h', toks := tk }) :
    wpAny (model P w) A (call (.type "set") [.ref l]) Q E s := by
  have hisz : items.size = ks.length := by
    have q := congrArg List.length hit
    rw [Array.length_toList, List.length_map] at q
    exact q
  obtain ⟨c, tl, hmro⟩ := F.called_set.mro
  have hmade := F.called_set.made
  have hsub := F.called_set.sub
  refine wpAny_call (codeAny_of_tree ?_)
  show wpAny _ _ (callAny (.type "set") _) _ _ _
  refine wpAny_pure ⟨Code.quiet_builtin _ (by decide +kernel), codeAny_builtin F.entry_type_call ?_⟩
  rw [Around.under_plain (weight_type_call_type "set" [.ref l] []) rfl]
  have h1 := F.called_set.notType
  have h2 := F.called_set.canCreate
  have hct := F.typeCall_set_1 (.ref l)
  repeat (any_goals (first | assumption | wp_step))

  refine codeAny_mono (code_set_led1 (.ref l) (E := E) (Q₁ := fun obj s₁ => obj = .ref s.heap.objs.size ∧ s₁ = { s with heap := s.heap.push { cls := .type "set", dict := none, data := .set #[] 0 (.fresh 0 0 (!w.params.followText "set-order")) } }) ⟨rfl, rfl⟩) fun r s₁ hr => ?_
  cases r with
  | error e => exact hr
  | ok fl =>
    cases fl with
    | ret obj =>
      obtain ⟨rfl, rfl⟩ := hr
      have hS : (s.heap.push { cls := .type "set", dict := none, data := .set #[] 0 (.fresh 0 0 (!w.params.followText "set-order")) }).get? s.heap.objs.size = some { cls := .type "set", dict := none, data := .set #[] 0 (.fresh 0 0 (!w.params.followText "set-order")) } := Heap.get?_push_size _ rfl
      have hT : Shared.TypeIs { s with heap := s.heap.push { cls := .type "set", dict := none, data := .set #[] 0 (.fresh 0 0 (!w.params.followText "set-order")) } } (.ref s.heap.objs.size) "set" := ⟨_, hS, rfl⟩
      have hli := F.called_set.init.lookup
      have hbi := F.called_set.init.bind (.ref s.heap.objs.size)
      repeat (any_goals (first | assumption | wp_step))

      refine codeAny_mono (codeAny_call_builtin (R := wants (fun r s₂ => r = .none ∧ ∃ h' tk L es ep t, s₂ = { s with heap := h', toks := tk } ∧ SetTR P w h' s.heap.objs.size L es ep t ∧ Got ks ks.length L ∧
          (∀ b o, s.heap.get? b = some o → h'.get? b = some o)) E) F.called_set.init.plain F.entry_set_init (check_set_init_1 hT ?_)) fun r₂ s₂ hr₂ => ?_
      · obtain ⟨ol, hol, hcl, nl, hdl⟩ := hl
        obtain ⟨ocls, odict, odata, oslots⟩ := ol
        simp only at hcl hdl
        subst hcl; subst hdl
        have hol' : (s.heap.push { cls := .type "set", dict := none, data := .set #[] 0 (.fresh 0 0 (!w.params.followText "set-order")) }).get? l = some { cls := .type "tuple", dict := odict, data := .seq items nl, slots := oslots } := Heap.get?_push_of_some _ hol
        have hsls := F.sub_tuple_set
        have hslf := F.sub_tuple_frozenset
        have hne : (Value.type "tuple" == Value.type "dict") = false := by decide
        have hl1 : (s.heap.push { cls := .type "set", dict := none, data := .set #[] 0 (.fresh 0 0 (!w.params.followText "set-order")) }).IsTuple l items := ⟨_, hol', rfl, nl, rfl⟩
        unfold Builtin.«set.__init__» noKeywords Builtin.Frozenset.updateFrom
        generalize hPI : pyIter = PI
        wp_walk
        subst hPI

        refine wpAny_pyIter_tuple hl1 ?_
        refine wpAny_bind (wpAny_runValue ?_)
        have hlS : l < s.heap.objs.size := Heap.lt_size hol
        have hh3 : A.in1.in1.in1.handled = none := by simp [hh]
        have hz1 : (s.heap.push { cls := .type "set", dict := none, data := .set #[] 0 (.fresh 0 0 (!w.params.followText "set-order")) }).objs.size = s.heap.objs.size + 1 := Heap.size_push ..
        have hneI : l ≠ (s.heap.push { cls := .type "set", dict := none, data := .set #[] 0 (.fresh 0 0 (!w.params.followText "set-order")) }).objs.size := by
          rw [Heap.size_push]; exact Nat.ne_of_lt (Nat.lt_succ_of_lt hlS)
        have hSf : s.heap.objs.size ∉ [(s.heap.push { cls := .type "set", dict := none, data := .set #[] 0 (.fresh 0 0 (!w.params.followText "set-order")) }).objs.size, l] := by
          rw [Heap.size_push]; simp only [List.mem_cons, List.mem_singleton, List.not_mem_nil, or_false, not_or]
          exact ⟨Nat.ne_of_lt (Nat.lt_succ_self _), Nat.ne_of_gt hlS⟩
        have hval : ∀ (i : Nat) (v : Value), items[i]? = some v → ∃ p, ks[i]? = some p ∧ v = .ref p.1 := fun i v hv => by
          have q : items.toList[i]? = some v := by rw [Array.getElem?_toList]; exact hv
          rw [hit, List.getElem?_map] at q
          cases hq : ks[i]? with
          | none => rw [hq] at q; cases q
          | some p =>
            rw [hq] at q
            exact ⟨p, rfl, (Option.some.inj q).symm⟩
        have none_of : ∀ b, s.heap.objs.size ≤ b → s.heap.get? b = none := fun b hb => by
          cases q : s.heap.get? b with
          | none => rfl
          | some o => exact absurd (Nat.lt_of_lt_of_le (Heap.lt_size q) hb) (Nat.lt_irrefl _)
        refine set_update_tups ((Walks.tuple hh3 _ l hneI items).toS) s.heap.objs.size
          hSf ks hisz hfew hval s.heap hk (none_of _ (Nat.le_refl _)) (fun b hb => none_of b (by
            rw [List.mem_singleton.mp hb, Heap.size_push]
            exact Nat.le_succ _)) hu (items.size - 0) 0 _ (by omega) (Nat.zero_le _)
          ⟨⟨_, Heap.get?_push_size _ rfl, rfl, rfl⟩, (hl1.push _)⟩ (fun b o e => Heap.get?_push_of_some _ (Heap.get?_push_of_some _ e)) ?hS0 ?hR
        case hS0 =>
          have hget : ((s.heap.push { cls := .type "set", dict := none, data := .set #[] 0 (.fresh 0 0 (!w.params.followText "set-order")) }).push { cls := .type "tuple_iterator", data := .fields #[.ref l, .int 0 0] }).get? s.heap.objs.size
              = some { cls := .type "set", dict := none, data := .set #[] 0 (.fresh 0 0 (!w.params.followText "set-order")) } := Heap.get?_push_of_some _ hS
          exact ⟨[], #[], 0, _, setTR_fresh hget, Got.zero ks⟩
        case hR =>
          intro s' L es ep t hm hS' g' hkp
          obtain ⟨h', g2, d', tk', os'⟩ := s'
          have eg : g2 = s.gens := hm.gens
          have ed : d' = s.drawn := hm.drawn
          have eo : os' = s.os := hm.os
          subst eg; subst ed; subst eo
          show wpAny _ _ _ _ _ _
          refine wpAny_pure ?_
          show wpAny _ _ (ret Value.none) _ _ _
          rw [hisz] at g'
          exact wpAny_pure ⟨rfl, h', tk', L, es, ep, t, rfl, hS', g', hkp⟩

      · cases r₂ with
        | error e => exact hr₂
        | ok fl₂ =>
          cases fl₂ with
          | ret r =>
            obtain ⟨rfl, h', tk, L, es, ep, t, rfl, hS', g', hk'⟩ := hr₂
            repeat (any_goals (first | assumption | wp_step))
            exact h _ _ _ _ _ _ hS' g' hk'
          | _ => exact hr₂.elim
    | _ => exact hr.elim

end
theorem isTuple_of {h : Heap} {a : Addr} {its : Array Value} (p : IsTup h a its) : h.IsTuple a its := let ⟨o, ho, hc, n, hd⟩ := p; ⟨o, ho, hc, n, hd⟩
section
variable {X : Cx}
/-- set(xs), xs a tuple of tuples of ints -/
def rSetOfTT (K : PySem.W.Frag) (P : Program) (w : World) : List V → Hp → VK → Prop := fun xs H Q => ∃ (l : Addr) (ks : List (Addr × List Int)), xs = [V.ref l] ∧ SqT K H l (ks.map fun p => V.ref p.1) ∧ (∀ p ∈ ks, SqT K H p.1 (p.2.map V.int)) ∧ ks.length < 64 ∧
  ∀ a L, H a = none → (∀ p ∈ L, p ∈ ks) → (∀ p ∈ ks, p.2 ∈ L.map (·.2)) → Q (.ref a) (upd H a (SetTO P w a L))
theorem cr_setOfTT (hc : X.calm = true) (hu : X.A.units + 64 < cLine) : CallR X (.type "set") (rSetOfTT X.K X.prog X.w) := by
  intro pins s σ H xs us Q I r h
  obtain ⟨l, ks, rfl, hl, hk, hf, q⟩ := h
  rw [Vals.ref1 r]
  obtain ⟨its, rv, pl, hz⟩ := I.tuple hl
  have hn : H s.heap.objs.size = none := I.hok.fresh (Nat.le_refl _)
  refine call_set_tupsT (P := X.prog) (w := X.w) ks (I.ok.hd hc) (isTuple_of pl) (by simpa using refs_of_vals rv) (fun p hp => I.isT (hk p hp)) hf (by omega) fun h' tk L es ep t R g k => ?_
  refine ⟨.ref s.heap.objs.size, upd H s.heap.objs.size (SetTO X.prog X.w s.heap.objs.size L), I.laid (t' := tk) k (Nat.le_refl _) (setTO_new R.t0), rfl, q _ L hn (fun p hp => ?_) fun p hp => ?_⟩
  · exact List.mem_of_mem_take (g.sub p hp)
  · exact g.all p (by rw [List.take_length]; exact hp)
end
end L2
namespace TD
open PySem PySem.Spec PyProof.Rows L2
open Classical in
noncomputable def mSortedSetT (f : Mx W) : Mx W := bnd f fun w ρ => match w.tup ρ with
  | some xs => (match tupsOf xs with
    | some nss => if U nss then .ok (.l ((srtU nss).map fun ns => PyData.tuple (ns.map .int))) ρ else .st
    | none => .st)
  | none => .st
section
variable {X : Cx} {Γ : Cn} {Wx : WX} {e : Expr} {f : Mx W}
theorem de_sortedSetT {p p2 pos pos2 : Pos} (hm : X.mg "sorted" = none) (hm2 : X.mg "set" = none) (he : DE X Γ Wx e f) (hc : X.calm = true) (hu : X.A.units + 65 < cLine) (hK : X.K = Γ.K := by rfl) (hg : Gl X "sorted" := by rfl) (hg2 : Gl X "set" := by rfl)
    (hs : starEach [e] X.env = (false, eval e X.env) :: starEach [] X.env := by rfl)
    (hs2 : starEach [.Call (.Name "set" p2) [e] [] pos2] X.env = (false, eval (.Call (.Name "set" p2) [e] [] pos2) X.env) :: starEach [] X.env := by rfl) :
    DE X Γ Wx (.Call (.Name "sorted" p) [.Call (.Name "set" p2) [e] [] pos2] [] pos) (mSortedSetT f) :=
  PE.imp (pe_callB (cr_sortedT hc) hg hm boot_sorted (pa_cons (pe_callTy (cr_setOfTT hc (by omega)) hg2 hm2 boot_set (pa_cons he pa_nil hs) (by decide) (by decide) hs rfl) pa_nil hs2) (by decide) (by decide) hs2 rfl) fun σ H Q ⟨F, ρ, R, h⟩ => by
    refine ⟨F, ρ, R, post_bnd (s := ⟨F, σ, H, ρ⟩) h fun v w F1 H1 ρ1 R1 S1 r1 h1 => ?_⟩
    cases e1 : w.tup ρ1 with
    | none => rw [e1] at h1; exact h1.elim
    | some xs =>
      rw [e1] at h1
      simp only at h1
      cases e2 : tupsOf xs with
      | none => rw [e2] at h1; exact h1.elim
      | some nss =>
        rw [e2] at h1
        simp only at h1
        split at h1
        · rename_i hU
          obtain ⟨h64, d, hd, hall⟩ := hU
          obtain ⟨_, q, vs, rfl, _, hq, hr⟩ := VRep.tup (s := ⟨F1, σ, H1, ρ1⟩) R1 r1 e1
          obtain ⟨ks, rfl, rfl, hks⟩ := tupsOf_rp hr e2
          rw [List.length_map] at h64
          obtain ⟨B, hB⟩ := exists_bound (ks.map (·.2))
          rw [hK]
          refine ⟨q, ks, rfl, SqT.of hq, fun p hp => SqT.of (R1.sub _ _ (hks p hp)), h64, fun a L ha hL1 hL2 => ?_⟩
          obtain ⟨R2, S2⟩ := R1.alloc (np := Γ.np) (p := a) (o := SetTO X.prog X.w a L) (F' := F1) ha (.inl rfl)
          refine ⟨a, L, d, B, rfl, upd_same, fun p hp => SqT.of (R2.sub _ _ (hks p (hL1 p hp))), hd, fun p hp => ?_, fun L' l pm nd _ pw hl => ?_⟩
          · have hm : p.2 ∈ ks.map (·.2) := List.mem_map.mpr ⟨p, hL1 p hp, rfl⟩
            obtain ⟨h3, h4⟩ := hall p.2 hm
            exact ⟨h3, fun n hn => ⟨h4 n hn, hB p.2 hm n hn⟩⟩
          · have hmem : ∀ p ∈ L', p ∈ ks := fun p hp => hL1 p (pm.mem_iff.mp hp)
            have e3 : L'.map (·.2) = srtU (ks.map (·.2)) := by
              refine rise_eq ?_ (srtU_lt _) fun x => ?_
              · rw [List.pairwise_map]
                have nd' := List.pairwise_map.mp nd
                refine (List.Pairwise.and_mem.mp (pw.and nd')).imp fun {p r} h => ?_
                obtain ⟨hp, hr, hpw, hne⟩ := h
                have m1 : p.2 ∈ ks.map (·.2) := List.mem_map.mpr ⟨p, hmem p hp, rfl⟩
                have m2 : r.2 ∈ ks.map (·.2) := List.mem_map.mpr ⟨r, hmem r hr, rfl⟩
                have a1 := hall p.2 m1
                have a2 := hall r.2 m2
                exact code_ne (a1.1.trans a2.1.symm) (fun n hn => ⟨a1.2 n hn, hB p.2 m1 n hn⟩) (fun n hn => ⟨a2.2 n hn, hB r.2 m2 n hn⟩) hpw hne
              · rw [srtU_mem]
                constructor
                · intro hx
                  obtain ⟨p, hp, rfl⟩ := List.mem_map.mp hx
                  exact List.mem_map.mpr ⟨p, hmem p hp, rfl⟩
                · intro hx
                  obtain ⟨p, hp, rfl⟩ := List.mem_map.mp hx
                  obtain ⟨r, hr, er⟩ := List.mem_map.mp (hL2 p hp)
                  exact List.mem_map.mpr ⟨r, pm.mem_iff.mpr hr, er⟩
            have hrp : RpA F1 (L'.map fun q => V.ref q.1) ((srtU (ks.map (·.2))).map fun ns => PyData.tuple (ns.map .int)) := by
              rw [← e3, List.map_map]
              have key : ∀ M : List (Addr × List Int), (∀ p ∈ M, p ∈ ks) → RpA F1 (M.map fun q => V.ref q.1) (M.map ((fun ns => PyData.tuple (ns.map .int)) ∘ fun x => x.2)) := by
                intro M
                induction M with
                | nil => intro _; exact .nil
                | cons m M ih =>
                  intro hM
                  refine .cons (.tup (hks m (hM m List.mem_cons_self)) ?_) (ih fun p hp => hM p (List.mem_cons_of_mem _ hp))
                  have : ∀ ns : List Int, RpA F1 (ns.map V.int) (ns.map PyData.int) := by
                    intro ns
                    induction ns with
                    | nil => exact .nil
                    | cons n ns ih => exact .cons (.int n) ih
                  exact this _
              exact key L' hmem
            exact Post.lst (s := ⟨F1, σ, upd H1 a (SetTO X.prog X.w a L), ρ1⟩) R2 (Post.step (s1 := ⟨F1, σ, upd H1 a (SetTO X.prog X.w a L), ρ1⟩) (S1.trans S2 |> fun _ => S2) rfl (Post.step (s := ⟨F1, σ, H1, ρ1⟩) (s1 := ⟨F1, σ, H1, ρ1⟩) (Step.refl _) rfl h1)) hrp hl
        · exact h1.elim
end
end TD
/-! an exception out of the block of a comprehension -/
namespace L2
open PySem PySem.Spec PyProof.Rows
theorem lcx_fail {X : Cx} {pins : List (Addr × Obj)} {σ : St} {H3 : Hp} {s3 : Shared} {fp : List Addr} {scope : Scope} {cl : List (Str × Addr)} {Wx : WX}
    (hs0 : X.stack = X.env :: X.outer) (hf0 : X.env.frame = some X.env.locals) (tk : Takes X Wx) (I3 : Inv X pins σ H3 s3) (f3 : ∀ b ∈ fp, FpOk X pins H3 b)
    {ce : Env} (hce : ce = compEnvC scope cl s3.heap.objs.size X.env) {σ' : St} {pins' : List (Addr × Obj)} {H' : Hp} {s' : Shared} (I' : Inv (X.blk s3 H3 scope ce fp) pins' σ' H' s')
    {u : Value} {s2 : Shared} (c : L2.CX X.prog X.w X.stack H' s' (fun cls d H'' => Wx cls d σ H'') u s2) :
    notedBy (model X.prog X.w) X.A ce (CompFails (model X.prog X.w) X.A X.xe ce) u s2 := by
  obtain ⟨a, B, H2, cls, d, rfl, fl, hok, ub, na, os, ag, hE⟩ := c
  have cL : ce.locals = s3.heap.objs.size := by subst hce; rfl
  have cF : ce.frame = X.env.frame := by subst hce; rfl
  generalize hC : s3.heap.objs.size = C at cL
  obtain ⟨m, hn, _⟩ := I'.loc
  have hn : s'.heap.Ns C m := by
    have hn : s'.heap.Ns ce.locals m := hn
    rwa [cL] at hn
  have nC : H' C = none := by
    have z : H' ce.locals = none := I'.free
    rwa [cL] at z
  have old : ∀ b o, s3.heap.get? b = some o → b ≠ C := fun b o e => by rw [← hC]; exact Nat.ne_of_lt (Heap.lt_size e)
  have nf : C ∉ frs X.stack := fun z => by
    obtain ⟨_, o', e', _⟩ := I3.stack.mem z
    exact old C o' e' rfl
  obtain ⟨oC, esC, epC, hoC, hdC, rC⟩ := hn
  have bC : B.get? C = some oC := ub.keep C oC hoC nC nf
  have sC : s2.heap.get? C = some oC := fl.1 C oC bC
  obtain ⟨B', p1, p2⟩ := restrict B fun b => decide (b ≠ C)
  have sub : ∀ b o, B'.get? b = some o → B.get? b = some o ∧ b ≠ C := fun b o e => by
    by_cases hb : b = C
    · rw [p2 b (by simp [hb])] at e; cases e
    · rw [p1 b (by simp [hb])] at e; exact ⟨e, hb⟩
  have keep' : ∀ b o, B.get? b = some o → b ≠ C → B'.get? b = some o := fun b o e hb => by
    rw [p1 b (by simp [hb])]
    exact e
  have none' : ∀ b, B.get? b = none → B'.get? b = none := fun b e => by
    cases q : B'.get? b with
    | none => rfl
    | some o =>
      have := (sub b o q).1
      rw [e] at this; cases this
  have fl' : HandSPX.FlyingZ B' X.stack a (Zc cls d) s2.heap := by
    obtain ⟨k1, k2, k3, oe, vs, T, oT, ts, e1, e2, e3, e4, e5, e6⟩ := fl
    exact ⟨fun b o e => k1 b o (sub b o e).1, none' _ k2, funFrames_none k3 fun L hL => none' L (k3.mem hL).1, oe, vs, T, oT, ts, e1, e2, e3, e4, none' _ e5, e6⟩
  have n2 : H2 C = none := ub.free C oC hoC nC
  have hok' : HOk X.prog X.w H2 B' := fun b o q => (hok b o q).stay (fun e v hc r => keep' e v r fun z => by
    rcases hc with hc | hc
    · rw [hc] at z; rw [z] at q; rw [n2] at q; cases q
    · rw [z, n2] at hc; cases hc) (fun _ r => r) fun _ _ r => r
  obtain ⟨G, g1, g2⟩ := restrict s2.heap fun b => (B'.get? b).isSome || decide (b ∈ frs X.stack)
  have st : B'.StaysIn s2.heap := fl'.1
  have gB : ∀ b o, B'.get? b = some o → G.get? b = some o := fun b o e => by
    rw [g1 b (by simp [e])]
    exact st b o e
  have gF : ∀ b, b ∈ frs X.stack → G.get? b = s2.heap.get? b := fun b hb => g1 b (by simp [hb])
  have og : ∀ b o, G.get? b = some o → s2.heap.get? b = some o ∧ ((B'.get? b).isSome = true ∨ b ∈ frs X.stack) := fun b o e => by
    cases q : ((B'.get? b).isSome || decide (b ∈ frs X.stack)) with
    | false => rw [g2 b q] at e; cases e
    | true =>
      rw [g1 b q] at e
      exact ⟨e, by simpa [Bool.or_eq_true] using q⟩
  have U1 : Un (frs X.stack) fp H3 H' s3.heap s'.heap := I'.base
  have IG : Inv X pins σ H2 { s3 with heap := G, gens := s2.gens, drawn := s2.drawn, toks := s2.toks } := by
    refine I3.call (ch := fp) ⟨fun b o e n hb hx => ?_, fun b o e n hb hx => ?_, fun b o e n hx => ?_, fun b o e hx => ?_, fun b xs e => ub.tups b xs (U1.tups b xs e), fun b o xs e => ub.frzs b o xs (U1.frzs b o xs e), fun b ps e => ?_⟩ (hok'.kept gB) ag (fun b hb => ⟨(f3 b hb).2.2.2.1, (f3 b hb).2.1, (f3 b hb).2.2.2.2.1, (f3 b hb).2.2.2.2.2⟩)
    · exact gB b o (keep' b o (ub.keep b o (U1.keep b o e n hb hx) (U1.free b o e n hx) hb) (old b o e))
    · obtain ⟨sl, q⟩ := U1.slot b o e n hb hx
      obtain ⟨sl2, q2⟩ := ub.slot b _ q hb
      exact ⟨sl2, by rw [gF b hb]; exact q2⟩
    · obtain ⟨o', q⟩ := U1.there b o e hx
      exact ub.free b o' q (U1.free b o e n hx)
    · obtain ⟨o', q⟩ := U1.there b o e hx
      by_cases hb : b ∈ frs X.stack
      · obtain ⟨sl, q2⟩ := ub.slot b o' q hb
        exact ⟨_, by rw [gF b hb]; exact q2⟩
      · obtain ⟨o2, q2⟩ := ub.there b o' q hb
        exact ⟨o2, gB b o2 (keep' b o2 q2 (old b o e))⟩
    · obtain ⟨m1, q1⟩ := U1.tbls b ps e
      obtain ⟨m2, q2⟩ := ub.tbls b _ q1
      exact ⟨m1 ++ m2, by rw [q2, Array.append_assoc]⟩
  have osI : s'.os = s3.os := I'.os
  show wpAny _ X.A (noteFrame (.ref a) ce) _ _ s2
  rw [noteFrame_env _ cF]
  have hfr : X.A.frames = some (X.env :: X.outer) := by rw [I3.ok.frames, hs0]
  have fl2 : HandSPX.FlyingZ B' (X.env :: X.outer) a (Zc cls d) s2.heap := by rw [← hs0]; exact fl'
  refine HandSPX.looks_onZ Zc.steady hfr hf0 fl2 fun h1 hH up1 => ?_
  obtain ⟨sl1, h1C⟩ := up1 C oC sC fun vs q => by rw [hdC] at q; cases q
  refine ⟨m, by rw [cL]; exact ⟨_, esC, epC, h1C, hdC, rC⟩, fun h2 m2 hn2 hs2 => ?_⟩
  rw [cL] at hn2 hs2
  obtain ⟨b1, b0, f1, oe, vs, T, oT, ts, t1, t2, t3, t4, t5, t6, t7, t8, t9⟩ := hH
  have noC : ∀ b o ws, h1.get? b = some o → o.data = .fields ws → b ≠ C := fun b o ws e hd z => by
    rw [z, h1C] at e
    injection e with e
    rw [← e] at hd
    have hd : oC.data = .fields ws := hd
    rw [hdC] at hd
    cases hd
  have e1 := (hs2.2 a (noC a oe vs t1 t3)).trans t1
  have held : HandSPX.HeldZ B' (X.env :: X.outer) a (Zc cls d) X.env.locals h2 :=
    ⟨fun b o e => (hs2.2 b (sub b o e).2).trans (b1 b o e), b0, Heap.FunFrames.sameBut hs2 hn2 f1, oe, vs, T, oT, ts, e1, t2, t3, t4, t5, t6, (hs2.2 T (noC T oT ts t7 t8)).trans t7, t8, t9⟩
  unfold PySem.passOn
  refine wpAny_bind (wpAny_field e1 t3 t4 ?_)
  rw [if_neg (show ¬ ((Value.ref T == Value.none) = true) from by simp)]
  rw [cF, hf0]
  refine wpAny_bind (HandSPX.setFlight_onZ held fun h3 hH3 up3 => ?_)
  refine wpAny_throw ?_
  have up : G.UpToSlots h3 := fun b o e hd => by
    obtain ⟨e', hb⟩ := og b o e
    have bne : b ≠ C := by
      rcases hb with hb | hb
      · obtain ⟨o', q⟩ := Option.isSome_iff_exists.mp hb
        exact (sub b o' q).2
      · exact fun z => nf (z ▸ hb)
    obtain ⟨sl, q⟩ := up1 b o e' hd
    obtain ⟨sl3, q3⟩ := up3 b _ ((hs2.2 b bne).trans q) hd
    exact ⟨sl3, q3⟩
  refine tk _ _ ⟨a, B', { s3 with heap := G, gens := s2.gens, drawn := s2.drawn, toks := s2.toks }, pins, σ, H2, cls, d, rfl, IG, fun b o e hb => ?_, up, .inr (.inr (by rw [hs0]; exact hH3)), na, os.trans osI, ag, hE⟩
  obtain ⟨e', h⟩ := og b o e
  rcases h with h | h
  · obtain ⟨o', q⟩ := Option.isSome_iff_exists.mp h
    have z := st b o' q
    rw [e'] at z; cases z
    exact q
  · exact absurd h hb
section
variable {X : Cx}
theorem lc_coreX {pins : List (Addr × Obj)} {s : Shared} {σ : St} {H : Hp} {Q : VK} {elt tg iter : Expr} {ifs : List Expr} {scope : Scope} {own : List (Str × Nat)} {pos pos' : Pos} {wi : TI} {g : TG} {tt : TT} {te : TE} {use : Option (Value → Sem Unit)} {Qf : Value → Shared → Prop} {Wx : WX}
    (hs0 : X.stack = X.env :: X.outer) (hf0 : X.env.frame = some X.env.locals) (tk : Takes X Wx)
    (hc : X.calm = true) (hN : X.N.Nodup) (I : Inv X pins σ H s) (hi : PI X tg iter wi) (ok : BlkOk X.N X.env.scope scope own)
    (hg : ∀ (s : Shared) (H : Hp) (C : Addr) (cl : List (Str × Addr)) (fp : List Addr), PG (X.blk s H scope (compEnvC scope cl C X.env) fp) tg g) (ht : ∀ (s : Shared) (H : Hp) (C : Addr) (cl : List (Str × Addr)) (fp : List Addr), PTs (X.blk s H scope (compEnvC scope cl C X.env) fp) ifs tt)
    (he : ∀ (s : Shared) (H : Hp) (C : Addr) (cl : List (Str × Addr)) (fp : List Addr), ∀ E' : Value → Shared → Prop, (∀ σ', PassesAt (L2.CX X.prog X.w) ((X.blk s H scope (compEnvC scope cl C X.env) fp).wish E') σ' (fun cls d H' => Wx cls d σ H')) → PE ((X.blk s H scope (compEnvC scope cl C X.env) fp).wish E') elt te) (hs : ∀ x, foldedSetIterable iter X.env x = pure x)
    (h : tLc wi g tt te (own.map (·.2)) σ H Q)
    (hRR : ∀ D C s' m H' ce, ce.locals = C → Inv X pins σ H' s' → Q (.ref D) H' → s'.heap.Ns C m → FpOk X pins H' C → compEnds (model X.prog X.w) X.A X.xe use Qf (.ref D) ce (.ok .next) s') :
    wpAny (model X.prog X.w) X.A (comprehension (.ListComp elt [⟨tg, iter, ifs, 0⟩] scope pos) scope X.env pos' (newList []) false (eval iter X.env) use) Qf X.xe s := by
  have hfree : ∀ y ∈ scope.names, y.2 = .free → ∃ c, X.env.cells.lookup y.1 = some c := fun y hy e => by
    rcases ok.free y hy e with k | k
    · exact I.ok.has _ (.inl k)
    · exact I.ok.has _ (.inr k)
  refine comprehension_at (use := use) rfl hs (closure_ok hfree) ok.kind (fun y hy e => by rw [ok.uniq y hy, e])
    (thn (hi.run pins s σ H _ I h) fun xv s1 hx => thn hx fun itv s2 h2 => ?_)
  obtain ⟨it, fp, tn, J, H2, e, I2, T, st2, f2, q⟩ := h2
  subst e
  refine wpAny_newObj_type (newEnv_comp ?_) (by show 0 ≤ sizeLine; decide)
  generalize hD : s2.heap.objs.size = D
  have hDn : H2 D = none := I2.hok.fresh (Nat.le_of_eq hD)
  obtain ⟨W, ⟨m0, w0⟩, turn⟩ := q D hDn
  -- the new list
  generalize hs3 : ({ s2 with heap := s2.heap.push { cls := .type "list", data := .seq ([] : List Value).toArray } } : Shared) = s3
  have I3 : Inv X pins σ (upd H2 D (.lst [])) s3 := by
    rw [← hs3]
    refine I2.laid (t' := s2.toks) (fun b o e => Heap.get?_push_of_some _ e) (Nat.le_of_eq hD) ⟨Nat.zero_le _, [], 0, .nil, ?_⟩
    rw [← hD]
    exact Heap.get?_push_size _ rfl
  have h3 : s3.heap = s2.heap.push { cls := .type "list", data := .seq ([] : List Value).toArray } := by rw [← hs3]
  have sz : ∀ b ∈ fp, b < s2.heap.objs.size := fun b hb => by
    obtain ⟨o, e, _⟩ := T.obj _ _ st2 b hb
    exact Heap.lt_size e
  have f3 : ∀ b ∈ fp, FpOk X pins (upd H2 D (.lst [])) b ∧ b < s3.heap.objs.size := fun b hb => by
    have hlt := sz b hb
    refine ⟨⟨?_, (f2 b hb).2⟩, by rw [h3, Heap.size_push]; exact Nat.lt_succ_of_lt hlt⟩
    rw [upd_ne (by rw [← hD]; exact Nat.ne_of_lt hlt)]
    exact (f2 b hb).1
  have st3 : tn 0 s3.heap := T.keep _ _ _ st2 fun b _ o e => by rw [h3]; exact Heap.get?_push_of_some _ e
  have I4 := block_start I3 ok hN f3
  have pg := hg s3 (upd H2 D (.lst [])) s3.heap.objs.size (cellsFrom (s3.heap.objs.size + 1) scope.names (cloFrom X.env.cells scope.names [])) fp
  have pt := ht s3 (upd H2 D (.lst [])) s3.heap.objs.size (cellsFrom (s3.heap.objs.size + 1) scope.names (cloFrom X.env.cells scope.names [])) fp
  have pe := he s3 (upd H2 D (.lst [])) s3.heap.objs.size (cellsFrom (s3.heap.objs.size + 1) scope.names (cloFrom X.env.cells scope.names [])) fp
  show codeAny _ _ (.compStart (.ListComp elt [⟨tg, iter, ifs, 0⟩] scope pos) 0 (.ref it) (.ref D) (compEnvC scope (cellsFrom (s3.heap.objs.size + 1) scope.names (cloFrom X.env.cells scope.names [])) s3.heap.objs.size X.env)) (compEnds (model X.prog X.w) X.A X.xe use Qf (.ref D) (compEnvC scope (cellsFrom (s3.heap.objs.size + 1) scope.names (cloFrom X.env.cells scope.names [])) s3.heap.objs.size X.env)) { s3 with heap := pushCells (s3.heap.push { cls := .type "dict", data := .dict #[] }) scope.names }
  have nfp : ∀ b ∈ fp, (upd H2 D (.lst [])) b = none := fun b hb => (f3 b hb).1.1
  generalize hce : compEnvC scope (cellsFrom (s3.heap.objs.size + 1) scope.names (cloFrom X.env.cells scope.names [])) s3.heap.objs.size X.env = ce at I4 pg pt pe ⊢
  have cL : ce.locals = s3.heap.objs.size := by subst hce; rfl
  have hce' := hce.symm
  generalize hH3 : upd H2 D (.lst []) = H3 at I3 I4 pg pt pe w0 nfp f3
  generalize hs4 : ({ s3 with heap := pushCells (s3.heap.push { cls := .type "dict", data := .dict #[] }) scope.names } : Shared) = s4 at I4 ⊢
  have st4 : tn 0 s4.heap := T.keep _ _ _ st3 fun b _ o e => by rw [← hs4]; exact pushCells_keeps _ _ _ _ (Heap.get?_push_of_some _ e)
  have stat : ∀ {σ' : St} {H' : Hp} {s' : Shared}, Inv (X.blk s3 H3 scope ce fp) [] σ' H' s' → (∀ b ∈ fp, H' b = none) → ∀ b ∈ fp, FpOk (X.blk s3 H3 scope ce fp) [] H' b := fun {σ' H' s'} I' hn b hb =>
    ⟨hn b hb, (I'.ok.exf b hb).1, I'.ok.exfs b hb, .inl hb, fun x c e => (I'.ok.exf b hb).2 x c e, fun p hp => absurd (show p ∈ ([] : List (Addr × Obj)) ++ [] from hp) (by simp)⟩
  have loop : codeAny (model X.prog X.w) X.A (.compLoop (.ListComp elt [⟨tg, iter, ifs, 0⟩] scope pos) 0 (.ref it) (.ref D) ce) (compEnds (model X.prog X.w) X.A X.xe use Qf (.ref D) ce) s4 := by
    refine compLoop_any (fun n s' => ∃ i H', Inv (X.blk s3 H3 scope ce fp) [] (wipe σ (own.map (·.2))) H' s' ∧ tn i s'.heap ∧ (∀ b ∈ fp, H' b = none) ∧ W i n H') ?_ m0 ⟨0, H3, I4, st4, nfp, w0⟩
    rintro n s5 ⟨i, H5, I5, st5, n5, w5⟩
    rcases turn i n H5 w5 with ⟨stop, qq⟩ | ⟨go, Nx, hNx, step⟩
    · have td := T.done (X.blk s3 H3 scope ce fp) rfl rfl rfl hc i [] s5 _ H5 (fun _ _ => False) I5 (stat I5 n5) st5 stop
      refine thnF td fun r s6 ⟨hr, I6⟩ => ?_
      subst hr
      -- back in the def's context
      have I7 : Inv X pins σ H5 s6 := I3.call' (ch := fp) I6.os I6.base I6.hok I6.bare fun b hb => ⟨(f3 b hb).1.2.2.2.1, (f3 b hb).1.2.1, (f3 b hb).1.2.2.2.2.1, (f3 b hb).1.2.2.2.2.2⟩
      have nC : H5 s3.heap.objs.size = none := by
        have z : H5 ce.locals = none := I6.free
        rw [cL] at z
        exact z
      obtain ⟨m, hn, _⟩ := I6.loc
      have hn : s6.heap.Ns ce.locals m := hn
      rw [cL] at hn
      exact hRR D s3.heap.objs.size s6 m H5 ce cL I7 qq hn (I3.fpOk (Nat.le_refl _) nC)
    · have ti := T.item (X.blk s3 H3 scope ce fp) rfl rfl rfl hc i [] s5 _ H5 (fun _ _ => False) I5 (stat I5 n5) st5 go
      refine thnF ti fun r s6 ⟨u, hr, h6⟩ => ?_
      subst hr
      refine thnF h6 fun _ s7 ⟨x, H7, I7, r7, y7, st7, n7⟩ => ?_
      have I7' := I7.pinned (stat I7 n7) (T.obj _ _ st7)
      refine thnF (pg.run _ s7 _ H7 x u _ I7' r7 (step x H7 y7)) fun _ s8 ⟨σ8, H8, I8, hw8, q8⟩ => ?_
      refine thnF (pt.run _ s8 σ8 H8 _ I8 q8) fun b s9 ⟨H9, I9, q9⟩ => ?_
      -- the turn's end
      have fin : ∀ {s' : Shared} {H' : Hp}, Inv (X.blk s3 H3 scope ce fp) ([] ++ pinsAt fp s7.heap) σ8 H' s' → Nx H' → ∃ m, m < n ∧ ∃ i H', Inv (X.blk s3 H3 scope ce fp) [] (wipe σ (own.map (·.2))) H' s' ∧ tn i s'.heap ∧ (∀ b ∈ fp, H' b = none) ∧ W i m H' := fun {s' H'} I' nx => by
        obtain ⟨m', hm, w'⟩ := hNx H' nx
        have pin' : ∀ b ∈ fp, ∀ o, s7.heap.get? b = some o → s'.heap.get? b = some o ∧ H' b = none := fun b hb o e =>
          let z := I'.pin (b, o) (List.mem_append_right _ (List.mem_append_right _ (mem_pinsAt hb e)))
          ⟨z.1, z.2.1⟩
        have hl : (wipe σ (own.map (·.2))).length = σ8.length := by rw [← hw8, wipe_length]
        refine ⟨m', hm, i + 1, H', (I'.unpinned (pins := [])).weak hl (fun j v e => ?_), T.keep _ _ _ st7 fun b hb o e => (pin' b hb o e).1, fun b hb => ?_, w'⟩
        · rw [← hw8] at e
          exact (wipe_some e).1
        · obtain ⟨o, e, _⟩ := T.obj _ _ st7 b hb
          exact (pin' b hb o e).2
      cases b with
      | false =>
        simp only [Bool.false_eq_true, if_false] at q9 ⊢
        exact fin I9 q9
      | true =>
        simp only [if_true] at q9 ⊢
        have pe' := pe (notedBy (model X.prog X.w) X.A ce fun e s' => compEnds (model X.prog X.w) X.A X.xe use Qf (.ref D) ce (.error e) s') fun σ' pins' H' s' e s'' I' c => by
          have nf := lcx_fail hs0 hf0 tk I3 (fun b hb => (f3 b hb).1) hce' I'.unwish c
          exact wpAny_mono nf (fun _ _ h => by cases use <;> exact h) fun _ _ h => by cases use <;> exact h
        refine thn (pe'.run _ s9 σ8 H9 _ (I9.wish _) q9) fun z s10 ⟨yv, H10, I10w, r10, acc, hD10, hz10, nx⟩ => ?_
        have I10 := I10w.unwish
        exact app_ok (X := X.blk s3 H3 scope ce fp) I10 hD10 hz10 r10 fun s11 I11 => fin I11 nx
  exact codeAny_compStart_list loop (T.self X.A 0 _ _ _ st4 loop)
/-- as a value -/
theorem pe_lcX {Wx : WX} {elt tg iter : Expr} {ifs : List Expr} {scope : Scope} {own : List (Str × Nat)} {pos : Pos} {wi : TI} {g : TG} {tt : TT} {te : St → TE} (hs0 : X.stack = X.env :: X.outer) (hf0 : X.env.frame = some X.env.locals) (tk : Takes X Wx) (hc : X.calm = true) (hN : X.N.Nodup) (hi : PI X tg iter wi) (ok : BlkOk X.N X.env.scope scope own)
    (hg : ∀ (s : Shared) (H : Hp) (C : Addr) (cl : List (Str × Addr)) (fp : List Addr), PG (X.blk s H scope (compEnvC scope cl C X.env) fp) tg g) (ht : ∀ (s : Shared) (H : Hp) (C : Addr) (cl : List (Str × Addr)) (fp : List Addr), PTs (X.blk s H scope (compEnvC scope cl C X.env) fp) ifs tt)
    (he : ∀ (s : Shared) (H : Hp) (C : Addr) (cl : List (Str × Addr)) (fp : List Addr), ∀ (σ : St) (E' : Value → Shared → Prop), (∀ σ', PassesAt (L2.CX X.prog X.w) ((X.blk s H scope (compEnvC scope cl C X.env) fp).wish E') σ' (fun cls d H' => Wx cls d σ H')) → PE ((X.blk s H scope (compEnvC scope cl C X.env) fp).wish E') elt (te σ)) (hs : ∀ x, foldedSetIterable iter X.env x = pure x := by intro _; rfl) :
    PE X (.ListComp elt [⟨tg, iter, ifs, 0⟩] scope pos) (fun σ H Q => tLc wi g tt (te σ) (own.map (·.2)) σ H Q) := by
  refine ⟨fun pins s σ H Q I h => ?_⟩
  rw [eval_ListComp]
  refine lc_coreX hs0 hf0 tk hc hN I hi ok hg ht (fun s H C cl fp => he s H C cl fp σ) hs h fun D C s' m H' ce hL I' q hn f => ⟨m, (by rw [hL]; exact hn), fun h'' sb => ?_⟩
  rw [hL] at sb
  obtain ⟨f0, f1, f2, f3, f4, f5⟩ := f
  exact ⟨.ref D, H', I'.turned (t' := s'.toks) (fun b o hb e => (sb.2 b hb).trans e) f0 f1 f3 f4 f5, rfl, q⟩
/-- name = [..] on one line, the name a local -/
theorem ps_setLcX {Wx : WX} {i : Nat} {y : Str} {py : Pos} {elt tg iter : Expr} {ifs : List Expr} {scope : Scope} {own : List (Str × Nat)} {pos spos : Pos} {wi : TI} {g : TG} {tt : TT} {te : St → TE} (hs0 : X.stack = X.env :: X.outer) (hf0 : X.env.frame = some X.env.locals) (tk : Takes X Wx) (hc : X.calm = true) (hN : X.N.Nodup) (hy : X.N[i]? = some y) (hyl : X.env.scope.names.lookup y = some .local)
    (hsw : swapsWith (.ListComp elt [⟨tg, iter, ifs, 0⟩] scope pos) (some (.Name y py)) spos.line X.env = pure true) (hi : PI X tg iter wi) (ok : BlkOk X.N X.env.scope scope own)
    (hg : ∀ (s : Shared) (H : Hp) (C : Addr) (cl : List (Str × Addr)) (fp : List Addr), PG (X.blk s H scope (compEnvC scope cl C X.env) fp) tg g) (ht : ∀ (s : Shared) (H : Hp) (C : Addr) (cl : List (Str × Addr)) (fp : List Addr), PTs (X.blk s H scope (compEnvC scope cl C X.env) fp) ifs tt)
    (he : ∀ (s : Shared) (H : Hp) (C : Addr) (cl : List (Str × Addr)) (fp : List Addr), ∀ (σ : St) (E' : Value → Shared → Prop), (∀ σ', PassesAt (L2.CX X.prog X.w) ((X.blk s H scope (compEnvC scope cl C X.env) fp).wish E') σ' (fun cls d H' => Wx cls d σ H')) → PE ((X.blk s H scope (compEnvC scope cl C X.env) fp).wish E') elt (te σ)) (hs : ∀ x, foldedSetIterable iter X.env x = pure x := by intro _; rfl) :
    PS X (.Assign [.Name y py] (.ListComp elt [⟨tg, iter, ifs, 0⟩] scope pos) spos) (tAsg (fun σ H Q => tLc wi g tt (te σ) (own.map (·.2)) σ H Q) (gName i)) := by
  refine ⟨fun pins s σ H D I h => ?_⟩
  rw [exec_Assign_Name_used _ _ _ _ hsw]
  refine wpAny_bind (wpAny_standAt (wpAny_bind ?_))
  show wpAny _ X.A (do let _ ← comprehension (.ListComp elt [⟨tg, iter, ifs, 0⟩] scope pos) scope X.env (firstIterPos [⟨tg, iter, ifs, 0⟩] pos) (newList []) false (eval iter X.env) (some (assign (.Name y py) X.env))) _ _ s
  have h : tLc wi g tt (te σ) (own.map (·.2)) σ H (fun x H1 => gName i x σ H1 D.nx) := h
  refine wpAny_bind (thn (lc_coreX (Qf := fun _ s' => SP X pins D .next s') hs0 hf0 tk hc hN I hi ok hg ht (fun s H C cl fp => he s H C cl fp σ) hs h fun L C s' m H' ce hL I' q hn f => ?_) fun _ s' hq => wpAny_pure (wpAny_pure hq))
  show wpAny _ _ (assign (.Name y py) X.env (.ref L)) _ _ _
  refine wpAny_assign_Name (store_ok2 (v := V.ref L) I' hN hy (.inl hyl) rfl (fun s2 I2 ⟨a, sb, ha⟩ => ?_) (.inr hyl))
  obtain ⟨f0, f1, f2, f3, f4, f5⟩ := f
  have haC : C ≠ a := by
    rcases ha with z | z
    · rw [z]; exact f1
    · exact fun e => f4 y a z e.symm
  refine ⟨m, by rw [hL]; exact hn.sameBut sb haC, fun h3 sb3 => ?_⟩
  rw [hL] at sb3
  exact ⟨_, H', I2.turned (t' := s2.toks) (fun b o hb e => (sb3.2 b hb).trans e) f0 f1 f3 f4 f5, q⟩
end
end L2
namespace TD
open PySem PySem.Spec PyProof.Rows L2
def compLX (vs : List Nat) (bd : Bd) (tt : Mx Bool) (te : Mx W) : List D → List D → Mx (List D)
  | [], acc, ρ => .ok acc ρ
  | x :: xs, acc, ρ => match bd x ρ with
    | none => .st
    | some ρ1 => match tt ρ1 with
      | .ok true ρ2 => match te ρ2 with
        | .ok w ρ3 => match w.datum ρ3 with
          | some (y, ρ4) => if acc.length < 100000 then compLX vs bd tt te xs (acc ++ [y]) (wipeR ρ4 vs) else .st
          | none => .st
        | .er c ρ3 => .er c (wipeR ρ3 vs)
        | _ => .st
      | .ok false ρ2 => compLX vs bd tt te xs acc (wipeR ρ2 vs)
      | _ => .st
def mCompX (vs : List Nat) (it : Mx Walk) (bd : Bd) (tt : Mx Bool) (te : Mx W) : Mx W := bnd it fun w ρ => match compLX vs bd tt te w.1 [] (wipeR (outR ρ w.2) vs) with
  | .ok ys ρ' => match restoreR (outR ρ w.2) vs ρ' with
    | some ρ'' => match backR ρ'' w with
      | some ρ3 => .ok (.l ys) ρ3
      | none => .st
    | none => .st
  | .er c ρ' => match restoreR (outR ρ w.2) vs ρ' with
    | some ρ'' => match backR ρ'' w with
      | some ρ3 => .er c ρ3
      | none => .st
    | none => .st
  | .st => .st
section
variable {X : Cx} {Γ : Cn} {Wx : WX} {a b c e tg : Expr} {f g f1 f2 : Mx W} {fs : Mx (List W)} {pos : Pos} {t : Mx Bool} {p q : Mx Fl}
theorem compX_run {s1 : Sx} {J : It} {g : TG} {bd : Bd} {vs : List Nat} {te : Mx W} {items : List D} {σ : L2.St} {Qd : Hp → Prop} {Dl : Addr} (h1σ : s1.σ = wipe σ vs) {ρ1 : Env} (h1ρ : s1.ρ = wipeR ρ1 vs)
    (R1 : Rel Γ.K s1) (hD : s1.H Dl = none) (it : IterOk Γ s1 J items) (ok : OkGw Γ vs g bd) 
    (K : List D → Env → Prop) (fin : ∀ ys ρ', K ys ρ' → ∀ F' H' us, Rel Γ.K ⟨F', wipe σ vs, H', ρ'⟩ → Step Γ.np s1 ⟨F', wipe σ vs, H', ρ'⟩ → H' Dl = some (.lst us) → RpA F' us ys → F' Dl = none → ¬ Cell ⟨F', wipe σ vs, H', ρ'⟩ Dl → (∀ i ∈ vs, ∀ b : B, ρ'[i]? ≠ some (some b)) → Qd H')
    (KE : Str → Env → Prop) (finE : ∀ c ρ', KE c ρ' → ∀ F' H' C, Γ.mg c = some (.ref C) → Rel Γ.K ⟨F', wipe σ vs, H', ρ'⟩ → Step Γ.np s1 ⟨F', wipe σ vs, H', ρ'⟩ → (∀ i ∈ vs, ∀ b : B, ρ'[i]? ≠ some (some b)) → Wx (.ref C) none σ H')
    (h : match compLX vs bd t te items [] s1.ρ with | .ok ys ρ' => K ys ρ' | .er c ρ' => KE c ρ' | .st => False) :
    ∃ Wd : Nat → Nat → Hp → Prop, (∃ m, Wd 0 m (upd s1.H Dl (.lst []))) ∧ ∀ i m H, Wd i m H → (J.stop i H ∧ Qd H) ∨ (J.go i H ∧ ∃ Nx : Hp → Prop, (∀ H', Nx H' → ∃ m', m' < m ∧ Wd (i + 1) m' H') ∧ ∀ x H', J.yld i H x H' → g x (wipe σ vs) H' fun σ2 H2 => wipe σ2 vs = wipe σ vs ∧ tT Γ W0 t σ2 H2 fun b H3 =>
      if b = true then tE Γ (fun cls d _ H' => Wx cls d σ H') te σ2 H3 fun y H4 => ∃ acc, H4 Dl = some (.lst acc) ∧ acc.length < sizeLine ∧ Nx (upd H4 Dl (.lst (acc ++ [y]))) else Nx H3) := by
  obtain ⟨F1, σ1, H1, ρ1'⟩ := s1
  have h1σ : σ1 = wipe σ vs := h1σ
  have h1ρ : ρ1' = wipeR ρ1 vs := h1ρ
  subst h1σ h1ρ
  have ww : wipe (wipe σ vs) vs = wipe σ vs := by
    have q : ∀ (us vs : List Nat), (∀ i ∈ us, i ∈ vs) → wipe (wipe σ vs) us = wipe σ vs := by
      intro us
      induction us with
      | nil => intro vs _; rfl
      | cons u us ih =>
        intro vs hu
        show (wipe (wipe σ vs) us).set u none = wipe σ vs
        rw [ih vs fun i hi => hu i (List.mem_cons_of_mem _ hi)]
        apply List.ext_getElem?
        intro k
        by_cases hk : k = u
        · subst hk
          have hm := hu k List.mem_cons_self
          by_cases hl : k < (wipe σ vs).length
          · rw [List.getElem?_set_self hl]
            have nn : ∀ x, (wipe σ vs)[k]? ≠ some (some x) := fun x z => (wipe_some z).2 hm
            rw [List.getElem?_eq_getElem hl]
            cases e : (wipe σ vs)[k] with
            | none => rfl
            | some x => exact absurd (by rw [List.getElem?_eq_getElem hl, e]) (nn x)
          · rw [List.getElem?_eq_none (by simpa using hl), List.getElem?_eq_none (by simpa using hl)]
        · rw [List.getElem?_set_ne (Ne.symm hk)]
    exact q vs vs fun _ z => z
  let P : Nat → Nat → Hp → Prop := fun i m H => ∃ F ρ us acc, Rel Γ.K ⟨F, wipe σ vs, H, ρ⟩ ∧ Step Γ.np ⟨F1, wipe σ vs, H1, wipeR ρ1 vs⟩ ⟨F, wipe σ vs, H, ρ⟩ ∧ H Dl = some (.lst us) ∧ RpA F us acc ∧ F Dl = none ∧ ¬ Cell ⟨F, wipe σ vs, H, ρ⟩ Dl ∧ (∃ ρ0, ρ = wipeR ρ0 vs) ∧ m = items.length - i ∧
    match compLX vs bd t te (items.drop i) acc ρ with | .ok ys ρ' => K ys ρ' | .er c ρ' => KE c ρ' | .st => False
  refine ⟨P, ⟨items.length, ?_⟩, ?_⟩
  · obtain ⟨R', S'⟩ := R1.alloc (np := Γ.np) (p := Dl) (o := .lst []) (F' := F1) hD (.inl rfl)
    exact ⟨F1, wipeR ρ1 vs, [], [], R', S', upd_same, .nil, R1.free hD, fun ⟨i, c⟩ => R1.newNoCell hD ⟨i, c⟩, ⟨ρ1, rfl⟩, by simp, h⟩
  · rintro i m H ⟨F, ρ, us, acc, R, S, hu, ra, hF, hc, hρ0, rfl, h⟩
    obtain ⟨stop, turn⟩ := it i ⟨F, wipe σ vs, H, ρ⟩ S.kp R
    cases e : items[i]? with
    | none =>
      have hle : items.length ≤ i := List.getElem?_eq_none_iff.mp e
      rw [List.drop_eq_nil_of_le hle] at h
      obtain ⟨ρ0, rfl⟩ := hρ0
      exact .inl ⟨stop hle, fin acc _ h F H us R S hu ra hF hc fun i hi b z => (wipeR_some z).2 hi⟩
    | some d =>
      have hlt : i < items.length := (List.getElem?_eq_some_iff.mp e).1
      obtain ⟨go, yld⟩ := turn d e
      have ed : items.drop i = d :: items.drop (i + 1) := by
        rw [List.drop_eq_getElem_cons hlt]
        congr 1
        exact Option.some.inj ((List.getElem?_eq_getElem hlt).symm.trans e)
      rw [ed] at h
      unfold compLX at h
      refine .inr ⟨go, fun H' => P (i + 1) (items.length - (i + 1)) H', fun H' q => ⟨items.length - (i + 1), by omega, q⟩, fun v H2 y => ?_⟩
      obtain ⟨F2, R2, S2, rv⟩ := yld v H2 y
      have R2 : Rel Γ.K ⟨F2, wipe σ vs, H2, ρ⟩ := R2
      have S2 : Step Γ.np ⟨F, wipe σ vs, H, ρ⟩ ⟨F2, wipe σ vs, H2, ρ⟩ := S2
      cases eb : bd d ρ with
      | none => rw [eb] at h; exact h.elim
      | some ρ3 =>
        rw [eb] at h
        simp only at h
        refine ok ⟨F2, wipe σ vs, H2, ρ⟩ v d ρ3 _ R2 rv eb fun σ3 hw R3 S3 => ⟨hw.trans ww, F2, ρ3, R3, ?_⟩
        have R3 : Rel Γ.K ⟨F2, σ3, H2, ρ3⟩ := R3
        have St : Step Γ.np ⟨F1, wipe σ vs, H1, wipeR ρ1 vs⟩ ⟨F2, σ3, H2, ρ3⟩ := (S.trans S2).trans S3
        have hw3 : wipe σ3 vs = wipe σ vs := hw.trans ww
        -- the list that is filled, at any later state of the turn
        have there : ∀ {s' : Sx}, Rel Γ.K s' → Step Γ.np ⟨F, wipe σ vs, H, ρ⟩ s' → s'.H Dl = some (.lst us) ∧ RpA s'.F us acc ∧ s'.F Dl = none ∧ ¬ Cell s' Dl := fun {s'} R' S' =>
          ⟨S'.keep Dl _ hu hc, ra.mono (S'.mono R), (S'.fz Dl _ hu hc).none hF (fun _ z => by cases z), fun c => (S'.cells Dl c).elim hc fun z => by
            have z' : H Dl = none := z
            rw [hu] at z'; cases z'⟩
        cases et : t ρ3 with
        | st => rw [et] at h; exact h.elim
        | er c ρ4 => rw [et] at h; exact h.elim
        | ok b ρ4 =>
          rw [et] at h
          intro F4 H4 R4 S4
          have R4 : Rel Γ.K ⟨F4, σ3, H4, ρ4⟩ := R4
          have S4 : Step Γ.np ⟨F2, σ3, H2, ρ3⟩ ⟨F4, σ3, H4, ρ4⟩ := S4
          cases b with
          | false =>
            obtain ⟨t1, t2, t3, t4⟩ := there R4 ((S2.trans S3).trans S4)
            have Rw := R4.wiped (σ := σ) hw3
            have Sw := (St.trans S4).wiped (σ := σ) rfl rfl hw3
            refine ⟨F4, wipeR ρ4 vs, us, acc, Rw, Sw, t1, t2, t3, fun ⟨j, g1, b, g2, g3⟩ => ?_, ⟨ρ4, rfl⟩, rfl, h⟩
            obtain ⟨g4, g5⟩ := wipeR_some g2
            have g1' : (wipe σ vs)[j]? = some (some (.ref Dl)) := g1
            rw [← hw3, wipe_out g5] at g1'
            exact t4 ⟨j, g1', b, g4, g3⟩
          | true =>
            simp only at h
            refine ⟨F4, ρ4, R4, ?_⟩
            cases ee : te ρ4 with
            | st => rw [ee] at h; exact h.elim
            | er c ρ5 =>
              rw [ee] at h
              intro F5 H5 C5 hC5 R5 S5
              have R5 : Rel Γ.K ⟨F5, σ3, H5, ρ5⟩ := R5
              have S5 : Step Γ.np ⟨F4, σ3, H4, ρ4⟩ ⟨F5, σ3, H5, ρ5⟩ := S5
              exact finE c _ h F5 H5 C5 hC5 (R5.wiped (σ := σ) hw3) (((St.trans S4).trans S5).wiped (σ := σ) rfl rfl hw3) fun i hi b z => (wipeR_some z).2 hi
            | ok w ρ5 =>
              rw [ee] at h
              intro y F5 H5 R5 S5 rw5
              have R5 : Rel Γ.K ⟨F5, σ3, H5, ρ5⟩ := R5
              have S5 : Step Γ.np ⟨F4, σ3, H4, ρ4⟩ ⟨F5, σ3, H5, ρ5⟩ := S5
              simp only at h
              cases ew : w.datum ρ5 with
              | none => rw [ew] at h; exact h.elim
              | some q =>
                obtain ⟨y', ρ6⟩ := q
                simp only [ew] at h
                by_cases hlen : acc.length < 100000
                · rw [if_pos hlen] at h
                  obtain ⟨F6, R6, S6, p6, m6, n6, c6⟩ := datum_ok (s := ⟨F5, σ3, H5, ρ5⟩) R5 S5 rw5 ew
                  have S6 : Step Γ.np ⟨F4, σ3, H4, ρ4⟩ ⟨F6, σ3, H5, ρ6⟩ := S6
                  have R6 : Rel Γ.K ⟨F6, σ3, H5, ρ6⟩ := R6
                  obtain ⟨t1, t2, t3, t4⟩ := there R6 (((S2.trans S3).trans S4).trans S6)
                  have t1 : H5 Dl = some (.lst us) := t1
                  refine ⟨us, t1, by rw [ra.length]; exact Nat.lt_of_lt_of_le hlen (by decide), ?_⟩
                  obtain ⟨R7, S7⟩ := upd_fresh (u := .lst (us ++ [y])) R6 ((St.trans S4).trans S6) hD t1 t3 t4
                  have Rw := R7.wiped (σ := σ) (vs := vs) hw3
                  have Sw := S7.wiped (σ := σ) (vs := vs) rfl rfl hw3
                  refine ⟨F6, wipeR ρ6 vs, us ++ [y], acc ++ [y'], Rw, Sw, upd_same, RpA.append t2 (.one p6), t3, fun ⟨j, g1, b, g2, g3⟩ => ?_, ⟨ρ6, rfl⟩, rfl, h⟩
                  obtain ⟨g4, g5⟩ := wipeR_some g2
                  have g1' : (wipe σ vs)[j]? = some (some (.ref Dl)) := g1
                  rw [← hw3, wipe_out g5] at g1'
                  exact t4 ⟨j, g1', b, g4, g3⟩
                · rw [if_neg hlen] at h
                  exact h.elim
theorem tLcX_of {m : Mx Walk} {g : TG} {bd : Bd} {te : Mx W} {vs : List Nat} (ok : OkGw Γ vs g bd) (hvs : ∀ i ∈ vs, Γ.np ≤ i) : ∀ σ H Q, tE Γ Wx (mCompX vs m bd t te) σ H Q → tLc (tI Γ Wx m) g (tT Γ W0 t) (tE Γ (fun cls d _ H' => Wx cls d σ H') te) vs σ H Q := fun σ H Q ⟨F, ρ, R, h⟩ =>
  ⟨F, ρ, R, postwi_bnd (s := ⟨F, σ, H, ρ⟩) h fun w J F1 H1 ρ1 R1 S1 mv it h1 Dl hD => by
    have R1 : Rel Γ.K ⟨F1, σ, H1, ρ1⟩ := R1
    have mv' : MvOk (Sx.ρ ⟨F1, σ, H1, ρ1⟩) w := mv
    refine compX_run (Wx := Wx) (Γ := Γ) (items := w.1) (t := t) (te := te) (bd := bd) (s1 := ⟨F1, wipe σ vs, H1, wipeR (outR ρ1 w.2) vs⟩) (ρ1 := outR ρ1 w.2) rfl rfl ((R1.out w.2).wiped (σ := σ) (vs := vs) rfl) hD ?_ ok
      (fun ys ρ' => match restoreR (outR ρ1 w.2) vs ρ' with
        | some ρ'' => match backR ρ'' w with
          | some ρ3 => Post Γ Wx ⟨F1, σ, H1, ρ1⟩ (.ok (.l ys) ρ3) Q
          | none => False
        | none => False) ?_
      (fun c ρ' => match restoreR (outR ρ1 w.2) vs ρ' with
        | some ρ'' => match backR ρ'' w with
          | some ρ3 => Post Γ Wx ⟨F1, σ, H1, ρ1⟩ (.er c ρ3) Q
          | none => False
        | none => False) ?_ ?_
    · intro i s K' R'
      refine it i s ⟨fun a o e n => K'.keep a o e fun ⟨j, g1, b, g2, g3⟩ => ?_, fun a o e n => K'.fz a o e fun ⟨j, g1, b, g2, g3⟩ => ?_⟩ R'
      · obtain ⟨g4, g5⟩ := wipeR_some g2
        have g1' : (wipe σ vs)[j]? = some (some (.ref a)) := g1
        exact n ⟨j, (wipe_some g1').1, b, g4, g3⟩
      · obtain ⟨g4, g5⟩ := wipeR_some g2
        have g1' : (wipe σ vs)[j]? = some (some (.ref a)) := g1
        exact n ⟨j, (wipe_some g1').1, b, g4, g3⟩
    · intro ys ρ' hk F' H' us R' S' hu ra hF hc hw
      cases e1 : restoreR (outR ρ1 w.2) vs ρ' with
      | none => simp only [e1] at hk
      | some ρ2 =>
        simp only [e1] at hk
        cases e2 : backR ρ2 w with
        | none => simp only [e2] at hk
        | some ρ3 =>
          simp only [e2] at hk
          obtain ⟨R3, S3, _⟩ := comp_end (s := ⟨F1, σ, H1, ρ1⟩) (s4 := ⟨F', wipe σ vs, H', ρ'⟩) hvs R1 mv' R' rfl S' e1 hw e2
          refine hk (.ref Dl) F' H' R3 S3 ⟨Dl, us, rfl, hu, ra, hF, hD, fun c => ?_⟩
          rcases S3.cells Dl c with z | z
          · exact R1.newNoCell hD z
          · obtain ⟨j, g1, b, g2, g3⟩ := c
            obtain ⟨_, hs⟩ := restore_spec e1
            have gb : ρ2[j]? = some (some b) ∨ (Sx.ρ ⟨F1, σ, H1, ρ1⟩)[j]? = some (some (.l w.1)) := by
              unfold backR at e2
              cases hw2 : w.2 with
              | none => simp only [hw2] at e2; cases e2; exact .inl g2
              | some k =>
                simp only [hw2] at e2
                split at e2
                · cases e2
                  rcases getElem?_set_cases g2 with ⟨g4, _⟩ | ⟨g4, g5⟩
                  · subst g4
                    exact .inr (mv' j hw2)
                  · exact .inl g5
                · cases e2
            rcases gb with gb | gb
            · rcases hs j b gb with z | ⟨_, _, x, z⟩
              · have hn : j ∉ vs := fun z' => hw j z' b z
                exact hc ⟨j, by show (wipe σ vs)[j]? = _; rw [wipe_out hn]; exact g1, b, z, g3⟩
              · subst z; cases g3
            · exact R1.newNoCell hD ⟨j, g1, _, gb, rfl⟩
    · intro c ρ' hk F' H' C hC R' S' hw
      cases e1 : restoreR (outR ρ1 w.2) vs ρ' with
      | none => simp only [e1] at hk
      | some ρ2 =>
        simp only [e1] at hk
        cases e2 : backR ρ2 w with
        | none => simp only [e2] at hk
        | some ρ3 =>
          simp only [e2] at hk
          obtain ⟨R3, S3, _⟩ := comp_end (s := ⟨F1, σ, H1, ρ1⟩) (s4 := ⟨F', wipe σ vs, H', ρ'⟩) hvs R1 mv' R' rfl S' e1 hw e2
          exact hk F' H' C hC R3 S3
    · show match compLX vs bd t te w.1 [] (wipeR (outR ρ1 w.2) vs) with | .ok ys ρ' => _ | .er c ρ' => _ | .st => False
      cases e : compLX vs bd t te w.1 [] (wipeR (outR ρ1 w.2) vs) with
      | st => simp only [e] at h1; exact h1.elim
      | er c ρ' =>
        simp only [e] at h1
        cases e1 : restoreR (outR ρ1 w.2) vs ρ' with
        | none => simp only [e1] at h1; exact h1.elim
        | some ρ2 =>
          simp only [e1] at h1
          cases e2 : backR ρ2 w with
          | none => simp only [e2] at h1; exact h1.elim
          | some ρ3 =>
            simp only [e2] at h1
            simp only [e1, e2]
            exact h1
      | ok ys ρ' =>
        simp only [e] at h1
        cases e1 : restoreR (outR ρ1 w.2) vs ρ' with
        | none => simp only [e1] at h1; exact h1.elim
        | some ρ2 =>
          simp only [e1] at h1
          cases e2 : backR ρ2 w with
          | none => simp only [e2] at h1; exact h1.elim
          | some ρ3 =>
            simp only [e2] at h1
            simp only [e1, e2]
            exact h1⟩
/-- [elt for tg in iter if ..] -/
theorem de_compX {elt tg iter : Expr} {ifs : List Expr} {scope : Scope} {own : List (Str × Nat)} {m : Mx Walk} {g : TG} {bd : Bd} {te : Mx W} (tk : Takes X Wx) (hc : X.calm = true) (hN : X.N.Nodup) (hi : DI X Γ Wx tg iter m) (ok : BlkOk X.N X.env.scope scope own)
    (hg : ∀ (s : Shared) (H : Hp) (C : Addr) (cl : List (Str × Addr)) (fp : List Addr), PG (X.blk s H scope (compEnvC scope cl C X.env) fp) tg g) (okg : OkGw Γ (own.map (·.2)) g bd) (hvs : (own.map (·.2)).all (fun i => decide (Γ.np ≤ i)) = true)
    (ht : ∀ (s : Shared) (H : Hp) (C : Addr) (cl : List (Str × Addr)) (fp : List Addr), DTs (X.blk s H scope (compEnvC scope cl C X.env) fp) Γ W0 ifs t)
    (he : ∀ (s : Shared) (H : Hp) (C : Addr) (cl : List (Str × Addr)) (fp : List Addr) (σ : L2.St) (E' : Value → Shared → Prop), (∀ σ', PassesAt (L2.CX X.prog X.w) ((X.blk s H scope (compEnvC scope cl C X.env) fp).wish E') σ' (fun cls d H' => Wx cls d σ H')) → DE ((X.blk s H scope (compEnvC scope cl C X.env) fp).wish E') Γ (fun cls d _ H' => Wx cls d σ H') elt te)
    (hs0 : X.stack = X.env :: X.outer := by rfl) (hf0 : X.env.frame = some X.env.locals := by rfl)
    (hs : ∀ x, foldedSetIterable iter X.env x = pure x := by intro _; rfl) : DE X Γ Wx (.ListComp elt [⟨tg, iter, ifs, 0⟩] scope pos) (mCompX (own.map (·.2)) m bd t te) :=
  PE.imp (pe_lcX hs0 hf0 tk hc hN hi ok hg ht he hs) (tLcX_of okg fun i h => of_decide_eq_true (List.all_eq_true.mp hvs i h))
/-- y = [elt for tg in iter if ..] -/
theorem ds_setLcX (i : Nat) {y : Str} {py : Pos} {elt tg iter : Expr} {ifs : List Expr} {scope : Scope} {own : List (Str × Nat)} {spos : Pos} {m : Mx Walk} {g : TG} {bd : Bd} {te : Mx W} (tk : Takes X Wx) (hc : X.calm = true) (hN : X.N.Nodup) (hi : DI X Γ Wx tg iter m) (ok : BlkOk X.N X.env.scope scope own)
    (hg : ∀ (s : Shared) (H : Hp) (C : Addr) (cl : List (Str × Addr)) (fp : List Addr), PG (X.blk s H scope (compEnvC scope cl C X.env) fp) tg g) (okg : OkGw Γ (own.map (·.2)) g bd) (hvs : (own.map (·.2)).all (fun i => decide (Γ.np ≤ i)) = true)
    (ht : ∀ (s : Shared) (H : Hp) (C : Addr) (cl : List (Str × Addr)) (fp : List Addr), DTs (X.blk s H scope (compEnvC scope cl C X.env) fp) Γ W0 ifs t)
    (he : ∀ (s : Shared) (H : Hp) (C : Addr) (cl : List (Str × Addr)) (fp : List Addr) (σ : L2.St) (E' : Value → Shared → Prop), (∀ σ', PassesAt (L2.CX X.prog X.w) ((X.blk s H scope (compEnvC scope cl C X.env) fp).wish E') σ' (fun cls d H' => Wx cls d σ H')) → DE ((X.blk s H scope (compEnvC scope cl C X.env) fp).wish E') Γ (fun cls d _ H' => Wx cls d σ H') elt te)
    (hs0 : X.stack = X.env :: X.outer := by rfl) (hf0 : X.env.frame = some X.env.locals := by rfl)
    (hy : X.N[i]? = some y := by rfl) (hyl : X.env.scope.names.lookup y = some .local := by rfl) (hsw : swapsWith (.ListComp elt [⟨tg, iter, ifs, 0⟩] scope pos) (some (.Name y py)) spos.line X.env = pure true := by exact sw_true rfl rfl rfl (by decide +kernel))
    (hs : ∀ x, foldedSetIterable iter X.env x = pure x := by intro _; rfl) : DS X Γ Wx (.Assign [.Name y py] (.ListComp elt [⟨tg, iter, ifs, 0⟩] scope pos) spos) (sSet Γ.np i (mCompX (own.map (·.2)) m bd t te)) :=
  PS.imp (ps_setLcX hs0 hf0 tk hc hN hy hyl hsw hi ok hg ht he hs) fun Dn σ H ⟨F, ρ, R, h⟩ => tLcX_of okg (fun i h => of_decide_eq_true (List.all_eq_true.mp hvs i h)) σ H (fun v H1 => Dn.nx (σ.set i (some v)) H1) ⟨F, ρ, R, set_end (s := ⟨F, σ, H, ρ⟩) h⟩
end
section
variable {X : Cx} {Γ : Cn} {Wx : WX} {f : Mx W} {fs : Mx (List W)} {pos : Pos}
theorem de_callP {k : Nat} {fa : Addr} {fd : FuncData} {ps : List Str} {x : Str} {p : Pos} {e : Expr} {es : List Expr} {g : List B → FO} (F : FnOk X.prog X.w X.K X.mg X.base (L2.CX X.prog X.w) k fa fd ps (spF Γ.K Γ.mg g)) (hr : Room k X.A) (hm : X.mg x = some (.ref fa)) (hk : PySem.W.keepIn X.K (.ref fa) = true) (hb : Binds X.K fd ps [])
    (pa : ∀ σ, PassesAt (L2.CX X.prog X.w) X σ (WE Wx σ)) (ha : DA X Γ Wx (e :: es) fs) (hg : Gl X x := by rfl) (hdb : (x == ("__debug__" : Str)) = false := by decide) (he : starEach (e :: es) X.env = (false, eval e X.env) :: starEach es X.env := by rfl) (hpl : (backTo pos (starEach es X.env)).any (·.1) = false := by rfl) :
    DE X Γ Wx (.Call (.Name x p) (e :: es) [] pos) (mCall g fs) :=
  PE.imp (pe_callS F hr hg hm hk hb pa ha hdb he hpl) fun σ H Q ⟨F0, ρ, R, h⟩ => ⟨F0, ρ, R, args_end (s := ⟨F0, σ, H, ρ⟩) h fun vs ws F1 H1 ρ1 R1 S1 r h1 => by
    have R1 : Rel Γ.K ⟨F1, σ, H1, ρ1⟩ := R1
    have S1 : Step Γ.np ⟨F0, σ, H, ρ⟩ ⟨F1, σ, H1, ρ1⟩ := S1
    have r : VReps Γ.K (Sx.H ⟨F0, σ, H, ρ⟩) ⟨F1, σ, H1, ρ1⟩ vs ws := r
    cases e1 : ress ws ρ1 with
    | none => simp only [e1] at h1; exact h1.elim
    | some bs =>
      simp only [e1] at h1
      by_cases hn : (slotsOf ws).Nodup
      · rw [if_pos hn] at h1
        obtain ⟨Rc, _⟩ := call_in (s := ⟨F1, σ, H1, ρ1⟩) R1 r e1 hn
        refine ⟨F1, bs, Rc, ?_⟩
        cases eg : g bs with
        | st => rw [eg] at h1; exact h1.elim
        | ok b bs' =>
          rw [eg] at h1
          intro v F' H' R' S' rv kp
          obtain ⟨R2, S2, fr⟩ := call_out (s := ⟨F1, σ, H1, ρ1⟩) R1 S1 r e1 hn R' S' kp
          refine h1 v F' H' R2 S2 ?_
          cases b with
          | d y => exact rv
          | s y => exact rv
          | x => exact rv
          | l ys =>
            obtain ⟨p, us, e2, q1, q2, q3, q4, _⟩ := rv
            exact ⟨p, us, e2, q1, q2, q3, (fr p q4).1, (fr p q4).2⟩
          | t ys =>
            obtain ⟨p, us, e2, q1, q2, q3, q4, _⟩ := rv
            exact ⟨p, us, e2, q1, q2, q3, (fr p q4).1, (fr p q4).2⟩
        | er c bs' =>
          rw [eg] at h1
          intro F' H' C hC R' S' kp
          obtain ⟨R2, S2, fr⟩ := call_out (s := ⟨F1, σ, H1, ρ1⟩) R1 S1 r e1 hn R' S' kp
          exact h1 F' H' C hC R2 S2
      · rw [if_neg hn] at h1; exact h1.elim⟩
end
end TD
namespace TD
open PySem PySem.Spec PyProof.Rows L2
/-! ### l * b, b a truth -/
def rMulLB (K : PySem.W.Frag) : R2 := fun x y H Q => ∃ a xs k, x = V.ref a ∧ y = V.bl k ∧ SqL K H a xs ∧ ∀ p, H p = none → Q (.ref p) (upd H p (.lst (if k = true then xs else [])))
theorem op_mulLB {X : Cx} : OpR X (binaryOp .Mult) (rMulLB X.K) := op_mul_lb
def gMulLB (w1 w2 : W) : Env → Out W := fun ρ => match w1.lst ρ, w2.asD ρ with
  | some xs, some (.bool k) => .ok (.l (if k = true then xs else [])) ρ
  | _, _ => .st
theorem ok_mulLB {Γ : Cn} {Wx : WX} : Ok2 Γ Wx (rMulLB Γ.K) gMulLB := fun s v1 v2 w1 w2 H1 H2 Q R r1 r2 h => by
  unfold gMulLB at h
  split at h
  · rename_i xs k e1 e2
    obtain ⟨p, vs, rfl, hp, q⟩ := VRep.lst R r1 e1
    refine ⟨p, vs, k, rfl, (r2.data R e2).blV, hp, fun l hl => h.lst R ?_ hl⟩
    cases k
    · exact .nil
    · exact q
  · exact h.elim
/-! ### "9" * 16 -/
def rMulS : R2 := fun x y H Q => x = .str ("9" : Str) ∧ y = .int 16 ∧ Q (.str ("9999999999999999" : Str)) H
theorem nines_eq : (⟨(List.replicate (16 : Int).toNat ("9" : Str).cps).foldl (· ++ ·) #[]⟩ : Str) = ("9999999999999999" : Str) := by decide +kernel
theorem op_mulS {X : Cx} : OpR X (binaryOp .Mult) rMulS := by
  intro pins s σ H x y v u Q I rx ry h
  obtain ⟨rfl, rfl, q⟩ := h
  obtain ⟨t, rfl⟩ := rx
  obtain ⟨t2, rfl⟩ := ry
  refine P.mul_str (by decide) (fun _ _ => by decide +kernel) (fun _ _ => by decide +kernel) ?_
  rw [if_neg (by decide), if_neg (by decide +kernel), nines_eq]
  exact ⟨by decide +kernel, .str _, H, I.tok _, ⟨_, rfl⟩, q⟩
def gMulS (w1 w2 : W) : Env → Out W := fun ρ => match w1.asD ρ, w2.asD ρ with
  | some (.str x), some (.int k) => if x = ("9" : Str) ∧ k = 16 then .ok (.d (.str ("9999999999999999" : Str))) ρ else .st
  | _, _ => .st
theorem ok_mulS {Γ : Cn} {Wx : WX} : Ok2 Γ Wx rMulS gMulS := fun s v1 v2 w1 w2 H1 H2 Q R r1 r2 h => by
  unfold gMulS at h
  split at h
  · rename_i x k e1 e2
    split at h
    · rename_i hk
      obtain ⟨rfl, rfl⟩ := hk
      exact ⟨(r1.data R e1).strV, (r2.data R e2).intV, h.val R (.str _)⟩
    · exact h.elim
  · exact h.elim
/-! ### list(range(n)) -/
def mListRange (f : Mx W) : Mx W := bnd f fun w ρ => match w.asD ρ with
  | some (.int n) => if 0 ≤ n ∧ n ≤ 100000 then .ok (.l ((List.range n.toNat).map fun i => PyData.int (i : Nat))) ρ else .st
  | _ => .st
theorem rgV_rp {F : Hp} (n : Int) : RpA F (rgV 0 n) ((List.range n.toNat).map fun i => PyData.int (i : Nat)) := by
  unfold rgV
  rw [Int.sub_zero]
  generalize List.range n.toNat = l
  induction l with
  | nil => exact .nil
  | cons i l ih =>
    rw [List.map_cons, List.map_cons, Int.zero_add]
    exact .cons (.int _) ih
theorem de_list_range {X : Cx} {Γ : Cn} {Wx : WX} {e : Expr} {f : Mx W} {p p2 pos pos2 : Pos} (hm : X.mg "list" = none) (hm2 : X.mg "range" = none) (he : DE X Γ Wx e f) (hc : X.calm = true) (hg : Gl X "list" := by rfl) (hg2 : Gl X "range" := by rfl)
    (hs : starEach [e] X.env = (false, eval e X.env) :: starEach [] X.env := by rfl)
    (hs2 : starEach [.Call (.Name "range" p2) [e] [] pos2] X.env = (false, eval (.Call (.Name "range" p2) [e] [] pos2) X.env) :: starEach [] X.env := by rfl) :
    DE X Γ Wx (.Call (.Name "list" p) [.Call (.Name "range" p2) [e] [] pos2] [] pos) (mListRange f) :=
  PE.imp (pe_listRg hc hg hm (prg_1 hg2 hm2 he hs) hs2) fun σ H Q ⟨F, ρ, R, h⟩ => by
    refine ⟨F, ρ, R, post_bnd (s := ⟨F, σ, H, ρ⟩) h fun v w F1 H1 ρ1 R1 S1 r1 h1 => ?_⟩
    split at h1
    · rename_i n e1
      split at h1
      · rename_i hn
        have ev := (VRep.data (s := ⟨F1, σ, H1, ρ1⟩) R1 r1 e1).intV
        exact ⟨n, ev, ⟨by omega, by omega, by omega, by omega, by omega⟩, fun l hl => Post.lst (s := ⟨F1, σ, H1, ρ1⟩) R1 h1 (rgV_rp n) hl⟩
      · exact h1.elim
    · exact h1.elim
end TD
namespace TD
open PySem PySem.Spec PyProof.Rows L2
/-! ### "a" * 5 -/
def rMulA5 : R2 := fun x y H Q => x = .str ("a" : Str) ∧ y = .int 5 ∧ Q (.str ("aaaaa" : Str)) H
theorem as_eq : (⟨(List.replicate (5 : Int).toNat ("a" : Str).cps).foldl (· ++ ·) #[]⟩ : Str) = ("aaaaa" : Str) := by decide +kernel
theorem op_mulA5 {X : Cx} : OpR X (binaryOp .Mult) rMulA5 := by
  intro pins s σ H x y v u Q I rx ry h
  obtain ⟨rfl, rfl, q⟩ := h
  obtain ⟨t, rfl⟩ := rx
  obtain ⟨t2, rfl⟩ := ry
  refine P.mul_str (by decide) (fun _ _ => by decide +kernel) (fun _ _ => by decide +kernel) ?_
  rw [if_neg (by decide), if_neg (by decide +kernel), as_eq]
  exact ⟨by decide +kernel, .str _, H, I.tok _, ⟨_, rfl⟩, q⟩
def gMulA5 (w1 w2 : W) : Env → Out W := fun ρ => match w1.asD ρ, w2.asD ρ with
  | some (.str x), some (.int k) => if x = ("a" : Str) ∧ k = 5 then .ok (.d (.str ("aaaaa" : Str))) ρ else .st
  | _, _ => .st
theorem ok_mulA5 {Γ : Cn} {Wx : WX} : Ok2 Γ Wx rMulA5 gMulA5 := fun s v1 v2 w1 w2 H1 H2 Q R r1 r2 h => by
  unfold gMulA5 at h
  split at h
  · rename_i x k e1 e2
    split at h
    · rename_i hk
      obtain ⟨rfl, rfl⟩ := hk
      exact ⟨(r1.data R e1).strV, (r2.data R e2).intV, h.val R (.str _)⟩
    · exact h.elim
  · exact h.elim
end TD
namespace TD
open PySem PySem.Spec PyProof.Rows L2
/-! ### how denotations are worked out -/
abbrev tupI (ns : List Int) : D := .tuple (ns.map PyData.int)
def cTurn (vs : List Nat) (bd : Bd) (tt : Mx Bool) (te : Mx W) (x : D) (ρ : Env) : Option (Option D × Env) := match bd x ρ with
  | none => none
  | some ρ1 => match tt ρ1 with
    | .ok true ρ2 => match te ρ2 with
      | .ok w ρ3 => match w.datum ρ3 with
        | some (y, ρ4) => some (some y, wipeR ρ4 vs)
        | none => none
      | _ => none
    | .ok false ρ2 => some (none, wipeR ρ2 vs)
    | _ => none
theorem compL_cons {vs : List Nat} {bd : Bd} {tt : Mx Bool} {te : Mx W} {x : D} {xs acc : List D} {ρ ρ' : Env} {y : Option D} (h : cTurn vs bd tt te x ρ = some (y, ρ')) (hl : acc.length < 100000) :
    compL vs bd tt te (x :: xs) acc ρ = compL vs bd tt te xs (acc ++ y.toList) ρ' := by
  unfold cTurn at h
  conv => lhs; unfold compL
  cases e1 : bd x ρ with
  | none => rw [e1] at h; cases h
  | some ρ1 =>
    rw [e1] at h
    simp only at h ⊢
    cases e2 : tt ρ1 with
    | st => rw [e2] at h; cases h
    | er c ρ2 => rw [e2] at h; cases h
    | ok b ρ2 =>
      rw [e2] at h
      cases b with
      | false => cases h; simp only [Option.toList_none, List.append_nil]
      | true =>
        simp only at h ⊢
        cases e3 : te ρ2 with
        | st => rw [e3] at h; cases h
        | er c ρ3 => rw [e3] at h; cases h
        | ok w ρ3 =>
          rw [e3] at h
          simp only at h ⊢
          cases e4 : w.datum ρ3 with
          | none => rw [e4] at h; cases h
          | some q =>
            obtain ⟨y', ρ4⟩ := q
            rw [e4] at h
            cases h
            simp only
            rw [if_pos hl]
            rfl
theorem compL_fmap {vs : List Nat} {bd : Bd} {tt : Mx Bool} {te : Mx W} {ρ : Env} (g : D → Option D) : ∀ (items acc : List D), (∀ x ∈ items, cTurn vs bd tt te x ρ = some (g x, ρ)) → acc.length + items.length ≤ 100000 → compL vs bd tt te items acc ρ = .ok (acc ++ items.filterMap g) ρ
  | [], acc, _, _ => by simp [compL]
  | x :: xs, acc, h, hl => by
    rw [List.length_cons] at hl
    rw [compL_cons (h x List.mem_cons_self) (by omega), compL_fmap g xs _ (fun y hy => h y (List.mem_cons_of_mem _ hy)) (by
      cases g x <;> simp <;> omega)]
    cases e : g x <;> simp [e]
theorem compL_map {vs : List Nat} {bd : Bd} {tt : Mx Bool} {te : Mx W} {ρ : Env} (g : D → D) (items acc : List D) (h : ∀ x ∈ items, cTurn vs bd tt te x ρ = some (some (g x), ρ)) (hl : acc.length + items.length ≤ 100000) : compL vs bd tt te items acc ρ = .ok (acc ++ items.map g) ρ := by
  rw [compL_fmap (fun x => some (g x)) items acc h hl]
  simp
/-- a loop that goes through -/
theorem loop_nx {bd : Bd} {body : Mx Fl} (I : Nat → Env → Prop) : ∀ (items : List D) (k : Nat) (ρ : Env), I k ρ → (∀ i x ρ, items[i]? = some x → I (k + i) ρ → ∃ ρ1 ρ2, bd x ρ = some ρ1 ∧ (body ρ1 = .ok .nx ρ2 ∨ body ρ1 = .ok .ct ρ2) ∧ I (k + i + 1) ρ2) →
    ∃ ρ', loop bd body items ρ = .ok .nx ρ' ∧ I (k + items.length) ρ'
  | [], k, ρ, h, _ => ⟨ρ, rfl, h⟩
  | x :: xs, k, ρ, h, hs => by
    obtain ⟨ρ1, ρ2, e1, e2, h2⟩ := hs 0 x ρ rfl h
    obtain ⟨ρ', e3, h3⟩ := loop_nx I xs (k + 1) ρ2 h2 fun i y ρ hy hi => by
      have := hs (i + 1) y ρ (by simpa using hy) (by rw [show k + (i + 1) = k + 1 + i by omega]; exact hi)
      rw [show k + (i + 1) + 1 = k + 1 + i + 1 by omega] at this
      exact this
    refine ⟨ρ', ?_, by rw [List.length_cons, show k + (xs.length + 1) = k + 1 + xs.length by omega]; exact h3⟩
    unfold loop
    rw [e1]
    rcases e2 with e2 | e2 <;> (simp only [e2]; exact e3)
/-- places in a written environment -/
theorem env0 {o : Option B} {ρ : Env} : (o :: ρ : Env)[0]? = some o := rfl
theorem atI_int {α : Type} {xs : List α} {j : Nat} {v : α} (h : xs[j]? = some v) : atI xs (j : Int) = some v := atI_nat h
end TD
namespace TD
open PySem PySem.Spec PyProof.Rows L2
/-! ### one step each, at a given environment -/
section
variable {α β : Type} {ρ ρ' : Env} {f g : Mx W} {p q : Mx Fl} {fs : Mx (List W)} {t : Mx Bool}
theorem bnd_ap {m : Mx α} {k : α → Mx β} : bnd m k ρ = (match m ρ with | .ok a ρ' => k a ρ' | .er c ρ' => .er c ρ' | .st => .st) := rfl
theorem bnd_ok {m : Mx α} {k : α → Mx β} {a : α} (h : m ρ = .ok a ρ') : bnd m k ρ = k a ρ' := by unfold bnd; rw [h]
theorem sSeq_ap : sSeq p q ρ = (match p ρ with | .ok .nx ρ' => q ρ' | r => r) := rfl
theorem sRet_ap : sRet f ρ = (match f ρ with | .ok w ρ' => .ok (.rt w) ρ' | .er c ρ' => .er c ρ' | .st => .st) := by
  unfold sRet bnd
  cases f ρ <;> rfl
theorem sExpr_ap : sExpr f ρ = (match f ρ with | .ok _ ρ' => .ok .nx ρ' | .er c ρ' => .er c ρ' | .st => .st) := by
  unfold sExpr bnd
  cases f ρ <;> rfl
theorem sSet_ap {np i : Nat} : sSet np i f ρ = (match f ρ with | .ok w ρ' => (match store np i ρ' w with | some ρ'' => .ok .nx ρ'' | none => .st) | .er c ρ' => .er c ρ' | .st => .st) := by
  unfold sSet bnd
  cases f ρ <;> rfl
theorem sIf_ap : sIf t p q ρ = (match t ρ with | .ok b ρ' => (if b then p else q) ρ' | .er c ρ' => .er c ρ' | .st => .st) := by
  unfold sIf bnd
  cases t ρ <;> rfl
theorem sIf_t {ρ' : Env} (h : t ρ = .ok true ρ') : sIf t p q ρ = p ρ' := by unfold sIf bnd; rw [h]; rfl
theorem sIf_f {ρ' : Env} (h : t ρ = .ok false ρ') : sIf t p q ρ = q ρ' := by unfold sIf bnd; rw [h]; rfl
theorem sSeq_nx {ρ' : Env} (h : p ρ = .ok .nx ρ') : sSeq p q ρ = q ρ' := by unfold sSeq; rw [h]
theorem sSeq_rt {ρ' : Env} {w : W} (h : p ρ = .ok (.rt w) ρ') : sSeq p q ρ = .ok (.rt w) ρ' := by unfold sSeq; rw [h]
theorem sSeq_er {ρ' : Env} {c : Str} (h : p ρ = .er c ρ') : sSeq p q ρ = .er c ρ' := by unfold sSeq; rw [h]
theorem sNext_ap : sNext ρ = .ok .nx ρ := rfl
theorem sRaise_ap {c : Str} : sRaise c ρ = .er c ρ := rfl
theorem mC_ap {x : D} : mC x ρ = .ok (.d x) ρ := rfl
theorem tYesM_ap : tYesM ρ = .ok true ρ := rfl
theorem aNil_ap : aNil ρ = .ok [] ρ := rfl
theorem aCons_ap : aCons f fs ρ = (match f ρ with | .ok w ρ' => (match fs ρ' with | .ok ws ρ'' => .ok (w :: ws) ρ'' | .er c ρ'' => .er c ρ'' | .st => .st) | .er c ρ' => .er c ρ' | .st => .st) := by
  unfold aCons bnd
  cases f ρ with
  | st => rfl
  | er c ρ1 => rfl
  | ok w ρ1 => simp only; cases fs ρ1 <;> rfl
theorem mArgs_ap {k : List W → Env → Out W} : mArgs k fs ρ = (match fs ρ with | .ok ws ρ' => k ws ρ' | .er c ρ' => .er c ρ' | .st => .st) := by
  unfold mArgs bnd
  cases fs ρ <;> rfl
theorem m2_ap {k : W → W → Env → Out W} : m2 k f g ρ = (match f ρ with | .ok w ρ' => (match g ρ' with | .ok w2 ρ'' => k w w2 ρ'' | .er c ρ'' => .er c ρ'' | .st => .st) | .er c ρ' => .er c ρ' | .st => .st) := by
  unfold m2 bnd
  cases f ρ with
  | st => rfl
  | er c ρ1 => rfl
  | ok w ρ1 => simp only; cases g ρ1 <;> rfl
theorem m1_ap {k : W → Env → Out W} : m1 k f ρ = (match f ρ with | .ok w ρ' => k w ρ' | .er c ρ' => .er c ρ' | .st => .st) := by
  unfold m1 bnd
  cases f ρ <;> rfl
theorem tst_ap : tst f ρ = (match f ρ with | .ok w ρ' => asBool w ρ' | .er c ρ' => .er c ρ' | .st => .st) := by
  unfold tst bnd
  cases f ρ <;> rfl
theorem asBool_b {b : Bool} : asBool (.d (.bool b)) ρ = .ok b ρ := rfl
theorem mNotT_ap : mNotT t ρ = (match t ρ with | .ok b ρ' => .ok (!b) ρ' | .er c ρ' => .er c ρ' | .st => .st) := by
  unfold mNotT bnd
  cases t ρ <;> rfl
theorem mAndT_ap {t' : Mx Bool} : mAndT t t' ρ = (match t ρ with | .ok b ρ' => (if b then t' else fun ρ => .ok false ρ) ρ' | .er c ρ' => .er c ρ' | .st => .st) := by
  unfold mAndT bnd
  cases t ρ <;> rfl
theorem mOrT_ap {t' : Mx Bool} : mOrT t t' ρ = (match t ρ with | .ok b ρ' => (if b then fun ρ => .ok true ρ else t') ρ' | .er c ρ' => .er c ρ' | .st => .st) := by
  unfold mOrT bnd
  cases t ρ <;> rfl
theorem mRng1_ap : mRng1 fs ρ = (match fs ρ with | .ok ws ρ' => gRng1 ws ρ' | .er c ρ' => .er c ρ' | .st => .st) := by
  unfold mRng1 bnd
  cases fs ρ <;> rfl
theorem mRng2_ap : mRng2 fs ρ = (match fs ρ with | .ok ws ρ' => gRng2 ws ρ' | .er c ρ' => .er c ρ' | .st => .st) := by
  unfold mRng2 bnd
  cases fs ρ <;> rfl
theorem gRng1_ap {n : Int} (h1 : -1000000000 ≤ n) (h2 : n ≤ 1000000000) : gRng1 [.d (.int n)] ρ = .ok (rangeD 0 n.toNat, none) ρ := by
  unfold gRng1
  simp only [W.asD]
  rw [if_pos ⟨h1, h2⟩]
theorem gRng1_nat {n : Nat} (h2 : n ≤ 1000000) : gRng1 [.d (.int (n : Int))] ρ = .ok (rangeD 0 n, none) ρ := by
  rw [gRng1_ap (by omega) (by omega)]
  rfl
/-- over range -/
theorem compL_rng {vs : List Nat} {bd : Bd} {tt : Mx Bool} {te : Mx W} {n : Nat} (g : Nat → D) (h : ∀ k : Nat, k < n → cTurn vs bd tt te (.int (k : Int)) ρ = some (some (g k), ρ)) (hl : n ≤ 100000) :
    compL vs bd tt te (rangeD 0 n) [] ρ = .ok ((List.range n).map g) ρ := by
  have h2 := compL_map (vs := vs) (bd := bd) (tt := tt) (te := te) (ρ := ρ) (fun d => match d with | .int i => g i.toNat | _ => .none) (rangeD 0 n) [] (fun x hx => by
    unfold rangeD at hx
    rw [List.mem_map] at hx
    obtain ⟨k, hk, rfl⟩ := hx
    have := h k (List.mem_range.mp hk)
    simp only [Int.zero_add, Int.toNat_natCast]
    exact this) (by simp [rangeD]; exact hl)
  rw [h2]
  simp [rangeD]
theorem mComp_of {vs : List Nat} {it : Mx Walk} {bd : Bd} {tt : Mx Bool} {te : Mx W} {items ys : List D} {ρ1 : Env} (hi : it ρ = .ok (items, none) ρ1) (hc : compL vs bd tt te items [] (wipeR ρ1 vs) = .ok ys ρ') {ρ2 : Env} (hr : restoreR ρ1 vs ρ' = some ρ2) :
    mComp vs it bd tt te ρ = .ok (.l ys) ρ2 := by
  unfold mComp bnd
  rw [hi]
  simp only [outR]
  rw [hc]
  simp only [hr, backR]
theorem mComp_rng {vs : List Nat} {it : Mx Walk} {bd : Bd} {tt : Mx Bool} {te : Mx W} {n : Nat} {ρ1 : Env} (g : Nat → D) (hi : it ρ = .ok (rangeD 0 n, none) ρ1) (hl : n ≤ 100000) (h : ∀ k : Nat, k < n → cTurn vs bd tt te (.int (k : Int)) (wipeR ρ1 vs) = some (some (g k), wipeR ρ1 vs)) (hr : restoreR ρ1 vs (wipeR ρ1 vs) = some ρ1) :
    mComp vs it bd tt te ρ = .ok (.l ((List.range n).map g)) ρ1 := mComp_of hi (compL_rng g h hl) hr
theorem mComp_ints {vs : List Nat} {it : Mx Walk} {bd : Bd} {tt : Mx Bool} {te : Mx W} {xs : List Int} {ρ1 : Env} (g : Int → D) (hi : it ρ = .ok (xs.map PyData.int, none) ρ1) (hl : xs.length ≤ 100000) (h : ∀ n ∈ xs, cTurn vs bd tt te (.int n) (wipeR ρ1 vs) = some (some (g n), wipeR ρ1 vs)) (hr : restoreR ρ1 vs (wipeR ρ1 vs) = some ρ1) :
    mComp vs it bd tt te ρ = .ok (.l (xs.map g)) ρ1 := by
  refine mComp_of hi ?_ hr
  rw [compL_map (fun d => match d with | .int i => g i | _ => .none) (xs.map PyData.int) [] (fun x hx => by
    rw [List.mem_map] at hx
    obtain ⟨n, hn, rfl⟩ := hx
    exact h n hn) (by simpa using hl)]
  simp
theorem sFor_of {it : Mx Walk} {bd : Bd} {body : Mx Fl} {items : List D} {ρ1 : Env} (hi : it ρ = .ok (items, none) ρ1) : sFor it bd body ρ = loop bd body items ρ1 := by
  unfold sFor bnd
  rw [hi]
  simp only [outR]
  cases loop bd body items ρ1 <;> rfl
theorem mWalk_ap : mWalk f ρ = (match f ρ with
  | .ok w ρ' => (match w.walkL ρ' with
      | some k => .ok k ρ'
      | none => match w.asD ρ' with
        | some (.tuple xs) => .ok (xs, none) ρ'
        | some (.str z) => .ok (z.cps.toList.map fun c => PyData.str ⟨#[c]⟩, none) ρ'
        | _ => .st)
  | .er c ρ' => .er c ρ' | .st => .st) := by
  unfold mWalk bnd
  cases f ρ with
  | ok w ρ' => rfl
  | er c ρ' => rfl
  | st => rfl
end
/-! data of whole numbers -/
theorem lay_ints : ∀ xs : List Int, PyData.canLayAll0 (xs.map PyData.int) = true
  | [] => rfl
  | x :: xs => by rw [List.map_cons]; simp [PyData.canLayAll0, PyData.canLay0, lay_ints xs]
theorem dep_ints : ∀ xs : List Int, PyData.depthAll (xs.map PyData.int) = 0
  | [] => rfl
  | x :: xs => by rw [List.map_cons]; simp [PyData.depthAll, PyData.depth, dep_ints xs]
theorem sh_int (n : Int) : SeqAt.shaped (.int n) = true := rfl
theorem sh_tupI (xs : List Int) : SeqAt.shaped (tupI xs) = true := by
  simp [SeqAt.shaped, PyData.canLay0, PyData.depth, lay_ints, dep_ints]
theorem sh_lstI (xs : List Int) : SeqAt.shaped (.list (xs.map PyData.int)) = true := by
  simp [SeqAt.shaped, PyData.canLay0, PyData.depth, lay_ints, dep_ints]
theorem beq_dec {α : Type} [BEq α] [LawfulBEq α] [DecidableEq α] (a b : α) : (a == b) = decide (a = b) := by rw [Bool.eq_iff_iff, beq_iff_eq, decide_eq_true_eq]
theorem eqv_ints : ∀ xs ys : List Int, PyData.eqvAll (xs.map PyData.int) (ys.map PyData.int) = decide (xs = ys)
  | [], [] => by simp [PyData.eqvAll]
  | [], _ :: _ => by simp [PyData.eqvAll]
  | _ :: _, [] => by simp [PyData.eqvAll]
  | x :: xs, y :: ys => by simp [PyData.eqvAll, PyData.eqv, eqv_ints xs ys, beq_dec]
theorem eqv_tupI (xs ys : List Int) : PyData.eqv (tupI xs) (tupI ys) = decide (xs = ys) := by
  simp [PyData.eqv, eqv_ints]
theorem eqv_int (i j : Int) : PyData.eqv (.int i) (.int j) = decide (i = j) := by simp [PyData.eqv, beq_dec]
theorem gEqB_d {ρ : Env} {neg : Bool} {x y : D} (h1 : SeqAt.shaped x = true) (h2 : SeqAt.shaped y = true) : gEqB neg (.d x) (.d y) ρ = .ok (.d (.bool (if neg then !(PyData.eqv x y) else PyData.eqv x y))) ρ := by
  unfold gEqB
  simp only [W.toD]
  rw [if_pos ⟨h1, h2⟩]
theorem eq_int {ρ : Env} {i j : Int} : gEqB false (.d (.int i)) (.d (.int j)) ρ = .ok (.d (.bool (decide (i = j)))) ρ := by
  rw [gEqB_d (sh_int i) (sh_int j), eqv_int]
  rfl
theorem ne_int {ρ : Env} {i j : Int} : gEqB true (.d (.int i)) (.d (.int j)) ρ = .ok (.d (.bool (!decide (i = j)))) ρ := by
  rw [gEqB_d (sh_int i) (sh_int j), eqv_int]
  rfl
theorem eq_tupI {ρ : Env} {xs ys : List Int} : gEqB false (.d (tupI xs)) (.d (tupI ys)) ρ = .ok (.d (.bool (decide (xs = ys)))) ρ := by
  rw [gEqB_d (sh_tupI xs) (sh_tupI ys), eqv_tupI]
  rfl
theorem ne_tupI {ρ : Env} {xs ys : List Int} : gEqB true (.d (tupI xs)) (.d (tupI ys)) ρ = .ok (.d (.bool (!decide (xs = ys)))) ρ := by
  rw [gEqB_d (sh_tupI xs) (sh_tupI ys), eqv_tupI]
  rfl
theorem atI_mem {α : Type} {xs : List α} {i : Int} (h0 : 0 ≤ i) (h1 : i < xs.length) : ∃ x ∈ xs, atI xs i = some x := by
  obtain ⟨j, rfl⟩ := Int.eq_ofNat_of_zero_le h0
  have hj : j < xs.length := by omega
  exact ⟨xs[j], List.getElem_mem hj, atI_int (List.getElem?_eq_getElem hj)⟩
theorem atI_at {α : Type} {xs : List α} {i : Int} {y : α} (h0 : 0 ≤ i) (h : xs[i.toNat]? = some y) : atI xs i = some y := by
  obtain ⟨j, rfl⟩ := Int.eq_ofNat_of_zero_le h0
  exact atI_int h
theorem loop_all {bd : Bd} {body : Mx Fl} (I : Env → Prop) {ds : List D} {ρ : Env} (h : I ρ) (hs : ∀ x ρ, x ∈ ds → I ρ → ∃ ρ1 ρ2, bd x ρ = some ρ1 ∧ (body ρ1 = .ok .nx ρ2 ∨ body ρ1 = .ok .ct ρ2) ∧ I ρ2) : ∃ ρ', loop bd body ds ρ = .ok .nx ρ' ∧ I ρ' :=
  loop_nx (fun _ => I) ds 0 ρ h fun i x ρ hx hi => hs x ρ (List.mem_of_getElem? hx) hi
theorem loop_ints {bd : Bd} {body : Mx Fl} (I : Env → Prop) {ns : List Int} {ρ : Env} (h : I ρ) (hs : ∀ n ρ, n ∈ ns → I ρ → ∃ ρ1 ρ2, bd (.int n) ρ = some ρ1 ∧ (body ρ1 = .ok .nx ρ2 ∨ body ρ1 = .ok .ct ρ2) ∧ I ρ2) : ∃ ρ', loop bd body (ns.map PyData.int) ρ = .ok .nx ρ' ∧ I ρ' :=
  loop_nx (fun _ => I) (ns.map PyData.int) 0 ρ h fun i x ρ hx hi => by
    rw [List.getElem?_map, Option.map_eq_some_iff] at hx
    obtain ⟨n, hn, rfl⟩ := hx
    exact hs n ρ (List.mem_of_getElem? hn) hi
theorem cutD_map {α β : Type} (f : α → β) (xs : List α) (lo hi : Option Int) : cutD (xs.map f) lo hi = (cutD xs lo hi).map f := by
  simp [cutD, List.map_drop, List.map_take]
theorem eq_bool {ρ : Env} {i j : Bool} : gEqB false (.d (.bool i)) (.d (.bool j)) ρ = .ok (.d (.bool (decide (i = j)))) ρ := by
  rw [gEqB_d rfl rfl]
  cases i <;> cases j <;> rfl
theorem ne_bool {ρ : Env} {i j : Bool} : gEqB true (.d (.bool i)) (.d (.bool j)) ρ = .ok (.d (.bool (!decide (i = j)))) ρ := by
  rw [gEqB_d rfl rfl]
  cases i <;> cases j <;> rfl
theorem cut_to {α : Type} {xs : List α} {k : Nat} : cutD xs none (some (k : Int)) = xs.take k := by
  unfold cutD
  rw [HT.sIx_nat]
  show (xs.drop 0).take (min k xs.length - 0) = _
  rw [List.drop_zero, Nat.sub_zero]
  by_cases h : k ≤ xs.length
  · rw [Nat.min_eq_left h]
  · rw [Nat.min_eq_right (by omega), List.take_length, List.take_of_length_le (by omega)]
theorem cut_from {α : Type} {xs : List α} {k : Nat} : cutD xs (some (k : Int)) none = xs.drop k := by
  unfold cutD
  rw [HT.sIx_nat]
  show (xs.drop (min k xs.length)).take (xs.length - min k xs.length) = _
  by_cases h : k ≤ xs.length
  · rw [Nat.min_eq_left h, List.take_of_length_le (by rw [List.length_drop]; omega)]
  · rw [Nat.min_eq_right (by omega), List.drop_eq_nil_of_le (i := k) (by omega), List.drop_eq_nil_of_le (i := xs.length) (by omega), List.take_nil]
/-- over data -/
theorem mComp_map {ρ : Env} {vs : List Nat} {it : Mx Walk} {bd : Bd} {tt : Mx Bool} {te : Mx W} {xs : List D} {ρ1 : Env} (g : D → D) (hi : it ρ = .ok (xs, none) ρ1) (hl : xs.length ≤ 100000) (h : ∀ n ∈ xs, cTurn vs bd tt te n (wipeR ρ1 vs) = some (some (g n), wipeR ρ1 vs)) (hr : restoreR ρ1 vs (wipeR ρ1 vs) = some ρ1) :
    mComp vs it bd tt te ρ = .ok (.l (xs.map g)) ρ1 := by
  refine mComp_of hi ?_ hr
  rw [compL_map g xs [] h (by simpa using hl)]
  simp
section
variable {ρ : Env}
theorem mSl_ap {f : Mx W} {lo hi : Mx (Option Int)} : mSl f lo hi ρ = (match f ρ with
  | .ok w ρ1 => (match lo ρ1 with
    | .ok a ρ2 => (match hi ρ2 with
      | .ok b ρ3 => gSl w a b ρ3
      | .er c ρ3 => .er c ρ3
      | .st => .st)
    | .er c ρ2 => .er c ρ2
    | .st => .st)
  | .er c ρ1 => .er c ρ1
  | .st => .st) := by
  unfold mSl bnd
  cases f ρ with
  | st => rfl
  | er c ρ1 => rfl
  | ok w ρ1 =>
    simp only
    cases lo ρ1 with
    | st => rfl
    | er c ρ1 => rfl
    | ok a ρ2 => simp only; cases hi ρ2 <;> rfl
theorem oNone_ap : oNone ρ = .ok none ρ := rfl
theorem oSome_ap {f : Mx W} : oSome f ρ = (match f ρ with
  | .ok w ρ1 => (match w.asD ρ1 with
    | some (.int i) => .ok (some i) ρ1
    | _ => .st)
  | .er c ρ1 => .er c ρ1
  | .st => .st) := by
  unfold oSome bnd
  cases f ρ <;> rfl
theorem gSl_t {xs : List D} {a b : Option Int} : gSl (.d (.tuple xs)) a b ρ = .ok (.d (.tuple (cutD xs a b))) ρ := rfl
theorem gSl_l {xs : List D} {a b : Option Int} : gSl (.l xs) a b ρ = .ok (.l (cutD xs a b)) ρ := rfl
theorem gSl_ld {xs : List D} {a b : Option Int} : gSl (.d (.list xs)) a b ρ = .ok (.l (cutD xs a b)) ρ := rfl
theorem a_tup {xs ys : List D} (h : xs.length + ys.length ≤ 100000) : gAdd (.d (.tuple xs)) (.d (.tuple ys)) ρ = .ok (.d (.tuple (xs ++ ys))) ρ := by
  unfold gAdd
  simp only [W.asD]
  rw [if_pos h]
theorem a_rep {xs : List D} {k : Int} (h : xs ≠ []) (h1 : 2 ≤ k) (h2 : k ≤ 1000) (h3 : xs.length ≤ 1000) : gMul (.d (.tuple xs)) (.d (.int k)) ρ = .ok (.d (.tuple (List.replicate k.toNat xs).flatten)) ρ := by
  unfold gMul
  simp only [W.asD]
  rw [if_pos ⟨h, h1, h2, h3⟩]
theorem a_lst {xs ys : List D} (h : xs.length + ys.length ≤ 100000) : gAdd (.l xs) (.l ys) ρ = .ok (.l (xs ++ ys)) ρ := by
  unfold gAdd
  simp only [W.asD, W.own]
  rw [if_pos h]
end
/-! numbers -/
section
variable {ρ : Env} {i j : Int}
theorem a_add : gAdd (.d (.int i)) (.d (.int j)) ρ = .ok (.d (.int (i + j))) ρ := rfl
theorem a_sub : TD.gSub (.d (.int i)) (.d (.int j)) ρ = .ok (.d (.int (i - j))) ρ := rfl
theorem a_lt : gLt (.d (.int i)) (.d (.int j)) ρ = .ok (.d (.bool (decide (i < j)))) ρ := rfl
theorem a_le : gLe (.d (.int i)) (.d (.int j)) ρ = .ok (.d (.bool (decide (i ≤ j)))) ρ := rfl
theorem a_gt : gGt (.d (.int i)) (.d (.int j)) ρ = .ok (.d (.bool (decide (j < i)))) ρ := rfl
theorem a_ge : gGe (.d (.int i)) (.d (.int j)) ρ = .ok (.d (.bool (decide (j ≤ i)))) ρ := rfl
theorem a_div (h : 0 < j) (h2 : j < 1073741824) : gDiv (.d (.int i)) (.d (.int j)) ρ = .ok (.d (.int (i / j))) ρ := by
  simp [p2, gI, W.asD, h, h2]
theorem a_mod (h : 0 < j) : TD.gMod (.d (.int i)) (.d (.int j)) ρ = .ok (.d (.int (i % j))) ρ := by
  simp [p2, gI, W.asD, h]
theorem a_pow (h : 0 ≤ j) (h1 : j ≤ 1000000) (h2 : i.natAbs < 18446744073709551616) : gPow (.d (.int i)) (.d (.int j)) ρ = .ok (.d (.int (i ^ j.toNat))) ρ := by
  simp [p2, gI, W.asD, h, h1, h2]
theorem a_mul (h : (-18446744073709551616 < i ∧ i < 18446744073709551616) ∨ (-18446744073709551616 < j ∧ j < 18446744073709551616)) : gMul (.d (.int i)) (.d (.int j)) ρ = .ok (.d (.int (i * j))) ρ := by
  unfold gMul
  simp only [W.asD]
  rw [if_pos h]
theorem mCall_ap {f : List B → FO} {fs : Mx (List W)} : mCall f fs ρ = (match fs ρ with
  | .ok ws ρ' => (match ress ws ρ' with
    | none => .st
    | some bs => if (slotsOf ws).Nodup then (match f bs with
      | .ok b bs' => .ok (ofB b) (wb ws bs' ρ')
      | .er c bs' => .er c (wb ws bs' ρ')
      | .st => .st) else .st)
  | .er c ρ' => .er c ρ'
  | .st => .st) := by
  unfold mCall bnd
  cases fs ρ with
  | ok ws ρ' => rfl
  | er c ρ' => rfl
  | st => rfl
theorem slots_nil : slotsOf [] = [] := by rw [slotsOf]
theorem slots_d {x : D} {ws : List W} : slotsOf (.d x :: ws) = slotsOf ws := by rw [slotsOf]; intro i h; cases h
theorem slots_l {x : List D} {ws : List W} : slotsOf (.l x :: ws) = slotsOf ws := by rw [slotsOf]; intro i h; cases h
theorem slots_t {x : List (List Key × D)} {ws : List W} : slotsOf (.t x :: ws) = slotsOf ws := by rw [slotsOf]; intro i h; cases h
theorem slots_c {i : Nat} {ws : List W} : slotsOf (.c i :: ws) = i :: slotsOf ws := by rw [slotsOf]
/-- nothing lent: nothing comes back -/
theorem wb_none {ws : List W} {bs : List B} {ρ : Env} (h : slotsOf ws = []) : wb ws bs ρ = ρ := by
  have hl : ∀ (ws : List W) (bs : List B) (k : Nat), slotsOf ws = [] → lookC ws bs k = none := by
    intro ws
    induction ws with
    | nil => intro bs k _; rfl
    | cons w ws ih =>
      intro bs k h
      cases w with
      | c i => cases h
      | d x => cases bs with
        | nil => rfl
        | cons b bs => exact ih bs k h
      | l x => cases bs with
        | nil => rfl
        | cons b bs => exact ih bs k h
      | t x => cases bs with
        | nil => rfl
        | cons b bs => exact ih bs k h
  unfold wb
  refine List.ext_getElem (by simp) fun k h1 h2 => ?_
  rw [List.getElem_mapIdx]
  cases e : ρ[k] with
  | none => rfl
  | some b =>
    unfold wbk
    rw [hl ws bs k h]
    simp
end
/-- the k-th number -/
def nth (xs : List Int) (k : Nat) : Int := xs.getD k 0
theorem getI {xs : List Int} {k : Nat} (h : k < xs.length) : atI (xs.map PyData.int) (k : Int) = some (.int (nth xs k)) := by
  refine atI_int ?_
  rw [List.getElem?_map, List.getElem?_eq_getElem h]
  simp [nth, List.getD_eq_getElem?_getD, List.getElem?_eq_getElem h]
theorem nth_mem {xs : List Int} {k : Nat} (h : k < xs.length) : nth xs k ∈ xs := by
  unfold nth
  rw [List.getD_eq_getElem?_getD, List.getElem?_eq_getElem h]
  exact List.getElem_mem h
end TD
namespace TD
open PySem PySem.Spec PyProof.Rows L2
/-! ### sorting tuples of numbers -/
def leL (a b : List Int) : Bool := !decide (b < a)
theorem le_tup (a b : List Int) : PySem.W.dataLe false id (tupI a) (tupI b) = leL a b := by
  show (!PySem.W.dataLt (tupI b) (tupI a)) = _
  unfold tupI
  rw [PySem.W.dataLt_tuple]
  show (!PySem.W.rowLt (b.map .int) (a.map .int)) = _
  rw [PySem.W.dataLt_ints]
  rfl
def srtL (nss : List (List Int)) : List (List Int) := nss.mergeSort leL
theorem srt_tups (nss : List (List Int)) : srtD (nss.map tupI) = (srtL nss).map tupI :=
  (List.map_mergeSort fun a _ b _ => (le_tup a b).symm).symm
theorem lay_tups : ∀ nss : List (List Int), PyData.canLayAll0 (nss.map tupI) = true
  | [] => rfl
  | x :: xs => by rw [List.map_cons]; simp [PyData.canLayAll0, PyData.canLay0, lay_ints, lay_tups xs]
theorem dep_tup (ns : List Int) : (tupI ns).depth = 1 := by simp [PyData.depth, dep_ints]
theorem srtOk_tups {nss : List (List Int)} (h : ∀ ns ∈ nss, ns ≠ []) (hl : nss.length ≤ 100000) : SrtOk (nss.map tupI) where
  al := fun d hd e he => by
    obtain ⟨a, _, rfl⟩ := List.mem_map.mp hd
    obtain ⟨b, _, rfl⟩ := List.mem_map.mp he
    show PySem.W.alike (.tuple (a.map .int)) (.tuple (b.map .int)) = true
    unfold PySem.W.alike
    exact PySem.W.alike_ints a b
  so := .inl fun d hd => by
    obtain ⟨a, ha, rfl⟩ := List.mem_map.mp hd
    cases a with
    | nil => exact absurd rfl (h [] ha)
    | cons x r => exact ⟨_, _, rfl⟩
  lay := lay_tups nss
  dep := fun d hd => by
    obtain ⟨a, _, rfl⟩ := List.mem_map.mp hd
    rw [dep_tup]
    decide
  len := by rw [List.length_map]; exact hl
/-! keys that are tuples of numbers -/
def keyI (ns : List Int) : List Key := ns.map Sum.inl
theorem keysOf_ints : ∀ ns : List Int, keysOf (ns.map PyData.int) = some (keyI ns)
  | [] => rfl
  | n :: ns => by rw [List.map_cons]; unfold keysOf; rw [keysOf_ints ns]; rfl
theorem keyT_I (ns : List Int) : keyT (keyI ns) = tupI ns := by
  unfold keyT keyI tupI
  rw [List.map_map]
  rfl
theorem keyI_inj : ∀ {a b : List Int}, keyI a = keyI b → a = b
  | [], [], _ => rfl
  | [], _ :: _, h => by cases h
  | _ :: _, [], h => by cases h
  | x :: xs, y :: ys, h => by
    unfold keyI at h
    rw [List.map_cons, List.map_cons] at h
    injection h with h1 h2
    rw [Sum.inl.inj h1, keyI_inj h2]
theorem key_tup {ρ : Env} {ns : List Int} : W.key ρ (.d (tupI ns)) = some (keyI ns) := by
  unfold W.key W.asD tupI
  exact keysOf_ints ns
/-! a dict whose keys are tuples of numbers -/
def kvI (l : List (List Int × D)) : List (List Key × D) := l.map fun p => (keyI p.1, p.2)
theorem valD_I {l : List (List Int × D)} {k : List Int} : valD (kvI l) (keyI k) = (l.find? fun p => decide (p.1 = k)).map (·.2) := by
  unfold valD kvI
  induction l with
  | nil => rfl
  | cons p l ih =>
    rw [List.map_cons, List.find?_cons, List.find?_cons]
    by_cases e : p.1 = k
    · simp [e]
    · have : ¬ keyI p.1 = keyI k := fun z => e (keyI_inj z)
      simp only [e, this, decide_false]
      exact ih
theorem putD_I {l : List (List Int × D)} {k : List Int} {d : D} : putD (kvI l) (keyI k) d = kvI (if (l.any fun p => decide (p.1 = k)) = true then l.map (fun p => if p.1 = k then (p.1, d) else p) else l ++ [(k, d)]) := by
  unfold putD kvI
  have e : ((l.map fun p => (keyI p.1, p.2)).any fun kv => decide (kv.1 = keyI k)) = l.any fun p => decide (p.1 = k) := by
    rw [List.any_map]
    congr 1
    funext p
    show decide (keyI p.1 = keyI k) = decide (p.1 = k)
    exact decide_eq_decide.mpr ⟨keyI_inj, fun z => by rw [z]⟩
  rw [e]
  split
  · rw [List.map_map, List.map_map]
    congr 1
    funext p
    show (if keyI p.1 = keyI k then (keyI p.1, d) else (keyI p.1, p.2)) = _
    by_cases z : p.1 = k
    · rw [if_pos (by rw [z])]
      simp [z]
    · rw [if_neg fun y => z (keyI_inj y)]
      simp [z]
  · rw [List.map_append]
    rfl
/-! one step each, of the wider layer -/
section
variable {ρ : Env} {ns : List Int} {xs : List D} {w : W}
theorem seq_t : W.seq ρ (.d (.tuple xs)) = some xs := rfl
theorem seq_l : W.seq ρ (.l xs) = some xs := rfl
theorem a_sum : gSumA [.d (.tuple (ns.map .int))] ρ = .ok (.d (.int ns.sum)) ρ := by
  unfold gSumA gI1A
  simp only [seq_t, nums_map]
theorem a_sumL : gSumA [.l (ns.map .int)] ρ = .ok (.d (.int ns.sum)) ρ := by
  unfold gSumA gI1A
  simp only [seq_l, nums_map]
theorem a_max (h : ns ≠ []) : gMaxA [.d (.tuple (ns.map .int))] ρ = .ok (.d (.int (maxL ns))) ρ := by
  unfold gMaxA gI1A
  simp only [seq_t, nums_map]
  rw [if_neg h]
theorem a_maxL (h : ns ≠ []) : gMaxA [.l (ns.map .int)] ρ = .ok (.d (.int (maxL ns))) ρ := by
  unfold gMaxA gI1A
  simp only [seq_l, nums_map]
  rw [if_neg h]
theorem a_min (h : ns ≠ []) : gMinA [.d (.tuple (ns.map .int))] ρ = .ok (.d (.int (minL ns))) ρ := by
  unfold gMinA gI1A
  simp only [seq_t, nums_map]
  rw [if_neg h]
theorem a_minL (h : ns ≠ []) : gMinA [.l (ns.map .int)] ρ = .ok (.d (.int (minL ns))) ρ := by
  unfold gMinA gI1A
  simp only [seq_l, nums_map]
  rw [if_neg h]
theorem a_ixd {x : D} : gIxA (.d x) w ρ = gIx (.d x) w ρ := rfl
theorem a_ixl : gIxA (.l xs) w ρ = gIx (.l xs) w ρ := rfl
theorem a_listd {x : D} : gListA [.d x] ρ = gList [.d x] ρ := rfl
theorem a_listl : gListA [.l xs] ρ = gList [.l xs] ρ := rfl
theorem a_rep1 : gMulA (.d (.tuple xs)) (.d (.int 1)) ρ = .ok (.d (.tuple xs)) ρ := rfl
theorem a_muli {i j : Int} : gMulA (.d (.int i)) (.d (.int j)) ρ = gMul (.d (.int i)) (.d (.int j)) ρ := rfl
theorem a_repn {x : D} {n : Nat} (h1 : 1 ≤ n) (h2 : n ≤ 1000) : gMulA (.d (.tuple [x])) (.d (.int (n : Int))) ρ = .ok (.d (.tuple (List.replicate n x))) ρ := by
  by_cases h : n = 1
  · subst h
    rfl
  · have e : gMulA (.d (.tuple [x])) (.d (.int (n : Int))) ρ = gMul (.d (.tuple [x])) (.d (.int (n : Int))) ρ := by
      unfold gMulA
      simp only [W.asD]
      split
      · rename_i e1 e2
        simp only [Option.some.injEq, PyData.int.injEq] at e2
        omega
      · rfl
    rw [e, a_rep (by simp) (by omega) (by omega) (by simp)]
    simp only [Int.toNat_natCast, Out.ok.injEq, W.d.injEq, PyData.tuple.injEq, and_true]
    clear e h h1 h2
    induction n with
    | zero => rfl
    | succ n ih => rw [List.replicate_succ, List.flatten_cons, ih, List.replicate_succ]; rfl
theorem mMeth_ap {g : Nat → List W → Env → Out W} {fo : Mx W} {fs : Mx (List W)} : mMeth g fo fs ρ = (match fo ρ with
  | .ok (.c i) ρ1 => (match ρ1[i]? with
    | some (some (.l _)) => (match fs ρ1 with
      | .ok ws ρ2 => g i ws ρ2
      | .er c ρ2 => .er c ρ2
      | .st => .st)
    | _ => .st)
  | .ok _ _ => .st
  | .er c ρ1 => .er c ρ1
  | .st => .st) := by
  unfold mMeth bnd
  cases fo ρ with
  | st => rfl
  | er c ρ1 => rfl
  | ok w ρ1 => cases w with
    | c i =>
      simp only
      cases ρ1[i]? with
      | none => rfl
      | some o => cases o with
        | none => rfl
        | some b => cases b with
          | l xs => simp only; cases fs ρ1 <;> rfl
          | _ => rfl
    | _ => rfl
theorem sPut_ap {fo fi fv : Mx W} : sPut fo fi fv ρ = (match fv ρ with
  | .ok wv ρ1 => (match fo ρ1 with
    | .ok wo ρ2 => (match fi ρ2 with
      | .ok wi ρ3 => (match gPut wo wi wv ρ3 with
        | some ρ' => .ok .nx ρ'
        | none => .st)
      | .er c ρ3 => .er c ρ3
      | .st => .st)
    | .er c ρ2 => .er c ρ2
    | .st => .st)
  | .er c ρ1 => .er c ρ1
  | .st => .st) := by
  unfold sPut bnd
  cases fv ρ with
  | st => rfl
  | er c ρ1 => rfl
  | ok wv ρ1 =>
    simp only
    cases fo ρ1 with
    | st => rfl
    | er c ρ1 => rfl
    | ok wo ρ2 =>
      simp only
      cases fi ρ2 <;> rfl
end
/-- a loop over a list of one's own: it is set aside meanwhile -/
theorem sFor_cell {ρ ρ1 ρ2 : Env} {it : Mx Walk} {bd : Bd} {body : Mx Fl} {items : List D} {j : Nat} (hi : it ρ = .ok (items, some j) ρ1) (hl : loop bd body items (ρ1.set j none) = .ok .nx ρ2) (hj : ρ2[j]? = some none) : sFor it bd body ρ = .ok .nx (ρ2.set j (some (.l items))) := by
  unfold sFor bnd
  rw [hi]
  simp only [outR]
  rw [hl]
  simp only [fin, backR]
  rw [hj]
theorem sFor_cell_er {ρ ρ1 ρ2 : Env} {it : Mx Walk} {bd : Bd} {body : Mx Fl} {items : List D} {j : Nat} {c : Str} (hi : it ρ = .ok (items, some j) ρ1) (hl : loop bd body items (ρ1.set j none) = .er c ρ2) (hj : ρ2[j]? = some none) : sFor it bd body ρ = .er c (ρ2.set j (some (.l items))) := by
  unfold sFor bnd
  rw [hi]
  simp only [outR]
  rw [hl]
  simp only [fin, backR]
  rw [hj]
/-! <= of tuples of numbers is the order of lists -/
theorem lexAt_shift {e r : Nat → Bool} {z : Bool} : ∀ (k i : Nat), Ob.lexAt e r z (i + 1) k = Ob.lexAt (fun j => e (j + 1)) (fun j => r (j + 1)) z i k
  | 0, i => rfl
  | k + 1, i => by
    rw [Ob.lexAt_succ, Ob.lexAt_succ, lexAt_shift k (i + 1)]
theorem leT_cons (x y : Int) (xs ys : List Int) : leT (x :: xs) (y :: ys) = if x = y then leT xs ys else decide (x ≤ y) := by
  unfold leT
  rw [List.length_cons, List.length_cons, show min (xs.length + 1) (ys.length + 1) = min xs.length ys.length + 1 by omega, Ob.lexAt_succ, lexAt_shift]
  simp only [List.getD_cons_zero, List.getD_cons_succ, decide_eq_true_eq]
  have e : decide (xs.length + 1 ≤ ys.length + 1) = decide (xs.length ≤ ys.length) := decide_eq_decide.mpr (by omega)
  rw [e]
theorem leT_eq : ∀ ns ms : List Int, leT ns ms = leL ns ms
  | [], ms => by
    have h1 : leT [] ms = true := by
      unfold leT
      simp [Ob.lexAt_zero]
    rw [h1]
    simp [leL]
  | x :: xs, [] => by
    have h1 : leT (x :: xs) [] = false := by
      unfold leT
      simp [Ob.lexAt_zero]
    rw [h1]
    simp [leL]
  | x :: xs, y :: ys => by
    rw [leT_cons, leT_eq xs ys]
    unfold leL
    by_cases h : x = y
    · subst h
      rw [if_pos rfl, Bool.eq_iff_iff]
      simp [List.cons_lt_cons_iff]
    · rw [if_neg h, Bool.eq_iff_iff]
      simp only [decide_eq_true_eq, Bool.not_eq_true', decide_eq_false_iff_not, List.cons_lt_cons_iff]
      omega
theorem a_leA {ρ : Env} {ns ms : List Int} : gLeA (.d (.tuple (ns.map .int))) (.d (.tuple (ms.map .int))) ρ = .ok (.d (.bool (leL ns ms))) ρ := by
  unfold gLeA
  simp only [W.asD, nums_map, leT_eq]
end TD
namespace TD
open PySem PySem.Spec
/-! ### typed values as data -/
class Emb (α : Type) where
  emb : α → D
open Emb (emb)
instance : Emb PyData := ⟨id⟩
instance : Emb Int := ⟨PyData.int⟩
instance : Emb Bool := ⟨PyData.bool⟩
instance : Emb Str := ⟨PyData.str⟩
instance : Emb Unit := ⟨fun _ => PyData.none⟩
instance {α : Type} [Emb α] : Emb (List α) := ⟨fun xs => PyData.tuple (xs.map emb)⟩
instance {α β : Type} [Emb α] [Emb β] : Emb (α × β) := ⟨fun p => PyData.tuple [emb p.1, emb p.2]⟩
def embO {α : Type} [Emb α] : Option α → D
  | none => PyData.none
  | some a => emb a
instance {α : Type} [Emb α] : Emb (Option α) := ⟨embO⟩
/-- a list as data -/
structure PyL (α : Type) where
  l : List α
instance {α : Type} [Emb α] : Emb (PyL α) := ⟨fun xs => PyData.list (xs.l.map emb)⟩
structure Tri (α β γ : Type) where
  a : α
  b : β
  c : γ
instance {α β γ : Type} [Emb α] [Emb β] [Emb γ] : Emb (Tri α β γ) := ⟨fun p => PyData.tuple [emb p.a, emb p.b, emb p.c]⟩
/-! equality -/
class EmbQ (α : Type) [DecidableEq α] extends Emb α where
  q : α → Prop
  lay : ∀ a, q a → PyData.canLay0 (emb a) = true
  dp : Nat
  dep : ∀ a, (emb a).depth ≤ dp
  eqv : ∀ a b : α, PyData.eqv (emb a) (emb b) = decide (a = b)
instance : EmbQ Int where
  q _ := True
  lay _ _ := rfl
  dp := 0
  dep _ := Nat.le_refl 0
  eqv a b := eqv_int a b
instance : EmbQ Bool where
  q _ := True
  lay _ _ := rfl
  dp := 0
  dep _ := Nat.le_refl 0
  eqv a b := by cases a <;> cases b <;> rfl
instance : EmbQ Str where
  q a := PySem.PyData.canLay0 (.str a) = true
  lay _ h := h
  dp := 0
  dep _ := Nat.le_refl 0
  eqv a b := by
    show (a == b) = _
    rw [Bool.eq_iff_iff, beq_iff_eq, decide_eq_true_eq]
theorem layAll {α : Type} [DecidableEq α] [EmbQ α] : ∀ xs : List α, (∀ x ∈ xs, EmbQ.q x) → PyData.canLayAll0 (xs.map emb) = true
  | [], _ => rfl
  | x :: xs, h => by
    rw [List.map_cons]
    simp [PyData.canLayAll0, EmbQ.lay x (h x List.mem_cons_self), layAll xs fun y hy => h y (List.mem_cons_of_mem _ hy)]
theorem depAll {α : Type} [DecidableEq α] [EmbQ α] : ∀ xs : List α, PyData.depthAll (xs.map emb) ≤ EmbQ.dp α
  | [] => Nat.zero_le _
  | x :: xs => by
    rw [List.map_cons]
    unfold PyData.depthAll
    exact Nat.max_le.mpr ⟨EmbQ.dep x, depAll xs⟩
theorem eqvAll_emb {α : Type} [DecidableEq α] [EmbQ α] : ∀ xs ys : List α, PyData.eqvAll (xs.map emb) (ys.map emb) = decide (xs = ys)
  | [], [] => by simp [PyData.eqvAll]
  | [], _ :: _ => by simp [PyData.eqvAll]
  | _ :: _, [] => by simp [PyData.eqvAll]
  | x :: xs, y :: ys => by
    rw [List.map_cons, List.map_cons]
    unfold PyData.eqvAll
    rw [EmbQ.eqv x y, eqvAll_emb xs ys, Bool.eq_iff_iff]
    simp
instance {α : Type} [DecidableEq α] [EmbQ α] : EmbQ (List α) where
  q xs := ∀ x ∈ xs, EmbQ.q x
  lay xs h := by
    show PyData.canLay0 (.tuple (xs.map emb)) = true
    unfold PyData.canLay0
    exact layAll xs h
  dp := EmbQ.dp α + 1
  dep xs := by
    show (PyData.tuple (xs.map emb)).depth ≤ _
    unfold PyData.depth
    have := depAll xs
    omega
  eqv xs ys := by
    show PyData.eqv (.tuple (xs.map emb)) (.tuple (ys.map emb)) = _
    unfold PyData.eqv
    exact eqvAll_emb xs ys
instance {α : Type} [DecidableEq α] : DecidableEq (PyL α) := fun a b => match a, b with
  | ⟨x⟩, ⟨y⟩ => if h : x = y then isTrue (by rw [h]) else isFalse (fun z => h (PyL.mk.inj z))
instance {α : Type} [DecidableEq α] [EmbQ α] : EmbQ (PyL α) where
  q xs := ∀ x ∈ xs.l, EmbQ.q x
  lay xs h := by
    show PyData.canLay0 (.list (xs.l.map emb)) = true
    unfold PyData.canLay0
    exact layAll xs.l h
  dp := EmbQ.dp α + 1
  dep xs := by
    show (PyData.list (xs.l.map emb)).depth ≤ _
    unfold PyData.depth
    have := depAll xs.l
    omega
  eqv xs ys := by
    obtain ⟨xs⟩ := xs
    obtain ⟨ys⟩ := ys
    show PyData.eqv (.list (xs.map emb)) (.list (ys.map emb)) = _
    unfold PyData.eqv
    rw [eqvAll_emb xs ys, Bool.eq_iff_iff, decide_eq_true_eq, decide_eq_true_eq]
    exact ⟨fun h => by rw [h], fun h => PyL.mk.inj h⟩
instance {α β : Type} [DecidableEq α] [DecidableEq β] [EmbQ α] [EmbQ β] : EmbQ (α × β) where
  q p := EmbQ.q p.1 ∧ EmbQ.q p.2
  lay p h := by
    show PyData.canLay0 (.tuple [emb p.1, emb p.2]) = true
    simp [PyData.canLay0, PyData.canLayAll0, EmbQ.lay p.1 h.1, EmbQ.lay p.2 h.2]
  dp := max (EmbQ.dp α) (EmbQ.dp β) + 1
  dep p := by
    show (PyData.tuple [emb p.1, emb p.2]).depth ≤ _
    have h1 := EmbQ.dep p.1
    have h2 := EmbQ.dep p.2
    simp only [PyData.depth, PyData.depthAll]
    omega
  eqv a b := by
    show PyData.eqv (.tuple [emb a.1, emb a.2]) (.tuple [emb b.1, emb b.2]) = _
    unfold PyData.eqv PyData.eqvAll PyData.eqvAll PyData.eqvAll
    rw [EmbQ.eqv a.1 b.1, EmbQ.eqv a.2 b.2, Bool.eq_iff_iff]
    simp [Prod.ext_iff]
theorem shaped_emb {α : Type} [DecidableEq α] [EmbQ α] (a : α) (h : EmbQ.q a) (hd : EmbQ.dp α ≤ 64) : SeqAt.shaped (emb a) = true := by
  unfold SeqAt.shaped
  rw [EmbQ.lay a h, Bool.true_and, decide_eq_true_eq]
  exact Nat.le_trans (EmbQ.dep a) hd
section
variable {α : Type}
def ix [Inhabited α] (xs : List α) (i : Int) : α := xs.getD i.toNat default
theorem ix_get [Inhabited α] {xs : List α} {i : Int} (h0 : 0 ≤ i) (h1 : i < xs.length) : xs[i.toNat]? = some (ix xs i) := by
  have h : i.toNat < xs.length := by omega
  unfold ix
  rw [List.getD_eq_getElem?_getD, List.getElem?_eq_getElem h]
  rfl
theorem ix_mem [Inhabited α] {xs : List α} {i : Int} (h0 : 0 ≤ i) (h1 : i < xs.length) : ix xs i ∈ xs := List.mem_of_getElem? (ix_get h0 h1)
theorem ixB (xs : List Int) (i a b : Int) (h : ∀ x ∈ xs, a ≤ x ∧ x ≤ b) (h0 : 0 ≤ i) (h1 : i < xs.length) : a ≤ ix xs i ∧ ix xs i ≤ b := h _ (ix_mem h0 h1)
def lastI [Inhabited α] (xs : List α) : α := xs.getLastD default
theorem lastI_get [Inhabited α] {xs : List α} (h : xs ≠ []) : xs[xs.length - 1]? = some (lastI xs) := by
  unfold lastI
  rw [← List.getLast?_eq_getElem?, List.getLast?_eq_some_getLast h, List.getLastD_eq_getLast?, List.getLast?_eq_some_getLast h]
  rfl
theorem lastI_mem [Inhabited α] {xs : List α} (h : xs ≠ []) : lastI xs ∈ xs := List.mem_of_getElem? (lastI_get h)
def rng (n : Int) : List Int := (List.range n.toNat).map fun (k : Nat) => (k : Int)
theorem rng_mem {n k : Int} : k ∈ rng n ↔ 0 ≤ k ∧ k < n := by
  unfold rng
  simp only [List.mem_map, List.mem_range]
  exact ⟨fun ⟨a, h, e⟩ => by omega, fun ⟨h1, h2⟩ => ⟨k.toNat, by omega, by omega⟩⟩
theorem rng_len {n : Int} : (rng n).length = n.toNat := by simp [rng]
def rng2 (a b : Int) : List Int := (List.range (b - a).toNat).map fun (k : Nat) => a + (k : Int)
def accL {α β σ : Type} (g : σ → α → β × σ) : List α → σ → List β × σ
  | [], s => ([], s)
  | x :: xs, s => ((g s x).1 :: (accL g xs (g s x).2).1, (accL g xs (g s x).2).2)
theorem accL_len {α β σ : Type} (g : σ → α → β × σ) : ∀ (xs : List α) (s : σ), (accL g xs s).1.length = xs.length
  | [], _ => rfl
  | _ :: xs, s => by unfold accL; rw [List.length_cons, List.length_cons, accL_len g xs]
end
/-! ### what an expression gives -/
section
variable {α β γ : Type} [Emb α] [Emb β] [Emb γ] {ρ ρ1 ρ2 ρ3 : Env} {f g h : Mx W} {fs : Mx (List W)}
abbrev EvD {α : Type} [Emb α] (f : Mx W) (ρ : Env) (a : α) (ρ1 : Env) : Prop := f ρ = .ok (.d (emb a)) ρ1
abbrev EvL {α : Type} [Emb α] (f : Mx W) (ρ : Env) (xs : List α) (ρ1 : Env) : Prop := f ρ = .ok (.l (xs.map emb)) ρ1
/-- a sequence, to be read -/
def EvS {α : Type} [Emb α] (f : Mx W) (ρ : Env) (xs : List α) (ρ1 : Env) : Prop := ∃ w, f ρ = .ok w ρ1 ∧ w.seq ρ1 = some (xs.map emb) ∧ w.tab ρ1 = none
/-- a list, to be read -/
def EvR {α : Type} [Emb α] (f : Mx W) (ρ : Env) (xs : List α) (ρ1 : Env) : Prop := ∃ w, f ρ = .ok w ρ1 ∧ w.lst ρ1 = some (xs.map emb) ∧ w.tab ρ1 = none
theorem lst_tab {w : W} {xs : List D} (h : w.lst ρ = some xs) : w.tab ρ = none := by
  cases w with
  | d x => rfl
  | l x => rfl
  | t x => cases h
  | c i =>
    simp only [W.lst] at h
    simp only [W.tab]
    cases hb : ρ[i]? with
    | none => rfl
    | some o => cases o with
      | none => rfl
      | some b => cases b <;> first | rfl | (rw [hb] at h; cases h)
theorem EvR.s {xs : List α} (h : EvR f ρ xs ρ1) : EvS f ρ xs ρ1 := by
  obtain ⟨w, h1, h2, h3⟩ := h
  exact ⟨w, h1, by unfold W.seq; rw [h2], h3⟩
theorem s_tup {xs : List α} (h : EvD f ρ xs ρ1) : EvS f ρ xs ρ1 := ⟨_, h, rfl, rfl⟩
theorem r_lst {xs : List α} (h : EvL f ρ xs ρ1) : EvR f ρ xs ρ1 := ⟨_, h, rfl, rfl⟩
theorem r_cell (i : Nat) {xs : List α} (h : ρ[i]? = some (some (.l (xs.map emb))) := by rfl) : EvR (mVar i) ρ xs ρ := by
  have e : W.lst ρ (.c i) = some (xs.map emb) := by simp only [W.lst, h]
  exact ⟨.c i, by simp only [mVar, h], e, lst_tab e⟩
theorem r_scr (i : Nat) {xs : List α} (h : ρ[i]? = some (some (.s (xs.map emb))) := by rfl) : EvR (mVar i) ρ xs ρ := by
  have e : W.lst ρ (.c i) = some (xs.map emb) := by simp only [W.lst, h]
  exact ⟨.c i, by simp only [mVar, h], e, lst_tab e⟩
theorem r_pyl {xs : List α} (h : EvD f ρ (PyL.mk xs) ρ1) : EvR f ρ xs ρ1 := ⟨_, h, rfl, rfl⟩
theorem e_var (i : Nat) {a : α} (h : ρ[i]? = some (some (.d (emb a))) := by rfl) : EvD (mVar i) ρ a ρ := by simp only [EvD, mVar, h]
theorem e_int (n : Int) : EvD (mC (.int n)) ρ n ρ := rfl
theorem e_str (n : Str) : EvD (mC (.str n)) ρ n ρ := rfl
theorem e_bool (n : Bool) : EvD (mC (.bool n)) ρ n ρ := rfl
theorem e_none : EvD (mC .none) ρ () ρ := rfl
theorem e_noneO : EvD (mC .none) ρ (none : Option α) ρ := rfl
theorem e_some {a : α} (h : EvD f ρ a ρ1) : EvD f ρ (some a) ρ1 := h
theorem e_unsome {o : Option α} {a : α} (h : EvD f ρ o ρ1) (e : o = some a) : EvD f ρ a ρ1 := by subst e; exact h
theorem m2_of {k : W → W → Env → Out W} {w1 w2 : W} (h1 : f ρ = .ok w1 ρ1) (h2 : g ρ1 = .ok w2 ρ2) : m2 k f g ρ = k w1 w2 ρ2 := by
  rw [m2_ap, h1]
  simp only [h2]
theorem m1_of {k : W → Env → Out W} {w1 : W} (h1 : f ρ = .ok w1 ρ1) : m1 k f ρ = k w1 ρ1 := by rw [m1_ap, h1]
/-! numbers -/
section
variable {a b : Int} (h1 : EvD f ρ a ρ1) (h2 : EvD g ρ1 b ρ2)
include h1 h2
theorem e_add : EvD (m2 gAdd f g) ρ (a + b) ρ2 := m2_of h1 h2
theorem e_sub : EvD (m2 TD.gSub f g) ρ (a - b) ρ2 := m2_of h1 h2
theorem e_mul (h : (-18446744073709551616 < a ∧ a < 18446744073709551616) ∨ (-18446744073709551616 < b ∧ b < 18446744073709551616)) : EvD (m2 gMulC f g) ρ (a * b) ρ2 := (m2_of h1 h2).trans (a_mul h)
theorem e_div (h : 0 < b) (h3 : b < 18446744073709551616) : EvD (m2 gDivW f g) ρ (a / b) ρ2 := (m2_of h1 h2).trans (by
  show gDivW (.d (.int a)) (.d (.int b)) ρ2 = .ok (.d (.int (a / b))) ρ2
  simp [p2, gI, W.asD, h, h3])
theorem e_mod (h : 0 < b) : EvD (m2 TD.gMod f g) ρ (a % b) ρ2 := (m2_of h1 h2).trans (a_mod h)
theorem e_pow (h : 0 ≤ b) (h3 : b ≤ 1000000) (h4 : a.natAbs < 18446744073709551616) : EvD (m2 gPow f g) ρ (a ^ b.toNat) ρ2 := (m2_of h1 h2).trans (a_pow h h3 h4)
theorem e_lt : EvD (m2 gLt f g) ρ (decide (a < b)) ρ2 := (m2_of h1 h2).trans a_lt
theorem e_le : EvD (m2 gLeA f g) ρ (decide (a ≤ b)) ρ2 := (m2_of h1 h2).trans rfl
theorem e_gt : EvD (m2 gGt f g) ρ (decide (a > b)) ρ2 := (m2_of h1 h2).trans a_gt
theorem e_ge : EvD (m2 gGe f g) ρ (decide (a ≥ b)) ρ2 := (m2_of h1 h2).trans a_ge
theorem e_max2 : EvD (mArgs gMax2 (aCons f (aCons g aNil))) ρ (if b > a then b else a) ρ2 := by
  simp only [EvD, mArgs_ap, aCons_ap, aNil_ap, h1, h2]
  rfl
theorem e_min2 : EvD (mArgs gMin2 (aCons f (aCons g aNil))) ρ (if b < a then b else a) ρ2 := by
  simp only [EvD, mArgs_ap, aCons_ap, aNil_ap, h1, h2]
  rfl
end
theorem e_neg {a : Int} (h1 : EvD f ρ a ρ1) : EvD (m1 gNeg f) ρ (-a) ρ1 := m1_of h1
theorem e_chain {a b c : Int} {k k' : W → W → Env → Out W} {x y : Bool} (h1 : EvD f ρ a ρ1) (h2 : EvD g ρ1 b ρ2) (h3 : EvD h ρ2 c ρ2) (e1 : k (.d (emb a)) (.d (emb b)) ρ2 = .ok (.d (emb x)) ρ2) (e2 : k' (.d (emb b)) (.d (emb c)) ρ2 = .ok (.d (emb y)) ρ2) : EvD (mChain k k' f g h) ρ (x && y) ρ2 := by
  have e1' : k (.d (emb a)) (.d (emb b)) ρ2 = .ok (.d (.bool x)) ρ2 := e1
  have e2' : k' (.d (emb b)) (.d (emb c)) ρ2 = .ok (.d (.bool y)) ρ2 := e2
  simp only [EvD, mChain, bnd_ap, h1, h2, e1']
  cases x with
  | false => rfl
  | true => simp only [h3, e2']; rfl
/-! equality -/
theorem eq_gen [DecidableEq γ] [EmbQ γ] {x y : γ} {w1 w2 : W} {neg : Bool} (e1 : w1.toD ρ = some (EmbQ.toEmb.emb x)) (e2 : w2.toD ρ = some (EmbQ.toEmb.emb y)) (q1 : EmbQ.q x) (q2 : EmbQ.q y) (hd : EmbQ.dp γ ≤ 64) : gEqB neg w1 w2 ρ = .ok (.d (.bool (if neg then !(decide (x = y)) else decide (x = y)))) ρ := by
  unfold gEqB
  rw [e1, e2]
  simp only
  rw [if_pos ⟨shaped_emb x q1 hd, shaped_emb y q2 hd⟩, EmbQ.eqv]
end
section
variable {α : Type} [DecidableEq α] [EmbQ α] {ρ ρ1 ρ2 : Env} {f g : Mx W}
theorem e_eq {x y : α} (h1 : EvD f ρ x ρ1) (h2 : EvD g ρ1 y ρ2) (q1 : EmbQ.q x) (q2 : EmbQ.q y) (hd : EmbQ.dp α ≤ 64 := by decide) : EvD (m2 gEq f g) ρ (decide (x = y)) ρ2 := (m2_of h1 h2).trans (eq_gen (γ := α) rfl rfl q1 q2 hd)
theorem e_ne {x y : α} (h1 : EvD f ρ x ρ1) (h2 : EvD g ρ1 y ρ2) (q1 : EmbQ.q x) (q2 : EmbQ.q y) (hd : EmbQ.dp α ≤ 64 := by decide) : EvD (m2 gNe f g) ρ (!decide (x = y)) ρ2 := (m2_of h1 h2).trans (eq_gen (γ := α) rfl rfl q1 q2 hd)
theorem toD_lst {w : W} {ds : List D} (h : w.lst ρ = some ds) : w.toD ρ = some (.list ds) := by
  cases w with
  | d x => cases x <;> first | (cases h; done) | (cases h; rfl)
  | l x => cases h; rfl
  | t x => cases h
  | c i =>
    simp only [W.lst] at h
    simp only [W.toD]
    cases hb : ρ[i]? with
    | none => rw [hb] at h; cases h
    | some o => cases o with
      | none => rw [hb] at h; cases h
      | some b =>
        rw [hb] at h
        cases b with
        | d x => cases x <;> first | (cases h; done) | (cases h; rfl)
        | s x => cases h; rfl
        | l x => cases h; rfl
        | t x => cases h
        | x => cases h
theorem e_eqR {xs ys : List α} (h1 : EvR f ρ xs ρ2) (h2 : EvR g ρ2 ys ρ2) (q1 : EmbQ.q (PyL.mk xs)) (q2 : EmbQ.q (PyL.mk ys)) (hd : EmbQ.dp (PyL α) ≤ 64 := by decide) : EvD (m2 gEq f g) ρ (decide (xs = ys)) ρ2 := by
  obtain ⟨w1, a1, b1, _⟩ := h1
  obtain ⟨w2, a2, b2, _⟩ := h2
  refine (m2_of a1 a2).trans ((eq_gen (γ := PyL α) (x := ⟨xs⟩) (y := ⟨ys⟩) (toD_lst b1) (toD_lst b2) q1 q2 hd).trans ?_)
  have : decide (PyL.mk xs = PyL.mk ys) = decide (xs = ys) := decide_eq_decide.mpr ⟨fun h => PyL.mk.inj h, fun h => by rw [h]⟩
  rw [this]
  rfl
theorem e_neR {xs ys : List α} (h1 : EvR f ρ xs ρ2) (h2 : EvR g ρ2 ys ρ2) (q1 : EmbQ.q (PyL.mk xs)) (q2 : EmbQ.q (PyL.mk ys)) (hd : EmbQ.dp (PyL α) ≤ 64 := by decide) : EvD (m2 gNe f g) ρ (!decide (xs = ys)) ρ2 := by
  obtain ⟨w1, a1, b1, _⟩ := h1
  obtain ⟨w2, a2, b2, _⟩ := h2
  refine (m2_of a1 a2).trans ((eq_gen (γ := PyL α) (neg := true) (x := ⟨xs⟩) (y := ⟨ys⟩) (toD_lst b1) (toD_lst b2) q1 q2 hd).trans ?_)
  have : decide (PyL.mk xs = PyL.mk ys) = decide (xs = ys) := decide_eq_decide.mpr ⟨fun h => PyL.mk.inj h, fun h => by rw [h]⟩
  rw [this]
  rfl
/-- x in xs -/
def lmem {α : Type} [DecidableEq α] (y : α) (xs : List α) : Bool := decide (y ∈ xs)
theorem lmem_iff {α : Type} [DecidableEq α] {y : α} {xs : List α} : lmem y xs = true ↔ y ∈ xs := by unfold lmem; rw [decide_eq_true_eq]
theorem any_eqv (xs : List α) (y : α) : ((xs.map emb).any fun z => PyData.eqv z (emb y)) = lmem y xs := by
  unfold lmem
  induction xs with
  | nil => simp
  | cons x xs ih =>
    rw [List.map_cons, List.any_cons, ih, EmbQ.eqv, Bool.eq_iff_iff]
    simp only [Bool.or_eq_true, decide_eq_true_eq, List.mem_cons]
    exact ⟨fun h => h.imp Eq.symm id, fun h => h.imp Eq.symm id⟩
theorem e_in {y : α} {xs : List α} (h1 : EvD f ρ y ρ2) (h2 : EvR g ρ2 xs ρ2) (q1 : EmbQ.q y) (q2 : EmbQ.q (PyL.mk xs)) (hd : EmbQ.dp (PyL α) ≤ 64 := by decide) : EvD (m2 gIn f g) ρ (lmem y xs) ρ2 := by
  obtain ⟨w2, a2, b2, b3⟩ := h2
  refine (m2_of h1 a2).trans ?_
  have hd' : EmbQ.dp α + 1 ≤ 64 := hd
  have s1 := shaped_emb y q1 (by omega)
  have s2 : SeqAt.shaped (.list (xs.map emb)) = true := shaped_emb (PyL.mk xs) q2 hd
  have e1 : W.toD ρ2 (.d (emb y)) = some (emb y) := rfl
  unfold gIn gInB
  rw [b3]
  simp only
  rw [e1, toD_lst b2]
  simp only
  rw [if_pos ⟨s1, s2⟩, any_eqv]
  rfl
theorem e_notIn {y : α} {xs : List α} (h1 : EvD f ρ y ρ2) (h2 : EvR g ρ2 xs ρ2) (q1 : EmbQ.q y) (q2 : EmbQ.q (PyL.mk xs)) (hd : EmbQ.dp (PyL α) ≤ 64 := by decide) : EvD (m2 gNotIn f g) ρ (!lmem y xs) ρ2 := by
  obtain ⟨w2, a2, b2, b3⟩ := h2
  refine (m2_of h1 a2).trans ?_
  have hd' : EmbQ.dp α + 1 ≤ 64 := hd
  have s1 := shaped_emb y q1 (by omega)
  have s2 : SeqAt.shaped (.list (xs.map emb)) = true := shaped_emb (PyL.mk xs) q2 hd
  have e1 : W.toD ρ2 (.d (emb y)) = some (emb y) := rfl
  unfold gNotIn gInB
  rw [b3]
  simp only
  rw [e1, toD_lst b2]
  simp only
  rw [if_pos ⟨s1, s2⟩, any_eqv]
  rfl
end
section
variable {α β γ : Type} [Emb α] [Emb β] [Emb γ] {ρ ρ1 ρ2 ρ3 : Env} {f g h : Mx W} {fs : Mx (List W)}
/-! truths -/
theorem e_not {a : Bool} (h1 : EvD f ρ a ρ1) : EvD (mNotV f) ρ (!a) ρ1 := by
  have h1' : f ρ = .ok (.d (.bool a)) ρ1 := h1
  simp only [EvD, mNotV, bnd_ap, h1']
  rfl
theorem e_and {a b : Bool} (h1 : EvD f ρ a ρ1) (h2 : a = true → EvD g ρ1 b ρ1) : EvD (mAndV f g) ρ (a && b) ρ1 := by
  have h1' : f ρ = .ok (.d (.bool a)) ρ1 := h1
  simp only [EvD, mAndV, bnd_ap, h1']
  cases a with
  | false => rfl
  | true => exact h2 rfl
theorem e_or {a b : Bool} (h1 : EvD f ρ a ρ1) (h2 : a = false → EvD g ρ1 b ρ1) : EvD (mOrV f g) ρ (a || b) ρ1 := by
  have h1' : f ρ = .ok (.d (.bool a)) ρ1 := h1
  simp only [EvD, mOrV, bnd_ap, h1']
  cases a with
  | true => rfl
  | false => exact h2 rfl
abbrev EvB (t : Mx Bool) (ρ : Env) (a : Bool) (ρ1 : Env) : Prop := t ρ = .ok a ρ1
variable {t u : Mx Bool}
theorem t_val {a : Bool} (h1 : EvD f ρ a ρ1) : EvB (tst f) ρ a ρ1 := by
  have h1' : f ρ = .ok (.d (.bool a)) ρ1 := h1
  simp only [EvB, tst_ap, h1']
  rfl
theorem t_not {a : Bool} (h1 : EvB t ρ a ρ1) : EvB (mNotT t) ρ (!a) ρ1 := by simp only [EvB, mNotT_ap, h1]
theorem t_and {a b : Bool} (h1 : EvB t ρ a ρ1) (h2 : a = true → EvB u ρ1 b ρ1) : EvB (mAndT t u) ρ (a && b) ρ1 := by
  simp only [EvB, mAndT_ap, h1]
  cases a with
  | false => rfl
  | true => exact h2 rfl
theorem t_or {a b : Bool} (h1 : EvB t ρ a ρ1) (h2 : a = false → EvB u ρ1 b ρ1) : EvB (mOrT t u) ρ (a || b) ρ1 := by
  simp only [EvB, mOrT_ap, h1]
  cases a with
  | true => rfl
  | false => exact h2 rfl
/-! arguments -/
theorem a_nil : aNil ρ = .ok [] ρ := rfl
theorem a_cons {w : W} {ws : List W} (h1 : f ρ = .ok w ρ1) (h2 : fs ρ1 = .ok ws ρ2) : aCons f fs ρ = .ok (w :: ws) ρ2 := by simp only [aCons_ap, h1, h2]
theorem args_of {k : List W → Env → Out W} {ws : List W} (h1 : fs ρ = .ok ws ρ1) : mArgs k fs ρ = k ws ρ1 := by simp only [mArgs_ap, h1]
/-! built-ins of one sequence -/
theorem e_len {xs : List α} (h1 : EvS f ρ xs ρ1) : EvD (mArgs gLen (aCons f aNil)) ρ (xs.length : Int) ρ1 := by
  obtain ⟨w, a, b, _⟩ := h1
  refine (args_of (a_cons a a_nil)).trans ?_
  unfold gLen
  simp only [b, List.length_map]
  rfl
theorem e_lenS {x : Str} (h1 : EvD f ρ x ρ1) (hl : x.length ≤ 100000) : EvD (mArgs gLen (aCons f aNil)) ρ (x.length : Int) ρ1 := by
  refine (args_of (a_cons h1 a_nil)).trans ?_
  show gLen [.d (.str x)] ρ1 = _
  unfold gLen
  simp only [W.seq, W.lst, W.tup, W.asD]
  rw [if_pos hl]
  rfl
theorem e_tuple {xs : List α} (h1 : EvS f ρ xs ρ1) : EvD (mArgs gTuple (aCons f aNil)) ρ xs ρ1 := by
  obtain ⟨w, a, b, _⟩ := h1
  refine (args_of (a_cons a a_nil)).trans ?_
  unfold gTuple
  simp only [b]
  rfl
theorem e_list {xs : List α} (h1 : EvS f ρ xs ρ1) : EvL (mArgs gListA (aCons f aNil)) ρ xs ρ1 := by
  obtain ⟨w, a, b, c⟩ := h1
  refine (args_of (a_cons a a_nil)).trans ?_
  unfold gListA
  simp only [c]
  unfold gList
  simp only [b]
theorem e_sum {xs : List Int} (h1 : EvS f ρ xs ρ1) : EvD (mArgs gSumA (aCons f aNil)) ρ xs.sum ρ1 := by
  obtain ⟨w, a, b, _⟩ := h1
  refine (args_of (a_cons a a_nil)).trans ?_
  have b' : W.seq ρ1 w = some (xs.map PyData.int) := b
  unfold gSumA gI1A
  simp only [b', nums_map]
  rfl
theorem e_max {xs : List Int} (h1 : EvS f ρ xs ρ1) (h0 : xs ≠ []) : EvD (mArgs gMaxA (aCons f aNil)) ρ (maxL xs) ρ1 := by
  obtain ⟨w, a, b, _⟩ := h1
  refine (args_of (a_cons a a_nil)).trans ?_
  have b' : W.seq ρ1 w = some (xs.map PyData.int) := b
  unfold gMaxA gI1A
  simp only [b', nums_map]
  rw [if_neg h0]
  rfl
theorem e_min {xs : List Int} (h1 : EvS f ρ xs ρ1) (h0 : xs ≠ []) : EvD (mArgs gMinA (aCons f aNil)) ρ (minL xs) ρ1 := by
  obtain ⟨w, a, b, _⟩ := h1
  refine (args_of (a_cons a a_nil)).trans ?_
  have b' : W.seq ρ1 w = some (xs.map PyData.int) := b
  unfold gMinA gI1A
  simp only [b', nums_map]
  rw [if_neg h0]
  rfl
theorem e_all {xs : List Bool} (h1 : EvR f ρ xs ρ1) : EvD (mArgs gAll (aCons f aNil)) ρ (xs.all id) ρ1 := by
  obtain ⟨w, a, b, _⟩ := h1
  refine (args_of (a_cons a a_nil)).trans ?_
  have b' : W.lst ρ1 w = some (xs.map PyData.bool) := b
  unfold gAll
  simp only [b', boolsOf_map]
  rfl
def absI (i : Int) : Int := if i < 0 then -i else i
theorem e_abs {a : Int} (h1 : EvD f ρ a ρ1) : EvD (mArgs gAbs (aCons f aNil)) ρ (absI a) ρ1 := args_of (a_cons h1 a_nil)
theorem e_intI {a : Int} (h1 : EvD f ρ a ρ1) : EvD (mArgs gInt (aCons f aNil)) ρ a ρ1 := args_of (a_cons h1 a_nil)
theorem e_intB {a : Bool} (h1 : EvD f ρ a ρ1) : EvD (mArgs gInt (aCons f aNil)) ρ (if a then (1 : Int) else 0) ρ1 := args_of (a_cons h1 a_nil)
theorem e_lrev {xs : List α} (h1 : EvR f ρ xs ρ1) : EvL (mListReversed f) ρ xs.reverse ρ1 := by
  obtain ⟨w, a, b, _⟩ := h1
  simp only [EvL, mListReversed, bnd_ap, a, b, List.map_reverse]
theorem e_trev {xs : List α} (h1 : EvR f ρ xs ρ1) : EvD (mTupleReversed f) ρ xs.reverse ρ1 := by
  obtain ⟨w, a, b, _⟩ := h1
  simp only [EvD, mTupleReversed, bnd_ap, a, b]
  show _ = Out.ok (W.d (.tuple (xs.reverse.map emb))) ρ1
  rw [List.map_reverse]
/-! x[i] -/
theorem seq_ix {w1 w2 : W} {xs : List D} {i : Int} {d : D} (h1 : w1.seq ρ = some xs) (ht : w1.tab ρ = none) (h2 : w2.asD ρ = some (.int i)) (h3 : L2.atI xs i = some d) : gIxA w1 w2 ρ = .ok (.d d) ρ := by
  unfold gIxA
  simp only [ht]
  unfold gIx
  simp only [h2, h1, h3]
theorem e_ix [Inhabited α] {xs : List α} {i : Int} (h1 : EvS f ρ xs ρ2) (h2 : EvD g ρ2 i ρ2) (h0 : 0 ≤ i) (hl : i < xs.length) : EvD (m2 gIxA f g) ρ (ix xs i) ρ2 := by
  obtain ⟨w, a, b, c⟩ := h1
  refine (m2_of a h2).trans (seq_ix b c rfl ?_)
  refine atI_at h0 ?_
  rw [List.getElem?_map, ix_get h0 hl]
  rfl
theorem e_ixLast [Inhabited α] {xs : List α} (h1 : EvS f ρ xs ρ2) (h0 : xs ≠ []) : EvD (m2 gIxA f (m1 gNeg (mC (.int 1)))) ρ (lastI xs) ρ2 := by
  obtain ⟨w, a, b, c⟩ := h1
  refine (m2_of a (show _ = Out.ok (W.d (.int (-1))) ρ2 from rfl)).trans (seq_ix b c rfl ?_)
  have hl : 0 < xs.length := List.length_pos_iff.mpr h0
  unfold L2.atI L2.ixN
  rw [List.length_map, if_neg (by omega), if_pos (by omega)]
  show (xs.map emb)[((-1 : Int) + (xs.length : Int)).toNat]? = _
  rw [show ((-1 : Int) + (xs.length : Int)).toNat = xs.length - 1 by omega, List.getElem?_map, lastI_get h0]
  rfl
theorem e_fst {p : α × β} (h1 : EvD f ρ p ρ1) : EvD (m2 gIxA f (mC (.int 0))) ρ p.1 ρ1 := (m2_of h1 (e_int 0)).trans rfl
theorem e_snd {p : α × β} (h1 : EvD f ρ p ρ1) : EvD (m2 gIxA f (mC (.int 1))) ρ p.2 ρ1 := (m2_of h1 (e_int 1)).trans rfl
theorem e_tr0 {p : Tri α β γ} (h1 : EvD f ρ p ρ1) : EvD (m2 gIxA f (mC (.int 0))) ρ p.a ρ1 := (m2_of h1 (e_int 0)).trans rfl
theorem e_tr1 {p : Tri α β γ} (h1 : EvD f ρ p ρ1) : EvD (m2 gIxA f (mC (.int 1))) ρ p.b ρ1 := (m2_of h1 (e_int 1)).trans rfl
theorem e_tr2 {p : Tri α β γ} (h1 : EvD f ρ p ρ1) : EvD (m2 gIxA f (mC (.int 2))) ρ p.c ρ1 := (m2_of h1 (e_int 2)).trans rfl
/-! displays -/
theorem e_tup0 : EvD (mArgs gTup aNil) ρ ([] : List α) ρ := rfl
theorem e_pair {a : α} {b : β} (h1 : EvD f ρ a ρ1) (h2 : EvD g ρ1 b ρ2) : EvD (mArgs gTup (aCons f (aCons g aNil))) ρ (a, b) ρ2 := args_of (a_cons h1 (a_cons h2 a_nil))
theorem e_tri {a : α} {b : β} {c : γ} (h1 : EvD f ρ a ρ1) (h2 : EvD g ρ1 b ρ2) (h3 : EvD h ρ2 c ρ3) : EvD (mArgs gTup (aCons f (aCons g (aCons h aNil)))) ρ (Tri.mk a b c) ρ3 := args_of (a_cons h1 (a_cons h2 (a_cons h3 a_nil)))
theorem e_one {a : α} (h1 : EvD f ρ a ρ1) : EvD (mArgs gTup (aCons f aNil)) ρ [a] ρ1 := args_of (a_cons h1 a_nil)
/-- several of one kind -/
def EvAs {α : Type} [Emb α] (fs : Mx (List W)) (ρ : Env) (xs : List α) (ρ1 : Env) : Prop := fs ρ = .ok (xs.map fun a => W.d (emb a)) ρ1
theorem as_nil : EvAs aNil ρ ([] : List α) ρ := rfl
theorem as_cons {a : α} {xs : List α} (h1 : EvD f ρ a ρ1) (h2 : EvAs fs ρ1 xs ρ2) : EvAs (aCons f fs) ρ (a :: xs) ρ2 := a_cons h1 h2
theorem datums_d : ∀ (xs : List α) (ρ : Env), datums (xs.map fun a => W.d (emb a)) ρ = some (xs.map emb, ρ)
  | [], _ => rfl
  | x :: xs, ρ => by
    rw [List.map_cons]
    unfold datums
    simp only [W.datum, datums_d xs ρ]
    rfl
theorem e_tups {xs : List α} (h1 : EvAs fs ρ xs ρ1) (hl : xs.length ≤ 100000 := by exact Nat.le_of_ble_eq_true rfl) : EvD (mArgs gTup fs) ρ xs ρ1 := by
  refine (args_of h1).trans ?_
  unfold TD.gTup
  simp only [datums_d, List.length_map]
  rw [if_pos hl]
  rfl
theorem e_lsts {xs : List α} (h1 : EvAs fs ρ xs ρ1) (hl : xs.length ≤ 100000 := by exact Nat.le_of_ble_eq_true rfl) : EvL (mArgs gLst fs) ρ xs ρ1 := by
  refine (args_of h1).trans ?_
  unfold gLst
  simp only [datums_d, List.length_map]
  rw [if_pos hl]
/-! + * of sequences -/
theorem e_cat {xs ys : List α} (h1 : EvD f ρ xs ρ1) (h2 : EvD g ρ1 ys ρ2) (hl : xs.length + ys.length ≤ 100000) : EvD (m2 gAdd f g) ρ (xs ++ ys) ρ2 := by
  refine (m2_of h1 h2).trans ?_
  show gAdd (.d (.tuple (xs.map emb))) (.d (.tuple (ys.map emb))) ρ2 = .ok (.d (.tuple ((xs ++ ys).map emb))) ρ2
  rw [a_tup (by rw [List.length_map, List.length_map]; exact hl), List.map_append]
theorem e_catS {x y : Str} (h1 : EvD f ρ x ρ1) (h2 : EvD g ρ1 y ρ2) (hl : x.length + y.length ≤ 100000) : EvD (m2 gAdd f g) ρ (x ++ y) ρ2 := by
  refine (m2_of h1 h2).trans ?_
  show gAdd (.d (.str x)) (.d (.str y)) ρ2 = .ok (.d (.str (x ++ y))) ρ2
  unfold gAdd
  simp only [W.asD]
  rw [if_pos hl]
/-- a list of one's own: made here, or in a slot -/
def EvO {α : Type} [Emb α] (f : Mx W) (ρ : Env) (xs : List α) (ρ1 : Env) : Prop := ∃ w, f ρ = .ok w ρ1 ∧ w.own ρ1 = some (xs.map emb) ∧ w.asD ρ1 = none
theorem o_lst {xs : List α} (h : EvL f ρ xs ρ1) : EvO f ρ xs ρ1 := ⟨_, h, rfl, rfl⟩
theorem o_cell (i : Nat) {xs : List α} (h : ρ[i]? = some (some (.l (xs.map emb))) := by rfl) : EvO (mVar i) ρ xs ρ := ⟨.c i, by simp only [mVar, h], by simp only [W.own, h], by simp only [W.asD, h]⟩
theorem e_catL {xs ys : List α} (h1 : EvO f ρ xs ρ2) (h2 : EvO g ρ2 ys ρ2) (hl : xs.length + ys.length ≤ 100000) : EvL (m2 gAdd f g) ρ (xs ++ ys) ρ2 := by
  obtain ⟨w1, a1, b1, c1⟩ := h1
  obtain ⟨w2, a2, b2, c2⟩ := h2
  refine (m2_of a1 a2).trans ?_
  unfold gAdd
  simp only [c1, c2, b1, b2, List.length_map]
  rw [if_pos hl, List.map_append]
theorem e_rep {a : α} {n : Int} (h1 : EvD f ρ [a] ρ1) (h2 : EvD g ρ1 n ρ2) (hn : 1 ≤ n) (hl : n ≤ 1000) : EvD (m2 gMulC f g) ρ (List.replicate n.toNat a) ρ2 := by
  refine (m2_of h1 h2).trans ?_
  obtain ⟨k, rfl⟩ := Int.eq_ofNat_of_zero_le (show 0 ≤ n by omega)
  show gMulA (.d (.tuple [emb a])) (.d (.int (k : Int))) ρ2 = .ok (.d (.tuple ((List.replicate k a).map emb))) ρ2
  rw [a_repn (by omega) (by omega), List.map_replicate]
/-! slices -/
theorem o_none : oNone ρ = .ok none ρ := rfl
theorem o_some {a : Int} (h1 : EvD f ρ a ρ1) : oSome f ρ = .ok (some a) ρ1 := by
  have h1' : f ρ = .ok (.d (.int a)) ρ1 := h1
  simp only [oSome_ap, h1', W.asD]
theorem cut_map {xs : List α} {a b : Option Int} : cutD (xs.map emb) a b = (cutD xs a b).map emb := by rw [cutD_map]
variable {ml mh : Mx (Option Int)} {la lb : Option Int}
theorem sl_of {w : W} (h1 : f ρ = .ok w ρ1) (h2 : ml ρ1 = .ok la ρ1) (h3 : mh ρ1 = .ok lb ρ1) : mSl f ml mh ρ = gSl w la lb ρ1 := by
  simp only [mSl_ap, h1, h2, h3]
theorem e_slT {xs : List α} (h1 : EvD f ρ xs ρ1) (h2 : ml ρ1 = .ok la ρ1) (h3 : mh ρ1 = .ok lb ρ1) : EvD (mSl f ml mh) ρ (cutD xs la lb) ρ1 := by
  refine (sl_of h1 h2 h3).trans ?_
  show Out.ok (W.d (.tuple (cutD (xs.map emb) la lb))) ρ1 = .ok (.d (.tuple ((cutD xs la lb).map emb))) ρ1
  rw [cut_map]
theorem e_slL {xs : List α} (h1 : EvR f ρ xs ρ1) (h2 : ml ρ1 = .ok la ρ1) (h3 : mh ρ1 = .ok lb ρ1) : EvL (mSl f ml mh) ρ (cutD xs la lb) ρ1 := by
  obtain ⟨w, a, b, _⟩ := h1
  refine (sl_of a h2 h3).trans ?_
  unfold gSl
  simp only [b, cut_map]
/-! a call -/
theorem e_call {F : List B → FO} {ws : List W} {bs bs' : List B} {b : B} (ha : fs ρ = .ok ws ρ1) (hr : ress ws ρ1 = some bs) (hn : (slotsOf ws).Nodup) (hf : F bs = .ok b bs') : mCall F fs ρ = .ok (ofB b) (wb ws bs' ρ1) := by
  simp only [mCall_ap, ha, hr, hf]
  rw [if_pos hn]
/-- .. nothing lent -/
def resB : W → B
  | .d x => .d x
  | .l x => .l x
  | .t x => .t x
  | .c _ => .x
def noC : W → Bool
  | .c _ => false
  | _ => true
theorem ress_noC : ∀ {ws : List W}, ws.all noC = true → ress ws ρ = some (ws.map resB) ∧ slotsOf ws = []
  | [], _ => ⟨rfl, rfl⟩
  | w :: ws, h => by
    rw [List.all_cons, Bool.and_eq_true] at h
    obtain ⟨h1, h2⟩ := ress_noC h.2
    cases w with
    | c i => cases h.1
    | d x => exact ⟨by unfold ress; simp only [W.res, h1]; rfl, by rw [slots_d, h2]⟩
    | l x => exact ⟨by unfold ress; simp only [W.res, h1]; rfl, by rw [slots_l, h2]⟩
    | t x => exact ⟨by unfold ress; simp only [W.res, h1]; rfl, by rw [slots_t, h2]⟩
theorem e_callN {F : List B → FO} {ws : List W} {bs' : List B} {b : B} (ha : fs ρ = .ok ws ρ1) (hf : F (ws.map resB) = .ok b bs') (hn : ws.all noC = true := by rfl) : mCall F fs ρ = .ok (ofB b) ρ1 := by
  obtain ⟨h1, h2⟩ := ress_noC (ρ := ρ1) hn
  have := e_call ha h1 (by rw [h2]; exact List.nodup_nil) hf
  rw [this, wb_none h2]
/-! walks -/
theorem w_rng {n : Int} (h1 : EvD f ρ n ρ1) (hl : n ≤ 1000000000) (h0 : -1000000000 ≤ n) : mRng1 (aCons f aNil) ρ = .ok ((rng n).map emb, none) ρ1 := by
  have h1' : f ρ = .ok (.d (.int n)) ρ1 := h1
  simp only [mRng1_ap, aCons_ap, aNil_ap, h1', gRng1_ap h0 hl]
  unfold rng rangeD
  rw [List.map_map]
  simp only [Int.zero_add]
  rfl
theorem w_rng2 {a b : Int} (h1 : EvD f ρ a ρ1) (h2 : EvD g ρ1 b ρ2) (hl : a ≤ 1000000000) (h0 : -1000000000 ≤ a) (hl' : b ≤ 1000000000) (h0' : -1000000000 ≤ b) : mRng2 (aCons f (aCons g aNil)) ρ = .ok ((rng2 a b).map emb, none) ρ2 := by
  have h1' : f ρ = .ok (.d (.int a)) ρ1 := h1
  have h2' : g ρ1 = .ok (.d (.int b)) ρ2 := h2
  simp only [mRng2_ap, aCons_ap, aNil_ap, h1', h2']
  unfold gRng2
  simp only [W.asD]
  rw [if_pos ⟨h0, hl, h0', hl'⟩]
  unfold rng2 rangeD
  rw [List.map_map]
  rfl
theorem w_tup {xs : List α} (h1 : EvD f ρ xs ρ1) : mWalk f ρ = .ok (xs.map emb, none) ρ1 := by
  have h1' : f ρ = .ok (.d (.tuple (xs.map emb))) ρ1 := h1
  simp only [mWalk_ap, h1', W.walkL, W.asD]
theorem w_lst {xs : List α} (h1 : EvL f ρ xs ρ1) : mWalk f ρ = .ok (xs.map emb, none) ρ1 := by
  have h1' : f ρ = .ok (.l (xs.map emb)) ρ1 := h1
  simp only [mWalk_ap, h1', W.walkL]
theorem w_pyl {xs : List α} (h1 : EvD f ρ (PyL.mk xs) ρ1) : mWalk f ρ = .ok (xs.map emb, none) ρ1 := by
  have h1' : f ρ = .ok (.d (.list (xs.map emb))) ρ1 := h1
  simp only [mWalk_ap, h1', W.walkL]
theorem w_scr (i : Nat) {xs : List α} (h : ρ[i]? = some (some (.s (xs.map emb))) := by rfl) : mWalk (mVar i) ρ = .ok (xs.map emb, none) ρ := by
  have h1' : mVar i ρ = .ok (.c i) ρ := by simp only [mVar, h]
  simp only [mWalk_ap, h1', W.walkL, h]
theorem w_cell (i : Nat) {xs : List α} (h : ρ[i]? = some (some (.l (xs.map emb))) := by rfl) : mWalk (mVar i) ρ = .ok (xs.map emb, some i) ρ := by
  have h1' : mVar i ρ = .ok (.c i) ρ := by simp only [mVar, h]
  simp only [mWalk_ap, h1', W.walkL, h]
theorem zip_emb : ∀ (xs : List α) (ys : List β), zipD (xs.map emb) (ys.map emb) = (xs.zip ys).map emb
  | [], _ => rfl
  | _ :: _, [] => rfl
  | x :: xs, y :: ys => by
    have := zip_emb xs ys
    unfold zipD at this ⊢
    rw [List.map_cons, List.map_cons, List.zipWith_cons_cons, this, List.zip_cons_cons, List.map_cons]
    rfl
theorem w_zipT {xs : List α} {ys : List β} (h1 : EvD f ρ xs ρ1) (h2 : EvD g ρ1 ys ρ2) : mZip (aCons f (aCons g aNil)) ρ = .ok ((xs.zip ys).map emb, none) ρ2 := by
  have e : aCons f (aCons g aNil) ρ = .ok [.d (.tuple (xs.map emb)), .d (.tuple (ys.map emb))] ρ2 := a_cons h1 (a_cons h2 a_nil)
  simp only [mZip, bnd_ap, e]
  unfold gZip
  simp only [datums, W.datum, zip_emb]
/-- a list that goes into a walk whole: made here or known -/
def EvK {α : Type} [Emb α] (f : Mx W) (ρ : Env) (xs : List α) (ρ1 : Env) : Prop := ∃ w, f ρ = .ok w ρ1 ∧ w.datum ρ1 = some (.list (xs.map emb), ρ1)
theorem k_lst {xs : List α} (h : EvL f ρ xs ρ1) : EvK f ρ xs ρ1 := ⟨_, h, rfl⟩
theorem k_pyl {xs : List α} (h : EvD f ρ (PyL.mk xs) ρ1) : EvK f ρ xs ρ1 := ⟨_, h, rfl⟩
theorem w_zipK {xs : List α} {ys : List β} (h1 : EvK f ρ xs ρ2) (h2 : EvK g ρ2 ys ρ2) : mZip (aCons f (aCons g aNil)) ρ = .ok ((xs.zip ys).map emb, none) ρ2 := by
  obtain ⟨w1, a1, b1⟩ := h1
  obtain ⟨w2, a2, b2⟩ := h2
  have e : aCons f (aCons g aNil) ρ = .ok [w1, w2] ρ2 := a_cons a1 (a_cons a2 a_nil)
  simp only [mZip, bnd_ap, e]
  unfold gZip
  simp only [datums, b1, b2, zip_emb]
/-- what goes into a zip: its value stands (a list in a cell is frozen then) -/
def sqD (b : Bool) (xs : List D) : D := cond b (.list xs) (.tuple xs)
def EvG {α : Type} [Emb α] (b : Bool) (f : Mx W) (ρ ρ1 : Env) (xs : List α) (ρ2 : Env) : Prop := ∃ w, f ρ = .ok w ρ ∧ w.datum ρ1 = some (sqD b (xs.map emb), ρ2)
theorem z_tup {ρ1 : Env} {xs : List α} (h : EvD f ρ xs ρ) : EvG false f ρ ρ1 xs ρ1 := ⟨_, h, rfl⟩
theorem z_pyl {ρ1 : Env} {xs : List α} (h : EvD f ρ (PyL.mk xs) ρ) : EvG true f ρ ρ1 xs ρ1 := ⟨_, h, rfl⟩
theorem z_lst {ρ1 : Env} {xs : List α} (h : EvL f ρ xs ρ) : EvG true f ρ ρ1 xs ρ1 := ⟨_, h, rfl⟩
theorem z_cel {ρ1 ρ2 : Env} (i : Nat) {xs : List α} (h : ρ[i]? = some (some (.l (xs.map emb)))) (h1 : ρ1[i]? = some (some (.l (xs.map emb)))) (h2 : ρ1.set i (some (.d (.list (xs.map emb)))) = ρ2) : EvG true (mVar i) ρ ρ1 xs ρ2 := by
  subst h2
  exact ⟨.c i, by simp only [mVar, h], by simp only [W.datum, h1]; rfl⟩
theorem w_zipZ {b1 b2 : Bool} {ρ1 ρ2 : Env} {xs : List α} {ys : List β} (h1 : EvG b1 f ρ ρ xs ρ1) (h2 : EvG b2 g ρ ρ1 ys ρ2) : mZip (aCons f (aCons g aNil)) ρ = .ok ((xs.zip ys).map emb, none) ρ2 := by
  obtain ⟨w1, a1, c1⟩ := h1
  obtain ⟨w2, a2, c2⟩ := h2
  have e : aCons f (aCons g aNil) ρ = .ok [w1, w2] ρ := a_cons a1 (a_cons a2 a_nil)
  simp only [mZip, bnd_ap, e]
  unfold gZip
  cases b1 <;> cases b2 <;> simp only [datums, c1, c2, sqD, cond, zip_emb]
theorem w_keys {κ : Type} [Emb κ] {l : List (List L2.Key × D)} {ks : List κ} (h1 : f ρ = .ok (.t l) ρ1) (hk : l.map (fun kv => keyT kv.1) = ks.map emb) : mKeys f ρ = .ok (ks.map emb, none) ρ1 := by
  simp only [mKeys, bnd_ap, h1, hk]
def enumI (xs : List α) : List (Int × α) := xs.mapIdx fun i x => ((i : Int), x)
theorem enum_emb (xs : List α) : enumD (xs.map emb) = (enumI xs).map emb := by
  unfold enumD enumI
  refine List.ext_getElem (by simp) fun k h1 h2 => ?_
  simp
  rfl
theorem w_enumK {xs : List α} (h1 : EvK f ρ xs ρ1) : mEnumA (aCons f aNil) ρ = .ok ((enumI xs).map emb, none) ρ1 := by
  obtain ⟨w1, a1, b1⟩ := h1
  have e : aCons f aNil ρ = .ok [w1] ρ1 := a_cons a1 a_nil
  simp only [mEnumA, bnd_ap, e]
  unfold gEnumA
  simp only [datums, b1, enum_emb]
theorem w_enumT {xs : List α} (h1 : EvD f ρ xs ρ1) : mEnumA (aCons f aNil) ρ = .ok ((enumI xs).map emb, none) ρ1 := by
  have e : aCons f aNil ρ = .ok [.d (.tuple (xs.map emb))] ρ1 := a_cons h1 a_nil
  simp only [mEnumA, bnd_ap, e]
  unfold gEnumA
  simp only [datums, W.datum, enum_emb]
theorem e_sortedSet {xs : List (List Int)} (h1 : EvR f ρ xs ρ1) (h : U xs) : EvL (mSortedSet f) ρ (srtU xs) ρ1 := by
  obtain ⟨w, a, b, _⟩ := h1
  have b' : W.lst ρ1 w = some (xs.map fun ns => PyData.tuple (ns.map .int)) := b
  simp only [EvL, mSortedSet, bnd_ap, a, b', tupsOf_map]
  rw [if_pos h]
  rfl
/-! comprehensions -/
theorem c_turn {vs : List Nat} {bd : Bd} {tt : Mx Bool} {te : Mx W} {x : α} {y : β} {c : Bool} {ρx : Env} (hb : bd (emb x) ρ = some ρx) (ht : tt ρx = .ok c ρx) (he : c = true → EvD te ρx y ρx) (hw : wipeR ρx vs = ρ) : cTurn vs bd tt te (emb x) ρ = some (if c then some (emb y) else none, ρ) := by
  unfold cTurn
  rw [hb]
  simp only [ht]
  cases c with
  | false => simp [hw]
  | true =>
    have he' := he rfl
    simp only [EvD] at he'
    simp only [he', W.datum, hw, if_true]
theorem e_compF {vs : List Nat} {it : Mx Walk} {bd : Bd} {tt : Mx Bool} {te : Mx W} {xs : List α} (ρw : Env) (ρx : α → Env) (c : α → Bool) (y : α → β) (hi : it ρ = .ok (xs.map emb, none) ρ1) (hw : wipeR ρ1 vs = ρw)
    (h : ∀ x ∈ xs, bd (emb x) ρw = some (ρx x) ∧ tt (ρx x) = .ok (c x) (ρx x) ∧ (c x = true → EvD te (ρx x) (y x) (ρx x)) ∧ wipeR (ρx x) vs = ρw) (hl : xs.length ≤ 100000) (hr : restoreR ρ1 vs ρw = some ρ1) : EvL (mComp vs it bd tt te) ρ ((xs.filter c).map y) ρ1 := by
  subst hw
  have key : ∀ (zs : List α) (acc : List D), (∀ x ∈ zs, x ∈ xs) → acc.length + zs.length ≤ 100000 → compL vs bd tt te (zs.map emb) acc (wipeR ρ1 vs) = .ok (acc ++ ((zs.filter c).map y).map emb) (wipeR ρ1 vs) := by
    intro zs
    induction zs with
    | nil => intro acc _ _; simp [compL]
    | cons z zs ih =>
      intro acc hm hl
      obtain ⟨h1, h2, h3, h4⟩ := h z (hm z List.mem_cons_self)
      rw [List.length_cons] at hl
      rw [List.map_cons, compL_cons (c_turn h1 h2 h3 h4) (by omega)]
      cases e : c z with
      | true =>
        rw [List.filter_cons_of_pos e]
        simp only [if_true, Option.toList_some]
        rw [ih _ (fun x hx => hm x (List.mem_cons_of_mem _ hx)) (by rw [List.length_append]; simp only [List.length_cons, List.length_nil]; omega), List.map_cons, List.map_cons, List.append_assoc]
        rfl
      | false =>
        rw [List.filter_cons_of_neg (by rw [e]; decide)]
        simp only [Bool.false_eq_true, if_false, Option.toList_none, List.append_nil]
        exact ih _ (fun x hx => hm x (List.mem_cons_of_mem _ hx)) (by omega)
  have := mComp_of hi (key xs [] (fun _ h => h) (by simpa using hl)) hr
  rw [List.nil_append] at this
  exact this
theorem e_comp {vs : List Nat} {it : Mx Walk} {bd : Bd} {te : Mx W} {xs : List α} (ρw : Env) (ρx : α → Env) (y : α → β) (hi : it ρ = .ok (xs.map emb, none) ρ1) (hw : wipeR ρ1 vs = ρw)
    (h : ∀ x ∈ xs, bd (emb x) ρw = some (ρx x) ∧ EvD te (ρx x) (y x) (ρx x) ∧ wipeR (ρx x) vs = ρw) (hl : xs.length ≤ 100000) (hr : restoreR ρ1 vs ρw = some ρ1) : EvL (mComp vs it bd tYesM te) ρ (xs.map y) ρ1 := by
  have := e_compF (te := te) (tt := tYesM) ρw ρx (fun _ => true) y hi hw (fun x hx => ⟨(h x hx).1, rfl, fun _ => (h x hx).2.1, (h x hx).2.2⟩) hl hr
  rw [List.filter_eq_self.mpr (fun _ _ => rfl)] at this
  exact this
/-- one whose terms change what stands in the slots -/
theorem e_compS {σ : Type} {vs : List Nat} {it : Mx Walk} {bd : Bd} {te : Mx W} {xs : List α} {s0 : σ} (E : σ → Env) (ρx ρy : σ → α → Env) (g : σ → α → β × σ) (Inv : σ → List α → Prop) (hi : it ρ = .ok (xs.map emb, none) ρ1) (hw : wipeR ρ1 vs = E s0) (h0 : Inv s0 xs)
    (h : ∀ s x ys, x ∈ xs → Inv s (x :: ys) → bd (emb x) (E s) = some (ρx s x) ∧ EvD te (ρx s x) (g s x).1 (ρy s x) ∧ wipeR (ρy s x) vs = E (g s x).2 ∧ Inv (g s x).2 ys) (hl : xs.length ≤ 100000) (hr : restoreR ρ1 vs (E (accL g xs s0).2) = some ρ2) : EvL (mComp vs it bd tYesM te) ρ (accL g xs s0).1 ρ2 := by
  have key : ∀ (zs : List α) (acc : List D) (s : σ), (∀ x ∈ zs, x ∈ xs) → acc.length + zs.length ≤ 100000 → Inv s zs → compL vs bd tYesM te (zs.map emb) acc (E s) = .ok (acc ++ (accL g zs s).1.map emb) (E (accL g zs s).2) := by
    intro zs
    induction zs with
    | nil => intro acc s _ _ _; simp [compL, accL]
    | cons z zs ih =>
      intro acc s hm hl hi
      obtain ⟨h1, h2, h3, h4⟩ := h s z zs (hm z List.mem_cons_self) hi
      rw [List.length_cons] at hl
      have ct : cTurn vs bd tYesM te (emb z) (E s) = some (some (emb (g s z).1), E (g s z).2) := by
        unfold cTurn
        rw [h1]
        simp only [tYesM_ap]
        simp only [EvD] at h2
        simp only [h2, W.datum, h3]
      rw [List.map_cons, compL_cons ct (by omega)]
      simp only [Option.toList_some]
      rw [ih _ _ (fun x hx => hm x (List.mem_cons_of_mem _ hx)) (by rw [List.length_append]; simp only [List.length_cons, List.length_nil]; omega) h4]
      have ea : accL g (z :: zs) s = ((g s z).1 :: (accL g zs (g s z).2).1, (accL g zs (g s z).2).2) := rfl
      rw [ea, List.map_cons, List.append_assoc]
      rfl
  unfold EvL mComp
  simp only [bnd_ap, hi, outR, hw]
  rw [key xs [] s0 (fun _ z => z) (by simpa using hl) h0]
  simp only [hr, backR, List.nil_append]
/-- over a list in a slot: it is set aside meanwhile -/
theorem e_compFC {vs : List Nat} {it : Mx Walk} {bd : Bd} {tt : Mx Bool} {te : Mx W} {xs : List α} {j : Nat} (ρw : Env) (ρx : α → Env) (c : α → Bool) (y : α → β) (hi : it ρ = .ok (xs.map emb, some j) ρ1) (hw : wipeR (ρ1.set j none) vs = ρw)
    (h : ∀ x ∈ xs, bd (emb x) ρw = some (ρx x) ∧ tt (ρx x) = .ok (c x) (ρx x) ∧ (c x = true → EvD te (ρx x) (y x) (ρx x)) ∧ wipeR (ρx x) vs = ρw) (hl : xs.length ≤ 100000) (hr : restoreR (ρ1.set j none) vs ρw = some (ρ1.set j none)) (hj : ρ1[j]? = some (some (.l (xs.map emb)))) : EvL (mComp vs it bd tt te) ρ ((xs.filter c).map y) ρ1 := by
  have hi2 : (fun _ : Env => (Out.ok (xs.map emb, none) (ρ1.set j none) : Out Walk)) ρ = .ok (xs.map emb, none) (ρ1.set j none) := rfl
  have e := e_compF (it := fun _ => .ok (xs.map emb, none) (ρ1.set j none)) (ρ := ρ) ρw ρx c y hi2 hw h hl hr
  have hlen : j < ρ1.length := (List.getElem?_eq_some_iff.mp hj).1
  have hs : (ρ1.set j none).set j (some (.l (xs.map emb))) = ρ1 := by
    rw [List.set_set]
    refine List.ext_getElem? fun k => ?_
    by_cases hk : k = j
    · subst hk
      rw [List.getElem?_set_self hlen, hj]
    · rw [List.getElem?_set_ne (Ne.symm hk)]
  unfold EvL mComp at e ⊢
  simp only [bnd_ap, outR] at e
  simp only [bnd_ap, hi, outR]
  cases e1 : compL vs bd tt te (xs.map emb) [] (wipeR (ρ1.set j none) vs) with
  | st => rw [e1] at e; cases e
  | er c ρ' => rw [e1] at e; cases e
  | ok ys ρ' =>
    rw [e1] at e
    simp only at e ⊢
    cases e2 : restoreR (ρ1.set j none) vs ρ' with
    | none => rw [e2] at e; cases e
    | some ρ'' =>
      rw [e2] at e
      simp only [backR] at e ⊢
      injection e with e3 e4
      subst e4
      rw [List.getElem?_set_self hlen]
      simp only [hs, e3]
theorem e_compC {vs : List Nat} {it : Mx Walk} {bd : Bd} {te : Mx W} {xs : List α} {j : Nat} (ρw : Env) (ρx : α → Env) (y : α → β) (hi : it ρ = .ok (xs.map emb, some j) ρ1) (hw : wipeR (ρ1.set j none) vs = ρw)
    (h : ∀ x ∈ xs, bd (emb x) ρw = some (ρx x) ∧ EvD te (ρx x) (y x) (ρx x) ∧ wipeR (ρx x) vs = ρw) (hl : xs.length ≤ 100000) (hr : restoreR (ρ1.set j none) vs ρw = some (ρ1.set j none)) (hj : ρ1[j]? = some (some (.l (xs.map emb)))) : EvL (mComp vs it bd tYesM te) ρ (xs.map y) ρ1 := by
  have := e_compFC (te := te) (tt := tYesM) ρw ρx (fun _ => true) y hi hw (fun x hx => ⟨(h x hx).1, rfl, fun _ => (h x hx).2.1, (h x hx).2.2⟩) hl hr hj
  rw [List.filter_eq_self.mpr (fun _ _ => rfl)] at this
  exact this
end
end TD
namespace TD
open PySem PySem.Spec
open Emb (emb)
/-! ### dicts with tuple keys -/
class KeyE (κ : Type) extends Emb κ where
  key : κ → List L2.Key
  inj : ∀ a b, key a = key b → a = b
  at_ : ∀ (a : κ) (ρ : Env), W.key ρ (.d (emb a)) = some (key a)
  back : ∀ a, keyT (key a) = emb a
instance : KeyE (List Int) where
  key := keyI
  inj _ _ := keyI_inj
  at_ a ρ := key_tup
  back a := keyT_I a
section
variable {κ β : Type} [KeyE κ] [DecidableEq κ] [Emb β]
def kvE (l : List (κ × β)) : List (List L2.Key × D) := l.map fun p => (KeyE.key p.1, emb p.2)
def dhas (l : List (κ × β)) (k : κ) : Bool := l.any fun p => decide (p.1 = k)
def dget (l : List (κ × β)) (k : κ) : Option β := (l.find? fun p => decide (p.1 = k)).map (·.2)
def dput (l : List (κ × β)) (k : κ) (v : β) : List (κ × β) := if dhas l k then l.map (fun p => if p.1 = k then (p.1, v) else p) else l ++ [(k, v)]
theorem key_dec (a b : κ) : decide (KeyE.key a = KeyE.key b) = decide (a = b) := decide_eq_decide.mpr ⟨KeyE.inj a b, fun h => by rw [h]⟩
theorem val_kvE (l : List (κ × β)) (k : κ) : valD (kvE l) (KeyE.key k) = (dget l k).map emb := by
  unfold valD kvE dget
  induction l with
  | nil => rfl
  | cons p l ih =>
    rw [List.map_cons, List.find?_cons, List.find?_cons]
    simp only [key_dec]
    cases decide (p.1 = k) with
    | true => rfl
    | false => exact ih
theorem dget_has (l : List (κ × β)) (k : κ) : (dget l k).isSome = dhas l k := by
  unfold dget dhas
  rw [Option.isSome_map, Bool.eq_iff_iff, List.find?_isSome, List.any_eq_true]
theorem any_kvE (l : List (κ × β)) (k : κ) : ((kvE l).any fun kv => decide (kv.1 = KeyE.key k)) = dhas l k := by
  unfold kvE dhas
  rw [List.any_map]
  congr 1
  funext p
  exact key_dec p.1 k
theorem put_kvE (l : List (κ × β)) (k : κ) (v : β) : putD (kvE l) (KeyE.key k) (emb v) = kvE (dput l k v) := by
  unfold putD dput
  rw [any_kvE]
  split
  · unfold kvE
    rw [List.map_map, List.map_map]
    congr 1
    funext p
    simp only [Function.comp]
    by_cases h : p.1 = k
    · rw [if_pos (by rw [h]), if_pos h]
    · rw [if_neg (fun z => h (KeyE.inj _ _ z)), if_neg h]
  · unfold kvE
    rw [List.map_append]
    rfl
theorem keys_kvE (l : List (κ × β)) : (kvE l).map (fun kv => keyT kv.1) = (l.map Prod.fst).map emb := by
  unfold kvE
  rw [List.map_map, List.map_map]
  refine List.map_congr_left fun p _ => ?_
  exact KeyE.back p.1
variable {ρ ρ1 ρ2 : Env} {f g : Mx W}
/-- a dict, to be read -/
def EvT (f : Mx W) (ρ : Env) (l : List (κ × β)) (ρ1 : Env) : Prop := ∃ w, f ρ = .ok w ρ1 ∧ w.tab ρ1 = some (kvE l)
theorem t_cell (i : Nat) {l : List (κ × β)} (h : ρ[i]? = some (some (.t (kvE l))) := by rfl) : EvT (mVar i) ρ l ρ := ⟨.c i, by simp only [mVar, h], by simp only [W.tab, h]⟩
theorem t_tmp {l : List (κ × β)} (h : f ρ = .ok (.t (kvE l)) ρ1) : EvT f ρ l ρ1 := ⟨_, h, rfl⟩
theorem e_dict0 : mDict0 ρ = .ok (.t (kvE ([] : List (κ × β)))) ρ := rfl
theorem e_dict1 {k : κ} {v : β} (h1 : EvD f ρ k ρ1) (h2 : EvD g ρ1 v ρ2) : mDict1 f g ρ = .ok (.t (kvE [(k, v)])) ρ2 := by
  simp only [mDict1, bnd_ap, h1, h2, KeyE.at_, W.datum]
  rfl
theorem e_dix {k : κ} {v : β} {l : List (κ × β)} (h1 : EvT f ρ l ρ1) (h2 : EvD g ρ1 k ρ1) (h3 : dget l k = some v) : EvD (m2 gIxA f g) ρ v ρ1 := by
  obtain ⟨w, a, b⟩ := h1
  refine (m2_of a h2).trans ?_
  unfold gIxA
  simp only [b, KeyE.at_, val_kvE, h3, Option.map_some]
theorem e_din {k : κ} {l : List (κ × β)} (h1 : EvD g ρ k ρ1) (h2 : EvT f ρ1 l ρ1) : EvD (m2 gIn g f) ρ (dhas l k) ρ1 := by
  obtain ⟨w, a, b⟩ := h2
  refine (m2_of h1 a).trans ?_
  unfold gIn gInB
  simp only [b, KeyE.at_, val_kvE, Option.isSome_map, dget_has]
  rfl
theorem e_dnin {k : κ} {l : List (κ × β)} (h1 : EvD g ρ k ρ1) (h2 : EvT f ρ1 l ρ1) : EvD (m2 gNotIn g f) ρ (!dhas l k) ρ1 := by
  obtain ⟨w, a, b⟩ := h2
  refine (m2_of h1 a).trans ?_
  unfold gNotIn gInB
  simp only [b, KeyE.at_, val_kvE, Option.isSome_map, dget_has]
  rfl
theorem e_dkeys {l : List (κ × β)} (h1 : EvT f ρ l ρ1) : EvL (mArgs gListA (aCons f aNil)) ρ (l.map Prod.fst) ρ1 := by
  obtain ⟨w, a, b⟩ := h1
  refine (args_of (a_cons a a_nil)).trans ?_
  unfold gListA
  simp only [b, keys_kvE]
end
/-! ### sorted -/
class SrtE (α : Type) extends Emb α where
  srt : List α → List α
  ok : List α → Prop
  sok : ∀ xs, ok xs → xs.length ≤ 100000 → SrtOk (xs.map emb)
  eq : ∀ xs : List α, srtD (xs.map emb) = (srt xs).map emb
instance : SrtE (List Int) where
  srt := srtL
  ok xs := ∀ x ∈ xs, x ≠ []
  sok xs h hl := srtOk_tups h hl
  eq xs := srt_tups xs
section
variable {α κ β : Type} [SrtE α] {ρ ρ1 : Env} {f : Mx W}
theorem e_sortL {xs : List α} (h1 : EvR f ρ xs ρ1) (h : SrtE.ok xs) (hl : xs.length ≤ 100000) : EvL (mArgs gSorted (aCons f aNil)) ρ (SrtE.srt xs) ρ1 := by
  obtain ⟨w, a, b, c⟩ := h1
  refine (args_of (a_cons a a_nil)).trans ?_
  unfold gSorted
  simp only [c, b]
  rw [if_pos (SrtE.sok xs h hl), SrtE.eq]
theorem e_sortT [Emb β] {l : List (List Int × β)} (h1 : EvT f ρ l ρ1) (h : ∀ x ∈ l, x.1 ≠ []) (hl : l.length ≤ 100000) : EvL (mArgs gSorted (aCons f aNil)) ρ (srtL (l.map Prod.fst)) ρ1 := by
  obtain ⟨w, a, b⟩ := h1
  refine (args_of (a_cons a a_nil)).trans ?_
  have e : (kvE l).map (fun kv => keyT kv.1) = (l.map Prod.fst).map tupI := keys_kvE l
  have ok : SrtOk ((l.map Prod.fst).map tupI) := srtOk_tups (by
    intro ns hns
    obtain ⟨p, hp, rfl⟩ := List.mem_map.mp hns
    exact h p hp) (by rw [List.length_map]; exact hl)
  unfold gSorted
  simp only [b]
  rw [if_pos (by rw [e]; exact ok), e, srt_tups]
  rfl
end
/-! ### statements, by any wish φ -/
section
variable {α β : Type} [Emb α] [Emb β] {φ : Out Fl → Prop} {ρ ρ1 ρ2 : Env} {f g : Mx W} {t : Mx Bool} {p q r : Mx Fl} {fs : Mx (List W)}
theorem s_seq (h : p ρ = .ok .nx ρ1) (h2 : φ (q ρ1)) : φ (sSeq p q ρ) := by rw [sSeq_nx h]; exact h2
theorem s_if {c : Bool} (ht : t ρ = .ok c ρ1) (h1 : c = true → φ (p ρ1)) (h2 : c = false → φ (q ρ1)) : φ (sIf t p q ρ) := by
  cases c with
  | true => rw [sIf_t ht]; exact h1 rfl
  | false => rw [sIf_f ht]; exact h2 rfl
theorem s_ifs {c : Bool} (ht : t ρ = .ok c ρ1) (h1 : c = true → φ (sSeq p r ρ1)) (h2 : c = false → φ (sSeq q r ρ1)) : φ (sSeq (sIf t p q) r ρ) := by
  cases c with
  | true =>
    have : sSeq (sIf t p q) r ρ = sSeq p r ρ1 := by unfold sSeq; rw [sIf_t ht]
    rw [this]; exact h1 rfl
  | false =>
    have : sSeq (sIf t p q) r ρ = sSeq q r ρ1 := by unfold sSeq; rw [sIf_f ht]
    rw [this]; exact h2 rfl
theorem s_assoc (h : φ (sSeq p (sSeq q r) ρ)) : φ (sSeq (sSeq p q) r ρ) := by
  have : sSeq (sSeq p q) r ρ = sSeq p (sSeq q r) ρ := by
    unfold sSeq
    cases p ρ with
    | st => rfl
    | er c ρ' => rfl
    | ok fl ρ' => cases fl <;> rfl
  rw [this]; exact h
theorem s_next (h : φ (r ρ)) : φ (sSeq sNext r ρ) := h
theorem s_ret {w : W} (h : f ρ = .ok w ρ1) (h2 : φ (.ok (.rt w) ρ1)) : φ (sRet f ρ) := by rw [sRet_ap, h]; exact h2
theorem s_rets {w : W} (h : f ρ = .ok w ρ1) (h2 : φ (.ok (.rt w) ρ1)) : φ (sSeq (sRet f) r ρ) := by
  have : sSeq (sRet f) r ρ = .ok (.rt w) ρ1 := by unfold sSeq; rw [sRet_ap, h]
  rw [this]; exact h2
theorem s_retN (h2 : φ (.ok (.rt (.d .none)) ρ)) : φ (sRetN ρ) := h2
theorem s_retNs (h2 : φ (.ok (.rt (.d .none)) ρ)) : φ (sSeq sRetN r ρ) := h2
theorem s_cont (h2 : φ (.ok .ct ρ)) : φ (sCont ρ) := h2
theorem s_conts (h2 : φ (.ok .ct ρ)) : φ (sSeq sCont r ρ) := h2
theorem s_raise {c : Str} (h2 : φ (.er c ρ)) : φ (sRaise c ρ) := h2
theorem s_raises {c : Str} (h2 : φ (.er c ρ)) : φ (sSeq (sRaise c) r ρ) := h2
theorem s_one (h : p ρ = .ok .nx ρ1) (h2 : φ (.ok .nx ρ1)) : φ (p ρ) := by rw [h]; exact h2
theorem s_rtone {w : W} (h : p ρ = .ok (.rt w) ρ1) (h2 : φ (.ok (.rt w) ρ1)) : φ (p ρ) := by rw [h]; exact h2
theorem s_rtseq {w : W} (h : p ρ = .ok (.rt w) ρ1) (h2 : φ (.ok (.rt w) ρ1)) : φ (sSeq p q ρ) := by rw [sSeq_rt h]; exact h2
theorem s_er {c : Str} (h : p ρ = .er c ρ1) (h2 : φ (.er c ρ1)) : φ (p ρ) := by rw [h]; exact h2
theorem s_ers {c : Str} (h : p ρ = .er c ρ1) (h2 : φ (.er c ρ1)) : φ (sSeq p q ρ) := by rw [sSeq_er h]; exact h2
/-! simple statements -/
theorem n_set {np i : Nat} {w : W} (h : f ρ = .ok w ρ1) (hs : store np i ρ1 w = some ρ2) : sSet np i f ρ = .ok .nx ρ2 := by rw [sSet_ap, h]; simp only [hs]
theorem n_expr {w : W} (h : f ρ = .ok w ρ1) : sExpr f ρ = .ok .nx ρ1 := by rw [sExpr_ap, h]
theorem n_unp {bd : Bd} {a : α} (h : EvD f ρ a ρ1) (hb : bd (emb a) ρ1 = some ρ2) : sUnp f bd ρ = .ok .nx ρ2 := by
  simp only [sUnp, bnd_ap, h, W.datum, hb]
theorem n_unpL {bd : Bd} {xs : List α} (h : EvL f ρ xs ρ1) (hb : bd (.list (xs.map emb)) ρ1 = some ρ2) : sUnp f bd ρ = .ok .nx ρ2 := by
  simp only [sUnp, bnd_ap, h, W.datum, hb]
theorem n_unpC {bd : Bd} (i : Nat) {xs : List α} (h : ρ[i]? = some (some (.l (xs.map emb)))) (hb : bd (.list (xs.map emb)) (ρ.set i (some (.d (.list (xs.map emb))))) = some ρ2) : sUnp (mVar i) bd ρ = .ok .nx ρ2 := by
  have h1 : mVar i ρ = .ok (.c i) ρ := by simp only [mVar, h]
  simp only [sUnp, bnd_ap, h1, W.datum, h, hb]
theorem n_aug {op : Int → Int → Int} {np i : Nat} {a b : Int} (ha : ρ[i]? = some (some (.d (emb a)))) (h : EvD f ρ b ρ1) (hp : put np i (.d (emb (op a b))) ρ1 = some ρ2) : sAugG op np i f ρ = .ok .nx ρ2 := by
  have ha' : ρ[i]? = some (some (.d (.int a))) := ha
  have h' : f ρ = .ok (.d (.int b)) ρ1 := h
  have hp' : put np i (.d (.int (op a b))) ρ1 = some ρ2 := hp
  simp only [sAugG, ha', bnd_ap, h', W.asD, hp']
theorem n_augM {np i : Nat} {a b : Int} (hb : -18446744073709551616 < b ∧ b < 18446744073709551616) (ha : ρ[i]? = some (some (.d (emb a)))) (h : EvD f ρ b ρ1) (hp : put np i (.d (emb (a * b))) ρ1 = some ρ2) : sAugMult np i f ρ = .ok .nx ρ2 := by
  have ha' : ρ[i]? = some (some (.d (.int a))) := ha
  have h' : f ρ = .ok (.d (.int b)) ρ1 := h
  have hp' : put np i (.d (.int (a * b))) ρ1 = some ρ2 := hp
  simp only [sAugMult, ha', bnd_ap, h', W.asD, hp', hb, and_self, if_true]
theorem meth_of {k : Nat → List W → Env → Out W} {i : Nat} {xs : List D} {ws : List W} (hi : ρ[i]? = some (some (.l xs))) (ha : fs ρ = .ok ws ρ1) : mMeth k (mVar i) fs ρ = k i ws ρ1 := by
  have e : mVar i ρ = .ok (.c i) ρ := by simp only [mVar, hi]
  simp only [mMeth_ap, e, hi, ha]
theorem n_app (i : Nat) {xs : List α} {a : α} (hi : ρ[i]? = some (some (.l (xs.map emb)))) (h : EvD f ρ a ρ1) (hi1 : ρ1[i]? = some (some (.l (xs.map emb)))) (hl : xs.length + 1 ≤ 100000) (hs : ρ1.set i (some (.l ((xs ++ [a]).map emb))) = ρ2) : sExpr (mMeth gApp (mVar i) (aCons f aNil)) ρ = .ok .nx ρ2 := by
  refine n_expr (w := .d .none) ?_
  rw [meth_of hi (a_cons h a_nil)]
  unfold gApp
  simp only [W.datum, hi1, List.length_map]
  rw [if_pos hl, ← hs, List.map_append]
  rfl
/-- a list of one's own is frozen when it is put into another -/
theorem n_ext (i : Nat) {xs ys : List α} (hi : ρ[i]? = some (some (.l (xs.map emb)))) (h : EvO f ρ ys ρ) (hl : xs.length + ys.length ≤ 100000) (hs : ρ.set i (some (.l ((xs ++ ys).map emb))) = ρ2) : sExpr (mMeth gExt (mVar i) (aCons f aNil)) ρ = .ok .nx ρ2 := by
  obtain ⟨w, a, b, c⟩ := h
  refine n_expr (w := .d .none) ?_
  rw [meth_of hi (a_cons a a_nil)]
  unfold gExt
  simp only [b, hi, List.length_map]
  rw [if_pos hl, ← hs, List.map_append]
theorem e_pop [Inhabited α] (i : Nat) {xs : List α} (hi : ρ[i]? = some (some (.l (xs.map emb)))) (h0' : 0 < xs.length) (hs : ρ.set i (some (.l (xs.dropLast.map emb))) = ρ2) : EvD (mMeth gPop (mVar i) aNil) ρ (lastI xs) ρ2 := by
  have h0 : xs ≠ [] := List.length_pos_iff.mp h0'
  refine (meth_of hi a_nil).trans ?_
  unfold gPop
  simp only [hi, List.length_map, List.getElem?_map, lastI_get h0, Option.map_some]
  rw [← hs, List.map_dropLast]
theorem n_rev (i : Nat) {xs : List α} (hi : ρ[i]? = some (some (.l (xs.map emb)))) (hs : ρ.set i (some (.l (xs.reverse.map emb))) = ρ2) : sExpr (mMeth gRev (mVar i) aNil) ρ = .ok .nx ρ2 := by
  refine n_expr (w := .d .none) ?_
  refine (meth_of hi a_nil).trans ?_
  unfold gRev
  simp only [hi]
  rw [← hs, List.map_reverse]
theorem n_ins (i : Nat) {xs : List α} {a : α} {k : Int} (hi : ρ[i]? = some (some (.l (xs.map emb)))) (h0 : EvD g ρ k ρ) (h : EvD f ρ a ρ) (hl : xs.length + 1 ≤ 100000) (hk : 0 ≤ k ∧ k ≤ 1000000000) (hs : ρ.set i (some (.l ((xs.take k.toNat ++ [a] ++ xs.drop k.toNat).map emb))) = ρ2) : sExpr (mMeth gIns (mVar i) (aCons g (aCons f aNil))) ρ = .ok .nx ρ2 := by
  refine n_expr (w := .d .none) ?_
  refine (meth_of hi (a_cons h0 (a_cons h a_nil))).trans ?_
  show gIns i [.d (.int k), .d (emb a)] ρ = _
  unfold gIns
  simp only [W.asD, W.datum, hi, List.length_map]
  rw [if_pos ⟨hl, hk.1, hk.2⟩, ← hs, List.map_append, List.map_append, List.map_take, List.map_drop]
  rfl
theorem n_put (i : Nat) {xs : List α} {k : Int} {a : α} (ha : EvD f ρ a ρ1) (hi : ρ1[i]? = some (some (.l (xs.map emb)))) (hk : EvD g ρ1 k ρ1) (h0 : 0 ≤ k) (hl : k < xs.length) (hs : ρ1.set i (some (.l ((xs.set k.toNat a).map emb))) = ρ2) : sPut (mVar i) g f ρ = .ok .nx ρ2 := by
  have hk' : g ρ1 = .ok (.d (.int k)) ρ1 := hk
  have e : mVar i ρ1 = .ok (.c i) ρ1 := by simp only [mVar, hi]
  rw [sPut_ap]
  simp only [ha, e, hk']
  unfold gPut
  obtain ⟨m, rfl⟩ := Int.eq_ofNat_of_zero_le h0
  have hm : m < xs.length := by omega
  simp only [W.key, W.asD, W.datum, hi]
  have : L2.ixN (xs.map emb).length (m : Int) = some m := by
    unfold L2.ixN
    rw [if_pos (by omega), if_pos (by rw [List.length_map]; omega)]
    rfl
  simp only [this]
  rw [← hs, List.map_set]
  rfl
theorem n_augI {op : Int → Int → Int} {y : Int} (i : Nat) {xs : List Int} {k : Int} (hi : ρ[i]? = some (some (.l (xs.map emb)))) (hk : EvD g ρ k ρ) (h0 : 0 ≤ k) (hl : k < xs.length) (hs : ρ.set i (some (.l ((xs.set k.toNat (op (ix xs k) y)).map emb))) = ρ2) : sAugI op y (mVar i) g ρ = .ok .nx ρ2 := by
  have hk' : g ρ = .ok (.d (.int k)) ρ := hk
  have e : mVar i ρ = .ok (.c i) ρ := by simp only [mVar, hi]
  have hx : (xs.map (emb : Int → D))[k.toNat]? = some (.int (ix xs k)) := by rw [List.getElem?_map, ix_get h0 hl]; rfl
  simp only [sAugI, bnd_ap, e, hk', gAugI, W.asD, hi, hx]
  rw [if_pos h0, ← hs, List.map_set]
  rfl
theorem n_dput {κ : Type} [KeyE κ] [DecidableEq κ] (i : Nat) {l : List (κ × α)} {k : κ} {a : α} (ha : EvD f ρ a ρ1) (hi : ρ1[i]? = some (some (.t (kvE l)))) (hk : EvD g ρ1 k ρ1) (hl : l.length + 1 ≤ 100000) (hs : ρ1.set i (some (.t (kvE (dput l k a)))) = ρ2) : sPut (mVar i) g f ρ = .ok .nx ρ2 := by
  have e : mVar i ρ1 = .ok (.c i) ρ1 := by simp only [mVar, hi]
  rw [sPut_ap]
  simp only [ha, e, hk]
  unfold gPut
  have hl' : (kvE l).length + 1 ≤ 100000 := by unfold kvE; rw [List.length_map]; exact hl
  simp only [KeyE.at_, W.datum, hi]
  rw [if_pos hl', put_kvE, hs]
end
/-! ### a def -/
def FnEnd (np : Nat) (bs : List B) : Out Fl → FO
  | .ok .nx ρ => .ok (.d .none) (backB bs ρ)
  | .ok (.rt w) ρ => match retW np ρ w with
    | some (b, ρ') => .ok b (backB bs ρ')
    | none => .st
  | .er c ρ => .er c (backB bs ρ)
  | _ => .st
theorem fn_of {np n : Nat} {body : Mx Fl} {bs : List B} {o : FO} (ρ : Env) (hl : bs.length = np) (hρ : bs.map some ++ List.replicate (n - np) none = ρ) (h : ∀ φ : Out Fl → Prop, φ = (fun r => FnEnd np bs r = o) → φ (body ρ)) : mkFn np n body bs = o := by
  have := h _ rfl
  unfold mkFn
  rw [if_pos hl, hρ]
  revert this
  show FnEnd np bs (body ρ) = o → _
  intro this
  rw [← this]
  unfold FnEnd
  cases body ρ with
  | st => rfl
  | er c ρ' => rfl
  | ok fl ρ' => cases fl <;> rfl
theorem cp {α : Type} {c : Bool} {a b : α} (h : c = true) : cond c a b = a := by rw [h]; rfl
theorem cn {α : Type} {c : Bool} {a b : α} (h : c = false) : cond c a b = b := by rw [h]; rfl
/-! ### for -/
/-- a loop, with an early end -/
def forE {α σ R : Type} (f : σ → α → Sum R σ) : List α → σ → Sum R σ
  | [], s => .inr s
  | x :: xs, s => match f s x with
    | .inl r => .inl r
    | .inr s' => forE f xs s'
section
variable {α : Type} [Emb α] {ρ ρ1 ρ2 : Env} {bd : Bd} {body : Mx Fl} {it : Mx Walk}
theorem loop_nxE {σ τ : Type} (E : σ → τ → Env) (step : σ → α → σ) (Inv : σ → List α → Prop) : ∀ (xs : List α) (s : σ) (t : τ), Inv s xs →
    (∀ s t x ys, x ∈ xs → Inv s (x :: ys) → ∃ ρ1, bd (emb x) (E s t) = some ρ1 ∧ Inv (step s x) ys ∧ ∃ t', body ρ1 = .ok .nx (E (step s x) t') ∨ body ρ1 = .ok .ct (E (step s x) t')) →
    ∃ t', loop bd body (xs.map emb) (E s t) = .ok .nx (E (xs.foldl step s) t') ∧ Inv (xs.foldl step s) []
  | [], s, t, h, _ => ⟨t, rfl, h⟩
  | x :: xs, s, t, h, hs => by
    obtain ⟨ρ1, e1, h2, t', e2⟩ := hs s t x xs List.mem_cons_self h
    obtain ⟨t2, e3, h3⟩ := loop_nxE E step Inv xs (step s x) t' h2 fun s t y ys hy => hs s t y ys (List.mem_cons_of_mem _ hy)
    refine ⟨t2, ?_, h3⟩
    rw [List.map_cons]
    unfold loop
    rw [e1]
    rcases e2 with e2 | e2 <;> (simp only [e2]; exact e3)
theorem for_nx {σ τ : Type} (E : σ → τ → Env) (step : σ → α → σ) (Inv : σ → List α → Prop) {xs : List α} {s : σ} {t : τ} (hi : it ρ = .ok (xs.map emb, none) (E s t)) (h0 : Inv s xs)
    (h : ∀ s t x ys, x ∈ xs → Inv s (x :: ys) → ∃ ρ1, bd (emb x) (E s t) = some ρ1 ∧ Inv (step s x) ys ∧ ∃ t', body ρ1 = .ok .nx (E (step s x) t') ∨ body ρ1 = .ok .ct (E (step s x) t')) :
    ∃ t', sFor it bd body ρ = .ok .nx (E (xs.foldl step s) t') ∧ Inv (xs.foldl step s) [] := by
  obtain ⟨t', e, h'⟩ := loop_nxE E step Inv xs s t h0 h
  exact ⟨t', by rw [sFor_of hi]; exact e, h'⟩
theorem for_nxC {σ τ : Type} (E : σ → τ → Env) (step : σ → α → σ) (Inv : σ → List α → Prop) {xs : List α} {s : σ} {t : τ} {j : Nat} (hi : it ρ = .ok (xs.map emb, some j) ρ1) (hE : ρ1.set j none = E s t) (hj : ∀ s t, (E s t)[j]? = some none) (h0 : Inv s xs)
    (h : ∀ s t x ys, x ∈ xs → Inv s (x :: ys) → ∃ ρ1, bd (emb x) (E s t) = some ρ1 ∧ Inv (step s x) ys ∧ ∃ t', body ρ1 = .ok .nx (E (step s x) t') ∨ body ρ1 = .ok .ct (E (step s x) t')) :
    ∃ t', sFor it bd body ρ = .ok .nx ((E (xs.foldl step s) t').set j (some (.l (xs.map emb)))) ∧ Inv (xs.foldl step s) [] := by
  obtain ⟨t', e, h'⟩ := loop_nxE E step Inv xs s t h0 h
  exact ⟨t', sFor_cell hi (by rw [hE]; exact e) (hj _ _), h'⟩
/-- .. that may end early: r comes, from a state of the same shape -/
def rtP {R σ : Type} (q : Sum R σ) (A : R → Prop) (C : σ → Prop) : Prop := match q with
  | .inl r => A r
  | .inr s => C s
theorem rt_l {R σ : Type} {q : Sum R σ} {A : R → Prop} {C : σ → Prop} {r : R} (e : q = .inl r) (h : A r) : rtP q A C := by rw [e]; exact h
theorem rt_r {R σ : Type} {q : Sum R σ} {A : R → Prop} {C : σ → Prop} {s : σ} (e : q = .inr s) (h : C s) : rtP q A C := by rw [e]; exact h
theorem rt_li {R σ : Type} {q : Sum R σ} {A : R → Prop} {C : σ → Prop} {r : R} (h : rtP q A C) (e : q = .inl r) : A r := by rw [e] at h; exact h
theorem rt_ri {R σ : Type} {q : Sum R σ} {A : R → Prop} {C : σ → Prop} {s : σ} (h : rtP q A C) (e : q = .inr s) : C s := by rw [e] at h; exact h
abbrev LoopE {α σ τ R : Type} [Emb α] (bd : Bd) (body : Mx Fl) (E : σ → τ → Env) (wr : R → W) (step : σ → α → Sum R σ) (Inv : σ → List α → Prop) (xs : List α) : Prop :=
  ∀ s t x ys, x ∈ xs → Inv s (x :: ys) → ∃ ρ1, bd (emb x) (E s t) = some ρ1 ∧ rtP (step s x) (fun r => ∃ s' t', body ρ1 = .ok (.rt (wr r)) (E s' t')) (fun s' => Inv s' ys ∧ ∃ t', body ρ1 = .ok .nx (E s' t') ∨ body ρ1 = .ok .ct (E s' t'))
theorem loop_rtE {σ τ R : Type} (E : σ → τ → Env) (wr : R → W) (step : σ → α → Sum R σ) (Inv : σ → List α → Prop) : ∀ (xs : List α) (s : σ) (t : τ), Inv s xs → LoopE bd body E wr step Inv xs →
    rtP (forE step xs s) (fun r => ∃ s' t', loop bd body (xs.map emb) (E s t) = .ok (.rt (wr r)) (E s' t')) (fun s' => Inv s' [] ∧ ∃ t', loop bd body (xs.map emb) (E s t) = .ok .nx (E s' t'))
  | [], s, t, h, _ => ⟨h, t, rfl⟩
  | x :: xs, s, t, h, hs => by
    obtain ⟨ρ1, e1, h2⟩ := hs s t x xs List.mem_cons_self h
    cases e : step s x with
    | inl r =>
      obtain ⟨s', t', e2⟩ := rt_li h2 e
      refine rt_l (r := r) (by unfold forE; rw [e]) ⟨s', t', ?_⟩
      rw [List.map_cons]
      unfold loop
      rw [e1]
      simp only [e2]
    | inr s' =>
      obtain ⟨h3, t', e2⟩ := rt_ri h2 e
      have ih := loop_rtE E wr step Inv xs s' t' h3 fun s t y ys hy => hs s t y ys (List.mem_cons_of_mem _ hy)
      have el : loop bd body ((x :: xs).map emb) (E s t) = loop bd body (xs.map emb) (E s' t') := by
        rw [List.map_cons]
        conv => lhs; unfold loop
        rw [e1]
        rcases e2 with e2 | e2 <;> simp only [e2]
      have ef : forE step (x :: xs) s = forE step xs s' := by
        conv => lhs; unfold forE
        rw [e]
      rw [el, ef]
      exact ih
theorem for_rt {σ τ R : Type} (E : σ → τ → Env) (wr : R → W) (step : σ → α → Sum R σ) (Inv : σ → List α → Prop) {xs : List α} {s : σ} {t : τ} (hi : it ρ = .ok (xs.map emb, none) (E s t)) (h0 : Inv s xs) (h : LoopE bd body E wr step Inv xs) :
    rtP (forE step xs s) (fun r => ∃ s' t', sFor it bd body ρ = .ok (.rt (wr r)) (E s' t')) (fun s' => Inv s' [] ∧ ∃ t', sFor it bd body ρ = .ok .nx (E s' t')) := by
  rw [sFor_of hi]
  exact loop_rtE E wr step Inv xs s t h0 h
theorem for_rtC {σ τ R : Type} (E : σ → τ → Env) (wr : R → W) (step : σ → α → Sum R σ) (Inv : σ → List α → Prop) {xs : List α} {s : σ} {t : τ} {j : Nat} (hi : it ρ = .ok (xs.map emb, some j) ρ1) (hE : ρ1.set j none = E s t) (hj : ∀ s t, (E s t)[j]? = some none) (h0 : Inv s xs) (h : LoopE bd body E wr step Inv xs) :
    rtP (forE step xs s) (fun r => ∃ s' t', sFor it bd body ρ = .ok (.rt (wr r)) ((E s' t').set j (some (.l (xs.map emb))))) (fun s' => Inv s' [] ∧ ∃ t', sFor it bd body ρ = .ok .nx ((E s' t').set j (some (.l (xs.map emb))))) := by
  have e := loop_rtE E wr step Inv xs s t h0 h
  cases q : forE step xs s with
  | inl r =>
    obtain ⟨s', t', e⟩ := rt_li e q
    refine ⟨s', t', ?_⟩
    unfold sFor
    simp only [bnd_ap, hi, outR, hE, e]
    unfold TD.fin backR
    simp only [hj]
  | inr s' =>
    obtain ⟨h', t', e⟩ := rt_ri e q
    exact ⟨h', t', sFor_cell hi (by rw [hE]; exact e) (hj _ _)⟩
end
/-! ### while -/
def whl {σ : Type} (c : σ → Bool) (step : σ → σ) : Nat → σ → σ
  | 0, s => s
  | n + 1, s => if c s then whl c step n (step s) else s
theorem while_of {σ τ : Type} {t : Mx Bool} {p : Mx Fl} (E : σ → τ → Env) (c : σ → Bool) (step : σ → σ) (Inv : σ → Prop)
    (ht : ∀ s u, Inv s → t (E s u) = .ok (c s) (E s u)) (hb : ∀ s u, Inv s → c s = true → Inv (step s) ∧ ∃ u', p (E s u) = .ok .nx (E (step s) u') ∨ p (E s u) = .ok .ct (E (step s) u')) :
    ∀ (n : Nat) (s : σ) (u : τ), Inv s → c (whl c step n s) = false → Inv (whl c step n s) ∧ ∃ u', sWhile t p (E s u) = .ok .nx (E (whl c step n s) u') := by
  have key : ∀ (n : Nat) (s : σ) (u : τ), Inv s → c (whl c step n s) = false → Inv (whl c step n s) ∧ ∃ u', whileN t p (n + 1) (E s u) = .ok .nx (E (whl c step n s) u') := by
    intro n
    induction n with
    | zero =>
      intro s u h hc
      refine ⟨h, u, ?_⟩
      unfold whl at hc
      unfold whileN
      rw [ht s u h, hc]
      rfl
    | succ n ih =>
      intro s u h hc
      cases e : c s with
      | false =>
        have e2 : whl c step (n + 1) s = s := by unfold whl; rw [e]; rfl
        rw [e2]
        refine ⟨h, u, ?_⟩
        unfold whileN
        rw [ht s u h, e]
      | true =>
        have e2 : whl c step (n + 1) s = whl c step n (step s) := by conv => lhs; unfold whl
                                                                     rw [e]; rfl
        rw [e2] at hc ⊢
        obtain ⟨h1, u1, eb⟩ := hb s u h e
        obtain ⟨h2, u2, e3⟩ := ih (step s) u1 h1 hc
        refine ⟨h2, u2, ?_⟩
        unfold whileN
        rw [ht s u h, e]
        rcases eb with eb | eb <;> (simp only [eb]; exact e3)
  intro n s u h hc
  obtain ⟨h1, u1, e⟩ := key n s u h hc
  exact ⟨h1, u1, sWhile_of e (by intro z; cases z)⟩
end TD
namespace TD
open PySem PySem.Spec
open Emb (emb)
abbrev sd {α : Type} [Emb α] (a : α) : Option B := some (.d (emb a))
abbrev sl {α : Type} [Emb α] (a : List α) : Option B := some (.l (a.map emb))
abbrev sk {κ β : Type} [KeyE κ] [Emb β] (a : List (κ × β)) : Option B := some (.t (kvE a))
section
variable {α γ κ β : Type} [Emb α] [Emb γ] [KeyE κ] [Emb β] {ρ ρ1 ρ2 : Env} {F : List B → FO} {ws : List W} {bs bs' : List B} {fs : Mx (List W)}
theorem e_callD {a : γ} (ha : fs ρ = .ok ws ρ1) (hf : F (ws.map resB) = .ok (.d (emb a)) bs') (hn : ws.all noC = true := by rfl) : EvD (mCall F fs) ρ a ρ1 := e_callN ha hf hn
theorem e_callL {a : List γ} (ha : fs ρ = .ok ws ρ1) (hf : F (ws.map resB) = .ok (.l (a.map emb)) bs') (hn : ws.all noC = true := by rfl) : EvL (mCall F fs) ρ a ρ1 := e_callN ha hf hn
theorem e_callT {a : List (κ × β)} (ha : fs ρ = .ok ws ρ1) (hf : F (ws.map resB) = .ok (.t (kvE a)) bs') (hn : ws.all noC = true := by rfl) : mCall F fs ρ = .ok (.t (kvE a)) ρ1 := e_callN ha hf hn
theorem e_callCD {a : γ} (ha : fs ρ = .ok ws ρ1) (hr : ress ws ρ1 = some bs) (hn : (slotsOf ws).Nodup) (hf : F bs = .ok (.d (emb a)) bs') (hw : wb ws bs' ρ1 = ρ2) : EvD (mCall F fs) ρ a ρ2 := by
  subst hw
  exact e_call ha hr hn hf
theorem e_callCL {a : List γ} (ha : fs ρ = .ok ws ρ1) (hr : ress ws ρ1 = some bs) (hn : (slotsOf ws).Nodup) (hf : F bs = .ok (.l (a.map emb)) bs') (hw : wb ws bs' ρ1 = ρ2) : EvL (mCall F fs) ρ a ρ2 := by
  subst hw
  exact e_call ha hr hn hf
theorem ress_own {ρ1 : Env} : ∀ {ws : List W} {bs : List B} {j k : Nat}, ress ws ρ1 = some bs → ws[j]? = some (.c k) → ∃ b, bs[j]? = some b ∧ ρ1[k]? = some (some b)
  | [], _, j, k, _, h => by simp at h
  | w :: ws, bs, j, k, hr, h => by
    unfold ress at hr
    cases e1 : w.res ρ1 with
    | none => rw [e1] at hr; cases hr
    | some b =>
      rw [e1] at hr
      cases e2 : ress ws ρ1 with
      | none => rw [e2] at hr; cases hr
      | some cs =>
        rw [e2] at hr
        cases hr
        cases j with
        | zero =>
          have h : w = .c k := by simpa using h
          subst h
          refine ⟨b, rfl, ?_⟩
          unfold W.res at e1
          simp only at e1
          split at e1
          · cases e1
          · cases e1; assumption
          · cases e1
        | succ j =>
          obtain ⟨b2, k1, k2⟩ := ress_own (ws := ws) (j := j) e2 (by simpa using h)
          exact ⟨b2, by simpa using k1, k2⟩
/-- what was lent comes back as it was -/
theorem wb_own {ws : List W} {bs : List B} {ρ1 : Env} (hr : ress ws ρ1 = some bs) : wb ws bs ρ1 = ρ1 := by
  unfold wb
  refine List.ext_getElem (by simp) fun k h1 h2 => ?_
  rw [List.getElem_mapIdx]
  cases e : ρ1[k] with
  | none => rfl
  | some b =>
    unfold wbk
    simp only
    split
    · split
      · rename_i b' e3
        obtain ⟨j, j1, j2⟩ := lookC_some e3
        obtain ⟨b2, k1, k2⟩ := ress_own hr j1
        rw [j2] at k1
        cases k1
        rw [List.getElem?_eq_getElem h2, e] at k2
        cases k2
        rfl
      · rfl
    · rfl
theorem e_callSD {a : γ} (ha : fs ρ = .ok ws ρ1) (hr : ress ws ρ1 = some bs) (hn : (slotsOf ws).Nodup) (hf : F bs = .ok (.d (emb a)) bs) : EvD (mCall F fs) ρ a ρ1 := e_callCD ha hr hn hf (wb_own hr)
theorem e_callSL {a : List γ} (ha : fs ρ = .ok ws ρ1) (hr : ress ws ρ1 = some bs) (hn : (slotsOf ws).Nodup) (hf : F bs = .ok (.l (a.map emb)) bs) : EvL (mCall F fs) ρ a ρ1 := e_callCL ha hr hn hf (wb_own hr)
theorem v_cell (i : Nat) {xs : List α} (h : ρ[i]? = some (some (.l (xs.map emb))) := by rfl) : mVar i ρ = .ok (.c i) ρ := by simp only [mVar, h]
theorem v_scr (i : Nat) {xs : List Int} (h : ρ[i]? = some (some (.s (xs.map PyData.int))) := by rfl) : mVar i ρ = .ok (.c i) ρ := by simp only [mVar, h]
theorem v_cellT (i : Nat) {xs : List (κ × β)} (h : ρ[i]? = some (some (.t (kvE xs))) := by rfl) : mVar i ρ = .ok (.c i) ρ := by simp only [mVar, h]
end
section
variable {ρ ρ1 ρ2 : Env} {t : Mx Bool} {p q : Mx Fl}
theorem n_seq (h : p ρ = .ok .nx ρ1) (h2 : q ρ1 = .ok .nx ρ2) : sSeq p q ρ = .ok .nx ρ2 := by rw [sSeq_nx h]; exact h2
theorem n_next : sNext ρ = .ok .nx ρ := rfl
theorem n_if {c : Bool} (ht : t ρ = .ok c ρ1) (h1 : c = true → p ρ1 = .ok .nx ρ2) (h2 : c = false → q ρ1 = .ok .nx ρ2) : sIf t p q ρ = .ok .nx ρ2 := by
  cases c with
  | true => rw [sIf_t ht]; exact h1 rfl
  | false => rw [sIf_f ht]; exact h2 rfl
theorem body_of {P : Out Fl → Prop} (h : ∀ φ : Out Fl → Prop, φ = P → φ (p ρ)) : P (p ρ) := h P rfl
end
def sumE {R σ τ : Type} (q : Sum R σ) (f : R → τ) (g : σ → τ) : τ := match q with
  | .inl r => f r
  | .inr s => g s
theorem sul {R σ τ : Type} {q : Sum R σ} {f : R → τ} {g : σ → τ} {r : R} (h : q = .inl r) : sumE q f g = f r := by rw [h]; rfl
theorem sur {R σ τ : Type} {q : Sum R σ} {f : R → τ} {g : σ → τ} {r : σ} (h : q = .inr r) : sumE q f g = g r := by rw [h]; rfl
end TD
namespace TD
open PySem PySem.Spec
open Emb (emb)
section
variable {α γ κ β : Type} [Emb α] [Emb γ] [KeyE κ] [Emb β] {ρ ρ1 ρ2 : Env} {f g : Mx W} {fs : Mx (List W)}
def EvY (f : Mx W) (ρ : Env) (tn : String) (ρ1 : Env) : Prop := ∃ w, f ρ = .ok w ρ1 ∧ w.ty ρ1 = some tn
theorem ty_d {x : α} {tn : String} (h : EvD f ρ x ρ1) (ht : tyD (emb x) = tn) : EvY f ρ tn ρ1 := ⟨_, h, by rw [← ht]; rfl⟩
theorem ty_l {x : List α} (h : EvL f ρ x ρ1) : EvY f ρ "list" ρ1 := ⟨_, h, rfl⟩
theorem ty_k {x : List (κ × β)} (h : f ρ = .ok (.t (kvE x)) ρ1) : EvY f ρ "dict" ρ1 := ⟨_, h, rfl⟩
theorem ty_cl (i : Nat) {xs : List α} (h : ρ[i]? = some (some (.l (xs.map emb))) := by rfl) : EvY (mVar i) ρ "list" ρ := ⟨.c i, by simp only [mVar, h], by simp only [W.ty, h]⟩
theorem e_isi {T tn : String} {b : Bool} (h : EvY f ρ tn ρ1) (hk : L2.kitB tn T = some b) : EvD (m1 (gIsi T) f) ρ b ρ1 := by
  obtain ⟨w, a, c⟩ := h
  refine (m1_of a).trans ?_
  unfold gIsi
  simp only [c, hk]
  rfl
theorem e_isB {a b : Bool} (h1 : EvD f ρ a ρ1) (h2 : EvD g ρ1 b ρ2) : EvD (m2 gIs f g) ρ (decide (a = b)) ρ2 := (m2_of h1 h2).trans rfl
theorem e_isnB {a b : Bool} (h1 : EvD f ρ a ρ1) (h2 : EvD g ρ1 b ρ2) : EvD (m2 gIsNot f g) ρ (!decide (a = b)) ρ2 := (m2_of h1 h2).trans rfl
def dgetI {κ β : Type} [DecidableEq κ] [Inhabited β] (l : List (κ × β)) (k : κ) : β := (dget l k).getD default
end
end TD
namespace TD
open PySem PySem.Spec
open Emb (emb)
section
variable {κ β : Type} [DecidableEq κ]
theorem dput_len (l : List (κ × β)) (k : κ) (v : β) : (dput l k v).length ≤ l.length + 1 := by
  unfold dput
  split <;> simp
theorem dput_keys {P : κ → Prop} {l : List (κ × β)} {k : κ} {v : β} (h : ∀ z ∈ l, P z.1) (hk : P k) : ∀ z ∈ dput l k v, P z.1 := by
  intro z hz
  unfold dput at hz
  split at hz
  · obtain ⟨p, hp, rfl⟩ := List.mem_map.mp hz
    split
    · rename_i e
      exact e ▸ h p hp
    · exact h p hp
  · rcases List.mem_append.mp hz with hz | hz
    · exact h z hz
    · rw [List.mem_singleton.mp hz]
      exact hk
theorem srt_len (xs : List (List Int)) : (SrtE.srt xs).length = xs.length := List.length_mergeSort xs
theorem srt_mem {xs : List (List Int)} {x : List Int} : x ∈ SrtE.srt xs ↔ x ∈ xs := (List.mergeSort_perm xs leL).mem_iff
end
end TD
namespace TD
open PySem PySem.Spec
open Emb (emb)
/-! equality that asks nothing -/
class QT (α : Type) [DecidableEq α] [EmbQ α] : Prop where
  all : ∀ a : α, EmbQ.q a
instance : QT Int := ⟨fun _ => trivial⟩
instance : QT Bool := ⟨fun _ => trivial⟩
instance {α : Type} [DecidableEq α] [EmbQ α] [QT α] : QT (List α) := ⟨fun _ _ _ => QT.all _⟩
instance {α : Type} [DecidableEq α] [EmbQ α] [QT α] : QT (PyL α) := ⟨fun _ _ _ => QT.all _⟩
instance {α β : Type} [DecidableEq α] [DecidableEq β] [EmbQ α] [EmbQ β] [QT α] [QT β] : QT (α × β) := ⟨fun _ => ⟨QT.all _, QT.all _⟩⟩
end TD
namespace TD
theorem lc {α : Type} {a b : α} {xs ys : List α} (h : a = b) (t : xs = ys) : a :: xs = b :: ys := by rw [h, t]
end TD
namespace TD
open PySem PySem.Spec
open Emb (emb)
/-! ### plain lists -/
theorem foldl_app {α β : Type} (f : α → β) : ∀ (xs : List α) (s : List β), xs.foldl (fun s x => s ++ [f x]) s = s ++ xs.map f
  | [], s => by simp
  | x :: xs, s => by rw [List.foldl_cons, foldl_app f xs, List.map_cons, List.append_assoc]; rfl
theorem foldl_inv {α σ : Type} {f : σ → α → σ} (P : σ → Prop) : ∀ {xs : List α} {s : σ}, P s → (∀ s x, x ∈ xs → P s → P (f s x)) → P (xs.foldl f s)
  | [], _, h, _ => h
  | x :: xs, s, h, hs => by
    rw [List.foldl_cons]
    exact foldl_inv P (hs s x List.mem_cons_self h) fun s y hy => hs s y (List.mem_cons_of_mem _ hy)
theorem cond_len {α : Type} {c : Bool} {a b : List α} {n : Nat} (h1 : a.length ≤ n) (h2 : b.length ≤ n) : (cond c a b).length ≤ n := by cases c <;> assumption
theorem cond_P {α : Type} {P : α → Prop} {c : Bool} {a b : α} (h1 : P a) (h2 : P b) : P (cond c a b) := by cases c <;> assumption
theorem whl_inv {σ : Type} {c : σ → Bool} {step : σ → σ} (P : σ → Prop) (h : ∀ s, c s = true → P s → P (step s)) : ∀ (n : Nat) {s : σ}, P s → P (whl c step n s)
  | 0, _, hs => hs
  | n + 1, s, hs => by
    unfold whl
    split
    · rename_i hc
      exact whl_inv P h n (h s hc hs)
    · exact hs
theorem whl_end {σ : Type} {c : σ → Bool} {step : σ → σ} (m : σ → Nat) (P : σ → Prop) (hP : ∀ s, c s = true → P s → P (step s)) (h : ∀ s, P s → c s = true → m (step s) + 1 ≤ m s) : ∀ (n : Nat) {s : σ}, P s → m s ≤ n → c (whl c step n s) = false
  | 0, s, hp, hs => by
    unfold whl
    cases e : c s with
    | false => rfl
    | true =>
      have := h s hp e
      omega
  | n + 1, s, hp, hs => by
    unfold whl
    split
    · rename_i hc
      have := h s hp hc
      exact whl_end m P hP h n (hP s hc hp) (by omega)
    · rename_i hc
      cases e : c s with
      | false => rfl
      | true => exact absurd e hc
/-! ### tallies, fans, sets -/
def WT (n : Nat) (B : Int) (xs : List Int) : Prop := xs.length = n ∧ ∀ x ∈ xs, 0 ≤ x ∧ x ≤ B
abbrev Fan := List Int × List (List Int)
def WF (n : Nat) (B : Int) (f : Fan) : Prop := WT n B f.1 ∧ f.2.length ≤ 40 ∧ ∀ s ∈ f.2, WT n B s
def WS (n : Nat) (B : Int) (S : List Fan) : Prop := S.length ≤ 1000 ∧ ∀ f ∈ S, WF n B f
theorem WT.ne {n : Nat} {B : Int} {xs : List Int} (h : WT n B xs) (hn : 1 ≤ n) : xs ≠ [] := by
  intro z
  have := h.1
  rw [z] at this
  simp at this
  omega
theorem WT.mono {n : Nat} {B C : Int} {xs : List Int} (h : WT n B xs) (hb : B ≤ C) : WT n C xs := ⟨h.1, fun x hx => by have := h.2 x hx; omega⟩
theorem srtL_lt {xs : List (List Int)} (h : xs.Nodup) : (srtL xs).Pairwise (· < ·) := by
  have h1 : (srtL xs).Pairwise (fun a b => leL a b = true) := List.pairwise_mergeSort (fun a b c h1 h2 => by
    unfold leL at h1 h2 ⊢
    simp only [Bool.not_eq_true', decide_eq_false_iff_not, List.not_lt] at h1 h2 ⊢
    exact List.le_trans h1 h2) (fun a b => by
    unfold leL
    simp only [Bool.or_eq_true, Bool.not_eq_true', decide_eq_false_iff_not, List.not_lt]
    exact List.le_total a b) _
  have h2 : (srtL xs).Nodup := (List.mergeSort_perm _ _).nodup_iff.mpr h
  refine (h1.and h2).imp fun {a b} h => ?_
  have h3 := h.1
  unfold leL at h3
  simp only [Bool.not_eq_true', decide_eq_false_iff_not] at h3
  rcases lt_tri a b with z | z | z
  · exact z
  · exact absurd z h.2
  · exact absurd z h3
theorem srtL_mem {xs : List (List Int)} {x : List Int} : x ∈ srtL xs ↔ x ∈ xs := (List.mergeSort_perm xs leL).mem_iff
theorem srtL_srtU {xs ys : List (List Int)} (h : xs.Nodup) (hm : ∀ x, x ∈ xs ↔ x ∈ ys) : srtL xs = srtU ys :=
  rise_eq (srtL_lt h) (srtU_lt ys) fun x => by rw [srtL_mem, srtU_mem, hm]
section
variable {κ β : Type} [DecidableEq κ]
theorem dhas_mem {l : List (κ × β)} {k : κ} : dhas l k = true ↔ k ∈ l.map Prod.fst := by
  unfold dhas
  rw [List.any_eq_true, List.mem_map]
  exact ⟨fun ⟨p, h, e⟩ => ⟨p, h, of_decide_eq_true e⟩, fun ⟨p, h, e⟩ => ⟨p, h, decide_eq_true e⟩⟩
theorem dput_fst {l : List (κ × β)} {k : κ} {v : β} : (dput l k v).map Prod.fst = if k ∈ l.map Prod.fst then l.map Prod.fst else l.map Prod.fst ++ [k] := by
  unfold dput
  by_cases h : dhas l k = true
  · rw [if_pos h, if_pos (dhas_mem.mp h), List.map_map]
    refine List.map_congr_left fun p _ => ?_
    simp only [Function.comp]
    split <;> rfl
  · rw [if_neg h, if_neg fun z => h (dhas_mem.mpr z), List.map_append]
    rfl
theorem dput_nodup {l : List (κ × β)} {k : κ} {v : β} (h : (l.map Prod.fst).Nodup) : ((dput l k v).map Prod.fst).Nodup := by
  rw [dput_fst]
  split
  · exact h
  · rename_i hk
    rw [List.nodup_append]
    exact ⟨h, List.nodup_cons.mpr ⟨List.not_mem_nil, List.nodup_nil⟩, fun a ha b hb z => hk (by rw [List.mem_singleton.mp hb] at z; exact z ▸ ha)⟩
theorem dput_mem {l : List (κ × β)} {k j : κ} {v : β} : j ∈ (dput l k v).map Prod.fst ↔ j = k ∨ j ∈ l.map Prod.fst := by
  rw [dput_fst]
  split
  · rename_i h
    exact ⟨.inr, fun z => z.elim (fun e => e ▸ h) id⟩
  · rw [List.mem_append, List.mem_singleton]
    exact or_comm
end
theorem maxL_gt {xs : List Int} (h : xs ≠ []) : maxL xs > 0 ↔ ∃ x ∈ xs, 0 < x := by
  obtain ⟨h1, h2⟩ := maxL_spec h
  exact ⟨fun z => ⟨_, h1, z⟩, fun ⟨x, hx, z⟩ => by have := h2 x hx; omega⟩
theorem U_of {n : Nat} {B : Int} {xs : List (List Int)} (h1 : xs.length < 64) (hn : 1 ≤ n) (h : ∀ s ∈ xs, WT n B s) : U xs := ⟨h1, n, hn, fun s hs => ⟨(h s hs).1, fun x hx => ((h s hs).2 x hx).1⟩⟩
theorem mod_bd {a b : Int} (h : 0 < b) : 0 ≤ a % b ∧ a % b < b := ⟨Int.emod_nonneg _ (by omega), Int.emod_lt_of_pos _ h⟩
theorem sIx_nat {n d : Nat} {p : Int} (h : 0 ≤ p) : HT.sIx n d (some p) = min p.toNat n := by
  unfold HT.sIx
  simp only
  split <;> omega
theorem cutTo {α : Type} {xs : List α} {p : Int} (h : 0 ≤ p) : cutD xs none (some p) = xs.take p.toNat := by
  unfold cutD
  rw [sIx_nat h]
  simp only [HT.sIx, List.drop_zero, Nat.sub_zero]
  by_cases z : p.toNat ≤ xs.length
  · rw [Nat.min_eq_left z]
  · rw [Nat.min_eq_right (by omega), List.take_of_length_le (Nat.le_refl _), List.take_of_length_le (by omega)]
theorem cutFrom {α : Type} {xs : List α} {p : Int} (h : 0 ≤ p) : cutD xs (some p) none = xs.drop p.toNat := by
  unfold cutD
  rw [sIx_nat h]
  simp only [HT.sIx]
  by_cases z : p.toNat ≤ xs.length
  · rw [Nat.min_eq_left z, List.take_of_length_le (by rw [List.length_drop]; exact Nat.le_refl _)]
  · rw [Nat.min_eq_right (by omega), List.drop_of_length_le (Nat.le_refl _), List.drop_of_length_le (by omega), List.take_nil]
theorem forE_all {α σ R : Type} {f : σ → α → Sum R σ} (P : σ → Prop) : ∀ {xs : List α} {s : σ}, P s → (∀ s x, x ∈ xs → P s → ∃ s', f s x = .inr s' ∧ P s') → ∃ s', forE f xs s = .inr s' ∧ P s'
  | [], s, h, _ => ⟨s, rfl, h⟩
  | x :: xs, s, h, hs => by
    obtain ⟨s1, e, h1⟩ := hs s x List.mem_cons_self h
    obtain ⟨s2, e2, h2⟩ := forE_all P h1 fun s y hy => hs s y (List.mem_cons_of_mem _ hy)
    refine ⟨s2, ?_, h2⟩
    unfold forE
    rw [e]
    exact e2
theorem sumE_inr {R σ τ : Type} {q : Sum R σ} {f : R → τ} {g : σ → τ} (P : τ → Prop) (h : ∃ s, q = .inr s ∧ P (g s)) : P (sumE q f g) := by
  obtain ⟨s, e, h⟩ := h
  rw [sur e]
  exact h
end TD
namespace TD
open PySem PySem.Spec
open Emb (emb)
section
variable {α β : Type} [Emb α] [Emb β] {ρ ρ1 ρ2 : Env} {f g : Mx W}
/-- the term's value as data -/
def dat (te : Mx W) : Mx W := fun ρ => match te ρ with
  | .ok w ρ3 => match w.datum ρ3 with
    | some (y, ρ4) => .ok (.d y) ρ4
    | none => .st
  | .er c ρ3 => .er c ρ3
  | .st => .st
theorem dat_comp {vs : List Nat} {bd : Bd} {tt : Mx Bool} {te : Mx W} : ∀ (xs acc : List D) (ρ : Env), compL vs bd tt (dat te) xs acc ρ = compL vs bd tt te xs acc ρ
  | [], acc, ρ => by unfold compL; rfl
  | x :: xs, acc, ρ => by
    unfold compL
    cases bd x ρ with
    | none => rfl
    | some ρ1 =>
      simp only
      cases tt ρ1 with
      | ok b ρ2 =>
        cases b with
        | false => simp only [dat_comp xs]
        | true =>
          simp only [dat]
          cases te ρ2 with
          | ok w ρ3 =>
            simp only
            cases w.datum ρ3 with
            | none => rfl
            | some p => obtain ⟨y, ρ4⟩ := p; simp only [W.datum, dat_comp xs]
          | er c ρ3 => rfl
          | st => rfl
      | er c ρ2 => rfl
      | st => rfl
theorem e_dm {vs : List Nat} {it : Mx Walk} {bd : Bd} {tt : Mx Bool} {te : Mx W} {xs : List α} (h : EvL (mComp vs it bd tt (dat te)) ρ xs ρ1) : EvL (mComp vs it bd tt te) ρ xs ρ1 := by
  have e : mComp vs it bd tt (dat te) = mComp vs it bd tt te := by
    unfold mComp
    congr 1
    funext w ρ
    rw [dat_comp]
  rw [← e]
  exact h
theorem e_dat {xs : List α} (h : EvL f ρ xs ρ1) : EvD (dat f) ρ (PyL.mk xs) ρ1 := by
  show dat f ρ = _
  have h' : f ρ = .ok (.l (xs.map emb)) ρ1 := h
  simp only [dat, h', W.datum]
  rfl
theorem e_lstY {xs : List α} (h : EvL f ρ xs ρ1) : EvL (mArgs gLst (aCons f aNil)) ρ [PyL.mk xs] ρ1 := by
  have h' : f ρ = .ok (.l (xs.map emb)) ρ1 := h
  have a : aCons f aNil ρ = .ok [W.l (xs.map emb)] ρ1 := a_cons h' a_nil
  refine (args_of a).trans ?_
  simp only [gLst, datums, W.datum, List.length_cons, List.length_nil]
  rfl
theorem e_catY {xs ys : List α} (h1 : EvD f ρ (PyL.mk xs) ρ1) (h2 : EvL g ρ1 ys ρ2) (hl : xs.length + ys.length ≤ 100000) : EvL (m2 gAdd f g) ρ (xs ++ ys) ρ2 := by
  refine (m2_of h1 h2).trans ?_
  show gAdd (.d (.list (xs.map emb))) (.l (ys.map emb)) ρ2 = .ok (.l ((xs ++ ys).map emb)) ρ2
  unfold gAdd
  simp only [W.asD, W.own, List.length_map]
  rw [if_pos hl, List.map_append]
theorem e_mulL {xs : List α} {n : Int} (h1 : EvL f ρ xs ρ1) (h2 : EvD g ρ1 n ρ2) (ha : -1000000 ≤ n) (hb : n ≤ 1000000) (hl : xs.length * n.toNat ≤ 100000) : EvL (m2 gMulC f g) ρ (List.replicate n.toNat xs).flatten ρ2 := by
  refine (m2_of h1 h2).trans ?_
  show gMulC (.l (xs.map emb)) (.d (.int n)) ρ2 = .ok (.l ((List.replicate n.toNat xs).flatten.map emb)) ρ2
  unfold gMulC
  simp only [W.asD, List.length_map]
  rw [if_pos ⟨ha, hb, hl⟩, List.map_flatten, List.map_replicate]
/-- a call that raises -/
theorem e_callE {F : List B → FO} {fs : Mx (List W)} {ws : List W} {bs' : List B} {c : Str} (ha : fs ρ = .ok ws ρ1) (hf : F (ws.map resB) = .er c bs') (hn : ws.all noC = true := by rfl) : mCall F fs ρ = .er c ρ1 := by
  obtain ⟨h1, h2⟩ := ress_noC (ρ := ρ1) hn
  unfold mCall bnd
  rw [ha]
  simp only [h1, h2, List.nodup_nil, if_true, hf]
  rw [wb_none h2]
theorem n_try1 {np o i : Nat} {c : Str} {x : Option B} (h : f ρ = .er c ρ1) (hi : ρ1[i]? = some x) (hx : ∀ xs, x ≠ some (.l xs)) (hx2 : ∀ xs, x ≠ some (.t xs)) (hp : np ≤ i) (ho : put np o (.l [.bool true, .bool true, .bool false]) (ρ1.set i (some .x)) = some ρ2) : sTry np o i (ask1 c) (sExpr f) ρ = .ok .nx ρ2 := by
  unfold sTry sExpr bnd
  rw [h]
  simp only [ask1, if_true, hi]
  cases x with
  | none => simp only [hp, if_true, ho]
  | some b =>
    cases b <;> first | exact absurd rfl (hx _) | exact absurd rfl (hx2 _) | simp only [hp, if_true, ho]
end
end TD
namespace TD
open PySem PySem.Spec
open Emb (emb)
/-! ### None or a thing; what raises in a loop -/
class NotNone (α : Type) [Emb α] : Prop where
  ne : ∀ a : α, decide (tyD (emb a) = "NoneType") = false
  q1 : ∀ a : α, PyData.eqv .none (emb a) = false
  q2 : ∀ a : α, PyData.eqv (emb a) .none = false
instance : NotNone Int := ⟨fun _ => rfl, fun _ => rfl, fun _ => rfl⟩
instance : NotNone Bool := ⟨fun _ => rfl, fun _ => rfl, fun _ => rfl⟩
instance : NotNone Str := ⟨fun _ => rfl, fun _ => rfl, fun _ => rfl⟩
instance {α : Type} [Emb α] : NotNone (List α) := ⟨fun _ => rfl, fun _ => rfl, fun _ => rfl⟩
instance {α β : Type} [Emb α] [Emb β] : NotNone (α × β) := ⟨fun _ => rfl, fun _ => rfl, fun _ => rfl⟩
instance {α : Type} [DecidableEq α] [EmbQ α] [NotNone α] : EmbQ (Option α) where
  q o := ∀ a, o = some a → EmbQ.q a
  lay o h := by
    cases o with
    | none => rfl
    | some a => exact EmbQ.lay a (h a rfl)
  dp := EmbQ.dp α
  dep o := by
    cases o with
    | none => exact Nat.zero_le _
    | some a => exact EmbQ.dep a
  eqv a b := by
    cases a with
    | none =>
      cases b with
      | none => rfl
      | some b => exact (NotNone.q1 b).trans (by simp)
    | some a =>
      cases b with
      | none => exact (NotNone.q2 a).trans (by simp)
      | some b => exact (EmbQ.eqv a b).trans (by simp)
instance {α : Type} [DecidableEq α] [EmbQ α] [NotNone α] [QT α] : QT (Option α) := ⟨fun _ _ _ => QT.all _⟩
section
variable {α β : Type} [Emb α] [Emb β] {ρ ρ1 ρ2 : Env} {f g : Mx W}
theorem non_opt [NotNone α] (o : Option α) : decide (tyD (emb o) = "NoneType") = o.isNone := by
  cases o with
  | none => rfl
  | some a => exact NotNone.ne a
theorem e_isNone [NotNone α] {o : Option α} (h : EvD f ρ o ρ1) : EvD (m2 gIs f (mC .none)) ρ o.isNone ρ1 := by
  refine (m2_of h (rfl : mC .none ρ1 = .ok (.d .none) ρ1)).trans ?_
  show gIsB false (.d (emb o)) (.d .none) ρ1 = .ok (.d (.bool o.isNone)) ρ1
  unfold gIsB
  simp only [W.asD, W.non, W.ty, non_opt]
  rfl
theorem e_isSome [NotNone α] {o : Option α} (h : EvD f ρ o ρ1) : EvD (m2 gIsNot f (mC .none)) ρ o.isSome ρ1 := by
  refine (m2_of h (rfl : mC .none ρ1 = .ok (.d .none) ρ1)).trans ?_
  show gIsB true (.d (emb o)) (.d .none) ρ1 = .ok (.d (.bool o.isSome)) ρ1
  unfold gIsB
  simp only [W.asD, W.non, W.ty, non_opt]
  cases o <;> rfl
theorem n_of [Inhabited α] {o : Option α} (h : o.isNone = false) : o = some (o.getD default) := by cases o with
  | none => cases h
  | some a => rfl
theorem s_of [Inhabited α] {o : Option α} (h : o.isSome = true) : o = some (o.getD default) := by cases o with
  | none => cases h
  | some a => rfl
theorem e_lenP {p : α × β} (h : EvD f ρ p ρ1) : EvD (mArgs gLen (aCons f aNil)) ρ (2 : Int) ρ1 := e_len (s_tup (xs := [emb p.1, emb p.2]) h)
end
theorem e_ixC {α : Type} [Emb α] [Inhabited α] {ρ ρ2 : Env} {g : Mx W} (i : Nat) {xs : List α} {k : Int} (hi : ρ[i]? = some (some (.l (xs.map emb)))) (h2 : EvD g ρ k ρ2) (hi2 : ρ2[i]? = some (some (.l (xs.map emb)))) (h0 : 0 ≤ k) (hl : k < xs.length) : EvD (m2 gIxA (mVar i) g) ρ (ix xs k) ρ2 := by
  have e : mVar i ρ = .ok (.c i) ρ := by simp only [mVar, hi]
  have b : W.lst ρ2 (.c i) = some (xs.map emb) := by simp only [W.lst, hi2]
  have c : W.seq ρ2 (.c i) = some (xs.map emb) := by simp only [W.seq, b]
  refine (m2_of e h2).trans (seq_ix c (lst_tab b) rfl ?_)
  refine atI_at h0 ?_
  rw [List.getElem?_map, ix_get h0 hl]
  rfl
theorem e_indexT {ρ ρ1 ρ2 : Env} {f g : Mx W} {xs : List Int} {y : Int} (h1 : EvL f ρ xs ρ1) (h2 : EvD g ρ1 y ρ2) (hm : y ∈ xs) : EvD (mMethT gIdxT f (aCons g aNil)) ρ ((xs.idxOf y : Nat) : Int) ρ2 := by
  have h1' : f ρ = .ok (.l (xs.map PyData.int)) ρ1 := h1
  have h2' : aCons g aNil ρ1 = .ok [W.d (.int y)] ρ2 := a_cons (show g ρ1 = .ok (.d (.int y)) ρ2 from h2) a_nil
  show mMethT gIdxT f (aCons g aNil) ρ = _
  unfold mMethT
  simp only [bnd_ap, h1', h2', gIdxT, nums_map, W.asD]
  rw [if_pos hm]
  rfl
theorem e_lstM {ρ ρ1 ρ2 : Env} {fs : Mx (List W)} {ws : List W} {xs : List D} (ha : fs ρ = .ok ws ρ1) (hd : datums ws ρ1 = some (xs, ρ2)) (hl : xs.length ≤ 100000 := by exact Nat.le_of_ble_eq_true rfl) : EvL (mArgs gLst fs) ρ xs ρ2 := by
  refine (args_of ha).trans ?_
  unfold gLst
  simp only [hd]
  rw [if_pos hl]
  show Out.ok (W.l xs) ρ2 = Out.ok (W.l (xs.map id)) ρ2
  rw [List.map_id]
theorem n_setF {α : Type} [Emb α] {ρ ρ1 ρ2 : Env} {f : Mx W} {np i : Nat} {xs : List α} (h : EvL f ρ xs ρ1) (hs : store np i ρ1 (.d (.list (xs.map emb))) = some ρ2) : sSetF np i f ρ = .ok .nx ρ2 := by
  have h' : f ρ = .ok (.l (xs.map emb)) ρ1 := h
  simp only [sSetF, bnd_ap, h', W.datum, hs]
/-! ### lists in lists; a number in a tuple -/
instance {α : Type} : Inhabited (PyL α) := ⟨⟨[]⟩⟩
section
variable {α β : Type} [Emb α] [Emb β] {ρ ρ1 ρ2 : Env} {f g : Mx W} {fs : Mx (List W)}
theorem e_inT {i : Int} {ns : List Int} (h1 : EvD f ρ i ρ1) (h2 : EvD g ρ1 ns ρ2) : EvD (m2 gInT f g) ρ (ns.any fun j => decide (j = i)) ρ2 := by
  refine (m2_of h1 h2).trans ?_
  show gInT (.d (.int i)) (.d (.tuple (ns.map PyData.int))) ρ2 = _
  unfold gInT
  simp only [W.asD, W.tup, nums_map]
  rfl
def EvAsY (fs : Mx (List W)) (ρ : Env) (xs : List (PyL α)) (ρ1 : Env) : Prop := fs ρ = .ok (xs.map fun a => W.l (a.l.map emb)) ρ1
theorem asY_nil : EvAsY (α := α) aNil ρ [] ρ := rfl
theorem asY_cons {a : List α} {xs : List (PyL α)} (h1 : EvL f ρ a ρ1) (h2 : EvAsY fs ρ1 xs ρ2) : EvAsY (aCons f fs) ρ (PyL.mk a :: xs) ρ2 := a_cons h1 h2
theorem datums_y : ∀ (xs : List (PyL α)) (ρ : Env), datums (xs.map fun a => W.l (a.l.map emb)) ρ = some (xs.map emb, ρ)
  | [], _ => rfl
  | x :: xs, ρ => by
    rw [List.map_cons]
    unfold datums
    simp only [W.datum, datums_y xs]
    rfl
theorem e_lstsY {xs : List (PyL α)} (h1 : EvAsY fs ρ xs ρ1) (hl : xs.length ≤ 100000 := by exact Nat.le_of_ble_eq_true rfl) : EvL (mArgs gLst fs) ρ xs ρ1 := by
  refine (args_of h1).trans ?_
  unfold gLst
  simp only [datums_y, List.length_map]
  rw [if_pos hl]
theorem n_appY (i : Nat) {xs : List (PyL α)} {a : List α} (hi : ρ[i]? = some (some (.l (xs.map emb)))) (h : EvL f ρ a ρ1) (hi1 : ρ1[i]? = some (some (.l (xs.map emb)))) (hl : xs.length + 1 ≤ 100000) (hs : ρ1.set i (some (.l ((xs ++ [PyL.mk a]).map emb))) = ρ2) : sExpr (mMeth gApp (mVar i) (aCons f aNil)) ρ = .ok .nx ρ2 := by
  refine n_expr (w := .d .none) ?_
  have h' : f ρ = .ok (.l (a.map emb)) ρ1 := h
  rw [meth_of hi (a_cons h' a_nil)]
  unfold gApp
  simp only [W.datum, hi1, List.length_map]
  rw [if_pos hl, ← hs, List.map_append]
  rfl
end
/-- a loop of which one pass raises -/
theorem loop_er {α : Type} [Emb α] {bd : Bd} {body : Mx Fl} {τ : Type} (E : τ → Env) {c : Str} (bad : α → Bool) : ∀ (xs : List α) (t : τ), (∃ x ∈ xs, bad x = true) →
    (∀ t x, x ∈ xs → ∃ ρ1, bd (emb x) (E t) = some ρ1 ∧ ((bad x = false → ∃ t', body ρ1 = .ok .nx (E t')) ∧ (bad x = true → ∃ t', body ρ1 = .er c (E t')))) → ∃ t', loop bd body (xs.map emb) (E t) = .er c (E t')
  | [], t, ⟨x, hx, _⟩, _ => by cases hx
  | x :: xs, t, hb, h => by
    obtain ⟨ρ1, e1, h1, h2⟩ := h t x List.mem_cons_self
    rw [List.map_cons]
    cases e : bad x with
    | true =>
      obtain ⟨t', e2⟩ := h2 e
      refine ⟨t', ?_⟩
      unfold loop
      rw [e1]
      simp only [e2]
    | false =>
      obtain ⟨t1, e2⟩ := h1 e
      obtain ⟨t', e3⟩ := loop_er E bad xs t1 (by
        obtain ⟨y, hy, hy2⟩ := hb
        rcases List.mem_cons.mp hy with rfl | hy
        · rw [e] at hy2; cases hy2
        · exact ⟨y, hy, hy2⟩) fun t y hy => h t y (List.mem_cons_of_mem _ hy)
      refine ⟨t', ?_⟩
      unfold loop
      rw [e1]
      simp only [e2]
      exact e3
theorem for_er {α : Type} [Emb α] {it : Mx Walk} {bd : Bd} {body : Mx Fl} {τ : Type} {ρ : Env} (E : τ → Env) {c : Str} (bad : α → Bool) {xs : List α} {t : τ} (hi : it ρ = .ok (xs.map emb, none) (E t)) (hb : ∃ x ∈ xs, bad x = true)
    (h : ∀ t x, x ∈ xs → ∃ ρ1, bd (emb x) (E t) = some ρ1 ∧ ((bad x = false → ∃ t', body ρ1 = .ok .nx (E t')) ∧ (bad x = true → ∃ t', body ρ1 = .er c (E t')))) : ∃ t', sFor it bd body ρ = .er c (E t') := by
  rw [sFor_of hi]
  exact loop_er E bad xs t hb h
theorem sSeq_assoc {p q r : Mx Fl} : sSeq (sSeq p q) r = sSeq p (sSeq q r) := by
  funext ρ
  simp only [sSeq_ap]
  cases p ρ with
  | ok w ρ' => cases w <;> rfl
  | er c ρ' => rfl
  | st => rfl
section
variable {a b c d e r : Mx Fl} {φ : Out Fl → Prop} {ρ : Env}
theorem s_assoc3 (h : φ (sSeq a (sSeq b (sSeq c r)) ρ)) : φ (sSeq (sSeq a (sSeq b c)) r ρ) := by rw [sSeq_assoc, sSeq_assoc]; exact h
theorem s_assoc4 (h : φ (sSeq a (sSeq b (sSeq c (sSeq d r))) ρ)) : φ (sSeq (sSeq a (sSeq b (sSeq c d))) r ρ) := by rw [sSeq_assoc, sSeq_assoc, sSeq_assoc]; exact h
theorem s_assoc5 (h : φ (sSeq a (sSeq b (sSeq c (sSeq d (sSeq e r)))) ρ)) : φ (sSeq (sSeq a (sSeq b (sSeq c (sSeq d e)))) r ρ) := by rw [sSeq_assoc, sSeq_assoc, sSeq_assoc, sSeq_assoc]; exact h
end
theorem sExpr_er {f : Mx W} {ρ ρ1 : Env} {c : Str} (h : f ρ = .er c ρ1) : sExpr f ρ = .er c ρ1 := by rw [sExpr_ap, h]
theorem sIf_er {t : Mx Bool} {p q : Mx Fl} {ρ ρ1 : Env} {c : Str} (h : t ρ = .ok true ρ1) (h2 : p ρ1 = .er c ρ1) : sIf t p q ρ = .er c ρ1 := by rw [sIf_ap, h]; exact h2
theorem sIf_nx {t : Mx Bool} {p q : Mx Fl} {ρ ρ1 : Env} (h : t ρ = .ok false ρ1) (h2 : q ρ1 = .ok .nx ρ1) : sIf t p q ρ = .ok .nx ρ1 := by rw [sIf_ap, h]; exact h2
end TD
namespace TD
open PySem
open Emb (emb)
/-! ### list(d.values()) -/
section
variable {κ β : Type} [KeyE κ] [Emb β] {f : Mx W} {ρ ρ1 : Env}
theorem e_dvals {l : List (κ × β)} (h1 : EvT f ρ l ρ1) : EvL (mListVals f) ρ (l.map Prod.snd) ρ1 := by
  obtain ⟨w, a, b⟩ := h1
  simp only [EvL, mListVals, bnd_ap, a, b]
  congr 2
  unfold kvE
  rw [List.map_map, List.map_map]
  rfl
end
/-! ### an item of a tuple of texts -/
theorem e_ixK {ss : List Str} {g : Mx W} {ρ ρ1 : Env} {i : Int} (h : EvD g ρ i ρ1) (h0 : 0 ≤ i) (h1 : i < ss.length) : EvD (mIxK ss g) ρ (ix ss i) ρ1 := by
  have e := atI_at h0 (ix_get h0 h1)
  simp only [EvD, mIxK, bnd_ap] at h ⊢
  rw [h]
  show (match L2.atI ss i with
    | some s => Out.ok (W.d (.str s)) ρ1
    | none => .st) = _
  rw [e]
  rfl
/-! ### a sign of a text -/
def ixS (s : Str) (i : Int) : Str := ⟨#[s.cps.toList.getD i.toNat 0]⟩
theorem ixS_length (s : Str) (i : Int) : (ixS s i).length = 1 := rfl
theorem e_ixS {f g : Mx W} {ρ ρ1 ρ2 : Env} {s : Str} {i : Int} (h1 : EvD f ρ s ρ1) (h2 : EvD g ρ1 i ρ2) (h0 : 0 ≤ i) (hi : i < s.length) (hl : s.length ≤ 100000) : EvD (m2 gIxA f g) ρ (ixS s i) ρ2 := by
  refine (m2_of h1 h2).trans ?_
  have hs : s.cps.toList.length = s.length := by rw [Array.length_toList]; rfl
  have h3 : i.toNat < s.cps.toList.length := by omega
  have e : L2.atI s.cps.toList i = some (s.cps.toList.getD i.toNat 0) := atI_at h0 (by rw [List.getD_eq_getElem?_getD, List.getElem?_eq_getElem h3]; rfl)
  show gIx (.d (.str s)) (.d (.int i)) ρ2 = .ok (.d (.str ⟨#[s.cps.toList.getD i.toNat 0]⟩)) ρ2
  unfold gIx
  show (if s.length ≤ 100000 then _ else _) = _
  rw [if_pos hl, e]
instance {α β γ : Type} [Inhabited α] [Inhabited β] [Inhabited γ] : Inhabited (Tri α β γ) := ⟨⟨default, default, default⟩⟩
theorem Tri.ext_iffz {α β γ : Type} {a b : Tri α β γ} : a = b ↔ a.a = b.a ∧ a.b = b.b ∧ a.c = b.c := by
  cases a; cases b; simp
instance {α β γ : Type} [DecidableEq α] [DecidableEq β] [DecidableEq γ] : DecidableEq (Tri α β γ) := fun _ _ => decidable_of_iff _ Tri.ext_iffz.symm
instance {α β γ : Type} [DecidableEq α] [DecidableEq β] [DecidableEq γ] [EmbQ α] [EmbQ β] [EmbQ γ] : EmbQ (Tri α β γ) where
  q p := EmbQ.q p.a ∧ EmbQ.q p.b ∧ EmbQ.q p.c
  lay p h := by
    show PyData.canLay0 (.tuple [emb p.a, emb p.b, emb p.c]) = true
    simp [PyData.canLay0, PyData.canLayAll0, EmbQ.lay p.a h.1, EmbQ.lay p.b h.2.1, EmbQ.lay p.c h.2.2]
  dp := max (EmbQ.dp α) (max (EmbQ.dp β) (EmbQ.dp γ)) + 1
  dep p := by
    show (PyData.tuple [emb p.a, emb p.b, emb p.c]).depth ≤ _
    have h1 := EmbQ.dep p.a
    have h2 := EmbQ.dep p.b
    have h3 := EmbQ.dep p.c
    simp only [PyData.depth, PyData.depthAll]
    omega
  eqv a b := by
    show PyData.eqv (.tuple [emb a.a, emb a.b, emb a.c]) (.tuple [emb b.a, emb b.b, emb b.c]) = _
    unfold PyData.eqv PyData.eqvAll PyData.eqvAll PyData.eqvAll PyData.eqvAll
    rw [EmbQ.eqv a.a b.a, EmbQ.eqv a.b b.b, EmbQ.eqv a.c b.c, Bool.eq_iff_iff]
    simp [Tri.ext_iffz]
/-! ### max(.., default=k) -/
theorem e_maxDf {f : Mx W} {ρ ρ1 : Env} {k : Int} {xs : List Int} (h : EvR f ρ xs ρ1) : EvD (mMaxDf k f) ρ (maxDf k xs) ρ1 := by
  obtain ⟨w, a, b, _⟩ := h
  have b' : w.lst ρ1 = some (xs.map PyData.int) := b
  simp only [EvD, mMaxDf, bnd_ap, a, b', nums_map]
  rfl
end TD
namespace TD
open PySem
open Emb (emb)
/-! ### a try whose body is any statement that raises -/
section
variable {ρ ρ1 ρ2 : Env}
theorem n_try2 {np o i : Nat} {c : Str} {q : Mx Fl} {x : Option B} (h : q ρ = .er c ρ1) (hi : ρ1[i]? = some x) (hx : ∀ xs, x ≠ some (.l xs)) (hx2 : ∀ xs, x ≠ some (.t xs)) (hp : np ≤ i) (ho : put np o (.l [.bool true, .bool true, .bool false]) (ρ1.set i (some .x)) = some ρ2) : sTry np o i (ask1 c) q ρ = .ok .nx ρ2 := by
  unfold sTry
  rw [h]
  simp only [ask1, if_true, hi]
  cases x with
  | none => simp only [hp, if_true, ho]
  | some b =>
    cases b <;> first | exact absurd rfl (hx _) | exact absurd rfl (hx2 _) | simp only [hp, if_true, ho]
theorem sIf_erB {b : Bool} {t : Mx Bool} {p q : Mx Fl} {c : Str} (h : t ρ = .ok b ρ1) (h1 : b = true → p ρ1 = .er c ρ2) (h2 : b = false → q ρ1 = .er c ρ2) : sIf t p q ρ = .er c ρ2 := by
  rw [sIf_ap, h]
  cases b with
  | true => exact h1 rfl
  | false => exact h2 rfl
end

section
variable {ρ ρ1 ρ2 : Env}
theorem t_orC {b1 b2 : Bool} {f g : Mx Bool} (h1 : f ρ = .ok b1 ρ1) (e : b1 = false) (h2 : g ρ1 = .ok b2 ρ2) : mOrT f g ρ = .ok (b1 || b2) ρ2 := by
  subst e
  rw [mOrT_ap, h1]
  exact h2
theorem t_andC {b1 b2 : Bool} {f g : Mx Bool} (h1 : f ρ = .ok b1 ρ1) (e : b1 = true) (h2 : g ρ1 = .ok b2 ρ2) : mAndT f g ρ = .ok (b1 && b2) ρ2 := by
  subst e
  rw [mAndT_ap, h1]
  exact h2
end
section
variable {α : Type} [Emb α] {ρ ρ1 ρ2 : Env}
theorem e_ixL [Inhabited α] {f g : Mx W} {xs : List α} {i : Int} (h1 : EvL f ρ xs ρ1) (h2 : EvD g ρ1 i ρ2) (h0 : 0 ≤ i) (hl : i < xs.length) : EvD (m2 gIxA f g) ρ (ix xs i) ρ2 := by
  refine (m2_of h1 h2).trans (seq_ix (w1 := .l (xs.map emb)) rfl rfl rfl ?_)
  refine atI_at h0 ?_
  rw [List.getElem?_map, ix_get h0 hl]
  rfl
end
end TD
namespace TD
open PySem
open Emb (emb)
/-! ### texts: typed rules -/
/-- a text's only sign -/
def sgn (a : Str) : Nat := a.cps.toList.getD 0 0
/-- a text of one sign -/
def One (a : Str) : Prop := a.cps.toList = [sgn a]
theorem one_mk (c : Nat) : One ⟨#[c]⟩ := rfl
theorem one_ixS (s : Str) (i : Int) : One (ixS s i) := rfl
theorem sgn_mk (c : Nat) : sgn ⟨#[c]⟩ = c := rfl
theorem One.eq {a : Str} (h : One a) : a = ⟨#[sgn a]⟩ := one_of h
/-- the sign in a text -/
def inS (a z : Str) : Bool := decide (sgn a ∈ z.cps.toList)
section
variable {ρ ρ1 ρ2 : Env} {f g : Mx W} {a b : Str}
theorem e_str1 {k : Str → W → Env → Out W} {w : W} (h1 : EvD f ρ a ρ1) (h2 : g ρ1 = .ok w ρ2) : mStr1 k f g ρ = k a w ρ2 := by
  have h1' : f ρ = .ok (.d (.str a)) ρ1 := h1
  simp only [mStr1, bnd_ap, h1', W.txt, W.asD, h2]
theorem e_count (h1 : EvD f ρ a ρ1) (h2 : EvD g ρ1 b ρ2) : EvD (mStr1 gsCount f g) ρ (Txt.count a b) ρ2 := e_str1 h1 h2
theorem e_split (h1 : EvD f ρ a ρ1) (h2 : EvD g ρ1 b ρ2) (hb : (b.length == 0) = false) (hl : a.length ≤ 100000) : EvL (mStr1 gsSplit f g) ρ (Txt.split a b) ρ2 := by
  refine (e_str1 h1 h2).trans ?_
  show (if _ then _ else _) = _
  rw [if_pos ⟨hb, hl⟩]
  rfl
def partT (a b : Str) : Tri Str Str Str := ⟨(Txt.partition a b).1, (Txt.partition a b).2.1, (Txt.partition a b).2.2⟩
theorem e_part (h1 : EvD f ρ a ρ1) (h2 : EvD g ρ1 b ρ2) (hb : (b.length == 0) = false) (hl : a.length ≤ 100000) : EvD (mStr1 gsPart f g) ρ (partT a b) ρ2 := by
  refine (e_str1 h1 h2).trans ?_
  show (if _ then _ else _) = _
  rw [if_pos ⟨hb, hl⟩]
  rfl
theorem e_stripC (h1 : EvD f ρ a ρ1) (h2 : EvD g ρ1 b ρ2) (hl : a.length ≤ 100000) : EvD (mStr1 gsStrip f g) ρ (Txt.stripChars a b) ρ2 := by
  refine (e_str1 h1 h2).trans ?_
  show (if _ then _ else _) = _
  rw [if_pos hl]
  rfl
theorem e_join {ss : List Str} (h1 : EvD f ρ a ρ1) (h2 : EvS g ρ1 ss ρ2) (hl : (ss.map (·.length)).sum + ss.length * a.length ≤ 16777216) : EvD (mStr1 gsJoin f g) ρ (Txt.join a ss) ρ2 := by
  obtain ⟨w, a1, b1, _⟩ := h2
  refine (e_str1 h1 a1).trans ?_
  have b1' : W.seq ρ2 w = some (ss.map PyData.str) := b1
  unfold gsJoin
  simp only [b1', strs_map]
  rw [if_pos hl]
  rfl
theorem e_inS (h1 : EvD f ρ a ρ1) (h2 : EvD g ρ1 b ρ2) (h : One a) : EvD (m2 (gInS false) f g) ρ (inS a b) ρ2 := by
  refine (m2_of h1 h2).trans ?_
  show gInS false (.d (.str a)) (.d (.str b)) ρ2 = .ok (.d (.bool (inS a b))) ρ2
  have h' : a.cps.toList = [sgn a] := h
  unfold gInS
  simp only [W.txt, W.asD, h']
  rfl
theorem e_notInS (h1 : EvD f ρ a ρ1) (h2 : EvD g ρ1 b ρ2) (h : One a) : EvD (m2 (gInS true) f g) ρ (!inS a b) ρ2 := by
  refine (m2_of h1 h2).trans ?_
  show gInS true (.d (.str a)) (.d (.str b)) ρ2 = .ok (.d (.bool (!inS a b))) ρ2
  have h' : a.cps.toList = [sgn a] := h
  unfold gInS
  simp only [W.txt, W.asD, h']
  rfl
theorem e_inTS {ss : List Str} (h1 : EvD f ρ a ρ1) (h2 : EvD g ρ1 ss ρ2) : EvD (m2 (gInTS false) f g) ρ (ss.any fun b => b == a) ρ2 := by
  refine (m2_of h1 h2).trans ?_
  show gInTS false (.d (.str a)) (.d (.tuple (ss.map PyData.str))) ρ2 = _
  unfold gInTS
  simp only [W.txt, W.tup, W.asD, strs_map]
  rfl
theorem e_notInTS {ss : List Str} (h1 : EvD f ρ a ρ1) (h2 : EvD g ρ1 ss ρ2) : EvD (m2 (gInTS true) f g) ρ (!(ss.any fun b => b == a)) ρ2 := by
  refine (m2_of h1 h2).trans ?_
  show gInTS true (.d (.str a)) (.d (.tuple (ss.map PyData.str))) ρ2 = _
  unfold gInTS
  simp only [W.txt, W.tup, W.asD, strs_map]
  rfl
/-- str(i) -/
def strI (i : Int) : Str := Str.ofString (toString i)
theorem log_small {i : Int} (h : -(1000000000000000000000000000000 : Int) ≤ i ∧ i ≤ 1000000000000000000000000000000) : i.natAbs.log2 < 1920 := by
  by_cases h0 : i.natAbs = 0
  · rw [h0]; decide
  have h1 : i.natAbs < 2 ^ 100 := Nat.lt_of_le_of_lt (show i.natAbs ≤ 1000000000000000000000000000000 by omega) (by decide)
  have h2 := (Nat.log2_lt h0).mpr h1
  omega
theorem e_strI {i : Int} (h1 : EvD f ρ i ρ1) (h : -(1000000000000000000000000000000 : Int) ≤ i ∧ i ≤ 1000000000000000000000000000000) : EvD (mArgs gStr (aCons f aNil)) ρ (strI i) ρ1 := by
  refine (args_of (a_cons h1 a_nil)).trans ?_
  show gStr [.d (.int i)] ρ1 = _
  unfold gStr
  simp only [W.asD]
  rw [if_pos (log_small h)]
  rfl
theorem e_intS (h1 : EvD f ρ a ρ1) (h : (intText? a).isSome = true) (hl : a.length ≤ 640) : EvD (mArgs gInt (aCons f aNil)) ρ ((intText? a).getD 0) ρ1 := by
  refine (args_of (a_cons h1 a_nil)).trans ?_
  show gInt [.d (.str a)] ρ1 = .ok (.d (.int ((intText? a).getD 0))) ρ1
  unfold gInt
  simp only [W.asD]
  rw [if_pos hl]
  cases e : intText? a with
  | none => rw [e] at h; cases h
  | some n => rfl
/-! the signs of a text, one by one -/
def chars (z : Str) : List Str := z.cps.toList.map fun c => ⟨#[c]⟩
theorem chars_one {z x : Str} (h : x ∈ chars z) : One x := by
  obtain ⟨c, _, rfl⟩ := List.mem_map.mp h
  exact one_mk c
theorem chars_len (z : Str) : (chars z).length = z.length := by
  unfold chars
  rw [List.length_map, Array.length_toList]
  rfl
theorem w_str (h1 : EvD f ρ a ρ1) : mWalk f ρ = .ok ((chars a).map emb, none) ρ1 := by
  have h1' : f ρ = .ok (.d (.str a)) ρ1 := h1
  simp only [mWalk_ap, h1', W.walkL, W.asD]
  unfold chars
  rw [List.map_map]
  rfl
variable {ml mh : Mx (Option Int)} {la lb : Option Int}
theorem e_slS (h1 : EvD f ρ a ρ1) (h2 : ml ρ1 = .ok la ρ1) (h3 : mh ρ1 = .ok lb ρ1) (hl : a.length ≤ 100000) : EvD (mSl f ml mh) ρ (L2.cutS a la lb) ρ1 := by
  refine (sl_of h1 h2 h3).trans ?_
  show gSl (.d (.str a)) la lb ρ1 = .ok (.d (.str (L2.cutS a la lb))) ρ1
  unfold gSl
  simp only [W.lst, W.asD]
  rw [if_pos hl]
theorem cutS_tl (z : Str) (la lb : Option Int) : TL.tl (L2.cutS z la lb) = ((TL.tl z).drop (HT.sIx z.length 0 la)).take (HT.sIx z.length z.length lb - HT.sIx z.length 0 la) := rfl
theorem e_trevT {α : Type} [Emb α] {xs : List α} (h1 : EvD f ρ xs ρ1) : EvD (mTupleReversedT f) ρ xs.reverse ρ1 := by
  have h1' : f ρ = .ok (.d (.tuple (xs.map emb))) ρ1 := h1
  simp only [EvD, mTupleReversedT, bnd_ap, h1', W.tup, W.asD]
  show _ = Out.ok (W.d (.tuple (xs.reverse.map emb))) ρ1
  rw [List.map_reverse]
theorem e_sortedSetT {xs : List (List Int)} (h1 : EvD f ρ xs ρ1) (h : U xs) : EvL (mSortedSetT f) ρ (srtU xs) ρ1 := by
  have h1' : f ρ = .ok (.d (.tuple (xs.map fun ns => PyData.tuple (ns.map .int)))) ρ1 := h1
  simp only [EvL, mSortedSetT, bnd_ap, h1', W.tup, W.asD, tupsOf_map]
  rw [if_pos h]
  rfl
theorem e_leT {xs ys : List Int} (h1 : EvD f ρ xs ρ1) (h2 : EvD g ρ1 ys ρ2) : EvD (m2 gLeA f g) ρ (leT xs ys) ρ2 := by
  refine (m2_of h1 h2).trans ?_
  show gLeA (.d (.tuple (xs.map PyData.int))) (.d (.tuple (ys.map PyData.int))) ρ2 = .ok (.d (.bool (leT xs ys))) ρ2
  unfold gLeA
  simp only [W.asD, nums_map]
end
end TD
namespace TD
open PySem
open Emb (emb)
instance : Inhabited D := ⟨PyData.none⟩
/-! ### data of mixed kinds -/
section
variable {α : Type} [Emb α] {ρ ρ1 ρ2 : Env} {f g : Mx W} {fs : Mx (List W)}
theorem e_D {a : α} (h : EvD f ρ a ρ1) : EvD f ρ (emb a : D) ρ1 := h
theorem e_tD {xs : List α} (h : EvD f ρ xs ρ1) : EvD f ρ (xs.map emb : List D) ρ1 := by
  show f ρ = .ok (.d (.tuple ((xs.map emb).map id))) ρ1
  rw [List.map_id]
  exact h
theorem e_lD {xs : List α} (h : EvL f ρ xs ρ1) : EvL f ρ (xs.map emb : List D) ρ1 := by
  show f ρ = .ok (.l ((xs.map emb).map id)) ρ1
  rw [List.map_id]
  exact h
/-- values ahead, some of them lists -/
def EvDs (fs : Mx (List W)) (ρ : Env) (ds : List D) (ρ1 : Env) : Prop := ∃ ws, fs ρ = .ok ws ρ1 ∧ ∀ ρ', datums ws ρ' = some (ds, ρ')
theorem ds_nil : EvDs aNil ρ [] ρ := ⟨[], rfl, fun _ => rfl⟩
theorem ds_d {a : D} {ds : List D} (h1 : EvD f ρ a ρ1) (h2 : EvDs fs ρ1 ds ρ2) : EvDs (aCons f fs) ρ (a :: ds) ρ2 := by
  obtain ⟨ws, e, h⟩ := h2
  refine ⟨_, a_cons h1 e, fun ρ' => ?_⟩
  unfold datums
  simp only [W.datum, h]
  rfl
theorem ds_l {xs : List α} {ds : List D} (h1 : EvL f ρ xs ρ1) (h2 : EvDs fs ρ1 ds ρ2) : EvDs (aCons f fs) ρ (PyData.list (xs.map emb) :: ds) ρ2 := by
  obtain ⟨ws, e, h⟩ := h2
  refine ⟨_, a_cons h1 e, fun ρ' => ?_⟩
  unfold datums
  simp only [W.datum, h]
theorem ds_k {ds : List D} (h2 : EvDs fs ρ ds ρ2) : EvDs (aCons mDict0 fs) ρ (PyData.dict [] :: ds) ρ2 := by
  obtain ⟨ws, e, h⟩ := h2
  refine ⟨_, a_cons (w := W.t []) rfl e, fun ρ' => ?_⟩
  unfold datums
  simp only [W.datum, h]
theorem e_tupD {ds : List D} (h1 : EvDs fs ρ ds ρ1) (hl : ds.length ≤ 100000 := by exact Nat.le_of_ble_eq_true rfl) : EvD (mArgs gTup fs) ρ ds ρ1 := by
  obtain ⟨ws, e, h⟩ := h1
  refine (args_of e).trans ?_
  unfold TD.gTup
  simp only [h]
  rw [if_pos hl]
  show Out.ok (W.d (.tuple ds)) ρ1 = Out.ok (W.d (.tuple (ds.map id))) ρ1
  rw [List.map_id]
theorem e_lstD {ds : List D} (h1 : EvDs fs ρ ds ρ1) (hl : ds.length ≤ 100000 := by exact Nat.le_of_ble_eq_true rfl) : EvL (mArgs gLst fs) ρ ds ρ1 := by
  obtain ⟨ws, e, h⟩ := h1
  refine (args_of e).trans ?_
  unfold gLst
  simp only [h]
  rw [if_pos hl]
  show Out.ok (W.l ds) ρ1 = Out.ok (W.l (ds.map id)) ρ1
  rw [List.map_id]
theorem e_mulLB {xs : List α} {b : Bool} (h1 : EvL f ρ xs ρ1) (h2 : EvD g ρ1 b ρ2) : EvL (m2 gMulLB f g) ρ (if b = true then xs else []) ρ2 := by
  refine (m2_of h1 h2).trans ?_
  show gMulLB (.l (xs.map emb)) (.d (.bool b)) ρ2 = _
  unfold gMulLB
  simp only [W.lst, W.asD]
  cases b <;> rfl
/-! a comprehension whose element may raise -/
theorem compLX_ok {vs : List Nat} {bd : Bd} {tt : Mx Bool} {te : Mx W} : ∀ {xs acc ys : List D} {ρ ρ' : Env}, compL vs bd tt te xs acc ρ = .ok ys ρ' → compLX vs bd tt te xs acc ρ = .ok ys ρ'
  | [], _, _, _, _, h => h
  | x :: xs, acc, ys, ρ, ρ', h => by
    unfold compL at h
    unfold compLX
    cases e1 : bd x ρ with
    | none => rw [e1] at h; cases h
    | some ρ1 =>
      rw [e1] at h
      simp only at h ⊢
      cases e2 : tt ρ1 with
      | st => rw [e2] at h; cases h
      | er c ρ2 => rw [e2] at h; cases h
      | ok b ρ2 =>
        rw [e2] at h
        cases b with
        | false => exact compLX_ok h
        | true =>
          simp only at h ⊢
          cases e3 : te ρ2 with
          | st => rw [e3] at h; cases h
          | er c ρ3 => rw [e3] at h; cases h
          | ok w ρ3 =>
            rw [e3] at h
            simp only at h ⊢
            cases e4 : w.datum ρ3 with
            | none => rw [e4] at h; cases h
            | some q =>
              obtain ⟨y, ρ4⟩ := q
              rw [e4] at h
              simp only at h ⊢
              split at h
              · rename_i hl
                rw [if_pos hl]
                exact compLX_ok h
              · cases h
theorem e_cx {vs : List Nat} {it : Mx Walk} {bd : Bd} {tt : Mx Bool} {te : Mx W} {xs : List α} (h : EvL (mComp vs it bd tt te) ρ xs ρ1) : EvL (mCompX vs it bd tt te) ρ xs ρ1 := by
  have h : mComp vs it bd tt te ρ = .ok (.l (xs.map emb)) ρ1 := h
  show mCompX vs it bd tt te ρ = .ok (.l (xs.map emb)) ρ1
  unfold mComp bnd at h
  unfold mCompX bnd
  cases e0 : it ρ with
  | st => rw [e0] at h; cases h
  | er c ρ2 => rw [e0] at h; cases h
  | ok w ρ2 =>
    rw [e0] at h
    simp only at h ⊢
    cases e1 : compL vs bd tt te w.1 [] (wipeR (outR ρ2 w.2) vs) with
    | st => rw [e1] at h; cases h
    | er c ρ3 => rw [e1] at h; cases h
    | ok ys ρ3 =>
      rw [e1] at h
      rw [compLX_ok e1]
      exact h
theorem cx_er {β : Type} [Emb β] {vs : List Nat} {it : Mx Walk} {bd : Bd} {te : Mx W} {c : Str} {xs : List α} (ρw : Env) (ρx : α → Env) (bad : α → Bool) (y : α → β) (hi : it ρ = .ok (xs.map emb, none) ρ1) (hw : wipeR ρ1 vs = ρw)
    (h : ∀ x ∈ xs, bd (emb x) ρw = some (ρx x) ∧ (bad x = false → EvD te (ρx x) (y x) (ρx x)) ∧ (bad x = true → te (ρx x) = .er c (ρx x)) ∧ wipeR (ρx x) vs = ρw) (hb : ∃ x ∈ xs, bad x = true) (hl : xs.length ≤ 100000) (hr : restoreR ρ1 vs ρw = some ρ1) : mCompX vs it bd tYesM te ρ = .er c ρ1 := by
  have key : ∀ (zs : List α) (acc : List D), (∀ x ∈ zs, x ∈ xs) → (∃ x ∈ zs, bad x = true) → acc.length + zs.length ≤ 100000 → compLX vs bd tYesM te (zs.map emb) acc ρw = .er c ρw := by
    intro zs
    induction zs with
    | nil => intro acc _ hb _; obtain ⟨x, hx, _⟩ := hb; cases hx
    | cons z zs ih =>
      intro acc hz hb hl'
      obtain ⟨a1, a2, a3, a4⟩ := h z (hz z List.mem_cons_self)
      rw [List.length_cons] at hl'
      rw [List.map_cons]
      unfold compLX
      rw [a1]
      simp only [tYesM]
      cases hq : bad z with
      | true =>
        rw [a3 hq]
        simp only
        rw [a4]
      | false =>
        have e := a2 hq
        have e : te (ρx z) = .ok (.d (emb (y z))) (ρx z) := e
        rw [e]
        simp only [W.datum]
        rw [if_pos (by omega), a4]
        refine ih _ (fun x hx => hz x (List.mem_cons_of_mem _ hx)) ?_ (by rw [List.length_append, List.length_singleton]; omega)
        obtain ⟨x, hx, hxb⟩ := hb
        rcases List.mem_cons.mp hx with rfl | hx
        · rw [hq] at hxb; cases hxb
        · exact ⟨x, hx, hxb⟩
  unfold mCompX bnd
  rw [hi]
  simp only [outR]
  rw [hw, key xs [] (fun _ h => h) hb (by rw [List.length_nil]; omega)]
  simp only [hr, backR]
theorem ret_er {c : Str} (h : f ρ = .er c ρ1) : sRet f ρ = .er c ρ1 := by
  simp only [sRet_ap, h]
theorem arg1_er {gx : List W → Env → Out W} {c : Str} (h : f ρ = .er c ρ1) : mArgs gx (aCons f aNil) ρ = .er c ρ1 := by
  simp only [mArgs_ap, aCons_ap, h]
theorem arg2_er {gx : List W → Env → Out W} {c : Str} {w : W} (h1 : f ρ = .ok w ρ1) (h : g ρ1 = .er c ρ2) : mArgs gx (aCons f (aCons g aNil)) ρ = .er c ρ2 := by
  simp only [mArgs_ap, aCons_ap, h1, h]
theorem set_er {np i : Nat} {c : Str} (h : f ρ = .er c ρ1) : sSet np i f ρ = .er c ρ1 := by
  simp only [sSet_ap, h]
theorem e_mulS (h1 : EvD f ρ ("9" : Str) ρ1) (h2 : EvD g ρ1 (16 : Int) ρ2) : EvD (m2 gMulS f g) ρ ("9999999999999999" : Str) ρ2 := by
  refine (m2_of h1 h2).trans ?_
  show gMulS (.d (.str ("9" : Str))) (.d (.int 16)) ρ2 = _
  unfold gMulS
  simp only [W.asD]
  rw [if_pos ⟨trivial, trivial⟩]
  rfl
theorem e_mulA5 (h1 : EvD f ρ ("a" : Str) ρ1) (h2 : EvD g ρ1 (5 : Int) ρ2) : EvD (m2 gMulA5 f g) ρ ("aaaaa" : Str) ρ2 := by
  refine (m2_of h1 h2).trans ?_
  show gMulA5 (.d (.str ("a" : Str))) (.d (.int 5)) ρ2 = _
  unfold gMulA5
  simp only [W.asD]
  rw [if_pos ⟨trivial, trivial⟩]
  rfl
theorem e_listRange {n : Int} (h1 : EvD f ρ n ρ1) (h0 : 0 ≤ n) (hl : n ≤ 100000) : EvL (mListRange f) ρ (rng n) ρ1 := by
  have h1' : f ρ = .ok (.d (.int n)) ρ1 := h1
  simp only [EvL, mListRange, bnd_ap, h1', W.asD]
  rw [if_pos ⟨h0, hl⟩]
  unfold rng
  rw [List.map_map]
  rfl
end
section
variable {a b c d e f g r : Mx Fl} {ρ : Env} {φ : Out Fl → Prop}
theorem s_assoc6 (h : φ (sSeq a (sSeq b (sSeq c (sSeq d (sSeq e (sSeq f r))))) ρ)) : φ (sSeq (sSeq a (sSeq b (sSeq c (sSeq d (sSeq e f))))) r ρ) := by rw [sSeq_assoc, sSeq_assoc, sSeq_assoc, sSeq_assoc, sSeq_assoc]; exact h
theorem s_assoc7 (h : φ (sSeq a (sSeq b (sSeq c (sSeq d (sSeq e (sSeq f (sSeq g r)))))) ρ)) : φ (sSeq (sSeq a (sSeq b (sSeq c (sSeq d (sSeq e (sSeq f g)))))) r ρ) := by rw [sSeq_assoc, sSeq_assoc, sSeq_assoc, sSeq_assoc, sSeq_assoc, sSeq_assoc]; exact h
end
end TD
namespace Gen
open PySem PySem.Spec PyProof.Rows L2 TD
noncomputable section
def topS (i : Nat) : Stmt := PySem.Challenge.pw_tallysets_k52_grammars_refused.main.body.getD i (.Pass ⟨0, 0, 0, 0⟩)
abbrev s_signs_in : Stmt := topS 12
theorem sc_signs_in : FnScope ["right", "one"] ["right"] (defScope s_signs_in) := ⟨rfl, rfl, rfl, by decide +kernel, rfl, by decide +kernel, by decide +kernel⟩
abbrev s_read_rule : Stmt := topS 13
theorem sc_read_rule : FnScope ["word", "letters", "one", "sign", "middle", "right"] ["word", "letters"] (defScope s_read_rule) := ⟨rfl, rfl, rfl, by decide +kernel, rfl, by decide +kernel, by decide +kernel⟩
abbrev s_read_grammar : Stmt := topS 14
theorem sc_read_grammar : FnScope ["text", "words", "many", "word"] ["text"] (defScope s_read_grammar) := ⟨rfl, rfl, rfl, by decide +kernel, rfl, by decide +kernel, by decide +kernel⟩
abbrev s__law_deck : Stmt := topS 16
theorem sc__law_deck : FnScope ["_law_cells", "_law_many", "_law_deck_here", "_law_seed", "_law_cell"] ["_law_cells", "_law_many"] (defScope s__law_deck) := ⟨rfl, rfl, rfl, by decide +kernel, rfl, by decide +kernel, by decide +kernel⟩
abbrev s__law_right : Stmt := topS 17
theorem sc__law_right : FnScope ["_law_deck_here", "_law_many", "_law_signs", "_law_most", "_law_cell", "_law_right_here", "_law_left", "_law_k"] ["_law_deck_here", "_law_many", "_law_signs", "_law_most"] (defScope s__law_right) := ⟨rfl, rfl, rfl, by decide +kernel, rfl, by decide +kernel, by decide +kernel⟩
abbrev s__law_refused : Stmt := topS 18
theorem sc__law_refused : FnScope ["_law_text_here", "_law_own", "error"] ["_law_text_here"] (defScope s__law_refused) := ⟨rfl, rfl, rfl, by decide +kernel, rfl, by decide +kernel, by decide +kernel⟩
abbrev s__law_text : Stmt := topS 19
theorem sc__law_text : FnScope ["_law_many", "_law_rules", "_law_sign", "_law_right_here"] ["_law_many", "_law_rules"] (defScope s__law_text) := ⟨rfl, rfl, rfl, by decide +kernel, rfl, by decide +kernel, by decide +kernel⟩
abbrev s__law_bad_right : Stmt := topS 20
theorem sc__law_bad_right : FnScope ["_law_right_here", "_law_many", "_law_cell", "_law_at", "_law_way", "_law_odd"] ["_law_right_here", "_law_many", "_law_cell"] (defScope s__law_bad_right) := ⟨rfl, rfl, rfl, by decide +kernel, rfl, by decide +kernel, by decide +kernel⟩
abbrev s__law_bad_rule : Stmt := topS 21
theorem sc__law_bad_rule : FnScope ["_law_rule", "_law_many", "_law_cell", "_law_way", "_law_sign", "_law_right_here"] ["_law_rule", "_law_many", "_law_cell"] (defScope s__law_bad_rule) := ⟨rfl, rfl, rfl, by decide +kernel, rfl, by decide +kernel, by decide +kernel⟩
abbrev s__law_faulty : Stmt := topS 22
theorem sc__law_faulty : FnScope ["_law_many", "_law_rules", "_law_way", "_law_cell", "_law_text_here", "_law_at", "_law_words", "_law_place", "_law_sign", "_law_right_here"] ["_law_many", "_law_rules", "_law_way", "_law_cell"] (defScope s__law_faulty) := ⟨rfl, rfl, rfl, by decide +kernel, rfl, by decide +kernel, by decide +kernel⟩
abbrev s_law : Stmt := topS 23
theorem sc_law : FnScope ["_law_script", "_law_deck_here", "_law_many", "_law_rules", "_law_k", "_law_good", "_law_cell", "_law_sign", "_law_number"] ["_law_script"] (defScope s_law) := ⟨rfl, rfl, rfl, by decide +kernel, rfl, by decide +kernel, by decide +kernel⟩
structure NB (mg : Str → Option Value) : Prop where
  ValueError : mg "ValueError" = none
  int : mg "int" = none
  isinstance : mg "isinstance" = none
  len : mg "len" = none
  list : mg "list" = none
  min : mg "min" = none
  range : mg "range" = none
  str : mg "str" = none
  tuple : mg "tuple" = none
structure Er (K : PySem.W.Frag) (mg : Str → Option Value) (C_TallyError C_NoTally C_NoFan C_NoText C_NoTree C_TooGreat : Addr) : Prop where
  g_TallyError : mg "TallyError" = some (.ref C_TallyError)
  g_NoTally : mg "NoTally" = some (.ref C_NoTally)
  g_NoFan : mg "NoFan" = some (.ref C_NoFan)
  g_NoText : mg "NoText" = some (.ref C_NoText)
  g_NoTree : mg "NoTree" = some (.ref C_NoTree)
  g_TooGreat : mg "TooGreat" = some (.ref C_TooGreat)
  e_NoText : ErrC K mg "NoText" C_NoText
  EA : AskOk K mg (ask1 "NoText") C_TallyError C_NoText [C_NoTally, C_NoFan, C_NoTree, C_TooGreat]
structure Cs (K : PySem.W.Frag) (mg : Str → Option Value) : Prop where
  g_LETTERS : ∃ t, mg "LETTERS" = some (.str "abcd" t)
  g_PLACES_MOST : ∃ t, mg "PLACES_MOST" = some (.int 4 t)
  g_RULES_MOST : ∃ t, mg "RULES_MOST" = some (.int 8 t)
  g_SIGNS : ∃ t, mg "SIGNS" = some (.str "CBA" t)
def c_signs_in_0 : Mx W := mComp [1] (mWalk (mVar 0)) (bdN 1 1) (tst (m2 (gInS false) (mVar 1) (mC (.str "CBA")))) (mVar 1)
def f_signs_in : List B → FO := mkFn 1 2 (sRet (c_signs_in_0))
def b_read_rule_0 : Mx Fl := sIf (mAndT (tst (m2 (gInS true) (mVar 2) (mC (.str "CBA")))) (tst (m2 (gInS true) (mVar 2) (mVar 1)))) (sRaise "NoText") (sNext)
def l_read_rule_0 : Mx Fl := sFor (mWalk (mVar 5)) (bdN 2 2) b_read_rule_0
def f_read_rule : List B → FO := mkFn 2 6 (sSeq (sUnp (mStr1 gsPart (mVar 0) (mC (.str "="))) (bdT [bdN 2 3, bdN 2 4, bdN 2 5])) (sSeq (sIf (mOrT (tst (m2 gNe (mArgs gLen (aCons (mVar 3) (aNil))) (mC (.int 1)))) (mOrT (tst (m2 (gInS true) (mVar 3) (mC (.str "CBA")))) (mOrT (tst (m2 gNe (mVar 4) (mC (.str "=")))) (tst (m2 gGt (mArgs gLen (aCons (mVar 5) (aNil))) (mC (.int 4))))))) (sRaise "NoText") (sNext)) (sSeq (l_read_rule_0) (sSeq (sIf (tst (m2 gGt (mArgs gLen (aCons (mCall f_signs_in (aCons (mVar 5) (aNil))) (aNil))) (mC (.int 2)))) (sRaise "NoText") (sNext)) (sRet (mArgs gTup (aCons (mVar 3) (aCons (mVar 5) (aNil)))))))))
def c_read_grammar_0 : Mx W := mCompX [3] (mWalk (mSl (mVar 1) (oSome (mC (.int 1))) (oNone))) (bdN 1 3) (tYesM) (mCall f_read_rule (aCons (mVar 3) (aCons (mSl (mC (.str "abcd")) (oNone) (oSome (mVar 2))) (aNil))))
def f_read_grammar : List B → FO := mkFn 1 4 (sSeq (sSet 1 1 (mStr1 gsSplit (mVar 0) (mC (.str ";")))) (sSeq (sIf (mOrT (tst (m2 (gInTS true) (m2 gIxA (mVar 1) (mC (.int 0))) (mArgs gTup (aCons (mC (.str "1")) (aCons (mC (.str "2")) (aCons (mC (.str "3")) (aCons (mC (.str "4")) (aNil)))))))) (mNotT (tst (mChain gLe gLe (mC (.int 2)) (mArgs gLen (aCons (mVar 1) (aNil))) (m2 gAdd (mC (.int 8)) (mC (.int 1))))))) (sRaise "NoText") (sNext)) (sSeq (sSet 1 2 (mArgs gInt (aCons (m2 gIxA (mVar 1) (mC (.int 0))) (aNil)))) (sRet (mArgs gTup (aCons (mVar 2) (aCons (mArgs gTuple (aCons (c_read_grammar_0) (aNil))) (aNil))))))))
def c__law_deck_0 : Mx W := mComp [4] (mWalk (mSl (mVar 0) (oNone) (oSome (mVar 1)))) (bdN 2 4) (tYesM) (m2 gMod (mVar 4) (m2 gPow (mC (.int 10)) (mC (.int 18))))
def b__law_deck_0 : Mx Fl := sSet 2 3 (m2 gMod (m2 gAdd (m2 gMulC (mVar 3) (mC (.int 797))) (mVar 4)) (mC (.int 999999929)))
def l__law_deck_0 : Mx Fl := sFor (mWalk (mVar 2)) (bdN 2 4) b__law_deck_0
def t__law_deck_1 : Mx Bool := tst (m2 gLt (mArgs gLen (aCons (mVar 2) (aNil))) (mVar 1))
def b__law_deck_1 : Mx Fl := sSeq (sSet 2 3 (m2 gMod (m2 gAdd (m2 gMulC (mVar 3) (mC (.int 69621))) (mC (.int 5))) (mC (.int 2147483629)))) (sExpr (mMeth gApp (mVar 2) (aCons (mVar 3) (aNil))))
def l__law_deck_1 : Mx Fl := sWhile t__law_deck_1 b__law_deck_1
def f__law_deck : List B → FO := mkFn 2 5 (sSeq (sSet 2 2 (c__law_deck_0)) (sSeq (sSet 2 3 (m2 gAdd (mC (.int 1013)) (m2 gMulC (mC (.int 7)) (mArgs gLen (aCons (mVar 2) (aNil)))))) (sSeq (l__law_deck_0) (sSeq (l__law_deck_1) (sSeq (sExpr (mMeth gRev (mVar 2) (aNil))) (sRet (mVar 2)))))))
def b__law_right_0 : Mx Fl := sSeq (sSet 4 4 (m2 gMod (m2 gAdd (m2 gMulC (m2 gDivW (mVar 4) (mC (.int 5))) (mC (.int 48271))) (m2 gMulC (mC (.int 7)) (mVar 7))) (mC (.int 2147483629)))) (sIf (mAndT (tst (m2 gEq (m2 gMod (mVar 4) (mC (.int 3))) (mC (.int 1)))) (mAndT (tst (m2 gGt (mVar 6) (mC (.int 0)))) (tst (m2 gNe (mVar 2) (mC (.str "")))))) (sSeq (sSet 4 5 (m2 gAdd (mVar 5) (m2 gIxA (mVar 2) (m2 gMod (m2 gDivW (mVar 4) (mC (.int 3))) (mArgs gLen (aCons (mVar 2) (aNil))))))) (sSet 4 6 (m2 gSub (mVar 6) (mC (.int 1))))) (sSet 4 5 (m2 gAdd (mVar 5) (m2 gIxA (mC (.str "abcd")) (m2 gMod (m2 gDivW (mVar 4) (mC (.int 3))) (mVar 1))))))
def l__law_right_0 : Mx Fl := sFor (mRng1 (aCons (m2 gMod (mVar 4) (m2 gAdd (mVar 3) (mC (.int 1)))) (aNil))) (bdN 4 7) b__law_right_0
def f__law_right : List B → FO := mkFn 4 8 (sSeq (sSet 4 4 (mMeth gPop (mVar 0) (aNil))) (sSeq (sSet 4 5 (mC (.str ""))) (sSeq (sSet 4 6 (mC (.int 2))) (sSeq (l__law_right_0) (sRet (mVar 5))))))
def f__law_refused : List B → FO := mkFn 1 3 (sSeq (sSet 1 1 (mArgs gLst (aNil))) (sSeq (sTry 1 1 2 (ask1 "NoText") (sExpr (mCall f_read_grammar (aCons (mVar 0) (aNil))))) (sRet (m2 gEq (mVar 1) (mArgs gLst (aCons (mC (.bool true)) (aCons (mC (.bool true)) (aCons (mC (.bool false)) (aNil)))))))))
def c__law_text_0 : Mx W := mComp [2, 3] (mWalk (mVar 1)) (bdT [bdN 2 2, bdN 2 3]) (tYesM) (m2 gAdd (m2 gAdd (mVar 2) (mC (.str "="))) (mVar 3))
def f__law_text : List B → FO := mkFn 2 4 (sRet (mStr1 gsJoin (mC (.str ";")) (m2 gAdd (mArgs gLst (aCons (mArgs gStr (aCons (mVar 0) (aNil))) (aNil))) (c__law_text_0))))
def f__law_bad_right : List B → FO := mkFn 3 6 (sSeq (sSet 3 3 (m2 gMod (m2 gDivW (mVar 2) (mC (.int 7))) (m2 gAdd (mArgs gLen (aCons (mVar 0) (aNil))) (mC (.int 1))))) (sSeq (sSet 3 4 (m2 gMod (mVar 2) (mC (.int 7)))) (sSeq (sIf (tst (m2 gEq (mVar 4) (mC (.int 0)))) (sRet (m2 gMulA5 (mC (.str "a")) (mC (.int 5)))) (sNext)) (sSeq (sIf (tst (m2 gEq (mVar 4) (mC (.int 1)))) (sRet (m2 gIxA (mArgs gLst (aCons (mC (.str "CBA")) (aCons (mC (.str "AAA")) (aCons (mC (.str "BaBB")) (aCons (mC (.str "CCBa")) (aNil)))))) (m2 gMod (m2 gDivW (mVar 2) (mC (.int 70))) (mC (.int 4))))) (sNext)) (sSeq (sIf (mAndT (tst (m2 gEq (mVar 4) (mC (.int 2)))) (tst (m2 gLt (mVar 1) (mC (.int 4))))) (sRet (m2 gAdd (m2 gAdd (mSl (mVar 0) (oNone) (oSome (mArgs gMin2 (aCons (mVar 3) (aCons (mC (.int 3)) (aNil)))))) (m2 gIxA (mC (.str "bcd")) (m2 gSub (mVar 1) (mC (.int 1))))) (mSl (mVar 0) (oSome (mArgs gMin2 (aCons (mVar 3) (aCons (mC (.int 3)) (aNil))))) (oSome (mC (.int 3)))))) (sNext)) (sSeq (sSet 3 5 (m2 gIxA (mArgs gLst (aCons (mC (.str "e")) (aCons (mC (.str "0")) (aCons (mC (.str "D")) (aCons (mC (.str "+")) (aCons (mC (.str ",")) (aCons (mC (.str "_")) (aCons (mC (.str "=")) (aCons (mC (.str "Z")) (aCons (mC (.str "-")) (aCons (mC (.str "(")) (aCons (mC (.str ".")) (aCons (mC (.str "z")) (aNil)))))))))))))) (m2 gMod (m2 gDivW (mVar 2) (mC (.int 70))) (mC (.int 12))))) (sRet (m2 gAdd (m2 gAdd (mSl (mVar 0) (oNone) (oSome (mArgs gMin2 (aCons (mVar 3) (aCons (mC (.int 3)) (aNil)))))) (mVar 5)) (mSl (mVar 0) (oSome (mArgs gMin2 (aCons (mVar 3) (aCons (mC (.int 3)) (aNil))))) (oSome (mC (.int 3))))))))))))
def f__law_bad_rule : List B → FO := mkFn 3 6 (sSeq (sUnp (mVar 0) (bdT [bdN 3 4, bdN 3 5])) (sSeq (sSet 3 3 (m2 gMod (mVar 2) (mC (.int 4)))) (sSeq (sIf (tst (m2 gEq (mVar 3) (mC (.int 0)))) (sRet (m2 gAdd (m2 gAdd (m2 gIxA (mArgs gLst (aCons (mC (.str "D")) (aCons (mC (.str "a")) (aCons (mC (.str "")) (aCons (mC (.str "AB")) (aCons (mC (.str "1")) (aCons (mC (.str "=")) (aCons (mC (.str "A ")) (aCons (mC (.str "CBA")) (aNil)))))))))) (m2 gMod (m2 gDivW (mVar 2) (mC (.int 4))) (mC (.int 8)))) (mC (.str "="))) (mVar 5))) (sNext)) (sSeq (sIf (tst (m2 gEq (mVar 3) (mC (.int 1)))) (sRet (m2 gAdd (m2 gAdd (mVar 4) (m2 gIxA (mArgs gLst (aCons (mC (.str "")) (aCons (mC (.str "==")) (aCons (mC (.str ":")) (aCons (mC (.str "=A=")) (aCons (mC (.str " = ")) (aNil))))))) (m2 gMod (m2 gDivW (mVar 2) (mC (.int 4))) (mC (.int 5))))) (mVar 5))) (sNext)) (sRet (m2 gAdd (m2 gAdd (mVar 4) (mC (.str "="))) (mCall f__law_bad_right (aCons (mVar 5) (aCons (mVar 1) (aCons (m2 gDivW (mVar 2) (mC (.int 4))) (aNil)))))))))))
def c__law_faulty_0 : Mx W := mComp [8, 9] (mWalk (mVar 1)) (bdT [bdN 4 8, bdN 4 9]) (tYesM) (m2 gAdd (m2 gAdd (mVar 8) (mC (.str "="))) (mVar 9))
def f__law_faulty : List B → FO := mkFn 4 10 (sSeq (sSet 4 4 (mCall f__law_text (aCons (mVar 0) (aCons (mVar 1) (aNil))))) (sSeq (sSet 4 5 (m2 gMod (mVar 3) (mArgs gLen (aCons (mVar 1) (aNil))))) (sSeq (sIf (tst (m2 gEq (mVar 2) (mC (.int 0)))) (sRet (m2 gAdd (m2 gIxA (mArgs gLst (aCons (mC (.str "0")) (aCons (mC (.str "5")) (aCons (mC (.str "")) (aCons (mC (.str "11")) (aCons (mC (.str "01")) (aCons (mC (.str "a")) (aCons (mC (.str "-1")) (aCons (mC (.str "2 ")) (aNil)))))))))) (m2 gMod (mVar 3) (mC (.int 8)))) (mSl (mVar 4) (oSome (mC (.int 1))) (oNone)))) (sNext)) (sSeq (sIf (tst (m2 gEq (mVar 2) (mC (.int 1)))) (sRet (m2 gIxA (mArgs gLst (aCons (mArgs gStr (aCons (mVar 0) (aNil))) (aCons (m2 gAdd (mArgs gStr (aCons (mVar 0) (aNil))) (mC (.str ";"))) (aCons (mStr1 gsJoin (mC (.str ";")) (m2 gAdd (mArgs gLst (aCons (mArgs gStr (aCons (mVar 0) (aNil))) (aNil))) (m2 gMulC (mArgs gLst (aCons (mC (.str "A=a")) (aNil))) (mC (.int 9))))) (aCons (mSl (mVar 4) (oSome (mC (.int 2))) (oNone)) (aCons (mC (.str "")) (aNil))))))) (m2 gMod (mVar 3) (mC (.int 5))))) (sNext)) (sSeq (sIf (tst (m2 gEq (mVar 2) (mC (.int 2)))) (sSeq (sSet 4 7 (m2 gMod (m2 gDivW (mVar 3) (mC (.int 11))) (m2 gAdd (mArgs gLen (aCons (mVar 4) (aNil))) (mC (.int 1))))) (sRet (m2 gAdd (m2 gAdd (mSl (mVar 4) (oNone) (oSome (mVar 7))) (m2 gIxA (mArgs gLst (aCons (mC (.str " ")) (aCons (mC (.str "\n")) (aCons (mC (.str ";;")) (aCons (mC (.str "	")) (aCons (mC (.str "/")) (aNil))))))) (m2 gMod (mVar 3) (mC (.int 5))))) (mSl (mVar 4) (oSome (mVar 7)) (oNone))))) (sNext)) (sSeq (sIf (tst (m2 gEq (mVar 2) (mC (.int 3)))) (sRet (m2 gIxA (mArgs gLst (aCons (m2 gAdd (mVar 4) (mC (.str ";"))) (aCons (m2 gAdd (mC (.str ";")) (mVar 4)) (aCons (m2 gAdd (mVar 4) (mC (.str " "))) (aCons (m2 gAdd (mC (.str " ")) (mVar 4)) (aCons (m2 gAdd (mVar 4) (mC (.str "\n"))) (aNil))))))) (m2 gMod (mVar 3) (mC (.int 5))))) (sNext)) (sSeq (sSet 4 6 (c__law_faulty_0)) (sSeq (sPut (mVar 6) (mVar 5) (mCall f__law_bad_rule (aCons (m2 gIxA (mVar 1) (mVar 5)) (aCons (mVar 0) (aCons (m2 gDivW (mVar 3) (mC (.int 9))) (aNil)))))) (sRet (mStr1 gsJoin (mC (.str ";")) (m2 gAdd (mArgs gLst (aCons (mArgs gStr (aCons (mVar 0) (aNil))) (aNil))) (mVar 6))))))))))))
def b_law_0 : Mx Fl := sSeq (sSet 1 7 (m2 gIxA (mC (.str "CBA")) (m2 gMod (mMeth gPop (mVar 1) (aNil)) (mC (.int 3))))) (sExpr (mMeth gApp (mVar 3) (aCons (mArgs gTup (aCons (mVar 7) (aCons (mCall f__law_right (aCons (mVar 1) (aCons (mVar 2) (aCons (mC (.str "CBA")) (aCons (mC (.int 4)) (aNil)))))) (aNil)))) (aNil))))
def l_law_0 : Mx Fl := sFor (mRng1 (aCons (m2 gAdd (mC (.int 1)) (m2 gMod (mMeth gPop (mVar 1) (aNil)) (mC (.int 8)))) (aNil))) (bdN 1 4) b_law_0
def c_law_0 : Mx W := mComp [6] (mWalk (mSl (mVar 0) (oNone) (oSome (mC (.int 40))))) (bdN 1 6) (tYesM) (m2 gMod (mVar 6) (m2 gPow (mC (.int 10)) (mC (.int 18))))
def b_law_1 : Mx Fl := sSeq (sSet 1 8 (m2 gMod (m2 gAdd (m2 gAdd (m2 gMulC (mVar 6) (mC (.int 39373))) (mArgs gLen (aCons (mVar 3) (aNil)))) (mC (.int 1))) (mC (.int 2147483629)))) (sSeq (sIf (mNotT (tst (mCall f__law_refused (aCons (mCall f__law_faulty (aCons (mVar 2) (aCons (mVar 3) (aCons (m2 gMod (mVar 8) (mC (.int 7))) (aCons (m2 gDivW (mVar 8) (mC (.int 7))) (aNil)))))) (aNil))))) (sRet (mC (.bool false))) (sNext)) (sIf (tst (m2 gNe (mCall f_read_grammar (aCons (mVar 5) (aNil))) (mArgs gTup (aCons (mVar 2) (aCons (mArgs gTuple (aCons (mVar 3) (aNil))) (aNil)))))) (sRet (mC (.bool false))) (sNext)))
def l_law_1 : Mx Fl := sFor (mWalk (m2 gAdd (mListRange (mC (.int 12))) (c_law_0))) (bdN 1 6) b_law_1
def f_law : List B → FO := mkFn 1 9 (sSeq (sSet 1 1 (mCall f__law_deck (aCons (mSl (mVar 0) (oNone) (oSome (mC (.int 63)))) (aCons (mC (.int 72)) (aNil))))) (sSeq (sSet 1 2 (m2 gAdd (mC (.int 1)) (m2 gMod (mMeth gPop (mVar 1) (aNil)) (mC (.int 4))))) (sSeq (sSet 1 3 (mArgs gLst (aNil))) (sSeq (l_law_0) (sSeq (sSet 1 5 (mCall f__law_text (aCons (mVar 2) (aCons (mVar 3) (aNil))))) (sSeq (l_law_1) (sRet (mC (.bool true)))))))))
section
variable {P : Program} {w : World} {K : PySem.W.Frag} {mg : Str → Option Value} {base : Heap}
theorem ok_signs_in (D : Df K mg "signs_in" s_signs_in ["right"]) (Z : NB mg)  (C : Cs K mg)  : Okd P w K mg base 1 "signs_in" ["right"] f_signs_in := by
  exact df_ok D sc_signs_in rfl fun fa cdv A outer s H E hr => dss_one (ds_ret (de_comp (own := [("one", 1)]) rfl sc_signs_in.nd (di_seq (de_var 0) rfl) (blkOk_by (N := ["right", "one"]) (sc := defScope s_signs_in) (by decide +kernel)) (fun _ _ _ _ _ => pg_name (i := 1) sc_signs_in.nd rfl (by first | exact .inl rfl | exact .inr rfl)) (okGw_name (i := 1) (by decide)) rfl (fun _ _ _ _ _ => dts_one (dt_cmp op_in_sign ok_inS (de_var 1) (de_globS C.g_SIGNS) (by with_unfolding_all rfl))) (fun _ _ _ _ _ => de_var 1)))
theorem ok_read_rule (D : Df K mg "read_rule" s_read_rule ["word", "letters"]) (Z : NB mg) {C_TallyError C_NoTally C_NoFan C_NoText C_NoTree C_TooGreat : Addr} (Er_ : Er K mg C_TallyError C_NoTally C_NoFan C_NoText C_NoTree C_TooGreat) (C : Cs K mg) (h_signs_in : Okd P w K mg base 1 "signs_in" ["right"] f_signs_in) : Okd P w K mg base 2 "read_rule" ["word", "letters"] f_read_rule := by
  obtain ⟨_, _, G_signs_in, b_signs_in, m_signs_in, k_signs_in⟩ := h_signs_in
  exact df_ok D sc_read_rule rfl fun fa cdv A outer s H E hr => dss_cons (ds_unp (de_str1 PySem.F.slot_str_partition PySem.F.type_str_partition mt_partition ok_part (de_var 0) (de_str)) (pg_tup rfl (pgs_cons (pg_name (i := 3) sc_read_rule.nd rfl (by first | exact .inl rfl | exact .inr rfl)) (pgs_cons (pg_name (i := 4) sc_read_rule.nd rfl (by first | exact .inl rfl | exact .inr rfl)) (pgs_cons (pg_name (i := 5) sc_read_rule.nd rfl (by first | exact .inl rfl | exact .inr rfl)) (pgs_nil))))) (OkGw.ok (vs := [3, 4, 5]) (okGw_tup (okGs_cons (okGw_name (i := 3) (by decide)) (okGs_cons (okGw_name (i := 4) (by decide)) (okGs_cons (okGw_name (i := 5) (by decide)) (okGs_nil)))) rfl))) (dss_cons (ds_if ((dw_or (dt_cmp (op_neD hr.units) ok_ne (de_callB (CallR.or call_len_seq call_len_str) ok_len Z.len PySem.boot_len (da_cons (de_var 3) (da_nil))) (de_int) (nomark _)) (dw_or (dt_cmp op_notIn_sign ok_notInS (de_var 3) (de_globS C.g_SIGNS) (by with_unfolding_all rfl)) (dw_or (dt_cmp (op_neD hr.units) ok_ne (de_var 4) (de_str) (nomark _)) (dw_or1 (dt_cmp op_gt ok_gt (de_callB (CallR.or call_len_seq call_len_str) ok_len Z.len PySem.boot_len (da_cons (de_var 5) (da_nil))) (de_globI C.g_PLACES_MOST) (nomark _)))))).dt) (dss_one (ds_raise Er_.e_NoText rfl (takes_of rfl rfl rfl rfl) rfl)) (dss_nil)) (dss_cons (ds_for (passes_of rfl) rfl (di_seq (de_var 5) rfl) (pg_name (i := 2) sc_read_rule.nd rfl (by first | exact .inl rfl | exact .inr rfl)) (okG_name) (dss_one (ds_if ((dw_and (dt_cmp op_notIn_sign ok_notInS (de_var 2) (de_globS C.g_SIGNS) (by with_unfolding_all rfl)) (dw_and1 (dt_cmp op_notIn_sign ok_notInS (de_var 2) (de_var 1) (by with_unfolding_all rfl)))).dt) (dss_one (ds_raise Er_.e_NoText rfl (takes_of rfl rfl rfl rfl) rfl)) (dss_nil)))) (dss_cons (ds_if (dt_cmp op_gt ok_gt (de_callB (CallR.or call_len_seq call_len_str) ok_len Z.len PySem.boot_len (da_cons (de_call G_signs_in (hr.mono (by decide)) m_signs_in k_signs_in b_signs_in (takes_of rfl rfl rfl rfl) (da_cons (de_var 5) (da_nil))) (da_nil))) (de_int) (nomark _)) (dss_one (ds_raise Er_.e_NoText rfl (takes_of rfl rfl rfl rfl) rfl)) (dss_nil)) (dss_one (ds_ret (de_tup (da_cons (de_var 3) (da_cons (de_var 5) (da_nil)))))))))
theorem ok_read_grammar (D : Df K mg "read_grammar" s_read_grammar ["text"]) (Z : NB mg) {C_TallyError C_NoTally C_NoFan C_NoText C_NoTree C_TooGreat : Addr} (Er_ : Er K mg C_TallyError C_NoTally C_NoFan C_NoText C_NoTree C_TooGreat) (C : Cs K mg) (h_read_rule : Okd P w K mg base 2 "read_rule" ["word", "letters"] f_read_rule) : Okd P w K mg base 3 "read_grammar" ["text"] f_read_grammar := by
  obtain ⟨_, _, G_read_rule, b_read_rule, m_read_rule, k_read_rule⟩ := h_read_rule
  exact df_ok D sc_read_grammar rfl fun fa cdv A outer s H E hr => dss_cons (ds_set 1 sc_read_grammar.nd (de_str1 PySem.F.slot_str_split PySem.F.type_str_split mt_split ok_split (de_var 0) (de_str))) (dss_cons (ds_if ((dw_or (dt_cmp op_notIn_seq (ok_inTS true) (de_ix (ix_seq.or (ix_tab (u1 hr))) ok_ixA (de_var 1) (de_int) (fun _ _ => rfl)) (de_tup (da_cons (de_str) (da_cons (de_str) (da_cons (de_str) (da_cons (de_str) (da_nil)))))) (by with_unfolding_all rfl)) (dw_or1 (dt_not (dt_chain op_le op_le ok_le ok_le (de_int) (de_callB (CallR.or call_len_seq call_len_str) ok_len Z.len PySem.boot_len (da_cons (de_var 1) (da_nil))) (de_op op_addAll ok_add (de_globI C.g_RULES_MOST) (de_int)))))).dt) (dss_one (ds_raise Er_.e_NoText rfl (takes_of rfl rfl rfl rfl) rfl)) (dss_nil)) (dss_cons (ds_set 2 sc_read_grammar.nd (de_callTy call_intAll ok_int Z.int boot_int (da_cons (de_ix (ix_seq.or (ix_tab (u1 hr))) ok_ixA (de_var 1) (de_int) (fun _ _ => rfl)) (da_nil)))) (dss_one (ds_ret (de_tup (da_cons (de_var 2) (da_cons (de_callTy call_tuple_of ok_tuple Z.tuple boot_tuple (da_cons (de_compX (own := [("word", 3)]) (takes_of rfl rfl rfl rfl) rfl sc_read_grammar.nd (di_seq (de_slice (de_var 1) (do_some (de_int)) (do_none) rfl) rfl) (blkOk_by (N := ["text", "words", "many", "word"]) (sc := defScope s_read_grammar) (by decide +kernel)) (fun _ _ _ _ _ => pg_name (i := 3) sc_read_grammar.nd rfl (by first | exact .inl rfl | exact .inr rfl)) (okGw_name (i := 3) (by decide)) rfl (fun _ _ _ _ _ => dts_nil) (fun _ _ _ _ _ _ _ pa => de_callP G_read_rule (hr.mono (by decide)) m_read_rule k_read_rule b_read_rule pa (da_cons (de_var 3) (da_cons (de_slice (de_globS C.g_LETTERS) (do_none) (do_some (de_var 2)) rfl) (da_nil))))) (da_nil))) (da_nil))))))))
theorem ok__law_deck (D : Df K mg "_law_deck" s__law_deck ["_law_cells", "_law_many"]) (Z : NB mg)    : Okd P w K mg base 1 "_law_deck" ["_law_cells", "_law_many"] f__law_deck := by
  exact df_ok D sc__law_deck rfl fun fa cdv A outer s H E hr => dss_cons (ds_setLc 2 (own := [("_law_cell", 4)]) rfl sc__law_deck.nd (di_seq (de_slice (de_var 0) (do_none) (do_some (de_var 1)) rfl) rfl) (blkOk_by (N := ["_law_cells", "_law_many", "_law_deck_here", "_law_seed", "_law_cell"]) (sc := defScope s__law_deck) (by decide +kernel)) (fun _ _ _ _ _ => pg_name (i := 4) sc__law_deck.nd rfl (by first | exact .inl rfl | exact .inr rfl)) (okGw_name (i := 4) (by decide)) rfl (fun _ _ _ _ _ => dts_nil) (fun _ _ _ _ _ => de_op op_mod ok_mod (de_var 4) (de_op op_pow ok_pow (de_int) (de_int)))) (dss_cons (ds_set 3 sc__law_deck.nd (de_op op_addAll ok_add (de_int) (de_op op_mulC ok_mulC (de_int) (de_callB (CallR.or call_len_seq call_len_str) ok_len Z.len PySem.boot_len (da_cons (de_var 2) (da_nil)))))) (dss_cons (ds_for (passes_of rfl) rfl (di_seq (de_var 2) rfl) (pg_name (i := 4) sc__law_deck.nd rfl (by first | exact .inl rfl | exact .inr rfl)) (okG_name) (dss_one (ds_set 3 sc__law_deck.nd (de_op op_mod ok_mod (de_op op_addAll ok_add (de_op op_mulC ok_mulC (de_var 3) (de_int)) (de_var 4)) (de_int))))) (dss_cons (ds_while (passes_of rfl) (dt_cmp op_lt ok_lt (de_callB (CallR.or call_len_seq call_len_str) ok_len Z.len PySem.boot_len (da_cons (de_var 2) (da_nil))) (de_var 1) (nomark _)) (dss_cons (ds_set 3 sc__law_deck.nd (de_op op_mod ok_mod (de_op op_addAll ok_add (de_op op_mulC ok_mulC (de_var 3) (de_int)) (de_int)) (de_int))) (dss_one (ds_expr (de_meth PySem.F.slot_list_append PySem.F.type_list_append mt_append ok_app (de_var 2) (da_cons (de_var 3) (da_nil))))))) (dss_cons (ds_expr (de_meth0 PySem.F.slot_list_reverse PySem.F.type_list_reverse mt_reverse ok_rev (de_var 2))) (dss_one (ds_ret (de_var 2)))))))
theorem ok__law_right (D : Df K mg "_law_right" s__law_right ["_law_deck_here", "_law_many", "_law_signs", "_law_most"]) (Z : NB mg)    : Okd P w K mg base 1 "_law_right" ["_law_deck_here", "_law_many", "_law_signs", "_law_most"] f__law_right := by
  exact df_ok D sc__law_right rfl fun fa cdv A outer s H E hr => dss_cons (ds_set 4 sc__law_right.nd (de_meth0 PySem.F.slot_list_pop PySem.F.type_list_pop mt_pop ok_pop (de_var 0))) (dss_cons (ds_set 5 sc__law_right.nd (de_str)) (dss_cons (ds_set 6 sc__law_right.nd (de_int)) (dss_cons (ds_for (passes_of rfl) rfl (di_range1 Z.range (da_cons (de_op op_mod ok_mod (de_var 4) (de_op op_addAll ok_add (de_var 3) (de_int))) (da_nil))) (pg_name (i := 7) sc__law_right.nd rfl (by first | exact .inl rfl | exact .inr rfl)) (okG_name) (dss_cons (ds_set 4 sc__law_right.nd (de_op op_mod ok_mod (de_op op_addAll ok_add (de_op op_mulC ok_mulC (de_op op_fdivW ok_divW (de_var 4) (de_int)) (de_int)) (de_op op_mulC ok_mulC (de_int) (de_var 7))) (de_int))) (dss_one (ds_if ((dw_and (dt_cmp (op_eqD hr.units) ok_eq (de_op op_mod ok_mod (de_var 4) (de_int)) (de_int) (nomark _)) (dw_and (dt_cmp op_gt ok_gt (de_var 6) (de_int) (nomark _)) (dw_and1 (dt_cmp (op_neD hr.units) ok_ne (de_var 2) (de_str) (nomark _))))).dt) (dss_cons (ds_set 5 sc__law_right.nd (de_op op_addAll ok_add (de_var 5) (de_ix (ix_seq.or (ix_tab (u1 hr))) ok_ixA (de_var 2) (de_op op_mod ok_mod (de_op op_fdivW ok_divW (de_var 4) (de_int)) (de_callB (CallR.or call_len_seq call_len_str) ok_len Z.len PySem.boot_len (da_cons (de_var 2) (da_nil)))) (fun _ _ => rfl)))) (dss_one (ds_set 6 sc__law_right.nd (de_op op_sub ok_sub (de_var 6) (de_int))))) (dss_one (ds_set 5 sc__law_right.nd (de_op op_addAll ok_add (de_var 5) (de_ix (ix_seq.or (ix_tab (u1 hr))) ok_ixA (de_str) (de_op op_mod ok_mod (de_op op_fdivW ok_divW (de_var 4) (de_int)) (de_var 1)) (fun _ _ => rfl))))))))) (dss_one (ds_ret (de_var 5))))))
theorem ok__law_refused (D : Df K mg "_law_refused" s__law_refused ["_law_text_here"]) (Z : NB mg) {C_TallyError C_NoTally C_NoFan C_NoText C_NoTree C_TooGreat : Addr} (Er_ : Er K mg C_TallyError C_NoTally C_NoFan C_NoText C_NoTree C_TooGreat)  (h_read_grammar : Okd P w K mg base 3 "read_grammar" ["text"] f_read_grammar) : Okd P w K mg base 4 "_law_refused" ["_law_text_here"] f__law_refused := by
  obtain ⟨_, _, G_read_grammar, b_read_grammar, m_read_grammar, k_read_grammar⟩ := h_read_grammar
  exact df_ok D sc__law_refused rfl fun fa cdv A outer s H E hr => dss_cons (ds_set 1 sc__law_refused.nd (de_lst (da_nil))) (dss_cons (ds_try (o := 1) (i := 2) sc__law_refused.nd (takes_of rfl rfl rfl rfl) Er_.EA Er_.g_TallyError Z.isinstance Z.ValueError Er_.g_NoText Er_.g_NoTally Er_.g_NoFan Er_.g_NoTree Er_.g_TooGreat (by decide) rfl (fun _ _ _ tkb hpb => dss_one (ds_expr (de_call G_read_grammar (hr.mono (by decide)) m_read_grammar k_read_grammar b_read_grammar tkb (da_cons (de_var 0) (da_nil)))))) (dss_one (ds_ret (de_cmp (op_eqD hr.units) ok_eq (de_var 1) (de_lst (da_cons (de_bl) (da_cons (de_bl) (da_cons (de_bl) (da_nil))))) (nomark _)))))
theorem ok__law_text (D : Df K mg "_law_text" s__law_text ["_law_many", "_law_rules"]) (Z : NB mg)    : Okd P w K mg base 1 "_law_text" ["_law_many", "_law_rules"] f__law_text := by
  exact df_ok D sc__law_text rfl fun fa cdv A outer s H E hr => dss_one (ds_ret (de_str1 PySem.F.slot_str_join PySem.F.type_str_join mt_join ok_join (de_str) (de_op op_addAll ok_add (de_lst (da_cons (de_callTy call_strAll ok_str Z.str boot_str (da_cons (de_var 0) (da_nil))) (da_nil))) (de_comp (own := [("_law_sign", 2), ("_law_right_here", 3)]) rfl sc__law_text.nd (di_seq (de_var 1) rfl) (blkOk_by (N := ["_law_many", "_law_rules", "_law_sign", "_law_right_here"]) (sc := defScope s__law_text) (by decide +kernel)) (fun _ _ _ _ _ => pg_tup rfl (pgs_cons (pg_name (i := 2) sc__law_text.nd rfl (by first | exact .inl rfl | exact .inr rfl)) (pgs_cons (pg_name (i := 3) sc__law_text.nd rfl (by first | exact .inl rfl | exact .inr rfl)) (pgs_nil)))) (okGw_tup (okGs_cons (okGw_name (i := 2) (by decide)) (okGs_cons (okGw_name (i := 3) (by decide)) (okGs_nil))) rfl) rfl (fun _ _ _ _ _ => dts_nil) (fun _ _ _ _ _ => de_op op_addAll ok_add (de_op op_addAll ok_add (de_var 2) (de_str)) (de_var 3))))))
theorem ok__law_bad_right (D : Df K mg "_law_bad_right" s__law_bad_right ["_law_right_here", "_law_many", "_law_cell"]) (Z : NB mg)    : Okd P w K mg base 1 "_law_bad_right" ["_law_right_here", "_law_many", "_law_cell"] f__law_bad_right := by
  exact df_ok D sc__law_bad_right rfl fun fa cdv A outer s H E hr => dss_cons (ds_set 3 sc__law_bad_right.nd (de_op op_mod ok_mod (de_op op_fdivW ok_divW (de_var 2) (de_int)) (de_op op_addAll ok_add (de_callB (CallR.or call_len_seq call_len_str) ok_len Z.len PySem.boot_len (da_cons (de_var 0) (da_nil))) (de_int)))) (dss_cons (ds_set 4 sc__law_bad_right.nd (de_op op_mod ok_mod (de_var 2) (de_int))) (dss_cons (ds_if (dt_cmp (op_eqD hr.units) ok_eq (de_var 4) (de_int) (nomark _)) (dss_one (ds_ret (de_op op_mulA5 ok_mulA5 (de_str) (de_int)))) (dss_nil)) (dss_cons (ds_if (dt_cmp (op_eqD hr.units) ok_eq (de_var 4) (de_int) (nomark _)) (dss_one (ds_ret (de_ix (ix_seq.or (ix_tab (u1 hr))) ok_ixA (de_lst (da_cons (de_str) (da_cons (de_str) (da_cons (de_str) (da_cons (de_str) (da_nil)))))) (de_op op_mod ok_mod (de_op op_fdivW ok_divW (de_var 2) (de_int)) (de_int)) (fun _ _ => rfl)))) (dss_nil)) (dss_cons (ds_if ((dw_and (dt_cmp (op_eqD hr.units) ok_eq (de_var 4) (de_int) (nomark _)) (dw_and1 (dt_cmp op_lt ok_lt (de_var 1) (de_int) (nomark _)))).dt) (dss_one (ds_ret (de_op op_addAll ok_add (de_op op_addAll ok_add (de_slice (de_var 0) (do_none) (do_some (de_callB (call_min2 rfl) ok_I2 Z.min (by decide +kernel) (da_cons (de_var 3) (da_cons (de_int) (da_nil))))) rfl) (de_ix (ix_seq.or (ix_tab (u1 hr))) ok_ixA (de_str) (de_op op_sub ok_sub (de_var 1) (de_int)) (fun _ _ => rfl))) (de_slice (de_var 0) (do_some (de_callB (call_min2 rfl) ok_I2 Z.min (by decide +kernel) (da_cons (de_var 3) (da_cons (de_int) (da_nil))))) (do_some (de_int)) rfl)))) (dss_nil)) (dss_cons (ds_set 5 sc__law_bad_right.nd (de_ix (ix_seq.or (ix_tab (u1 hr))) ok_ixA (de_lst (da_cons (de_str) (da_cons (de_str) (da_cons (de_str) (da_cons (de_str) (da_cons (de_str) (da_cons (de_str) (da_cons (de_str) (da_cons (de_str) (da_cons (de_str) (da_cons (de_str) (da_cons (de_str) (da_cons (de_str) (da_nil)))))))))))))) (de_op op_mod ok_mod (de_op op_fdivW ok_divW (de_var 2) (de_int)) (de_int)) (fun _ _ => rfl))) (dss_one (ds_ret (de_op op_addAll ok_add (de_op op_addAll ok_add (de_slice (de_var 0) (do_none) (do_some (de_callB (call_min2 rfl) ok_I2 Z.min (by decide +kernel) (da_cons (de_var 3) (da_cons (de_int) (da_nil))))) rfl) (de_var 5)) (de_slice (de_var 0) (do_some (de_callB (call_min2 rfl) ok_I2 Z.min (by decide +kernel) (da_cons (de_var 3) (da_cons (de_int) (da_nil))))) (do_some (de_int)) rfl)))))))))
theorem ok__law_bad_rule (D : Df K mg "_law_bad_rule" s__law_bad_rule ["_law_rule", "_law_many", "_law_cell"]) (Z : NB mg)   (h__law_bad_right : Okd P w K mg base 1 "_law_bad_right" ["_law_right_here", "_law_many", "_law_cell"] f__law_bad_right) : Okd P w K mg base 2 "_law_bad_rule" ["_law_rule", "_law_many", "_law_cell"] f__law_bad_rule := by
  obtain ⟨_, _, G__law_bad_right, b__law_bad_right, m__law_bad_right, k__law_bad_right⟩ := h__law_bad_right
  exact df_ok D sc__law_bad_rule rfl fun fa cdv A outer s H E hr => dss_cons (ds_unp (de_var 0) (pg_tup rfl (pgs_cons (pg_name (i := 4) sc__law_bad_rule.nd rfl (by first | exact .inl rfl | exact .inr rfl)) (pgs_cons (pg_name (i := 5) sc__law_bad_rule.nd rfl (by first | exact .inl rfl | exact .inr rfl)) (pgs_nil)))) (OkGw.ok (vs := [4, 5]) (okGw_tup (okGs_cons (okGw_name (i := 4) (by decide)) (okGs_cons (okGw_name (i := 5) (by decide)) (okGs_nil))) rfl))) (dss_cons (ds_set 3 sc__law_bad_rule.nd (de_op op_mod ok_mod (de_var 2) (de_int))) (dss_cons (ds_if (dt_cmp (op_eqD hr.units) ok_eq (de_var 3) (de_int) (nomark _)) (dss_one (ds_ret (de_op op_addAll ok_add (de_op op_addAll ok_add (de_ix (ix_seq.or (ix_tab (u1 hr))) ok_ixA (de_lst (da_cons (de_str) (da_cons (de_str) (da_cons (de_str) (da_cons (de_str) (da_cons (de_str) (da_cons (de_str) (da_cons (de_str) (da_cons (de_str) (da_nil)))))))))) (de_op op_mod ok_mod (de_op op_fdivW ok_divW (de_var 2) (de_int)) (de_int)) (fun _ _ => rfl)) (de_str)) (de_var 5)))) (dss_nil)) (dss_cons (ds_if (dt_cmp (op_eqD hr.units) ok_eq (de_var 3) (de_int) (nomark _)) (dss_one (ds_ret (de_op op_addAll ok_add (de_op op_addAll ok_add (de_var 4) (de_ix (ix_seq.or (ix_tab (u1 hr))) ok_ixA (de_lst (da_cons (de_str) (da_cons (de_str) (da_cons (de_str) (da_cons (de_str) (da_cons (de_str) (da_nil))))))) (de_op op_mod ok_mod (de_op op_fdivW ok_divW (de_var 2) (de_int)) (de_int)) (fun _ _ => rfl))) (de_var 5)))) (dss_nil)) (dss_one (ds_ret (de_op op_addAll ok_add (de_op op_addAll ok_add (de_var 4) (de_str)) (de_call G__law_bad_right (hr.mono (by decide)) m__law_bad_right k__law_bad_right b__law_bad_right (takes_of rfl rfl rfl rfl) (da_cons (de_var 5) (da_cons (de_var 1) (da_cons (de_op op_fdivW ok_divW (de_var 2) (de_int)) (da_nil)))))))))))
theorem ok__law_faulty (D : Df K mg "_law_faulty" s__law_faulty ["_law_many", "_law_rules", "_law_way", "_law_cell"]) (Z : NB mg)   (h__law_bad_rule : Okd P w K mg base 2 "_law_bad_rule" ["_law_rule", "_law_many", "_law_cell"] f__law_bad_rule) (h__law_text : Okd P w K mg base 1 "_law_text" ["_law_many", "_law_rules"] f__law_text) : Okd P w K mg base 3 "_law_faulty" ["_law_many", "_law_rules", "_law_way", "_law_cell"] f__law_faulty := by
  obtain ⟨_, _, G__law_bad_rule, b__law_bad_rule, m__law_bad_rule, k__law_bad_rule⟩ := h__law_bad_rule
  obtain ⟨_, _, G__law_text, b__law_text, m__law_text, k__law_text⟩ := h__law_text
  exact df_ok D sc__law_faulty rfl fun fa cdv A outer s H E hr => dss_cons (ds_set 4 sc__law_faulty.nd (de_call G__law_text (hr.mono (by decide)) m__law_text k__law_text b__law_text (takes_of rfl rfl rfl rfl) (da_cons (de_var 0) (da_cons (de_var 1) (da_nil))))) (dss_cons (ds_set 5 sc__law_faulty.nd (de_op op_mod ok_mod (de_var 3) (de_callB (CallR.or call_len_seq call_len_str) ok_len Z.len PySem.boot_len (da_cons (de_var 1) (da_nil))))) (dss_cons (ds_if (dt_cmp (op_eqD hr.units) ok_eq (de_var 2) (de_int) (nomark _)) (dss_one (ds_ret (de_op op_addAll ok_add (de_ix (ix_seq.or (ix_tab (u1 hr))) ok_ixA (de_lst (da_cons (de_str) (da_cons (de_str) (da_cons (de_str) (da_cons (de_str) (da_cons (de_str) (da_cons (de_str) (da_cons (de_str) (da_cons (de_str) (da_nil)))))))))) (de_op op_mod ok_mod (de_var 3) (de_int)) (fun _ _ => rfl)) (de_slice (de_var 4) (do_some (de_int)) (do_none) rfl)))) (dss_nil)) (dss_cons (ds_if (dt_cmp (op_eqD hr.units) ok_eq (de_var 2) (de_int) (nomark _)) (dss_one (ds_ret (de_ix (ix_seq.or (ix_tab (u1 hr))) ok_ixA (de_lst (da_cons (de_callTy call_strAll ok_str Z.str boot_str (da_cons (de_var 0) (da_nil))) (da_cons (de_op op_addAll ok_add (de_callTy call_strAll ok_str Z.str boot_str (da_cons (de_var 0) (da_nil))) (de_str)) (da_cons (de_str1 PySem.F.slot_str_join PySem.F.type_str_join mt_join ok_join (de_str) (de_op op_addAll ok_add (de_lst (da_cons (de_callTy call_strAll ok_str Z.str boot_str (da_cons (de_var 0) (da_nil))) (da_nil))) (de_op op_mulC ok_mulC (de_lst (da_cons (de_str) (da_nil))) (de_int)))) (da_cons (de_slice (de_var 4) (do_some (de_int)) (do_none) rfl) (da_cons (de_str) (da_nil))))))) (de_op op_mod ok_mod (de_var 3) (de_int)) (fun _ _ => rfl)))) (dss_nil)) (dss_cons (ds_if (dt_cmp (op_eqD hr.units) ok_eq (de_var 2) (de_int) (nomark _)) (dss_cons (ds_set 7 sc__law_faulty.nd (de_op op_mod ok_mod (de_op op_fdivW ok_divW (de_var 3) (de_int)) (de_op op_addAll ok_add (de_callB (CallR.or call_len_seq call_len_str) ok_len Z.len PySem.boot_len (da_cons (de_var 4) (da_nil))) (de_int)))) (dss_one (ds_ret (de_op op_addAll ok_add (de_op op_addAll ok_add (de_slice (de_var 4) (do_none) (do_some (de_var 7)) rfl) (de_ix (ix_seq.or (ix_tab (u1 hr))) ok_ixA (de_lst (da_cons (de_str) (da_cons (de_str) (da_cons (de_str) (da_cons (de_str) (da_cons (de_str) (da_nil))))))) (de_op op_mod ok_mod (de_var 3) (de_int)) (fun _ _ => rfl))) (de_slice (de_var 4) (do_some (de_var 7)) (do_none) rfl))))) (dss_nil)) (dss_cons (ds_if (dt_cmp (op_eqD hr.units) ok_eq (de_var 2) (de_int) (nomark _)) (dss_one (ds_ret (de_ix (ix_seq.or (ix_tab (u1 hr))) ok_ixA (de_lst (da_cons (de_op op_addAll ok_add (de_var 4) (de_str)) (da_cons (de_op op_addAll ok_add (de_str) (de_var 4)) (da_cons (de_op op_addAll ok_add (de_var 4) (de_str)) (da_cons (de_op op_addAll ok_add (de_str) (de_var 4)) (da_cons (de_op op_addAll ok_add (de_var 4) (de_str)) (da_nil))))))) (de_op op_mod ok_mod (de_var 3) (de_int)) (fun _ _ => rfl)))) (dss_nil)) (dss_cons (ds_setLc 6 (own := [("_law_sign", 8), ("_law_right_here", 9)]) rfl sc__law_faulty.nd (di_seq (de_var 1) rfl) (blkOk_by (N := ["_law_many", "_law_rules", "_law_way", "_law_cell", "_law_text_here", "_law_at", "_law_words", "_law_place", "_law_sign", "_law_right_here"]) (sc := defScope s__law_faulty) (by decide +kernel)) (fun _ _ _ _ _ => pg_tup rfl (pgs_cons (pg_name (i := 8) sc__law_faulty.nd rfl (by first | exact .inl rfl | exact .inr rfl)) (pgs_cons (pg_name (i := 9) sc__law_faulty.nd rfl (by first | exact .inl rfl | exact .inr rfl)) (pgs_nil)))) (okGw_tup (okGs_cons (okGw_name (i := 8) (by decide)) (okGs_cons (okGw_name (i := 9) (by decide)) (okGs_nil))) rfl) rfl (fun _ _ _ _ _ => dts_nil) (fun _ _ _ _ _ => de_op op_addAll ok_add (de_op op_addAll ok_add (de_var 8) (de_str)) (de_var 9))) (dss_cons (ds_put (u1 hr) (de_var 6) (de_var 5) (de_call G__law_bad_rule (hr.mono (by decide)) m__law_bad_rule k__law_bad_rule b__law_bad_rule (takes_of rfl rfl rfl rfl) (da_cons (de_ix (ix_seq.or (ix_tab (u1 hr))) ok_ixA (de_var 1) (de_var 5) (fun _ _ => rfl)) (da_cons (de_var 0) (da_cons (de_op op_fdivW ok_divW (de_var 3) (de_int)) (da_nil)))))) (dss_one (ds_ret (de_str1 PySem.F.slot_str_join PySem.F.type_str_join mt_join ok_join (de_str) (de_op op_addAll ok_add (de_lst (da_cons (de_callTy call_strAll ok_str Z.str boot_str (da_cons (de_var 0) (da_nil))) (da_nil))) (de_var 6))))))))))))
theorem ok_law {f : Addr} {fd : FuncData} (F : Fun K "law" "law" s_law f fd) (Z : NB mg)   (h__law_deck : Okd P w K mg base 1 "_law_deck" ["_law_cells", "_law_many"] f__law_deck) (h__law_faulty : Okd P w K mg base 3 "_law_faulty" ["_law_many", "_law_rules", "_law_way", "_law_cell"] f__law_faulty) (h__law_refused : Okd P w K mg base 4 "_law_refused" ["_law_text_here"] f__law_refused) (h__law_right : Okd P w K mg base 1 "_law_right" ["_law_deck_here", "_law_many", "_law_signs", "_law_most"] f__law_right) (h__law_text : Okd P w K mg base 1 "_law_text" ["_law_many", "_law_rules"] f__law_text) (h_read_grammar : Okd P w K mg base 3 "read_grammar" ["text"] f_read_grammar) : FnOk P w K mg base (L2.CX P w) 5 f fd ["_law_script"] (spF K mg f_law) := by
  obtain ⟨_, _, G__law_deck, b__law_deck, m__law_deck, k__law_deck⟩ := h__law_deck
  obtain ⟨_, _, G__law_faulty, b__law_faulty, m__law_faulty, k__law_faulty⟩ := h__law_faulty
  obtain ⟨_, _, G__law_refused, b__law_refused, m__law_refused, k__law_refused⟩ := h__law_refused
  obtain ⟨_, _, G__law_right, b__law_right, m__law_right, k__law_right⟩ := h__law_right
  obtain ⟨_, _, G__law_text, b__law_text, m__law_text, k__law_text⟩ := h__law_text
  obtain ⟨_, _, G_read_grammar, b_read_grammar, m_read_grammar, k_read_grammar⟩ := h_read_grammar
  exact fn_ok F sc_law rfl fun cdv A outer s H E hr => dss_cons (ds_set 1 sc_law.nd (de_call G__law_deck (hr.mono (by decide)) m__law_deck k__law_deck b__law_deck (takes_of rfl rfl rfl rfl) (da_cons (de_slice (de_var 0) (do_none) (do_some (de_int)) rfl) (da_cons (de_int) (da_nil))))) (dss_cons (ds_set 2 sc_law.nd (de_op op_addAll ok_add (de_int) (de_op op_mod ok_mod (de_meth0 PySem.F.slot_list_pop PySem.F.type_list_pop mt_pop ok_pop (de_var 1)) (de_int)))) (dss_cons (ds_set 3 sc_law.nd (de_lst (da_nil))) (dss_cons (ds_for (passes_of rfl) rfl (di_range1 Z.range (da_cons (de_op op_addAll ok_add (de_int) (de_op op_mod ok_mod (de_meth0 PySem.F.slot_list_pop PySem.F.type_list_pop mt_pop ok_pop (de_var 1)) (de_int))) (da_nil))) (pg_name (i := 4) sc_law.nd rfl (by first | exact .inl rfl | exact .inr rfl)) (okG_name) (dss_cons (ds_set 7 sc_law.nd (de_ix (ix_seq.or (ix_tab (u1 hr))) ok_ixA (de_str) (de_op op_mod ok_mod (de_meth0 PySem.F.slot_list_pop PySem.F.type_list_pop mt_pop ok_pop (de_var 1)) (de_int)) (fun _ _ => rfl))) (dss_one (ds_expr (de_meth PySem.F.slot_list_append PySem.F.type_list_append mt_append ok_app (de_var 3) (da_cons (de_tup (da_cons (de_var 7) (da_cons (de_call G__law_right (hr.mono (by decide)) m__law_right k__law_right b__law_right (takes_of rfl rfl rfl rfl) (da_cons (de_var 1) (da_cons (de_var 2) (da_cons (de_str) (da_cons (de_int) (da_nil)))))) (da_nil)))) (da_nil))))))) (dss_cons (ds_set 5 sc_law.nd (de_call G__law_text (hr.mono (by decide)) m__law_text k__law_text b__law_text (takes_of rfl rfl rfl rfl) (da_cons (de_var 2) (da_cons (de_var 3) (da_nil))))) (dss_cons (ds_for (passes_of rfl) rfl (di_seq (de_op op_addAll ok_add (de_list_range Z.list Z.range (de_int) rfl) (de_comp (own := [("_law_cell", 6)]) rfl sc_law.nd (di_seq (de_slice (de_var 0) (do_none) (do_some (de_int)) rfl) rfl) (blkOk_by (N := ["_law_script", "_law_deck_here", "_law_many", "_law_rules", "_law_k", "_law_good", "_law_cell", "_law_sign", "_law_number"]) (sc := defScope s_law) (by decide +kernel)) (fun _ _ _ _ _ => pg_name (i := 6) sc_law.nd rfl (by first | exact .inl rfl | exact .inr rfl)) (okGw_name (i := 6) (by decide)) rfl (fun _ _ _ _ _ => dts_nil) (fun _ _ _ _ _ => de_op op_mod ok_mod (de_var 6) (de_op op_pow ok_pow (de_int) (de_int))))) rfl) (pg_name (i := 6) sc_law.nd rfl (by first | exact .inl rfl | exact .inr rfl)) (okG_name) (dss_cons (ds_set 8 sc_law.nd (de_op op_mod ok_mod (de_op op_addAll ok_add (de_op op_addAll ok_add (de_op op_mulC ok_mulC (de_var 6) (de_int)) (de_callB (CallR.or call_len_seq call_len_str) ok_len Z.len PySem.boot_len (da_cons (de_var 3) (da_nil)))) (de_int)) (de_int))) (dss_cons (ds_if (dt_not (dt_val (de_call G__law_refused (hr.mono (by decide)) m__law_refused k__law_refused b__law_refused (takes_of rfl rfl rfl rfl) (da_cons (de_call G__law_faulty (hr.mono (by decide)) m__law_faulty k__law_faulty b__law_faulty (takes_of rfl rfl rfl rfl) (da_cons (de_var 2) (da_cons (de_var 3) (da_cons (de_op op_mod ok_mod (de_var 8) (de_int)) (da_cons (de_op op_fdivW ok_divW (de_var 8) (de_int)) (da_nil)))))) (da_nil))))) (dss_one (ds_ret (de_bl))) (dss_nil)) (dss_one (ds_if (dt_cmp (op_neD hr.units) ok_ne (de_call G_read_grammar (hr.mono (by decide)) m_read_grammar k_read_grammar b_read_grammar (takes_of rfl rfl rfl rfl) (da_cons (de_var 5) (da_nil))) (de_tup (da_cons (de_var 2) (da_cons (de_callTy call_tuple_of ok_tuple Z.tuple boot_tuple (da_cons (de_var 3) (da_nil))) (da_nil)))) (nomark _)) (dss_one (ds_ret (de_bl))) (dss_nil)))))) (dss_one (ds_ret (de_bl))))))))
end
theorem er_mk {K : PySem.W.Frag} {h : Heap} {mg : Str → Option Value} {C_TallyError C_NoTally C_NoFan C_NoText C_NoTree C_TooGreat : Addr} (X : K.In h) (G : h.Ns mainGlobals mg) (n_TallyError : PySem.W.nsIn K mainGlobals "TallyError" = some (some (.ref C_TallyError))) (n_NoTally : PySem.W.nsIn K mainGlobals "NoTally" = some (some (.ref C_NoTally))) (n_NoFan : PySem.W.nsIn K mainGlobals "NoFan" = some (some (.ref C_NoFan))) (n_NoText : PySem.W.nsIn K mainGlobals "NoText" = some (some (.ref C_NoText))) (n_NoTree : PySem.W.nsIn K mainGlobals "NoTree" = some (some (.ref C_NoTree))) (n_TooGreat : PySem.W.nsIn K mainGlobals "TooGreat" = some (some (.ref C_TooGreat))) (x_NoText : PySem.W.excIn K C_NoText [.type "ValueError", .type "Exception", .type "BaseException", .type "object"] "ValueError.__new__" = true) (k_NoText : PySem.W.keepIn K (.ref C_NoText) = true) (b_NoText : PySem.W.subIn K (.ref C_NoText) (.type "BaseException") = some true) (t_NoText : PySem.W.typeIn K (.ref C_NoText) = some (.type "type")) (Ehg : PySem.W.findIn K (.ref C_NoText) "__getattribute__" = some (some (.builtin "BaseException.__getattribute__"))) (Ehk : PySem.W.findIn K (.ref C_NoText) "__getattr__" = some none) (Ehs : PySem.W.subIn K (.ref C_NoText) (.type "BaseException") = some true) (Ehd : PySem.W.hasDictIn K C_NoText = true) (Eha : PySem.W.findIn K (.ref C_NoText) "__class__" = some (some (.builtin "object.__class__"))) (Ehn : PySem.W.specialIn K (.builtin "object.__class__") "__get__" = some (some (.builtin "getset_descriptor.__get__"))) (Eht : PySem.W.takesIn K (.builtin "object.__class__") = some true) (Ehm : PySem.W.mroIn K C_NoText (.type "object") = some true) (Eq1 : PySem.W.subIn K (.ref C_TallyError) (.type "BaseException") = some true) (Eq2 : PySem.W.hasDictIn K C_TallyError = true) (Eq3 : PySem.W.typeIn K (.ref C_TallyError) = some (.type "type")) (Eq4 : PySem.W.subIn K (.ref C_NoText) (.ref C_TallyError) = some true) (Eq5 : PySem.W.kitOne K (.ref C_NoText) (.type "ValueError") = some true) (Eu_NoTally : PySem.W.kitOne K (.ref C_NoText) (.ref C_NoTally) = some false) (Eu_NoFan : PySem.W.kitOne K (.ref C_NoText) (.ref C_NoFan) = some false) (Eu_NoTree : PySem.W.kitOne K (.ref C_NoText) (.ref C_NoTree) = some false) (Eu_TooGreat : PySem.W.kitOne K (.ref C_NoText) (.ref C_TooGreat) = some false) : Er K mg C_TallyError C_NoTally C_NoFan C_NoText C_NoTree C_TooGreat := ⟨PySem.W.mg_of X G n_TallyError, PySem.W.mg_of X G n_NoTally, PySem.W.mg_of X G n_NoFan, PySem.W.mg_of X G n_NoText, PySem.W.mg_of X G n_NoTree, PySem.W.mg_of X G n_TooGreat, ⟨PySem.W.mg_of X G n_NoText, x_NoText, k_NoText, b_NoText, t_NoText⟩, ask1_ok (PySem.W.mg_of X G n_NoText) ⟨Ehg, Ehk, Ehs, Ehd, Eha, Ehn, Eht, Ehm⟩ Eq1 Eq2 Eq3 Eq4 Eq5 (kitAny_cons Eu_NoTally (fun _ => kitAny_cons Eu_NoFan (fun _ => kitAny_cons Eu_NoTree (fun _ => kitAny_cons Eu_TooGreat (fun _ => kitAny_nil) (fun z => by cases z)) (fun z => by cases z)) (fun z => by cases z)) (fun z => by cases z))⟩
theorem fin {l : PySem.W.OpenLaw} {w : World} {K : PySem.W.Frag} {h : Heap} {mg : Str → Option Value} {fa f2 : Addr} (X : K.In h) (G : h.Ns mainGlobals mg) (hfa : mg "law" = some (.ref fa))
    {od2 an2 : Option Addr} {sl2 : Array (Option Value)} {oc2 kV2 dc2 pm2 cd2 ct2 : Value} (a2 : PySem.W.nsIn K mainGlobals "law" = some (some (.ref f2))) (l2 : K.lookup f2 = some ⟨oc2, od2, .func (PySem.W.fnOf "law" "law" (defArgs s_law) (defBody s_law) (defScope s_law) .none kV2 dc2 pm2 an2 cd2 ct2), sl2⟩) (c2 : PySem.W.codeIn K cd2 "law" = true) (k2 : PySem.W.keepIn K (.ref f2) = true)
    (Z : NB mg) {C_TallyError C_NoTally C_NoFan C_NoText C_NoTree C_TooGreat : Addr} (Er_ : Er K mg C_TallyError C_NoTally C_NoFan C_NoText C_NoTree C_TooGreat) (C : Cs K mg) (D_signs_in : Df K mg "signs_in" s_signs_in ["right"]) (D_read_rule : Df K mg "read_rule" s_read_rule ["word", "letters"]) (D_read_grammar : Df K mg "read_grammar" s_read_grammar ["text"]) (D__law_deck : Df K mg "_law_deck" s__law_deck ["_law_cells", "_law_many"]) (D__law_right : Df K mg "_law_right" s__law_right ["_law_deck_here", "_law_many", "_law_signs", "_law_most"]) (D__law_refused : Df K mg "_law_refused" s__law_refused ["_law_text_here"]) (D__law_text : Df K mg "_law_text" s__law_text ["_law_many", "_law_rules"]) (D__law_bad_right : Df K mg "_law_bad_right" s__law_bad_right ["_law_right_here", "_law_many", "_law_cell"]) (D__law_bad_rule : Df K mg "_law_bad_rule" s__law_bad_rule ["_law_rule", "_law_many", "_law_cell"]) (D__law_faulty : Df K mg "_law_faulty" s__law_faulty ["_law_many", "_law_rules", "_law_way", "_law_cell"]) :
    ∃ fd : FuncData, (∀ (s : Shared) (v : Value), BindsTo s fd ⟨[v], []⟩ [("_law_script", v)]) ∧ ∀ base : Heap, K.In base → base.Ns mainGlobals mg → FnOk l.prog w K mg base (L2.CX l.prog w) 5 fa fd ["_law_script"] (spLaw K f_law) := by
  have e := hfa.symm.trans (PySem.W.mg_of X G a2)
  cases e
  refine ⟨PySem.W.fnOf "law" "law" (defArgs s_law) (defBody s_law) (defScope s_law) .none kV2 dc2 pm2 an2 cd2 ct2, fun s v => .of_eq rfl, fun base _ _ => ?_⟩
  have o_signs_in := ok_signs_in (P := l.prog) (w := w) (base := base) D_signs_in Z C
  have o_read_rule := ok_read_rule (P := l.prog) (w := w) (base := base) D_read_rule Z Er_ C o_signs_in
  have o_read_grammar := ok_read_grammar (P := l.prog) (w := w) (base := base) D_read_grammar Z Er_ C o_read_rule
  have o__law_deck := ok__law_deck (P := l.prog) (w := w) (base := base) D__law_deck Z
  have o__law_right := ok__law_right (P := l.prog) (w := w) (base := base) D__law_right Z
  have o__law_refused := ok__law_refused (P := l.prog) (w := w) (base := base) D__law_refused Z Er_ o_read_grammar
  have o__law_text := ok__law_text (P := l.prog) (w := w) (base := base) D__law_text Z
  have o__law_bad_right := ok__law_bad_right (P := l.prog) (w := w) (base := base) D__law_bad_right Z
  have o__law_bad_rule := ok__law_bad_rule (P := l.prog) (w := w) (base := base) D__law_bad_rule Z o__law_bad_right
  have o__law_faulty := ok__law_faulty (P := l.prog) (w := w) (base := base) D__law_faulty Z o__law_bad_rule o__law_text
  exact law_of (ok_law (P := l.prog) (w := w) (base := base) (fun_mk (st := s_law) l2 c2 k2) Z o__law_deck o__law_faulty o__law_refused o__law_right o__law_text o_read_grammar)
end
end Gen
namespace Gen
open PySem TD
open Emb (emb)
def p_signs_in (right0 : Str) : (List Str) := (((chars right0).filter fun (x0 : Str) => (inS x0 ("CBA"))).map fun (x0 : Str) => x0)
def v_read_rule_0 (word : Str) : Bool := ((!decide (((((partT word ("=" : Str)).a).length : Int) : Int) = 1)) || ((!inS ((partT word ("=" : Str)).a) ("CBA")) || ((!decide (((partT word ("=" : Str)).b : Str) = ("=" : Str))) || (decide ((((partT word ("=" : Str)).c).length : Int) > 4)))))
def st_read_rule_0 (letters : Str) (s0 : Unit) (y0 : Str) : Unit := (cond ((!inS y0 ("CBA")) && (!inS y0 letters)) () ())
def r_read_rule_0 (word : Str) (letters : Str) : Unit := ((chars ((partT word ("=" : Str)).c)) : List Str).foldl (st_read_rule_0 letters) ()
def v_read_rule_1 (word : Str) : Bool := (decide ((((p_signs_in ((partT word ("=" : Str)).c))).length : Int) > 2))
def p_read_rule (word : Str) (letters : Str) : (Str × Str) := (cond (v_read_rule_0 word) default (cond (v_read_rule_1 word) default ((partT word ("=" : Str)).a, (partT word ("=" : Str)).c)))
def v_read_grammar_0 (text : Str) : Bool := ((!(([("1" : Str), ("2" : Str), ("3" : Str), ("4" : Str)] : List Str).any fun (b : Str) => b == (ix (Txt.split text (";" : Str)) 0))) || (!(decide (2 ≤ (((Txt.split text (";" : Str))).length : Int)) && decide ((((Txt.split text (";" : Str))).length : Int) ≤ (8 + 1)))))
def v_read_grammar_1 (text : Str) : Int := ((intText? (ix (Txt.split text (";" : Str)) 0)).getD 0)
def p_read_grammar (text : Str) : (Int × (List (Str × Str))) := (cond (v_read_grammar_0 text) default (v_read_grammar_1 text, ((cutD (Txt.split text (";" : Str)) (some 1) none).map fun (x0 : Str) => (p_read_rule x0 (L2.cutS ("abcd") none (some (v_read_grammar_1 text)))))))
def v__law_deck_0 (cells : (List Int)) (many : Int) : (List Int) := ((cutD cells none (some many)).map fun (x0 : Int) => (x0 % ((10 : Int) ^ (18 : Int).toNat)))
def v__law_deck_1 (cells : (List Int)) (many : Int) : Int := (1013 + (7 * ((v__law_deck_0 cells many).length : Int)))
def st__law_deck_0  (s0 : Int) (y0 : Int) : Int := (((s0 * 797) + y0) % 999999929)
def r__law_deck_0 (cells : (List Int)) (many : Int) : Int := (v__law_deck_0 cells many : List Int).foldl st__law_deck_0 (v__law_deck_1 cells many : Int)
def st__law_deck_1  (s1 : Int × (List Int)) : Int × (List Int) := ((((s1.1 * 69621) + 5) % 2147483629), (s1.2 ++ [(((s1.1 * 69621) + 5) % 2147483629)]))
def c__law_deck_w1 (many : Int) (s1 : Int × (List Int)) : Bool := (decide (((s1.2).length : Int) < many))
def r__law_deck_1 (cells : (List Int)) (many : Int) : Int × (List Int) := whl (c__law_deck_w1 many) st__law_deck_1 90 (((r__law_deck_0 cells many), v__law_deck_0 cells many) : Int × (List Int))
def p__law_deck (cells : (List Int)) (many : Int) : (List Int) := ((r__law_deck_1 cells many).2).reverse
def v__law_right_0 (s0 : Int × Str × Int) (y0 : Int) : Int := ((((s0.1 / 5) * 48271) + (7 * y0)) % 2147483629)
def v__law_right_1 (signs : Str) (s0 : Int × Str × Int) (y0 : Int) : Bool := ((decide ((((v__law_right_0 s0 y0) % 3) : Int) = 1)) && ((decide (s0.2.2 > 0)) && (!decide ((signs : Str) = ("" : Str)))))
def v__law_right_2 (signs : Str) (s0 : Int × Str × Int) (y0 : Int) : Str := (s0.2.1 ++ (ixS signs (((v__law_right_0 s0 y0) / 3) % ((signs).length : Int))))
def v__law_right_3 (many : Int) (s0 : Int × Str × Int) (y0 : Int) : Str := (s0.2.1 ++ (ixS ("abcd" : Str) (((v__law_right_0 s0 y0) / 3) % many)))
def st__law_right_0 (many : Int) (signs : Str) (s0 : Int × Str × Int) (y0 : Int) : Int × Str × Int := (cond (v__law_right_1 signs s0 y0) (v__law_right_0 s0 y0, v__law_right_2 signs s0 y0, (s0.2.2 - 1)) (v__law_right_0 s0 y0, v__law_right_3 many s0 y0, s0.2.2))
def r__law_right_0 (deck_here : (List Int)) (many : Int) (signs : Str) (most : Int) : Int × Str × Int := ((rng ((lastI deck_here) % (most + 1))) : List Int).foldl (st__law_right_0 many signs) ((lastI deck_here), ("" : Str), 2)
def p__law_right (deck_here : (List Int)) (many : Int) (signs : Str) (most : Int) : Str × (List Int) := ((r__law_right_0 deck_here many signs most).2.1, deck_here.dropLast)
def p__law_refused (text_here : Str) : Bool := (decide (([true, true, false] : (List Bool)) = [true, true, false]))
def p__law_text (many : Int) (rules : (List (Str × Str))) : Str := (Txt.join (";" : Str) ([(strI many)] ++ (rules.map fun (x0 : (Str × Str)) => ((x0.1 ++ ("=" : Str)) ++ x0.2))))
def v__law_bad_right_0 (right_here : Str) (cell : Int) : Int := ((cell / 7) % (((right_here).length : Int) + 1))
def v__law_bad_right_1 (many : Int) (cell : Int) : Bool := ((decide (((cell % 7) : Int) = 2)) && (decide (many < 4)))
def v__law_bad_right_2 (cell : Int) : Str := (ix [("e" : Str), ("0" : Str), ("D" : Str), ("+" : Str), ("," : Str), ("_" : Str), ("=" : Str), ("Z" : Str), ("-" : Str), ("(" : Str), ("." : Str), ("z" : Str)] ((cell / 70) % 12))
def p__law_bad_right (right_here : Str) (many : Int) (cell : Int) : Str := (cond (decide (((cell % 7) : Int) = 0)) ("aaaaa" : Str) (cond (decide (((cell % 7) : Int) = 1)) (ix [("CBA" : Str), ("AAA" : Str), ("BaBB" : Str), ("CCBa" : Str)] ((cell / 70) % 4)) (cond (v__law_bad_right_1 many cell) (((L2.cutS right_here none (some (if 3 < v__law_bad_right_0 right_here cell then 3 else v__law_bad_right_0 right_here cell))) ++ (ixS ("bcd" : Str) (many - 1))) ++ (L2.cutS right_here (some (if 3 < v__law_bad_right_0 right_here cell then 3 else v__law_bad_right_0 right_here cell)) (some 3))) (((L2.cutS right_here none (some (if 3 < v__law_bad_right_0 right_here cell then 3 else v__law_bad_right_0 right_here cell))) ++ (v__law_bad_right_2 cell)) ++ (L2.cutS right_here (some (if 3 < v__law_bad_right_0 right_here cell then 3 else v__law_bad_right_0 right_here cell)) (some 3))))))
def p__law_bad_rule (rule : (Str × Str)) (many : Int) (cell : Int) : Str := (cond (decide (((cell % 4) : Int) = 0)) (((ix [("D" : Str), ("a" : Str), ("" : Str), ("AB" : Str), ("1" : Str), ("=" : Str), ("A " : Str), ("CBA" : Str)] ((cell / 4) % 8)) ++ ("=" : Str)) ++ rule.2) (cond (decide (((cell % 4) : Int) = 1)) ((rule.1 ++ (ix [("" : Str), ("==" : Str), (":" : Str), ("=A=" : Str), (" = " : Str)] ((cell / 4) % 5))) ++ rule.2) ((rule.1 ++ ("=" : Str)) ++ (p__law_bad_right rule.2 many (cell / 4)))))
def v__law_faulty_0 (many : Int) (rules : (List (Str × Str))) (cell : Int) : Int := ((cell / 11) % ((((p__law_text many rules)).length : Int) + 1))
def v__law_faulty_1 (rules : (List (Str × Str))) : (List Str) := (rules.map fun (x0 : (Str × Str)) => ((x0.1 ++ ("=" : Str)) ++ x0.2))
def v__law_faulty_2 (many : Int) (rules : (List (Str × Str))) (cell : Int) : (List Str) := (v__law_faulty_1 rules).set ((cell % ((rules).length : Int)) : Int).toNat (p__law_bad_rule (ix rules (cell % ((rules).length : Int))) many (cell / 9))
def p__law_faulty (many : Int) (rules : (List (Str × Str))) (way : Int) (cell : Int) : Str := (cond (decide ((way : Int) = 0)) ((ix [("0" : Str), ("5" : Str), ("" : Str), ("11" : Str), ("01" : Str), ("a" : Str), ("-1" : Str), ("2 " : Str)] (cell % 8)) ++ (L2.cutS (p__law_text many rules) (some 1) none)) (cond (decide ((way : Int) = 1)) (ix [(strI many), ((strI many) ++ (";" : Str)), (Txt.join (";" : Str) ([(strI many)] ++ ((List.replicate (9 : Int).toNat ([("A=a" : Str)] : (List Str))).flatten))), (L2.cutS (p__law_text many rules) (some 2) none), ("" : Str)] (cell % 5)) (cond (decide ((way : Int) = 2)) (((L2.cutS (p__law_text many rules) none (some (v__law_faulty_0 many rules cell))) ++ (ix [(" " : Str), ("\n" : Str), (";;" : Str), ("	" : Str), ("/" : Str)] (cell % 5))) ++ (L2.cutS (p__law_text many rules) (some (v__law_faulty_0 many rules cell)) none)) (cond (decide ((way : Int) = 3)) (ix [((p__law_text many rules) ++ (";" : Str)), ((";" : Str) ++ (p__law_text many rules)), ((p__law_text many rules) ++ (" " : Str)), ((" " : Str) ++ (p__law_text many rules)), ((p__law_text many rules) ++ ("\n" : Str))] (cell % 5)) (Txt.join (";" : Str) ([(strI many)] ++ (v__law_faulty_2 many rules cell)))))))
@[irreducible] def v_law_0 (script : (List Int)) : (List Int) := (p__law_deck (cutD script none (some 63)) 72)
theorem e_v_law_0 (script : (List Int)) : v_law_0 script = (p__law_deck (cutD script none (some 63)) 72) := by
  delta v_law_0
  rfl
def v_law_1 (script : (List Int)) (s0 : (List Int) × (List (Str × Str))) : (Str × Str) := ((ixS ("CBA" : Str) ((lastI s0.1) % 3)), (p__law_right s0.1.dropLast (1 + ((lastI (v_law_0 script)) % 4)) ("CBA" : Str) 4).1)
def st_law_0 (script : (List Int)) (s0 : (List Int) × (List (Str × Str))) (y0 : Int) : (List Int) × (List (Str × Str)) := ((p__law_right s0.1.dropLast (1 + ((lastI (v_law_0 script)) % 4)) ("CBA" : Str) 4).2, (s0.2 ++ [v_law_1 script s0]))
def r_law_0 (script : (List Int)) : (List Int) × (List (Str × Str)) := ((rng (1 + ((lastI ((v_law_0 script).dropLast)) % 8))) : List Int).foldl (st_law_0 script) (((v_law_0 script).dropLast).dropLast, [])
def v_law_2 (script : (List Int)) : Str := (p__law_text (1 + ((lastI (v_law_0 script)) % 4)) ((r_law_0 script).2))
def v_law_3 (script : (List Int)) (y1 : Int) : Int := ((((y1 * 39373) + (((r_law_0 script).2).length : Int)) + 1) % 2147483629)
def v_law_4 (script : (List Int)) (y1 : Int) : Bool := (!(p__law_refused (p__law_faulty (1 + ((lastI (v_law_0 script)) % 4)) ((r_law_0 script).2) ((v_law_3 script y1) % 7) ((v_law_3 script y1) / 7))))
def v_law_5 (script : (List Int)) : Bool := (!decide (((p_read_grammar (v_law_2 script)) : (Int × (List (Str × Str)))) = ((1 + ((lastI (v_law_0 script)) % 4)), (r_law_0 script).2)))
def st_law_1 (script : (List Int)) (s1 : Unit) (y1 : Int) : Sum Bool Unit := (cond (v_law_4 script y1) (.inl (false : Bool)) (cond (v_law_5 script) (.inl (false : Bool)) (.inr ())))
def q_law_1 (script : (List Int)) : Sum Bool Unit := forE (st_law_1 script) (((rng 12) ++ ((cutD script none (some 40)).map fun (x0 : Int) => (x0 % ((10 : Int) ^ (18 : Int).toNat)))) : List Int) ()
def p_law (script : (List Int)) : Bool := (sumE (q_law_1 script) (fun rr1 => rr1) (fun sr1 => true))
end Gen
namespace Gen
open PySem TD
open Emb (emb)
/-! ### the deck of texts -/
theorem deck_v (cells : List Int) (many : Int) (h : cells.length ≤ 63) : (v__law_deck_0 cells many).length ≤ 63 := by
  unfold v__law_deck_0
  rw [List.length_map]
  unfold cutD
  rw [List.length_take, List.length_drop]
  omega
theorem deck_i0 (cells : List Int) (many : Int) (h : cells.length ≤ 63) : 0 ≤ v__law_deck_1 cells many ∧ v__law_deck_1 cells many ≤ 1000000000 := by
  have := deck_v cells many h
  unfold v__law_deck_1
  omega
theorem deck_m1 (s : Int) (y : Int) : 0 ≤ st__law_deck_0 s y ∧ st__law_deck_0 s y ≤ 1000000000 := by
  unfold st__law_deck_0
  have := mod_bd (a := s * 797 + y) (b := 999999929) (by decide)
  omega
theorem deck_r0 (cells : List Int) (many : Int) (h : cells.length ≤ 63) : 0 ≤ r__law_deck_0 cells many ∧ r__law_deck_0 cells many ≤ 1000000000 :=
  foldl_inv (P := fun s => 0 ≤ s ∧ s ≤ 1000000000) (deck_i0 cells many h) fun s y _ _ => deck_m1 s y
theorem deck_i1 (cells : List Int) (many : Int) (h1 : cells.length ≤ 63) : 0 ≤ r__law_deck_0 cells many ∧ r__law_deck_0 cells many ≤ 2147483647 ∧ (v__law_deck_0 cells many).length ≤ 90 := by
  have := deck_r0 cells many h1
  have := deck_v cells many h1
  omega
theorem deck_p1 (many : Int) (s : Int × List Int) (h3 : many ≤ 90) (h : 0 ≤ s.1 ∧ s.1 ≤ 2147483647 ∧ s.2.length ≤ 90) (hc : c__law_deck_w1 many s = true) : 0 ≤ (st__law_deck_1 s).1 ∧ (st__law_deck_1 s).1 ≤ 2147483647 ∧ (st__law_deck_1 s).2.length ≤ 90 := by
  unfold c__law_deck_w1 at hc
  rw [decide_eq_true_eq] at hc
  have := mod_bd (a := s.1 * 69621 + 5) (b := 2147483629) (by decide)
  unfold st__law_deck_1
  refine ⟨by simp only; omega, by simp only; omega, ?_⟩
  simp only [List.length_append, List.length_cons, List.length_nil]
  omega
theorem deck_term (cells : List Int) (many : Int) (h1 : cells.length ≤ 63) (h2 : 0 ≤ many) (h3 : many ≤ 90) : c__law_deck_w1 many (whl (c__law_deck_w1 many) st__law_deck_1 90 (r__law_deck_0 cells many, v__law_deck_0 cells many)) = false := by
  refine whl_end (fun s => (many - s.2.length).toNat) (fun _ => True) (fun _ _ _ => trivial) (fun s _ hc => ?_) 90 trivial ?_
  · unfold c__law_deck_w1 at hc
    rw [decide_eq_true_eq] at hc
    unfold st__law_deck_1
    simp only [List.length_append, List.length_cons, List.length_nil]
    omega
  · simp only
    omega
theorem deck_len (cells : List Int) (many : Int) (h1 : cells.length ≤ 63) (h2 : 0 ≤ many) (h3 : many ≤ 90) : many ≤ (p__law_deck cells many).length ∧ (p__law_deck cells many).length ≤ 90 := by
  have t := deck_term cells many h1 h2 h3
  unfold p__law_deck
  rw [List.length_reverse]
  refine ⟨?_, ?_⟩
  · unfold c__law_deck_w1 at t
    rw [decide_eq_false_iff_not] at t
    unfold r__law_deck_1
    unfold c__law_deck_w1
    omega
  · have := whl_inv (s := (r__law_deck_0 cells many, v__law_deck_0 cells many)) (c := c__law_deck_w1 many) (step := st__law_deck_1) (fun s => 0 ≤ s.1 ∧ s.1 ≤ 2147483647 ∧ s.2.length ≤ 90) (fun s hc h => deck_p1 many s h3 h hc) 90 (deck_i1 cells many h1)
    exact this.2.2
theorem cut63 (script : List Int) : (cutD script none (some 63)).length ≤ 63 := by
  rw [cutTo (by decide), List.length_take]
  omega
/-! ### texts as lists of signs -/
open TL (tl)
theorem count_one (x : Str) (c : Nat) : Txt.count x ⟨#[c]⟩ = ((tl x).count c : Int) := by
  rw [PyProof.Rows.count_cnt]
  unfold PyProof.Rows.cnt
  show PySem.Spec.countIn (.str ⟨#[c]⟩) ((tl x).map fun n => PyData.str ⟨#[n]⟩) = _
  have e : (tl x).map (fun n => PyData.str ⟨#[n]⟩) = ((tl x).map fun n => (⟨#[n]⟩ : Str)).map PyData.str := by rw [List.map_map]; rfl
  rw [e, PySem.W.cnt_strs]
  have inj : ∀ a b : Nat, ((⟨#[a]⟩ : Str) == ⟨#[b]⟩) = (a == b) := fun a b => by
    rw [Bool.eq_iff_iff, beq_iff_eq, beq_iff_eq]
    exact ⟨fun h => by have := congrArg Str.cps h; simpa using this, fun h => by rw [h]⟩
  congr 1
  unfold List.count
  rw [List.countP_map]
  congr 1
  funext n
  exact inj n c
theorem chars_mem {z x : Str} : x ∈ chars z ↔ ∃ c ∈ tl z, x = ⟨#[c]⟩ := by
  unfold chars
  rw [List.mem_map]
  exact ⟨fun ⟨c, h, e⟩ => ⟨c, h, e.symm⟩, fun ⟨c, h, e⟩ => ⟨c, h, e.symm⟩⟩
theorem one_inj {a b : Nat} : ((⟨#[a]⟩ : Str) = ⟨#[b]⟩) ↔ a = b := ⟨fun h => by have := congrArg Str.cps h; simpa using this, fun h => by rw [h]⟩
theorem filt_chars (z : Str) (c : Nat) : (((chars z).filter fun x => decide ((x : Str) = ⟨#[c]⟩)).length : Int) = ((tl z).count c : Int) := by
  unfold chars
  rw [List.filter_map, List.length_map]
  congr 1
  rw [List.count_eq_length_filter]
  congr 1
  refine List.filter_congr fun n _ => ?_
  show decide ((⟨#[n]⟩ : Str) = ⟨#[c]⟩) = (n == c)
  rw [Bool.eq_iff_iff, decide_eq_true_eq, beq_iff_eq]
  exact one_inj
theorem tl_one (c : Nat) : tl ⟨#[c]⟩ = [c] := rfl
theorem app_len (a b : Str) : (a ++ b).length = a.length + b.length := by
  rw [TL.len_tl, TL.len_tl a, TL.len_tl b, TL.tl_append, List.length_append]
theorem strOk_iff (x : Str) : PyData.canLay0 (.str x) = true ↔ ∀ c ∈ tl x, c < 1114112 := by
  show x.cps.all (· < 0x110000) = true ↔ _
  rw [← Array.all_toList, List.all_eq_true]
  exact ⟨fun h c hc => of_decide_eq_true (h c hc), fun h c hc => decide_eq_true (h c hc)⟩
theorem joinL_nil : ∀ ps : List (List Nat), TL.joinL [] ps = ps.flatten
  | [] => rfl
  | [p] => by simp [TL.joinL]
  | p :: q :: r => by
    show p ++ ([] ++ TL.joinL [] (q :: r)) = _
    rw [joinL_nil (q :: r)]
    simp
theorem tl_join (y : Str) (ps : List Str) : tl (Txt.join y ps) = TL.joinL (tl y) (ps.map tl) := by rw [TL.join_eq, TL.tl_join]
theorem joinL_cons (S p : List Nat) (ps : List (List Nat)) : TL.joinL S (p :: ps) = p ++ (ps.map fun q => S ++ q).flatten := by
  induction ps generalizing p with
  | nil => simp [TL.joinL]
  | cons q r ih =>
    show p ++ (S ++ TL.joinL S (q :: r)) = _
    rw [ih q]
    simp
theorem cut_tail {α : Type} (x : α) (xs : List α) : cutD (x :: xs) (some 1) none = xs := by
  unfold cutD
  have e1 : HT.sIx (x :: xs).length 0 (some 1) = 1 := by
    rw [show (some (1 : Int)) = some ((1 : Nat) : Int) from rfl, HT.sIx_nat, List.length_cons]
    omega
  rw [e1, HT.sIx_none, List.drop_succ_cons, List.drop_zero, List.take_of_length_le (by rw [List.length_cons]; omega)]
theorem sum_le {k : Nat} : ∀ {xs : List Str}, (∀ x ∈ xs, x.length ≤ k) → (xs.map (·.length)).sum ≤ k * xs.length
  | [], _ => by simp
  | x :: xs, h => by
    have a := h x List.mem_cons_self
    have b := sum_le (k := k) (xs := xs) fun y hy => h y (List.mem_cons_of_mem _ hy)
    rw [List.map_cons, List.sum_cons, List.length_cons, Nat.mul_add]
    omega
theorem joinL_len (S : List Nat) : ∀ ps : List (List Nat), (TL.joinL S ps).length ≤ (ps.map (·.length)).sum + ps.length * S.length
  | [] => by simp [TL.joinL]
  | [p] => by simp [TL.joinL]
  | p :: q :: r => by
    have ih := joinL_len S (q :: r)
    show (p ++ (S ++ TL.joinL S (q :: r))).length ≤ _
    rw [List.length_append, List.length_append, List.map_cons, List.sum_cons, List.length_cons, Nat.succ_mul]
    omega
theorem join_len (y : Str) (ps : List Str) : (Txt.join y ps).length ≤ (ps.map (·.length)).sum + ps.length * y.length := by
  have h := joinL_len (tl y) (ps.map tl)
  rw [TL.len_tl, tl_join]
  rw [List.map_map, List.length_map, ← TL.len_tl] at h
  have e : (fun x : List Nat => x.length) ∘ tl = fun x : Str => x.length := by funext x; exact (TL.len_tl x).symm
  rw [e] at h
  exact h
theorem joinL_mem {S : List Nat} {c : Nat} : ∀ {ps : List (List Nat)}, c ∈ TL.joinL S ps → c ∈ S ∨ ∃ p ∈ ps, c ∈ p
  | [], h => by cases h
  | [p], h => .inr ⟨p, List.mem_cons_self, h⟩
  | p :: q :: r, h => by
    have h : c ∈ p ++ (S ++ TL.joinL S (q :: r)) := h
    rcases List.mem_append.mp h with h | h
    · exact .inr ⟨p, List.mem_cons_self, h⟩
    · rcases List.mem_append.mp h with h | h
      · exact .inl h
      · rcases joinL_mem h with h | ⟨z, hz, h⟩
        · exact .inl h
        · exact .inr ⟨z, List.mem_cons_of_mem _ hz, h⟩
theorem join_mem {y : Str} {ps : List Str} {c : Nat} (h : c ∈ tl (Txt.join y ps)) : c ∈ tl y ∨ ∃ p ∈ ps, c ∈ tl p := by
  rw [tl_join] at h
  rcases joinL_mem h with h | ⟨z, hz, h⟩
  · exact .inl h
  · obtain ⟨p, hp, rfl⟩ := List.mem_map.mp hz
    exact .inr ⟨p, hp, h⟩
theorem q_of {x : Str} (h : ∀ c ∈ tl x, c < 1114112) : EmbQ.q x := (strOk_iff x).mpr h
theorem cut_le {α : Type} (xs : List α) (lo hi : Option Int) : (cutD xs lo hi).length ≤ xs.length := by
  unfold cutD
  rw [List.length_take, List.length_drop]
  omega
theorem chars_q {z x : Str} (h : EmbQ.q z) (hx : x ∈ chars z) : EmbQ.q x := by
  obtain ⟨c, hc, rfl⟩ := chars_mem.mp hx
  exact q_of fun d hd => by
    rw [tl_one, List.mem_singleton] at hd
    rw [hd]
    exact (strOk_iff z).mp h c hc
theorem cutS_q {z : Str} (lo hi : Option Int) (h : EmbQ.q z) : EmbQ.q (L2.cutS z lo hi) := q_of fun c hc => by
  rw [cutS_tl] at hc
  exact (strOk_iff z).mp h c (List.mem_of_mem_drop (List.mem_of_mem_take hc))
theorem app_q {a b : Str} (h1 : EmbQ.q a) (h2 : EmbQ.q b) : EmbQ.q (a ++ b) := q_of fun c hc => by
  rw [TL.tl_append] at hc
  rcases List.mem_append.mp hc with hc | hc
  · exact (strOk_iff a).mp h1 c hc
  · exact (strOk_iff b).mp h2 c hc
theorem join_q {y : Str} {ps : List Str} (h : EmbQ.q y) (hp : ∀ p ∈ ps, EmbQ.q p) : EmbQ.q (Txt.join y ps) := q_of fun c hc => by
  rcases join_mem hc with hc | ⟨p, hp2, hc⟩
  · exact (strOk_iff y).mp h c hc
  · exact (strOk_iff p).mp (hp p hp2) c hc
theorem ixS_q {s : Str} (i : Int) (h : EmbQ.q s) : EmbQ.q (ixS s i) := q_of fun c hc => by
  have e : tl (ixS s i) = [(tl s).getD i.toNat 0] := rfl
  rw [e, List.mem_singleton] at hc
  rw [hc, List.getD_eq_getElem?_getD]
  cases e2 : (tl s)[i.toNat]? with
  | none => exact (by decide : 0 < 1114112)
  | some d => exact (strOk_iff s).mp h d (List.mem_of_getElem? e2)
theorem q_abcd : EmbQ.q ("abcd" : Str) := (by decide +kernel : PyData.canLay0 (.str ("abcd" : Str)) = true)
theorem q_nil : EmbQ.q ("" : Str) := (by decide +kernel : PyData.canLay0 (.str ("" : Str)) = true)
/-! ### grammars as texts -/
abbrev Rule := Str × Str
def lettersN (many : Int) : Str := L2.cutS "abcd" none (some many)
def CBA : List Nat := [67, 66, 65]
theorem tl_cba : tl ("CBA" : Str) = CBA := by decide +kernel
theorem tl_abcd : tl ("abcd" : Str) = [97, 98, 99, 100] := by decide +kernel
theorem tl_eq : tl ("=" : Str) = [61] := by decide +kernel
theorem tl_semi : tl (";" : Str) = [59] := by decide +kernel
theorem tl_letters {many : Int} (h : 0 ≤ many) : tl (lettersN many) = [97, 98, 99, 100].take many.toNat := by
  unfold lettersN
  rw [cutS_tl, tl_abcd]
  obtain ⟨m, rfl⟩ := Int.eq_ofNat_of_zero_le h
  rw [HT.sIx_none, HT.sIx_nat, List.drop_zero, show ("abcd" : Str).length = 4 from rfl, Nat.sub_zero, Int.toNat_natCast]
  match m with
  | 0 => rfl
  | 1 => rfl
  | 2 => rfl
  | 3 => rfl
  | m + 4 => rw [show min (m + 4) 4 = 4 by omega]; simp
theorem letter_in {many : Int} (h : 0 ≤ many) {c : Nat} (hc : c ∈ tl (lettersN many)) : 97 ≤ c ∧ c ≤ 100 := by
  rw [tl_letters h] at hc
  have := List.mem_of_mem_take hc
  simp only [List.mem_cons, List.not_mem_nil, or_false] at this
  omega
theorem cba_in {c : Nat} (h : c ∈ CBA) : 65 ≤ c ∧ c ≤ 67 := by
  unfold CBA at h
  simp only [List.mem_cons, List.not_mem_nil, or_false] at h
  omega
structure RuleOK (many : Int) (r : Rule) : Prop where
  sg : ∃ c, r.1 = ⟨#[c]⟩ ∧ c ∈ CBA
  len : r.2.length ≤ 4
  ch : ∀ c ∈ tl r.2, c ∈ CBA ∨ c ∈ tl (lettersN many)
  sn : ((tl r.2).filter fun c => decide (c ∈ CBA)).length ≤ 2
def wordOf (r : Rule) : Str := (r.1 ++ ("=" : Str)) ++ r.2
theorem tl_word (r : Rule) : tl (wordOf r) = tl r.1 ++ (61 :: tl r.2) := by
  unfold wordOf
  rw [TL.tl_append, TL.tl_append, tl_eq]
  simp
theorem part_word {many : Int} {r : Rule} (h : RuleOK many r) : partT (wordOf r) ("=" : Str) = ⟨r.1, ("=" : Str), r.2⟩ := by
  obtain ⟨c, e, hc⟩ := h.sg
  have p : Txt.partition (wordOf r) ("=" : Str) = (r.1, ("=" : Str), r.2) := TL.partition_app (S := []) tl_eq (by
    rw [e, tl_one, List.mem_singleton]
    have := cba_in hc
    omega)
  unfold partT
  rw [p]
theorem sg_in {many : Int} {r : Rule} (h : RuleOK many r) : One r.1 ∧ r.1.length = 1 ∧ inS r.1 ("CBA" : Str) = true := by
  obtain ⟨c, e, hc⟩ := h.sg
  rw [e]
  refine ⟨one_mk c, rfl, ?_⟩
  unfold inS
  rw [sgn_mk, decide_eq_true_eq]
  show c ∈ tl ("CBA" : Str)
  rw [tl_cba]
  exact hc
theorem inS_mk (c : Nat) (z : Str) : inS ⟨#[c]⟩ z = decide (c ∈ tl z) := rfl
theorem rule_v0 {many : Int} {r : Rule} (h : RuleOK many r) : v_read_rule_0 (wordOf r) = false := by
  obtain ⟨h1, h2, h3⟩ := sg_in h
  have h4 := h.len
  unfold v_read_rule_0
  rw [part_word h]
  simp only [h2, h3]
  simp
  omega
theorem signs_len (z : Str) : (p_signs_in z).length = ((tl z).filter fun c => decide (c ∈ CBA)).length := by
  unfold p_signs_in chars
  rw [List.length_map, List.filter_map, List.length_map]
  refine congrArg List.length (List.filter_congr fun c _ => ?_)
  show inS ⟨#[c]⟩ ("CBA" : Str) = _
  rw [inS_mk, tl_cba]
theorem rule_v1 {many : Int} {r : Rule} (h : RuleOK many r) : v_read_rule_1 (wordOf r) = false := by
  unfold v_read_rule_1
  rw [part_word h]
  simp only [signs_len]
  have := h.sn
  simp
  omega
theorem rule_ch {many : Int} {r : Rule} (h : RuleOK many r) {x : Str} (hx : x ∈ chars r.2) : ((!inS x ("CBA" : Str)) && (!inS x (lettersN many))) = false := by
  obtain ⟨c, hc, rfl⟩ := chars_mem.mp hx
  rw [inS_mk, inS_mk, tl_cba]
  rcases h.ch c hc with h1 | h1
  · rw [decide_eq_true h1]; rfl
  · rw [decide_eq_true h1]; simp
theorem rule_eq {many : Int} {r : Rule} (h : RuleOK many r) (l : Str) : p_read_rule (wordOf r) l = r := by
  unfold p_read_rule
  rw [rule_v0 h, rule_v1 h, part_word h]
  rfl
theorem word_free {many : Int} (hm : 0 ≤ many) {r : Rule} (h : RuleOK many r) {c : Nat} (hc : c ∈ tl (wordOf r)) : (65 ≤ c ∧ c ≤ 67) ∨ c = 61 ∨ (97 ≤ c ∧ c ≤ 100) := by
  rw [tl_word] at hc
  obtain ⟨d, e, hd⟩ := h.sg
  rw [e, tl_one] at hc
  simp only [List.cons_append, List.nil_append, List.mem_cons] at hc
  rcases hc with rfl | rfl | hc
  · exact .inl (cba_in hd)
  · exact .inr (.inl rfl)
  · rcases h.ch c hc with h1 | h1
    · exact .inl (cba_in h1)
    · exact .inr (.inr (letter_in hm h1))
theorem word_len {many : Int} {r : Rule} (h : RuleOK many r) : (wordOf r).length ≤ 6 := by
  have h1 := (sg_in h).2.1
  have h2 := h.len
  unfold wordOf
  rw [app_len, app_len, h1, show ("=" : Str).length = 1 from rfl]
  omega
structure GramOK (many : Int) (rules : List Rule) : Prop where
  m1 : 1 ≤ many
  m4 : many ≤ 4
  n1 : 1 ≤ rules.length
  n8 : rules.length ≤ 8
  r : ∀ r ∈ rules, RuleOK many r
def gtext (many : Int) (rules : List Rule) : Str := Txt.join ";" (strI many :: rules.map wordOf)
theorem four {many : Int} (h1 : 1 ≤ many) (h4 : many ≤ 4) : many = 1 ∨ many = 2 ∨ many = 3 ∨ many = 4 := by omega
theorem strI_four {many : Int} (h1 : 1 ≤ many) (h4 : many ≤ 4) : strI many = ⟨#[(48 + many).toNat]⟩ ∧ intText? (strI many) = some many ∧ ixS ("1234" : Str) (many - 1) = strI many ∧ ([("1" : Str), ("2" : Str), ("3" : Str), ("4" : Str)] : List Str).any (fun (b : Str) => b == strI many) = true := by
  rcases four h1 h4 with rfl | rfl | rfl | rfl <;> decide +kernel
theorem split_gram {many : Int} {rules : List Rule} (h : GramOK many rules) : Txt.split (gtext many rules) (";" : Str) = strI many :: rules.map wordOf := by
  refine TL.split_join (S := []) tl_semi (by decide +kernel) (by simp) fun p hp => ?_
  rcases List.mem_cons.mp hp with rfl | hp
  · rw [(strI_four h.m1 h.m4).1, tl_one, List.mem_singleton]
    have := h.m1; have := h.m4
    omega
  · obtain ⟨r, hr, rfl⟩ := List.mem_map.mp hp
    intro hc
    have hm := h.m1
    have := word_free (by omega) (h.r r hr) hc
    omega
theorem ix_zero {α : Type} [Inhabited α] (x : α) (xs : List α) : ix (x :: xs) 0 = x := rfl
theorem read_v0 {many : Int} {rules : List Rule} (h : GramOK many rules) : v_read_grammar_0 (gtext many rules) = false := by
  unfold v_read_grammar_0
  rw [split_gram h, ix_zero, (strI_four h.m1 h.m4).2.2.2, List.length_cons, List.length_map]
  have := h.n1; have := h.n8
  simp
  omega
theorem read_v1 {many : Int} {rules : List Rule} (h : GramOK many rules) : v_read_grammar_1 (gtext many rules) = many := by
  unfold v_read_grammar_1
  rw [split_gram h, ix_zero, (strI_four h.m1 h.m4).2.1]
  rfl
theorem read_eq {many : Int} {rules : List Rule} (h : GramOK many rules) : p_read_grammar (gtext many rules) = (many, rules) := by
  unfold p_read_grammar
  rw [read_v0 h, read_v1 h, split_gram h, cut_tail]
  show (many, _) = _
  congr 1
  rw [List.map_map]
  have e : ∀ r ∈ rules, ((fun x0 => p_read_rule x0 (L2.cutS ("abcd") none (some many))) ∘ wordOf) r = r := fun r hr => rule_eq (h.r r hr) (L2.cutS ("abcd") none (some many))
  exact (List.map_congr_left e).trans (List.map_id' rules)
theorem fold_app {α β : Type} (f : α → β) : ∀ (xs : List α) (acc : List β), xs.foldl (fun s y => s ++ [f y]) acc = acc ++ xs.map f
  | [], acc => by simp
  | x :: xs, acc => by rw [List.foldl_cons, fold_app f xs]; simp
theorem forE_inr {α : Type} {f : Unit → α → Sum Bool Unit} : ∀ {xs : List α}, (∀ x ∈ xs, f () x = .inr ()) → forE f xs () = .inr ()
  | [], _ => rfl
  | x :: xs, h => by
    unfold forE
    rw [h x List.mem_cons_self]
    exact forE_inr fun y hy => h y (List.mem_cons_of_mem _ hy)
theorem gram_len {many : Int} {rules : List Rule} (h : GramOK many rules) : (gtext many rules).length ≤ 100 := by
  have a := join_len (";" : Str) (strI many :: rules.map wordOf)
  have b : (strI many).length = 1 := by rw [(strI_four h.m1 h.m4).1]; rfl
  have c : ((rules.map wordOf).map (·.length)).sum ≤ 6 * (rules.map wordOf).length := sum_le fun x hx => by
    obtain ⟨r, hr, rfl⟩ := List.mem_map.mp hx
    exact word_len (h.r r hr)
  have d := h.n8
  rw [List.map_cons, List.sum_cons, List.length_cons, List.length_map, show (";" : Str).length = 1 from rfl, b] at a
  rw [List.length_map] at c
  unfold gtext
  omega
theorem strI_ten {i : Int} (h1 : 0 ≤ i) (h2 : i ≤ 10) : (strI i).length ≤ 2 := by
  have : i = 0 ∨ i = 1 ∨ i = 2 ∨ i = 3 ∨ i = 4 ∨ i = 5 ∨ i = 6 ∨ i = 7 ∨ i = 8 ∨ i = 9 ∨ i = 10 := by omega
  rcases this with rfl | rfl | rfl | rfl | rfl | rfl | rfl | rfl | rfl | rfl | rfl <;> decide +kernel
theorem gtext_q {many : Int} {rules : List Rule} (h : GramOK many rules) : EmbQ.q (gtext many rules) := q_of fun c hc => by
  have hm := h.m1
  have h4 := h.m4
  rcases join_mem hc with hc | ⟨p, hp, hc⟩
  · rw [tl_semi, List.mem_singleton] at hc
    omega
  · rcases List.mem_cons.mp hp with rfl | hp
    · rw [(strI_four h.m1 h.m4).1, tl_one, List.mem_singleton] at hc
      omega
    · obtain ⟨r, hr, rfl⟩ := List.mem_map.mp hp
      have := word_free (by omega) (h.r r hr) hc
      omega
theorem rule_q {many : Int} (hm : 0 ≤ many) {r : Rule} (h : RuleOK many r) : EmbQ.q r := by
  have k : ∀ c ∈ tl (wordOf r), c < 1114112 := fun c hc => by have := word_free hm h hc; omega
  rw [tl_word] at k
  exact ⟨q_of fun c hc => k c (List.mem_append_left _ hc), q_of fun c hc => k c (List.mem_append_right _ (List.mem_cons_of_mem _ hc))⟩
theorem gram_q {many : Int} {rules : List Rule} (h : GramOK many rules) : EmbQ.q (many, rules) := by
  have hm := h.m1
  exact ⟨trivial, fun r hr => rule_q (by omega) (h.r r hr)⟩
theorem rule_lens {many : Int} {rules : List Rule} (h : GramOK many rules) : ∀ r ∈ rules, r.1.length ≤ 10 ∧ r.2.length ≤ 10 := fun r hr => by
  have a := (sg_in (h.r r hr)).2.1
  have b := (h.r r hr).len
  omega
theorem letters_len (many : Int) : (chars (L2.cutS ("abcd" : Str) none (some many))).length ≤ 4 := by
  rw [chars_len]
  exact L2.cutS_length _ _ _
theorem spl_ne (S : List Nat) : ∀ (k : Nat) (acc l : List Nat), TL.spl S k acc l ≠ []
  | k, acc, [] => by rw [TL.spl_nil]; simp
  | 0, acc, c :: r => by
    unfold TL.spl
    split
    · simp
    · exact spl_ne S 0 _ r
  | k + 1, acc, _ :: r => spl_ne S k acc r
theorem split_ne (x : Str) {y : Str} (hy : tl y ≠ []) (hk : y.cps.all (· < 256) = true) : Txt.split x y ≠ [] := fun e => by
  have h := TL.split_spl x y hy (TL.kind_ok hk)
  rw [e, List.map_nil] at h
  exact spl_ne _ _ _ _ h.symm
theorem join_split (x y : Str) : Txt.join y (Txt.split x y) = x := by rw [TL.join_eq]; exact StrLaws.join_split x y
theorem tl_split (x y : Str) : TL.joinL (tl y) ((Txt.split x y).map tl) = tl x := by rw [← tl_join, join_split]
theorem joinL_sub {S p : List Nat} : ∀ {ps : List (List Nat)}, p ∈ ps → p.length ≤ (TL.joinL S ps).length ∧ ∀ c ∈ p, c ∈ TL.joinL S ps
  | [q], h => by
    rw [List.mem_singleton.mp h]
    exact ⟨Nat.le_refl _, fun c hc => hc⟩
  | q :: r :: rs, h => by
    have e : TL.joinL S (q :: r :: rs) = q ++ (S ++ TL.joinL S (r :: rs)) := rfl
    rw [e]
    rcases List.mem_cons.mp h with rfl | h
    · exact ⟨by rw [List.length_append]; omega, fun c hc => List.mem_append_left _ hc⟩
    · obtain ⟨a, b⟩ := joinL_sub (S := S) h
      exact ⟨by rw [List.length_append, List.length_append]; omega, fun c hc => List.mem_append_right _ (List.mem_append_right _ (b c hc))⟩
theorem part_in {x y p : Str} (hp : p ∈ Txt.split x y) : p.length ≤ x.length ∧ (EmbQ.q x → EmbQ.q p) := by
  have h := joinL_sub (S := tl y) (List.mem_map.mpr ⟨p, hp, rfl⟩ : tl p ∈ (Txt.split x y).map tl)
  rw [tl_split] at h
  exact ⟨by rw [TL.len_tl, TL.len_tl x]; exact h.1, fun hq => q_of fun c hc => (strOk_iff x).mp hq c (h.2 c hc)⟩
theorem any_no {α : Type} {p : α → Bool} {l : List α} (h : l.any p = false) : ∀ x ∈ l, p x = false := fun x hx => by
  cases e : p x with
  | false => rfl
  | true =>
    have : l.any p = true := List.any_eq_true.mpr ⟨x, hx, e⟩
    rw [h] at this
    cases this
theorem ixS_in {s : Str} {i : Int} (h0 : 0 ≤ i) (h : i < s.length) : ∃ c ∈ tl s, ixS s i = ⟨#[c]⟩ := by
  refine ⟨(tl s).getD i.toNat 0, ?_, rfl⟩
  have hl : i.toNat < (tl s).length := by rw [← TL.len_tl]; omega
  rw [List.getD_eq_getElem?_getD, List.getElem?_eq_getElem hl]
  exact List.getElem_mem hl
theorem ixS_take {i many : Int} (h0 : 0 ≤ i) (h : i < many) (h4 : many ≤ 4) : ∃ c ∈ tl (lettersN many), ixS ("abcd" : Str) i = ⟨#[c]⟩ := by
  have hm : many = 1 ∨ many = 2 ∨ many = 3 ∨ many = 4 := by omega
  have hi : i = 0 ∨ i = 1 ∨ i = 2 ∨ i = 3 := by omega
  rcases hm with rfl | rfl | rfl | rfl <;> rcases hi with rfl | rfl | rfl | rfl <;> first | omega | exact ⟨97, by decide +kernel, by decide +kernel⟩ | exact ⟨98, by decide +kernel, by decide +kernel⟩ | exact ⟨99, by decide +kernel, by decide +kernel⟩ | exact ⟨100, by decide +kernel, by decide +kernel⟩
def RGI (many : Int) (s : Int × Str × Int) (ys : List Int) : Prop :=
  s.2.1.length + ys.length ≤ 4 ∧ (∀ c ∈ tl s.2.1, c ∈ CBA ∨ c ∈ tl (lettersN many)) ∧ 0 ≤ s.2.2 ∧ (((tl s.2.1).filter fun c => decide (c ∈ CBA)).length : Int) + s.2.2 = 2
theorem right_step {many : Int} (h1 : 1 ≤ many) (h4 : many ≤ 4) (s : Int × Str × Int) (y : Int) (ys : List Int) (h : RGI many s (y :: ys)) : RGI many (st__law_right_0 many "CBA" s y) ys := by
  obtain ⟨a, b, c, d⟩ := h
  rw [List.length_cons] at a
  unfold st__law_right_0
  cases e : v__law_right_1 "CBA" s y with
  | true =>
    show RGI many (_, v__law_right_2 "CBA" s y, s.2.2 - 1) ys
    unfold v__law_right_1 at e
    simp only [Bool.and_eq_true, decide_eq_true_eq] at e
    have m := mod_bd (a := v__law_right_0 s y / 3) (b := 3) (by decide)
    obtain ⟨z, hz, ez⟩ := ixS_in (s := "CBA") (i := v__law_right_0 s y / 3 % 3) (by omega) (by show _ < (3 : Int); omega)
    have ev : v__law_right_2 "CBA" s y = s.2.1 ++ ⟨#[z]⟩ := by
      unfold v__law_right_2
      rw [show ((("CBA" : Str).length : Nat) : Int) = 3 from rfl, ez]
    rw [tl_cba] at hz
    rw [ev]
    refine ⟨?_, ?_, ?_, ?_⟩
    · show (s.2.1 ++ ⟨#[z]⟩).length + _ ≤ 4
      rw [app_len, show (⟨#[z]⟩ : Str).length = 1 from rfl]; omega
    · intro k hk
      rw [show tl (s.2.1 ++ ⟨#[z]⟩) = tl s.2.1 ++ [z] from TL.tl_append _ _] at hk
      rcases List.mem_append.mp hk with hk | hk
      · exact b k hk
      · rw [List.mem_singleton.mp hk]; exact .inl hz
    · show 0 ≤ s.2.2 - 1
      omega
    · show (((tl (s.2.1 ++ ⟨#[z]⟩)).filter _).length : Int) + (s.2.2 - 1) = 2
      rw [TL.tl_append, tl_one, List.filter_append, List.length_append, show [z].filter (fun c => decide (c ∈ CBA)) = [z] from List.filter_cons_of_pos (p := fun c => decide (c ∈ CBA)) (decide_eq_true hz)]
      simp only [List.filter_nil, List.length_cons, List.length_nil]
      omega
  | false =>
    show RGI many (_, v__law_right_3 many s y, s.2.2) ys
    have m := mod_bd (a := v__law_right_0 s y / 3) (b := many) (by omega)
    obtain ⟨z, hz, ez⟩ := ixS_take (i := v__law_right_0 s y / 3 % many) m.1 m.2 h4
    have ev : v__law_right_3 many s y = s.2.1 ++ ⟨#[z]⟩ := by
      unfold v__law_right_3
      rw [ez]
    have hl := letter_in (by omega) hz
    have hn : z ∉ CBA := fun hc => by have := cba_in hc; omega
    rw [ev]
    refine ⟨?_, ?_, c, ?_⟩
    · show (s.2.1 ++ ⟨#[z]⟩).length + _ ≤ 4
      rw [app_len, show (⟨#[z]⟩ : Str).length = 1 from rfl]; omega
    · intro k hk
      rw [show tl (s.2.1 ++ ⟨#[z]⟩) = tl s.2.1 ++ [z] from TL.tl_append _ _] at hk
      rcases List.mem_append.mp hk with hk | hk
      · exact b k hk
      · rw [List.mem_singleton.mp hk]; exact .inr hz
    · show (((tl (s.2.1 ++ ⟨#[z]⟩)).filter _).length : Int) + s.2.2 = 2
      rw [TL.tl_append, tl_one, List.filter_append, List.length_append, show [z].filter (fun c => decide (c ∈ CBA)) = [] from List.filter_cons_of_neg (p := fun c => decide (c ∈ CBA)) (by rw [decide_eq_true_eq]; exact hn)]
      simp only [List.filter_nil, List.length_nil]
      omega
theorem foldl_remz {α σ : Type} {f : σ → α → σ} (I : σ → List α → Prop) (h : ∀ s y ys, I s (y :: ys) → I (f s y) ys) : ∀ (xs : List α) (s : σ), I s xs → I (xs.foldl f s) []
  | [], _, hi => hi
  | x :: xs, s, hi => foldl_remz I h xs (f s x) (h s x xs hi)
theorem right_init (d : List Int) (many : Int) : RGI many (lastI d, ("" : Str), 2) (rng (lastI d % (4 + 1))) := by
  have m := mod_bd (a := lastI d) (b := 4 + 1) (by decide)
  refine ⟨?_, ?_, (by decide : (0 : Int) ≤ 2), (by decide +kernel : (((tl ("" : Str)).filter fun c => decide (c ∈ CBA)).length : Int) + 2 = 2)⟩
  · rw [rng_len]
    show 0 + _ ≤ 4
    omega
  · intro c hc
    exact absurd hc (by rw [show tl ("" : Str) = [] by decide +kernel]; exact List.not_mem_nil)
theorem right_end {d : List Int} {many : Int} (h1 : 1 ≤ many) (h4 : many ≤ 4) : RGI many (r__law_right_0 d many "CBA" 4) [] := foldl_remz (RGI many) (right_step h1 h4) _ _ (right_init d many)
theorem rule_ok {d : List Int} {many : Int} (x : Int) (h1 : 1 ≤ many) (h4 : many ≤ 4) : RuleOK many (ixS ("CBA" : Str) (x % 3), (p__law_right d many "CBA" 4).1) := by
  obtain ⟨a, b, c, e⟩ := right_end (d := d) h1 h4
  have m := mod_bd (a := x) (b := 3) (by decide)
  obtain ⟨z, hz, ez⟩ := ixS_in (s := "CBA") (i := x % 3) m.1 m.2
  rw [tl_cba] at hz
  refine ⟨⟨z, ez, hz⟩, a, b, ?_⟩
  show ((tl (r__law_right_0 d many "CBA" 4).2.1).filter _).length ≤ 2
  omega
def drawR (many : Int) (s : List Int × List Rule) (_y : Int) : List Int × List Rule := ((p__law_right s.1.dropLast many ("CBA" : Str) 4).2, s.2 ++ [(ixS ("CBA" : Str) (lastI s.1 % 3), (p__law_right s.1.dropLast many ("CBA" : Str) 4).1)])
theorem draw_ok {many : Int} (h1 : 1 ≤ many) (h4 : many ≤ 4) : ∀ (ys : List Int) (s : List Int × List Rule), (∀ r ∈ s.2, RuleOK many r) → (∀ r ∈ (ys.foldl (drawR many) s).2, RuleOK many r) ∧ (ys.foldl (drawR many) s).2.length = s.2.length + ys.length ∧ (ys.foldl (drawR many) s).1.length = s.1.length - 2 * ys.length
  | [], s, h => ⟨h, rfl, rfl⟩
  | y :: ys, s, h => by
    obtain ⟨a, b, c⟩ := draw_ok h1 h4 ys (drawR many s y) (fun r hr => by
      rcases List.mem_append.mp (show r ∈ s.2 ++ [_] from hr) with hr | hr
      · exact h r hr
      · rw [List.mem_singleton.mp hr]; exact rule_ok _ h1 h4)
    refine ⟨a, ?_, ?_⟩
    · rw [List.foldl_cons, b]
      show (s.2 ++ [_]).length + _ = _
      rw [List.length_append, List.length_cons, List.length_cons, List.length_nil]
      omega
    · rw [List.foldl_cons, c]
      show s.1.dropLast.dropLast.length - _ = _
      rw [List.length_dropLast, List.length_dropLast, List.length_cons]
      omega
theorem law_draw (script : List Int) : st_law_0 script = drawR (1 + lastI (v_law_0 script) % 4) := rfl
theorem law_many (script : List Int) : 1 ≤ 1 + lastI (v_law_0 script) % 4 ∧ 1 + lastI (v_law_0 script) % 4 ≤ 4 := by
  generalize v_law_0 script = d
  have := mod_bd (a := lastI d) (b := 4) (by decide)
  omega
theorem draw_gram {d : List Int} {many : Int} (h1 : 1 ≤ many) (h4 : many ≤ 4) : GramOK many ((rng (1 + lastI d.dropLast % 8)).foldl (drawR many) (d.dropLast.dropLast, [])).2 := by
  obtain ⟨a, b, _⟩ := draw_ok h1 h4 (rng (1 + lastI d.dropLast % 8)) (d.dropLast.dropLast, []) (fun r hr => by cases hr)
  have m := mod_bd (a := lastI d.dropLast) (b := 8) (by decide)
  rw [rng_len, List.length_nil] at b
  exact ⟨h1, h4, by omega, by omega, a⟩
theorem law_gram (script : List Int) : GramOK (1 + lastI (v_law_0 script) % 4) (r_law_0 script).2 := by
  obtain ⟨m1, m4⟩ := law_many script
  unfold r_law_0
  rw [law_draw]
  generalize v_law_0 script = d at m1 m4 ⊢
  exact draw_gram m1 m4
theorem law_deck (script : List Int) : 72 ≤ ((v_law_0 script).length : Int) ∧ (v_law_0 script).length ≤ 90 := by
  rw [e_v_law_0]
  exact deck_len _ 72 (cut63 script) (by decide) (by decide)
theorem law_init (script : List Int) : 2 * (rng (1 + lastI (v_law_0 script).dropLast % 8)).length ≤ (v_law_0 script).dropLast.dropLast.length ∧ (v_law_0 script).dropLast.dropLast.length ≤ 90 ∧ (rng (1 + lastI (v_law_0 script).dropLast % 8)).length ≤ 8 := by
  have ld := law_deck script
  generalize v_law_0 script = d at ld ⊢
  have m := mod_bd (a := lastI d.dropLast) (b := 8) (by decide)
  rw [rng_len, List.length_dropLast, List.length_dropLast]
  omega
def LWI (s : List Int × List Rule) (ys : List Int) : Prop := 2 * ys.length ≤ s.1.length ∧ s.1.length ≤ 90 ∧ s.2.length + ys.length ≤ 8
theorem law_wi (script : List Int) : LWI ((v_law_0 script).dropLast.dropLast, []) (rng (1 + lastI (v_law_0 script).dropLast % 8)) := by
  have h := law_init script
  refine ⟨h.1, h.2.1, ?_⟩
  rw [List.length_nil]
  omega
theorem law_wp (script : List Int) (s : List Int × List Rule) (y : Int) (ys : List Int) (h : LWI s (y :: ys)) : LWI (st_law_0 script s y) ys := by
  obtain ⟨a, b, c⟩ := h
  rw [List.length_cons] at a c
  rw [law_draw]
  refine ⟨?_, ?_, ?_⟩
  · show _ ≤ s.1.dropLast.dropLast.length
    rw [List.length_dropLast, List.length_dropLast]
    omega
  · show s.1.dropLast.dropLast.length ≤ _
    rw [List.length_dropLast, List.length_dropLast]
    omega
  · show (s.2 ++ [_]).length + _ ≤ 8
    rw [List.length_append, List.length_cons, List.length_nil]
    omega
theorem law_we (script : List Int) : LWI (r_law_0 script) [] := foldl_remz LWI (law_wp script) _ _ (law_wi script)
/-! ### which grammars are read -/
def badL (l w : Str) : Bool := (chars (partT w ("=" : Str)).c).any fun x => (!inS x ("CBA" : Str)) && (!inS x l)
def badR (l w : Str) : Bool := v_read_rule_0 w || badL l w || v_read_rule_1 w
def badG (t : Str) : Bool := v_read_grammar_0 t || (cutD (Txt.split t (";" : Str)) (some 1) none).any (badR (L2.cutS ("abcd" : Str) none (some (v_read_grammar_1 t))))
theorem badL_no {l w : Str} (h : badL l w = false) : ∀ x ∈ chars (partT w ("=" : Str)).c, ((!inS x ("CBA" : Str)) && (!inS x l)) = false := any_no h
theorem badR_no {l w : Str} (h : badR l w = false) : v_read_rule_0 w = false ∧ (∀ x ∈ chars (partT w ("=" : Str)).c, ((!inS x ("CBA" : Str)) && (!inS x l)) = false) ∧ v_read_rule_1 w = false := by
  unfold badR at h
  rw [Bool.or_eq_false_iff, Bool.or_eq_false_iff] at h
  exact ⟨h.1.1, badL_no h.1.2, h.2⟩
theorem badG_no {t : Str} (h : badG t = false) : v_read_grammar_0 t = false ∧ ∀ x ∈ cutD (Txt.split t (";" : Str)) (some 1) none, badR (L2.cutS ("abcd" : Str) none (some (v_read_grammar_1 t))) x = false := by
  unfold badG at h
  rw [Bool.or_eq_false_iff] at h
  exact ⟨h.1, any_no h.2⟩
theorem part_app (w : Str) : tl w = tl (partT w ("=" : Str)).a ++ (tl (partT w ("=" : Str)).b ++ tl (partT w ("=" : Str)).c) := by
  have := congrArg tl (StrLaws.partition_sum w ("=" : Str))
  rw [TL.tl_append, TL.tl_append, List.append_assoc] at this
  exact this.symm
theorem part_le (w : Str) : (partT w ("=" : Str)).a.length ≤ w.length ∧ (partT w ("=" : Str)).b.length ≤ w.length ∧ (partT w ("=" : Str)).c.length ≤ w.length := by
  have h := congrArg List.length (part_app w)
  rw [List.length_append, List.length_append, ← TL.len_tl, ← TL.len_tl, ← TL.len_tl, ← TL.len_tl] at h
  omega
theorem part_q {w : Str} (h : EmbQ.q w) : EmbQ.q (partT w ("=" : Str)).b := q_of fun c hc => (strOk_iff w).mp h c (by rw [part_app w]; exact List.mem_append_right _ (List.mem_append_left _ hc))
theorem q_eqs : EmbQ.q ("=" : Str) := (by decide +kernel : PyData.canLay0 (.str ("=" : Str)) = true)
theorem one_len {a : Str} (h : (!decide (((a.length : Int) : Int) = 1)) = false) : One a := by
  have h : (a.length : Int) = 1 := by simpa using h
  have h2 : (tl a).length = 1 := by rw [← TL.len_tl]; omega
  show tl a = [(tl a).getD 0 0]
  match tl a, h2 with
  | [c], _ => rfl
theorem k_semi : ((";" : Str).cps.all (· < 256)) = true := by decide +kernel
theorem split_pos (t : Str) : 0 < ((Txt.split t (";" : Str)).length : Int) := by
  have := split_ne t (y := (";" : Str)) (by rw [tl_semi]; simp) k_semi
  have := List.length_pos_iff.mpr this
  omega
theorem split_few (x y : Str) : (Txt.split x y).length ≤ x.length + 2 := PyProof.Rows.split_le x y
theorem cutw {α : Type} (xs : List α) (lo hi : Option Int) : ∀ x ∈ cutD xs lo hi, x ∈ xs := fun x hx => by
  unfold cutD at hx
  exact List.mem_of_mem_drop (List.mem_of_mem_take hx)
theorem head_many {t : Str} (h : v_read_grammar_0 t = false) : ∃ m : Int, 1 ≤ m ∧ m ≤ 4 ∧ ix (Txt.split t (";" : Str)) 0 = strI m ∧ 2 ≤ (Txt.split t (";" : Str)).length ∧ (Txt.split t (";" : Str)).length ≤ 9 := by
  unfold v_read_grammar_0 at h
  rw [Bool.or_eq_false_iff] at h
  obtain ⟨h1, h2⟩ := h
  have h2 : 2 ≤ (((Txt.split t (";" : Str))).length : Int) ∧ (((Txt.split t (";" : Str))).length : Int) ≤ (8 + 1) := by simpa using h2
  rw [Bool.not_eq_false'] at h1
  obtain ⟨b, hb, he⟩ := List.any_eq_true.mp h1
  have he : b = ix (Txt.split t (";" : Str)) 0 := by simpa using he
  have f : strI 1 = ("1" : Str) ∧ strI 2 = ("2" : Str) ∧ strI 3 = ("3" : Str) ∧ strI 4 = ("4" : Str) := by decide +kernel
  simp only [List.mem_cons, List.not_mem_nil, or_false] at hb
  rcases hb with rfl | rfl | rfl | rfl
  · exact ⟨1, by decide, by decide, by rw [f.1]; exact he.symm, by omega, by omega⟩
  · exact ⟨2, by decide, by decide, by rw [f.2.1]; exact he.symm, by omega, by omega⟩
  · exact ⟨3, by decide, by decide, by rw [f.2.2.1]; exact he.symm, by omega, by omega⟩
  · exact ⟨4, by decide, by decide, by rw [f.2.2.2]; exact he.symm, by omega, by omega⟩
theorem head_ok {t : Str} (h : v_read_grammar_0 t = false) : (intText? (ix (Txt.split t (";" : Str)) 0)).isSome = true ∧ (ix (Txt.split t (";" : Str)) 0).length ≤ 2 ∧ 1 ≤ v_read_grammar_1 t ∧ v_read_grammar_1 t ≤ 4 := by
  obtain ⟨m, h1, h4, e, _⟩ := head_many h
  unfold v_read_grammar_1
  rw [e, (strI_four h1 h4).2.1]
  refine ⟨rfl, ?_, h1, h4⟩
  rw [(strI_four h1 h4).1]
  exact (by decide : 1 ≤ 2)
/-! what is read is a rule's word -/
theorem ruleOf {m : Int} {w : Str} (h : badR (lettersN m) w = false) : ∃ r, RuleOK m r ∧ w = wordOf r := by
  obtain ⟨h0, hl, h1⟩ := badR_no h
  unfold v_read_rule_0 at h0
  simp only [Bool.or_eq_false_iff] at h0
  obtain ⟨a1, a2, a3, a4⟩ := h0
  have o := one_len a1
  have e3 : (partT w ("=" : Str)).b = ("=" : Str) := by simpa using a3
  have e4 : ¬ (((partT w ("=" : Str)).c.length : Int) > 4) := of_decide_eq_false a4
  have e2 : inS (partT w ("=" : Str)).a ("CBA" : Str) = true := by simpa using a2
  unfold v_read_rule_1 at h1
  have e5 := of_decide_eq_false h1
  rw [signs_len] at e5
  refine ⟨((partT w ("=" : Str)).a, (partT w ("=" : Str)).c), ⟨⟨_, o.eq, ?_⟩, by show (partT w ("=" : Str)).c.length ≤ 4; omega, fun c hc => ?_, by show ((tl (partT w ("=" : Str)).c).filter fun c => decide (c ∈ CBA)).length ≤ 2; omega⟩, ?_⟩
  · have := of_decide_eq_true e2
    rw [← tl_cba]
    exact this
  · have := hl ⟨#[c]⟩ (chars_mem.mpr ⟨c, hc, rfl⟩)
    rw [inS_mk, inS_mk, tl_cba] at this
    by_cases z : c ∈ CBA
    · exact .inl z
    · by_cases z2 : c ∈ tl (lettersN m)
      · exact .inr z2
      · rw [decide_eq_false z, decide_eq_false z2] at this
        cases this
  · refine TL.ext_tl ?_
    rw [tl_word, part_app w, e3, tl_eq]
    rfl
theorem ruleRead {m : Int} {r : Rule} (h : RuleOK m r) : badR (lettersN m) (wordOf r) = false := by
  unfold badR badL
  rw [rule_v0 h, rule_v1 h, part_word h]
  rw [Bool.or_false, Bool.false_or]
  refine Bool.eq_false_iff.mpr fun z => ?_
  obtain ⟨x, hx, hb⟩ := List.any_eq_true.mp z
  rw [rule_ch h hx] at hb
  cases hb
theorem gramRead {m : Int} {rs : List Rule} (h : GramOK m rs) : badG (gtext m rs) = false := by
  unfold badG
  rw [read_v0 h, read_v1 h, split_gram h, cut_tail, Bool.false_or]
  refine Bool.eq_false_iff.mpr fun z => ?_
  obtain ⟨x, hx, hb⟩ := List.any_eq_true.mp z
  obtain ⟨r, hr, rfl⟩ := List.mem_map.mp hx
  have := ruleRead (h.r r hr)
  unfold lettersN at this
  rw [this] at hb
  cases hb
theorem gramOf {t : Str} (h : badG t = false) : ∃ m rs, GramOK m rs ∧ t = gtext m rs := by
  obtain ⟨h0, h1⟩ := badG_no h
  obtain ⟨m, m1, m4, e, l2, l9⟩ := head_many h0
  have em : v_read_grammar_1 t = m := by
    unfold v_read_grammar_1
    rw [e, (strI_four m1 m4).2.1]
    rfl
  rw [em] at h1
  have js := join_split t (";" : Str)
  match hs : Txt.split t (";" : Str), l2 with
  | x :: xs, l2 =>
    rw [hs, cut_tail] at h1
    rw [hs] at e l9 js
    have e : x = strI m := e
    subst e
    have key : ∀ ws : List Str, (∀ w ∈ ws, badR (lettersN m) w = false) → ∃ rs : List Rule, ws = rs.map wordOf ∧ ∀ r ∈ rs, RuleOK m r := by
      intro ws
      induction ws with
      | nil => intro _; exact ⟨[], rfl, fun r hr => by cases hr⟩
      | cons w ws ih =>
        intro hw
        obtain ⟨r, hr, rfl⟩ := ruleOf (hw w List.mem_cons_self)
        obtain ⟨rs, rfl, hrs⟩ := ih fun u hu => hw u (List.mem_cons_of_mem _ hu)
        refine ⟨r :: rs, rfl, fun q hq => ?_⟩
        rcases List.mem_cons.mp hq with rfl | hq
        · exact hr
        · exact hrs q hq
    obtain ⟨rs, rfl, hrs⟩ := key xs h1
    rw [List.length_cons, List.length_map] at l2 l9
    exact ⟨m, rs, ⟨m1, m4, by omega, by omega, hrs⟩, js.symm⟩
/-! the signs of what is read -/
def gch (c : Nat) : Bool := decide (c = 59) || decide (c = 61) || (decide (49 ≤ c) && decide (c ≤ 52)) || (decide (65 ≤ c) && decide (c ≤ 67)) || (decide (97 ≤ c) && decide (c ≤ 100))
theorem tl_gram {m : Int} {rs : List Rule} (h : GramOK m rs) : tl (gtext m rs) = (48 + m).toNat :: (rs.map fun r => 59 :: tl (wordOf r)).flatten := by
  unfold gtext
  rw [tl_join, tl_semi, List.map_cons, joinL_cons, (strI_four h.m1 h.m4).1, List.map_map, List.map_map]
  rfl
theorem gram_gch {m : Int} {rs : List Rule} (h : GramOK m rs) : ∀ c ∈ tl (gtext m rs), gch c = true := by
  intro c hc
  have m1 := h.m1
  have m4 := h.m4
  rw [tl_gram h] at hc
  unfold gch
  simp only [Bool.or_eq_true, Bool.and_eq_true, decide_eq_true_eq]
  rcases List.mem_cons.mp hc with rfl | hc
  · omega
  · obtain ⟨l, hl, hc⟩ := List.mem_flatten.mp hc
    obtain ⟨r, hr, rfl⟩ := List.mem_map.mp hl
    rcases List.mem_cons.mp hc with rfl | hc
    · omega
    · have := word_free (by omega) (h.r r hr) hc
      omega
theorem gram_head {m : Int} {rs : List Rule} (h : GramOK m rs) : ∃ d c l, tl (gtext m rs) = d :: 59 :: c :: 61 :: l ∧ 49 ≤ d ∧ d ≤ 52 ∧ 65 ≤ c ∧ c ≤ 67 := by
  have m1 := h.m1
  have m4 := h.m4
  have n1 := h.n1
  rw [tl_gram h]
  match rs, n1, h.r with
  | r :: rs, _, hr =>
    obtain ⟨c, e, hc⟩ := (hr r List.mem_cons_self).sg
    have := cba_in hc
    refine ⟨(48 + m).toNat, c, tl r.2 ++ (rs.map fun r => 59 :: tl (wordOf r)).flatten, ?_, by omega, by omega, this.1, this.2⟩
    rw [List.map_cons, List.flatten_cons, tl_word, e]
    rfl
/-- 59 59 stands nowhere in it -/
def noSS : List Nat → Bool
  | a :: b :: l => !(decide (a = 59) && decide (b = 59)) && noSS (b :: l)
  | _ => true
theorem noSS_at : ∀ {x y : List Nat}, noSS (x ++ 59 :: 59 :: y) = false
  | [], _ => rfl
  | [a], y => by
    show (!(decide (a = 59) && decide (59 = 59)) && noSS (59 :: 59 :: y)) = false
    rw [show noSS (59 :: 59 :: y) = false from rfl, Bool.and_false]
  | a :: b :: x, y => by
    show (!(decide (a = 59) && decide (b = 59)) && noSS ((b :: x) ++ 59 :: 59 :: y)) = false
    rw [noSS_at, Bool.and_false]
theorem noSS_app : ∀ {x y : List Nat}, (∀ c ∈ x, c ≠ 59) → noSS y = true → noSS (x ++ y) = true
  | [], _, _, h => h
  | [a], y, hx, h => by
    have ha := hx a List.mem_cons_self
    match y, h with
    | [], _ => rfl
    | b :: y, h =>
      show (!(decide (a = 59) && decide (b = 59)) && noSS (b :: y)) = true
      rw [h, decide_eq_false ha]
      rfl
  | a :: b :: x, y, hx, h => by
    show (!(decide (a = 59) && decide (b = 59)) && noSS ((b :: x) ++ y)) = true
    rw [noSS_app (fun c hc => hx c (List.mem_cons_of_mem _ hc)) h, decide_eq_false (hx a List.mem_cons_self)]
    rfl
theorem word_no59 {m : Int} (hm : 0 ≤ m) {r : Rule} (h : RuleOK m r) : ∀ c ∈ tl (wordOf r), c ≠ 59 := fun c hc => by
  have := word_free hm h hc
  omega
theorem gram_noSS {m : Int} {rs : List Rule} (h : GramOK m rs) : noSS (tl (gtext m rs)) = true := by
  have m1 := h.m1
  have m4 := h.m4
  have hm : (48 + m).toNat ≠ 59 := by omega
  rw [tl_gram h]
  have key : ∀ rs : List Rule, (∀ r ∈ rs, RuleOK m r) → noSS (rs.map fun r => 59 :: tl (wordOf r)).flatten = true := by
    intro rs
    induction rs with
    | nil => intro _; rfl
    | cons r rs ih =>
      intro hr
      have h1 := hr r List.mem_cons_self
      have e : tl (wordOf r) ≠ [] := by
        rw [tl_word]
        simp
      have a := noSS_app (word_no59 (by omega) h1) (ih fun q hq => hr q (List.mem_cons_of_mem _ hq))
      have b := word_no59 (by omega) h1
      rw [List.map_cons, List.flatten_cons]
      show noSS (59 :: (tl (wordOf r) ++ _)) = true
      revert a b e
      cases tl (wordOf r) with
      | nil => intro e a b; exact absurd rfl e
      | cons c l =>
        intro e a b
        show (!(decide (59 = 59) && decide (c = 59)) && noSS ((c :: l) ++ _)) = true
        rw [a, decide_eq_false (b c List.mem_cons_self)]
        rfl
  exact noSS_app (x := [(48 + m).toNat]) (fun c hc => by rw [List.mem_singleton.mp hc]; exact hm) (key rs h.r)
theorem gram_last {m : Int} {rs : List Rule} (h : GramOK m rs) : ∃ x c, tl (gtext m rs) = x ++ [c] ∧ c ≠ 59 := by
  have m1 := h.m1
  have n1 := h.n1
  rw [tl_gram h]
  have hne : rs ≠ [] := List.length_pos_iff.mp n1
  have e : rs = rs.dropLast ++ [rs.getLast hne] := (List.dropLast_concat_getLast hne).symm
  have hr := h.r _ (List.getLast_mem hne)
  generalize rs.getLast hne = r at e hr
  rw [e, List.map_append, List.flatten_append]
  have ew : tl (wordOf r) ≠ [] := by rw [tl_word]; simp
  have e2 := (List.dropLast_concat_getLast ew).symm
  refine ⟨(48 + m).toNat :: ((rs.dropLast.map fun r => 59 :: tl (wordOf r)).flatten ++ 59 :: (tl (wordOf r)).dropLast), (tl (wordOf r)).getLast ew, ?_, word_no59 (by omega) hr _ (List.getLast_mem ew)⟩
  have ef : ([r].map fun r => 59 :: tl (wordOf r)).flatten = (59 :: (tl (wordOf r)).dropLast) ++ [(tl (wordOf r)).getLast ew] := by
    show (59 :: tl (wordOf r)) ++ [] = _
    rw [List.append_nil, List.cons_append, List.dropLast_concat_getLast ew]
  rw [ef]
  simp
theorem gram_c59 {m : Int} {rs : List Rule} (h : GramOK m rs) : (tl (gtext m rs)).count 59 ≤ 8 := by
  have m1 := h.m1
  have n8 := h.n8
  rw [tl_gram h]
  have key : ∀ rs : List Rule, (∀ r ∈ rs, RuleOK m r) → ((rs.map fun r => 59 :: tl (wordOf r)).flatten).count 59 = rs.length := by
    intro rs
    induction rs with
    | nil => intro _; rfl
    | cons r rs ih =>
      intro hr
      rw [List.map_cons, List.flatten_cons, List.count_append, ih fun q hq => hr q (List.mem_cons_of_mem _ hq), List.count_cons_self, List.count_eq_zero.mpr (fun z => word_no59 (by omega) (hr r List.mem_cons_self) 59 z rfl), List.length_cons]
      omega
  have : ¬ ((48 + m).toNat = 59) := by have := h.m4; omega
  rw [List.count_cons_of_ne this, key rs h.r]
  exact n8
theorem bad_of {t : Str} (h : ∀ m rs, GramOK m rs → tl t ≠ tl (gtext m rs)) : badG t = true := by
  cases e : badG t with
  | true => rfl
  | false =>
    obtain ⟨m, rs, hg, rfl⟩ := gramOf e
    exact absurd rfl (h m rs hg)
theorem bad_sign {t : Str} (h : ∃ c ∈ tl t, gch c = false) : badG t = true := bad_of fun m rs hg e => by
  obtain ⟨c, hc, hb⟩ := h
  rw [e] at hc
  rw [gram_gch hg c hc] at hb
  cases hb
/-! ### the faults -/
theorem law_text (many : Int) (rules : List Rule) : p__law_text many rules = gtext many rules := rfl
theorem s_lit1 : tl ("0" : Str) = [48] ∧ tl ("5" : Str) = [53] ∧ tl ("" : Str) = [] ∧ tl ("11" : Str) = [49, 49] ∧ tl ("01" : Str) = [48, 49] ∧ tl ("a" : Str) = [97] ∧ tl ("-1" : Str) = [45, 49] ∧ tl ("2 " : Str) = [50, 32] := by decide +kernel
theorem s_lit2 : tl (" " : Str) = [32] ∧ tl ("\n" : Str) = [10] ∧ tl (";;" : Str) = [59, 59] ∧ tl ("	" : Str) = [9] ∧ tl ("/" : Str) = [47] := by decide +kernel
theorem s_lit3 : tl ("D" : Str) = [68] ∧ tl ("AB" : Str) = [65, 66] ∧ tl ("1" : Str) = [49] ∧ tl ("A " : Str) = [65, 32] ∧ tl ("CBA" : Str) = [67, 66, 65] := by decide +kernel
theorem s_lit4 : tl ("==" : Str) = [61, 61] ∧ tl (":" : Str) = [58] ∧ tl ("=A=" : Str) = [61, 65, 61] ∧ tl (" = " : Str) = [32, 61, 32] := by decide +kernel
theorem s_lit5 : tl ("aaaaa" : Str) = [97, 97, 97, 97, 97] ∧ tl ("AAA" : Str) = [65, 65, 65] ∧ tl ("BaBB" : Str) = [66, 97, 66, 66] ∧ tl ("CCBa" : Str) = [67, 67, 66, 97] ∧ tl ("A=a" : Str) = [65, 61, 97] := by decide +kernel
theorem cut_from {z : Str} {k : Nat} : tl (L2.cutS z (some (k : Int)) none) = (tl z).drop k := by
  rw [cutS_tl, HT.sIx_nat, HT.sIx_none, TL.len_tl]
  by_cases h : k ≤ (tl z).length
  · rw [Nat.min_eq_left h, List.take_of_length_le (by rw [List.length_drop]; omega)]
  · rw [Nat.min_eq_right (by omega), List.drop_of_length_le (Nat.le_refl _), List.drop_of_length_le (by omega), List.take_nil]
theorem way0 {many : Int} {rules : List Rule} (h : GramOK many rules) {o : Str} (ho : o ∈ [("0" : Str), ("5" : Str), ("" : Str), ("11" : Str), ("01" : Str), ("a" : Str), ("-1" : Str), ("2 " : Str)]) : badG (o ++ (L2.cutS (gtext many rules) (some 1) none)) = true := bad_of fun m rs hg e => by
  obtain ⟨d, c, l, e1, d1, d2, c1, c2⟩ := gram_head h
  obtain ⟨d', c', l', e2, d3, d4, c3, c4⟩ := gram_head hg
  have ec : tl (L2.cutS (gtext many rules) (some 1) none) = (tl (gtext many rules)).drop 1 := cut_from (k := 1)
  rw [e2, TL.tl_append, ec, e1, List.drop_succ_cons, List.drop_zero] at e
  obtain ⟨f1, f2, f3, f4, f5, f6, f7, f8⟩ := s_lit1
  simp only [List.mem_cons, List.not_mem_nil, or_false] at ho
  rcases ho with rfl | rfl | rfl | rfl | rfl | rfl | rfl | rfl
  · rw [f1] at e; injection e with a b; omega
  · rw [f2] at e; injection e with a b; omega
  · rw [f3] at e; injection e with a b; omega
  · rw [f4] at e; injection e with a b; injection b with a b; omega
  · rw [f5] at e; injection e with a b; omega
  · rw [f6] at e; injection e with a b; omega
  · rw [f7] at e; injection e with a b; omega
  · rw [f8] at e; injection e with a b; injection b with a b; omega
theorem way1 {many : Int} {rules : List Rule} (h : GramOK many rules) {o : Str} (ho : o ∈ [(strI many), ((strI many) ++ (";" : Str)), (Txt.join (";" : Str) ([(strI many)] ++ ((List.replicate (9 : Int).toNat ([("A=a" : Str)] : (List Str))).flatten))), (L2.cutS (p__law_text many rules) (some 2) none), ("" : Str)]) : badG o = true := bad_of fun m rs hg e => by
  obtain ⟨d, c, l, e1, d1, d2, c1, c2⟩ := gram_head h
  obtain ⟨d', c', l', e2, d3, d4, c3, c4⟩ := gram_head hg
  have c59 := gram_c59 hg
  have m1 := h.m1
  have m4 := h.m4
  have es : tl (strI many) = [(48 + many).toNat] := by rw [(strI_four h.m1 h.m4).1, tl_one]
  simp only [List.mem_cons, List.not_mem_nil, or_false] at ho
  rcases ho with rfl | rfl | rfl | rfl | rfl
  · rw [e2, es] at e; injection e with a b; cases b
  · rw [e2, TL.tl_append, es, tl_semi] at e; injection e with a b; injection b with a b; injection b
  · rw [← e, show ([strI many] ++ ((List.replicate (9 : Int).toNat ([("A=a" : Str)] : (List Str))).flatten) : List Str) = strI many :: List.replicate 9 ("A=a" : Str) from rfl, tl_join, tl_semi, List.map_cons, joinL_cons, List.map_map, es] at c59
    have ew : (List.replicate 9 ("A=a" : Str)).map ((fun q => [59] ++ q) ∘ tl) = List.replicate 9 [59, 65, 61, 97] := by
      rw [List.map_replicate]
      show List.replicate 9 ([59] ++ tl ("A=a" : Str)) = _
      rw [s_lit5.2.2.2.2]
      rfl
    rw [ew, List.count_append, show (List.replicate 9 [59, 65, 61, 97] : List (List Nat)).flatten.count 59 = 9 from by decide] at c59
    omega
  · have ec : tl (L2.cutS (p__law_text many rules) (some 2) none) = (tl (gtext many rules)).drop 2 := cut_from (k := 2)
    rw [e2, ec, e1] at e
    injection e with a b
    omega
  · rw [e2, s_lit1.2.2.1] at e; cases e
theorem way2 {many : Int} {rules : List Rule} (x y : Str) {o : Str} (ho : o ∈ [(" " : Str), ("\n" : Str), (";;" : Str), ("	" : Str), ("/" : Str)]) : badG ((x ++ o) ++ y) = true := by
  obtain ⟨f1, f2, f3, f4, f5⟩ := s_lit2
  have et : tl ((x ++ o) ++ y) = tl x ++ (tl o ++ tl y) := by rw [TL.tl_append, TL.tl_append, List.append_assoc]
  simp only [List.mem_cons, List.not_mem_nil, or_false] at ho
  have go : ∀ c, tl o = [c] → gch c = false → badG ((x ++ o) ++ y) = true := fun c e1 e2 => bad_sign ⟨c, by rw [et, e1]; exact List.mem_append_right _ List.mem_cons_self, e2⟩
  rcases ho with rfl | rfl | rfl | rfl | rfl
  · exact go 32 f1 (by decide)
  · exact go 10 f2 (by decide)
  · refine bad_of fun m rs hg e => ?_
    have := gram_noSS hg
    rw [← e, et, f3, show ([59, 59] ++ tl y : List Nat) = 59 :: 59 :: tl y from rfl, noSS_at] at this
    cases this
  · exact go 9 f4 (by decide)
  · exact go 47 f5 (by decide)
theorem way3 {many : Int} {rules : List Rule} (h : GramOK many rules) {o : Str} (ho : o ∈ [((p__law_text many rules) ++ (";" : Str)), ((";" : Str) ++ (p__law_text many rules)), ((p__law_text many rules) ++ (" " : Str)), ((" " : Str) ++ (p__law_text many rules)), ((p__law_text many rules) ++ ("\n" : Str))]) : badG o = true := by
  obtain ⟨f1, f2, f3, f4, f5⟩ := s_lit2
  simp only [List.mem_cons, List.not_mem_nil, or_false] at ho
  rcases ho with rfl | rfl | rfl | rfl | rfl
  · refine bad_of fun m rs hg e => ?_
    obtain ⟨x, c, e1, hc⟩ := gram_last hg
    rw [e1, TL.tl_append, tl_semi] at e
    have := congrArg List.getLast? e
    rw [List.getLast?_append, List.getLast?_append] at this
    injection this with z
    exact hc z.symm
  · refine bad_of fun m rs hg e => ?_
    obtain ⟨d', c', l', e2, d3, d4, c3, c4⟩ := gram_head hg
    rw [e2, TL.tl_append, tl_semi] at e
    injection e with a b
    omega
  · exact bad_sign ⟨32, by rw [TL.tl_append, f1]; exact List.mem_append_right _ List.mem_cons_self, by decide⟩
  · exact bad_sign ⟨32, by rw [TL.tl_append, f1]; exact List.mem_append_left _ List.mem_cons_self, by decide⟩
  · exact bad_sign ⟨10, by rw [TL.tl_append, f2]; exact List.mem_append_right _ List.mem_cons_self, by decide⟩
/-! a bad word -/
theorem badR_of {m : Int} {w : Str} (h : ∀ c l, tl w = c :: 61 :: l → 65 ≤ c → c ≤ 67 → l.length ≤ 4 → (∀ x ∈ l, x ∈ CBA ∨ x ∈ tl (lettersN m)) → (l.filter fun c => decide (c ∈ CBA)).length ≤ 2 → False) : badR (lettersN m) w = true := by
  cases e : badR (lettersN m) w with
  | true => rfl
  | false =>
    obtain ⟨r, hr, rfl⟩ := ruleOf e
    obtain ⟨c, e1, hc⟩ := hr.sg
    have := cba_in hc
    refine (h c (tl r.2) (by rw [tl_word, e1]; rfl) this.1 this.2 ?_ hr.ch hr.sn).elim
    have := hr.len
    rw [TL.len_tl] at this
    exact this
theorem ch_not {m : Int} (hm : 0 ≤ m) {c : Nat} (h : c ∈ CBA ∨ c ∈ tl (lettersN m)) : (65 ≤ c ∧ c ≤ 67) ∨ (97 ≤ c ∧ c ≤ 100) := h.elim (fun z => .inl (cba_in z)) fun z => .inr (letter_in hm z)
theorem rbad0 {m : Int} {o z : Str} (ho : o ∈ [("D" : Str), ("a" : Str), ("" : Str), ("AB" : Str), ("1" : Str), ("=" : Str), ("A " : Str), ("CBA" : Str)]) : badR (lettersN m) ((o ++ ("=" : Str)) ++ z) = true := badR_of fun c l e c1 c2 _ _ _ => by
  obtain ⟨f1, f2, f3, f4, f5⟩ := s_lit3
  rw [TL.tl_append, TL.tl_append, tl_eq, List.append_assoc] at e
  simp only [List.mem_cons, List.not_mem_nil, or_false] at ho
  rcases ho with rfl | rfl | rfl | rfl | rfl | rfl | rfl | rfl
  · rw [f1] at e; injection e with a b; omega
  · rw [s_lit1.2.2.2.2.2.1] at e; injection e with a b; omega
  · rw [s_lit1.2.2.1] at e; injection e with a b; omega
  · rw [f2] at e; injection e with a b; injection b with a b; omega
  · rw [f3] at e; injection e with a b; omega
  · rw [tl_eq] at e; injection e with a b; omega
  · rw [f4] at e; injection e with a b; injection b with a b; omega
  · rw [f5] at e; injection e with a b; injection b with a b; omega
theorem rbad1 {m : Int} {r : Rule} (hm : 0 ≤ m) (h : RuleOK m r) {o : Str} (ho : o ∈ [("" : Str), ("==" : Str), (":" : Str), ("=A=" : Str), (" = " : Str)]) : badR (lettersN m) ((r.1 ++ o) ++ r.2) = true := badR_of fun c l e c1 c2 _ hl _ => by
  obtain ⟨f1, f2, f3, f4⟩ := s_lit4
  obtain ⟨k, ek, hk⟩ := h.sg
  rw [TL.tl_append, TL.tl_append, ek, tl_one, List.append_assoc] at e
  have no61 : 61 ∉ l := fun z => by have := ch_not hm (hl 61 z); omega
  simp only [List.mem_cons, List.not_mem_nil, or_false] at ho
  rcases ho with rfl | rfl | rfl | rfl | rfl
  · rw [s_lit1.2.2.1] at e
    injection e with a b
    have b : tl r.2 = 61 :: l := b
    have := ch_not hm (h.ch 61 (by rw [b]; exact List.mem_cons_self))
    omega
  · rw [f1] at e; injection e with a b; injection b with a b
    exact no61 (by rw [← b]; exact List.mem_cons_self)
  · rw [f2] at e; injection e with a b; injection b with a b; omega
  · rw [f3] at e; injection e with a b; injection b with a b
    exact no61 (by rw [← b]; exact List.mem_cons_of_mem _ List.mem_cons_self)
  · rw [f4] at e; injection e with a b; injection b with a b; omega
theorem rbad2 {m : Int} {r : Rule} {z : Str} (h : RuleOK m r) (hz : (tl z).length ≤ 4 → (∀ x ∈ tl z, x ∈ CBA ∨ x ∈ tl (lettersN m)) → ((tl z).filter fun c => decide (c ∈ CBA)).length ≤ 2 → False) : badR (lettersN m) ((r.1 ++ ("=" : Str)) ++ z) = true := badR_of fun c l e c1 c2 h1 h2 h3 => by
  obtain ⟨k, ek, hk⟩ := h.sg
  rw [TL.tl_append, TL.tl_append, ek, tl_one, tl_eq, List.append_assoc] at e
  injection e with a b
  injection b with a b
  subst b
  exact hz h1 h2 h3
theorem bcd_at {m : Int} (h1 : 1 ≤ m) (h4 : m < 4) : ∃ c, ixS ("bcd" : Str) (m - 1) = ⟨#[c]⟩ ∧ ¬ (c ∈ CBA ∨ c ∈ tl (lettersN m)) ∧ c ≠ 59 ∧ c < 1114112 := by
  have : m = 1 ∨ m = 2 ∨ m = 3 := by omega
  rcases this with rfl | rfl | rfl
  · exact ⟨98, by decide +kernel, by decide +kernel, by decide, by decide⟩
  · exact ⟨99, by decide +kernel, by decide +kernel, by decide, by decide⟩
  · exact ⟨100, by decide +kernel, by decide +kernel, by decide, by decide⟩
/-- what stands in a text -/
def TX (k : Nat) (z : Str) : Prop := z.length ≤ k ∧ ∀ c ∈ tl z, c ≠ 59 ∧ c < 1114112
theorem TX.app {j k : Nat} {x y : Str} (h1 : TX j x) (h2 : TX k y) : TX (j + k) (x ++ y) := by
  refine ⟨?_, fun c hc => ?_⟩
  · have a := h1.1
    have b := h2.1
    rw [app_len]
    omega
  · rw [TL.tl_append] at hc
    exact (List.mem_append.mp hc).elim (h1.2 c) (h2.2 c)
theorem TX.cut {k : Nat} {x : Str} (h : TX k x) (lo hi : Option Int) : TX k (L2.cutS x lo hi) := by
  refine ⟨Nat.le_trans (L2.cutS_length _ _ _) h.1, fun c hc => h.2 c ?_⟩
  rw [cutS_tl] at hc
  exact List.mem_of_mem_drop (List.mem_of_mem_take hc)
theorem TX.mono {j k : Nat} {x : Str} (h : TX j x) (hk : j ≤ k) : TX k x := ⟨Nat.le_trans h.1 hk, h.2⟩
def txB (k : Nat) (z : Str) : Bool := decide (z.length ≤ k) && (tl z).all fun c => decide (c ≠ 59) && decide (c < 1114112)
theorem TX.of {k : Nat} {z : Str} (h : txB k z = true) : TX k z := by
  unfold txB at h
  rw [Bool.and_eq_true, decide_eq_true_eq, List.all_eq_true] at h
  refine ⟨h.1, fun c hc => ?_⟩
  have := h.2 c hc
  rw [Bool.and_eq_true, decide_eq_true_eq, decide_eq_true_eq] at this
  exact this
theorem TX.ix {k : Nat} {zs : List Str} {i : Int} (h0 : 0 ≤ i) (h1 : i < zs.length) (h : zs.all (txB k) = true) : TX k (TD.ix zs i) := TX.of (List.all_eq_true.mp h _ (ix_mem h0 h1))
theorem rule_tx {m : Int} (hm : 0 ≤ m) {r : Rule} (h : RuleOK m r) : TX 1 r.1 ∧ TX 4 r.2 := by
  have k : ∀ c ∈ tl (wordOf r), c ≠ 59 ∧ c < 1114112 := fun c hc => by have := word_free hm h hc; omega
  rw [tl_word] at k
  exact ⟨⟨Nat.le_of_eq (sg_in h).2.1, fun c hc => k c (List.mem_append_left _ hc)⟩, ⟨h.len, fun c hc => k c (List.mem_append_right _ (List.mem_cons_of_mem _ hc))⟩⟩
theorem eq_tx : TX 1 ("=" : Str) := TX.of (by decide +kernel)
theorem right_bad {m : Int} {r : Rule} (h1 : 1 ≤ m) (h4 : m ≤ 4) (h : RuleOK m r) (c : Int) : badR (lettersN m) ((r.1 ++ ("=" : Str)) ++ p__law_bad_right r.2 m c) = true ∧ TX 9 (p__law_bad_right r.2 m c) := by
  have hm : 0 ≤ m := by omega
  obtain ⟨f1, f2, f3, f4, f5⟩ := s_lit5
  have t2 := (rule_tx hm h).2
  unfold p__law_bad_right
  by_cases c0 : c % 7 = 0
  · rw [decide_eq_true c0]
    refine ⟨rbad2 h fun a _ _ => ?_, TX.of (k := 9) (z := ("aaaaa" : Str)) (by decide +kernel)⟩
    have a : (tl ("aaaaa" : Str)).length ≤ 4 := a
    rw [f1] at a
    revert a
    decide
  rw [decide_eq_false c0]
  by_cases c1 : c % 7 = 1
  · rw [decide_eq_true c1]
    have mk := mod_bd (a := c / 70) (b := 4) (by decide)
    have hi := ix_mem (xs := [("CBA" : Str), ("AAA" : Str), ("BaBB" : Str), ("CCBa" : Str)]) mk.1 (by simp only [List.length_cons, List.length_nil]; omega)
    refine ⟨rbad2 h fun _ _ a => ?_, TX.ix mk.1 (by simp only [List.length_cons, List.length_nil]; omega) (by decide +kernel)⟩
    have a : ((tl (TD.ix [("CBA" : Str), ("AAA" : Str), ("BaBB" : Str), ("CCBa" : Str)] ((c / 70) % 4))).filter fun c => decide (c ∈ CBA)).length ≤ 2 := a
    generalize TD.ix [("CBA" : Str), ("AAA" : Str), ("BaBB" : Str), ("CCBa" : Str)] ((c / 70) % 4) = o at a hi
    simp only [List.mem_cons, List.not_mem_nil, or_false] at hi
    rcases hi with rfl | rfl | rfl | rfl
    · rw [s_lit3.2.2.2.2] at a; revert a; decide
    · rw [f2] at a; revert a; decide
    · rw [f3] at a; revert a; decide
    · rw [f4] at a; revert a; decide
  rw [decide_eq_false c1]
  show badR (lettersN m) ((r.1 ++ ("=" : Str)) ++ (cond (v__law_bad_right_1 m c) _ _)) = true ∧ TX 9 (cond (v__law_bad_right_1 m c) _ _)
  cases e : v__law_bad_right_1 m c with
  | true =>
    unfold v__law_bad_right_1 at e
    rw [Bool.and_eq_true, decide_eq_true_eq, decide_eq_true_eq] at e
    obtain ⟨k, ek, nk, k59, kq⟩ := bcd_at h1 e.2
    have tk : TX 1 (⟨#[k]⟩ : Str) := ⟨Nat.le_refl 1, fun c hc => by rw [tl_one, List.mem_singleton] at hc; rw [hc]; exact ⟨k59, kq⟩⟩
    show badR (lettersN m) ((r.1 ++ ("=" : Str)) ++ ((L2.cutS r.2 none _ ++ ixS ("bcd" : Str) (m - 1)) ++ L2.cutS r.2 _ _)) = true ∧ TX 9 ((L2.cutS r.2 none _ ++ ixS ("bcd" : Str) (m - 1)) ++ L2.cutS r.2 _ _)
    rw [ek]
    refine ⟨rbad2 h fun _ a _ => nk (a k ?_), ((t2.cut _ _).app tk).app (t2.cut _ _)⟩
    rw [TL.tl_append, TL.tl_append]
    exact List.mem_append_left _ (List.mem_append_right _ (by rw [tl_one]; exact List.mem_cons_self))
  | false =>
    have mk := mod_bd (a := c / 70) (b := 12) (by decide)
    have hi : v__law_bad_right_2 c ∈ [("e" : Str), ("0" : Str), ("D" : Str), ("+" : Str), ("," : Str), ("_" : Str), ("=" : Str), ("Z" : Str), ("-" : Str), ("(" : Str), ("." : Str), ("z" : Str)] := ix_mem (xs := [("e" : Str), ("0" : Str), ("D" : Str), ("+" : Str), ("," : Str), ("_" : Str), ("=" : Str), ("Z" : Str), ("-" : Str), ("(" : Str), ("." : Str), ("z" : Str)]) mk.1 (by simp only [List.length_cons, List.length_nil]; omega)
    show badR (lettersN m) ((r.1 ++ ("=" : Str)) ++ ((L2.cutS r.2 none _ ++ v__law_bad_right_2 c) ++ L2.cutS r.2 _ _)) = true ∧ TX 9 ((L2.cutS r.2 none _ ++ v__law_bad_right_2 c) ++ L2.cutS r.2 _ _)
    generalize v__law_bad_right_2 c = o at hi
    have ho : TX 1 o ∧ ∃ k, tl o = [k] ∧ ¬ ((65 ≤ k ∧ k ≤ 67) ∨ (97 ≤ k ∧ k ≤ 100)) := by
      simp only [List.mem_cons, List.not_mem_nil, or_false] at hi
      rcases hi with rfl | rfl | rfl | rfl | rfl | rfl | rfl | rfl | rfl | rfl | rfl | rfl
      · exact ⟨TX.of (by decide +kernel), 101, by decide +kernel, by decide⟩
      · exact ⟨TX.of (by decide +kernel), 48, by decide +kernel, by decide⟩
      · exact ⟨TX.of (by decide +kernel), 68, by decide +kernel, by decide⟩
      · exact ⟨TX.of (by decide +kernel), 43, by decide +kernel, by decide⟩
      · exact ⟨TX.of (by decide +kernel), 44, by decide +kernel, by decide⟩
      · exact ⟨TX.of (by decide +kernel), 95, by decide +kernel, by decide⟩
      · exact ⟨TX.of (by decide +kernel), 61, by decide +kernel, by decide⟩
      · exact ⟨TX.of (by decide +kernel), 90, by decide +kernel, by decide⟩
      · exact ⟨TX.of (by decide +kernel), 45, by decide +kernel, by decide⟩
      · exact ⟨TX.of (by decide +kernel), 40, by decide +kernel, by decide⟩
      · exact ⟨TX.of (by decide +kernel), 46, by decide +kernel, by decide⟩
      · exact ⟨TX.of (by decide +kernel), 122, by decide +kernel, by decide⟩
    obtain ⟨to, k, ek, nk⟩ := ho
    refine ⟨rbad2 h fun _ a _ => nk (ch_not hm (a k ?_)), ((t2.cut _ _).app to).app (t2.cut _ _)⟩
    rw [TL.tl_append, TL.tl_append, ek]
    exact List.mem_append_left _ (List.mem_append_right _ List.mem_cons_self)
theorem rule_bad {m : Int} {r : Rule} (h1 : 1 ≤ m) (h4 : m ≤ 4) (h : RuleOK m r) (c : Int) : badR (lettersN m) (p__law_bad_rule r m c) = true ∧ TX 11 (p__law_bad_rule r m c) := by
  have hm : 0 ≤ m := by omega
  obtain ⟨t1, t2⟩ := rule_tx hm h
  unfold p__law_bad_rule
  by_cases c0 : c % 4 = 0
  · rw [decide_eq_true c0]
    have mk := mod_bd (a := c / 4) (b := 8) (by decide)
    exact ⟨rbad0 (ix_mem mk.1 (by simp only [List.length_cons, List.length_nil]; omega)), (((TX.ix (k := 3) mk.1 (by simp only [List.length_cons, List.length_nil]; omega) (by decide +kernel)).app eq_tx).app t2).mono (by decide)⟩
  rw [decide_eq_false c0]
  by_cases c1 : c % 4 = 1
  · rw [decide_eq_true c1]
    have mk := mod_bd (a := c / 4) (b := 5) (by decide)
    exact ⟨rbad1 hm h (ix_mem mk.1 (by simp only [List.length_cons, List.length_nil]; omega)), ((t1.app (TX.ix (k := 3) mk.1 (by simp only [List.length_cons, List.length_nil]; omega) (by decide +kernel))).app t2).mono (by decide)⟩
  rw [decide_eq_false c1]
  obtain ⟨a, b⟩ := right_bad h1 h4 h (c / 4)
  exact ⟨a, ((t1.app eq_tx).app b).mono (by decide)⟩
theorem word_tx {m : Int} (hm : 0 ≤ m) {r : Rule} (h : RuleOK m r) : TX 11 (wordOf r) := (((rule_tx hm h).1.app eq_tx).app (rule_tx hm h).2).mono (by decide)
theorem way4 {many : Int} {rules : List Rule} (h : GramOK many rules) {k : Nat} (hk : k < rules.length) {o : Str} (ho : badR (lettersN many) o = true) (to : TX 11 o) : badG (Txt.join (";" : Str) ([(strI many)] ++ (rules.map wordOf).set k o)) = true := by
  have m1 := h.m1
  have m4 := h.m4
  have sp : Txt.split (Txt.join (";" : Str) (strI many :: (rules.map wordOf).set k o)) (";" : Str) = strI many :: (rules.map wordOf).set k o := by
    refine TL.split_join (S := []) tl_semi (by decide +kernel) (by simp) fun p hp => ?_
    rcases List.mem_cons.mp hp with rfl | hp
    · rw [(strI_four h.m1 h.m4).1, tl_one, List.mem_singleton]
      omega
    · rcases List.mem_or_eq_of_mem_set hp with hp | rfl
      · obtain ⟨r, hr, rfl⟩ := List.mem_map.mp hp
        exact fun hc => word_no59 (by omega) (h.r r hr) 59 hc rfl
      · exact fun hc => (to.2 59 hc).1 rfl
  have em : v_read_grammar_1 (Txt.join (";" : Str) (strI many :: (rules.map wordOf).set k o)) = many := by
    unfold v_read_grammar_1
    rw [sp, ix_zero, (strI_four h.m1 h.m4).2.1]
    rfl
  show badG (Txt.join (";" : Str) (strI many :: (rules.map wordOf).set k o)) = true
  unfold badG
  rw [em, sp, cut_tail, Bool.or_eq_true]
  refine .inr (List.any_eq_true.mpr ⟨o, ?_, ho⟩)
  exact List.mem_iff_getElem?.mpr ⟨k, List.getElem?_set_self (by rw [List.length_map]; exact hk)⟩
theorem gram_tx {m : Int} {rs : List Rule} (h : GramOK m rs) : (gtext m rs).length ≤ 100 ∧ EmbQ.q (gtext m rs) := ⟨gram_len h, gtext_q h⟩
/-- lengths and signs of a fault -/
def QX (z : Str) : Prop := z.length ≤ 1000 ∧ EmbQ.q z
theorem QX.app {j k : Nat} {x y : Str} (h1 : x.length ≤ j) (q1 : EmbQ.q x) (h2 : y.length ≤ k) (q2 : EmbQ.q y) (hk : j + k ≤ 1000) : QX (x ++ y) := ⟨by rw [app_len]; omega, app_q q1 q2⟩
theorem TX.q {k : Nat} {z : Str} (h : TX k z) : EmbQ.q z := q_of fun c hc => (h.2 c hc).2
theorem strI_q {m : Int} (h1 : 1 ≤ m) (h4 : m ≤ 4) : (strI m).length = 1 ∧ EmbQ.q (strI m) := by
  rw [(strI_four h1 h4).1]
  refine ⟨rfl, q_of fun c hc => ?_⟩
  rw [tl_one, List.mem_singleton] at hc
  omega
theorem q_semi : EmbQ.q (";" : Str) := (by decide +kernel : PyData.canLay0 (.str (";" : Str)) = true)
theorem faulty_bad {many : Int} {rules : List Rule} (h : GramOK many rules) {way : Int} (c : Int) : badG (p__law_faulty many rules way c) = true := by
  have m1 := h.m1
  have m4 := h.m4
  have n1 := h.n1
  unfold p__law_faulty
  by_cases w0 : way = 0
  · rw [decide_eq_true w0]
    have mk := mod_bd (a := c) (b := 8) (by decide)
    exact way0 h (ix_mem mk.1 (by simp only [List.length_cons, List.length_nil]; omega))
  rw [decide_eq_false w0]
  by_cases w1 : way = 1
  · rw [decide_eq_true w1]
    have mk := mod_bd (a := c) (b := 5) (by decide)
    exact way1 h (ix_mem mk.1 (by simp only [List.length_cons, List.length_nil]; omega))
  rw [decide_eq_false w1]
  by_cases w2 : way = 2
  · rw [decide_eq_true w2]
    have mk := mod_bd (a := c) (b := 5) (by decide)
    exact way2 (many := many) (rules := rules) _ _ (ix_mem mk.1 (by simp only [List.length_cons, List.length_nil]; omega))
  rw [decide_eq_false w2]
  by_cases w3 : way = 3
  · rw [decide_eq_true w3]
    have mk := mod_bd (a := c) (b := 5) (by decide)
    exact way3 h (ix_mem mk.1 (by simp only [List.length_cons, List.length_nil]; omega))
  rw [decide_eq_false w3]
  have mk := mod_bd (a := c) (b := (rules.length : Int)) (by omega)
  obtain ⟨a, b⟩ := rule_bad m1 m4 (h.r _ (ix_mem (xs := rules) mk.1 mk.2)) (c / 9)
  exact way4 h (by omega) a b
theorem nine_q : ∀ p ∈ List.replicate 9 ("A=a" : Str), p.length ≤ 3 ∧ EmbQ.q p := fun p hp => by
  rw [(List.mem_replicate.mp hp).2]
  exact ⟨by decide, (by decide +kernel : PyData.canLay0 (.str ("A=a" : Str)) = true)⟩
theorem nine_len (m : Int) (h : (strI m).length = 1) : (([(strI m)] ++ ((List.replicate (9 : Int).toNat ([("A=a" : Str)] : (List Str))).flatten)).map (·.length)).sum ≤ 28 ∧ ([(strI m)] ++ ((List.replicate (9 : Int).toNat ([("A=a" : Str)] : (List Str))).flatten)).length = 10 := by
  have e : ([(strI m)] ++ ((List.replicate (9 : Int).toNat ([("A=a" : Str)] : (List Str))).flatten) : List Str) = strI m :: List.replicate 9 ("A=a" : Str) := rfl
  have := sum_le (k := 3) (xs := List.replicate 9 ("A=a" : Str)) fun p hp => (nine_q p hp).1
  rw [List.length_replicate] at this
  rw [e, List.map_cons, List.sum_cons, h]
  exact ⟨by omega, rfl⟩
theorem faulty_w {many : Int} {rules : List Rule} (h : GramOK many rules) (c : Int) : (∀ w ∈ v__law_faulty_1 rules, w.length ≤ 6) ∧ (∀ w ∈ v__law_faulty_2 many rules c, w.length ≤ 11 ∧ EmbQ.q w) ∧ (v__law_faulty_2 many rules c).length ≤ 8 := by
  have m1 := h.m1
  have m4 := h.m4
  have n1 := h.n1
  have mk := mod_bd (a := c) (b := (rules.length : Int)) (by omega)
  have h1 : ∀ w ∈ v__law_faulty_1 rules, w.length ≤ 6 ∧ TX 11 w := fun w hw => by
    obtain ⟨r, hr, rfl⟩ := List.mem_map.mp (show w ∈ rules.map wordOf from hw)
    exact ⟨word_len (h.r r hr), word_tx (by omega) (h.r r hr)⟩
  refine ⟨fun w hw => (h1 w hw).1, fun w hw => ?_, ?_⟩
  · unfold v__law_faulty_2 at hw
    rcases List.mem_or_eq_of_mem_set hw with hw | rfl
    · exact ⟨(h1 w hw).2.1, (h1 w hw).2.q⟩
    · have := (rule_bad m1 m4 (h.r _ (ix_mem (xs := rules) mk.1 mk.2)) (c / 9)).2
      exact ⟨this.1, this.q⟩
  · unfold v__law_faulty_2 v__law_faulty_1
    rw [List.length_set, List.length_map]
    exact h.n8
theorem faulty_qx {many : Int} {rules : List Rule} (h : GramOK many rules) {way : Int} (c : Int) : QX (p__law_faulty many rules way c) := by
  have m1 := h.m1
  have m4 := h.m4
  have n1 := h.n1
  obtain ⟨g1, g2⟩ := gram_tx h
  obtain ⟨s1, s2⟩ := strI_q m1 m4
  have cl : ∀ lo hi, (L2.cutS (p__law_text many rules) lo hi).length ≤ 100 := fun lo hi => Nat.le_trans (L2.cutS_length _ _ _) g1
  have cq : ∀ lo hi, EmbQ.q (L2.cutS (p__law_text many rules) lo hi) := fun lo hi => cutS_q lo hi g2
  unfold p__law_faulty
  by_cases w0 : way = 0
  · rw [decide_eq_true w0]
    have mk := mod_bd (a := c) (b := 8) (by decide)
    have := TX.ix (k := 2) (zs := [("0" : Str), ("5" : Str), ("" : Str), ("11" : Str), ("01" : Str), ("a" : Str), ("-1" : Str), ("2 " : Str)]) mk.1 (by simp only [List.length_cons, List.length_nil]; omega) (by decide +kernel)
    exact QX.app this.1 this.q (cl _ _) (cq _ _) (by decide)
  rw [decide_eq_false w0]
  by_cases w1 : way = 1
  · rw [decide_eq_true w1]
    have mk := mod_bd (a := c) (b := 5) (by decide)
    have hi := ix_mem (xs := [(strI many), ((strI many) ++ (";" : Str)), (Txt.join (";" : Str) ([(strI many)] ++ ((List.replicate (9 : Int).toNat ([("A=a" : Str)] : (List Str))).flatten))), (L2.cutS (p__law_text many rules) (some 2) none), ("" : Str)]) mk.1 (by simp only [List.length_cons, List.length_nil]; omega)
    refine (fun (o : Str) hi => ?_ : ∀ o : Str, o ∈ _ → QX o) _ hi
    simp only [List.mem_cons, List.not_mem_nil, or_false] at hi
    rcases hi with rfl | rfl | rfl | rfl | rfl
    · exact ⟨by omega, s2⟩
    · exact QX.app (j := 1) (k := 1) (by omega) s2 (Nat.le_refl 1) q_semi (by decide)
    · have a := join_len (";" : Str) ([(strI many)] ++ ((List.replicate (9 : Int).toNat ([("A=a" : Str)] : (List Str))).flatten))
      obtain ⟨b1, b2⟩ := nine_len many s1
      rw [b2, show (";" : Str).length = 1 from rfl] at a
      refine ⟨by omega, join_q q_semi fun p hp => ?_⟩
      rcases List.mem_cons.mp (show p ∈ strI many :: List.replicate 9 ("A=a" : Str) from hp) with rfl | hp
      · exact s2
      · exact (nine_q p hp).2
    · exact ⟨Nat.le_trans (cl _ _) (by decide), cq _ _⟩
    · exact ⟨by decide, q_nil⟩
  rw [decide_eq_false w1]
  by_cases w2 : way = 2
  · rw [decide_eq_true w2]
    have mk := mod_bd (a := c) (b := 5) (by decide)
    have hl : (ix [(" " : Str), ("\n" : Str), (";;" : Str), ("	" : Str), ("/" : Str)] (c % 5)).length ≤ 2 ∧ EmbQ.q (ix [(" " : Str), ("\n" : Str), (";;" : Str), ("	" : Str), ("/" : Str)] (c % 5)) := by
      have hi := ix_mem (xs := [(" " : Str), ("\n" : Str), (";;" : Str), ("	" : Str), ("/" : Str)]) mk.1 (by simp only [List.length_cons, List.length_nil]; omega)
      have k : ∀ z ∈ [(" " : Str), ("\n" : Str), (";;" : Str), ("	" : Str), ("/" : Str)], (decide (z.length ≤ 2) && PyData.canLay0 (.str z)) = true := by
        refine List.all_eq_true.mp (?_ : ([(" " : Str), ("\n" : Str), (";;" : Str), ("	" : Str), ("/" : Str)].all fun z => decide (z.length ≤ 2) && PyData.canLay0 (.str z)) = true)
        decide +kernel
      have := k _ hi
      rw [Bool.and_eq_true, decide_eq_true_eq] at this
      exact this
    have a : QX (L2.cutS (p__law_text many rules) none (some (v__law_faulty_0 many rules c)) ++ ix [(" " : Str), ("\n" : Str), (";;" : Str), ("	" : Str), ("/" : Str)] (c % 5)) := QX.app (cl _ _) (cq _ _) hl.1 hl.2 (by decide)
    have b := Nat.add_le_add (cl none (some (v__law_faulty_0 many rules c))) hl.1
    exact QX.app (j := 102) (by rw [app_len]; exact b) a.2 (cl _ _) (cq _ _) (by decide)
  rw [decide_eq_false w2]
  by_cases w3 : way = 3
  · rw [decide_eq_true w3]
    have mk := mod_bd (a := c) (b := 5) (by decide)
    have hi := ix_mem (xs := [((p__law_text many rules) ++ (";" : Str)), ((";" : Str) ++ (p__law_text many rules)), ((p__law_text many rules) ++ (" " : Str)), ((" " : Str) ++ (p__law_text many rules)), ((p__law_text many rules) ++ ("\n" : Str))]) mk.1 (by simp only [List.length_cons, List.length_nil]; omega)
    refine (fun (o : Str) hi => ?_ : ∀ o : Str, o ∈ _ → QX o) _ hi
    have qb : EmbQ.q (" " : Str) := (by decide +kernel : PyData.canLay0 (.str (" " : Str)) = true)
    have qn : EmbQ.q ("\n" : Str) := (by decide +kernel : PyData.canLay0 (.str ("\n" : Str)) = true)
    simp only [List.mem_cons, List.not_mem_nil, or_false] at hi
    rcases hi with rfl | rfl | rfl | rfl | rfl
    · exact QX.app g1 g2 (Nat.le_refl 1) q_semi (by decide)
    · exact QX.app (Nat.le_refl 1) q_semi g1 g2 (by decide)
    · exact QX.app g1 g2 (Nat.le_refl 1) qb (by decide)
    · exact QX.app (Nat.le_refl 1) qb g1 g2 (by decide)
    · exact QX.app g1 g2 (Nat.le_refl 1) qn (by decide)
  rw [decide_eq_false w3]
  obtain ⟨_, a, b⟩ := faulty_w h c
  have sl := sum_le (k := 11) (xs := v__law_faulty_2 many rules c) fun w hw => (a w hw).1
  show QX (Txt.join (";" : Str) (strI many :: v__law_faulty_2 many rules c))
  have jl := join_len (";" : Str) (strI many :: v__law_faulty_2 many rules c)
  rw [List.map_cons, List.sum_cons, List.length_cons, s1, show (";" : Str).length = 1 from rfl] at jl
  refine ⟨by omega, join_q q_semi fun p hp => ?_⟩
  rcases List.mem_cons.mp hp with rfl | hp
  · exact s2
  · exact (a p hp).2
/-! the law -/
theorem law_q1 (script : List Int) : q_law_1 script = .inr () := by
  unfold q_law_1
  refine forE_inr fun x hx => ?_
  have e4 : v_law_4 script x = false := by
    unfold v_law_4 p__law_refused
    rw [decide_eq_true rfl]
    rfl
  have e5 : v_law_5 script = false := by
    unfold v_law_5 v_law_2
    rw [law_text, read_eq (law_gram script), decide_eq_true rfl]
    rfl
  unfold st_law_1
  rw [e4, e5]
  rfl
theorem law_true (script : List Int) : p_law script = true := by
  unfold p_law
  rw [law_q1]
  rfl
/-! for the walks -/
theorem any_yes {p : Str → Bool} {l : List Str} (h : l.any p = true) : ∃ x ∈ l, p x = true := List.any_eq_true.mp h
theorem lens2 {many : Int} {rules : List Rule} (h : GramOK many rules) {r : Rule} (hr : r ∈ rules) : r.1.length = 1 ∧ r.2.length ≤ 4 := ⟨(sg_in (h.r r hr)).2.1, (h.r r hr).len⟩
theorem text_sum {many : Int} {rules : List Rule} (h : GramOK many rules) : ((([(strI many)] ++ (rules.map fun (x0 : (Str × Str)) => ((x0.1 ++ ("=" : Str)) ++ x0.2))) : List Str).map (·.length)).sum + ([(strI many)] ++ (rules.map fun (x0 : (Str × Str)) => ((x0.1 ++ ("=" : Str)) ++ x0.2))).length * (";" : Str).length ≤ 16777216 := by
  have s1 := (strI_q h.m1 h.m4).1
  have n8 := h.n8
  have a := sum_le (k := 6) (xs := rules.map wordOf) fun w hw => by
    obtain ⟨r, hr, rfl⟩ := List.mem_map.mp hw
    exact word_len (h.r r hr)
  rw [List.length_map] at a
  show ((strI many :: rules.map wordOf).map (·.length)).sum + (strI many :: rules.map wordOf).length * 1 ≤ _
  rw [List.map_cons, List.sum_cons, List.length_cons, List.length_map, s1]
  omega
theorem lt4 {many cell : Int} (h : v__law_bad_right_1 many cell = true) : many < 4 := by
  unfold v__law_bad_right_1 at h
  rw [Bool.and_eq_true, decide_eq_true_eq, decide_eq_true_eq] at h
  exact h.2
theorem odd5 {i : Int} (h0 : 0 ≤ i) (h1 : i < 5) : (ix [(" " : Str), ("\n" : Str), (";;" : Str), ("	" : Str), ("/" : Str)] i).length ≤ 2 := by
  have hi := ix_mem (xs := [(" " : Str), ("\n" : Str), (";;" : Str), ("	" : Str), ("/" : Str)]) h0 (by simp only [List.length_cons, List.length_nil]; omega)
  have k : ∀ z ∈ [(" " : Str), ("\n" : Str), (";;" : Str), ("	" : Str), ("/" : Str)], decide (z.length ≤ 2) = true := List.all_eq_true.mp (by decide +kernel)
  exact of_decide_eq_true (k _ hi)
theorem nine_sum {many : Int} {rules : List Rule} (h : GramOK many rules) : (([(strI many)] ++ ((List.replicate (9 : Int).toNat ([("A=a" : Str)] : (List Str))).flatten)).map (·.length)).sum + ([(strI many)] ++ ((List.replicate (9 : Int).toNat ([("A=a" : Str)] : (List Str))).flatten)).length * (";" : Str).length ≤ 16777216 := by
  obtain ⟨a, b⟩ := nine_len many (strI_q h.m1 h.m4).1
  rw [b, show (";" : Str).length = 1 from rfl]
  omega
theorem set_sum {many : Int} {rules : List Rule} (h : GramOK many rules) (c : Int) : (([(strI many)] ++ (v__law_faulty_2 many rules c)).map (·.length)).sum + ([(strI many)] ++ (v__law_faulty_2 many rules c)).length * (";" : Str).length ≤ 16777216 := by
  obtain ⟨_, a, b⟩ := faulty_w h c
  have s1 := (strI_q h.m1 h.m4).1
  have sl := sum_le (k := 11) (xs := v__law_faulty_2 many rules c) fun w hw => (a w hw).1
  show ((strI many :: v__law_faulty_2 many rules c).map (·.length)).sum + (strI many :: v__law_faulty_2 many rules c).length * 1 ≤ _
  rw [List.map_cons, List.sum_cons, List.length_cons, s1]
  omega
end Gen
namespace Gen
open PySem TD
open Emb (emb)
theorem w_signs_in (right0 : Str) (h1 : right0.length ≤ 1000) : f_signs_in [.d (emb right0)] = .ok (.l ((p_signs_in right0).map emb)) [.d (emb right0)] := by
  have f1 := chars_len right0
  refine fn_of [sd (right0 : Str), none] rfl rfl (fun φ hφ => ?_)
  refine s_ret (e_compF (vs := [1]) (bd := bdN 1 1) (xs := ((chars right0) : List Str)) [sd (right0 : Str), none] (fun x0 => [sd (right0 : Str), sd (x0 : Str)]) (fun (x0 : Str) => (inS x0 ("CBA"))) (fun (x0 : Str) => (x0 : Str)) (w_str (e_var 0 (a := (right0 : Str)))) rfl (fun x0 hz0 => ⟨rfl, (t_val (e_inS (e_var 1 (a := (x0 : Str))) (e_str "CBA") (by exact chars_one (by assumption)))), (fun hb1 => (e_var 1 (a := (x0 : Str)))), rfl⟩) (by first | with_reducible assumption | with_reducible omega | exact True.intro | (simp only [List.length_map, List.length_append, List.length_cons, List.length_nil, List.length_reverse, rng_len, List.length_replicate, List.length_dropLast]; with_reducible omega) | (simp only [List.length_map, List.length_append, List.length_cons, List.length_nil, List.length_reverse, rng_len, List.length_replicate, List.length_dropLast] at *; with_reducible omega) | omega | assumption | trivial) rfl) ?_
  rw [hφ]
  show FnEnd _ _ _ = _
  unfold p_signs_in
  rfl
theorem w_read_rule (word : Str) (letters : Str) (hl : word.length ≤ 1000) (hq : EmbQ.q word) (hb : badR letters word = false) : f_read_rule [.d (emb word), .d (emb letters)] = .ok (.d (emb (p_read_rule word letters))) [.d (emb word), .d (emb letters)] := by
  obtain ⟨k3, k5, k4⟩ := badR_no hb
  obtain ⟨k6, k7, k8⟩ := part_le word
  have q1 : EmbQ.q (partT word ("=" : Str)).b := part_q hq
  have q2 : EmbQ.q ("=" : Str) := q_eqs
  have f1 := chars_len (partT word ("=" : Str)).c
  refine fn_of [sd (word : Str), sd (letters : Str), none, none, none, none] rfl rfl (fun φ hφ => ?_)
  refine s_seq (ρ1 := [sd (word : Str), sd (letters : Str), none, sd ((partT word ("=" : Str)).a : Str), sd ((partT word ("=" : Str)).b : Str), sd ((partT word ("=" : Str)).c : Str)]) (n_unp (e_part (e_var 0 (a := (word : Str))) (e_str "=") (by rfl) (by first | with_reducible assumption | with_reducible omega | exact True.intro | (simp only [List.length_map, List.length_append, List.length_cons, List.length_nil, List.length_reverse, rng_len, List.length_replicate, List.length_dropLast]; with_reducible omega) | (simp only [List.length_map, List.length_append, List.length_cons, List.length_nil, List.length_reverse, rng_len, List.length_replicate, List.length_dropLast] at *; with_reducible omega) | omega | assumption | trivial)) rfl) ?_
  refine s_ifs (c := v_read_rule_0 word) (t_or (t_val (e_ne (e_lenS (e_var 3 (a := ((partT word ("=" : Str)).a : Str))) (by first | with_reducible assumption | with_reducible omega | exact True.intro | (simp only [List.length_map, List.length_append, List.length_cons, List.length_nil, List.length_reverse, rng_len, List.length_replicate, List.length_dropLast]; with_reducible omega) | (simp only [List.length_map, List.length_append, List.length_cons, List.length_nil, List.length_reverse, rng_len, List.length_replicate, List.length_dropLast] at *; with_reducible omega) | omega | assumption | trivial)) (e_int 1) (by first | exact QT.all _ | assumption) (by first | exact QT.all _ | assumption))) fun hb3 => (t_or (t_val (e_notInS (e_var 3 (a := ((partT word ("=" : Str)).a : Str))) (e_str "CBA") (by first | assumption | exact chars_one (by assumption) | exact one_len (by assumption)))) fun hb2 => (t_or (t_val (e_ne (e_var 4 (a := ((partT word ("=" : Str)).b : Str))) (e_str "=") (by first | exact QT.all _ | assumption) (by first | exact QT.all _ | assumption))) fun hb1 => (t_val (e_gt (e_lenS (e_var 5 (a := ((partT word ("=" : Str)).c : Str))) (by first | with_reducible assumption | with_reducible omega | exact True.intro | (simp only [List.length_map, List.length_append, List.length_cons, List.length_nil, List.length_reverse, rng_len, List.length_replicate, List.length_dropLast]; with_reducible omega) | (simp only [List.length_map, List.length_append, List.length_cons, List.length_nil, List.length_reverse, rng_len, List.length_replicate, List.length_dropLast] at *; with_reducible omega) | omega | assumption | trivial)) (e_int 4)))))) ?_ ?_
  · intro hc0
    refine s_raises ?_
    exfalso
    first | exact absurd hc0 (by rw [k3]; decide) | exact absurd hc1 (by rw [k4]; decide)
  · intro hc0
    refine s_next ?_
    obtain ⟨u0, e0, i0⟩ := for_nx (ρ := [sd (word : Str), sd (letters : Str), none, sd ((partT word ("=" : Str)).a : Str), sd ((partT word ("=" : Str)).b : Str), sd ((partT word ("=" : Str)).c : Str)]) (bd := bdN 2 2) (body := b_read_rule_0) (xs := ((chars ((partT word ("=" : Str)).c)) : List Str)) (s := (() : Unit)) (t := ((none) : Option B)) (fun (s0 : Unit) (t0 : Option B) => [sd (word : Str), sd (letters : Str), t0, sd ((partT word ("=" : Str)).a : Str), sd ((partT word ("=" : Str)).b : Str), sd ((partT word ("=" : Str)).c : Str)]) (st_read_rule_0 letters) (fun (s0 : Unit) (ys0 : List Str) => True) (w_str (e_var 5 (a := ((partT word ("=" : Str)).c : Str)))) (by first | with_reducible assumption | with_reducible omega | exact True.intro | (simp only [List.length_map, List.length_append, List.length_cons, List.length_nil, List.length_reverse, rng_len, List.length_replicate, List.length_dropLast]; with_reducible omega) | (simp only [List.length_map, List.length_append, List.length_cons, List.length_nil, List.length_reverse, rng_len, List.length_replicate, List.length_dropLast] at *; with_reducible omega) | omega | assumption | trivial) (fun s0 t0 y0 ys0 hx0 hI0 => ⟨_, rfl, by
          refine body_of (P := fun o => (fun (s0 : Unit) (ys0 : List Str) => True) ((st_read_rule_0 letters) s0 y0) ys0 ∧ ∃ t', o = Out.ok Fl.nx ((fun (s0 : Unit) (t0 : Option B) => [sd (word : Str), sd (letters : Str), t0, sd ((partT word ("=" : Str)).a : Str), sd ((partT word ("=" : Str)).b : Str), sd ((partT word ("=" : Str)).c : Str)]) ((st_read_rule_0 letters) s0 y0) t') ∨ o = Out.ok Fl.ct ((fun (s0 : Unit) (t0 : Option B) => [sd (word : Str), sd (letters : Str), t0, sd ((partT word ("=" : Str)).a : Str), sd ((partT word ("=" : Str)).b : Str), sd ((partT word ("=" : Str)).c : Str)]) ((st_read_rule_0 letters) s0 y0) t')) (fun φ hφ0 => ?_)
          refine s_if (c := ((!inS y0 ("CBA")) && (!inS y0 letters))) (t_and (t_val (e_notInS (e_var 2 (a := (y0 : Str))) (e_str "CBA") (by first | assumption | exact chars_one (by assumption) | exact one_len (by assumption)))) fun hb4 => (t_val (e_notInS (e_var 2 (a := (y0 : Str))) (e_var 1 (a := (letters : Str))) (by first | assumption | exact chars_one (by assumption) | exact one_len (by assumption))))) ?_ ?_
          · intro hc1
            refine s_raise ?_
            exfalso
            first | (rw [k5 _ hx0] at hc1; cases hc1) | (rw [k5 hc0 _ hx0] at hc1; cases hc1)
          · intro hc1
            rw [hφ0]
            have eq0 : (st_read_rule_0 letters) s0 y0 = () := by (unfold st_read_rule_0; rewrite [cn hc1]; rfl)
            rw [eq0]
            exact ⟨by first | with_reducible assumption | with_reducible omega | exact True.intro | (simp only [List.length_map, List.length_append, List.length_cons, List.length_nil, List.length_reverse, rng_len, List.length_replicate, List.length_dropLast]; with_reducible omega) | (simp only [List.length_map, List.length_append, List.length_cons, List.length_nil, List.length_reverse, rng_len, List.length_replicate, List.length_dropLast] at *; with_reducible omega) | omega | assumption | trivial, sd (y0 : Str), .inl rfl⟩⟩)
    replace e0 : _ = Out.ok Fl.nx [sd (word : Str), sd (letters : Str), u0, sd ((partT word ("=" : Str)).a : Str), sd ((partT word ("=" : Str)).b : Str), sd ((partT word ("=" : Str)).c : Str)] := e0
    replace i0 : (fun (s0 : Unit) (ys0 : List Str) => True) (r_read_rule_0 word letters) [] := i0
    dsimp only at i0
    refine s_seq e0 ?_
    refine s_ifs (c := v_read_rule_1 word) (t_val (e_gt (e_len ((r_lst (e_callL (ws := [W.d (emb ((partT word ("=" : Str)).c : Str))]) (a_cons (e_var 5 (a := ((partT word ("=" : Str)).c : Str))) a_nil) (w_signs_in ((partT word ("=" : Str)).c) (by first | with_reducible assumption | with_reducible omega | exact True.intro | (simp only [List.length_map, List.length_append, List.length_cons, List.length_nil, List.length_reverse, rng_len, List.length_replicate, List.length_dropLast]; with_reducible omega) | (simp only [List.length_map, List.length_append, List.length_cons, List.length_nil, List.length_reverse, rng_len, List.length_replicate, List.length_dropLast] at *; with_reducible omega) | omega | assumption | trivial))))).s) (e_int 2))) ?_ ?_
    · intro hc1
      have hc1_d : (((p_signs_in ((partT word ("=" : Str)).c))).length : Int) > 2 := of_decide_eq_true hc1
      refine s_raises ?_
      exfalso
      first | exact absurd hc0 (by rw [k3]; decide) | exact absurd hc1 (by rw [k4]; decide)
    · intro hc1
      have hc1_d : ¬ ((((p_signs_in ((partT word ("=" : Str)).c))).length : Int) > 2) := of_decide_eq_false hc1
      refine s_next ?_
      refine s_ret (e_pair (e_var 3 (a := ((partT word ("=" : Str)).a : Str))) (e_var 5 (a := ((partT word ("=" : Str)).c : Str)))) ?_
      rw [hφ]
      show FnEnd _ _ _ = _
      unfold p_read_rule
      rewrite [cn hc0]
      rewrite [cn hc1]
      rfl
theorem we_read_rule0 (word : Str) (letters : Str) (hl : word.length ≤ 1000) (hq : EmbQ.q word) (hb : v_read_rule_0 word = true ∨ (badL letters word = false ∧ v_read_rule_1 word = true)) : f_read_rule [.d (emb word), .d (emb letters)] = .er "NoText" [.d (emb word), .d (emb letters)] := by
  obtain ⟨k6, k7, k8⟩ := part_le word
  have q1 : EmbQ.q (partT word ("=" : Str)).b := part_q hq
  have q2 : EmbQ.q ("=" : Str) := q_eqs
  have f1 := chars_len (partT word ("=" : Str)).c
  have k5 := fun h : v_read_rule_0 word = false => badL_no (hb.elim (fun z => absurd z (by rw [h]; decide)) (fun z => z.1))
  refine fn_of [sd (word : Str), sd (letters : Str), none, none, none, none] rfl rfl (fun φ hφ => ?_)
  refine s_seq (ρ1 := [sd (word : Str), sd (letters : Str), none, sd ((partT word ("=" : Str)).a : Str), sd ((partT word ("=" : Str)).b : Str), sd ((partT word ("=" : Str)).c : Str)]) (n_unp (e_part (e_var 0 (a := (word : Str))) (e_str "=") (by rfl) (by first | with_reducible assumption | with_reducible omega | exact True.intro | (simp only [List.length_map, List.length_append, List.length_cons, List.length_nil, List.length_reverse, rng_len, List.length_replicate, List.length_dropLast]; with_reducible omega) | (simp only [List.length_map, List.length_append, List.length_cons, List.length_nil, List.length_reverse, rng_len, List.length_replicate, List.length_dropLast] at *; with_reducible omega) | omega | assumption | trivial)) rfl) ?_
  refine s_ifs (c := v_read_rule_0 word) (t_or (t_val (e_ne (e_lenS (e_var 3 (a := ((partT word ("=" : Str)).a : Str))) (by first | with_reducible assumption | with_reducible omega | exact True.intro | (simp only [List.length_map, List.length_append, List.length_cons, List.length_nil, List.length_reverse, rng_len, List.length_replicate, List.length_dropLast]; with_reducible omega) | (simp only [List.length_map, List.length_append, List.length_cons, List.length_nil, List.length_reverse, rng_len, List.length_replicate, List.length_dropLast] at *; with_reducible omega) | omega | assumption | trivial)) (e_int 1) (by first | exact QT.all _ | assumption) (by first | exact QT.all _ | assumption))) fun hb3 => (t_or (t_val (e_notInS (e_var 3 (a := ((partT word ("=" : Str)).a : Str))) (e_str "CBA") (by first | assumption | exact chars_one (by assumption) | exact one_len (by assumption)))) fun hb2 => (t_or (t_val (e_ne (e_var 4 (a := ((partT word ("=" : Str)).b : Str))) (e_str "=") (by first | exact QT.all _ | assumption) (by first | exact QT.all _ | assumption))) fun hb1 => (t_val (e_gt (e_lenS (e_var 5 (a := ((partT word ("=" : Str)).c : Str))) (by first | with_reducible assumption | with_reducible omega | exact True.intro | (simp only [List.length_map, List.length_append, List.length_cons, List.length_nil, List.length_reverse, rng_len, List.length_replicate, List.length_dropLast]; with_reducible omega) | (simp only [List.length_map, List.length_append, List.length_cons, List.length_nil, List.length_reverse, rng_len, List.length_replicate, List.length_dropLast] at *; with_reducible omega) | omega | assumption | trivial)) (e_int 4)))))) ?_ ?_
  · intro hc0
    refine s_raises ?_
    rw [hφ]
    rfl
  · intro hc0
    refine s_next ?_
    obtain ⟨u0, e0, i0⟩ := for_nx (ρ := [sd (word : Str), sd (letters : Str), none, sd ((partT word ("=" : Str)).a : Str), sd ((partT word ("=" : Str)).b : Str), sd ((partT word ("=" : Str)).c : Str)]) (bd := bdN 2 2) (body := b_read_rule_0) (xs := ((chars ((partT word ("=" : Str)).c)) : List Str)) (s := (() : Unit)) (t := ((none) : Option B)) (fun (s0 : Unit) (t0 : Option B) => [sd (word : Str), sd (letters : Str), t0, sd ((partT word ("=" : Str)).a : Str), sd ((partT word ("=" : Str)).b : Str), sd ((partT word ("=" : Str)).c : Str)]) (st_read_rule_0 letters) (fun (s0 : Unit) (ys0 : List Str) => True) (w_str (e_var 5 (a := ((partT word ("=" : Str)).c : Str)))) (by first | with_reducible assumption | with_reducible omega | exact True.intro | (simp only [List.length_map, List.length_append, List.length_cons, List.length_nil, List.length_reverse, rng_len, List.length_replicate, List.length_dropLast]; with_reducible omega) | (simp only [List.length_map, List.length_append, List.length_cons, List.length_nil, List.length_reverse, rng_len, List.length_replicate, List.length_dropLast] at *; with_reducible omega) | omega | assumption | trivial) (fun s0 t0 y0 ys0 hx0 hI0 => ⟨_, rfl, by
          refine body_of (P := fun o => (fun (s0 : Unit) (ys0 : List Str) => True) ((st_read_rule_0 letters) s0 y0) ys0 ∧ ∃ t', o = Out.ok Fl.nx ((fun (s0 : Unit) (t0 : Option B) => [sd (word : Str), sd (letters : Str), t0, sd ((partT word ("=" : Str)).a : Str), sd ((partT word ("=" : Str)).b : Str), sd ((partT word ("=" : Str)).c : Str)]) ((st_read_rule_0 letters) s0 y0) t') ∨ o = Out.ok Fl.ct ((fun (s0 : Unit) (t0 : Option B) => [sd (word : Str), sd (letters : Str), t0, sd ((partT word ("=" : Str)).a : Str), sd ((partT word ("=" : Str)).b : Str), sd ((partT word ("=" : Str)).c : Str)]) ((st_read_rule_0 letters) s0 y0) t')) (fun φ hφ0 => ?_)
          refine s_if (c := ((!inS y0 ("CBA")) && (!inS y0 letters))) (t_and (t_val (e_notInS (e_var 2 (a := (y0 : Str))) (e_str "CBA") (by first | assumption | exact chars_one (by assumption) | exact one_len (by assumption)))) fun hb4 => (t_val (e_notInS (e_var 2 (a := (y0 : Str))) (e_var 1 (a := (letters : Str))) (by first | assumption | exact chars_one (by assumption) | exact one_len (by assumption))))) ?_ ?_
          · intro hc1
            refine s_raise ?_
            exfalso
            first | (rw [k5 _ hx0] at hc1; cases hc1) | (rw [k5 hc0 _ hx0] at hc1; cases hc1)
          · intro hc1
            rw [hφ0]
            have eq0 : (st_read_rule_0 letters) s0 y0 = () := by (unfold st_read_rule_0; rewrite [cn hc1]; rfl)
            rw [eq0]
            exact ⟨by first | with_reducible assumption | with_reducible omega | exact True.intro | (simp only [List.length_map, List.length_append, List.length_cons, List.length_nil, List.length_reverse, rng_len, List.length_replicate, List.length_dropLast]; with_reducible omega) | (simp only [List.length_map, List.length_append, List.length_cons, List.length_nil, List.length_reverse, rng_len, List.length_replicate, List.length_dropLast] at *; with_reducible omega) | omega | assumption | trivial, sd (y0 : Str), .inl rfl⟩⟩)
    replace e0 : _ = Out.ok Fl.nx [sd (word : Str), sd (letters : Str), u0, sd ((partT word ("=" : Str)).a : Str), sd ((partT word ("=" : Str)).b : Str), sd ((partT word ("=" : Str)).c : Str)] := e0
    replace i0 : (fun (s0 : Unit) (ys0 : List Str) => True) (r_read_rule_0 word letters) [] := i0
    dsimp only at i0
    refine s_seq e0 ?_
    refine s_ifs (c := v_read_rule_1 word) (t_val (e_gt (e_len ((r_lst (e_callL (ws := [W.d (emb ((partT word ("=" : Str)).c : Str))]) (a_cons (e_var 5 (a := ((partT word ("=" : Str)).c : Str))) a_nil) (w_signs_in ((partT word ("=" : Str)).c) (by first | with_reducible assumption | with_reducible omega | exact True.intro | (simp only [List.length_map, List.length_append, List.length_cons, List.length_nil, List.length_reverse, rng_len, List.length_replicate, List.length_dropLast]; with_reducible omega) | (simp only [List.length_map, List.length_append, List.length_cons, List.length_nil, List.length_reverse, rng_len, List.length_replicate, List.length_dropLast] at *; with_reducible omega) | omega | assumption | trivial))))).s) (e_int 2))) ?_ ?_
    · intro hc1
      have hc1_d : (((p_signs_in ((partT word ("=" : Str)).c))).length : Int) > 2 := of_decide_eq_true hc1
      refine s_raises ?_
      rw [hφ]
      rfl
    · intro hc1
      have hc1_d : ¬ ((((p_signs_in ((partT word ("=" : Str)).c))).length : Int) > 2) := of_decide_eq_false hc1
      refine s_next ?_
      refine s_ret (e_pair (e_var 3 (a := ((partT word ("=" : Str)).a : Str))) (e_var 5 (a := ((partT word ("=" : Str)).c : Str)))) ?_
      exfalso
      exact hb.elim (fun z => by rw [z] at hc0; cases hc0) (fun z => by rw [z.2] at hc1; cases hc1)
theorem we_read_rule (word letters : Str) (hl : word.length ≤ 1000) (hq : EmbQ.q word) (hb : badR letters word = true) : f_read_rule [.d (emb word), .d (emb letters)] = .er "NoText" [.d (emb word), .d (emb letters)] := by
  cases e0 : v_read_rule_0 word with
  | true => exact we_read_rule0 word letters hl hq (.inl e0)
  | false =>
    cases eL : badL letters word with
    | false =>
      unfold badR at hb
      rw [e0, eL] at hb
      exact we_read_rule0 word letters hl hq (.inr ⟨eL, hb⟩)
    | true =>
      obtain ⟨k6, k7, k8⟩ := part_le word
      have q1 : EmbQ.q (partT word ("=" : Str)).b := part_q hq
      have q2 : EmbQ.q ("=" : Str) := q_eqs
      refine fn_of [sd (word : Str), sd (letters : Str), none, none, none, none] rfl rfl (fun φ hφ => ?_)
      refine s_seq (ρ1 := [sd (word : Str), sd (letters : Str), none, sd ((partT word ("=" : Str)).a : Str), sd ((partT word ("=" : Str)).b : Str), sd ((partT word ("=" : Str)).c : Str)]) (n_unp (e_part (e_var 0 (a := (word : Str))) (e_str "=") (by rfl) (by omega)) rfl) ?_
      refine s_ifs (c := v_read_rule_0 word) (t_or (t_val (e_ne (e_lenS (e_var 3 (a := ((partT word ("=" : Str)).a : Str))) (by omega)) (e_int 1) (QT.all _) (QT.all _))) fun hb1 => (t_or (t_val (e_notInS (e_var 3 (a := ((partT word ("=" : Str)).a : Str))) (e_str "CBA") (one_len hb1))) fun hb2 => (t_or (t_val (e_ne (e_var 4 (a := ((partT word ("=" : Str)).b : Str))) (e_str "=") q1 q2)) fun hb3 => (t_val (e_gt (e_lenS (e_var 5 (a := ((partT word ("=" : Str)).c : Str))) (by omega)) (e_int 4)))))) ?_ ?_
      · intro hc0
        rw [e0] at hc0
        cases hc0
      · intro _
        refine s_next ?_
        obtain ⟨t', e⟩ := for_er (bd := bdN 2 2) (body := b_read_rule_0) (fun t : Option B => [sd (word : Str), sd (letters : Str), t, sd ((partT word ("=" : Str)).a : Str), sd ((partT word ("=" : Str)).b : Str), sd ((partT word ("=" : Str)).c : Str)]) (c := "NoText") (fun x => (!inS x ("CBA" : Str)) && (!inS x letters)) (xs := chars (partT word ("=" : Str)).c) (t := none) (w_str (e_var 5 (a := ((partT word ("=" : Str)).c : Str)))) (any_yes eL) (fun t x hx => by
          have T : mAndT (tst (m2 (gInS true) (mVar 2) (mC (.str "CBA")))) (tst (m2 (gInS true) (mVar 2) (mVar 1))) [sd (word : Str), sd (letters : Str), sd (x : Str), sd ((partT word ("=" : Str)).a : Str), sd ((partT word ("=" : Str)).b : Str), sd ((partT word ("=" : Str)).c : Str)] = .ok ((!inS x ("CBA" : Str)) && (!inS x letters)) [sd (word : Str), sd (letters : Str), sd (x : Str), sd ((partT word ("=" : Str)).a : Str), sd ((partT word ("=" : Str)).b : Str), sd ((partT word ("=" : Str)).c : Str)] := t_and (t_val (e_notInS (e_var 2 (a := (x : Str))) (e_str "CBA") (chars_one hx))) fun _ => t_val (e_notInS (e_var 2 (a := (x : Str))) (e_var 1 (a := (letters : Str))) (chars_one hx))
          exact ⟨[sd (word : Str), sd (letters : Str), sd (x : Str), sd ((partT word ("=" : Str)).a : Str), sd ((partT word ("=" : Str)).b : Str), sd ((partT word ("=" : Str)).c : Str)], rfl, fun g => ⟨sd x, sIf_nx (T.trans (by rw [g])) rfl⟩, fun g => ⟨sd x, sIf_er (T.trans (by rw [g])) rfl⟩⟩)
        refine s_ers e ?_
        rw [hφ]
        rfl
theorem w_read_grammar (text : Str) (hl : text.length ≤ 1000) (hq : EmbQ.q text) (hb : badG text = false) : f_read_grammar [.d (emb text)] = .ok (.d (emb (p_read_grammar text))) [.d (emb text)] := by
  have ks := split_few text (";" : Str)
  obtain ⟨k3, k9⟩ := badG_no hb
  obtain ⟨k4, k5, k6⟩ := head_ok k3
  have k11 : ("abcd" : Str).length = 4 := rfl
  have k12 := cut_le (Txt.split text (";" : Str)) (some 1) none
  have kp := split_pos text
  refine fn_of [sd (text : Str), none, none, none] rfl rfl (fun φ hφ => ?_)
  refine s_seq (ρ1 := [sd (text : Str), sl ((Txt.split text (";" : Str)) : (List Str)), none, none]) (n_set (e_split (e_var 0 (a := (text : Str))) (e_str ";") (by rfl) (by first | with_reducible assumption | with_reducible omega | exact True.intro | (simp only [List.length_map, List.length_append, List.length_cons, List.length_nil, List.length_reverse, rng_len, List.length_replicate, List.length_dropLast]; with_reducible omega) | (simp only [List.length_map, List.length_append, List.length_cons, List.length_nil, List.length_reverse, rng_len, List.length_replicate, List.length_dropLast] at *; with_reducible omega) | omega | assumption | trivial)) rfl) ?_
  refine s_ifs (c := v_read_grammar_0 text) (t_or (t_val (e_notInTS (e_ix ((r_cell (xs := ((Txt.split text (";" : Str)) : (List Str))) 1)).s (e_int 0) (by first | with_reducible assumption | with_reducible omega | exact True.intro | (simp only [List.length_map, List.length_append, List.length_cons, List.length_nil, List.length_reverse, rng_len, List.length_replicate, List.length_dropLast]; with_reducible omega) | (simp only [List.length_map, List.length_append, List.length_cons, List.length_nil, List.length_reverse, rng_len, List.length_replicate, List.length_dropLast] at *; with_reducible omega) | omega | assumption | trivial) (by first | with_reducible assumption | with_reducible omega | exact True.intro | (simp only [List.length_map, List.length_append, List.length_cons, List.length_nil, List.length_reverse, rng_len, List.length_replicate, List.length_dropLast]; with_reducible omega) | (simp only [List.length_map, List.length_append, List.length_cons, List.length_nil, List.length_reverse, rng_len, List.length_replicate, List.length_dropLast] at *; with_reducible omega) | omega | assumption | trivial)) (e_tups (as_cons (e_str "1") (as_cons (e_str "2") (as_cons (e_str "3") (as_cons (e_str "4") as_nil))))))) fun hb1 => (t_not (t_val (e_chain (e_int 2) (e_len ((r_cell (xs := ((Txt.split text (";" : Str)) : (List Str))) 1)).s) (e_add (e_int 8) (e_int 1)) rfl rfl)))) ?_ ?_
  · intro hc0
    refine s_raises ?_
    exfalso
    rw [k3] at hc0; cases hc0
  · intro hc0
    refine s_next ?_
    refine s_seq (ρ1 := [sd (text : Str), sl ((Txt.split text (";" : Str)) : (List Str)), sd (v_read_grammar_1 text : Int), none]) (n_set (e_intS (e_ix ((r_cell (xs := ((Txt.split text (";" : Str)) : (List Str))) 1)).s (e_int 0) (by first | with_reducible assumption | with_reducible omega | exact True.intro | (simp only [List.length_map, List.length_append, List.length_cons, List.length_nil, List.length_reverse, rng_len, List.length_replicate, List.length_dropLast]; with_reducible omega) | (simp only [List.length_map, List.length_append, List.length_cons, List.length_nil, List.length_reverse, rng_len, List.length_replicate, List.length_dropLast] at *; with_reducible omega) | omega | assumption | trivial) (by first | with_reducible assumption | with_reducible omega | exact True.intro | (simp only [List.length_map, List.length_append, List.length_cons, List.length_nil, List.length_reverse, rng_len, List.length_replicate, List.length_dropLast]; with_reducible omega) | (simp only [List.length_map, List.length_append, List.length_cons, List.length_nil, List.length_reverse, rng_len, List.length_replicate, List.length_dropLast] at *; with_reducible omega) | omega | assumption | trivial)) (by first | with_reducible assumption | with_reducible omega | exact True.intro | (simp only [List.length_map, List.length_append, List.length_cons, List.length_nil, List.length_reverse, rng_len, List.length_replicate, List.length_dropLast]; with_reducible omega) | (simp only [List.length_map, List.length_append, List.length_cons, List.length_nil, List.length_reverse, rng_len, List.length_replicate, List.length_dropLast] at *; with_reducible omega) | omega | assumption | trivial) (by first | with_reducible assumption | with_reducible omega | exact True.intro | (simp only [List.length_map, List.length_append, List.length_cons, List.length_nil, List.length_reverse, rng_len, List.length_replicate, List.length_dropLast]; with_reducible omega) | (simp only [List.length_map, List.length_append, List.length_cons, List.length_nil, List.length_reverse, rng_len, List.length_replicate, List.length_dropLast] at *; with_reducible omega) | omega | assumption | trivial)) rfl) ?_
    refine s_ret (e_pair (e_var 2 (a := (v_read_grammar_1 text : Int))) (e_tuple ((r_lst (e_cx (e_comp (vs := [3]) (bd := bdN 1 3) (xs := ((cutD (Txt.split text (";" : Str)) (some 1) none) : List Str)) [sd (text : Str), sl ((Txt.split text (";" : Str)) : (List Str)), sd (v_read_grammar_1 text : Int), none] (fun x0 => [sd (text : Str), sl ((Txt.split text (";" : Str)) : (List Str)), sd (v_read_grammar_1 text : Int), sd (x0 : Str)]) (fun (x0 : Str) => ((p_read_rule x0 (L2.cutS ("abcd") none (some (v_read_grammar_1 text)))) : (Str × Str))) (w_lst (e_slL (r_cell (xs := ((Txt.split text (";" : Str)) : (List Str))) 1) (o_some (e_int 1)) o_none)) rfl (fun x0 hz0 => by
      have hn1 := k9 _ hz0
      have hn2 := (part_in (cutw _ _ _ _ hz0)).1
      have hn3 : x0.length ≤ 1000 := by omega
      have hn4 := (part_in (cutw _ _ _ _ hz0)).2 hq
      exact ⟨rfl, (e_callD (ws := [W.d (emb (x0 : Str)), W.d (emb ((L2.cutS ("abcd") none (some (v_read_grammar_1 text))) : Str))]) (a_cons (e_var 3 (a := (x0 : Str))) (a_cons (e_slS (e_str "abcd") o_none (o_some (e_var 2 (a := (v_read_grammar_1 text : Int)))) (by first | with_reducible assumption | with_reducible omega | exact True.intro | (simp only [List.length_map, List.length_append, List.length_cons, List.length_nil, List.length_reverse, rng_len, List.length_replicate, List.length_dropLast]; with_reducible omega) | (simp only [List.length_map, List.length_append, List.length_cons, List.length_nil, List.length_reverse, rng_len, List.length_replicate, List.length_dropLast] at *; with_reducible omega) | omega | assumption | trivial)) a_nil)) (w_read_rule x0 (L2.cutS ("abcd") none (some (v_read_grammar_1 text))) (by first | with_reducible assumption | with_reducible omega | exact True.intro | (simp only [List.length_map, List.length_append, List.length_cons, List.length_nil, List.length_reverse, rng_len, List.length_replicate, List.length_dropLast]; with_reducible omega) | (simp only [List.length_map, List.length_append, List.length_cons, List.length_nil, List.length_reverse, rng_len, List.length_replicate, List.length_dropLast] at *; with_reducible omega) | omega | assumption | trivial) (by first | with_reducible assumption | with_reducible omega | exact True.intro | (simp only [List.length_map, List.length_append, List.length_cons, List.length_nil, List.length_reverse, rng_len, List.length_replicate, List.length_dropLast]; with_reducible omega) | (simp only [List.length_map, List.length_append, List.length_cons, List.length_nil, List.length_reverse, rng_len, List.length_replicate, List.length_dropLast] at *; with_reducible omega) | omega | assumption | trivial) (by first | with_reducible assumption | with_reducible omega | exact True.intro | (simp only [List.length_map, List.length_append, List.length_cons, List.length_nil, List.length_reverse, rng_len, List.length_replicate, List.length_dropLast]; with_reducible omega) | (simp only [List.length_map, List.length_append, List.length_cons, List.length_nil, List.length_reverse, rng_len, List.length_replicate, List.length_dropLast] at *; with_reducible omega) | omega | assumption | trivial))), rfl⟩) (by first | with_reducible assumption | with_reducible omega | exact True.intro | (simp only [List.length_map, List.length_append, List.length_cons, List.length_nil, List.length_reverse, rng_len, List.length_replicate, List.length_dropLast]; with_reducible omega) | (simp only [List.length_map, List.length_append, List.length_cons, List.length_nil, List.length_reverse, rng_len, List.length_replicate, List.length_dropLast] at *; with_reducible omega) | omega | assumption | trivial) rfl)))).s)) ?_
    rw [hφ]
    show FnEnd _ _ _ = _
    unfold p_read_grammar
    rewrite [cn hc0]
    rfl
theorem we_read_grammar (text : Str) (hl : text.length ≤ 1000) (hq : EmbQ.q text) (hb : badG text = true) : f_read_grammar [.d (emb text)] = .er "NoText" [.d (emb text)] := by
  have ks := split_few text (";" : Str)
  have k12 := cut_le (Txt.split text (";" : Str)) (some 1) none
  have kp := split_pos text
  refine fn_of [sd (text : Str), none, none, none] rfl rfl (fun φ hφ => ?_)
  refine s_seq (ρ1 := [sd (text : Str), sl ((Txt.split text (";" : Str)) : (List Str)), none, none]) (n_set (e_split (e_var 0 (a := (text : Str))) (e_str ";") (by rfl) (by omega)) rfl) ?_
  refine s_ifs (c := v_read_grammar_0 text) (t_or (t_val (e_notInTS (e_ix ((r_cell (xs := ((Txt.split text (";" : Str)) : (List Str))) 1)).s (e_int 0) (by omega) (by omega)) (e_tups (as_cons (e_str "1") (as_cons (e_str "2") (as_cons (e_str "3") (as_cons (e_str "4") as_nil))))))) fun hb1 => (t_not (t_val (e_chain (e_int 2) (e_len ((r_cell (xs := ((Txt.split text (";" : Str)) : (List Str))) 1)).s) (e_add (e_int 8) (e_int 1)) rfl rfl)))) ?_ ?_
  · intro hc0
    refine s_raises ?_
    rw [hφ]
    rfl
  · intro hc0
    refine s_next ?_
    obtain ⟨k4, k5, k6⟩ := head_ok hc0
    have ha : (cutD (Txt.split text (";" : Str)) (some 1) none).any (badR (L2.cutS ("abcd" : Str) none (some (v_read_grammar_1 text)))) = true := by
      unfold badG at hb
      rw [hc0] at hb
      exact hb
    refine s_seq (ρ1 := [sd (text : Str), sl ((Txt.split text (";" : Str)) : (List Str)), sd (v_read_grammar_1 text : Int), none]) (n_set (e_intS (e_ix ((r_cell (xs := ((Txt.split text (";" : Str)) : (List Str))) 1)).s (e_int 0) (by omega) (by omega)) k4 (by omega)) rfl) ?_
    refine s_er (ret_er (arg2_er (e_var 2 (a := (v_read_grammar_1 text : Int))) (arg1_er (cx_er (vs := [3]) (bd := bdN 1 3) (xs := cutD (Txt.split text (";" : Str)) (some 1) none) [sd (text : Str), sl ((Txt.split text (";" : Str)) : (List Str)), sd (v_read_grammar_1 text : Int), none] (fun x => [sd (text : Str), sl ((Txt.split text (";" : Str)) : (List Str)), sd (v_read_grammar_1 text : Int), sd x]) (badR (L2.cutS ("abcd" : Str) none (some (v_read_grammar_1 text)))) (fun x => p_read_rule x (L2.cutS ("abcd" : Str) none (some (v_read_grammar_1 text)))) (w_lst (e_slL (r_cell (xs := ((Txt.split text (";" : Str)) : (List Str))) 1) (o_some (e_int 1)) o_none)) rfl (fun x hx => by
      have hn2 := part_in (cutw _ _ _ _ hx)
      have hn3 : x.length ≤ 1000 := by have := hn2.1; omega
      exact ⟨rfl, fun h => e_callD (ws := [W.d (emb (x : Str)), W.d (emb ((L2.cutS ("abcd") none (some (v_read_grammar_1 text))) : Str))]) (a_cons (e_var 3 (a := (x : Str))) (a_cons (e_slS (e_str "abcd") o_none (o_some (e_var 2 (a := (v_read_grammar_1 text : Int)))) (by decide)) a_nil)) (w_read_rule x _ hn3 (hn2.2 hq) h), fun h => e_callE (ws := [W.d (emb (x : Str)), W.d (emb ((L2.cutS ("abcd") none (some (v_read_grammar_1 text))) : Str))]) (a_cons (e_var 3 (a := (x : Str))) (a_cons (e_slS (e_str "abcd") o_none (o_some (e_var 2 (a := (v_read_grammar_1 text : Int)))) (by decide)) a_nil)) (we_read_rule x _ hn3 (hn2.2 hq) h), rfl⟩) (any_yes ha) (by omega) rfl)))) ?_
    rw [hφ]
    rfl
theorem w__law_deck (cells : (List Int)) (many : Int) (h1 : cells.length ≤ 63) (h2 : 0 ≤ many) (h3 : many ≤ 90) : f__law_deck [.l (cells.map emb), .d (emb many)] = .ok (.l ((p__law_deck cells many).map emb)) [.l (cells.map emb), .d (emb many)] := by
  have f0 := deck_v cells many h1
  have f1 := cut_le cells none (some many)
  refine fn_of [sl (cells : (List Int)), sd (many : Int), none, none, none] rfl rfl (fun φ hφ => ?_)
  refine s_seq (ρ1 := [sl (cells : (List Int)), sd (many : Int), sl (v__law_deck_0 cells many : (List Int)), none, none]) (n_set (e_comp (vs := [4]) (bd := bdN 2 4) (xs := ((cutD cells none (some many)) : List Int)) [sl (cells : (List Int)), sd (many : Int), none, none, none] (fun x0 => [sl (cells : (List Int)), sd (many : Int), none, none, sd (x0 : Int)]) (fun (x0 : Int) => ((x0 % ((10 : Int) ^ (18 : Int).toNat)) : Int)) (w_lst (e_slL (r_cell (xs := (cells : (List Int))) 0) o_none (o_some (e_var 1 (a := (many : Int)))))) rfl (fun x0 hz0 => ⟨rfl, (e_mod (e_var 4 (a := (x0 : Int))) (e_pow (e_int 10) (e_int 18) (by first | with_reducible assumption | with_reducible omega | exact True.intro | (simp only [List.length_map, List.length_append, List.length_cons, List.length_nil, List.length_reverse, rng_len, List.length_replicate, List.length_dropLast]; with_reducible omega) | (simp only [List.length_map, List.length_append, List.length_cons, List.length_nil, List.length_reverse, rng_len, List.length_replicate, List.length_dropLast] at *; with_reducible omega) | omega | assumption | trivial) (by first | with_reducible assumption | with_reducible omega | exact True.intro | (simp only [List.length_map, List.length_append, List.length_cons, List.length_nil, List.length_reverse, rng_len, List.length_replicate, List.length_dropLast]; with_reducible omega) | (simp only [List.length_map, List.length_append, List.length_cons, List.length_nil, List.length_reverse, rng_len, List.length_replicate, List.length_dropLast] at *; with_reducible omega) | omega | assumption | trivial) (by first | with_reducible assumption | with_reducible omega | exact True.intro | (simp only [List.length_map, List.length_append, List.length_cons, List.length_nil, List.length_reverse, rng_len, List.length_replicate, List.length_dropLast]; with_reducible omega) | (simp only [List.length_map, List.length_append, List.length_cons, List.length_nil, List.length_reverse, rng_len, List.length_replicate, List.length_dropLast] at *; with_reducible omega) | omega | assumption | trivial)) (by first | with_reducible assumption | with_reducible omega | exact True.intro | (simp only [List.length_map, List.length_append, List.length_cons, List.length_nil, List.length_reverse, rng_len, List.length_replicate, List.length_dropLast]; with_reducible omega) | (simp only [List.length_map, List.length_append, List.length_cons, List.length_nil, List.length_reverse, rng_len, List.length_replicate, List.length_dropLast] at *; with_reducible omega) | omega | assumption | trivial)), rfl⟩) (by first | with_reducible assumption | with_reducible omega | exact True.intro | (simp only [List.length_map, List.length_append, List.length_cons, List.length_nil, List.length_reverse, rng_len, List.length_replicate, List.length_dropLast]; with_reducible omega) | (simp only [List.length_map, List.length_append, List.length_cons, List.length_nil, List.length_reverse, rng_len, List.length_replicate, List.length_dropLast] at *; with_reducible omega) | omega | assumption | trivial) rfl) rfl) ?_
  refine s_seq (ρ1 := [sl (cells : (List Int)), sd (many : Int), sl (v__law_deck_0 cells many : (List Int)), sd (v__law_deck_1 cells many : Int), none]) (n_set (e_add (e_int 1013) (e_mul (e_int 7) (e_len ((r_cell (xs := (v__law_deck_0 cells many : (List Int))) 2)).s) (by first | with_reducible assumption | with_reducible omega | exact True.intro | (simp only [List.length_map, List.length_append, List.length_cons, List.length_nil, List.length_reverse, rng_len, List.length_replicate, List.length_dropLast]; with_reducible omega) | (simp only [List.length_map, List.length_append, List.length_cons, List.length_nil, List.length_reverse, rng_len, List.length_replicate, List.length_dropLast] at *; with_reducible omega) | omega | assumption | trivial))) rfl) ?_
  obtain ⟨u0, e0, i0⟩ := for_nxC (ρ := [sl (cells : (List Int)), sd (many : Int), sl (v__law_deck_0 cells many : (List Int)), sd (v__law_deck_1 cells many : Int), none]) (bd := bdN 2 4) (body := b__law_deck_0) (xs := (v__law_deck_0 cells many : List Int)) (s := ((v__law_deck_1 cells many : Int) : Int)) (t := ((none) : Option B)) (fun (s0 : Int) (t0 : Option B) => [sl (cells : (List Int)), sd (many : Int), none, sd (s0 : Int), t0]) st__law_deck_0 (fun (s0 : Int) (ys0 : List Int) => 0 ≤ s0 ∧ s0 ≤ 1000000000) (w_cell (xs := (v__law_deck_0 cells many : (List Int))) 2) rfl (fun _ _ => rfl) (by exact deck_i0 cells many h1) (fun s0 t0 y0 ys0 hx0 hI0 => ⟨_, rfl, by
        refine body_of (P := fun o => (fun (s0 : Int) (ys0 : List Int) => 0 ≤ s0 ∧ s0 ≤ 1000000000) (st__law_deck_0 s0 y0) ys0 ∧ ∃ t', o = Out.ok Fl.nx ((fun (s0 : Int) (t0 : Option B) => [sl (cells : (List Int)), sd (many : Int), none, sd (s0 : Int), t0]) (st__law_deck_0 s0 y0) t') ∨ o = Out.ok Fl.ct ((fun (s0 : Int) (t0 : Option B) => [sl (cells : (List Int)), sd (many : Int), none, sd (s0 : Int), t0]) (st__law_deck_0 s0 y0) t')) (fun φ hφ0 => ?_)
        obtain ⟨g1, g2⟩ := hI0
        refine s_one (n_set (e_mod (b := 999999929) (e_add (e_mul (e_var 3 (a := (s0 : Int))) (e_int 797) (by first | with_reducible assumption | with_reducible omega | exact True.intro | (simp only [List.length_map, List.length_append, List.length_cons, List.length_nil, List.length_reverse, rng_len, List.length_replicate, List.length_dropLast]; with_reducible omega) | (simp only [List.length_map, List.length_append, List.length_cons, List.length_nil, List.length_reverse, rng_len, List.length_replicate, List.length_dropLast] at *; with_reducible omega) | omega | assumption | trivial)) (e_var 4 (a := (y0 : Int)))) (e_int 999999929) (by first | with_reducible assumption | with_reducible omega | exact True.intro | (simp only [List.length_map, List.length_append, List.length_cons, List.length_nil, List.length_reverse, rng_len, List.length_replicate, List.length_dropLast]; with_reducible omega) | (simp only [List.length_map, List.length_append, List.length_cons, List.length_nil, List.length_reverse, rng_len, List.length_replicate, List.length_dropLast] at *; with_reducible omega) | omega | assumption | trivial)) rfl) ?_
        rw [hφ0]
        have eq0 : st__law_deck_0 s0 y0 = (((s0 * 797) + y0) % 999999929) := by (unfold st__law_deck_0; rfl)
        rw [eq0]
        exact ⟨by (try dsimp only); exact deck_m1 _ _, sd (y0 : Int), .inl rfl⟩⟩)
  replace e0 : _ = Out.ok Fl.nx [sl (cells : (List Int)), sd (many : Int), sl (v__law_deck_0 cells many : (List Int)), sd ((r__law_deck_0 cells many) : Int), u0] := e0
  replace i0 : (fun (s0 : Int) (ys0 : List Int) => 0 ≤ s0 ∧ s0 ≤ 1000000000) (r__law_deck_0 cells many) [] := i0
  dsimp only at i0
  refine s_seq e0 ?_
  obtain ⟨i1, u1, e1⟩ := while_of (t := t__law_deck_1) (p := b__law_deck_1) (fun (s1 : Int × (List Int)) (t1 : Unit) => [sl (cells : (List Int)), sd (many : Int), sl (s1.2 : (List Int)), sd (s1.1 : Int), u0]) (c__law_deck_w1 many) st__law_deck_1 (fun (s1 : Int × (List Int)) => 0 ≤ s1.1 ∧ s1.1 ≤ 2147483647 ∧ s1.2.length ≤ 90) (fun s1 t1 hI1 => by
      obtain ⟨g1, g2, g3⟩ := hI1
      exact (t_val (e_lt (e_len ((r_cell (xs := (s1.2 : (List Int))) 2)).s) (e_var 1 (a := (many : Int)))))) (fun s1 t1 hI1 hc1_ => by
      obtain ⟨g1, g2, g3⟩ := hI1
      refine body_of (P := fun o => (fun (s1 : Int × (List Int)) => 0 ≤ s1.1 ∧ s1.1 ≤ 2147483647 ∧ s1.2.length ≤ 90) (st__law_deck_1 s1) ∧ ∃ t', o = Out.ok Fl.nx ((fun (s1 : Int × (List Int)) (t1 : Unit) => [sl (cells : (List Int)), sd (many : Int), sl (s1.2 : (List Int)), sd (s1.1 : Int), u0]) (st__law_deck_1 s1) t') ∨ o = Out.ok Fl.ct ((fun (s1 : Int × (List Int)) (t1 : Unit) => [sl (cells : (List Int)), sd (many : Int), sl (s1.2 : (List Int)), sd (s1.1 : Int), u0]) (st__law_deck_1 s1) t')) (fun φ hφ1 => ?_)
      refine s_seq (ρ1 := [sl (cells : (List Int)), sd (many : Int), sl (s1.2 : (List Int)), sd ((((s1.1 * 69621) + 5) % 2147483629) : Int), u0]) (n_set (e_mod (b := 2147483629) (e_add (e_mul (e_var 3 (a := (s1.1 : Int))) (e_int 69621) (by first | with_reducible assumption | with_reducible omega | exact True.intro | (simp only [List.length_map, List.length_append, List.length_cons, List.length_nil, List.length_reverse, rng_len, List.length_replicate, List.length_dropLast]; with_reducible omega) | (simp only [List.length_map, List.length_append, List.length_cons, List.length_nil, List.length_reverse, rng_len, List.length_replicate, List.length_dropLast] at *; with_reducible omega) | omega | assumption | trivial)) (e_int 5)) (e_int 2147483629) (by first | with_reducible assumption | with_reducible omega | exact True.intro | (simp only [List.length_map, List.length_append, List.length_cons, List.length_nil, List.length_reverse, rng_len, List.length_replicate, List.length_dropLast]; with_reducible omega) | (simp only [List.length_map, List.length_append, List.length_cons, List.length_nil, List.length_reverse, rng_len, List.length_replicate, List.length_dropLast] at *; with_reducible omega) | omega | assumption | trivial)) rfl) ?_
      refine s_one (n_app (xs := (s1.2 : (List Int))) (a := ((((s1.1 * 69621) + 5) % 2147483629) : Int)) 2 rfl (e_var 3 (a := ((((s1.1 * 69621) + 5) % 2147483629) : Int))) rfl (by first | with_reducible assumption | with_reducible omega | exact True.intro | (simp only [List.length_map, List.length_append, List.length_cons, List.length_nil, List.length_reverse, rng_len, List.length_replicate, List.length_dropLast]; with_reducible omega) | (simp only [List.length_map, List.length_append, List.length_cons, List.length_nil, List.length_reverse, rng_len, List.length_replicate, List.length_dropLast] at *; with_reducible omega) | omega | assumption | trivial) rfl) ?_
      rw [hφ1]
      have eq1 : st__law_deck_1 s1 = ((((s1.1 * 69621) + 5) % 2147483629), (s1.2 ++ [(((s1.1 * 69621) + 5) % 2147483629)])) := by (unfold st__law_deck_1; rfl)
      rw [eq1]
      exact ⟨by (try dsimp only); exact deck_p1 _ _ h3 ⟨g1, g2, g3⟩ hc1_, (), .inl rfl⟩) 90 (((r__law_deck_0 cells many), v__law_deck_0 cells many) : Int × (List Int)) (() : Unit) (by exact deck_i1 cells many h1) (by exact deck_term cells many h1 h2 h3)
  replace e1 : _ = Out.ok Fl.nx [sl (cells : (List Int)), sd (many : Int), sl ((r__law_deck_1 cells many).2 : (List Int)), sd ((r__law_deck_1 cells many).1 : Int), u0] := e1
  refine s_seq e1 ?_
  refine s_seq (ρ1 := [sl (cells : (List Int)), sd (many : Int), sl (((r__law_deck_1 cells many).2).reverse : (List Int)), sd ((r__law_deck_1 cells many).1 : Int), u0]) (n_rev (xs := ((r__law_deck_1 cells many).2 : (List Int))) 2 rfl rfl) ?_
  refine s_ret (v_cell (xs := (((r__law_deck_1 cells many).2).reverse : (List Int))) 2) ?_
  rw [hφ]
  show FnEnd _ _ _ = _
  unfold p__law_deck
  rfl
theorem w__law_right (deck_here : (List Int)) (many : Int) (signs : Str) (most : Int) (h1 : 1 ≤ deck_here.length) (h2 : 1 ≤ many) (h3 : many ≤ 4) (h4 : signs = ("CBA" : Str)) (h5 : most = 4) : f__law_right [.l (deck_here.map emb), .d (emb many), .d (emb signs), .d (emb most)] = .ok (.d (emb ((p__law_right deck_here many signs most).1))) [.l (((p__law_right deck_here many signs most).2).map emb), .d (emb many), .d (emb signs), .d (emb most)] := by
  have f1 : signs.length = 3 := by rw [h4]; rfl
  have f2 : ("abcd" : Str).length = 4 := rfl
  have f3 : ("" : Str).length = 0 := rfl
  have f4 := mod_bd (a := lastI deck_here) (b := most + 1) (by omega)
  have q3 : EmbQ.q signs := by rw [h4]; exact (by decide +kernel : PyData.canLay0 (.str ("CBA" : Str)) = true)
  have q4 : EmbQ.q ("" : Str) := (by decide +kernel : PyData.canLay0 (.str ("" : Str)) = true)
  refine fn_of [sl (deck_here : (List Int)), sd (many : Int), sd (signs : Str), sd (most : Int), none, none, none, none] rfl rfl (fun φ hφ => ?_)
  refine s_seq (ρ1 := [sl (deck_here.dropLast : (List Int)), sd (many : Int), sd (signs : Str), sd (most : Int), sd ((lastI deck_here) : Int), none, none, none]) (n_set (e_pop 0 (xs := (deck_here : (List Int))) rfl (by first | with_reducible assumption | with_reducible omega | exact True.intro | (simp only [List.length_map, List.length_append, List.length_cons, List.length_nil, List.length_reverse, rng_len, List.length_replicate, List.length_dropLast]; with_reducible omega) | (simp only [List.length_map, List.length_append, List.length_cons, List.length_nil, List.length_reverse, rng_len, List.length_replicate, List.length_dropLast] at *; with_reducible omega) | omega | assumption | trivial) rfl) rfl) ?_
  refine s_seq (ρ1 := [sl (deck_here.dropLast : (List Int)), sd (many : Int), sd (signs : Str), sd (most : Int), sd ((lastI deck_here) : Int), sd (("" : Str) : Str), none, none]) (n_set (e_str "") rfl) ?_
  refine s_seq (ρ1 := [sl (deck_here.dropLast : (List Int)), sd (many : Int), sd (signs : Str), sd (most : Int), sd ((lastI deck_here) : Int), sd (("" : Str) : Str), sd (2 : Int), none]) (n_set (e_int 2) rfl) ?_
  obtain ⟨u0, e0, i0⟩ := for_nx (ρ := [sl (deck_here.dropLast : (List Int)), sd (many : Int), sd (signs : Str), sd (most : Int), sd ((lastI deck_here) : Int), sd (("" : Str) : Str), sd (2 : Int), none]) (bd := bdN 4 7) (body := b__law_right_0) (xs := ((rng ((lastI deck_here) % (most + 1))) : List Int)) (s := (((lastI deck_here), ("" : Str), 2) : Int × Str × Int)) (t := ((none) : Option B)) (fun (s0 : Int × Str × Int) (t0 : Option B) => [sl (deck_here.dropLast : (List Int)), sd (many : Int), sd (signs : Str), sd (most : Int), sd (s0.1 : Int), sd (s0.2.1 : Str), sd (s0.2.2 : Int), t0]) (st__law_right_0 many signs) (fun (s0 : Int × Str × Int) (ys0 : List Int) => RGI many s0 ys0) (w_rng (e_mod (e_var 4 (a := ((lastI deck_here) : Int))) (e_add (e_var 3 (a := (most : Int))) (e_int 1)) (by first | with_reducible assumption | with_reducible omega | exact True.intro | (simp only [List.length_map, List.length_append, List.length_cons, List.length_nil, List.length_reverse, rng_len, List.length_replicate, List.length_dropLast]; with_reducible omega) | (simp only [List.length_map, List.length_append, List.length_cons, List.length_nil, List.length_reverse, rng_len, List.length_replicate, List.length_dropLast] at *; with_reducible omega) | omega | assumption | trivial)) (by first | with_reducible assumption | with_reducible omega | exact True.intro | (simp only [List.length_map, List.length_append, List.length_cons, List.length_nil, List.length_reverse, rng_len, List.length_replicate, List.length_dropLast]; with_reducible omega) | (simp only [List.length_map, List.length_append, List.length_cons, List.length_nil, List.length_reverse, rng_len, List.length_replicate, List.length_dropLast] at *; with_reducible omega) | omega | assumption | trivial) (by first | with_reducible assumption | with_reducible omega | exact True.intro | (simp only [List.length_map, List.length_append, List.length_cons, List.length_nil, List.length_reverse, rng_len, List.length_replicate, List.length_dropLast]; with_reducible omega) | (simp only [List.length_map, List.length_append, List.length_cons, List.length_nil, List.length_reverse, rng_len, List.length_replicate, List.length_dropLast] at *; with_reducible omega) | omega | assumption | trivial)) (by rw [h5]; exact right_init deck_here many) (fun s0 t0 y0 ys0 hx0 hI0 => ⟨_, rfl, by
        refine body_of (P := fun o => (fun (s0 : Int × Str × Int) (ys0 : List Int) => RGI many s0 ys0) ((st__law_right_0 many signs) s0 y0) ys0 ∧ ∃ t', o = Out.ok Fl.nx ((fun (s0 : Int × Str × Int) (t0 : Option B) => [sl (deck_here.dropLast : (List Int)), sd (many : Int), sd (signs : Str), sd (most : Int), sd (s0.1 : Int), sd (s0.2.1 : Str), sd (s0.2.2 : Int), t0]) ((st__law_right_0 many signs) s0 y0) t') ∨ o = Out.ok Fl.ct ((fun (s0 : Int × Str × Int) (t0 : Option B) => [sl (deck_here.dropLast : (List Int)), sd (many : Int), sd (signs : Str), sd (most : Int), sd (s0.1 : Int), sd (s0.2.1 : Str), sd (s0.2.2 : Int), t0]) ((st__law_right_0 many signs) s0 y0) t')) (fun φ hφ0 => ?_)
        have hr0 := rng_mem.mp hx0
        obtain ⟨g1, g2, g3, g4⟩ := id hI0
        rw [List.length_cons] at g1
        have q1 := mod_bd (a := v__law_right_0 s0 y0 / 3) (b := (signs.length : Int)) (by omega)
        have q2 := mod_bd (a := v__law_right_0 s0 y0 / 3) (b := many) (by omega)
        have a1 := ixS_length signs (v__law_right_0 s0 y0 / 3 % (signs.length : Int))
        have a2 := ixS_length ("abcd" : Str) (v__law_right_0 s0 y0 / 3 % many)
        refine s_seq (ρ1 := [sl (deck_here.dropLast : (List Int)), sd (many : Int), sd (signs : Str), sd (most : Int), sd (v__law_right_0 s0 y0 : Int), sd (s0.2.1 : Str), sd (s0.2.2 : Int), sd (y0 : Int)]) (n_set (e_mod (b := 2147483629) (e_add (e_mul (e_div (b := 5) (e_var 4 (a := (s0.1 : Int))) (e_int 5) (by first | with_reducible assumption | with_reducible omega | exact True.intro | (simp only [List.length_map, List.length_append, List.length_cons, List.length_nil, List.length_reverse, rng_len, List.length_replicate, List.length_dropLast]; with_reducible omega) | (simp only [List.length_map, List.length_append, List.length_cons, List.length_nil, List.length_reverse, rng_len, List.length_replicate, List.length_dropLast] at *; with_reducible omega) | omega | assumption | trivial) (by first | with_reducible assumption | with_reducible omega | exact True.intro | (simp only [List.length_map, List.length_append, List.length_cons, List.length_nil, List.length_reverse, rng_len, List.length_replicate, List.length_dropLast]; with_reducible omega) | (simp only [List.length_map, List.length_append, List.length_cons, List.length_nil, List.length_reverse, rng_len, List.length_replicate, List.length_dropLast] at *; with_reducible omega) | omega | assumption | trivial)) (e_int 48271) (by first | with_reducible assumption | with_reducible omega | exact True.intro | (simp only [List.length_map, List.length_append, List.length_cons, List.length_nil, List.length_reverse, rng_len, List.length_replicate, List.length_dropLast]; with_reducible omega) | (simp only [List.length_map, List.length_append, List.length_cons, List.length_nil, List.length_reverse, rng_len, List.length_replicate, List.length_dropLast] at *; with_reducible omega) | omega | assumption | trivial)) (e_mul (e_int 7) (e_var 7 (a := (y0 : Int))) (by first | with_reducible assumption | with_reducible omega | exact True.intro | (simp only [List.length_map, List.length_append, List.length_cons, List.length_nil, List.length_reverse, rng_len, List.length_replicate, List.length_dropLast]; with_reducible omega) | (simp only [List.length_map, List.length_append, List.length_cons, List.length_nil, List.length_reverse, rng_len, List.length_replicate, List.length_dropLast] at *; with_reducible omega) | omega | assumption | trivial))) (e_int 2147483629) (by first | with_reducible assumption | with_reducible omega | exact True.intro | (simp only [List.length_map, List.length_append, List.length_cons, List.length_nil, List.length_reverse, rng_len, List.length_replicate, List.length_dropLast]; with_reducible omega) | (simp only [List.length_map, List.length_append, List.length_cons, List.length_nil, List.length_reverse, rng_len, List.length_replicate, List.length_dropLast] at *; with_reducible omega) | omega | assumption | trivial)) rfl) ?_
        refine s_if (c := v__law_right_1 signs s0 y0) (t_and (t_val (e_eq (e_mod (b := 3) (e_var 4 (a := (v__law_right_0 s0 y0 : Int))) (e_int 3) (by first | with_reducible assumption | with_reducible omega | exact True.intro | (simp only [List.length_map, List.length_append, List.length_cons, List.length_nil, List.length_reverse, rng_len, List.length_replicate, List.length_dropLast]; with_reducible omega) | (simp only [List.length_map, List.length_append, List.length_cons, List.length_nil, List.length_reverse, rng_len, List.length_replicate, List.length_dropLast] at *; with_reducible omega) | omega | assumption | trivial)) (e_int 1) (by first | exact QT.all _ | assumption) (by first | exact QT.all _ | assumption))) fun hb2 => have hd_ : (((v__law_right_0 s0 y0) % 3) : Int) = 1 := of_decide_eq_true hb2; (t_and (t_val (e_gt (e_var 6 (a := (s0.2.2 : Int))) (e_int 0))) fun hb1 => have hd_ : s0.2.2 > 0 := of_decide_eq_true hb1; (t_val (e_ne (e_var 2 (a := (signs : Str))) (e_str "") (by first | exact QT.all _ | assumption) (by first | exact QT.all _ | assumption))))) ?_ ?_
        · intro hc0
          refine s_seq (ρ1 := [sl (deck_here.dropLast : (List Int)), sd (many : Int), sd (signs : Str), sd (most : Int), sd (v__law_right_0 s0 y0 : Int), sd (v__law_right_2 signs s0 y0 : Str), sd (s0.2.2 : Int), sd (y0 : Int)]) (n_set (e_catS (e_var 5 (a := (s0.2.1 : Str))) (e_ixS (e_var 2 (a := (signs : Str))) (e_mod (e_div (b := 3) (e_var 4 (a := (v__law_right_0 s0 y0 : Int))) (e_int 3) (by first | with_reducible assumption | with_reducible omega | exact True.intro | (simp only [List.length_map, List.length_append, List.length_cons, List.length_nil, List.length_reverse, rng_len, List.length_replicate, List.length_dropLast]; with_reducible omega) | (simp only [List.length_map, List.length_append, List.length_cons, List.length_nil, List.length_reverse, rng_len, List.length_replicate, List.length_dropLast] at *; with_reducible omega) | omega | assumption | trivial) (by first | with_reducible assumption | with_reducible omega | exact True.intro | (simp only [List.length_map, List.length_append, List.length_cons, List.length_nil, List.length_reverse, rng_len, List.length_replicate, List.length_dropLast]; with_reducible omega) | (simp only [List.length_map, List.length_append, List.length_cons, List.length_nil, List.length_reverse, rng_len, List.length_replicate, List.length_dropLast] at *; with_reducible omega) | omega | assumption | trivial)) (e_lenS (e_var 2 (a := (signs : Str))) (by first | with_reducible assumption | with_reducible omega | exact True.intro | (simp only [List.length_map, List.length_append, List.length_cons, List.length_nil, List.length_reverse, rng_len, List.length_replicate, List.length_dropLast]; with_reducible omega) | (simp only [List.length_map, List.length_append, List.length_cons, List.length_nil, List.length_reverse, rng_len, List.length_replicate, List.length_dropLast] at *; with_reducible omega) | omega | assumption | trivial)) (by first | with_reducible assumption | with_reducible omega | exact True.intro | (simp only [List.length_map, List.length_append, List.length_cons, List.length_nil, List.length_reverse, rng_len, List.length_replicate, List.length_dropLast]; with_reducible omega) | (simp only [List.length_map, List.length_append, List.length_cons, List.length_nil, List.length_reverse, rng_len, List.length_replicate, List.length_dropLast] at *; with_reducible omega) | omega | assumption | trivial)) (by first | with_reducible assumption | with_reducible omega | exact True.intro | (simp only [List.length_map, List.length_append, List.length_cons, List.length_nil, List.length_reverse, rng_len, List.length_replicate, List.length_dropLast]; with_reducible omega) | (simp only [List.length_map, List.length_append, List.length_cons, List.length_nil, List.length_reverse, rng_len, List.length_replicate, List.length_dropLast] at *; with_reducible omega) | omega | assumption | trivial) (by first | with_reducible assumption | with_reducible omega | exact True.intro | (simp only [List.length_map, List.length_append, List.length_cons, List.length_nil, List.length_reverse, rng_len, List.length_replicate, List.length_dropLast]; with_reducible omega) | (simp only [List.length_map, List.length_append, List.length_cons, List.length_nil, List.length_reverse, rng_len, List.length_replicate, List.length_dropLast] at *; with_reducible omega) | omega | assumption | trivial) (by first | with_reducible assumption | with_reducible omega | exact True.intro | (simp only [List.length_map, List.length_append, List.length_cons, List.length_nil, List.length_reverse, rng_len, List.length_replicate, List.length_dropLast]; with_reducible omega) | (simp only [List.length_map, List.length_append, List.length_cons, List.length_nil, List.length_reverse, rng_len, List.length_replicate, List.length_dropLast] at *; with_reducible omega) | omega | assumption | trivial)) (by first | with_reducible assumption | with_reducible omega | exact True.intro | (simp only [List.length_map, List.length_append, List.length_cons, List.length_nil, List.length_reverse, rng_len, List.length_replicate, List.length_dropLast]; with_reducible omega) | (simp only [List.length_map, List.length_append, List.length_cons, List.length_nil, List.length_reverse, rng_len, List.length_replicate, List.length_dropLast] at *; with_reducible omega) | omega | assumption | trivial)) rfl) ?_
          refine s_one (n_set (e_sub (e_var 6 (a := (s0.2.2 : Int))) (e_int 1)) rfl) ?_
          rw [hφ0]
          have eq0 : (st__law_right_0 many signs) s0 y0 = (v__law_right_0 s0 y0, v__law_right_2 signs s0 y0, (s0.2.2 - 1)) := by (unfold st__law_right_0; rewrite [cp hc0]; rfl)
          rw [eq0]
          exact ⟨by (try dsimp only); rw [← eq0, h4]; exact right_step h2 h3 s0 y0 ys0 hI0, sd (y0 : Int), .inl rfl⟩
        · intro hc0
          refine s_one (n_set (e_catS (e_var 5 (a := (s0.2.1 : Str))) (e_ixS (e_str "abcd") (e_mod (e_div (b := 3) (e_var 4 (a := (v__law_right_0 s0 y0 : Int))) (e_int 3) (by first | with_reducible assumption | with_reducible omega | exact True.intro | (simp only [List.length_map, List.length_append, List.length_cons, List.length_nil, List.length_reverse, rng_len, List.length_replicate, List.length_dropLast]; with_reducible omega) | (simp only [List.length_map, List.length_append, List.length_cons, List.length_nil, List.length_reverse, rng_len, List.length_replicate, List.length_dropLast] at *; with_reducible omega) | omega | assumption | trivial) (by first | with_reducible assumption | with_reducible omega | exact True.intro | (simp only [List.length_map, List.length_append, List.length_cons, List.length_nil, List.length_reverse, rng_len, List.length_replicate, List.length_dropLast]; with_reducible omega) | (simp only [List.length_map, List.length_append, List.length_cons, List.length_nil, List.length_reverse, rng_len, List.length_replicate, List.length_dropLast] at *; with_reducible omega) | omega | assumption | trivial)) (e_var 1 (a := (many : Int))) (by first | with_reducible assumption | with_reducible omega | exact True.intro | (simp only [List.length_map, List.length_append, List.length_cons, List.length_nil, List.length_reverse, rng_len, List.length_replicate, List.length_dropLast]; with_reducible omega) | (simp only [List.length_map, List.length_append, List.length_cons, List.length_nil, List.length_reverse, rng_len, List.length_replicate, List.length_dropLast] at *; with_reducible omega) | omega | assumption | trivial)) (by first | with_reducible assumption | with_reducible omega | exact True.intro | (simp only [List.length_map, List.length_append, List.length_cons, List.length_nil, List.length_reverse, rng_len, List.length_replicate, List.length_dropLast]; with_reducible omega) | (simp only [List.length_map, List.length_append, List.length_cons, List.length_nil, List.length_reverse, rng_len, List.length_replicate, List.length_dropLast] at *; with_reducible omega) | omega | assumption | trivial) (by first | with_reducible assumption | with_reducible omega | exact True.intro | (simp only [List.length_map, List.length_append, List.length_cons, List.length_nil, List.length_reverse, rng_len, List.length_replicate, List.length_dropLast]; with_reducible omega) | (simp only [List.length_map, List.length_append, List.length_cons, List.length_nil, List.length_reverse, rng_len, List.length_replicate, List.length_dropLast] at *; with_reducible omega) | omega | assumption | trivial) (by first | with_reducible assumption | with_reducible omega | exact True.intro | (simp only [List.length_map, List.length_append, List.length_cons, List.length_nil, List.length_reverse, rng_len, List.length_replicate, List.length_dropLast]; with_reducible omega) | (simp only [List.length_map, List.length_append, List.length_cons, List.length_nil, List.length_reverse, rng_len, List.length_replicate, List.length_dropLast] at *; with_reducible omega) | omega | assumption | trivial)) (by first | with_reducible assumption | with_reducible omega | exact True.intro | (simp only [List.length_map, List.length_append, List.length_cons, List.length_nil, List.length_reverse, rng_len, List.length_replicate, List.length_dropLast]; with_reducible omega) | (simp only [List.length_map, List.length_append, List.length_cons, List.length_nil, List.length_reverse, rng_len, List.length_replicate, List.length_dropLast] at *; with_reducible omega) | omega | assumption | trivial)) rfl) ?_
          rw [hφ0]
          have eq0 : (st__law_right_0 many signs) s0 y0 = (v__law_right_0 s0 y0, v__law_right_3 many s0 y0, s0.2.2) := by (unfold st__law_right_0; rewrite [cn hc0]; rfl)
          rw [eq0]
          exact ⟨by (try dsimp only); rw [← eq0, h4]; exact right_step h2 h3 s0 y0 ys0 hI0, sd (y0 : Int), .inl rfl⟩⟩)
  replace e0 : _ = Out.ok Fl.nx [sl (deck_here.dropLast : (List Int)), sd (many : Int), sd (signs : Str), sd (most : Int), sd ((r__law_right_0 deck_here many signs most).1 : Int), sd ((r__law_right_0 deck_here many signs most).2.1 : Str), sd ((r__law_right_0 deck_here many signs most).2.2 : Int), u0] := e0
  replace i0 : (fun (s0 : Int × Str × Int) (ys0 : List Int) => RGI many s0 ys0) (r__law_right_0 deck_here many signs most) [] := i0
  dsimp only at i0
  refine s_seq e0 ?_
  refine s_ret (e_var 5 (a := ((r__law_right_0 deck_here many signs most).2.1 : Str))) ?_
  rw [hφ]
  show FnEnd _ _ _ = _
  unfold p__law_right
  rfl
theorem w__law_refused (text_here : Str) (hl : text_here.length ≤ 1000) (hq : EmbQ.q text_here) (hb : badG text_here = true) : f__law_refused [.d (emb text_here)] = .ok (.d (emb (p__law_refused text_here))) [.d (emb text_here)] := by
  refine fn_of [sd (text_here : Str), none, none] rfl rfl (fun φ hφ => ?_)
  refine s_seq (ρ1 := [sd (text_here : Str), sl ([] : (List Bool)), none]) (n_set (e_lsts (as_nil (α := Bool))) rfl) ?_
  refine s_seq (ρ1 := [sd (text_here : Str), sl ([true, true, false] : (List Bool)), some .x]) (n_try1 (e_callE (ws := [W.d (emb (text_here : Str))]) (a_cons (e_var 0 (a := (text_here : Str))) a_nil) (we_read_grammar text_here (by first | with_reducible assumption | with_reducible omega | exact True.intro | (simp only [List.length_map, List.length_append, List.length_cons, List.length_nil, List.length_reverse, rng_len, List.length_replicate, List.length_dropLast]; with_reducible omega) | (simp only [List.length_map, List.length_append, List.length_cons, List.length_nil, List.length_reverse, rng_len, List.length_replicate, List.length_dropLast] at *; with_reducible omega) | omega | assumption | trivial) (by first | with_reducible assumption | with_reducible omega | exact True.intro | (simp only [List.length_map, List.length_append, List.length_cons, List.length_nil, List.length_reverse, rng_len, List.length_replicate, List.length_dropLast]; with_reducible omega) | (simp only [List.length_map, List.length_append, List.length_cons, List.length_nil, List.length_reverse, rng_len, List.length_replicate, List.length_dropLast] at *; with_reducible omega) | omega | assumption | trivial) (by first | with_reducible assumption | with_reducible omega | exact True.intro | (simp only [List.length_map, List.length_append, List.length_cons, List.length_nil, List.length_reverse, rng_len, List.length_replicate, List.length_dropLast]; with_reducible omega) | (simp only [List.length_map, List.length_append, List.length_cons, List.length_nil, List.length_reverse, rng_len, List.length_replicate, List.length_dropLast] at *; with_reducible omega) | omega | assumption | trivial))) rfl (by intro xs hx; cases hx) (by intro xs hx; cases hx) (by decide) rfl) ?_
  refine s_ret (e_eqR (r_cell (xs := ([true, true, false] : (List Bool))) 1) (r_lst (e_lsts (as_cons (e_bool true) (as_cons (e_bool true) (as_cons (e_bool false) as_nil))))) (by first | exact QT.all _ | assumption) (by first | exact QT.all _ | assumption)) ?_
  rw [hφ]
  show FnEnd _ _ _ = _
  unfold p__law_refused
  rfl
theorem w__law_text (many : Int) (rules : (List (Str × Str))) (h : GramOK many rules) : f__law_text [.d (emb many), .l (rules.map emb)] = .ok (.d (emb (p__law_text many rules))) [.d (emb many), .l (rules.map emb)] := by
  have m1 := h.m1
  have m4 := h.m4
  have n8 := h.n8
  refine fn_of [sd (many : Int), sl (rules : (List (Str × Str))), none, none] rfl rfl (fun φ hφ => ?_)
  refine s_ret (e_join (e_str ";") ((r_lst (e_catL (o_lst (e_lsts (as_cons (e_strI (e_var 0 (a := (many : Int))) (by exact ⟨by omega, by omega⟩)) as_nil))) (o_lst (e_compC (vs := [2, 3]) (bd := bdT [bdN 2 2, bdN 2 3]) (xs := (rules : List (Str × Str))) [sd (many : Int), none, none, none] (fun x0 => [sd (many : Int), none, sd (x0.1 : Str), sd (x0.2 : Str)]) (fun (x0 : (Str × Str)) => (((x0.1 ++ ("=" : Str)) ++ x0.2) : Str)) (w_cell (xs := (rules : (List (Str × Str)))) 1) rfl (fun x0 hz0 => by
      obtain ⟨g1, g2⟩ := lens2 h hz0
      have a1 := app_len x0.1 ("=" : Str)
      have a3 : ("=" : Str).length = 1 := rfl
      exact ⟨rfl, (e_catS (e_catS (e_var 2 (a := (x0.1 : Str))) (e_str "=") (by first | with_reducible assumption | with_reducible omega | exact True.intro | (simp only [List.length_map, List.length_append, List.length_cons, List.length_nil, List.length_reverse, rng_len, List.length_replicate, List.length_dropLast]; with_reducible omega) | (simp only [List.length_map, List.length_append, List.length_cons, List.length_nil, List.length_reverse, rng_len, List.length_replicate, List.length_dropLast] at *; with_reducible omega) | omega | assumption | trivial)) (e_var 3 (a := (x0.2 : Str))) (by first | with_reducible assumption | with_reducible omega | exact True.intro | (simp only [List.length_map, List.length_append, List.length_cons, List.length_nil, List.length_reverse, rng_len, List.length_replicate, List.length_dropLast]; with_reducible omega) | (simp only [List.length_map, List.length_append, List.length_cons, List.length_nil, List.length_reverse, rng_len, List.length_replicate, List.length_dropLast] at *; with_reducible omega) | omega | assumption | trivial)), rfl⟩) (by first | with_reducible assumption | with_reducible omega | exact True.intro | (simp only [List.length_map, List.length_append, List.length_cons, List.length_nil, List.length_reverse, rng_len, List.length_replicate, List.length_dropLast]; with_reducible omega) | (simp only [List.length_map, List.length_append, List.length_cons, List.length_nil, List.length_reverse, rng_len, List.length_replicate, List.length_dropLast] at *; with_reducible omega) | omega | assumption | trivial) rfl rfl)) (by first | with_reducible assumption | with_reducible omega | exact True.intro | (simp only [List.length_map, List.length_append, List.length_cons, List.length_nil, List.length_reverse, rng_len, List.length_replicate, List.length_dropLast]; with_reducible omega) | (simp only [List.length_map, List.length_append, List.length_cons, List.length_nil, List.length_reverse, rng_len, List.length_replicate, List.length_dropLast] at *; with_reducible omega) | omega | assumption | trivial)))).s (by exact text_sum h)) ?_
  rw [hφ]
  show FnEnd _ _ _ = _
  unfold p__law_text
  rfl
theorem w__law_bad_right (right_here : Str) (many : Int) (cell : Int) (h1 : right_here.length ≤ 4) (h2 : 1 ≤ many) (h3 : many ≤ 4) : f__law_bad_right [.d (emb right_here), .d (emb many), .d (emb cell)] = .ok (.d (emb (p__law_bad_right right_here many cell))) [.d (emb right_here), .d (emb many), .d (emb cell)] := by
  have m0 := mod_bd (a := cell / 7) (b := ((right_here).length : Int) + 1) (by omega)
  have m4 := mod_bd (a := cell / 70) (b := 4) (by decide)
  have m12 := mod_bd (a := cell / 70) (b := 12) (by decide)
  have c1 := L2.cutS_length right_here none (some (if 3 < v__law_bad_right_0 right_here cell then 3 else v__law_bad_right_0 right_here cell))
  have c2 := L2.cutS_length right_here (some (if 3 < v__law_bad_right_0 right_here cell then 3 else v__law_bad_right_0 right_here cell)) (some 3)
  have f3 : ("bcd" : Str).length = 3 := rfl
  have i1 := ixS_length ("bcd" : Str) (many - 1)
  have i2 : (v__law_bad_right_2 cell).length ≤ 1 := (TX.ix (k := 1) m12.1 (by simp only [List.length_cons, List.length_nil]; omega) (by decide +kernel)).1
  have a1 := app_len (L2.cutS right_here none (some (if 3 < v__law_bad_right_0 right_here cell then 3 else v__law_bad_right_0 right_here cell))) (ixS ("bcd" : Str) (many - 1))
  have a2 := app_len (L2.cutS right_here none (some (if 3 < v__law_bad_right_0 right_here cell then 3 else v__law_bad_right_0 right_here cell))) (v__law_bad_right_2 cell)
  have l3 := fun h : v__law_bad_right_1 many cell = true => lt4 h
  refine fn_of [sd (right_here : Str), sd (many : Int), sd (cell : Int), none, none, none] rfl rfl (fun φ hφ => ?_)
  refine s_seq (ρ1 := [sd (right_here : Str), sd (many : Int), sd (cell : Int), sd (v__law_bad_right_0 right_here cell : Int), none, none]) (n_set (e_mod (e_div (b := 7) (e_var 2 (a := (cell : Int))) (e_int 7) (by first | with_reducible assumption | with_reducible omega | exact True.intro | (simp only [List.length_map, List.length_append, List.length_cons, List.length_nil, List.length_reverse, rng_len, List.length_replicate, List.length_dropLast]; with_reducible omega) | (simp only [List.length_map, List.length_append, List.length_cons, List.length_nil, List.length_reverse, rng_len, List.length_replicate, List.length_dropLast] at *; with_reducible omega) | exact l3 (by assumption) | (have l4 := l3 (by assumption); omega) | omega | assumption | trivial) (by first | with_reducible assumption | with_reducible omega | exact True.intro | (simp only [List.length_map, List.length_append, List.length_cons, List.length_nil, List.length_reverse, rng_len, List.length_replicate, List.length_dropLast]; with_reducible omega) | (simp only [List.length_map, List.length_append, List.length_cons, List.length_nil, List.length_reverse, rng_len, List.length_replicate, List.length_dropLast] at *; with_reducible omega) | exact l3 (by assumption) | (have l4 := l3 (by assumption); omega) | omega | assumption | trivial)) (e_add (e_lenS (e_var 0 (a := (right_here : Str))) (by first | with_reducible assumption | with_reducible omega | exact True.intro | (simp only [List.length_map, List.length_append, List.length_cons, List.length_nil, List.length_reverse, rng_len, List.length_replicate, List.length_dropLast]; with_reducible omega) | (simp only [List.length_map, List.length_append, List.length_cons, List.length_nil, List.length_reverse, rng_len, List.length_replicate, List.length_dropLast] at *; with_reducible omega) | exact l3 (by assumption) | (have l4 := l3 (by assumption); omega) | omega | assumption | trivial)) (e_int 1)) (by first | with_reducible assumption | with_reducible omega | exact True.intro | (simp only [List.length_map, List.length_append, List.length_cons, List.length_nil, List.length_reverse, rng_len, List.length_replicate, List.length_dropLast]; with_reducible omega) | (simp only [List.length_map, List.length_append, List.length_cons, List.length_nil, List.length_reverse, rng_len, List.length_replicate, List.length_dropLast] at *; with_reducible omega) | exact l3 (by assumption) | (have l4 := l3 (by assumption); omega) | omega | assumption | trivial)) rfl) ?_
  refine s_seq (ρ1 := [sd (right_here : Str), sd (many : Int), sd (cell : Int), sd (v__law_bad_right_0 right_here cell : Int), sd ((cell % 7) : Int), none]) (n_set (e_mod (b := 7) (e_var 2 (a := (cell : Int))) (e_int 7) (by first | with_reducible assumption | with_reducible omega | exact True.intro | (simp only [List.length_map, List.length_append, List.length_cons, List.length_nil, List.length_reverse, rng_len, List.length_replicate, List.length_dropLast]; with_reducible omega) | (simp only [List.length_map, List.length_append, List.length_cons, List.length_nil, List.length_reverse, rng_len, List.length_replicate, List.length_dropLast] at *; with_reducible omega) | exact l3 (by assumption) | (have l4 := l3 (by assumption); omega) | omega | assumption | trivial)) rfl) ?_
  refine s_ifs (c := (decide (((cell % 7) : Int) = 0))) (t_val (e_eq (e_var 4 (a := ((cell % 7) : Int))) (e_int 0) (by first | exact QT.all _ | assumption) (by first | exact QT.all _ | assumption))) ?_ ?_
  · intro hc0
    have hc0_d : ((cell % 7) : Int) = 0 := of_decide_eq_true hc0
    refine s_rets (e_mulA5 (e_str "a") (e_int 5)) ?_
    rw [hφ]
    show FnEnd _ _ _ = _
    unfold p__law_bad_right
    rewrite [cp hc0]
    rfl
  · intro hc0
    have hc0_d : ¬ (((cell % 7) : Int) = 0) := of_decide_eq_false hc0
    refine s_next ?_
    refine s_ifs (c := (decide (((cell % 7) : Int) = 1))) (t_val (e_eq (e_var 4 (a := ((cell % 7) : Int))) (e_int 1) (by first | exact QT.all _ | assumption) (by first | exact QT.all _ | assumption))) ?_ ?_
    · intro hc1
      have hc1_d : ((cell % 7) : Int) = 1 := of_decide_eq_true hc1
      refine s_rets (e_ix ((r_lst (e_lsts (as_cons (e_str "CBA") (as_cons (e_str "AAA") (as_cons (e_str "BaBB") (as_cons (e_str "CCBa") as_nil))))))).s (e_mod (b := 4) (e_div (b := 70) (e_var 2 (a := (cell : Int))) (e_int 70) (by first | with_reducible assumption | with_reducible omega | exact True.intro | (simp only [List.length_map, List.length_append, List.length_cons, List.length_nil, List.length_reverse, rng_len, List.length_replicate, List.length_dropLast]; with_reducible omega) | (simp only [List.length_map, List.length_append, List.length_cons, List.length_nil, List.length_reverse, rng_len, List.length_replicate, List.length_dropLast] at *; with_reducible omega) | exact l3 (by assumption) | (have l4 := l3 (by assumption); omega) | omega | assumption | trivial) (by first | with_reducible assumption | with_reducible omega | exact True.intro | (simp only [List.length_map, List.length_append, List.length_cons, List.length_nil, List.length_reverse, rng_len, List.length_replicate, List.length_dropLast]; with_reducible omega) | (simp only [List.length_map, List.length_append, List.length_cons, List.length_nil, List.length_reverse, rng_len, List.length_replicate, List.length_dropLast] at *; with_reducible omega) | exact l3 (by assumption) | (have l4 := l3 (by assumption); omega) | omega | assumption | trivial)) (e_int 4) (by first | with_reducible assumption | with_reducible omega | exact True.intro | (simp only [List.length_map, List.length_append, List.length_cons, List.length_nil, List.length_reverse, rng_len, List.length_replicate, List.length_dropLast]; with_reducible omega) | (simp only [List.length_map, List.length_append, List.length_cons, List.length_nil, List.length_reverse, rng_len, List.length_replicate, List.length_dropLast] at *; with_reducible omega) | exact l3 (by assumption) | (have l4 := l3 (by assumption); omega) | omega | assumption | trivial)) (by first | with_reducible assumption | with_reducible omega | exact True.intro | (simp only [List.length_map, List.length_append, List.length_cons, List.length_nil, List.length_reverse, rng_len, List.length_replicate, List.length_dropLast]; with_reducible omega) | (simp only [List.length_map, List.length_append, List.length_cons, List.length_nil, List.length_reverse, rng_len, List.length_replicate, List.length_dropLast] at *; with_reducible omega) | exact l3 (by assumption) | (have l4 := l3 (by assumption); omega) | omega | assumption | trivial) (by first | with_reducible assumption | with_reducible omega | exact True.intro | (simp only [List.length_map, List.length_append, List.length_cons, List.length_nil, List.length_reverse, rng_len, List.length_replicate, List.length_dropLast]; with_reducible omega) | (simp only [List.length_map, List.length_append, List.length_cons, List.length_nil, List.length_reverse, rng_len, List.length_replicate, List.length_dropLast] at *; with_reducible omega) | exact l3 (by assumption) | (have l4 := l3 (by assumption); omega) | omega | assumption | trivial)) ?_
      rw [hφ]
      show FnEnd _ _ _ = _
      unfold p__law_bad_right
      rewrite [cn hc0]
      rewrite [cp hc1]
      rfl
    · intro hc1
      have hc1_d : ¬ (((cell % 7) : Int) = 1) := of_decide_eq_false hc1
      refine s_next ?_
      refine s_ifs (c := v__law_bad_right_1 many cell) (t_and (t_val (e_eq (e_var 4 (a := ((cell % 7) : Int))) (e_int 2) (by first | exact QT.all _ | assumption) (by first | exact QT.all _ | assumption))) fun hb1 => have hd_ : ((cell % 7) : Int) = 2 := of_decide_eq_true hb1; (t_val (e_lt (e_var 1 (a := (many : Int))) (e_int 4)))) ?_ ?_
      · intro hc2
        refine s_rets (e_catS (e_catS (e_slS (e_var 0 (a := (right_here : Str))) o_none (o_some (e_min2 (e_var 3 (a := (v__law_bad_right_0 right_here cell : Int))) (e_int 3))) (by first | with_reducible assumption | with_reducible omega | exact True.intro | (simp only [List.length_map, List.length_append, List.length_cons, List.length_nil, List.length_reverse, rng_len, List.length_replicate, List.length_dropLast]; with_reducible omega) | (simp only [List.length_map, List.length_append, List.length_cons, List.length_nil, List.length_reverse, rng_len, List.length_replicate, List.length_dropLast] at *; with_reducible omega) | exact l3 (by assumption) | (have l4 := l3 (by assumption); omega) | omega | assumption | trivial)) (e_ixS (e_str "bcd") (e_sub (e_var 1 (a := (many : Int))) (e_int 1)) (by first | with_reducible assumption | with_reducible omega | exact True.intro | (simp only [List.length_map, List.length_append, List.length_cons, List.length_nil, List.length_reverse, rng_len, List.length_replicate, List.length_dropLast]; with_reducible omega) | (simp only [List.length_map, List.length_append, List.length_cons, List.length_nil, List.length_reverse, rng_len, List.length_replicate, List.length_dropLast] at *; with_reducible omega) | exact l3 (by assumption) | (have l4 := l3 (by assumption); omega) | omega | assumption | trivial) (by first | with_reducible assumption | with_reducible omega | exact True.intro | (simp only [List.length_map, List.length_append, List.length_cons, List.length_nil, List.length_reverse, rng_len, List.length_replicate, List.length_dropLast]; with_reducible omega) | (simp only [List.length_map, List.length_append, List.length_cons, List.length_nil, List.length_reverse, rng_len, List.length_replicate, List.length_dropLast] at *; with_reducible omega) | exact l3 (by assumption) | (have l4 := l3 (by assumption); omega) | omega | assumption | trivial) (by first | with_reducible assumption | with_reducible omega | exact True.intro | (simp only [List.length_map, List.length_append, List.length_cons, List.length_nil, List.length_reverse, rng_len, List.length_replicate, List.length_dropLast]; with_reducible omega) | (simp only [List.length_map, List.length_append, List.length_cons, List.length_nil, List.length_reverse, rng_len, List.length_replicate, List.length_dropLast] at *; with_reducible omega) | exact l3 (by assumption) | (have l4 := l3 (by assumption); omega) | omega | assumption | trivial)) (by first | with_reducible assumption | with_reducible omega | exact True.intro | (simp only [List.length_map, List.length_append, List.length_cons, List.length_nil, List.length_reverse, rng_len, List.length_replicate, List.length_dropLast]; with_reducible omega) | (simp only [List.length_map, List.length_append, List.length_cons, List.length_nil, List.length_reverse, rng_len, List.length_replicate, List.length_dropLast] at *; with_reducible omega) | exact l3 (by assumption) | (have l4 := l3 (by assumption); omega) | omega | assumption | trivial)) (e_slS (e_var 0 (a := (right_here : Str))) (o_some (e_min2 (e_var 3 (a := (v__law_bad_right_0 right_here cell : Int))) (e_int 3))) (o_some (e_int 3)) (by first | with_reducible assumption | with_reducible omega | exact True.intro | (simp only [List.length_map, List.length_append, List.length_cons, List.length_nil, List.length_reverse, rng_len, List.length_replicate, List.length_dropLast]; with_reducible omega) | (simp only [List.length_map, List.length_append, List.length_cons, List.length_nil, List.length_reverse, rng_len, List.length_replicate, List.length_dropLast] at *; with_reducible omega) | exact l3 (by assumption) | (have l4 := l3 (by assumption); omega) | omega | assumption | trivial)) (by first | with_reducible assumption | with_reducible omega | exact True.intro | (simp only [List.length_map, List.length_append, List.length_cons, List.length_nil, List.length_reverse, rng_len, List.length_replicate, List.length_dropLast]; with_reducible omega) | (simp only [List.length_map, List.length_append, List.length_cons, List.length_nil, List.length_reverse, rng_len, List.length_replicate, List.length_dropLast] at *; with_reducible omega) | exact l3 (by assumption) | (have l4 := l3 (by assumption); omega) | omega | assumption | trivial)) ?_
        rw [hφ]
        show FnEnd _ _ _ = _
        unfold p__law_bad_right
        rewrite [cn hc0]
        rewrite [cn hc1]
        rewrite [cp hc2]
        rfl
      · intro hc2
        refine s_next ?_
        refine s_seq (ρ1 := [sd (right_here : Str), sd (many : Int), sd (cell : Int), sd (v__law_bad_right_0 right_here cell : Int), sd ((cell % 7) : Int), sd (v__law_bad_right_2 cell : Str)]) (n_set (e_ix ((r_lst (e_lsts (as_cons (e_str "e") (as_cons (e_str "0") (as_cons (e_str "D") (as_cons (e_str "+") (as_cons (e_str ",") (as_cons (e_str "_") (as_cons (e_str "=") (as_cons (e_str "Z") (as_cons (e_str "-") (as_cons (e_str "(") (as_cons (e_str ".") (as_cons (e_str "z") as_nil))))))))))))))).s (e_mod (b := 12) (e_div (b := 70) (e_var 2 (a := (cell : Int))) (e_int 70) (by first | with_reducible assumption | with_reducible omega | exact True.intro | (simp only [List.length_map, List.length_append, List.length_cons, List.length_nil, List.length_reverse, rng_len, List.length_replicate, List.length_dropLast]; with_reducible omega) | (simp only [List.length_map, List.length_append, List.length_cons, List.length_nil, List.length_reverse, rng_len, List.length_replicate, List.length_dropLast] at *; with_reducible omega) | exact l3 (by assumption) | (have l4 := l3 (by assumption); omega) | omega | assumption | trivial) (by first | with_reducible assumption | with_reducible omega | exact True.intro | (simp only [List.length_map, List.length_append, List.length_cons, List.length_nil, List.length_reverse, rng_len, List.length_replicate, List.length_dropLast]; with_reducible omega) | (simp only [List.length_map, List.length_append, List.length_cons, List.length_nil, List.length_reverse, rng_len, List.length_replicate, List.length_dropLast] at *; with_reducible omega) | exact l3 (by assumption) | (have l4 := l3 (by assumption); omega) | omega | assumption | trivial)) (e_int 12) (by first | with_reducible assumption | with_reducible omega | exact True.intro | (simp only [List.length_map, List.length_append, List.length_cons, List.length_nil, List.length_reverse, rng_len, List.length_replicate, List.length_dropLast]; with_reducible omega) | (simp only [List.length_map, List.length_append, List.length_cons, List.length_nil, List.length_reverse, rng_len, List.length_replicate, List.length_dropLast] at *; with_reducible omega) | exact l3 (by assumption) | (have l4 := l3 (by assumption); omega) | omega | assumption | trivial)) (by first | with_reducible assumption | with_reducible omega | exact True.intro | (simp only [List.length_map, List.length_append, List.length_cons, List.length_nil, List.length_reverse, rng_len, List.length_replicate, List.length_dropLast]; with_reducible omega) | (simp only [List.length_map, List.length_append, List.length_cons, List.length_nil, List.length_reverse, rng_len, List.length_replicate, List.length_dropLast] at *; with_reducible omega) | exact l3 (by assumption) | (have l4 := l3 (by assumption); omega) | omega | assumption | trivial) (by first | with_reducible assumption | with_reducible omega | exact True.intro | (simp only [List.length_map, List.length_append, List.length_cons, List.length_nil, List.length_reverse, rng_len, List.length_replicate, List.length_dropLast]; with_reducible omega) | (simp only [List.length_map, List.length_append, List.length_cons, List.length_nil, List.length_reverse, rng_len, List.length_replicate, List.length_dropLast] at *; with_reducible omega) | exact l3 (by assumption) | (have l4 := l3 (by assumption); omega) | omega | assumption | trivial)) rfl) ?_
        refine s_ret (e_catS (e_catS (e_slS (e_var 0 (a := (right_here : Str))) o_none (o_some (e_min2 (e_var 3 (a := (v__law_bad_right_0 right_here cell : Int))) (e_int 3))) (by first | with_reducible assumption | with_reducible omega | exact True.intro | (simp only [List.length_map, List.length_append, List.length_cons, List.length_nil, List.length_reverse, rng_len, List.length_replicate, List.length_dropLast]; with_reducible omega) | (simp only [List.length_map, List.length_append, List.length_cons, List.length_nil, List.length_reverse, rng_len, List.length_replicate, List.length_dropLast] at *; with_reducible omega) | exact l3 (by assumption) | (have l4 := l3 (by assumption); omega) | omega | assumption | trivial)) (e_var 5 (a := (v__law_bad_right_2 cell : Str))) (by first | with_reducible assumption | with_reducible omega | exact True.intro | (simp only [List.length_map, List.length_append, List.length_cons, List.length_nil, List.length_reverse, rng_len, List.length_replicate, List.length_dropLast]; with_reducible omega) | (simp only [List.length_map, List.length_append, List.length_cons, List.length_nil, List.length_reverse, rng_len, List.length_replicate, List.length_dropLast] at *; with_reducible omega) | exact l3 (by assumption) | (have l4 := l3 (by assumption); omega) | omega | assumption | trivial)) (e_slS (e_var 0 (a := (right_here : Str))) (o_some (e_min2 (e_var 3 (a := (v__law_bad_right_0 right_here cell : Int))) (e_int 3))) (o_some (e_int 3)) (by first | with_reducible assumption | with_reducible omega | exact True.intro | (simp only [List.length_map, List.length_append, List.length_cons, List.length_nil, List.length_reverse, rng_len, List.length_replicate, List.length_dropLast]; with_reducible omega) | (simp only [List.length_map, List.length_append, List.length_cons, List.length_nil, List.length_reverse, rng_len, List.length_replicate, List.length_dropLast] at *; with_reducible omega) | exact l3 (by assumption) | (have l4 := l3 (by assumption); omega) | omega | assumption | trivial)) (by first | with_reducible assumption | with_reducible omega | exact True.intro | (simp only [List.length_map, List.length_append, List.length_cons, List.length_nil, List.length_reverse, rng_len, List.length_replicate, List.length_dropLast]; with_reducible omega) | (simp only [List.length_map, List.length_append, List.length_cons, List.length_nil, List.length_reverse, rng_len, List.length_replicate, List.length_dropLast] at *; with_reducible omega) | exact l3 (by assumption) | (have l4 := l3 (by assumption); omega) | omega | assumption | trivial)) ?_
        rw [hφ]
        show FnEnd _ _ _ = _
        unfold p__law_bad_right
        rewrite [cn hc0]
        rewrite [cn hc1]
        rewrite [cn hc2]
        rfl
theorem w__law_bad_rule (rule : (Str × Str)) (many : Int) (cell : Int) (h : RuleOK many rule) (h2 : 1 ≤ many) (h3 : many ≤ 4) : f__law_bad_rule [.d (emb rule), .d (emb many), .d (emb cell)] = .ok (.d (emb (p__law_bad_rule rule many cell))) [.d (emb rule), .d (emb many), .d (emb cell)] := by
  obtain ⟨t1, t2⟩ := rule_tx (by omega) h
  have t1 := t1.1
  have t2 := t2.1
  have b9 := (right_bad h2 h3 h (cell / 4)).2.1
  have m8 := mod_bd (a := cell / 4) (b := 8) (by decide)
  have m5 := mod_bd (a := cell / 4) (b := 5) (by decide)
  have x8 := (TX.ix (k := 3) (zs := [("D" : Str), ("a" : Str), ("" : Str), ("AB" : Str), ("1" : Str), ("=" : Str), ("A " : Str), ("CBA" : Str)]) m8.1 (by simp only [List.length_cons, List.length_nil]; omega) (by decide +kernel)).1
  have x5 := (TX.ix (k := 3) (zs := [("" : Str), ("==" : Str), (":" : Str), ("=A=" : Str), (" = " : Str)]) m5.1 (by simp only [List.length_cons, List.length_nil]; omega) (by decide +kernel)).1
  have f1 : ("=" : Str).length = 1 := rfl
  have a1 := app_len (ix [("D" : Str), ("a" : Str), ("" : Str), ("AB" : Str), ("1" : Str), ("=" : Str), ("A " : Str), ("CBA" : Str)] ((cell / 4) % 8)) ("=" : Str)
  have a2 := app_len rule.1 (ix [("" : Str), ("==" : Str), (":" : Str), ("=A=" : Str), (" = " : Str)] ((cell / 4) % 5))
  have a3 := app_len rule.1 ("=" : Str)
  refine fn_of [sd (rule : (Str × Str)), sd (many : Int), sd (cell : Int), none, none, none] rfl rfl (fun φ hφ => ?_)
  refine s_seq (ρ1 := [sd (rule : (Str × Str)), sd (many : Int), sd (cell : Int), none, sd (rule.1 : Str), sd (rule.2 : Str)]) (n_unp (e_var 0 (a := (rule : (Str × Str)))) rfl) ?_
  refine s_seq (ρ1 := [sd (rule : (Str × Str)), sd (many : Int), sd (cell : Int), sd ((cell % 4) : Int), sd (rule.1 : Str), sd (rule.2 : Str)]) (n_set (e_mod (b := 4) (e_var 2 (a := (cell : Int))) (e_int 4) (by first | with_reducible assumption | with_reducible omega | exact True.intro | (simp only [List.length_map, List.length_append, List.length_cons, List.length_nil, List.length_reverse, rng_len, List.length_replicate, List.length_dropLast]; with_reducible omega) | (simp only [List.length_map, List.length_append, List.length_cons, List.length_nil, List.length_reverse, rng_len, List.length_replicate, List.length_dropLast] at *; with_reducible omega) | omega | assumption | trivial)) rfl) ?_
  refine s_ifs (c := (decide (((cell % 4) : Int) = 0))) (t_val (e_eq (e_var 3 (a := ((cell % 4) : Int))) (e_int 0) (by first | exact QT.all _ | assumption) (by first | exact QT.all _ | assumption))) ?_ ?_
  · intro hc0
    have hc0_d : ((cell % 4) : Int) = 0 := of_decide_eq_true hc0
    refine s_rets (e_catS (e_catS (e_ix ((r_lst (e_lsts (as_cons (e_str "D") (as_cons (e_str "a") (as_cons (e_str "") (as_cons (e_str "AB") (as_cons (e_str "1") (as_cons (e_str "=") (as_cons (e_str "A ") (as_cons (e_str "CBA") as_nil))))))))))).s (e_mod (b := 8) (e_div (b := 4) (e_var 2 (a := (cell : Int))) (e_int 4) (by first | with_reducible assumption | with_reducible omega | exact True.intro | (simp only [List.length_map, List.length_append, List.length_cons, List.length_nil, List.length_reverse, rng_len, List.length_replicate, List.length_dropLast]; with_reducible omega) | (simp only [List.length_map, List.length_append, List.length_cons, List.length_nil, List.length_reverse, rng_len, List.length_replicate, List.length_dropLast] at *; with_reducible omega) | omega | assumption | trivial) (by first | with_reducible assumption | with_reducible omega | exact True.intro | (simp only [List.length_map, List.length_append, List.length_cons, List.length_nil, List.length_reverse, rng_len, List.length_replicate, List.length_dropLast]; with_reducible omega) | (simp only [List.length_map, List.length_append, List.length_cons, List.length_nil, List.length_reverse, rng_len, List.length_replicate, List.length_dropLast] at *; with_reducible omega) | omega | assumption | trivial)) (e_int 8) (by first | with_reducible assumption | with_reducible omega | exact True.intro | (simp only [List.length_map, List.length_append, List.length_cons, List.length_nil, List.length_reverse, rng_len, List.length_replicate, List.length_dropLast]; with_reducible omega) | (simp only [List.length_map, List.length_append, List.length_cons, List.length_nil, List.length_reverse, rng_len, List.length_replicate, List.length_dropLast] at *; with_reducible omega) | omega | assumption | trivial)) (by first | with_reducible assumption | with_reducible omega | exact True.intro | (simp only [List.length_map, List.length_append, List.length_cons, List.length_nil, List.length_reverse, rng_len, List.length_replicate, List.length_dropLast]; with_reducible omega) | (simp only [List.length_map, List.length_append, List.length_cons, List.length_nil, List.length_reverse, rng_len, List.length_replicate, List.length_dropLast] at *; with_reducible omega) | omega | assumption | trivial) (by first | with_reducible assumption | with_reducible omega | exact True.intro | (simp only [List.length_map, List.length_append, List.length_cons, List.length_nil, List.length_reverse, rng_len, List.length_replicate, List.length_dropLast]; with_reducible omega) | (simp only [List.length_map, List.length_append, List.length_cons, List.length_nil, List.length_reverse, rng_len, List.length_replicate, List.length_dropLast] at *; with_reducible omega) | omega | assumption | trivial)) (e_str "=") (by first | with_reducible assumption | with_reducible omega | exact True.intro | (simp only [List.length_map, List.length_append, List.length_cons, List.length_nil, List.length_reverse, rng_len, List.length_replicate, List.length_dropLast]; with_reducible omega) | (simp only [List.length_map, List.length_append, List.length_cons, List.length_nil, List.length_reverse, rng_len, List.length_replicate, List.length_dropLast] at *; with_reducible omega) | omega | assumption | trivial)) (e_var 5 (a := (rule.2 : Str))) (by first | with_reducible assumption | with_reducible omega | exact True.intro | (simp only [List.length_map, List.length_append, List.length_cons, List.length_nil, List.length_reverse, rng_len, List.length_replicate, List.length_dropLast]; with_reducible omega) | (simp only [List.length_map, List.length_append, List.length_cons, List.length_nil, List.length_reverse, rng_len, List.length_replicate, List.length_dropLast] at *; with_reducible omega) | omega | assumption | trivial)) ?_
    rw [hφ]
    show FnEnd _ _ _ = _
    unfold p__law_bad_rule
    rewrite [cp hc0]
    rfl
  · intro hc0
    have hc0_d : ¬ (((cell % 4) : Int) = 0) := of_decide_eq_false hc0
    refine s_next ?_
    refine s_ifs (c := (decide (((cell % 4) : Int) = 1))) (t_val (e_eq (e_var 3 (a := ((cell % 4) : Int))) (e_int 1) (by first | exact QT.all _ | assumption) (by first | exact QT.all _ | assumption))) ?_ ?_
    · intro hc1
      have hc1_d : ((cell % 4) : Int) = 1 := of_decide_eq_true hc1
      refine s_rets (e_catS (e_catS (e_var 4 (a := (rule.1 : Str))) (e_ix ((r_lst (e_lsts (as_cons (e_str "") (as_cons (e_str "==") (as_cons (e_str ":") (as_cons (e_str "=A=") (as_cons (e_str " = ") as_nil)))))))).s (e_mod (b := 5) (e_div (b := 4) (e_var 2 (a := (cell : Int))) (e_int 4) (by first | with_reducible assumption | with_reducible omega | exact True.intro | (simp only [List.length_map, List.length_append, List.length_cons, List.length_nil, List.length_reverse, rng_len, List.length_replicate, List.length_dropLast]; with_reducible omega) | (simp only [List.length_map, List.length_append, List.length_cons, List.length_nil, List.length_reverse, rng_len, List.length_replicate, List.length_dropLast] at *; with_reducible omega) | omega | assumption | trivial) (by first | with_reducible assumption | with_reducible omega | exact True.intro | (simp only [List.length_map, List.length_append, List.length_cons, List.length_nil, List.length_reverse, rng_len, List.length_replicate, List.length_dropLast]; with_reducible omega) | (simp only [List.length_map, List.length_append, List.length_cons, List.length_nil, List.length_reverse, rng_len, List.length_replicate, List.length_dropLast] at *; with_reducible omega) | omega | assumption | trivial)) (e_int 5) (by first | with_reducible assumption | with_reducible omega | exact True.intro | (simp only [List.length_map, List.length_append, List.length_cons, List.length_nil, List.length_reverse, rng_len, List.length_replicate, List.length_dropLast]; with_reducible omega) | (simp only [List.length_map, List.length_append, List.length_cons, List.length_nil, List.length_reverse, rng_len, List.length_replicate, List.length_dropLast] at *; with_reducible omega) | omega | assumption | trivial)) (by first | with_reducible assumption | with_reducible omega | exact True.intro | (simp only [List.length_map, List.length_append, List.length_cons, List.length_nil, List.length_reverse, rng_len, List.length_replicate, List.length_dropLast]; with_reducible omega) | (simp only [List.length_map, List.length_append, List.length_cons, List.length_nil, List.length_reverse, rng_len, List.length_replicate, List.length_dropLast] at *; with_reducible omega) | omega | assumption | trivial) (by first | with_reducible assumption | with_reducible omega | exact True.intro | (simp only [List.length_map, List.length_append, List.length_cons, List.length_nil, List.length_reverse, rng_len, List.length_replicate, List.length_dropLast]; with_reducible omega) | (simp only [List.length_map, List.length_append, List.length_cons, List.length_nil, List.length_reverse, rng_len, List.length_replicate, List.length_dropLast] at *; with_reducible omega) | omega | assumption | trivial)) (by first | with_reducible assumption | with_reducible omega | exact True.intro | (simp only [List.length_map, List.length_append, List.length_cons, List.length_nil, List.length_reverse, rng_len, List.length_replicate, List.length_dropLast]; with_reducible omega) | (simp only [List.length_map, List.length_append, List.length_cons, List.length_nil, List.length_reverse, rng_len, List.length_replicate, List.length_dropLast] at *; with_reducible omega) | omega | assumption | trivial)) (e_var 5 (a := (rule.2 : Str))) (by first | with_reducible assumption | with_reducible omega | exact True.intro | (simp only [List.length_map, List.length_append, List.length_cons, List.length_nil, List.length_reverse, rng_len, List.length_replicate, List.length_dropLast]; with_reducible omega) | (simp only [List.length_map, List.length_append, List.length_cons, List.length_nil, List.length_reverse, rng_len, List.length_replicate, List.length_dropLast] at *; with_reducible omega) | omega | assumption | trivial)) ?_
      rw [hφ]
      show FnEnd _ _ _ = _
      unfold p__law_bad_rule
      rewrite [cn hc0]
      rewrite [cp hc1]
      rfl
    · intro hc1
      have hc1_d : ¬ (((cell % 4) : Int) = 1) := of_decide_eq_false hc1
      refine s_next ?_
      refine s_ret (e_catS (e_catS (e_var 4 (a := (rule.1 : Str))) (e_str "=") (by first | with_reducible assumption | with_reducible omega | exact True.intro | (simp only [List.length_map, List.length_append, List.length_cons, List.length_nil, List.length_reverse, rng_len, List.length_replicate, List.length_dropLast]; with_reducible omega) | (simp only [List.length_map, List.length_append, List.length_cons, List.length_nil, List.length_reverse, rng_len, List.length_replicate, List.length_dropLast] at *; with_reducible omega) | omega | assumption | trivial)) (e_callD (ws := [W.d (emb (rule.2 : Str)), W.d (emb (many : Int)), W.d (emb ((cell / 4) : Int))]) (a_cons (e_var 5 (a := (rule.2 : Str))) (a_cons (e_var 1 (a := (many : Int))) (a_cons (e_div (b := 4) (e_var 2 (a := (cell : Int))) (e_int 4) (by first | with_reducible assumption | with_reducible omega | exact True.intro | (simp only [List.length_map, List.length_append, List.length_cons, List.length_nil, List.length_reverse, rng_len, List.length_replicate, List.length_dropLast]; with_reducible omega) | (simp only [List.length_map, List.length_append, List.length_cons, List.length_nil, List.length_reverse, rng_len, List.length_replicate, List.length_dropLast] at *; with_reducible omega) | omega | assumption | trivial) (by first | with_reducible assumption | with_reducible omega | exact True.intro | (simp only [List.length_map, List.length_append, List.length_cons, List.length_nil, List.length_reverse, rng_len, List.length_replicate, List.length_dropLast]; with_reducible omega) | (simp only [List.length_map, List.length_append, List.length_cons, List.length_nil, List.length_reverse, rng_len, List.length_replicate, List.length_dropLast] at *; with_reducible omega) | omega | assumption | trivial)) a_nil))) (w__law_bad_right rule.2 many (cell / 4) (by first | with_reducible assumption | with_reducible omega | exact True.intro | (simp only [List.length_map, List.length_append, List.length_cons, List.length_nil, List.length_reverse, rng_len, List.length_replicate, List.length_dropLast]; with_reducible omega) | (simp only [List.length_map, List.length_append, List.length_cons, List.length_nil, List.length_reverse, rng_len, List.length_replicate, List.length_dropLast] at *; with_reducible omega) | omega | assumption | trivial) (by first | with_reducible assumption | with_reducible omega | exact True.intro | (simp only [List.length_map, List.length_append, List.length_cons, List.length_nil, List.length_reverse, rng_len, List.length_replicate, List.length_dropLast]; with_reducible omega) | (simp only [List.length_map, List.length_append, List.length_cons, List.length_nil, List.length_reverse, rng_len, List.length_replicate, List.length_dropLast] at *; with_reducible omega) | omega | assumption | trivial) (by first | with_reducible assumption | with_reducible omega | exact True.intro | (simp only [List.length_map, List.length_append, List.length_cons, List.length_nil, List.length_reverse, rng_len, List.length_replicate, List.length_dropLast]; with_reducible omega) | (simp only [List.length_map, List.length_append, List.length_cons, List.length_nil, List.length_reverse, rng_len, List.length_replicate, List.length_dropLast] at *; with_reducible omega) | omega | assumption | trivial))) (by first | with_reducible assumption | with_reducible omega | exact True.intro | (simp only [List.length_map, List.length_append, List.length_cons, List.length_nil, List.length_reverse, rng_len, List.length_replicate, List.length_dropLast]; with_reducible omega) | (simp only [List.length_map, List.length_append, List.length_cons, List.length_nil, List.length_reverse, rng_len, List.length_replicate, List.length_dropLast] at *; with_reducible omega) | omega | assumption | trivial)) ?_
      rw [hφ]
      show FnEnd _ _ _ = _
      unfold p__law_bad_rule
      rewrite [cn hc0]
      rewrite [cn hc1]
      rfl
theorem w__law_faulty (many : Int) (rules : (List (Str × Str))) (way : Int) (cell : Int) (h : GramOK many rules) : f__law_faulty [.d (emb many), .l (rules.map emb), .d (emb way), .d (emb cell)] = .ok (.d (emb (p__law_faulty many rules way cell))) [.d (emb many), .l (rules.map emb), .d (emb way), .d (emb cell)] := by
  have m1 := h.m1
  have m4 := h.m4
  have n1 := h.n1
  have n8 := h.n8
  have g1 : (p__law_text many rules).length ≤ 100 := gram_len h
  have s1 := (strI_q m1 m4).1
  have mk := mod_bd (a := cell) (b := (rules.length : Int)) (by omega)
  have hr := h.r _ (ix_mem (xs := rules) mk.1 mk.2)
  have m8 := mod_bd (a := cell) (b := 8) (by decide)
  have m5 := mod_bd (a := cell) (b := 5) (by decide)
  have mp := mod_bd (a := cell / 11) (b := ((p__law_text many rules).length : Int) + 1) (by omega)
  have c1 := L2.cutS_length (p__law_text many rules) (some 1) none
  have c2 := L2.cutS_length (p__law_text many rules) none (some (v__law_faulty_0 many rules cell))
  have c3 := L2.cutS_length (p__law_text many rules) (some (v__law_faulty_0 many rules cell)) none
  have x8 := (TX.ix (k := 2) (zs := [("0" : Str), ("5" : Str), ("" : Str), ("11" : Str), ("01" : Str), ("a" : Str), ("-1" : Str), ("2 " : Str)]) m8.1 (by simp only [List.length_cons, List.length_nil]; omega) (by decide +kernel)).1
  have x5 := odd5 m5.1 m5.2
  have f1 : (";" : Str).length = 1 := rfl
  have f2 : (" " : Str).length = 1 := rfl
  have f3 : ("\n" : Str).length = 1 := rfl
  have f4 : ("=" : Str).length = 1 := rfl
  have a1 := app_len (L2.cutS (p__law_text many rules) none (some (v__law_faulty_0 many rules cell))) (ix [(" " : Str), ("\n" : Str), (";;" : Str), ("	" : Str), ("/" : Str)] (cell % 5))
  have w1 : (v__law_faulty_1 rules).length = rules.length := List.length_map _
  obtain ⟨fw1, fw2, fw3⟩ := faulty_w h cell
  have nl : (List.replicate (9 : Int).toNat ([("A=a" : Str)] : (List Str))).flatten.length = 9 := rfl
  refine fn_of [sd (many : Int), sl (rules : (List (Str × Str))), sd (way : Int), sd (cell : Int), none, none, none, none, none, none] rfl rfl (fun φ hφ => ?_)
  refine s_seq (ρ1 := [sd (many : Int), sl (rules : (List (Str × Str))), sd (way : Int), sd (cell : Int), sd ((p__law_text many rules) : Str), none, none, none, none, none]) (n_set (e_callSD (ws := [W.d (emb (many : Int)), W.c 1]) (a_cons (e_var 0 (a := (many : Int))) (a_cons (v_cell (xs := (rules : (List (Str × Str)))) 1) a_nil)) rfl (by simp [slots_c, slots_d, slots_l, slots_t, slots_nil]) (w__law_text many rules (by first | with_reducible assumption | with_reducible omega | exact True.intro | (simp only [List.length_map, List.length_append, List.length_cons, List.length_nil, List.length_reverse, rng_len, List.length_replicate, List.length_dropLast]; with_reducible omega) | (simp only [List.length_map, List.length_append, List.length_cons, List.length_nil, List.length_reverse, rng_len, List.length_replicate, List.length_dropLast] at *; with_reducible omega) | omega | assumption | trivial))) rfl) ?_
  refine s_seq (ρ1 := [sd (many : Int), sl (rules : (List (Str × Str))), sd (way : Int), sd (cell : Int), sd ((p__law_text many rules) : Str), sd ((cell % ((rules).length : Int)) : Int), none, none, none, none]) (n_set (e_mod (e_var 3 (a := (cell : Int))) (e_len ((r_cell (xs := (rules : (List (Str × Str)))) 1)).s) (by first | with_reducible assumption | with_reducible omega | exact True.intro | (simp only [List.length_map, List.length_append, List.length_cons, List.length_nil, List.length_reverse, rng_len, List.length_replicate, List.length_dropLast]; with_reducible omega) | (simp only [List.length_map, List.length_append, List.length_cons, List.length_nil, List.length_reverse, rng_len, List.length_replicate, List.length_dropLast] at *; with_reducible omega) | omega | assumption | trivial)) rfl) ?_
  refine s_ifs (c := (decide ((way : Int) = 0))) (t_val (e_eq (e_var 2 (a := (way : Int))) (e_int 0) (by first | exact QT.all _ | assumption) (by first | exact QT.all _ | assumption))) ?_ ?_
  · intro hc0
    have hc0_d : (way : Int) = 0 := of_decide_eq_true hc0
    refine s_rets (e_catS (e_ix ((r_lst (e_lsts (as_cons (e_str "0") (as_cons (e_str "5") (as_cons (e_str "") (as_cons (e_str "11") (as_cons (e_str "01") (as_cons (e_str "a") (as_cons (e_str "-1") (as_cons (e_str "2 ") as_nil))))))))))).s (e_mod (b := 8) (e_var 3 (a := (cell : Int))) (e_int 8) (by first | with_reducible assumption | with_reducible omega | exact True.intro | (simp only [List.length_map, List.length_append, List.length_cons, List.length_nil, List.length_reverse, rng_len, List.length_replicate, List.length_dropLast]; with_reducible omega) | (simp only [List.length_map, List.length_append, List.length_cons, List.length_nil, List.length_reverse, rng_len, List.length_replicate, List.length_dropLast] at *; with_reducible omega) | omega | assumption | trivial)) (by first | with_reducible assumption | with_reducible omega | exact True.intro | (simp only [List.length_map, List.length_append, List.length_cons, List.length_nil, List.length_reverse, rng_len, List.length_replicate, List.length_dropLast]; with_reducible omega) | (simp only [List.length_map, List.length_append, List.length_cons, List.length_nil, List.length_reverse, rng_len, List.length_replicate, List.length_dropLast] at *; with_reducible omega) | omega | assumption | trivial) (by first | with_reducible assumption | with_reducible omega | exact True.intro | (simp only [List.length_map, List.length_append, List.length_cons, List.length_nil, List.length_reverse, rng_len, List.length_replicate, List.length_dropLast]; with_reducible omega) | (simp only [List.length_map, List.length_append, List.length_cons, List.length_nil, List.length_reverse, rng_len, List.length_replicate, List.length_dropLast] at *; with_reducible omega) | omega | assumption | trivial)) (e_slS (e_var 4 (a := ((p__law_text many rules) : Str))) (o_some (e_int 1)) o_none (by first | with_reducible assumption | with_reducible omega | exact True.intro | (simp only [List.length_map, List.length_append, List.length_cons, List.length_nil, List.length_reverse, rng_len, List.length_replicate, List.length_dropLast]; with_reducible omega) | (simp only [List.length_map, List.length_append, List.length_cons, List.length_nil, List.length_reverse, rng_len, List.length_replicate, List.length_dropLast] at *; with_reducible omega) | omega | assumption | trivial)) (by first | with_reducible assumption | with_reducible omega | exact True.intro | (simp only [List.length_map, List.length_append, List.length_cons, List.length_nil, List.length_reverse, rng_len, List.length_replicate, List.length_dropLast]; with_reducible omega) | (simp only [List.length_map, List.length_append, List.length_cons, List.length_nil, List.length_reverse, rng_len, List.length_replicate, List.length_dropLast] at *; with_reducible omega) | omega | assumption | trivial)) ?_
    rw [hφ]
    show FnEnd _ _ _ = _
    unfold p__law_faulty
    rewrite [cp hc0]
    rfl
  · intro hc0
    have hc0_d : ¬ ((way : Int) = 0) := of_decide_eq_false hc0
    refine s_next ?_
    refine s_ifs (c := (decide ((way : Int) = 1))) (t_val (e_eq (e_var 2 (a := (way : Int))) (e_int 1) (by first | exact QT.all _ | assumption) (by first | exact QT.all _ | assumption))) ?_ ?_
    · intro hc1
      have hc1_d : (way : Int) = 1 := of_decide_eq_true hc1
      refine s_rets (e_ix ((r_lst (e_lsts (as_cons (e_strI (e_var 0 (a := (many : Int))) (by exact ⟨by omega, by omega⟩)) (as_cons (e_catS (e_strI (e_var 0 (a := (many : Int))) (by exact ⟨by omega, by omega⟩)) (e_str ";") (by first | with_reducible assumption | with_reducible omega | exact True.intro | (simp only [List.length_map, List.length_append, List.length_cons, List.length_nil, List.length_reverse, rng_len, List.length_replicate, List.length_dropLast]; with_reducible omega) | (simp only [List.length_map, List.length_append, List.length_cons, List.length_nil, List.length_reverse, rng_len, List.length_replicate, List.length_dropLast] at *; with_reducible omega) | omega | assumption | trivial)) (as_cons (e_join (e_str ";") ((r_lst (e_catL (o_lst (e_lsts (as_cons (e_strI (e_var 0 (a := (many : Int))) (by exact ⟨by omega, by omega⟩)) as_nil))) (o_lst (e_mulL (e_lsts (as_cons (e_str "A=a") as_nil)) (e_int 9) (by first | with_reducible assumption | with_reducible omega | exact True.intro | (simp only [List.length_map, List.length_append, List.length_cons, List.length_nil, List.length_reverse, rng_len, List.length_replicate, List.length_dropLast]; with_reducible omega) | (simp only [List.length_map, List.length_append, List.length_cons, List.length_nil, List.length_reverse, rng_len, List.length_replicate, List.length_dropLast] at *; with_reducible omega) | omega | assumption | trivial) (by first | with_reducible assumption | with_reducible omega | exact True.intro | (simp only [List.length_map, List.length_append, List.length_cons, List.length_nil, List.length_reverse, rng_len, List.length_replicate, List.length_dropLast]; with_reducible omega) | (simp only [List.length_map, List.length_append, List.length_cons, List.length_nil, List.length_reverse, rng_len, List.length_replicate, List.length_dropLast] at *; with_reducible omega) | omega | assumption | trivial) (by first | with_reducible assumption | with_reducible omega | exact True.intro | (simp only [List.length_map, List.length_append, List.length_cons, List.length_nil, List.length_reverse, rng_len, List.length_replicate, List.length_dropLast]; with_reducible omega) | (simp only [List.length_map, List.length_append, List.length_cons, List.length_nil, List.length_reverse, rng_len, List.length_replicate, List.length_dropLast] at *; with_reducible omega) | omega | assumption | trivial))) (by first | with_reducible assumption | with_reducible omega | exact True.intro | (simp only [List.length_map, List.length_append, List.length_cons, List.length_nil, List.length_reverse, rng_len, List.length_replicate, List.length_dropLast]; with_reducible omega) | (simp only [List.length_map, List.length_append, List.length_cons, List.length_nil, List.length_reverse, rng_len, List.length_replicate, List.length_dropLast] at *; with_reducible omega) | omega | assumption | trivial)))).s (by first | exact nine_sum h | exact set_sum h cell)) (as_cons (e_slS (e_var 4 (a := ((p__law_text many rules) : Str))) (o_some (e_int 2)) o_none (by first | with_reducible assumption | with_reducible omega | exact True.intro | (simp only [List.length_map, List.length_append, List.length_cons, List.length_nil, List.length_reverse, rng_len, List.length_replicate, List.length_dropLast]; with_reducible omega) | (simp only [List.length_map, List.length_append, List.length_cons, List.length_nil, List.length_reverse, rng_len, List.length_replicate, List.length_dropLast] at *; with_reducible omega) | omega | assumption | trivial)) (as_cons (e_str "") as_nil)))))))).s (e_mod (b := 5) (e_var 3 (a := (cell : Int))) (e_int 5) (by first | with_reducible assumption | with_reducible omega | exact True.intro | (simp only [List.length_map, List.length_append, List.length_cons, List.length_nil, List.length_reverse, rng_len, List.length_replicate, List.length_dropLast]; with_reducible omega) | (simp only [List.length_map, List.length_append, List.length_cons, List.length_nil, List.length_reverse, rng_len, List.length_replicate, List.length_dropLast] at *; with_reducible omega) | omega | assumption | trivial)) (by first | with_reducible assumption | with_reducible omega | exact True.intro | (simp only [List.length_map, List.length_append, List.length_cons, List.length_nil, List.length_reverse, rng_len, List.length_replicate, List.length_dropLast]; with_reducible omega) | (simp only [List.length_map, List.length_append, List.length_cons, List.length_nil, List.length_reverse, rng_len, List.length_replicate, List.length_dropLast] at *; with_reducible omega) | omega | assumption | trivial) (by first | with_reducible assumption | with_reducible omega | exact True.intro | (simp only [List.length_map, List.length_append, List.length_cons, List.length_nil, List.length_reverse, rng_len, List.length_replicate, List.length_dropLast]; with_reducible omega) | (simp only [List.length_map, List.length_append, List.length_cons, List.length_nil, List.length_reverse, rng_len, List.length_replicate, List.length_dropLast] at *; with_reducible omega) | omega | assumption | trivial)) ?_
      rw [hφ]
      show FnEnd _ _ _ = _
      unfold p__law_faulty
      rewrite [cn hc0]
      rewrite [cp hc1]
      rfl
    · intro hc1
      have hc1_d : ¬ ((way : Int) = 1) := of_decide_eq_false hc1
      refine s_next ?_
      refine s_ifs (c := (decide ((way : Int) = 2))) (t_val (e_eq (e_var 2 (a := (way : Int))) (e_int 2) (by first | exact QT.all _ | assumption) (by first | exact QT.all _ | assumption))) ?_ ?_
      · intro hc2
        have hc2_d : (way : Int) = 2 := of_decide_eq_true hc2
        refine s_assoc ?_
        refine s_seq (ρ1 := [sd (many : Int), sl (rules : (List (Str × Str))), sd (way : Int), sd (cell : Int), sd ((p__law_text many rules) : Str), sd ((cell % ((rules).length : Int)) : Int), none, sd (v__law_faulty_0 many rules cell : Int), none, none]) (n_set (e_mod (e_div (b := 11) (e_var 3 (a := (cell : Int))) (e_int 11) (by first | with_reducible assumption | with_reducible omega | exact True.intro | (simp only [List.length_map, List.length_append, List.length_cons, List.length_nil, List.length_reverse, rng_len, List.length_replicate, List.length_dropLast]; with_reducible omega) | (simp only [List.length_map, List.length_append, List.length_cons, List.length_nil, List.length_reverse, rng_len, List.length_replicate, List.length_dropLast] at *; with_reducible omega) | omega | assumption | trivial) (by first | with_reducible assumption | with_reducible omega | exact True.intro | (simp only [List.length_map, List.length_append, List.length_cons, List.length_nil, List.length_reverse, rng_len, List.length_replicate, List.length_dropLast]; with_reducible omega) | (simp only [List.length_map, List.length_append, List.length_cons, List.length_nil, List.length_reverse, rng_len, List.length_replicate, List.length_dropLast] at *; with_reducible omega) | omega | assumption | trivial)) (e_add (e_lenS (e_var 4 (a := ((p__law_text many rules) : Str))) (by first | with_reducible assumption | with_reducible omega | exact True.intro | (simp only [List.length_map, List.length_append, List.length_cons, List.length_nil, List.length_reverse, rng_len, List.length_replicate, List.length_dropLast]; with_reducible omega) | (simp only [List.length_map, List.length_append, List.length_cons, List.length_nil, List.length_reverse, rng_len, List.length_replicate, List.length_dropLast] at *; with_reducible omega) | omega | assumption | trivial)) (e_int 1)) (by first | with_reducible assumption | with_reducible omega | exact True.intro | (simp only [List.length_map, List.length_append, List.length_cons, List.length_nil, List.length_reverse, rng_len, List.length_replicate, List.length_dropLast]; with_reducible omega) | (simp only [List.length_map, List.length_append, List.length_cons, List.length_nil, List.length_reverse, rng_len, List.length_replicate, List.length_dropLast] at *; with_reducible omega) | omega | assumption | trivial)) rfl) ?_
        refine s_rets (e_catS (e_catS (e_slS (e_var 4 (a := ((p__law_text many rules) : Str))) o_none (o_some (e_var 7 (a := (v__law_faulty_0 many rules cell : Int)))) (by first | with_reducible assumption | with_reducible omega | exact True.intro | (simp only [List.length_map, List.length_append, List.length_cons, List.length_nil, List.length_reverse, rng_len, List.length_replicate, List.length_dropLast]; with_reducible omega) | (simp only [List.length_map, List.length_append, List.length_cons, List.length_nil, List.length_reverse, rng_len, List.length_replicate, List.length_dropLast] at *; with_reducible omega) | omega | assumption | trivial)) (e_ix ((r_lst (e_lsts (as_cons (e_str " ") (as_cons (e_str "\n") (as_cons (e_str ";;") (as_cons (e_str "	") (as_cons (e_str "/") as_nil)))))))).s (e_mod (b := 5) (e_var 3 (a := (cell : Int))) (e_int 5) (by first | with_reducible assumption | with_reducible omega | exact True.intro | (simp only [List.length_map, List.length_append, List.length_cons, List.length_nil, List.length_reverse, rng_len, List.length_replicate, List.length_dropLast]; with_reducible omega) | (simp only [List.length_map, List.length_append, List.length_cons, List.length_nil, List.length_reverse, rng_len, List.length_replicate, List.length_dropLast] at *; with_reducible omega) | omega | assumption | trivial)) (by first | with_reducible assumption | with_reducible omega | exact True.intro | (simp only [List.length_map, List.length_append, List.length_cons, List.length_nil, List.length_reverse, rng_len, List.length_replicate, List.length_dropLast]; with_reducible omega) | (simp only [List.length_map, List.length_append, List.length_cons, List.length_nil, List.length_reverse, rng_len, List.length_replicate, List.length_dropLast] at *; with_reducible omega) | omega | assumption | trivial) (by first | with_reducible assumption | with_reducible omega | exact True.intro | (simp only [List.length_map, List.length_append, List.length_cons, List.length_nil, List.length_reverse, rng_len, List.length_replicate, List.length_dropLast]; with_reducible omega) | (simp only [List.length_map, List.length_append, List.length_cons, List.length_nil, List.length_reverse, rng_len, List.length_replicate, List.length_dropLast] at *; with_reducible omega) | omega | assumption | trivial)) (by first | with_reducible assumption | with_reducible omega | exact True.intro | (simp only [List.length_map, List.length_append, List.length_cons, List.length_nil, List.length_reverse, rng_len, List.length_replicate, List.length_dropLast]; with_reducible omega) | (simp only [List.length_map, List.length_append, List.length_cons, List.length_nil, List.length_reverse, rng_len, List.length_replicate, List.length_dropLast] at *; with_reducible omega) | omega | assumption | trivial)) (e_slS (e_var 4 (a := ((p__law_text many rules) : Str))) (o_some (e_var 7 (a := (v__law_faulty_0 many rules cell : Int)))) o_none (by first | with_reducible assumption | with_reducible omega | exact True.intro | (simp only [List.length_map, List.length_append, List.length_cons, List.length_nil, List.length_reverse, rng_len, List.length_replicate, List.length_dropLast]; with_reducible omega) | (simp only [List.length_map, List.length_append, List.length_cons, List.length_nil, List.length_reverse, rng_len, List.length_replicate, List.length_dropLast] at *; with_reducible omega) | omega | assumption | trivial)) (by first | with_reducible assumption | with_reducible omega | exact True.intro | (simp only [List.length_map, List.length_append, List.length_cons, List.length_nil, List.length_reverse, rng_len, List.length_replicate, List.length_dropLast]; with_reducible omega) | (simp only [List.length_map, List.length_append, List.length_cons, List.length_nil, List.length_reverse, rng_len, List.length_replicate, List.length_dropLast] at *; with_reducible omega) | omega | assumption | trivial)) ?_
        rw [hφ]
        show FnEnd _ _ _ = _
        unfold p__law_faulty
        rewrite [cn hc0]
        rewrite [cn hc1]
        rewrite [cp hc2]
        rfl
      · intro hc2
        have hc2_d : ¬ ((way : Int) = 2) := of_decide_eq_false hc2
        refine s_next ?_
        refine s_ifs (c := (decide ((way : Int) = 3))) (t_val (e_eq (e_var 2 (a := (way : Int))) (e_int 3) (by first | exact QT.all _ | assumption) (by first | exact QT.all _ | assumption))) ?_ ?_
        · intro hc3
          have hc3_d : (way : Int) = 3 := of_decide_eq_true hc3
          refine s_rets (e_ix ((r_lst (e_lsts (as_cons (e_catS (e_var 4 (a := ((p__law_text many rules) : Str))) (e_str ";") (by first | with_reducible assumption | with_reducible omega | exact True.intro | (simp only [List.length_map, List.length_append, List.length_cons, List.length_nil, List.length_reverse, rng_len, List.length_replicate, List.length_dropLast]; with_reducible omega) | (simp only [List.length_map, List.length_append, List.length_cons, List.length_nil, List.length_reverse, rng_len, List.length_replicate, List.length_dropLast] at *; with_reducible omega) | omega | assumption | trivial)) (as_cons (e_catS (e_str ";") (e_var 4 (a := ((p__law_text many rules) : Str))) (by first | with_reducible assumption | with_reducible omega | exact True.intro | (simp only [List.length_map, List.length_append, List.length_cons, List.length_nil, List.length_reverse, rng_len, List.length_replicate, List.length_dropLast]; with_reducible omega) | (simp only [List.length_map, List.length_append, List.length_cons, List.length_nil, List.length_reverse, rng_len, List.length_replicate, List.length_dropLast] at *; with_reducible omega) | omega | assumption | trivial)) (as_cons (e_catS (e_var 4 (a := ((p__law_text many rules) : Str))) (e_str " ") (by first | with_reducible assumption | with_reducible omega | exact True.intro | (simp only [List.length_map, List.length_append, List.length_cons, List.length_nil, List.length_reverse, rng_len, List.length_replicate, List.length_dropLast]; with_reducible omega) | (simp only [List.length_map, List.length_append, List.length_cons, List.length_nil, List.length_reverse, rng_len, List.length_replicate, List.length_dropLast] at *; with_reducible omega) | omega | assumption | trivial)) (as_cons (e_catS (e_str " ") (e_var 4 (a := ((p__law_text many rules) : Str))) (by first | with_reducible assumption | with_reducible omega | exact True.intro | (simp only [List.length_map, List.length_append, List.length_cons, List.length_nil, List.length_reverse, rng_len, List.length_replicate, List.length_dropLast]; with_reducible omega) | (simp only [List.length_map, List.length_append, List.length_cons, List.length_nil, List.length_reverse, rng_len, List.length_replicate, List.length_dropLast] at *; with_reducible omega) | omega | assumption | trivial)) (as_cons (e_catS (e_var 4 (a := ((p__law_text many rules) : Str))) (e_str "\n") (by first | with_reducible assumption | with_reducible omega | exact True.intro | (simp only [List.length_map, List.length_append, List.length_cons, List.length_nil, List.length_reverse, rng_len, List.length_replicate, List.length_dropLast]; with_reducible omega) | (simp only [List.length_map, List.length_append, List.length_cons, List.length_nil, List.length_reverse, rng_len, List.length_replicate, List.length_dropLast] at *; with_reducible omega) | omega | assumption | trivial)) as_nil)))))))).s (e_mod (b := 5) (e_var 3 (a := (cell : Int))) (e_int 5) (by first | with_reducible assumption | with_reducible omega | exact True.intro | (simp only [List.length_map, List.length_append, List.length_cons, List.length_nil, List.length_reverse, rng_len, List.length_replicate, List.length_dropLast]; with_reducible omega) | (simp only [List.length_map, List.length_append, List.length_cons, List.length_nil, List.length_reverse, rng_len, List.length_replicate, List.length_dropLast] at *; with_reducible omega) | omega | assumption | trivial)) (by first | with_reducible assumption | with_reducible omega | exact True.intro | (simp only [List.length_map, List.length_append, List.length_cons, List.length_nil, List.length_reverse, rng_len, List.length_replicate, List.length_dropLast]; with_reducible omega) | (simp only [List.length_map, List.length_append, List.length_cons, List.length_nil, List.length_reverse, rng_len, List.length_replicate, List.length_dropLast] at *; with_reducible omega) | omega | assumption | trivial) (by first | with_reducible assumption | with_reducible omega | exact True.intro | (simp only [List.length_map, List.length_append, List.length_cons, List.length_nil, List.length_reverse, rng_len, List.length_replicate, List.length_dropLast]; with_reducible omega) | (simp only [List.length_map, List.length_append, List.length_cons, List.length_nil, List.length_reverse, rng_len, List.length_replicate, List.length_dropLast] at *; with_reducible omega) | omega | assumption | trivial)) ?_
          rw [hφ]
          show FnEnd _ _ _ = _
          unfold p__law_faulty
          rewrite [cn hc0]
          rewrite [cn hc1]
          rewrite [cn hc2]
          rewrite [cp hc3]
          rfl
        · intro hc3
          have hc3_d : ¬ ((way : Int) = 3) := of_decide_eq_false hc3
          refine s_next ?_
          refine s_seq (ρ1 := [sd (many : Int), sl (rules : (List (Str × Str))), sd (way : Int), sd (cell : Int), sd ((p__law_text many rules) : Str), sd ((cell % ((rules).length : Int)) : Int), sl (v__law_faulty_1 rules : (List Str)), none, none, none]) (n_set (e_compC (vs := [8, 9]) (bd := bdT [bdN 4 8, bdN 4 9]) (xs := (rules : List (Str × Str))) [sd (many : Int), none, sd (way : Int), sd (cell : Int), sd ((p__law_text many rules) : Str), sd ((cell % ((rules).length : Int)) : Int), none, none, none, none] (fun x0 => [sd (many : Int), none, sd (way : Int), sd (cell : Int), sd ((p__law_text many rules) : Str), sd ((cell % ((rules).length : Int)) : Int), none, none, sd (x0.1 : Str), sd (x0.2 : Str)]) (fun (x0 : (Str × Str)) => (((x0.1 ++ ("=" : Str)) ++ x0.2) : Str)) (w_cell (xs := (rules : (List (Str × Str)))) 1) rfl (fun x0 hz0 => by
      obtain ⟨g1, g2⟩ := lens2 h hz0
      have a1 := app_len x0.1 ("=" : Str)
      exact ⟨rfl, (e_catS (e_catS (e_var 8 (a := (x0.1 : Str))) (e_str "=") (by first | with_reducible assumption | with_reducible omega | exact True.intro | (simp only [List.length_map, List.length_append, List.length_cons, List.length_nil, List.length_reverse, rng_len, List.length_replicate, List.length_dropLast]; with_reducible omega) | (simp only [List.length_map, List.length_append, List.length_cons, List.length_nil, List.length_reverse, rng_len, List.length_replicate, List.length_dropLast] at *; with_reducible omega) | omega | assumption | trivial)) (e_var 9 (a := (x0.2 : Str))) (by first | with_reducible assumption | with_reducible omega | exact True.intro | (simp only [List.length_map, List.length_append, List.length_cons, List.length_nil, List.length_reverse, rng_len, List.length_replicate, List.length_dropLast]; with_reducible omega) | (simp only [List.length_map, List.length_append, List.length_cons, List.length_nil, List.length_reverse, rng_len, List.length_replicate, List.length_dropLast] at *; with_reducible omega) | omega | assumption | trivial)), rfl⟩) (by first | with_reducible assumption | with_reducible omega | exact True.intro | (simp only [List.length_map, List.length_append, List.length_cons, List.length_nil, List.length_reverse, rng_len, List.length_replicate, List.length_dropLast]; with_reducible omega) | (simp only [List.length_map, List.length_append, List.length_cons, List.length_nil, List.length_reverse, rng_len, List.length_replicate, List.length_dropLast] at *; with_reducible omega) | omega | assumption | trivial) rfl rfl) rfl) ?_
          refine s_seq (ρ1 := [sd (many : Int), sl (rules : (List (Str × Str))), sd (way : Int), sd (cell : Int), sd ((p__law_text many rules) : Str), sd ((cell % ((rules).length : Int)) : Int), sl (v__law_faulty_2 many rules cell : (List Str)), none, none, none]) (n_put (xs := (v__law_faulty_1 rules : (List Str))) 6 (e_callD (ws := [W.d (emb ((ix rules (cell % ((rules).length : Int))) : (Str × Str))), W.d (emb (many : Int)), W.d (emb ((cell / 9) : Int))]) (a_cons (e_ix ((r_cell (xs := (rules : (List (Str × Str)))) 1)).s (e_var 5 (a := ((cell % ((rules).length : Int)) : Int))) (by first | with_reducible assumption | with_reducible omega | exact True.intro | (simp only [List.length_map, List.length_append, List.length_cons, List.length_nil, List.length_reverse, rng_len, List.length_replicate, List.length_dropLast]; with_reducible omega) | (simp only [List.length_map, List.length_append, List.length_cons, List.length_nil, List.length_reverse, rng_len, List.length_replicate, List.length_dropLast] at *; with_reducible omega) | omega | assumption | trivial) (by first | with_reducible assumption | with_reducible omega | exact True.intro | (simp only [List.length_map, List.length_append, List.length_cons, List.length_nil, List.length_reverse, rng_len, List.length_replicate, List.length_dropLast]; with_reducible omega) | (simp only [List.length_map, List.length_append, List.length_cons, List.length_nil, List.length_reverse, rng_len, List.length_replicate, List.length_dropLast] at *; with_reducible omega) | omega | assumption | trivial)) (a_cons (e_var 0 (a := (many : Int))) (a_cons (e_div (b := 9) (e_var 3 (a := (cell : Int))) (e_int 9) (by first | with_reducible assumption | with_reducible omega | exact True.intro | (simp only [List.length_map, List.length_append, List.length_cons, List.length_nil, List.length_reverse, rng_len, List.length_replicate, List.length_dropLast]; with_reducible omega) | (simp only [List.length_map, List.length_append, List.length_cons, List.length_nil, List.length_reverse, rng_len, List.length_replicate, List.length_dropLast] at *; with_reducible omega) | omega | assumption | trivial) (by first | with_reducible assumption | with_reducible omega | exact True.intro | (simp only [List.length_map, List.length_append, List.length_cons, List.length_nil, List.length_reverse, rng_len, List.length_replicate, List.length_dropLast]; with_reducible omega) | (simp only [List.length_map, List.length_append, List.length_cons, List.length_nil, List.length_reverse, rng_len, List.length_replicate, List.length_dropLast] at *; with_reducible omega) | omega | assumption | trivial)) a_nil))) (w__law_bad_rule (ix rules (cell % ((rules).length : Int))) many (cell / 9) (by first | with_reducible assumption | with_reducible omega | exact True.intro | (simp only [List.length_map, List.length_append, List.length_cons, List.length_nil, List.length_reverse, rng_len, List.length_replicate, List.length_dropLast]; with_reducible omega) | (simp only [List.length_map, List.length_append, List.length_cons, List.length_nil, List.length_reverse, rng_len, List.length_replicate, List.length_dropLast] at *; with_reducible omega) | omega | assumption | trivial) (by first | with_reducible assumption | with_reducible omega | exact True.intro | (simp only [List.length_map, List.length_append, List.length_cons, List.length_nil, List.length_reverse, rng_len, List.length_replicate, List.length_dropLast]; with_reducible omega) | (simp only [List.length_map, List.length_append, List.length_cons, List.length_nil, List.length_reverse, rng_len, List.length_replicate, List.length_dropLast] at *; with_reducible omega) | omega | assumption | trivial) (by first | with_reducible assumption | with_reducible omega | exact True.intro | (simp only [List.length_map, List.length_append, List.length_cons, List.length_nil, List.length_reverse, rng_len, List.length_replicate, List.length_dropLast]; with_reducible omega) | (simp only [List.length_map, List.length_append, List.length_cons, List.length_nil, List.length_reverse, rng_len, List.length_replicate, List.length_dropLast] at *; with_reducible omega) | omega | assumption | trivial))) rfl (e_var 5 (a := ((cell % ((rules).length : Int)) : Int))) (by first | with_reducible assumption | with_reducible omega | exact True.intro | (simp only [List.length_map, List.length_append, List.length_cons, List.length_nil, List.length_reverse, rng_len, List.length_replicate, List.length_dropLast]; with_reducible omega) | (simp only [List.length_map, List.length_append, List.length_cons, List.length_nil, List.length_reverse, rng_len, List.length_replicate, List.length_dropLast] at *; with_reducible omega) | omega | assumption | trivial) (by first | with_reducible assumption | with_reducible omega | exact True.intro | (simp only [List.length_map, List.length_append, List.length_cons, List.length_nil, List.length_reverse, rng_len, List.length_replicate, List.length_dropLast]; with_reducible omega) | (simp only [List.length_map, List.length_append, List.length_cons, List.length_nil, List.length_reverse, rng_len, List.length_replicate, List.length_dropLast] at *; with_reducible omega) | omega | assumption | trivial) rfl) ?_
          refine s_ret (e_join (e_str ";") ((r_lst (e_catL (o_lst (e_lsts (as_cons (e_strI (e_var 0 (a := (many : Int))) (by exact ⟨by omega, by omega⟩)) as_nil))) (o_cell (xs := (v__law_faulty_2 many rules cell : (List Str))) 6) (by first | with_reducible assumption | with_reducible omega | exact True.intro | (simp only [List.length_map, List.length_append, List.length_cons, List.length_nil, List.length_reverse, rng_len, List.length_replicate, List.length_dropLast]; with_reducible omega) | (simp only [List.length_map, List.length_append, List.length_cons, List.length_nil, List.length_reverse, rng_len, List.length_replicate, List.length_dropLast] at *; with_reducible omega) | omega | assumption | trivial)))).s (by first | exact nine_sum h | exact set_sum h cell)) ?_
          rw [hφ]
          show FnEnd _ _ _ = _
          unfold p__law_faulty
          rewrite [cn hc0]
          rewrite [cn hc1]
          rewrite [cn hc2]
          rewrite [cn hc3]
          rfl
theorem w_law (script : (List Int)) (h1 : script.length ≤ 63) : f_law [.s (script.map PyData.int)] = .ok (.d (emb (p_law script))) [.s (script.map PyData.int)] := by
  obtain ⟨lm1, lm2⟩ := law_many script
  have lg := law_gram script
  obtain ⟨ld1, ld2⟩ := law_deck script
  have lc := cut63 script
  have f1 : ("CBA" : Str).length = 3 := rfl
  have c40 : (cutD script none (some 40)).length ≤ 40 := by rw [cutTo (by decide), List.length_take]; exact Nat.min_le_left _ _
  have q3 : EmbQ.q (v_law_2 script) := gtext_q lg
  have l3 : (v_law_2 script).length ≤ 100 := gram_len lg
  have b3 : badG (v_law_2 script) = false := gramRead lg
  have q4 : EmbQ.q (1 + lastI (v_law_0 script) % 4, (r_law_0 script).2) := gram_q lg
  have q5 : EmbQ.q (p_read_grammar (v_law_2 script)) := by rw [show v_law_2 script = gtext _ _ from rfl, read_eq lg]; exact q4
  refine fn_of [some (.s (script.map PyData.int)), none, none, none, none, none, none, none, none] rfl rfl (fun φ hφ => ?_)
  refine s_seq (ρ1 := [some (.s (script.map PyData.int)), sl (v_law_0 script : (List Int)), none, none, none, none, none, none, none]) (by rewrite [e_v_law_0]; exact (n_set (e_callL (ws := [W.l (((cutD script none (some 63)) : (List Int)).map emb), W.d (emb (72 : Int))]) (a_cons (e_slL (r_scr (α := Int) (xs := script) 0) o_none (o_some (e_int 63))) (a_cons (e_int 72) a_nil)) (w__law_deck (cutD script none (some 63)) 72 (by first | with_reducible assumption | with_reducible omega | exact True.intro | (simp only [List.length_map, List.length_append, List.length_cons, List.length_nil, List.length_reverse, rng_len, List.length_replicate, List.length_dropLast]; with_reducible omega) | (simp only [List.length_map, List.length_append, List.length_cons, List.length_nil, List.length_reverse, rng_len, List.length_replicate, List.length_dropLast] at *; with_reducible omega) | omega | assumption | trivial) (by first | with_reducible assumption | with_reducible omega | exact True.intro | (simp only [List.length_map, List.length_append, List.length_cons, List.length_nil, List.length_reverse, rng_len, List.length_replicate, List.length_dropLast]; with_reducible omega) | (simp only [List.length_map, List.length_append, List.length_cons, List.length_nil, List.length_reverse, rng_len, List.length_replicate, List.length_dropLast] at *; with_reducible omega) | omega | assumption | trivial) (by first | with_reducible assumption | with_reducible omega | exact True.intro | (simp only [List.length_map, List.length_append, List.length_cons, List.length_nil, List.length_reverse, rng_len, List.length_replicate, List.length_dropLast]; with_reducible omega) | (simp only [List.length_map, List.length_append, List.length_cons, List.length_nil, List.length_reverse, rng_len, List.length_replicate, List.length_dropLast] at *; with_reducible omega) | omega | assumption | trivial))) rfl)) ?_
  refine s_seq (ρ1 := [some (.s (script.map PyData.int)), sl ((v_law_0 script).dropLast : (List Int)), sd ((1 + ((lastI (v_law_0 script)) % 4)) : Int), none, none, none, none, none, none]) (n_set (e_add (e_int 1) (e_mod (b := 4) (e_pop 1 (xs := (v_law_0 script : (List Int))) rfl (by first | with_reducible assumption | with_reducible omega | exact True.intro | (simp only [List.length_map, List.length_append, List.length_cons, List.length_nil, List.length_reverse, rng_len, List.length_replicate, List.length_dropLast]; with_reducible omega) | (simp only [List.length_map, List.length_append, List.length_cons, List.length_nil, List.length_reverse, rng_len, List.length_replicate, List.length_dropLast] at *; with_reducible omega) | omega | assumption | trivial) rfl) (e_int 4) (by first | with_reducible assumption | with_reducible omega | exact True.intro | (simp only [List.length_map, List.length_append, List.length_cons, List.length_nil, List.length_reverse, rng_len, List.length_replicate, List.length_dropLast]; with_reducible omega) | (simp only [List.length_map, List.length_append, List.length_cons, List.length_nil, List.length_reverse, rng_len, List.length_replicate, List.length_dropLast] at *; with_reducible omega) | omega | assumption | trivial))) rfl) ?_
  refine s_seq (ρ1 := [some (.s (script.map PyData.int)), sl ((v_law_0 script).dropLast : (List Int)), sd ((1 + ((lastI (v_law_0 script)) % 4)) : Int), sl ([] : (List (Str × Str))), none, none, none, none, none]) (n_set (e_lsts (as_nil (α := (Str × Str)))) rfl) ?_
  obtain ⟨u0, e0, i0⟩ := for_nx (ρ := [some (.s (script.map PyData.int)), sl ((v_law_0 script).dropLast : (List Int)), sd ((1 + ((lastI (v_law_0 script)) % 4)) : Int), sl ([] : (List (Str × Str))), none, none, none, none, none]) (bd := bdN 1 4) (body := b_law_0) (xs := ((rng (1 + ((lastI ((v_law_0 script).dropLast)) % 8))) : List Int)) (s := ((((v_law_0 script).dropLast).dropLast, []) : (List Int) × (List (Str × Str)))) (t := ((none, none) : Option B × Option B)) (fun (s0 : (List Int) × (List (Str × Str))) (t0 : Option B × Option B) => [some (.s (script.map PyData.int)), sl (s0.1 : (List Int)), sd ((1 + ((lastI (v_law_0 script)) % 4)) : Int), sl (s0.2 : (List (Str × Str))), t0.2, none, none, t0.1, none]) (st_law_0 script) (fun (s0 : (List Int) × (List (Str × Str))) (ys0 : List Int) => LWI s0 ys0) (w_rng (e_add (e_int 1) (e_mod (b := 8) (e_pop 1 (xs := ((v_law_0 script).dropLast : (List Int))) rfl (by first | with_reducible assumption | with_reducible omega | exact True.intro | (simp only [List.length_map, List.length_append, List.length_cons, List.length_nil, List.length_reverse, rng_len, List.length_replicate, List.length_dropLast]; with_reducible omega) | (simp only [List.length_map, List.length_append, List.length_cons, List.length_nil, List.length_reverse, rng_len, List.length_replicate, List.length_dropLast] at *; with_reducible omega) | omega | assumption | trivial) rfl) (e_int 8) (by first | with_reducible assumption | with_reducible omega | exact True.intro | (simp only [List.length_map, List.length_append, List.length_cons, List.length_nil, List.length_reverse, rng_len, List.length_replicate, List.length_dropLast]; with_reducible omega) | (simp only [List.length_map, List.length_append, List.length_cons, List.length_nil, List.length_reverse, rng_len, List.length_replicate, List.length_dropLast] at *; with_reducible omega) | omega | assumption | trivial))) (by first | with_reducible assumption | with_reducible omega | exact True.intro | (simp only [List.length_map, List.length_append, List.length_cons, List.length_nil, List.length_reverse, rng_len, List.length_replicate, List.length_dropLast]; with_reducible omega) | (simp only [List.length_map, List.length_append, List.length_cons, List.length_nil, List.length_reverse, rng_len, List.length_replicate, List.length_dropLast] at *; with_reducible omega) | omega | assumption | trivial) (by first | with_reducible assumption | with_reducible omega | exact True.intro | (simp only [List.length_map, List.length_append, List.length_cons, List.length_nil, List.length_reverse, rng_len, List.length_replicate, List.length_dropLast]; with_reducible omega) | (simp only [List.length_map, List.length_append, List.length_cons, List.length_nil, List.length_reverse, rng_len, List.length_replicate, List.length_dropLast] at *; with_reducible omega) | omega | assumption | trivial)) (by exact law_wi script) (fun s0 t0 y0 ys0 hx0 hI0 => ⟨_, rfl, by
        refine body_of (P := fun o => (fun (s0 : (List Int) × (List (Str × Str))) (ys0 : List Int) => LWI s0 ys0) ((st_law_0 script) s0 y0) ys0 ∧ ∃ t', o = Out.ok Fl.nx ((fun (s0 : (List Int) × (List (Str × Str))) (t0 : Option B × Option B) => [some (.s (script.map PyData.int)), sl (s0.1 : (List Int)), sd ((1 + ((lastI (v_law_0 script)) % 4)) : Int), sl (s0.2 : (List (Str × Str))), t0.2, none, none, t0.1, none]) ((st_law_0 script) s0 y0) t') ∨ o = Out.ok Fl.ct ((fun (s0 : (List Int) × (List (Str × Str))) (t0 : Option B × Option B) => [some (.s (script.map PyData.int)), sl (s0.1 : (List Int)), sd ((1 + ((lastI (v_law_0 script)) % 4)) : Int), sl (s0.2 : (List (Str × Str))), t0.2, none, none, t0.1, none]) ((st_law_0 script) s0 y0) t')) (fun φ hφ0 => ?_)
        have hr0 := rng_mem.mp hx0
        obtain ⟨g1, g2, g3⟩ := id hI0
        rw [List.length_cons] at g1 g3
        have m3 := mod_bd (a := lastI s0.1) (b := 3) (by decide)
        refine s_seq (ρ1 := [some (.s (script.map PyData.int)), sl (s0.1.dropLast : (List Int)), sd ((1 + ((lastI (v_law_0 script)) % 4)) : Int), sl (s0.2 : (List (Str × Str))), sd (y0 : Int), none, none, sd ((ixS ("CBA" : Str) ((lastI s0.1) % 3)) : Str), none]) (n_set (e_ixS (e_str "CBA") (e_mod (b := 3) (e_pop 1 (xs := (s0.1 : (List Int))) rfl (by first | with_reducible assumption | with_reducible omega | exact True.intro | (simp only [List.length_map, List.length_append, List.length_cons, List.length_nil, List.length_reverse, rng_len, List.length_replicate, List.length_dropLast]; with_reducible omega) | (simp only [List.length_map, List.length_append, List.length_cons, List.length_nil, List.length_reverse, rng_len, List.length_replicate, List.length_dropLast] at *; with_reducible omega) | omega | assumption | trivial) rfl) (e_int 3) (by first | with_reducible assumption | with_reducible omega | exact True.intro | (simp only [List.length_map, List.length_append, List.length_cons, List.length_nil, List.length_reverse, rng_len, List.length_replicate, List.length_dropLast]; with_reducible omega) | (simp only [List.length_map, List.length_append, List.length_cons, List.length_nil, List.length_reverse, rng_len, List.length_replicate, List.length_dropLast] at *; with_reducible omega) | omega | assumption | trivial)) (by first | with_reducible assumption | with_reducible omega | exact True.intro | (simp only [List.length_map, List.length_append, List.length_cons, List.length_nil, List.length_reverse, rng_len, List.length_replicate, List.length_dropLast]; with_reducible omega) | (simp only [List.length_map, List.length_append, List.length_cons, List.length_nil, List.length_reverse, rng_len, List.length_replicate, List.length_dropLast] at *; with_reducible omega) | omega | assumption | trivial) (by first | with_reducible assumption | with_reducible omega | exact True.intro | (simp only [List.length_map, List.length_append, List.length_cons, List.length_nil, List.length_reverse, rng_len, List.length_replicate, List.length_dropLast]; with_reducible omega) | (simp only [List.length_map, List.length_append, List.length_cons, List.length_nil, List.length_reverse, rng_len, List.length_replicate, List.length_dropLast] at *; with_reducible omega) | omega | assumption | trivial) (by first | with_reducible assumption | with_reducible omega | exact True.intro | (simp only [List.length_map, List.length_append, List.length_cons, List.length_nil, List.length_reverse, rng_len, List.length_replicate, List.length_dropLast]; with_reducible omega) | (simp only [List.length_map, List.length_append, List.length_cons, List.length_nil, List.length_reverse, rng_len, List.length_replicate, List.length_dropLast] at *; with_reducible omega) | omega | assumption | trivial)) rfl) ?_
        refine s_one (n_app (xs := (s0.2 : (List (Str × Str)))) (a := (((ixS ("CBA" : Str) ((lastI s0.1) % 3)), (p__law_right s0.1.dropLast (1 + ((lastI (v_law_0 script)) % 4)) ("CBA" : Str) 4).1) : (Str × Str))) 3 rfl (e_pair (e_var 7 (a := ((ixS ("CBA" : Str) ((lastI s0.1) % 3)) : Str))) (e_callCD (ws := [W.c 1, W.d (emb ((1 + ((lastI (v_law_0 script)) % 4)) : Int)), W.d (emb (("CBA" : Str) : Str)), W.d (emb (4 : Int))]) (a_cons (v_cell (xs := (s0.1.dropLast : (List Int))) 1) (a_cons (e_var 2 (a := ((1 + ((lastI (v_law_0 script)) % 4)) : Int))) (a_cons (e_str "CBA") (a_cons (e_int 4) a_nil)))) rfl (by simp [slots_c, slots_d, slots_l, slots_t, slots_nil]) (w__law_right s0.1.dropLast (1 + ((lastI (v_law_0 script)) % 4)) ("CBA" : Str) 4 (by first | with_reducible assumption | with_reducible omega | exact True.intro | (simp only [List.length_map, List.length_append, List.length_cons, List.length_nil, List.length_reverse, rng_len, List.length_replicate, List.length_dropLast]; with_reducible omega) | (simp only [List.length_map, List.length_append, List.length_cons, List.length_nil, List.length_reverse, rng_len, List.length_replicate, List.length_dropLast] at *; with_reducible omega) | omega | assumption | trivial) (by first | with_reducible assumption | with_reducible omega | exact True.intro | (simp only [List.length_map, List.length_append, List.length_cons, List.length_nil, List.length_reverse, rng_len, List.length_replicate, List.length_dropLast]; with_reducible omega) | (simp only [List.length_map, List.length_append, List.length_cons, List.length_nil, List.length_reverse, rng_len, List.length_replicate, List.length_dropLast] at *; with_reducible omega) | omega | assumption | trivial) (by first | with_reducible assumption | with_reducible omega | exact True.intro | (simp only [List.length_map, List.length_append, List.length_cons, List.length_nil, List.length_reverse, rng_len, List.length_replicate, List.length_dropLast]; with_reducible omega) | (simp only [List.length_map, List.length_append, List.length_cons, List.length_nil, List.length_reverse, rng_len, List.length_replicate, List.length_dropLast] at *; with_reducible omega) | omega | assumption | trivial) (by first | with_reducible assumption | with_reducible omega | exact True.intro | (simp only [List.length_map, List.length_append, List.length_cons, List.length_nil, List.length_reverse, rng_len, List.length_replicate, List.length_dropLast]; with_reducible omega) | (simp only [List.length_map, List.length_append, List.length_cons, List.length_nil, List.length_reverse, rng_len, List.length_replicate, List.length_dropLast] at *; with_reducible omega) | omega | assumption | trivial) (by first | with_reducible assumption | with_reducible omega | exact True.intro | (simp only [List.length_map, List.length_append, List.length_cons, List.length_nil, List.length_reverse, rng_len, List.length_replicate, List.length_dropLast]; with_reducible omega) | (simp only [List.length_map, List.length_append, List.length_cons, List.length_nil, List.length_reverse, rng_len, List.length_replicate, List.length_dropLast] at *; with_reducible omega) | omega | assumption | trivial)) rfl)) rfl (by first | with_reducible assumption | with_reducible omega | exact True.intro | (simp only [List.length_map, List.length_append, List.length_cons, List.length_nil, List.length_reverse, rng_len, List.length_replicate, List.length_dropLast]; with_reducible omega) | (simp only [List.length_map, List.length_append, List.length_cons, List.length_nil, List.length_reverse, rng_len, List.length_replicate, List.length_dropLast] at *; with_reducible omega) | omega | assumption | trivial) rfl) ?_
        rw [hφ0]
        have eq0 : (st_law_0 script) s0 y0 = ((p__law_right s0.1.dropLast (1 + ((lastI (v_law_0 script)) % 4)) ("CBA" : Str) 4).2, (s0.2 ++ [v_law_1 script s0])) := by (unfold st_law_0; rfl)
        rw [eq0]
        exact ⟨by (try dsimp only); exact law_wp script s0 y0 ys0 hI0, (sd ((ixS ("CBA" : Str) ((lastI s0.1) % 3)) : Str), sd (y0 : Int)), .inl rfl⟩⟩)
  replace e0 : _ = Out.ok Fl.nx [some (.s (script.map PyData.int)), sl ((r_law_0 script).1 : (List Int)), sd ((1 + ((lastI (v_law_0 script)) % 4)) : Int), sl ((r_law_0 script).2 : (List (Str × Str))), u0.2, none, none, u0.1, none] := e0
  replace i0 : (fun (s0 : (List Int) × (List (Str × Str))) (ys0 : List Int) => LWI s0 ys0) (r_law_0 script) [] := i0
  dsimp only at i0
  obtain ⟨g1, g2, g3⟩ := i0
  refine s_seq e0 ?_
  refine s_seq (ρ1 := [some (.s (script.map PyData.int)), sl ((r_law_0 script).1 : (List Int)), sd ((1 + ((lastI (v_law_0 script)) % 4)) : Int), sl ((r_law_0 script).2 : (List (Str × Str))), u0.2, sd (v_law_2 script : Str), none, u0.1, none]) (n_set (e_callSD (ws := [W.d (emb ((1 + ((lastI (v_law_0 script)) % 4)) : Int)), W.c 3]) (a_cons (e_var 2 (a := ((1 + ((lastI (v_law_0 script)) % 4)) : Int))) (a_cons (v_cell (xs := ((r_law_0 script).2 : (List (Str × Str)))) 3) a_nil)) rfl (by simp [slots_c, slots_d, slots_l, slots_t, slots_nil]) (w__law_text (1 + ((lastI (v_law_0 script)) % 4)) ((r_law_0 script).2) (by first | with_reducible assumption | with_reducible omega | exact True.intro | (simp only [List.length_map, List.length_append, List.length_cons, List.length_nil, List.length_reverse, rng_len, List.length_replicate, List.length_dropLast]; with_reducible omega) | (simp only [List.length_map, List.length_append, List.length_cons, List.length_nil, List.length_reverse, rng_len, List.length_replicate, List.length_dropLast] at *; with_reducible omega) | omega | assumption | trivial))) rfl) ?_
  let E1 : (Unit) → (Option B × Option B) → TD.Env := fun s1 t1 => [some (.s (script.map PyData.int)), sl ((r_law_0 script).1 : (List Int)), sd ((1 + ((lastI (v_law_0 script)) % 4)) : Int), sl ((r_law_0 script).2 : (List (Str × Str))), u0.2, sd (v_law_2 script : Str), t1.2, u0.1, t1.1]
  let I1 : (Unit) → List Int → Prop := (fun (s1 : Unit) (ys1 : List Int) => True)
  have L1 := for_rt (ρ := [some (.s (script.map PyData.int)), sl ((r_law_0 script).1 : (List Int)), sd ((1 + ((lastI (v_law_0 script)) % 4)) : Int), sl ((r_law_0 script).2 : (List (Str × Str))), u0.2, sd (v_law_2 script : Str), none, u0.1, none]) (bd := bdN 1 6) (body := b_law_1) (xs := (((rng 12) ++ ((cutD script none (some 40)).map fun (x0 : Int) => (x0 % ((10 : Int) ^ (18 : Int).toNat)))) : List Int)) (s := (() : Unit)) (t := ((none, none) : Option B × Option B)) E1 (fun r : Bool => W.d (emb r)) (st_law_1 script) I1 (w_lst (e_catL (o_lst (e_listRange (e_int 12) (by first | with_reducible assumption | with_reducible omega | exact True.intro | (simp only [List.length_map, List.length_append, List.length_cons, List.length_nil, List.length_reverse, rng_len, List.length_replicate, List.length_dropLast]; with_reducible omega) | (simp only [List.length_map, List.length_append, List.length_cons, List.length_nil, List.length_reverse, rng_len, List.length_replicate, List.length_dropLast] at *; with_reducible omega) | omega | assumption | trivial) (by first | with_reducible assumption | with_reducible omega | exact True.intro | (simp only [List.length_map, List.length_append, List.length_cons, List.length_nil, List.length_reverse, rng_len, List.length_replicate, List.length_dropLast]; with_reducible omega) | (simp only [List.length_map, List.length_append, List.length_cons, List.length_nil, List.length_reverse, rng_len, List.length_replicate, List.length_dropLast] at *; with_reducible omega) | omega | assumption | trivial))) (o_lst (e_comp (vs := [6]) (bd := bdN 1 6) (xs := ((cutD script none (some 40)) : List Int)) [some (.s (script.map PyData.int)), sl ((r_law_0 script).1 : (List Int)), sd ((1 + ((lastI (v_law_0 script)) % 4)) : Int), sl ((r_law_0 script).2 : (List (Str × Str))), u0.2, sd (v_law_2 script : Str), none, u0.1, none] (fun x0 => [some (.s (script.map PyData.int)), sl ((r_law_0 script).1 : (List Int)), sd ((1 + ((lastI (v_law_0 script)) % 4)) : Int), sl ((r_law_0 script).2 : (List (Str × Str))), u0.2, sd (v_law_2 script : Str), sd (x0 : Int), u0.1, none]) (fun (x0 : Int) => ((x0 % ((10 : Int) ^ (18 : Int).toNat)) : Int)) (w_lst (e_slL (r_scr (α := Int) (xs := script) 0) o_none (o_some (e_int 40)))) rfl (fun x0 hz0 => ⟨rfl, (e_mod (e_var 6 (a := (x0 : Int))) (e_pow (e_int 10) (e_int 18) (by first | with_reducible assumption | with_reducible omega | exact True.intro | (simp only [List.length_map, List.length_append, List.length_cons, List.length_nil, List.length_reverse, rng_len, List.length_replicate, List.length_dropLast]; with_reducible omega) | (simp only [List.length_map, List.length_append, List.length_cons, List.length_nil, List.length_reverse, rng_len, List.length_replicate, List.length_dropLast] at *; with_reducible omega) | omega | assumption | trivial) (by first | with_reducible assumption | with_reducible omega | exact True.intro | (simp only [List.length_map, List.length_append, List.length_cons, List.length_nil, List.length_reverse, rng_len, List.length_replicate, List.length_dropLast]; with_reducible omega) | (simp only [List.length_map, List.length_append, List.length_cons, List.length_nil, List.length_reverse, rng_len, List.length_replicate, List.length_dropLast] at *; with_reducible omega) | omega | assumption | trivial) (by first | with_reducible assumption | with_reducible omega | exact True.intro | (simp only [List.length_map, List.length_append, List.length_cons, List.length_nil, List.length_reverse, rng_len, List.length_replicate, List.length_dropLast]; with_reducible omega) | (simp only [List.length_map, List.length_append, List.length_cons, List.length_nil, List.length_reverse, rng_len, List.length_replicate, List.length_dropLast] at *; with_reducible omega) | omega | assumption | trivial)) (by first | with_reducible assumption | with_reducible omega | exact True.intro | (simp only [List.length_map, List.length_append, List.length_cons, List.length_nil, List.length_reverse, rng_len, List.length_replicate, List.length_dropLast]; with_reducible omega) | (simp only [List.length_map, List.length_append, List.length_cons, List.length_nil, List.length_reverse, rng_len, List.length_replicate, List.length_dropLast] at *; with_reducible omega) | omega | assumption | trivial)), rfl⟩) (by first | with_reducible assumption | with_reducible omega | exact True.intro | (simp only [List.length_map, List.length_append, List.length_cons, List.length_nil, List.length_reverse, rng_len, List.length_replicate, List.length_dropLast]; with_reducible omega) | (simp only [List.length_map, List.length_append, List.length_cons, List.length_nil, List.length_reverse, rng_len, List.length_replicate, List.length_dropLast] at *; with_reducible omega) | omega | assumption | trivial) rfl)) (by first | with_reducible assumption | with_reducible omega | exact True.intro | (simp only [List.length_map, List.length_append, List.length_cons, List.length_nil, List.length_reverse, rng_len, List.length_replicate, List.length_dropLast]; with_reducible omega) | (simp only [List.length_map, List.length_append, List.length_cons, List.length_nil, List.length_reverse, rng_len, List.length_replicate, List.length_dropLast] at *; with_reducible omega) | omega | assumption | trivial))) (by first | with_reducible assumption | with_reducible omega | exact True.intro | (simp only [List.length_map, List.length_append, List.length_cons, List.length_nil, List.length_reverse, rng_len, List.length_replicate, List.length_dropLast]; with_reducible omega) | (simp only [List.length_map, List.length_append, List.length_cons, List.length_nil, List.length_reverse, rng_len, List.length_replicate, List.length_dropLast] at *; with_reducible omega) | omega | assumption | trivial) (fun s1 t1 y1 ys1 hx1 hI1 => ⟨_, rfl, by
        refine body_of (P := fun o => rtP ((st_law_1 script) s1 y1) (fun r => ∃ s' t', o = Out.ok (Fl.rt (W.d (emb (r : Bool)))) (E1 s' t')) (fun s' => I1 s' ys1 ∧ ∃ t', o = Out.ok Fl.nx (E1 s' t') ∨ o = Out.ok Fl.ct (E1 s' t'))) (fun φ hφ1 => ?_)
        obtain ⟨fq1, fq2⟩ := faulty_qx lg (way := v_law_3 script y1 % 7) (v_law_3 script y1 / 7)
        have fq3 := faulty_bad lg (way := v_law_3 script y1 % 7) (v_law_3 script y1 / 7)
        refine s_seq (ρ1 := [some (.s (script.map PyData.int)), sl ((r_law_0 script).1 : (List Int)), sd ((1 + ((lastI (v_law_0 script)) % 4)) : Int), sl ((r_law_0 script).2 : (List (Str × Str))), u0.2, sd (v_law_2 script : Str), sd (y1 : Int), u0.1, sd (v_law_3 script y1 : Int)]) (n_set (e_mod (b := 2147483629) (e_add (e_add (e_mul (e_var 6 (a := (y1 : Int))) (e_int 39373) (by first | with_reducible assumption | with_reducible omega | exact True.intro | (simp only [List.length_map, List.length_append, List.length_cons, List.length_nil, List.length_reverse, rng_len, List.length_replicate, List.length_dropLast]; with_reducible omega) | (simp only [List.length_map, List.length_append, List.length_cons, List.length_nil, List.length_reverse, rng_len, List.length_replicate, List.length_dropLast] at *; with_reducible omega) | omega | assumption | trivial)) (e_len ((r_cell (xs := ((r_law_0 script).2 : (List (Str × Str)))) 3)).s)) (e_int 1)) (e_int 2147483629) (by first | with_reducible assumption | with_reducible omega | exact True.intro | (simp only [List.length_map, List.length_append, List.length_cons, List.length_nil, List.length_reverse, rng_len, List.length_replicate, List.length_dropLast]; with_reducible omega) | (simp only [List.length_map, List.length_append, List.length_cons, List.length_nil, List.length_reverse, rng_len, List.length_replicate, List.length_dropLast] at *; with_reducible omega) | omega | assumption | trivial)) rfl) ?_
        refine s_ifs (c := v_law_4 script y1) (t_not (t_val (e_callD (ws := [W.d (emb ((p__law_faulty (1 + ((lastI (v_law_0 script)) % 4)) ((r_law_0 script).2) ((v_law_3 script y1) % 7) ((v_law_3 script y1) / 7)) : Str))]) (a_cons (e_callSD (ws := [W.d (emb ((1 + ((lastI (v_law_0 script)) % 4)) : Int)), W.c 3, W.d (emb (((v_law_3 script y1) % 7) : Int)), W.d (emb (((v_law_3 script y1) / 7) : Int))]) (a_cons (e_var 2 (a := ((1 + ((lastI (v_law_0 script)) % 4)) : Int))) (a_cons (v_cell (xs := ((r_law_0 script).2 : (List (Str × Str)))) 3) (a_cons (e_mod (b := 7) (e_var 8 (a := (v_law_3 script y1 : Int))) (e_int 7) (by first | with_reducible assumption | with_reducible omega | exact True.intro | (simp only [List.length_map, List.length_append, List.length_cons, List.length_nil, List.length_reverse, rng_len, List.length_replicate, List.length_dropLast]; with_reducible omega) | (simp only [List.length_map, List.length_append, List.length_cons, List.length_nil, List.length_reverse, rng_len, List.length_replicate, List.length_dropLast] at *; with_reducible omega) | omega | assumption | trivial)) (a_cons (e_div (b := 7) (e_var 8 (a := (v_law_3 script y1 : Int))) (e_int 7) (by first | with_reducible assumption | with_reducible omega | exact True.intro | (simp only [List.length_map, List.length_append, List.length_cons, List.length_nil, List.length_reverse, rng_len, List.length_replicate, List.length_dropLast]; with_reducible omega) | (simp only [List.length_map, List.length_append, List.length_cons, List.length_nil, List.length_reverse, rng_len, List.length_replicate, List.length_dropLast] at *; with_reducible omega) | omega | assumption | trivial) (by first | with_reducible assumption | with_reducible omega | exact True.intro | (simp only [List.length_map, List.length_append, List.length_cons, List.length_nil, List.length_reverse, rng_len, List.length_replicate, List.length_dropLast]; with_reducible omega) | (simp only [List.length_map, List.length_append, List.length_cons, List.length_nil, List.length_reverse, rng_len, List.length_replicate, List.length_dropLast] at *; with_reducible omega) | omega | assumption | trivial)) a_nil)))) rfl (by simp [slots_c, slots_d, slots_l, slots_t, slots_nil]) (w__law_faulty (1 + ((lastI (v_law_0 script)) % 4)) ((r_law_0 script).2) ((v_law_3 script y1) % 7) ((v_law_3 script y1) / 7) (by first | with_reducible assumption | with_reducible omega | exact True.intro | (simp only [List.length_map, List.length_append, List.length_cons, List.length_nil, List.length_reverse, rng_len, List.length_replicate, List.length_dropLast]; with_reducible omega) | (simp only [List.length_map, List.length_append, List.length_cons, List.length_nil, List.length_reverse, rng_len, List.length_replicate, List.length_dropLast] at *; with_reducible omega) | omega | assumption | trivial))) a_nil) (w__law_refused (p__law_faulty (1 + ((lastI (v_law_0 script)) % 4)) ((r_law_0 script).2) ((v_law_3 script y1) % 7) ((v_law_3 script y1) / 7)) (by first | with_reducible assumption | with_reducible omega | exact True.intro | (simp only [List.length_map, List.length_append, List.length_cons, List.length_nil, List.length_reverse, rng_len, List.length_replicate, List.length_dropLast]; with_reducible omega) | (simp only [List.length_map, List.length_append, List.length_cons, List.length_nil, List.length_reverse, rng_len, List.length_replicate, List.length_dropLast] at *; with_reducible omega) | omega | assumption | trivial) (by first | with_reducible assumption | with_reducible omega | exact True.intro | (simp only [List.length_map, List.length_append, List.length_cons, List.length_nil, List.length_reverse, rng_len, List.length_replicate, List.length_dropLast]; with_reducible omega) | (simp only [List.length_map, List.length_append, List.length_cons, List.length_nil, List.length_reverse, rng_len, List.length_replicate, List.length_dropLast] at *; with_reducible omega) | omega | assumption | trivial) (by first | with_reducible assumption | with_reducible omega | exact True.intro | (simp only [List.length_map, List.length_append, List.length_cons, List.length_nil, List.length_reverse, rng_len, List.length_replicate, List.length_dropLast]; with_reducible omega) | (simp only [List.length_map, List.length_append, List.length_cons, List.length_nil, List.length_reverse, rng_len, List.length_replicate, List.length_dropLast] at *; with_reducible omega) | omega | assumption | trivial))))) ?_ ?_
        · intro hc0
          refine s_rets (e_bool false) ?_
          rw [hφ1]
          have eq1 : (st_law_1 script) s1 y1 = .inl (false : Bool) := by (unfold st_law_1; rewrite [cp hc0]; rfl)
          exact rt_l eq1 ⟨(), (sd (v_law_3 script y1 : Int), sd (y1 : Int)), rfl⟩
        · intro hc0
          refine s_next ?_
          refine s_if (c := v_law_5 script) (t_val (e_ne (e_callD (ws := [W.d (emb (v_law_2 script : Str))]) (a_cons (e_var 5 (a := (v_law_2 script : Str))) a_nil) (w_read_grammar (v_law_2 script) (by first | with_reducible assumption | with_reducible omega | exact True.intro | (simp only [List.length_map, List.length_append, List.length_cons, List.length_nil, List.length_reverse, rng_len, List.length_replicate, List.length_dropLast]; with_reducible omega) | (simp only [List.length_map, List.length_append, List.length_cons, List.length_nil, List.length_reverse, rng_len, List.length_replicate, List.length_dropLast] at *; with_reducible omega) | omega | assumption | trivial) (by first | with_reducible assumption | with_reducible omega | exact True.intro | (simp only [List.length_map, List.length_append, List.length_cons, List.length_nil, List.length_reverse, rng_len, List.length_replicate, List.length_dropLast]; with_reducible omega) | (simp only [List.length_map, List.length_append, List.length_cons, List.length_nil, List.length_reverse, rng_len, List.length_replicate, List.length_dropLast] at *; with_reducible omega) | omega | assumption | trivial) (by first | with_reducible assumption | with_reducible omega | exact True.intro | (simp only [List.length_map, List.length_append, List.length_cons, List.length_nil, List.length_reverse, rng_len, List.length_replicate, List.length_dropLast]; with_reducible omega) | (simp only [List.length_map, List.length_append, List.length_cons, List.length_nil, List.length_reverse, rng_len, List.length_replicate, List.length_dropLast] at *; with_reducible omega) | omega | assumption | trivial))) (e_pair (e_var 2 (a := ((1 + ((lastI (v_law_0 script)) % 4)) : Int))) (e_tuple ((r_cell (xs := ((r_law_0 script).2 : (List (Str × Str)))) 3)).s)) (by first | exact QT.all _ | assumption) (by first | exact QT.all _ | assumption))) ?_ ?_
          · intro hc1
            refine s_ret (e_bool false) ?_
            rw [hφ1]
            have eq1 : (st_law_1 script) s1 y1 = .inl (false : Bool) := by (unfold st_law_1; rewrite [cn hc0]; rewrite [cp hc1]; rfl)
            exact rt_l eq1 ⟨(), (sd (v_law_3 script y1 : Int), sd (y1 : Int)), rfl⟩
          · intro hc1
            rw [hφ1]
            have eq1 : (st_law_1 script) s1 y1 = .inr () := by (unfold st_law_1; rewrite [cn hc0]; rewrite [cn hc1]; rfl)
            exact rt_r eq1 ⟨by first | with_reducible assumption | with_reducible omega | exact True.intro | (simp only [List.length_map, List.length_append, List.length_cons, List.length_nil, List.length_reverse, rng_len, List.length_replicate, List.length_dropLast]; with_reducible omega) | (simp only [List.length_map, List.length_append, List.length_cons, List.length_nil, List.length_reverse, rng_len, List.length_replicate, List.length_dropLast] at *; with_reducible omega) | omega | assumption | trivial, (sd (v_law_3 script y1 : Int), sd (y1 : Int)), .inl rfl⟩⟩)
  cases hq1 : (q_law_1 script) with
  | inl rr1 =>
    have hq' : forE (st_law_1 script) (((rng 12) ++ ((cutD script none (some 40)).map fun (x0 : Int) => (x0 % ((10 : Int) ^ (18 : Int).toNat)))) : List Int) () = _ := hq1
    obtain ⟨sr1, tr1, e1⟩ := rt_li L1 hq'
    replace e1 : _ = Out.ok (Fl.rt (W.d (emb rr1))) [some (.s (script.map PyData.int)), sl ((r_law_0 script).1 : (List Int)), sd ((1 + ((lastI (v_law_0 script)) % 4)) : Int), sl ((r_law_0 script).2 : (List (Str × Str))), u0.2, sd (v_law_2 script : Str), tr1.2, u0.1, tr1.1] := e1
    refine s_rtseq e1 ?_
    rw [hφ]
    show FnEnd _ _ _ = _
    unfold p_law
    rewrite [sul hq1]
    rfl
  | inr sr1 =>
    have hq' : forE (st_law_1 script) (((rng 12) ++ ((cutD script none (some 40)).map fun (x0 : Int) => (x0 % ((10 : Int) ^ (18 : Int).toNat)))) : List Int) () = _ := hq1
    obtain ⟨i1, tr1, e1⟩ := rt_ri L1 hq'
    replace e1 : _ = Out.ok Fl.nx [some (.s (script.map PyData.int)), sl ((r_law_0 script).1 : (List Int)), sd ((1 + ((lastI (v_law_0 script)) % 4)) : Int), sl ((r_law_0 script).2 : (List (Str × Str))), u0.2, sd (v_law_2 script : Str), tr1.2, u0.1, tr1.1] := e1
    refine s_seq e1 ?_
    refine s_ret (e_bool true) ?_
    rw [hφ]
    show FnEnd _ _ _ = _
    unfold p_law
    rewrite [sur hq1]
    rfl
end Gen
namespace Gen
open PySem TD
open Emb (emb)
theorem main (ns : List Int) (hn : ns.length ≤ 63) : ∃ bs', f_law [.s (ns.map PyData.int)] = .ok (.d (.bool true)) bs' := ⟨_, by first | (rw [w_law ns hn, law_true ns]; rfl) | (rw [w_law ns hn, law_true0 ns hn]; rfl)⟩
end Gen
open PySem PySem.W PyProof.Rows
set_option maxHeartbeats 0 in
theorem PySem.Challenge.cw_tallysets_k52_grammars_refused_holds : PySem.Challenge.rw_tallysets_k52_grammars_refused.Holds := by
  w_on; o_law; k_head; (case hw => w_witness2)
  k_fill
  refine L2.walk_of (l := PySem.Challenge.rw_tallysets_k52_grammars_refused) (n := 63) (k := 5) (x := "_law_script") (CX := fun w => L2.CX PySem.Challenge.rw_tallysets_k52_grammars_refused.prog w) (sp := fun w => TD.spLaw _ Gen.f_law) rfl (by decide) rfl ⟨rfl, by decide, by decide⟩ (fun w h Y => PySem.W.kIn_of Y) ?F (fun _ _ a ns hl _ hS => TD.law_start hS (Gen.main ns hl)) (fun _ _ _ _ _ h => TD.cx_end h)
  case F =>
    intro w mg fa h KX G hmg
    refine' Gen.fin KX G hmg ?a2 ?l2 ?c2 ?k2 ?Z (Gen.er_mk KX G ?n_TallyError ?n_NoTally ?n_NoFan ?n_NoText ?n_NoTree ?n_TooGreat ?x_NoText ?k_NoText ?b_NoText ?t_NoText ?Ehg ?Ehk ?Ehs ?Ehd ?Eha ?Ehn ?Eht ?Ehm ?Eq1 ?Eq2 ?Eq3 ?Eq4 ?Eq5 ?Eu_NoTally ?Eu_NoFan ?Eu_NoTree ?Eu_TooGreat) ?C ?D_signs_in ?D_read_rule ?D_read_grammar ?D__law_deck ?D__law_right ?D__law_refused ?D__law_text ?D__law_bad_right ?D__law_bad_rule ?D__law_faulty
    (case n_TallyError => first | k_is | k_exc | rfl)
    (case n_NoTally => first | k_is | k_exc | rfl)
    (case n_NoFan => first | k_is | k_exc | rfl)
    (case n_NoText => first | k_is | k_exc | rfl)
    (case n_NoTree => first | k_is | k_exc | rfl)
    (case n_TooGreat => first | k_is | k_exc | rfl)
    (case x_NoText => first | k_is | k_exc | rfl)
    (case k_NoText => first | k_is | k_exc | rfl)
    (case b_NoText => first | k_is | k_exc | rfl)
    (case t_NoText => first | k_is | k_exc | rfl)
    (case Ehg => first | k_is | k_exc | rfl)
    (case Ehk => first | k_is | k_exc | rfl)
    (case Ehs => first | k_is | k_exc | rfl)
    (case Ehd => first | k_is | k_exc | rfl)
    (case Eha => first | k_is | k_exc | rfl)
    (case Ehn => first | k_is | k_exc | rfl)
    (case Eht => first | k_is | k_exc | rfl)
    (case Ehm => first | k_is | k_exc | rfl)
    (case Eq1 => first | k_is | k_exc | rfl)
    (case Eq2 => first | k_is | k_exc | rfl)
    (case Eq3 => first | k_is | k_exc | rfl)
    (case Eq4 => first | k_is | k_exc | rfl)
    (case Eq5 => first | k_is | k_exc | rfl)
    (case Eu_NoTally => first | k_is | k_exc | rfl)
    (case Eu_NoFan => first | k_is | k_exc | rfl)
    (case Eu_NoTree => first | k_is | k_exc | rfl)
    (case Eu_TooGreat => first | k_is | k_exc | rfl)
    (case a2 => k_is); (case l2 => k_is); (case c2 => k_is); (case k2 => k_is)
    (case Z => exact ⟨PySem.W.mg_none_of KX G (by k_is), PySem.W.mg_none_of KX G (by k_is), PySem.W.mg_none_of KX G (by k_is), PySem.W.mg_none_of KX G (by k_is), PySem.W.mg_none_of KX G (by k_is), PySem.W.mg_none_of KX G (by k_is), PySem.W.mg_none_of KX G (by k_is), PySem.W.mg_none_of KX G (by k_is), PySem.W.mg_none_of KX G (by k_is)⟩)
    (case C => exact ⟨⟨_, PySem.W.mg_of KX G (by k_is)⟩, ⟨_, PySem.W.mg_of KX G (by k_is)⟩, ⟨_, PySem.W.mg_of KX G (by k_is)⟩, ⟨_, PySem.W.mg_of KX G (by k_is)⟩⟩)
    (case D_signs_in => refine' TD.df_mk KX G ?a ?l ?c ?k ?b; (case a => k_is); (case l => k_is); (case c => k_is); (case k => k_is); (case b => exact fun _ _ _ _ _ _ us hl => match us, hl with | [_], _ => rfl))
    (case D_read_rule => refine' TD.df_mk KX G ?a ?l ?c ?k ?b; (case a => k_is); (case l => k_is); (case c => k_is); (case k => k_is); (case b => exact fun _ _ _ _ _ _ us hl => match us, hl with | [_, _], _ => rfl))
    (case D_read_grammar => refine' TD.df_mk KX G ?a ?l ?c ?k ?b; (case a => k_is); (case l => k_is); (case c => k_is); (case k => k_is); (case b => exact fun _ _ _ _ _ _ us hl => match us, hl with | [_], _ => rfl))
    (case D__law_deck => refine' TD.df_mk KX G ?a ?l ?c ?k ?b; (case a => k_is); (case l => k_is); (case c => k_is); (case k => k_is); (case b => exact fun _ _ _ _ _ _ us hl => match us, hl with | [_, _], _ => rfl))
    (case D__law_right => refine' TD.df_mk KX G ?a ?l ?c ?k ?b; (case a => k_is); (case l => k_is); (case c => k_is); (case k => k_is); (case b => exact fun _ _ _ _ _ _ us hl => match us, hl with | [_, _, _, _], _ => rfl))
    (case D__law_refused => refine' TD.df_mk KX G ?a ?l ?c ?k ?b; (case a => k_is); (case l => k_is); (case c => k_is); (case k => k_is); (case b => exact fun _ _ _ _ _ _ us hl => match us, hl with | [_], _ => rfl))
    (case D__law_text => refine' TD.df_mk KX G ?a ?l ?c ?k ?b; (case a => k_is); (case l => k_is); (case c => k_is); (case k => k_is); (case b => exact fun _ _ _ _ _ _ us hl => match us, hl with | [_, _], _ => rfl))
    (case D__law_bad_right => refine' TD.df_mk KX G ?a ?l ?c ?k ?b; (case a => k_is); (case l => k_is); (case c => k_is); (case k => k_is); (case b => exact fun _ _ _ _ _ _ us hl => match us, hl with | [_, _, _], _ => rfl))
    (case D__law_bad_rule => refine' TD.df_mk KX G ?a ?l ?c ?k ?b; (case a => k_is); (case l => k_is); (case c => k_is); (case k => k_is); (case b => exact fun _ _ _ _ _ _ us hl => match us, hl with | [_, _, _], _ => rfl))
    (case D__law_faulty => refine' TD.df_mk KX G ?a ?l ?c ?k ?b; (case a => k_is); (case l => k_is); (case c => k_is); (case k => k_is); (case b => exact fun _ _ _ _ _ _ us hl => match us, hl with | [_, _, _, _], _ => rfl))
